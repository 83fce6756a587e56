import PyProof.Rows.All
import Wide.All
import OpenK.AllK
import Wide.FinOn
import KE.KStateDown
import Lean
import HandS.ForMost
import HandS.ForExc
import HandS.Flow
import HandS.Style
import HandS.Defaults
import HandS.More
import HandS.Lambda
import HandS.HeadHook4
import HandS.Zip
import HandS.CallSlots
import HandS.Small
import HandS.TryMany
import HandS.IsInst
import HandS.TupAny
import HandS.TupMul
import HandS.TupLe
import HandS.SortRule
import HandS.SortInts
import HandS.Deep
import PyProof.MaxThree
import HandS.TupLen
import HandS.SetFor
import HandS.SetKeys
import HandS.Head0
import HandS.Head1
import HandS.Head2
import HandS.HeadEnd
import HandS.HeadHook1
import HandS.HeadHook2
import HandS.NoneIn
import KE.GoesMore
import KE.GoesEnum
import HandS.TupSets
import HandS.DictTup
import KE.KDictSum
import KE.KDictWalk
import KE.SortData
import KE.DataMinMax
import KE.DataCmp
import HandS.Iter
import HandS.Conv
import HandS.CallLocal
import HandS.ListItems
import KE.KDictList
import KE.KDictCopyH
import KE.KDictPairs
import KE.SortKeyHeap
import KE.KLam
import PyProof.Rows.TupMore
import HandS.HeadWalk
import HandS.FStr
import HandS.Text
import HandS.RaiseMore
import PyProof.StrLawsTight
import PyProof.StrLawsChain
import KE.GoesRaise
import PySem.Challenge.RW_neartold_k29_whole_lines_of_boards
set_option Elab.async false
set_option linter.all false
set_option maxRecDepth 100000
set_option maxHeartbeats 4000000
/-! The abstract layer: values without a heap (D), a store of the objects that change (Sto), programs as wishes over them. -/
namespace Ab
open PySem PySem.Spec PyProof.Rows L2

inductive D where
  | non | bl (b : Bool) | int (i : Int) | str (x : Str) | tup (xs : List D) | ref (a : Addr) | scr (ns : List Int) | ty (n : String)

def H0 : Hp := fun _ => none
def LstP (K : PySem.W.Frag) (H : Hp) (a : Addr) (vs : List V) : Prop := (∃ o, H a = some (.frz o (.lst vs))) ∨ SqL K H0 a vs
/-- a tuple: one that the code made, or the module's constant START -/
def NoSt (K : PySem.W.Frag) : Prop := PySem.W.nsIn K mainGlobals "START" = some none
def TupP (K : PySem.W.Frag) (H : Hp) (a : Addr) (vs : List V) : Prop := H a = some (.tup vs) ∨ (PySem.W.nsIn K mainGlobals "START" = some (some (.ref a)) ∧ SqT K H0 a vs) ∨ (¬ NoSt K ∧ ∃ o, H a = some (.frz o (.tup vs)))
/-- what never changes: tuples, frozen lists and tuples, what bears a condition of its own -/
def Lasts : HO → Prop
  | .tup _ => True
  | .frz _ (.lst _) => True
  | .frz _ (.tup _) => True
  | .ext _ => True
  | _ => False
def Le (H H' : Hp) : Prop := ∀ a u, Lasts u → H a = some u → H' a = some u
theorem Le.refl (H : Hp) : Le H H := fun _ _ _ h => h
theorem Le.trans {H H1 H2 : Hp} (a : Le H H1) (b : Le H1 H2) : Le H H2 := fun x u m h => b x u m (a x u m h)
theorem Le.tup {H H' : Hp} (l : Le H H') {a : Addr} {xs : List V} (h : H a = some (.tup xs)) : H' a = some (.tup xs) := l a _ True.intro h
theorem Le.frl {H H' : Hp} (l : Le H H') {a : Addr} {o : Obj} {xs : List V} (h : H a = some (.frz o (.lst xs))) : H' a = some (.frz o (.lst xs)) := l a _ True.intro h
theorem Le.frt {H H' : Hp} (l : Le H H') {a : Addr} {o : Obj} {xs : List V} (h : H a = some (.frz o (.tup xs))) : H' a = some (.frz o (.tup xs)) := l a _ True.intro h
theorem Le.new {H : Hp} {p : Addr} {o : HO} (h : H p = none) : Le H (upd H p o) :=
  fun a u _ e => by rw [upd_ne (ne_of_none e h)]; exact e
def Mutb (u : HO) : Prop := ¬ Lasts u
theorem Le.put {H : Hp} {p : Addr} {u o : HO} (h : H p = some u) (m : Mutb u) : Le H (upd H p o) :=
  fun a v k e => by
    rw [upd_ne (ne_of e h (by rintro rfl; exact m k))]
    exact e
theorem sqL_mono {K : PySem.W.Frag} {H : Hp} {a : Addr} {vs : List V} (h : SqL K H0 a vs) : SqL K H a vs := by
  rcases h with (h | ⟨o, h⟩) | h
  · cases h
  · cases h
  · exact .inr h
theorem sqT_mono {K : PySem.W.Frag} {H : Hp} {a : Addr} {vs : List V} (h : SqT K H0 a vs) : SqT K H a vs := by
  rcases h with (h | ⟨o, h⟩) | h
  · cases h
  · cases h
  · exact .inr h
theorem LstP.sq {K : PySem.W.Frag} {H : Hp} {a : Addr} {vs : List V} (h : LstP K H a vs) : SqL K H a vs := by
  rcases h with h | h
  · exact .inl (.inr h)
  · exact sqL_mono h
theorem TupP.sq {K : PySem.W.Frag} {H : Hp} {a : Addr} {vs : List V} (h : TupP K H a vs) : SqT K H a vs := by
  rcases h with h | ⟨_, h⟩ | ⟨_, o, h⟩
  · exact .inl (.inl h)
  · exact sqT_mono h
  · exact .inl (.inr ⟨o, h⟩)
theorem TupP.own {K : PySem.W.Frag} {H : Hp} {a : Addr} {vs : List V} (n : NoSt K) (h : TupP K H a vs) : H a = some (.tup vs) := by
  rcases h with h | ⟨h, _⟩ | ⟨h, _⟩
  · exact h
  · unfold NoSt at n
    rw [n] at h
    cases h
  · exact absurd n h
theorem LstP.le {K : PySem.W.Frag} {H H' : Hp} {a : Addr} {vs : List V} (l : Le H H') (h : LstP K H a vs) : LstP K H' a vs := by
  rcases h with ⟨o, h⟩ | h
  · exact .inl ⟨o, l.frl h⟩
  · exact .inr h
theorem TupP.le {K : PySem.W.Frag} {H H' : Hp} {a : Addr} {vs : List V} (l : Le H H') (h : TupP K H a vs) : TupP K H' a vs := by
  rcases h with h | h | ⟨h, o, e⟩
  · exact .inl (l.tup h)
  · exact .inr (.inl h)
  · exact .inr (.inr ⟨h, o, l.frt e⟩)

/-! ### what a value stands for -/
mutual
def RepV (K : PySem.W.Frag) (H : Hp) : D → V → Prop
  | .non, v => v = .non
  | .bl b, v => v = .bl b
  | .int i, v => v = .int i
  | .str x, v => v = .str x
  | .ref a, v => v = .ref a
  | .ty n, v => v = .ty n
  | .scr ns, v => ∃ a, v = .ref a ∧ LstP K H a (ns.map V.int)
  | .tup ds, v => ∃ a vs, v = .ref a ∧ TupP K H a vs ∧ RepL K H ds vs
def RepL (K : PySem.W.Frag) (H : Hp) : List D → List V → Prop
  | [], vs => vs = []
  | d :: ds, vs => ∃ v r, vs = v :: r ∧ RepV K H d v ∧ RepL K H ds r
end
section
variable {K : PySem.W.Frag} {H H' : Hp}
mutual
theorem RepV.le (l : Le H H') : ∀ {d : D} {v : V}, RepV K H d v → RepV K H' d v
  | .non, _, h => by unfold RepV at h ⊢; exact h
  | .bl _, _, h => by unfold RepV at h ⊢; exact h
  | .int _, _, h => by unfold RepV at h ⊢; exact h
  | .str _, _, h => by unfold RepV at h ⊢; exact h
  | .ref _, _, h => by unfold RepV at h ⊢; exact h
  | .ty _, _, h => by unfold RepV at h ⊢; exact h
  | .scr _, _, h => by
    unfold RepV at h ⊢
    obtain ⟨a, e, p⟩ := h
    exact ⟨a, e, p.le l⟩
  | .tup ds, _, h => by
    unfold RepV at h ⊢
    obtain ⟨a, vs, e, p, r⟩ := h
    exact ⟨a, vs, e, p.le l, RepL.le l r⟩
theorem RepL.le (l : Le H H') : ∀ {ds : List D} {vs : List V}, RepL K H ds vs → RepL K H' ds vs
  | [], _, h => by unfold RepL at h ⊢; exact h
  | d :: ds, _, h => by
    unfold RepL at h ⊢
    obtain ⟨v, r, e, p, q⟩ := h
    exact ⟨v, r, e, RepV.le l p, RepL.le l q⟩
end
theorem repL_nil : RepL K H [] [] := by unfold RepL; rfl
theorem repL_cons {d : D} {ds : List D} {v : V} {vs : List V} (h : RepV K H d v) (r : RepL K H ds vs) : RepL K H (d :: ds) (v :: vs) := by
  unfold RepL
  exact ⟨v, vs, rfl, h, r⟩
theorem RepL.inv {d : D} {ds : List D} {vs : List V} (h : RepL K H (d :: ds) vs) : ∃ v r, vs = v :: r ∧ RepV K H d v ∧ RepL K H ds r := by
  unfold RepL at h
  exact h
theorem RepL.nil_inv {vs : List V} (h : RepL K H [] vs) : vs = [] := by
  unfold RepL at h
  exact h
theorem RepL.length : ∀ {ds : List D} {vs : List V}, RepL K H ds vs → vs.length = ds.length
  | [], _, h => by rw [h.nil_inv]; rfl
  | d :: ds, _, h => by
    obtain ⟨v, r, rfl, _, q⟩ := h.inv
    rw [List.length_cons, List.length_cons, RepL.length q]
theorem RepL.append : ∀ {ds es : List D} {vs us : List V}, RepL K H ds vs → RepL K H es us → RepL K H (ds ++ es) (vs ++ us)
  | [], _, _, _, h, q => by rw [h.nil_inv]; exact q
  | d :: ds, _, _, _, h, q => by
    obtain ⟨v, r, rfl, p, h'⟩ := h.inv
    exact repL_cons p (h'.append q)
theorem RepL.get : ∀ {ds : List D} {vs : List V} {i : Nat} {d : D}, RepL K H ds vs → ds[i]? = some d → ∃ v, vs[i]? = some v ∧ RepV K H d v
  | [], _, _, _, _, e => by simp at e
  | x :: ds, _, 0, d, h, e => by
    obtain ⟨v, r, rfl, p, _⟩ := h.inv
    simp at e
    subst e
    exact ⟨v, rfl, p⟩
  | x :: ds, _, i + 1, d, h, e => by
    obtain ⟨v, r, rfl, _, h'⟩ := h.inv
    obtain ⟨u, e2, p⟩ := RepL.get (i := i) (d := d) h' (by simpa using e)
    exact ⟨u, by simpa using e2, p⟩
theorem RepL.get_inv : ∀ {ds : List D} {vs : List V} {i : Nat} {v : V}, RepL K H ds vs → vs[i]? = some v → ∃ d, ds[i]? = some d ∧ RepV K H d v
  | [], _, _, _, h, e => by rw [h.nil_inv] at e; simp at e
  | x :: ds, _, 0, d, h, e => by
    obtain ⟨v, r, rfl, p, _⟩ := h.inv
    simp at e
    subst e
    exact ⟨x, rfl, p⟩
  | x :: ds, _, i + 1, d, h, e => by
    obtain ⟨v, r, rfl, _, h'⟩ := h.inv
    obtain ⟨u, e2, p⟩ := RepL.get_inv (i := i) (v := d) h' (by simpa using e)
    exact ⟨u, by simpa using e2, p⟩
theorem RepL.drop : ∀ {ds : List D} {vs : List V} (n : Nat), RepL K H ds vs → RepL K H (ds.drop n) (vs.drop n)
  | _, _, 0, h => h
  | [], _, n + 1, h => by rw [h.nil_inv]; exact repL_nil
  | d :: ds, _, n + 1, h => by
    obtain ⟨v, r, rfl, _, h'⟩ := h.inv
    exact RepL.drop n h'
theorem RepL.take : ∀ {ds : List D} {vs : List V} (n : Nat), RepL K H ds vs → RepL K H (ds.take n) (vs.take n)
  | _, _, 0, h => repL_nil
  | [], _, n + 1, h => by rw [h.nil_inv]; exact repL_nil
  | d :: ds, _, n + 1, h => by
    obtain ⟨v, r, rfl, p, h'⟩ := h.inv
    exact repL_cons p (RepL.take n h')
theorem RepL.set {d : D} {v : V} (p : RepV K H d v) : ∀ {ds : List D} {vs : List V} (n : Nat), RepL K H ds vs → RepL K H (ds.set n d) (vs.set n v)
  | [], _, _, h => by rw [h.nil_inv]; exact repL_nil
  | x :: ds, _, 0, h => by
    obtain ⟨y, r, rfl, _, h'⟩ := h.inv
    exact repL_cons p h'
  | x :: ds, _, n + 1, h => by
    obtain ⟨y, r, rfl, q, h'⟩ := h.inv
    exact repL_cons q (RepL.set p n h')
theorem RepL.erase : ∀ {ds : List D} {vs : List V} (n : Nat), RepL K H ds vs → RepL K H (ds.eraseIdx n) (vs.eraseIdx n)
  | [], _, _, h => by rw [h.nil_inv]; exact repL_nil
  | x :: ds, _, 0, h => by
    obtain ⟨y, r, rfl, _, h'⟩ := h.inv
    exact h'
  | x :: ds, _, n + 1, h => by
    obtain ⟨y, r, rfl, q, h'⟩ := h.inv
    exact repL_cons q (RepL.erase n h')
theorem RepL.ints : ∀ {ns : List Int} {vs : List V}, RepL K H (ns.map D.int) vs → vs = ns.map V.int
  | [], _, h => h.nil_inv
  | n :: ns, _, h => by
    obtain ⟨v, r, rfl, p, h'⟩ := h.inv
    unfold RepV at p
    rw [p, RepL.ints h']
    rfl
theorem repL_ints : ∀ (ns : List Int), RepL K H (ns.map D.int) (ns.map V.int)
  | [] => repL_nil
  | n :: ns => repL_cons (by unfold RepV; rfl) (repL_ints ns)
theorem RepL.bls : ∀ {bs : List Bool} {vs : List V}, RepL K H (bs.map D.bl) vs → vs = bs.map V.bl
  | [], _, h => h.nil_inv
  | n :: ns, _, h => by
    obtain ⟨v, r, rfl, p, h'⟩ := h.inv
    unfold RepV at p
    rw [p, RepL.bls h']
    rfl
end

/-! ### the store -/
/-- the def of the text that holds a lambda (k08, k32), its table of code objects, the lambda's name -/
def lamDefn (K : PySem.W.Frag) : Str × Option Str := match PySem.W.nsIn K mainGlobals "_law_by_time" with
  | some (some _) => ("_law_by_time", none)
  | _ => ("law", none)
@[irreducible] def lamP (K : PySem.W.Frag) : Addr := (He.cT K (lamDefn K)).2
@[irreducible] def lamQ (K : PySem.W.Frag) : Str := ((lamDefn K).1 ++ (".<locals>." : Str)) ++ ("<lambda>" : Str)
inductive AO where
  | lst (xs : List D)
  | dK (kvs : List (Key × D))
  | dT (kvs : List (List Key × D))
  | ins (C : Addr) (fs : List (Str × D))
  | lok (o : Obj) (us : List (Key × V)) (kvs : List (Key × D))
  | lokT (o : Obj) (us : List (List Key × V)) (kvs : List (List Key × D))
  | ctup (xs : List D)
  | tab
abbrev Sto := Addr → Option AO
def put (S : Sto) (a : Addr) (o : AO) : Sto := fun b => if b = a then some o else S b
theorem put_same {S : Sto} {a : Addr} {o : AO} : put S a o a = some o := by unfold put; rw [if_pos rfl]
theorem put_ne {S : Sto} {a b : Addr} {o : AO} (h : b ≠ a) : put S a o b = S b := by unfold put; rw [if_neg h]
theorem put_put {S : Sto} {a : Addr} {o u : AO} : put (put S a o) a u = put S a u := by
  funext b; unfold put; split <;> rfl

def RepK {κ : Type} (K : PySem.W.Frag) (H : Hp) : List (κ × D) → List (κ × V) → Prop
  | [], us => us = []
  | (k, d) :: r, us => ∃ v q, us = (k, v) :: q ∧ RepV K H d v ∧ RepK K H r q
theorem RepK.le {κ : Type} {K : PySem.W.Frag} {H H' : Hp} (l : Le H H') : ∀ {kvs : List (κ × D)} {us : List (κ × V)}, RepK K H kvs us → RepK K H' kvs us
  | [], _, h => h
  | (k, d) :: r, _, ⟨v, q, e, p, t⟩ => ⟨v, q, e, p.le l, RepK.le l t⟩
theorem RepK.length {κ : Type} {K : PySem.W.Frag} {H : Hp} : ∀ {kvs : List (κ × D)} {us : List (κ × V)}, RepK K H kvs us → us.length = kvs.length
  | [], _, h => by rw [show _ = _ from h]; rfl
  | (k, d) :: r, _, ⟨v, q, e, p, t⟩ => by rw [e, List.length_cons, List.length_cons, RepK.length t]
theorem RepK.keys {κ : Type} {K : PySem.W.Frag} {H : Hp} : ∀ {kvs : List (κ × D)} {us : List (κ × V)}, RepK K H kvs us → us.map (·.1) = kvs.map (·.1)
  | [], _, h => by rw [show _ = _ from h]; rfl
  | (k, d) :: r, _, ⟨v, q, e, p, t⟩ => by rw [e, List.map_cons, List.map_cons, RepK.keys t]

def OkO (K : PySem.W.Frag) (H : Hp) (a : Addr) : AO → Prop
  | .lst ds => ∃ vs, H a = some (.lst vs) ∧ RepL K H ds vs
  | .dK kvs => ∃ us, H a = some (.dK us) ∧ RepK K H kvs us
  | .dT kvs => ∃ us, H a = some (.dT us) ∧ RepK K H kvs us
  | .ins C fs => ∃ dx us, H a = some (.ins C dx us) ∧ RepK K H fs us
  | .lok o us kvs => H a = some (.frz o (.dK us)) ∧ RepK K H kvs us
  | .lokT o us kvs => H a = some (.frz o (.dT us)) ∧ RepK K H kvs us
  | .ctup xs => ∃ o vs, H a = some (.frz o (.tup vs)) ∧ o.dict = none ∧ RepL K H xs vs
  | .tab => a = lamP K ∧ LamX.TabS H a (lamQ K)
def Rep (K : PySem.W.Frag) (H : Hp) (S : Sto) : Prop := ∀ a o, S a = some o → OkO K H a o
section
variable {K : PySem.W.Frag} {H H' : Hp} {S : Sto} {a p : Addr} {o : AO} {u : HO}
theorem OkO.le (l : Le H H') (e : H' a = H a) (h : OkO K H a o) : OkO K H' a o := by
  cases o with
  | lst ds => obtain ⟨vs, h1, h2⟩ := h; exact ⟨vs, e.trans h1, h2.le l⟩
  | dK kvs => obtain ⟨vs, h1, h2⟩ := h; exact ⟨vs, e.trans h1, h2.le l⟩
  | dT kvs => obtain ⟨vs, h1, h2⟩ := h; exact ⟨vs, e.trans h1, h2.le l⟩
  | ins C fs => obtain ⟨dx, vs, h1, h2⟩ := h; exact ⟨dx, vs, e.trans h1, h2.le l⟩
  | lok ob us kvs => exact ⟨e.trans h.1, h.2.le l⟩
  | lokT ob us kvs => exact ⟨e.trans h.1, h.2.le l⟩
  | ctup xs => obtain ⟨o, vs, h1, h2, h3⟩ := h; exact ⟨o, vs, e.trans h1, h2, h3.le l⟩
  | tab =>
    obtain ⟨ha, ps, h1, h2, h3⟩ := h
    refine ⟨ha, ps, e.trans h1, h2, fun pos cv hc => ?_⟩
    obtain ⟨c, e1, e2⟩ := h3 pos cv hc
    exact ⟨c, e1, l c _ (show Lasts (LamX.CodeO c (lamQ K)) from True.intro) e2⟩
def Chg : AO → Prop
  | .ctup _ => False
  | _ => True
theorem OkO.some (h : OkO K H a o) : ∃ u, H a = some u ∧ (Chg o → Mutb u) := by
  cases o with
  | lst ds => obtain ⟨vs, h1, h2⟩ := h; exact ⟨_, h1, fun _ z => z⟩
  | dK kvs => obtain ⟨vs, h1, h2⟩ := h; exact ⟨_, h1, fun _ z => z⟩
  | dT kvs => obtain ⟨vs, h1, h2⟩ := h; exact ⟨_, h1, fun _ z => z⟩
  | ins C fs => obtain ⟨dx, vs, h1, h2⟩ := h; exact ⟨_, h1, fun _ z => z⟩
  | lok ob us kvs => exact ⟨_, h.1, fun _ z => z⟩
  | lokT ob us kvs => exact ⟨_, h.1, fun _ z => z⟩
  | ctup xs => obtain ⟨o, vs, h1, _⟩ := h; exact ⟨_, h1, fun z => z.elim⟩
  | tab => obtain ⟨_, ps, h1, _⟩ := h; exact ⟨_, h1, fun _ z => z⟩
theorem Rep.free (r : Rep K H S) (h : H p = none) : S p = none := by
  cases e : S p with
  | none => rfl
  | some o =>
    obtain ⟨u, h1, _⟩ := (r p o e).some
    rw [h] at h1
    cases h1
/-- an object that the store does not know is laid -/
theorem Rep.new (r : Rep K H S) (h : H p = none) : Rep K (upd H p u) S := fun a o e => by
  have hn : a ≠ p := fun z => by
    subst z
    rw [r.free h] at e
    cases e
  exact (r a o e).le (Le.new h) (upd_ne hn)
/-- .. and is known from then on -/
theorem Rep.newP (r : Rep K H S) (h : H p = none) (ok : OkO K (upd H p u) p o) : Rep K (upd H p u) (put S p o) := fun a o' e => by
  by_cases hn : a = p
  · subst hn
    rw [put_same] at e
    cases e
    exact ok
  · rw [put_ne hn] at e
    exact (r a o' e).le (Le.new h) (upd_ne hn)
theorem Rep.put (r : Rep K H S) {o' : AO} (h : S p = some o') (ok : OkO K (upd H p u) p o) (m : Chg o' := by exact True.intro) : Rep K (upd H p u) (put S p o) := fun a o' e => by
  obtain ⟨w, hw, mw0⟩ := (r p _ h).some
  have mw := mw0 m
  by_cases hn : a = p
  · subst hn
    rw [put_same] at e
    cases e
    exact ok
  · rw [put_ne hn] at e
    exact (r a o' e).le (Le.put hw mw) (upd_ne hn)
theorem Rep.le_put (r : Rep K H S) {o' : AO} (h : S p = some o') (m : Chg o' := by exact True.intro) : Le H (upd H p u) := by
  obtain ⟨w, hw, mw0⟩ := (r p _ h).some
  have mw := mw0 m
  exact Le.put hw mw
end

/-! ### slots -/
abbrev DEnv := List (Option D)
def RepS (K : PySem.W.Frag) (H : Hp) (ρ : DEnv) (σ : L2.St) : Prop := ρ.length = σ.length ∧ ∀ (i : Nat) d, ρ[i]? = some (some d) → ∃ v, σ[i]? = some (some v) ∧ RepV K H d v
section
variable {K : PySem.W.Frag} {H H' : Hp} {ρ : DEnv} {σ : L2.St}
theorem RepS.le (l : Le H H') (h : RepS K H ρ σ) : RepS K H' ρ σ := ⟨h.1, fun i d e => by
  obtain ⟨v, e2, p⟩ := h.2 i d e
  exact ⟨v, e2, p.le l⟩⟩
theorem RepS.set {d : D} {v : V} (h : RepS K H ρ σ) (p : RepV K H d v) (i : Nat) : RepS K H (ρ.set i (some d)) (σ.set i (some v)) := by
  refine ⟨by simp [h.1], fun j e hj => ?_⟩
  by_cases hi : i = j
  · subst hi
    by_cases hl : i < ρ.length
    · rw [List.getElem?_set_self hl] at hj
      cases hj
      exact ⟨v, by rw [List.getElem?_set_self (h.1 ▸ hl)], p⟩
    · rw [List.getElem?_eq_none (by simpa using hl)] at hj
      cases hj
  · rw [List.getElem?_set_ne hi] at hj ⊢
    exact h.2 j e hj
theorem RepS.clear (h : RepS K H ρ σ) (i : Nat) : RepS K H (ρ.set i none) (σ.set i none) := by
  refine ⟨by simp [h.1], fun j e hj => ?_⟩
  by_cases hi : i = j
  · subst hi
    by_cases hl : i < ρ.length
    · rw [List.getElem?_set_self hl] at hj
      cases hj
    · rw [List.getElem?_eq_none (by simpa using hl)] at hj
      cases hj
  · rw [List.getElem?_set_ne hi] at hj ⊢
    exact h.2 j e hj
end
def wipeA (ρ : DEnv) : List Nat → DEnv
  | [] => ρ
  | v :: vs => (wipeA ρ vs).set v none
theorem RepS.wipe {K : PySem.W.Frag} {H : Hp} {ρ : DEnv} {σ : L2.St} (h : RepS K H ρ σ) : ∀ vs, RepS K H (wipeA ρ vs) (L2.wipe σ vs)
  | [] => h
  | v :: vs => (RepS.wipe h vs).clear v
end Ab
set_option Elab.async false
set_option linter.all false
set_option maxRecDepth 100000
set_option maxHeartbeats 4000000
namespace Ab
open PySem PySem.Spec PyProof.Rows L2

/-! ### wishes -/
abbrev AK := D → Sto → Prop
abbrev XA := Value → Sto → Prop
abbrev WE := DEnv → Sto → AK → XA → Prop
abbrev WT := DEnv → Sto → (Bool → Sto → Prop) → XA → Prop
abbrev WA := DEnv → Sto → (List D → Sto → Prop) → XA → Prop
structure AEnds where
  nx : DEnv → Sto → Prop
  rt : AK
  bk : DEnv → Sto → Prop
  ct : DEnv → Sto → Prop
  xe : Value → DEnv → Sto → Prop
abbrev WS := AEnds → DEnv → Sto → Prop
abbrev WG := D → DEnv → Sto → (DEnv → Sto → Prop) → Prop
abbrev WGs := List D → DEnv → Sto → (DEnv → Sto → Prop) → Prop

section
variable (K : PySem.W.Frag) (W : WX)
/-- what is wanted of a value, of an exception, is what the wish above says -/
def KOk (H : Hp) (QA : AK) (Q : VK) : Prop := ∀ d S v H', QA d S → Le H H' → Rep K H' S → RepV K H' d v → Q v H'
def XOk (H : Hp) (σ : L2.St) (EA : XA) : Prop := ∀ c S H', EA c S → Le H H' → Rep K H' S → W c none σ H'
def cE (w : WE) : TE := fun σ H Q => ∃ ρ S QA EA, RepS K H ρ σ ∧ Rep K H S ∧ w ρ S QA EA ∧ KOk K H QA Q ∧ XOk K W H σ EA
def cT (w : WT) : TT := fun σ H Q => ∃ ρ S QA EA, RepS K H ρ σ ∧ Rep K H S ∧ w ρ S QA EA ∧ (∀ b S' H', QA b S' → Le H H' → Rep K H' S' → Q b H') ∧ XOk K W H σ EA
def cA (w : WA) : TA := fun σ H Q => ∃ ρ S QA EA, RepS K H ρ σ ∧ Rep K H S ∧ w ρ S QA EA ∧ (∀ ds S' vs H', QA ds S' → Le H H' → Rep K H' S' → RepL K H' ds vs → Q vs H') ∧ XOk K W H σ EA
structure EOk (H : Hp) (A : AEnds) (E : Ends) : Prop where
  nx : ∀ ρ S σ H', A.nx ρ S → Le H H' → RepS K H' ρ σ → Rep K H' S → E.nx σ H'
  rt : ∀ d S v H', A.rt d S → Le H H' → Rep K H' S → RepV K H' d v → E.rt v H'
  bk : ∀ ρ S σ H', A.bk ρ S → Le H H' → RepS K H' ρ σ → Rep K H' S → E.bk σ H'
  ct : ∀ ρ S σ H', A.ct ρ S → Le H H' → RepS K H' ρ σ → Rep K H' S → E.ct σ H'
  xe : ∀ c ρ S σ H', A.xe c ρ S → Le H H' → RepS K H' ρ σ → Rep K H' S → W c none σ H'
def cS (w : WS) : TS := fun E σ H => ∃ ρ S A, RepS K H ρ σ ∧ Rep K H S ∧ w A ρ S ∧ EOk K W H A E
def Agr (js : List Nat) (σ σ' : L2.St) : Prop := σ'.length = σ.length ∧ ∀ j, j ∉ js → σ'[j]? = σ[j]?
def cG (js : List Nat) (g : WG) : TG := fun v σ H Q => ∃ d ρ S QA, RepV K H d v ∧ RepS K H ρ σ ∧ Rep K H S ∧ g d ρ S QA ∧ ∀ ρ' S' σ' H', QA ρ' S' → Le H H' → RepS K H' ρ' σ' → Rep K H' S' → Agr js σ σ' → Q σ' H'
def cGs (js : List Nat) (g : WGs) : TGs := fun vs σ H Q => ∃ ds ρ S QA, RepL K H ds vs ∧ RepS K H ρ σ ∧ Rep K H S ∧ g ds ρ S QA ∧ ∀ ρ' S' σ' H', QA ρ' S' → Le H H' → RepS K H' ρ' σ' → Rep K H' S' → Agr js σ σ' → Q σ' H'
end
theorem Agr.refl (js : List Nat) (σ : L2.St) : Agr js σ σ := ⟨rfl, fun _ _ => rfl⟩
theorem Agr.trans {i j : List Nat} {a b c : L2.St} (p : Agr i a b) (q : Agr j b c) : Agr (i ++ j) a c := ⟨q.1.trans p.1, fun k hk => by
  rw [List.mem_append, not_or] at hk
  exact (q.2 k hk.2).trans (p.2 k hk.1)⟩
theorem Agr.set (σ : L2.St) (i : Nat) (v : Option V) : Agr [i] σ (σ.set i v) := ⟨by simp, fun j hj => List.getElem?_set_ne (fun e => hj (by simp [e]))⟩
theorem KOk.le {K : PySem.W.Frag} {H H' : Hp} {QA : AK} {Q : VK} (l : Le H H') (h : KOk K H QA Q) : KOk K H' QA Q := fun d S v H2 q l2 => h d S v H2 q (l.trans l2)
theorem XOk.le {K : PySem.W.Frag} {W : WX} {H H' : Hp} {σ : L2.St} {EA : XA} (l : Le H H') (h : XOk K W H σ EA) : XOk K W H' σ EA := fun c S H2 q l2 => h c S H2 q (l.trans l2)
theorem EOk.le {K : PySem.W.Frag} {W : WX} {H H' : Hp} {A : AEnds} {E : Ends} (l : Le H H') (h : EOk K W H A E) : EOk K W H' A E :=
  ⟨fun ρ S σ H2 q l2 => h.nx ρ S σ H2 q (l.trans l2), fun d S v H2 q l2 => h.rt d S v H2 q (l.trans l2), fun ρ S σ H2 q l2 => h.bk ρ S σ H2 q (l.trans l2), fun ρ S σ H2 q l2 => h.ct ρ S σ H2 q (l.trans l2),
   fun c ρ S σ H2 q l2 => h.xe c ρ S σ H2 q (l.trans l2)⟩

/-! ### the judgements -/
def RE (X : Cx) (W : WX) (e : Expr) (w : WE) : Prop := PE X e (cE X.K W w)
def RT (X : Cx) (W : WX) (e : Expr) (w : WT) : Prop := PT X e (cT X.K W w)
def RW (X : Cx) (W : WX) (e : Expr) (w : WT) : Prop := PW X e (cT X.K W w)
def RA (X : Cx) (W : WX) (es : List Expr) (w : WA) : Prop := PA X es (cA X.K W w)
def RS (X : Cx) (W : WX) (st : Stmt) (w : WS) : Prop := PS X st (cS X.K W w)
def RSs (X : Cx) (W : WX) (st : List Stmt) (w : WS) : Prop := PSs X st (cS X.K W w)
def RG (X : Cx) (js : List Nat) (e : Expr) (g : WG) : Prop := PG X e (cG X.K js g)
def RGs (X : Cx) (js : List Nat) (es : List Expr) (g : WGs) : Prop := PGs X es (cGs X.K js g)
section
variable {X : Cx}
theorem pe_imp {e : Expr} {t t' : TE} (h : PE X e t) (i : ∀ σ H Q, t' σ H Q → t σ H Q) : PE X e t' := ⟨fun pins s σ H Q I q => h.run pins s σ H Q I (i σ H Q q)⟩
theorem pt_imp {e : Expr} {t t' : TT} (h : PT X e t) (i : ∀ σ H Q, t' σ H Q → t σ H Q) : PT X e t' := ⟨fun pins s σ H Q I q => h.run pins s σ H Q I (i σ H Q q)⟩
theorem pw_imp {e : Expr} {t t' : TT} (h : PW X e t) (i : ∀ σ H Q, t' σ H Q → t σ H Q) : PW X e t' := ⟨fun wh pins s σ H Q I q => h.run wh pins s σ H Q I (i σ H Q q)⟩
theorem pa_imp {e : List Expr} {t t' : TA} (h : PA X e t) (i : ∀ σ H Q, t' σ H Q → t σ H Q) : PA X e t' := ⟨fun pos pins s σ H Q I q => h.run pos pins s σ H Q I (i σ H Q q)⟩
theorem ps_imp {e : Stmt} {t t' : TS} (h : PS X e t) (i : ∀ E σ H, t' E σ H → t E σ H) : PS X e t' := ⟨fun pins s σ H E I q => h.run pins s σ H E I (i E σ H q)⟩
theorem pss_imp {e : List Stmt} {t t' : TS} (h : PSs X e t) (i : ∀ E σ H, t' E σ H → t E σ H) : PSs X e t' := ⟨fun pins s σ H E I q => h.run pins s σ H E I (i E σ H q)⟩
theorem pg_imp {e : Expr} {t t' : TG} (h : PG X e t) (i : ∀ v σ H Q, t' v σ H Q → t v σ H Q) : PG X e t' := ⟨fun pins s σ H v u Q I r q => h.run pins s σ H v u Q I r (i v σ H Q q)⟩
theorem pgs_imp {e : List Expr} {t t' : TGs} (h : PGs X e t) (i : ∀ v σ H Q, t' v σ H Q → t v σ H Q) : PGs X e t' := ⟨fun pins s σ H v u Q I r q => h.run pins s σ H v u Q I r (i v σ H Q q)⟩
end

/-! ### names, constants -/
def wV (i : Nat) : WE := fun ρ S Q _ => ∃ d, ρ[i]? = some (some d) ∧ Q d S
def wC (d : D) : WE := fun _ S Q _ => Q d S
section
variable {X : Cx} {W : WX}
theorem re_v (i : Nat) {x : Str} {pos : Pos} (hN : X.N[i]? = some x := by rfl) (hv : Vis X.env.scope x := by first | exact Or.inl rfl | exact Or.inr (Or.inl rfl) | exact Or.inr (Or.inr rfl)) (hd : (x == ("__debug__" : Str)) = false := by decide)
    (hcd : (x == ("__classdict__" : Str)) = false := by decide) : RE X W (.Name x pos) (wV i) := pe_imp (pe_var hN hv hd hcd) fun σ H Q ⟨ρ, S, QA, EA, rs, r, ⟨d, e, q⟩, k, _⟩ => by
  obtain ⟨v, ev, p⟩ := rs.2 i d e
  exact ⟨v, ev, k d S v H q (Le.refl H) r p⟩
theorem re_c {e : Expr} {v : V} {d : D} (h : PE X e (tC v)) (hr : ∀ H, RepV X.K H d v) : RE X W e (wC d) := pe_imp h fun σ H Q ⟨ρ, S, QA, EA, rs, r, q, k, _⟩ => k _ S _ H q (Le.refl H) r (hr H)
theorem re_int {i : Int} {j pos} : RE X W (.Constant (.int i) j pos) (wC (.int i)) := re_c pe_int fun H => by unfold RepV; rfl
theorem re_bl {i : Bool} {j pos} : RE X W (.Constant (.bool i) j pos) (wC (.bl i)) := re_c pe_bl fun H => by unfold RepV; rfl
theorem re_non {j pos} : RE X W (.Constant .none j pos) (wC .non) := re_c pe_non fun H => by unfold RepV; rfl
theorem re_str {x j pos} : RE X W (.Constant (.str x) j pos) (wC (.str x)) := re_c pe_str fun H => by unfold RepV; rfl
/-- a module's constant: an int, a text -/
theorem re_gint {x : Str} {i : Int} {pos : Pos} (hg : Gl X x) (hm : ∃ t, X.mg x = some (.int i t)) (hd : (x == ("__debug__" : Str)) = false := by decide) : RE X W (.Name x pos) (wC (.int i)) := by
  obtain ⟨t, hm⟩ := hm
  exact re_c (v := .int i) (pe_glob hg hm ⟨t, rfl⟩ hd) fun H => by unfold RepV; rfl
theorem re_gstr {x z : Str} {pos : Pos} (hg : Gl X x) (hm : ∃ t, X.mg x = some (.str z t)) (hd : (x == ("__debug__" : Str)) = false := by decide) : RE X W (.Name x pos) (wC (.str z)) := by
  obtain ⟨t, hm⟩ := hm
  exact re_c (v := .str z) (pe_glob hg hm ⟨t, rfl⟩ hd) fun H => by unfold RepV; rfl
/-- a module's constant: a tuple -/
theorem re_gtup {x : Str} {a : Addr} {ds : List D} {vs : List V} {pos : Pos} (hg : Gl X x) (hm : X.mg x = some (.ref a)) (hs : PySem.W.nsIn X.K mainGlobals "START" = some (some (.ref a))) (ht : SqT X.K H0 a vs) (hr : ∀ H, RepL X.K H ds vs) (hd : (x == ("__debug__" : Str)) = false := by decide) : RE X W (.Name x pos) (wC (.tup ds)) :=
  re_c (v := .ref a) (pe_glob hg hm rfl hd) fun H => by
    unfold RepV
    exact ⟨a, vs, rfl, .inr (.inl ⟨hs, ht⟩), hr H⟩
theorem re_ty {x : Str} {n : String} {pos : Pos} (hg : Gl X x) (hm : X.mg x = none) (hv : bootBuiltins x = some (.type n)) (hn : x ≠ "__name__" := by decide) (hd : (x == ("__debug__" : Str)) = false := by decide) : RE X W (.Name x pos) (wC (.ty n)) :=
  re_c (v := .ty n) (pe_bltn hg hm hv rfl hn hd) fun H => by unfold RepV; rfl
end

/-! ### two-place operations by values -/
abbrev WR2 := D → D → Sto → AK → Prop
def Sim2 (K : PySem.W.Frag) (r : R2) (a : WR2) : Prop := ∀ x y dx dy H S QA Q, RepV K H dx x → RepV K H dy y → Rep K H S → a dx dy S QA → KOk K H QA Q → r x y H Q
def wOp (r : WR2) (wa wb : WE) : WE := fun ρ S Q E => wa ρ S (fun x S1 => wb ρ S1 (fun y S2 => r x y S2 Q) E) E
abbrev WR1 := D → Sto → AK → Prop
def Sim1 (K : PySem.W.Frag) (r : V → Hp → VK → Prop) (a : WR1) : Prop := ∀ x dx H S QA Q, RepV K H dx x → Rep K H S → a dx S QA → KOk K H QA Q → r x H Q
def wUn (r : WR1) (wa : WE) : WE := fun ρ S Q E => wa ρ S (fun x S1 => r x S1 Q) E
abbrev WRL := List D → Sto → AK → Prop
def SimL (K : PySem.W.Frag) (r : List V → Hp → VK → Prop) (a : WRL) : Prop := ∀ xs ds H S QA Q, RepL K H ds xs → Rep K H S → a ds S QA → KOk K H QA Q → r xs H Q
section
variable {X : Cx} {W : WX} {a b : Expr} {wa wb : WE} {r : R2} {ra : WR2} {pos : Pos}
/-- a part of an evaluation -/
theorem cE_part {K : PySem.W.Frag} {σ : L2.St} {H H' : Hp} {ρ : DEnv} {S : Sto} {w : WE} {QA : AK} {EA : XA} {Q : VK} (rs : RepS K H ρ σ) (l : Le H H') (r : Rep K H' S) (h : w ρ S QA EA) (k : KOk K H' QA Q) (x : XOk K W H σ EA) : cE K W w σ H' Q :=
  ⟨ρ, S, QA, EA, rs.le l, r, h, k, x.le l⟩
theorem sim_op (sr : Sim2 X.K r ra) : ∀ σ H Q, cE X.K W (wOp ra wa wb) σ H Q → tOp r (cE X.K W wa) (cE X.K W wb) σ H Q := fun σ H Q ⟨ρ, S, QA, EA, rs, rp, h, k, x⟩ =>
  ⟨ρ, S, _, EA, rs, rp, h, fun d S1 v H1 h1 l1 r1 p1 => ⟨ρ, S1, _, EA, rs.le l1, r1, h1, fun d2 S2 v2 H2 h2 l2 r2 p2 => sr v v2 d d2 H2 S2 QA Q (p1.le l2) p2 r2 h2 (k.le (l1.trans l2)), x.le l1⟩, x⟩
theorem re_op {op : Operator} (ho : OpR X (binaryOp op) r) (sr : Sim2 X.K r ra) (ha : RE X W a wa) (hb : RE X W b wb) : RE X W (.BinOp a op b pos) (wOp ra wa wb) := pe_imp (pe_op ho ha hb) (sim_op sr)
theorem re_cmp {op : CmpOp} (ho : OpR X (compareOp op) r) (sr : Sim2 X.K r ra) (ha : RE X W a wa) (hb : RE X W b wb) (hm : behindInMarks op b = false) : RE X W (.Compare a [op] [b] pos) (wOp ra wa wb) := pe_imp (pe_cmpR ho ha hb hm) (sim_op sr)
theorem re_ix (ho : IxR X r) (sr : Sim2 X.K r ra) (ha : RE X W a wa) (hb : RE X W b wb) (hs : PlainIx b := by exact fun _ _ => rfl) : RE X W (.Subscript a b pos) (wOp ra wa wb) := pe_imp (pe_ix ho ha hb hs) (sim_op sr)
theorem re_un {op : UnaryOp} {r : V → Hp → VK → Prop} {ra : WR1} (ho : UnR X (unaryOp op) r) (sr : Sim1 X.K r ra) (ha : RE X W a wa) : RE X W (.UnaryOp op a pos) (wUn ra wa) := pe_imp (pe_un ho ha) fun σ H Q ⟨ρ, S, QA, EA, rs, rp, h, k, x⟩ =>
  ⟨ρ, S, _, EA, rs, rp, h, fun d S1 v H1 h1 l1 r1 p1 => sr v d H1 S1 QA Q p1 r1 h1 (k.le l1), x⟩
end

/-! ### tests -/
def wB (w : WE) : WT := fun ρ S Q E => w ρ S (fun d S1 => ∃ b, d = .bl b ∧ Q b S1) E
def wAnd (t u : WT) : WT := fun ρ S Q E => t ρ S (fun c S1 => if c = true then u ρ S1 Q E else Q false S1) E
def wOr (t u : WT) : WT := fun ρ S Q E => t ρ S (fun c S1 => if c = true then Q true S1 else u ρ S1 Q E) E
def wNot (t : WT) : WT := fun ρ S Q E => t ρ S (fun c S1 => Q (!c) S1) E
/-- truth -/
def truA (d : D) (S : Sto) (Q : Bool → Prop) : Prop := match d with
  | .non => Q false
  | .bl b => Q b
  | .int i => Q (i != 0)
  | .str y => y.length ≤ sizeLine ∧ Q ((y.length : Int) != 0)
  | .tup ds => Q (!ds.isEmpty)
  | .scr ns => Q (!ns.isEmpty)
  | .ref p => (match S p with
    | some (.lst xs) => Q (!xs.isEmpty)
    | some (.dK kvs) => Q (!kvs.isEmpty)
    | _ => False)
  | _ => False
def wTru (w : WE) : WT := fun ρ S Q E => w ρ S (fun d S1 => truA d S1 fun b => Q b S1) E
theorem truA_ok {K : PySem.W.Frag} {H : Hp} {S : Sto} {d : D} {v : V} {Q : Bool → Prop} (r : Rep K H S) (p : RepV K H d v) (h : truA d S Q) : ∃ k, TruV K v H k ∧ Q k := by
  cases d with
  | non => unfold RepV at p; subst p; exact ⟨false, rfl, h⟩
  | bl b => unfold RepV at p; subst p; exact ⟨b, rfl, h⟩
  | int i => unfold RepV at p; subst p; exact ⟨_, rfl, h⟩
  | str y => unfold RepV at p; subst p; exact ⟨_, ⟨h.1, rfl⟩, h.2⟩
  | tup ds =>
    unfold RepV at p
    obtain ⟨a, vs, rfl, t, q⟩ := p
    refine ⟨!ds.isEmpty, .inr (.inl ⟨vs, t.sq, ?_⟩), h⟩
    have e := q.length
    cases ds <;> cases vs <;> simp at e ⊢
  | scr ns =>
    unfold RepV at p
    obtain ⟨a, rfl, t⟩ := p
    refine ⟨!ns.isEmpty, .inl ⟨_, t.sq, ?_⟩, h⟩
    cases ns <;> rfl
  | ref a =>
    unfold RepV at p
    subst p
    unfold truA at h
    cases e : S a with
    | none => simp [e] at h
    | some o =>
      cases o with
      | lst xs =>
        simp only [e] at h
        obtain ⟨vs, h1, h2⟩ := r a _ e
        refine ⟨!xs.isEmpty, .inl ⟨vs, .inl (.inl h1), ?_⟩, h⟩
        have e := h2.length
        cases xs <;> cases vs <;> simp at e ⊢
      | dK kvs =>
        simp only [e] at h
        obtain ⟨vs, h1, h2⟩ := r a _ e
        refine ⟨!kvs.isEmpty, .inr (.inr ⟨vs, h1, ?_⟩), h⟩
        have e := h2.length
        cases kvs <;> cases vs <;> simp at e ⊢
      | dT kvs => simp [e] at h
      | ins C fs => simp [e] at h
      | lok ob us kvs => simp [e] at h
      | lokT ob us kvs => simp [e] at h
      | ctup xs => simp [e] at h
      | tab => simp [e] at h
  | ty n => exact (show False from h).elim
section
variable {X : Cx} {W : WX} {a b c : Expr} {wa wb wc : WE} {ta tb : WT} {r r' : R2} {ra ra' : WR2} {pos : Pos} {rest : List Expr}
theorem rt_cmp {op : CmpOp} (ho : OpR X (compareOp op) r) (sr : Sim2 X.K r ra) (ha : RE X W a wa) (hb : RE X W b wb) (hm : behindInMarks op b = false) : RT X W (.Compare a [op] [b] pos) (wB (wOp ra wa wb)) :=
  pt_imp (pt_cmpR ho ha hb hm) fun σ H Q ⟨ρ, S, QA, EA, rs, rp, h, k, x⟩ => sim_op (W := W) sr σ H _ ⟨ρ, S, _, EA, rs, rp, h, fun d S1 v H1 ⟨b, e, q⟩ l1 r1 p1 => by
    subst e
    unfold RepV at p1
    exact ⟨b, p1, k b S1 H1 q l1 r1⟩, x⟩
theorem rt_tru (ha : RE X W a wa) (he : ∀ whole, isTrue a X.env whole = (do let v ← whole; standAt a.pos; holding [v] (truthy v)) := by intro _; rfl) : RT X W a (wTru wa) :=
  pt_imp (pt_truth ha he) fun σ H Q ⟨ρ, S, QA, EA, rs, rp, h, k, x⟩ => ⟨ρ, S, _, EA, rs, rp, h, fun d S1 v H1 h1 l1 r1 p1 => by
    obtain ⟨b, e, q⟩ := truA_ok r1 p1 h1
    exact ⟨b, e, k b S1 H1 q l1 r1⟩, x⟩
theorem rt_w (h : RW X W a ta) : RT X W a ta := PW.pt h
theorem rw_and1 (ha : RT X W a ta) : RW X W (.BoolOp .And [a] pos) ta := pw_and1 ha
theorem rw_or1 (ha : RT X W a ta) : RW X W (.BoolOp .Or [a] pos) ta := pw_or1 ha
theorem rw_and (ha : RT X W a ta) (hb : RW X W (.BoolOp .And (b :: rest) pos) tb) : RW X W (.BoolOp .And (a :: b :: rest) pos) (wAnd ta tb) :=
  pw_imp (pw_and ha hb) fun σ H Q ⟨ρ, S, QA, EA, rs, rp, h, k, x⟩ => ⟨ρ, S, _, EA, rs, rp, h, fun c S1 H1 h1 l1 r1 => by
    cases c with
    | true => exact ⟨ρ, S1, QA, EA, rs.le l1, r1, h1, fun b S2 H2 q l2 r2 => k b S2 H2 q (l1.trans l2) r2, x.le l1⟩
    | false => exact k false S1 H1 h1 l1 r1, x⟩
theorem rw_or (ha : RT X W a ta) (hb : RW X W (.BoolOp .Or (b :: rest) pos) tb) : RW X W (.BoolOp .Or (a :: b :: rest) pos) (wOr ta tb) :=
  pw_imp (pw_or ha hb) fun σ H Q ⟨ρ, S, QA, EA, rs, rp, h, k, x⟩ => ⟨ρ, S, _, EA, rs, rp, h, fun c S1 H1 h1 l1 r1 => by
    cases c with
    | true => exact k true S1 H1 h1 l1 r1
    | false => exact ⟨ρ, S1, QA, EA, rs.le l1, r1, h1, fun b S2 H2 q l2 r2 => k b S2 H2 q (l1.trans l2) r2, x.le l1⟩, x⟩
theorem rt_not (ha : RT X W a ta) : RT X W (.UnaryOp .Not a pos) (wNot ta) :=
  pt_imp (pt_not ha) fun σ H Q ⟨ρ, S, QA, EA, rs, rp, h, k, x⟩ => ⟨ρ, S, _, EA, rs, rp, h, fun c S1 H1 h1 l1 r1 => k _ S1 H1 h1 l1 r1, x⟩
/-- a < b < c -/
def wChain (r r' : WR2) (wa wb wc : WE) : WE := fun ρ S Q E => wa ρ S (fun x S1 => wb ρ S1 (fun y S2 => r x y S2 (fun z S3 => ∃ k, z = .bl k ∧ if k = true then wc ρ S3 (fun u S4 => r' y u S4 Q) E else Q (.bl false) S3)) E) E
/-! ### values by truth -/
def wOrV (wa wb : WE) : WE := fun ρ S Q E => wa ρ S (fun x S1 => truA x S1 fun k => if k = true then Q x S1 else wb ρ S1 Q E) E
def wAndV (wa wb : WE) : WE := fun ρ S Q E => wa ρ S (fun x S1 => truA x S1 fun k => if k = true then wb ρ S1 Q E else Q x S1) E
def wNotV (wa : WE) : WE := fun ρ S Q E => wa ρ S (fun x S1 => truA x S1 fun k => Q (.bl (!k)) S1) E
def wIf (t : WT) (wa wb : WE) : WE := fun ρ S Q E => t ρ S (fun c S1 => if c = true then wa ρ S1 Q E else wb ρ S1 Q E) E
theorem re_one {op} (h : RE X W a wa) : RE X W (.BoolOp op [a] pos) wa := pe_one h
theorem re_or (ha : RE X W a wa) (hb : RE X W (.BoolOp .Or (b :: rest) pos) wb) : RE X W (.BoolOp .Or (a :: b :: rest) pos) (wOrV wa wb) :=
  pe_imp (pe_orT ha hb) fun σ H Q ⟨ρ, S, QA, EA, rs, rp, h, k, x⟩ => ⟨ρ, S, _, EA, rs, rp, h, fun d S1 v H1 h1 l1 r1 p1 => by
    obtain ⟨c, e, q⟩ := truA_ok r1 p1 h1
    refine ⟨c, e, ?_⟩
    cases c with
    | true => exact k d S1 v H1 q l1 r1 p1
    | false => exact ⟨ρ, S1, QA, EA, rs.le l1, r1, q, k.le l1, x.le l1⟩, x⟩
theorem re_and (ha : RE X W a wa) (hb : RE X W (.BoolOp .And (b :: rest) pos) wb) : RE X W (.BoolOp .And (a :: b :: rest) pos) (wAndV wa wb) :=
  pe_imp (pe_andT ha hb) fun σ H Q ⟨ρ, S, QA, EA, rs, rp, h, k, x⟩ => ⟨ρ, S, _, EA, rs, rp, h, fun d S1 v H1 h1 l1 r1 p1 => by
    obtain ⟨c, e, q⟩ := truA_ok r1 p1 h1
    refine ⟨c, e, ?_⟩
    cases c with
    | true => exact ⟨ρ, S1, QA, EA, rs.le l1, r1, q, k.le l1, x.le l1⟩
    | false => exact k d S1 v H1 q l1 r1 p1, x⟩
theorem re_not (ha : RE X W a wa) : RE X W (.UnaryOp .Not a pos) (wNotV wa) :=
  pe_imp (pe_notT ha) fun σ H Q ⟨ρ, S, QA, EA, rs, rp, h, k, x⟩ => ⟨ρ, S, _, EA, rs, rp, h, fun d S1 v H1 h1 l1 r1 p1 => by
    obtain ⟨c, e, q⟩ := truA_ok r1 p1 h1
    exact ⟨c, e, k _ S1 _ H1 q l1 r1 (by unfold RepV; rfl)⟩, x⟩
theorem re_ifx (hc : RT X W c ta) (ha : RE X W a wa) (hb : RE X W b wb) : RE X W (.IfExp c a b pos) (wIf ta wa wb) :=
  pe_imp (pe_ifExp hc ha hb) fun σ H Q ⟨ρ, S, QA, EA, rs, rp, h, k, x⟩ => ⟨ρ, S, _, EA, rs, rp, h, fun c S1 H1 h1 l1 r1 => by
    cases c with
    | true => exact ⟨ρ, S1, QA, EA, rs.le l1, r1, h1, k.le l1, x.le l1⟩
    | false => exact ⟨ρ, S1, QA, EA, rs.le l1, r1, h1, k.le l1, x.le l1⟩, x⟩
theorem sim_chain (sr : Sim2 X.K r ra) (sr' : Sim2 X.K r' ra') : ∀ σ H Q, cE X.K W (wChain ra ra' wa wb wc) σ H Q → tChain r r' (cE X.K W wa) (cE X.K W wb) (cE X.K W wc) σ H Q := fun σ H Q ⟨ρ, S, QA, EA, rs, rp, h, k, x⟩ =>
  ⟨ρ, S, _, EA, rs, rp, h, fun d S1 v H1 h1 l1 r1 p1 => ⟨ρ, S1, _, EA, rs.le l1, r1, h1, fun d2 S2 v2 H2 h2 l2 r2 p2 => sr v v2 d d2 H2 S2 _ _ (p1.le l2) p2 r2 h2 fun d3 S3 v3 H3 ⟨c, e, h3⟩ l3 r3 p3 => by
    subst e
    unfold RepV at p3
    refine ⟨c, p3, ?_⟩
    cases c with
    | true =>
      exact ⟨ρ, S3, _, EA, rs.le ((l1.trans l2).trans l3), r3, h3, fun d4 S4 v4 H4 h4 l4 r4 p4 => sr' v2 v4 d2 d4 H4 S4 QA Q (p2.le (l3.trans l4)) p4 r4 h4 (k.le (((l1.trans l2).trans l3).trans l4)), x.le ((l1.trans l2).trans l3)⟩
    | false => exact k (.bl false) S3 (.bl false) H3 h3 ((l1.trans l2).trans l3) r3 (by unfold RepV; rfl), x.le l1⟩, x⟩
end

/-! ### arguments, displays -/
def wNil : WA := fun _ S Q _ => Q [] S
def wCons (w : WE) (r : WA) : WA := fun ρ S Q E => w ρ S (fun d S1 => r ρ S1 (fun ds S2 => Q (d :: ds) S2) E) E
def wTup (w : WA) : WE := fun ρ S Q E => w ρ S (fun ds S1 => ds.length ≤ sizeLine ∧ Q (.tup ds) S1) E
def wLst (w : WA) : WE := fun ρ S Q E => w ρ S (fun ds S1 => ds.length ≤ sizeLine ∧ ∀ p, S1 p = none → Q (.ref p) (put S1 p (.lst ds))) E
section
variable {X : Cx} {W : WX} {e : Expr} {es : List Expr} {we : WE} {wr : WA} {pos : Pos}
theorem ra_nil : RA X W [] wNil := pa_imp pa_nil fun σ H Q ⟨ρ, S, QA, EA, rs, rp, h, k, x⟩ => k [] S [] H h (Le.refl H) rp repL_nil
theorem ra_cons (he : RE X W e we) (hr : RA X W es wr) (hs : starEach (e :: es) X.env = (false, eval e X.env) :: starEach es X.env := by rfl) : RA X W (e :: es) (wCons we wr) :=
  pa_imp (pa_cons he hr hs) fun σ H Q ⟨ρ, S, QA, EA, rs, rp, h, k, x⟩ => ⟨ρ, S, _, EA, rs, rp, h, fun d S1 v H1 h1 l1 r1 p1 => ⟨ρ, S1, _, EA, rs.le l1, r1, h1, fun ds S2 vs H2 h2 l2 r2 p2 => k _ S2 _ H2 h2 (l1.trans l2) r2 (repL_cons (p1.le l2) p2), x.le l1⟩, x⟩
theorem re_tup {x1} (h : RA X W es wr) : RE X W (.Tuple es x1 pos) (wTup wr) :=
  pe_imp (pe_tup h) fun σ H Q ⟨ρ, S, QA, EA, rs, rp, h, k, x⟩ => ⟨ρ, S, _, EA, rs, rp, h, fun ds S1 vs H1 h1 l1 r1 p1 => ⟨by rw [p1.length]; exact h1.1, fun p np => k _ S1 _ _ h1.2 (l1.trans (Le.new np)) (r1.new np) (by
    unfold RepV
    exact ⟨p, vs, rfl, .inl upd_same, p1.le (Le.new np)⟩)⟩, x⟩
theorem re_lst (h : RA X W es wr) : RE X W (.List es pos) (wLst wr) :=
  pe_imp (pe_lst h) fun σ H Q ⟨ρ, S, QA, EA, rs, rp, h, k, x⟩ => ⟨ρ, S, _, EA, rs, rp, h, fun ds S1 vs H1 h1 l1 r1 p1 => ⟨by rw [p1.length]; exact h1.1, fun p np => k _ _ _ _ (h1.2 p (r1.free np)) (l1.trans (Le.new np)) (r1.newP np ⟨vs, upd_same, p1.le (Le.new np)⟩) (by
    unfold RepV
    rfl)⟩, x⟩
end

/-! ### statements -/
def wNext : WS := fun A ρ S => A.nx ρ S
def wSeq (a b : WS) : WS := fun A ρ S => a { A with nx := b A } ρ S
def wBrk : WS := fun A ρ S => A.bk ρ S
def wCnt : WS := fun A ρ S => A.ct ρ S
def wDrop (w : WE) : WS := fun A ρ S => w ρ S (fun _ S1 => A.nx ρ S1) (fun c S1 => A.xe c ρ S1)
def wRet (w : WE) : WS := fun A ρ S => w ρ S A.rt (fun c S1 => A.xe c ρ S1)
def wRetN : WS := fun A _ S => A.rt .non S
def wIfS (t : WT) (a b : WS) : WS := fun A ρ S => t ρ S (fun c S1 => if c = true then a A ρ S1 else b A ρ S1) (fun c S1 => A.xe c ρ S1)
def wAsg (w : WE) (g : WG) : WS := fun A ρ S => w ρ S (fun d S1 => g d ρ S1 A.nx) (fun c S1 => A.xe c ρ S1)
def gN (i : Nat) : WG := fun d ρ S Q => Q (ρ.set i (some d)) S
def gsNil : WGs := fun ds ρ S Q => ds = [] ∧ Q ρ S
def gsCons (g : WG) (r : WGs) : WGs := fun ds ρ S Q => (match ds with
  | d :: t => g d ρ S fun ρ' S' => r t ρ' S' Q
  | [] => False)
def gT (n : Nat) (g : WGs) : WG := fun d ρ S Q => (match d with
  | .tup ds => ds.length = n ∧ g ds ρ S Q
  | _ => False)
def wPar (i j : Nat) (w : WA) : WS := fun A ρ S => w ρ S (fun ds S1 => (match ds with
  | [x, y] => A.nx ((ρ.set i (some x)).set j (some y)) S1
  | _ => False)) (fun c S1 => A.xe c ρ S1)
def wPar3 (i j l : Nat) (w : WA) : WS := fun A ρ S => w ρ S (fun ds S1 => (match ds with
  | [x, y, z] => A.nx (((ρ.set i (some x)).set j (some y)).set l (some z)) S1
  | _ => False)) (fun c S1 => A.xe c ρ S1)
def wNever : WS := fun _ _ _ => False
section
variable {X : Cx} {W : WX} {st : Stmt} {rest : List Stmt} {a b : WS} {e : Expr} {we : WE} {pos : Pos}
theorem EOk.x {K : PySem.W.Frag} {H : Hp} {A : AEnds} {E : Ends} {ρ : DEnv} {σ : L2.St} (k : EOk K W H A E) (rs : RepS K H ρ σ) : XOk K W H σ (fun c S1 => A.xe c ρ S1) := fun c S1 H1 q l r => k.xe c ρ S1 σ H1 q l (rs.le l) r
theorem rss_nil : RSs X W [] wNext := pss_imp pss_nil fun E σ H ⟨ρ, S, A, rs, rp, h, k⟩ => k.nx ρ S σ H h (Le.refl H) rs rp
theorem rss_one (h1 : RS X W st a) : RSs X W [st] a := pss_one h1
theorem rss_cons (h1 : RS X W st a) (h2 : RSs X W rest b) : RSs X W (st :: rest) (wSeq a b) :=
  pss_imp (pss_cons h1 h2) fun E σ H ⟨ρ, S, A, rs, rp, h, k⟩ => ⟨ρ, S, _, rs, rp, h, ⟨fun ρ' S' σ' H' q l rs' rp' => ⟨ρ', S', A, rs', rp', q, k.le l⟩, k.rt, k.bk, k.ct, k.xe⟩⟩
theorem rs_pass : RS X W (.Pass pos) wNext := ps_imp ps_pass fun E σ H ⟨ρ, S, A, rs, rp, h, k⟩ => k.nx ρ S σ H h (Le.refl H) rs rp
theorem rs_brk : RS X W (.Break pos) wBrk := ps_imp ps_break fun E σ H ⟨ρ, S, A, rs, rp, h, k⟩ => k.bk ρ S σ H h (Le.refl H) rs rp
theorem rs_cnt : RS X W (.Continue pos) wCnt := ps_imp ps_continue fun E σ H ⟨ρ, S, A, rs, rp, h, k⟩ => k.ct ρ S σ H h (Le.refl H) rs rp
theorem rs_doc {x j pos pos'} : RS X W (.Expr (.Constant (.str x) j pos) pos') wNext := ps_imp ps_doc fun E σ H ⟨ρ, S, A, rs, rp, h, k⟩ => k.nx ρ S σ H h (Le.refl H) rs rp
theorem rs_expr (he : RE X W e we) (hs : swapsWith e none pos.line X.env = pure false := by rfl) : RS X W (.Expr e pos) (wDrop we) :=
  ps_imp (ps_expr he hs) fun E σ H ⟨ρ, S, A, rs, rp, h, k⟩ => ⟨ρ, S, _, _, rs, rp, h, fun d S1 v H1 q l r p => k.nx ρ S1 σ H1 q l (rs.le l) r, k.x rs⟩
theorem rs_ret (he : RE X W e we) : RS X W (.Return (some e) pos) (wRet we) :=
  ps_imp (ps_ret he) fun E σ H ⟨ρ, S, A, rs, rp, h, k⟩ => ⟨ρ, S, _, _, rs, rp, h, fun d S1 v H1 q l r p => k.rt d S1 v H1 q l r p, k.x rs⟩
theorem rs_retN : RS X W (.Return none pos) wRetN := ps_imp ps_retN fun E σ H ⟨ρ, S, A, rs, rp, h, k⟩ => k.rt .non S .non H h (Le.refl H) rp (by unfold RepV; rfl)
theorem rs_if {c : Expr} {wc : WT} {p q : List Stmt} (hc : RT X W c wc) (ha : RSs X W p a) (hb : RSs X W q b) : RS X W (.If c p q pos) (wIfS wc a b) :=
  ps_imp (ps_if hc ha hb) fun E σ H ⟨ρ, S, A, rs, rp, h, k⟩ => ⟨ρ, S, _, _, rs, rp, h, fun c S1 H1 h1 l r => by
    cases c with
    | true => exact ⟨ρ, S1, A, rs.le l, r, h1, k.le l⟩
    | false => exact ⟨ρ, S1, A, rs.le l, r, h1, k.le l⟩, k.x rs⟩
theorem rg_n {i : Nat} {x : Str} (hN : X.N.Nodup) (hi : X.N[i]? = some x) (hx : Loc X.env.scope x) (hf : X.fn x = true ∨ X.env.scope.names.lookup x = some .local := by first | exact .inl rfl | exact .inr rfl | assumption) : RG X [i] (.Name x pos) (gN i) :=
  pg_imp (pg_name hN hi hx hf) fun v σ H Q ⟨d, ρ, S, QA, p, rs, rp, h, k⟩ => k _ S _ H h (Le.refl H) (rs.set p i) rp (Agr.set _ _ _)
theorem rgs_nil : RGs X [] [] gsNil := pgs_imp pgs_nil fun vs σ H Q ⟨ds, ρ, S, QA, p, rs, rp, ⟨e, h⟩, k⟩ => by
  subst e
  exact ⟨p.nil_inv, k _ S _ H h (Le.refl H) rs rp (Agr.refl _ _)⟩
theorem rgs_cons {es : List Expr} {i j : List Nat} {g : WG} {gr : WGs} (h1 : RG X i e g) (h2 : RGs X j es gr) (hs : (assignEach (e :: es) X.env).map (·.2) = assign e X.env :: (assignEach es X.env).map (·.2) := by rfl) : RGs X (i ++ j) (e :: es) (gsCons g gr) :=
  pgs_imp (pgs_cons h1 h2 hs) fun vs σ H Q ⟨ds, ρ, S, QA, p, rs, rp, h, k⟩ => by
    cases ds with
    | nil => exact (show False from h).elim
    | cons d t =>
      obtain ⟨v, r, rfl, p1, p2⟩ := p.inv
      exact ⟨v, r, rfl, d, ρ, S, _, p1, rs, rp, h, fun ρ' S' σ' H' q l rs' rp' ag => ⟨t, ρ', S', QA, p2.le l, rs', rp', q, fun ρ2 S2 σ2 H2 q2 l2 rs2 rp2 ag2 => k ρ2 S2 σ2 H2 q2 (l.trans l2) rs2 rp2 (ag.trans ag2)⟩⟩
theorem rg_tup {es : List Expr} {js : List Nat} {k : Nat} {g : WGs} {n : Nat} (hc : X.calm = true) (h : RGs X js es g) (hn : (assignEach es X.env).length = n := by rfl) (hst : (assignEach es X.env).findIdx? (·.1) = none := by rfl) : RG X js (.Tuple es k pos) (gT n g) :=
  pg_imp (pg_tup hc h hn hst) fun v σ H Q ⟨d, ρ, S, QA, p, rs, rp, h, k⟩ => by
    cases d with
    | tup ds =>
      unfold RepV at p
      obtain ⟨a, vs, rfl, t, q⟩ := p
      exact ⟨a, vs, rfl, t.sq, by rw [q.length]; exact h.1, ds, ρ, S, QA, q, rs, rp, h.2, k⟩
    | _ => exact (show False from h).elim
theorem rs_asg {tg : Expr} {js : List Nat} {g : WG} (he : RE X W e we) (hg : RG X js tg g) (hs : swapsWithSole [tg] e pos.line X.env = pure false := by rfl) (hw : swappedStores [tg] e X.env = pure none := by rfl)
    (h1 : (assignEach [tg] X.env).map (·.2) = [assign tg X.env] := by rfl) : RS X W (.Assign [tg] e pos) (wAsg we g) :=
  ps_imp (ps_asg he hg hs hw h1) fun E σ H ⟨ρ, S, A, rs, rp, h, k⟩ => ⟨ρ, S, _, _, rs, rp, h, fun d S1 v H1 q l r p => ⟨d, ρ, S1, A.nx, p, rs.le l, r, q, fun ρ' S' σ' H' q' l' rs' rp' _ => k.nx ρ' S' σ' H' q' (l.trans l') rs' rp'⟩, k.x rs⟩
theorem rs_set {i : Nat} {x : Str} {pos' : Pos} (hN : X.N.Nodup) (hi : X.N[i]? = some x) (hx : Loc X.env.scope x) (he : RE X W e we) (hs : swapsWith e (some (.Name x pos')) pos.line X.env = pure false := by rfl) (hf : X.fn x = true ∨ X.env.scope.names.lookup x = some .local := by first | exact .inl rfl | exact .inr rfl | assumption) :
    RS X W (.Assign [.Name x pos'] e pos) (wAsg we (gN i)) :=
  ps_imp (ps_set hN hi hx he hs hf) fun E σ H ⟨ρ, S, A, rs, rp, h, k⟩ => ⟨ρ, S, _, _, rs, rp, h, fun d S1 v H1 q l r p => k.nx _ S1 _ H1 q l ((rs.le l).set p i) r, k.x rs⟩
theorem rs_par {i j : Nat} {x y : Str} {p q : Expr} {wa : WA} {px py pt : Pos} {kt k2 pt2} (hc : X.calm = true) (hN : X.N.Nodup) (hi : X.N[i]? = some x) (hj : X.N[j]? = some y) (hij : i ≠ j)
    (hx : X.env.scope.names.lookup x = some .local) (hy : X.env.scope.names.lookup y = some .local) (ha : RA X W [p, q] wa)
    (hw : swappedStores [.Tuple [.Name x px, .Name y py] kt pt] (.Tuple [p, q] k2 pt2) X.env = pure (some [x, y]))
    (hs : swapsWithSole [.Tuple [.Name x px, .Name y py] kt pt] (.Tuple [p, q] k2 pt2) pos.line X.env = pure false := by rfl) :
    RS X W (.Assign [.Tuple [.Name x px, .Name y py] kt pt] (.Tuple [p, q] k2 pt2) pos) (wPar i j wa) :=
  ps_imp (ps_par hc hN hi hj hij hx hy ha hw hs) fun E σ H ⟨ρ, S, A, rs, rp, h, k⟩ => ⟨ρ, S, _, _, rs, rp, h, fun ds S1 vs H1 q l r p => by
    match ds, q, p with
    | [d1, d2], q, p =>
      obtain ⟨v1, r1, rfl, p1, p'⟩ := p.inv
      obtain ⟨v2, r2, rfl, p2, p''⟩ := p'.inv
      cases p''.nil_inv
      exact ⟨v1, v2, rfl, k.nx _ S1 _ H1 q l (((rs.le l).set p1 i).set p2 j) r⟩, k.x rs⟩
end
end Ab
set_option Elab.async false
set_option linter.all false
set_option maxRecDepth 100000
set_option maxHeartbeats 4000000
namespace Ab
open PySem PySem.Spec PyProof.Rows L2 RZ

/-! ### what is walked -/
structure AIt where
  items : List D
  still : Sto → Prop
abbrev WI := DEnv → Sto → (AIt → Sto → Prop) → XA → Prop
def ISim (K : PySem.W.Frag) (H : Hp) (J : It) (it : AIt) : Prop := ∀ (i : Nat) H' S, Le H H' → Rep K H' S → it.still S →
  (∀ d, it.items[i]? = some d → J.go i H' ∧ ∀ x H2, J.yld i H' x H2 → Le H' H2 ∧ Rep K H2 S ∧ RepV K H2 d x) ∧ (it.items.length ≤ i → J.stop i H')
def cI (K : PySem.W.Frag) (W : WX) (w : WI) : TI := fun σ H R => ∃ ρ S QA EA, RepS K H ρ σ ∧ Rep K H S ∧ w ρ S QA EA ∧ (∀ it S' J H', QA it S' → Le H H' → Rep K H' S' → ISim K H' J it → R J H') ∧ XOk K W H σ EA
def RI (X : Cx) (W : WX) (tg iter : Expr) (w : WI) : Prop := PI X tg iter (cI X.K W w)
theorem pi_imp {X : Cx} {tg iter : Expr} {t t' : TI} (h : PI X tg iter t) (i : ∀ σ H R, t' σ H R → t σ H R) : PI X tg iter t' := ⟨fun pins s σ H R I q => h.run pins s σ H R I (i σ H R q)⟩
/-! ### loops -/
def loopA (g : WG) (b : WS) (still : Sto → Prop) : List D → WS
  | [] => fun A ρ S => still S ∧ A.nx ρ S
  | x :: xs => fun A ρ S => still S ∧ g x ρ S fun ρ' S' => b { A with nx := loopA g b still xs A, ct := loopA g b still xs A, bk := A.nx } ρ' S'
def wFor (wi : WI) (g : WG) (b : WS) : WS := fun A ρ S => wi ρ S (fun it S1 => loopA g b it.still it.items A ρ S1) (fun c S1 => A.xe c ρ S1)
theorem loopA_still {g : WG} {b : WS} {still : Sto → Prop} {xs : List D} {A : AEnds} {ρ : DEnv} {S : Sto} (h : loopA g b still xs A ρ S) : still S := by
  cases xs with
  | nil => exact h.1
  | cons x xs => exact h.1
section
variable {X : Cx} {W : WX} {tg iter : Expr} {js : List Nat} {wi : WI} {g : WG} {b : WS} {body : List Stmt} {pos : Pos}
theorem drop_cons {xs : List D} {i : Nat} {d : D} {r : List D} (h : xs.drop i = d :: r) : xs[i]? = some d ∧ xs.drop (i + 1) = r := by
  constructor
  · have e := congrArg (fun l : List D => l[0]?) h
    simp only [List.getElem?_drop] at e
    simpa using e
  · have e := congrArg (fun l : List D => l.drop 1) h
    simp only [List.drop_drop] at e
    simpa [Nat.add_comm] using e
theorem sim_for {K : PySem.W.Frag} : ∀ E σ H, cS K W (wFor wi g b) E σ H → tFor (cI K W wi) (cG K js g) (cS K W b) E σ H := fun E σ H ⟨ρ, S, A, rs, rp, h, k⟩ =>
  ⟨ρ, S, _, _, rs, rp, h, fun it S1 J H1 h1 l1 r1 sim => by
    refine ⟨fun i m σ' H' => ∃ ρ' S', Le H1 H' ∧ RepS K H' ρ' σ' ∧ Rep K H' S' ∧ i ≤ it.items.length ∧ m = it.items.length - i ∧ loopA g b it.still (it.items.drop i) A ρ' S',
      ⟨it.items.length, ρ, S1, Le.refl H1, rs.le l1, r1, Nat.zero_le _, rfl, h1⟩, ?_⟩
    rintro i m σ' H' ⟨ρ', S', l', rs', rp', hi, rfl, hl⟩
    obtain ⟨s1, s2⟩ := sim i H' S' l' rp' (loopA_still hl)
    cases hd : it.items.drop i with
    | nil =>
      rw [hd] at hl
      have hle : it.items.length ≤ i := by
        have := congrArg List.length hd
        simp only [List.length_drop, List.length_nil] at this
        omega
      exact .inl ⟨s2 hle, k.nx ρ' S' σ' H' hl.2 (l1.trans l') rs' rp'⟩
    | cons d r =>
      rw [hd] at hl
      obtain ⟨e1, e2⟩ := drop_cons hd
      have hlt : i < it.items.length := (List.getElem?_eq_some_iff.mp e1).1
      obtain ⟨go, yl⟩ := s1 d e1
      refine .inr ⟨go, fun σ2 H2 => ∃ ρ2 S2, Le H1 H2 ∧ RepS K H2 ρ2 σ2 ∧ Rep K H2 S2 ∧ loopA g b it.still r A ρ2 S2, ?_, fun x H2 hy => ?_⟩
      · rintro σ2 H2 ⟨ρ2, S2, l2, rs2, rp2, h2⟩
        exact ⟨it.items.length - (i + 1), by omega, ρ2, S2, l2, rs2, rp2, hlt, rfl, by rw [e2]; exact h2⟩
      · obtain ⟨l2, r2, p2⟩ := yl x H2 hy
        refine ⟨d, ρ', S', _, p2, rs'.le l2, r2, hl.2, fun ρ3 S3 σ3 H3 q3 l3 rs3 rp3 _ => ?_⟩
        have L3 : Le H1 H3 := (l'.trans l2).trans l3
        refine ⟨ρ3, S3, _, rs3, rp3, q3, ⟨?_, ?_, ?_, ?_, ?_⟩⟩
        · exact fun ρ4 S4 σ4 H4 q4 l4 rs4 rp4 => ⟨ρ4, S4, L3.trans l4, rs4, rp4, q4⟩
        · exact fun d4 S4 v4 H4 q4 l4 rp4 p4 => k.rt d4 S4 v4 H4 q4 ((l1.trans L3).trans l4) rp4 p4
        · exact fun ρ4 S4 σ4 H4 q4 l4 rs4 rp4 => k.nx ρ4 S4 σ4 H4 q4 ((l1.trans L3).trans l4) rs4 rp4
        · exact fun ρ4 S4 σ4 H4 q4 l4 rs4 rp4 => ⟨ρ4, S4, L3.trans l4, rs4, rp4, q4⟩
        · exact fun c ρ4 S4 σ4 H4 q4 l4 rs4 rp4 => k.xe c ρ4 S4 σ4 H4 q4 ((l1.trans L3).trans l4) rs4 rp4, k.x rs⟩
theorem rs_for (hp : PassesOwn (model X.prog X.w) X.A X.env X.xe) (hc : X.calm = true) (hi : RI X W tg iter wi) (hg : RG X js tg g) (hb : RSs X W body b)
    (hs : ∀ x, foldedSetIterable iter X.env x = pure x := by intro _; rfl) : RS X W (.For tg iter body [] pos) (wFor wi g b) := ps_imp (ps_for hp hc hi hg hb hs) sim_for
end
/-! ### while -/
def wWhile (t : WT) (b : WS) : WS := fun A ρ S => ∃ Z : Nat → DEnv → Sto → Prop, (∃ m, Z m ρ S) ∧ ∀ m ρ S, Z m ρ S →
  t ρ S (fun c S1 => if c = true then ∃ N : DEnv → Sto → Prop, (∀ ρ' S', N ρ' S' → ∃ m', m' < m ∧ Z m' ρ' S') ∧ b { A with nx := N, ct := N, bk := A.nx } ρ S1 else A.nx ρ S1) (fun c S1 => A.xe c ρ S1)
section
variable {X : Cx} {W : WX} {t : WT} {b : WS} {c : Expr} {body : List Stmt} {pos : Pos}
theorem rs_while (hp : PassesOwn (model X.prog X.w) X.A X.env X.xe) (hc : RT X W c t) (hb : RSs X W body b) : RS X W (.While c body [] pos) (wWhile t b) :=
  ps_imp (ps_while hp hc hb) fun E σ H ⟨ρ, S, A, rs, rp, ⟨Z, ⟨m0, z0⟩, turn⟩, k⟩ => by
    refine ⟨fun m σ' H' => ∃ ρ' S', Le H H' ∧ RepS X.K H' ρ' σ' ∧ Rep X.K H' S' ∧ Z m ρ' S', ⟨m0, ρ, S, Le.refl H, rs, rp, z0⟩, ?_⟩
    rintro m σ' H' ⟨ρ', S', l', rs', rp', z⟩
    refine ⟨ρ', S', _, _, rs', rp', turn m ρ' S' z, fun b S1 H1 h1 l1 r1 => ?_, (k.le l').x rs'⟩
    cases b with
    | false => exact k.nx ρ' S1 σ' H1 h1 (l'.trans l1) (rs'.le l1) r1
    | true =>
      obtain ⟨N, hN, hb⟩ := h1
      have L1 := l'.trans l1
      refine ⟨fun σ2 H2 => ∃ ρ2 S2, Le H H2 ∧ RepS X.K H2 ρ2 σ2 ∧ Rep X.K H2 S2 ∧ N ρ2 S2, ?_, ρ', S1, _, rs'.le l1, r1, hb, ⟨?_, ?_, ?_, ?_, ?_⟩⟩
      · rintro σ2 H2 ⟨ρ2, S2, l2, rs2, rp2, n2⟩
        obtain ⟨m', hm, z'⟩ := hN ρ2 S2 n2
        exact ⟨m', hm, ρ2, S2, l2, rs2, rp2, z'⟩
      · exact fun ρ4 S4 σ4 H4 q4 l4 rs4 rp4 => ⟨ρ4, S4, L1.trans l4, rs4, rp4, q4⟩
      · exact fun d4 S4 v4 H4 q4 l4 rp4 p4 => k.rt d4 S4 v4 H4 q4 (L1.trans l4) rp4 p4
      · exact fun ρ4 S4 σ4 H4 q4 l4 rs4 rp4 => k.nx ρ4 S4 σ4 H4 q4 (L1.trans l4) rs4 rp4
      · exact fun ρ4 S4 σ4 H4 q4 l4 rs4 rp4 => ⟨ρ4, S4, L1.trans l4, rs4, rp4, q4⟩
      · exact fun c ρ4 S4 σ4 H4 q4 l4 rs4 rp4 => k.xe c ρ4 S4 σ4 H4 q4 (L1.trans l4) rs4 rp4
end

/-! ### the iterators -/
section
variable {X : Cx} {W : WX} {tg l : Expr}
def iSeq (K : PySem.W.Frag) (tl : TE) : TI := fun σ H R => tl σ H fun x H1 => ∃ a, x = .ref a ∧ (((∃ xs, SqL K H1 a xs) ∧ R (Itl K a) H1) ∨ ((∃ xs, SqT K H1 a xs) ∧ R (Itt K a) H1))
theorem pi_seq {tl : TE} (hl : PE X l tl) : PI X tg l (iSeq X.K tl) := by
  refine ⟨fun pins s σ H R I h => ?_⟩
  refine thn (hl.run pins s σ H _ I h) fun v s1 ⟨x, H1, I1, r1, q1⟩ => ?_
  obtain ⟨a, e, ⟨⟨xs, hq⟩, q⟩ | ⟨⟨xs, hq⟩, q⟩⟩ := q1
  · subst e
    cases r1
    obtain ⟨its, rv, p, hz⟩ := I1.list hq
    refine wpAny_pyIter_list p.isList ?_
    refine ⟨s1.heap.objs.size, [s1.heap.objs.size], _, _, H1, rfl, I1.kept (t' := s1.toks) fun b o e => Heap.get?_push_of_some _ e, turn_list a _, ⟨_, Heap.get?_push_size _ rfl, rfl, rfl⟩, fun b hb => ?_, q⟩
    have e : b = s1.heap.objs.size := by simpa using hb
    subst e
    exact I1.fpOk (Nat.le_refl _) (I1.hok.fresh (Nat.le_refl _))
  · subst e
    cases r1
    obtain ⟨its, rv, p, hz⟩ := I1.tuple hq
    refine wpAny_pyIter_tuple (show s1.heap.IsTuple a its.toArray from p) ?_
    refine ⟨s1.heap.objs.size, [s1.heap.objs.size], _, _, H1, rfl, I1.kept (t' := s1.toks) fun b o e => Heap.get?_push_of_some _ e, turn_tuple a _, ⟨_, Heap.get?_push_size _ rfl, rfl, rfl⟩, fun b hb => ?_, q⟩
    have e : b = s1.heap.objs.size := by simpa using hb
    subst e
    exact I1.fpOk (Nat.le_refl _) (I1.hok.fresh (Nat.le_refl _))
/-- the items of a value, and while what they stand -/
def itemsA (d : D) (S : Sto) (Q : AIt → Prop) : Prop := match d with
  | .tup ds => Q ⟨ds, fun _ => True⟩
  | .scr ns => Q ⟨ns.map .int, fun _ => True⟩
  | .ref a => (match S a with
    | some (.lst ds) => Q ⟨ds, fun S' => S' a = some (.lst ds)⟩
    | _ => False)
  | _ => False
def wSeqI (w : WE) : WI := fun ρ S Q E => w ρ S (fun d S1 => itemsA d S1 fun it => Q it S1) E
theorem isim_list {K : PySem.W.Frag} {H : Hp} {a : Addr} {ds : List D} : ISim K H (Itl K a) ⟨ds, fun S' => S' a = some (.lst ds)⟩ := fun i H' S' l' r' st => by
  obtain ⟨vs, h1, h2⟩ := r' a _ st
  have sq : SqL K H' a vs := .inl (.inl h1)
  refine ⟨fun d e => ?_, fun hl => ⟨vs, sq, by rw [h2.length]; exact hl⟩⟩
  obtain ⟨v, ev, p⟩ := h2.get e
  refine ⟨⟨vs, v, sq, ev⟩, fun x H2 ⟨e2, y⟩ => ?_⟩
  subst e2
  have : x = v := Option.some.inj ((y vs sq).symm.trans ev)
  subst this
  exact ⟨Le.refl _, r', p⟩
theorem isim_tup {K : PySem.W.Frag} {H : Hp} {a : Addr} {ds : List D} {vs : List V} (t : TupP K H a vs) (q : RepL K H ds vs) : ISim K H (Itt K a) ⟨ds, fun _ => True⟩ := fun i H' S' l' r' _ => by
  have sq : SqT K H' a vs := (t.le l').sq
  refine ⟨fun d e => ?_, fun hl => ⟨vs, sq, by rw [q.length]; exact hl⟩⟩
  obtain ⟨v, ev, p⟩ := (q.le l').get e
  refine ⟨⟨vs, v, sq, ev⟩, fun x H2 ⟨e2, y⟩ => ?_⟩
  subst e2
  have : x = v := Option.some.inj ((y vs sq).symm.trans ev)
  subst this
  exact ⟨Le.refl _, r', p⟩
theorem isim_scr {K : PySem.W.Frag} {H : Hp} {a : Addr} {ns : List Int} (t : LstP K H a (ns.map V.int)) : ISim K H (Itl K a) ⟨ns.map .int, fun _ => True⟩ := fun i H' S' l' r' _ => by
  have sq : SqL K H' a (ns.map V.int) := (t.le l').sq
  refine ⟨fun d e => ?_, fun hl => ⟨_, sq, by simpa using hl⟩⟩
  obtain ⟨v, ev, p⟩ := (repL_ints (K := K) (H := H') ns).get e
  refine ⟨⟨_, v, sq, ev⟩, fun x H2 ⟨e2, y⟩ => ?_⟩
  subst e2
  have : x = v := Option.some.inj ((y _ sq).symm.trans ev)
  subst this
  exact ⟨Le.refl _, r', p⟩
theorem ri_seq {wl : WE} (hl : RE X W l wl) : RI X W tg l (wSeqI wl) := pi_imp (pi_seq hl) fun σ H R ⟨ρ, S, QA, EA, rs, rp, h, k, x⟩ => ⟨ρ, S, _, EA, rs, rp, h, fun d S1 v H1 h1 l1 r1 p1 => by
  cases d with
  | tup ds =>
    unfold RepV at p1
    obtain ⟨a, vs, rfl, t, q⟩ := p1
    exact ⟨a, rfl, .inr ⟨⟨vs, t.sq⟩, k _ S1 _ H1 h1 l1 r1 (isim_tup t q)⟩⟩
  | scr ns =>
    unfold RepV at p1
    obtain ⟨a, rfl, t⟩ := p1
    exact ⟨a, rfl, .inl ⟨⟨_, t.sq⟩, k _ S1 _ H1 h1 l1 r1 (isim_scr t)⟩⟩
  | ref a =>
    unfold RepV at p1
    subst p1
    unfold itemsA at h1
    cases e : S1 a with
    | none => simp [e] at h1
    | some o =>
      cases o with
      | lst ds =>
        simp only [e] at h1
        obtain ⟨vs, q1, q2⟩ := r1 a _ e
        exact ⟨a, rfl, .inl ⟨⟨vs, .inl (.inl q1)⟩, k _ S1 _ H1 h1 l1 r1 isim_list⟩⟩
      | dK kvs => simp [e] at h1
      | dT kvs => simp [e] at h1
      | ins C fs => simp [e] at h1
      | lok ob us kvs => simp [e] at h1
      | lokT ob us kvs => simp [e] at h1
      | ctup xs => simp [e] at h1
      | tab => simp [e] at h1
  | _ => exact (show False from h1).elim, x⟩
def rangeD (lo : Int) (n : Nat) : List D := (List.range n).map fun (i : Nat) => D.int (lo + i)
theorem isim_range {K : PySem.W.Frag} {H : Hp} {lo : Int} {n : Nat} : ISim K H (Itr lo n) ⟨rangeD lo n, fun _ => True⟩ := fun i H' S' l' r' _ => by
  refine ⟨fun d e => ?_, fun hl => by
    show n ≤ i
    simpa [rangeD] using hl⟩
  unfold rangeD at e
  rw [List.getElem?_map, Option.map_eq_some_iff] at e
  obtain ⟨j, ej, rfl⟩ := e
  have hi : i < n := by
    have := (List.getElem?_eq_some_iff.mp ej).1
    simpa using this
  have e2 : j = i := by
    rw [List.getElem?_eq_getElem (by simpa using hi)] at ej
    simpa using ej.symm
  subst e2
  refine ⟨hi, fun x H2 ⟨e3, e4⟩ => ?_⟩
  subst e3 e4
  exact ⟨Le.refl _, r', by unfold RepV; rfl⟩
def wRng1 (w : WA) : WI := fun ρ S Q E => w ρ S (fun ds S1 => (match ds with
  | [.int j] => -(2 ^ 62) ≤ j ∧ j < 2 ^ 62 ∧ Q ⟨rangeD 0 j.toNat, fun _ => True⟩ S1
  | _ => False)) E
def wRng2 (w : WA) : WI := fun ρ S Q E => w ρ S (fun ds S1 => (match ds with
  | [.int i, .int j] => (-(2 ^ 62) ≤ i ∧ i < 2 ^ 62 ∧ -(2 ^ 62) ≤ j ∧ j < 2 ^ 62) ∧ Q ⟨rangeD i (j - i).toNat, fun _ => True⟩ S1
  | _ => False)) E
theorem repL1 {K : PySem.W.Frag} {H : Hp} {d : D} {vs : List V} (h : RepL K H [d] vs) : ∃ v, vs = [v] ∧ RepV K H d v := by
  obtain ⟨v, r, rfl, p, q⟩ := h.inv
  cases q.nil_inv
  exact ⟨v, rfl, p⟩
theorem repL2 {K : PySem.W.Frag} {H : Hp} {d e : D} {vs : List V} (h : RepL K H [d, e] vs) : ∃ v u, vs = [v, u] ∧ RepV K H d v ∧ RepV K H e u := by
  obtain ⟨v, r, rfl, p, q⟩ := h.inv
  obtain ⟨u, rfl, p2⟩ := repL1 q
  exact ⟨v, u, rfl, p, p2⟩
theorem ri_rng1 {a : Expr} {wa : WA} {p pos : Pos} (hg : Gl X "range") (hm : X.mg "range" = none) (ha : RA X W [a] wa) (hs : starEach [a] X.env = [(false, eval a X.env)] := by rfl) : RI X W tg (.Call (.Name "range" p) [a] [] pos) (wRng1 wa) :=
  pi_imp (pi_range1 hg hm ha hs) fun σ H R ⟨ρ, S, QA, EA, rs, rp, h, k, x⟩ => ⟨ρ, S, _, EA, rs, rp, h, fun ds S1 vs H1 h1 l1 r1 p1 => by
    match ds, h1, p1 with
    | [.int j], h1, p1 =>
      obtain ⟨v, rfl, p⟩ := repL1 p1
      unfold RepV at p
      subst p
      exact ⟨j, rfl, h1.1, h1.2.1, k _ S1 _ H1 h1.2.2 l1 r1 isim_range⟩, x⟩
theorem ri_rng2 {a b : Expr} {wa : WA} {p pos : Pos} (hg : Gl X "range") (hm : X.mg "range" = none) (ha : RA X W [a, b] wa) (hs : starEach [a, b] X.env = [(false, eval a X.env), (false, eval b X.env)] := by rfl) (hs2 : starEach [b] X.env = [(false, eval b X.env)] := by rfl) :
    RI X W tg (.Call (.Name "range" p) [a, b] [] pos) (wRng2 wa) :=
  pi_imp (pi_range2 hg hm ha hs hs2) fun σ H R ⟨ρ, S, QA, EA, rs, rp, h, k, x⟩ => ⟨ρ, S, _, EA, rs, rp, h, fun ds S1 vs H1 h1 l1 r1 p1 => by
    match ds, h1, p1 with
    | [.int i, .int j], h1, p1 =>
      obtain ⟨v, u, rfl, p, q⟩ := repL2 p1
      unfold RepV at p q
      subst p q
      exact ⟨i, j, rfl, h1.1, k _ S1 _ H1 h1.2 l1 r1 isim_range⟩, x⟩
/-! zip -/
def zipD (xs ys : List D) : List D := List.zipWith (fun x y => D.tup [x, y]) xs ys
theorem zipD_get {xs ys : List D} {i : Nat} {d : D} (h : (zipD xs ys)[i]? = some d) : ∃ x y, xs[i]? = some x ∧ ys[i]? = some y ∧ d = .tup [x, y] := by
  unfold zipD at h
  rw [List.getElem?_zipWith] at h
  cases e1 : xs[i]? with
  | none => simp [e1] at h
  | some x =>
    cases e2 : ys[i]? with
    | none => simp [e1, e2] at h
    | some y =>
      simp [e1, e2] at h
      exact ⟨x, y, rfl, rfl, h.symm⟩
theorem zipD_len {xs ys : List D} {i : Nat} (h : (zipD xs ys).length ≤ i) : xs.length ≤ i ∨ ys.length ≤ i := by
  unfold zipD at h
  rw [List.length_zipWith] at h
  omega
def wZip (w : WA) : WI := fun ρ S Q E => w ρ S (fun ds S1 => (match ds with
  | [.tup xs, .tup ys] => Q ⟨zipD xs ys, fun _ => True⟩ S1
  | [.ref a, .ref b] => (match S1 a, S1 b with
    | some (.lst xs), some (.lst ys) => Q ⟨zipD xs ys, fun S => S a = some (.lst xs) ∧ S b = some (.lst ys)⟩ S1
    | _, _ => False)
  | _ => False)) E
theorem isim_zipT {K : PySem.W.Frag} {H : Hp} {a b : Addr} {xs ys : List D} {vs us : List V} (t : TupP K H a vs) (q : RepL K H xs vs) (t' : TupP K H b us) (q' : RepL K H ys us) : ISim K H (ItzT K a b) ⟨zipD xs ys, fun _ => True⟩ := fun i H' S' l' r' _ => by
  have sq : SqT K H' a vs := (t.le l').sq
  have sq' : SqT K H' b us := (t'.le l').sq
  refine ⟨fun d e => ?_, fun hl => ⟨vs, us, sq, sq', by rw [q.length, q'.length]; exact zipD_len hl⟩⟩
  obtain ⟨x, y, ex, ey, rfl⟩ := zipD_get e
  obtain ⟨v, ev, p⟩ := (q.le l').get ex
  obtain ⟨u, eu, p'⟩ := (q'.le l').get ey
  refine ⟨⟨vs, us, v, u, sq, sq', ev, eu⟩, fun z H2 ⟨T, x1, y1, e1, e2, e3, e4, e5⟩ => ?_⟩
  subst e1 e3
  have h1 : x1 = v := Option.some.inj ((e4 vs sq).symm.trans ev)
  have h2 : y1 = u := Option.some.inj ((e5 us sq').symm.trans eu)
  subst h1 h2
  refine ⟨Le.new e2, r'.new e2, ?_⟩
  unfold RepV
  exact ⟨T, _, rfl, .inl upd_same, repL_cons (p.le (Le.new e2)) (repL_cons (p'.le (Le.new e2)) repL_nil)⟩
theorem isim_zipL {K : PySem.W.Frag} {H : Hp} {a b : Addr} {xs ys : List D} : ISim K H (Itz K a b) ⟨zipD xs ys, fun S => S a = some (.lst xs) ∧ S b = some (.lst ys)⟩ := fun i H' S' l' r' st => by
  obtain ⟨vs, h1, q⟩ := r' a _ st.1
  obtain ⟨us, h2, q'⟩ := r' b _ st.2
  have sq : SqL K H' a vs := .inl (.inl h1)
  have sq' : SqL K H' b us := .inl (.inl h2)
  refine ⟨fun d e => ?_, fun hl => ⟨vs, us, sq, sq', by rw [q.length, q'.length]; exact zipD_len hl⟩⟩
  obtain ⟨x, y, ex, ey, rfl⟩ := zipD_get e
  obtain ⟨v, ev, p⟩ := q.get ex
  obtain ⟨u, eu, p'⟩ := q'.get ey
  refine ⟨⟨vs, us, v, u, sq, sq', ev, eu⟩, fun z H2 ⟨T, x1, y1, e1, e2, e3, e4, e5⟩ => ?_⟩
  subst e1 e3
  have h1 : x1 = v := Option.some.inj ((e4 vs sq).symm.trans ev)
  have h2 : y1 = u := Option.some.inj ((e5 us sq').symm.trans eu)
  subst h1 h2
  refine ⟨Le.new e2, r'.new e2, ?_⟩
  unfold RepV
  exact ⟨T, _, rfl, .inl upd_same, repL_cons (p.le (Le.new e2)) (repL_cons (p'.le (Le.new e2)) repL_nil)⟩
theorem ri_zip {e e2 : Expr} {wa : WA} {p pos tpos : Pos} {elts : List Expr} {kk : Nat} (hg : Gl X "zip") (hm : X.mg "zip" = none) (ha : RA X W [e, e2] wa)
    (hs : starEach [e, e2] X.env = (false, eval e X.env) :: starEach [e2] X.env := by rfl) (hpl : (backTo pos (starEach [e2] X.env)).any (·.1) = false := by rfl) :
    RI X W (.Tuple elts kk tpos) (.Call (.Name "zip" p) [e, e2] [] pos) (wZip wa) :=
  pi_imp (pi_zipA hg hm ha hs hpl) fun σ H R ⟨ρ, S, QA, EA, rs, rp, h, k, x⟩ => ⟨ρ, S, _, EA, rs, rp, h, fun ds S1 vs H1 h1 l1 r1 p1 => by
    match ds, h1, p1 with
    | [.tup xs, .tup ys], h1, p1 =>
      obtain ⟨v, u, rfl, p, q⟩ := repL2 p1
      unfold RepV at p q
      obtain ⟨a, vs, rfl, t, q1⟩ := p
      obtain ⟨b, us, rfl, t', q2⟩ := q
      exact ⟨a, b, vs, us, rfl, .inr ⟨t.sq, t'.sq, k _ S1 _ H1 h1 l1 r1 (isim_zipT t q1 t' q2)⟩⟩
    | [.ref a, .ref b], h1, p1 =>
      obtain ⟨v, u, rfl, p, q⟩ := repL2 p1
      unfold RepV at p q
      subst p q
      cases e1 : S1 a with
      | none => simp [e1] at h1
      | some o =>
        cases e2 : S1 b with
        | none => simp [e1, e2] at h1
        | some o' =>
          cases o with
          | lst xs =>
            cases o' with
            | lst ys =>
              simp only [e1, e2] at h1
              obtain ⟨vs, g1, g2⟩ := r1 a _ e1
              obtain ⟨us, g3, g4⟩ := r1 b _ e2
              exact ⟨a, b, vs, us, rfl, .inl ⟨.inl (.inl g1), .inl (.inl g3), k _ S1 _ H1 h1 l1 r1 isim_zipL⟩⟩
            | _ => simp [e1, e2] at h1
          | _ => simp [e1, e2] at h1, x⟩
end

/-! ### comprehensions -/
def W0 : WX := fun _ _ _ _ => False
def X0 : XA := fun _ _ => False
def lcA (g : WG) (tt : WT) (te : WE) (js : List Nat) (still : Sto → Prop) (ρ : DEnv) (p : Addr) : List D → List D → Sto → (List D → Sto → Prop) → Prop
  | [], acc, S, Q => still S ∧ S p = some (.lst acc) ∧ Q acc S
  | x :: xs, acc, S, Q => still S ∧ g x (wipeA ρ js) S fun ρ2 S2 => tt ρ2 S2 (fun b S3 =>
      if b = true then te ρ2 S3 (fun y S4 => S4 p = some (.lst acc) ∧ acc.length < sizeLine ∧ lcA g tt te js still ρ p xs (acc ++ [y]) (put S4 p (.lst (acc ++ [y]))) Q) X0
      else lcA g tt te js still ρ p xs acc S3 Q) X0
def wLc (wi : WI) (g : WG) (tt : WT) (te : WE) (js : List Nat) : WE := fun ρ S Q E => wi ρ S (fun it S1 => ∀ p, S1 p = none → lcA g tt te js it.still ρ p it.items [] (put S1 p (.lst [])) (fun _ S2 => Q (.ref p) S2)) E
def wYes : WT := fun _ S Q _ => Q true S
theorem lcA_still {g : WG} {tt : WT} {te : WE} {js : List Nat} {still : Sto → Prop} {ρ : DEnv} {p : Addr} {xs acc : List D} {S : Sto} {Q : List D → Sto → Prop} (h : lcA g tt te js still ρ p xs acc S Q) : still S := by
  cases xs with
  | nil => exact h.1
  | cons x xs => exact h.1
theorem wipe_get (σ : L2.St) (i : Nat) : ∀ (js : List Nat), i ∈ js → i < σ.length → (L2.wipe σ js)[i]? = some none
  | [], h, _ => by simp at h
  | j :: js, h, hl => by
    unfold L2.wipe
    by_cases e : j = i
    · subst e
      rw [List.getElem?_set_self (by rw [wipe_length]; exact hl)]
    · rw [List.getElem?_set_ne e]
      exact wipe_get σ i js (by simpa [Ne.symm e] using h) hl
theorem wipe_agr {js : List Nat} {σ σ2 : L2.St} (h : Agr js (L2.wipe σ js) σ2) : L2.wipe σ2 js = L2.wipe σ js := by
  have hl : σ2.length = σ.length := by rw [h.1, wipe_length]
  refine List.ext_getElem? fun i => ?_
  by_cases hi : i ∈ js
  · by_cases hlt : i < σ.length
    · rw [wipe_get σ i js hi hlt, wipe_get σ2 i js hi (by rw [hl]; exact hlt)]
    · rw [List.getElem?_eq_none (by rw [wipe_length, hl]; omega), List.getElem?_eq_none (by rw [wipe_length]; omega)]
  · rw [wipe_out hi, h.2 i hi]
section
variable {X : Cx} {W : WX} {elt tg iter : Expr} {ifs : List Expr} {scope : Scope} {own : List (Str × Nat)} {pos : Pos} {wi : WI} {g : WG} {tt : WT} {te : WE} {js : List Nat}
def RTs (X : Cx) (W : WX) (ifs : List Expr) (w : WT) : Prop := PTs X ifs (cT X.K W w)
theorem rts_nil : RTs X W [] wYes := ⟨fun pins s σ H Q I ⟨ρ, S, QA, EA, rs, rp, h, k, x⟩ => pts_nil.run pins s σ H Q I (k true S H h (Le.refl H) rp)⟩
theorem rts_one {c : Expr} (h : RT X W c tt) : RTs X W [c] tt := pts_one h
theorem sim_lc {K : PySem.W.Frag} : ∀ σ H Q, cE K W (wLc wi g tt te js) σ H Q → tLc (cI K W wi) (cG K js g) (cT K W0 tt) (cE K W0 te) js σ H Q := fun σ H Q ⟨ρ, S, QA, EA, rs, rp, h, k, x⟩ =>
  ⟨ρ, S, _, EA, rs, rp, h, fun it S1 J H1 h1 l1 r1 sim Dl nD => by
    have hl := h1 Dl (r1.free nD)
    have l0 : Le H1 (upd H1 Dl (.lst [])) := Le.new nD
    have r0 : Rep K (upd H1 Dl (.lst [])) (put S1 Dl (.lst [])) := r1.newP nD ⟨[], upd_same, repL_nil⟩
    refine ⟨fun i m H' => ∃ acc S', Le H1 H' ∧ Rep K H' S' ∧ i ≤ it.items.length ∧ m = it.items.length - i ∧ lcA g tt te js it.still ρ Dl (it.items.drop i) acc S' (fun _ S2 => QA (.ref Dl) S2),
      ⟨it.items.length, [], _, l0, r0, Nat.zero_le _, rfl, hl⟩, ?_⟩
    rintro i m H' ⟨acc, S', l', rp', hi, rfl, hl⟩
    obtain ⟨s1, s2⟩ := sim i H' S' l' rp' (lcA_still hl)
    cases hd : it.items.drop i with
    | nil =>
      rw [hd] at hl
      have hle : it.items.length ≤ i := by
        have := congrArg List.length hd
        simp only [List.length_drop, List.length_nil] at this
        omega
      exact .inl ⟨s2 hle, k _ S' _ H' hl.2.2 (l1.trans l') rp' (by unfold RepV; rfl)⟩
    | cons d r =>
      rw [hd] at hl
      obtain ⟨e1, e2⟩ := drop_cons hd
      have hlt : i < it.items.length := (List.getElem?_eq_some_iff.mp e1).1
      obtain ⟨go, yl⟩ := s1 d e1
      refine .inr ⟨go, fun H2 => ∃ acc S2, Le H1 H2 ∧ Rep K H2 S2 ∧ lcA g tt te js it.still ρ Dl r acc S2 (fun _ S2 => QA (.ref Dl) S2), ?_, fun x H2 hy => ?_⟩
      · rintro H2 ⟨acc, S2, l2, rp2, h2⟩
        exact ⟨it.items.length - (i + 1), by omega, acc, S2, l2, rp2, hlt, rfl, by rw [e2]; exact h2⟩
      · obtain ⟨l2, r2, p2⟩ := yl x H2 hy
        have rsw : RepS K H2 (wipeA ρ js) (L2.wipe σ js) := (rs.le ((l1.trans l').trans l2)).wipe js
        refine ⟨d, wipeA ρ js, S', _, p2, rsw, r2, hl.2, fun ρ3 S3 σ3 H3 q3 l3 rs3 rp3 ag => ⟨wipe_agr ag, ρ3, S3, _, X0, rs3, rp3, q3, fun b S4 H4 h4 l4 r4 => ?_, fun _ _ _ z => z.elim⟩⟩
        have L4 : Le H1 H4 := (((l'.trans l2).trans l3).trans l4)
        cases b with
        | false => exact ⟨acc, S4, L4, r4, h4⟩
        | true =>
          refine ⟨ρ3, S4, _, X0, rs3.le l4, r4, h4, fun y S5 v H5 ⟨h5, hz, h6⟩ l5 r5 p5 => ?_, fun _ _ _ z => z.elim⟩
          obtain ⟨vs, g1, g2⟩ := r5 Dl _ h5
          refine ⟨vs, g1, by rw [g2.length]; exact hz, acc ++ [y], _, (L4.trans l5).trans (r5.le_put h5), r5.put (o := .lst (acc ++ [y])) h5 ⟨_, upd_same, ?_⟩, h6⟩
          exact (g2.append (repL_cons p5 repL_nil)).le (r5.le_put h5), x⟩
theorem re_lc (hc : X.calm = true) (hN : X.N.Nodup) (hi : RI X W tg iter wi) (ok : BlkOk X.N X.env.scope scope own)
    (hg : ∀ (s : Shared) (H : Hp) (C : Addr) (cl : List (Str × Addr)) (fp : List Addr), RG (X.blk s H scope (compEnvC scope cl C X.env) fp) (own.map (·.2)) tg g) (ht : ∀ (s : Shared) (H : Hp) (C : Addr) (cl : List (Str × Addr)) (fp : List Addr), RTs (X.blk s H scope (compEnvC scope cl C X.env) fp) W0 ifs tt)
    (he : ∀ (s : Shared) (H : Hp) (C : Addr) (cl : List (Str × Addr)) (fp : List Addr), RE (X.blk s H scope (compEnvC scope cl C X.env) fp) W0 elt te) (hs : ∀ x, foldedSetIterable iter X.env x = pure x := by intro _; rfl) :
    RE X W (.ListComp elt [⟨tg, iter, ifs, 0⟩] scope pos) (wLc wi g tt te (own.map (·.2))) := pe_imp (pe_lc (own := own) (g := cG X.K (own.map fun (q : Str × Nat) => q.2) g) (tt := cT X.K W0 tt) (te := cE X.K W0 te) hc hN hi ok hg ht he hs) sim_lc
theorem rs_setLc {i : Nat} {y : Str} {py spos : Pos} (hc : X.calm = true) (hN : X.N.Nodup) (hy : X.N[i]? = some y) (hyl : X.env.scope.names.lookup y = some .local)
    (hsw : swapsWith (.ListComp elt [⟨tg, iter, ifs, 0⟩] scope pos) (some (.Name y py)) spos.line X.env = pure true) (hi : RI X W tg iter wi) (ok : BlkOk X.N X.env.scope scope own)
    (hg : ∀ (s : Shared) (H : Hp) (C : Addr) (cl : List (Str × Addr)) (fp : List Addr), RG (X.blk s H scope (compEnvC scope cl C X.env) fp) (own.map (·.2)) tg g) (ht : ∀ (s : Shared) (H : Hp) (C : Addr) (cl : List (Str × Addr)) (fp : List Addr), RTs (X.blk s H scope (compEnvC scope cl C X.env) fp) W0 ifs tt)
    (he : ∀ (s : Shared) (H : Hp) (C : Addr) (cl : List (Str × Addr)) (fp : List Addr), RE (X.blk s H scope (compEnvC scope cl C X.env) fp) W0 elt te) (hs : ∀ x, foldedSetIterable iter X.env x = pure x := by intro _; rfl) :
    RS X W (.Assign [.Name y py] (.ListComp elt [⟨tg, iter, ifs, 0⟩] scope pos) spos) (wAsg (wLc wi g tt te (own.map (·.2))) (gN i)) :=
  ps_imp (ps_setLc (own := own) (g := cG X.K (own.map fun (q : Str × Nat) => q.2) g) (tt := cT X.K W0 tt) (te := cE X.K W0 te) hc hN hy hyl hsw hi ok hg ht he hs) fun E σ H ⟨ρ, S, A, rs, rp, h, k⟩ => sim_lc σ H _ ⟨ρ, S, _, _, rs, rp, h, fun d S1 v H1 q l r p => k.nx _ S1 _ H1 q l ((rs.le l).set p i) r, k.x rs⟩
end
end Ab
set_option Elab.async false
set_option linter.all false
set_option maxRecDepth 100000
set_option maxHeartbeats 4000000
namespace Ab
open PySem PySem.Spec PyProof.Rows L2 RZ

/-! ### defs -/
abbrev WF := List D → Sto → AK → XA → Prop
def spA (K : PySem.W.Frag) (n : Nat) (w : WF) : Sp := fun vs H Q E => vs.length = n ∧ ∃ ds S QA EA, RepL K H ds vs ∧ Rep K H S ∧ w ds S QA EA ∧ KOk K H QA Q ∧ ∀ c S' H', EA c S' → Le H H' → Rep K H' S' → E c none H'
/-- a def's body as a function: m slots in all -/
def wFn (m : Nat) (b : WS) : WF := fun ds S Q E => b { nx := fun _ S' => Q .non S', rt := Q, bk := fun _ _ => False, ct := fun _ _ => False, xe := fun c _ S' => E c S' } (ds.map some ++ List.replicate (m - ds.length) none) S
def WD (E : XK) : WX := fun c d _ H => E c d H
theorem repS_start {K : PySem.W.Frag} {H : Hp} {N : List Str} : ∀ {ds : List D} {vs : List V}, RepL K H ds vs → RepS K H (ds.map some ++ List.replicate (N.length - ds.length) none) (L2.start N vs) := fun {ds vs} r => by
  have hl := r.length
  unfold L2.start
  refine ⟨by simp [hl], fun i d e => ?_⟩
  by_cases hi : i < ds.length
  · rw [List.getElem?_append_left (by simpa using hi)] at e
    rw [List.getElem?_append_left (by simpa [hl] using hi)]
    rw [List.getElem?_map] at e ⊢
    cases q : ds[i]? with
    | none => rw [q] at e; simp at e
    | some d' =>
      rw [q] at e
      simp at e
      subst e
      obtain ⟨v, ev, p⟩ := r.get q
      exact ⟨v, by rw [ev]; rfl, p⟩
  · rw [List.getElem?_append_right (by simpa using hi), List.getElem?_replicate] at e
    split at e <;> simp at e
section
variable {P : Program} {w : World} {K : PySem.W.Frag} {mg : Str → Option Value} {base : Heap} {qual : Str} {scope : Scope} {f : Addr} {N : List Str} {cdv : Value} {A : Around} {outer : List Env} {s : Shared} {H : Hp} {E : XK}
theorem tk_of : Takes (cxOf (L2.CX P w) P w K mg base N qual scope f cdv A outer s H E) (WD E) := takes_of (X := cxOf (L2.CX P w) P w K mg base N qual scope f cdv A outer s H E) (E := E) rfl rfl rfl rfl
theorem hp_of : PassesOwn (model P w) (A.deeper (envOfC qual scope s.heap.objs.size f cdv)) (envOfC qual scope s.heap.objs.size f cdv) (cxOf (L2.CX P w) P w K mg base N qual scope f cdv A outer s H E).xe :=
  passes_of (X := cxOf (L2.CX P w) P w K mg base N qual scope f cdv A outer s H E) rfl
/-- THE RULE for a def -/
theorem fn_ok {x : Str} {params : Arguments} {body : List Stmt} {dvs : List V} {kws : List (Str × V)} {fd : FuncData} {ps : List Str} {k : Nat} {b : WS}
    (F : FunD K x qual params body scope dvs kws f fd) (S : FnScope N ps scope)
    (h : ∀ (cdv : Value) (A : Around) (outer : List Env) (s : Shared) (H : Hp) (E : XK), Room k (A.deeper (envOfC qual scope s.heap.objs.size f cdv)) → RSs (cxOf (L2.CX P w) P w K mg base N qual scope f cdv A outer s H E) (WD E) body b) :
    FnOk P w K mg base (L2.CX P w) (k + 1) f fd ps (spA K ps.length (wFn N.length b)) := by
  refine F.ok S (fun vs H Q E h => h.1) (fun cdv A outer s H vs Q E hr hs => ⟨_, h cdv A outer s H E hr, ?_⟩)
  obtain ⟨hl, ds, S, QA, EA, rl, rp, hw, k, x⟩ := hs
  exact ⟨_, S, _, repS_start rl, rp, hw, ⟨fun ρ S' σ H' q l _ r => k .non S' .non H' q l r (by unfold RepV; rfl), k, fun _ _ _ _ z => z.elim, fun _ _ _ _ z => z.elim, fun c ρ S' σ H' q l _ r => x c S' H' q l r⟩⟩
/-- a def that is never called so -/
theorem fn_false {fd : FuncData} {ps : List Str} {k n : Nat} : FnOk P w K mg base (L2.CX P w) k f fd ps (spA K n fun _ _ _ _ => False) :=
  ⟨fun _ _ _ _ ⟨_, _, _, _, _, _, _, z, _⟩ => z.elim, fun _ _ _ _ _ _ _ _ _ _ _ _ _ ⟨_, _, _, _, _, _, _, z, _⟩ => z.elim⟩
end

/-! ### calls -/
def wCall (n : Nat) (w : WF) (wa : WA) : WE := fun ρ S Q E => wa ρ S (fun ds S1 => ds.length = n ∧ w ds S1 Q E) E
def wMeth (C : Addr) (m : Str) (n : Nat) (w : WF) (wo : WE) (wa : WA) : WE := fun ρ S Q E => wo ρ S (fun x S1 => (match x with
  | .ref a => (∃ fs, S1 a = some (.ins C fs) ∧ fs.lookup m = none) ∧ wa ρ S1 (fun ds S2 => ds.length + 1 = n ∧ w (.ref a :: ds) S2 Q E) E
  | _ => False)) E
def wMake (C : Addr) (n : Nat) (w : WF) (wa : WA) : WE := fun ρ S Q E => wa ρ S (fun ds S1 => ds.length + 1 = n ∧ ∀ x, S1 x = none → w (.ref x :: ds) (put S1 x (.ins C [])) (fun v S2 => v = .non ∧ Q (.ref x) S2) E) E
theorem RepK.lookup {K : PySem.W.Frag} {H : Hp} {f : Str} : ∀ {fs : List (Str × D)} {us : List (Str × V)}, RepK K H fs us → (∀ d, fs.lookup f = some d → ∃ v, us.lookup f = some v ∧ RepV K H d v) ∧ (fs.lookup f = none → us.lookup f = none)
  | [], _, h => by
    cases (show _ = [] from h)
    exact ⟨fun d e => by simp at e, fun _ => rfl⟩
  | (g, d) :: r, _, ⟨v, q, e, p, t⟩ => by
    subst e
    obtain ⟨i1, i2⟩ := RepK.lookup (f := f) t
    cases hb : f == g with
    | true =>
      simp only [List.lookup, hb]
      exact ⟨fun d' e => ⟨v, rfl, by cases e; exact p⟩, fun e => by cases e⟩
    | false =>
      simp only [List.lookup, hb]
      exact ⟨i1, i2⟩
section
variable {X : Cx} {W : WX} {k n : Nat} {f C : Addr} {fd : FuncData} {ps : List Str} {w : WF} {x m : Str} {p pos apos : Pos} {e o : Expr} {es : List Expr} {wa : WA} {wo : WE}
theorem XOk.wd {K : PySem.W.Frag} {H : Hp} {σ : L2.St} {EA : XA} (h : XOk K W H σ EA) : ∀ c S' H', EA c S' → Le H H' → Rep K H' S' → W c none σ H' := h
theorem re_call (F : FnOk X.prog X.w X.K X.mg X.base (L2.CX X.prog X.w) k f fd ps (spA X.K n w)) (hr : Room k X.A) (hg : Gl X x) (hm : X.mg x = some (.ref f)) (hk : PySem.W.keepIn X.K (.ref f) = true) (hb : Binds X.K fd ps []) (tk : Takes X W)
    (ha : RA X W (e :: es) wa) (hdb : (x == ("__debug__" : Str)) = false := by decide) (he : starEach (e :: es) X.env = (false, eval e X.env) :: starEach es X.env := by rfl) (hpl : (backTo pos (starEach es X.env)).any (·.1) = false := by rfl) :
    RE X W (.Call (.Name x p) (e :: es) [] pos) (wCall n w wa) :=
  pe_imp (pe_callS (E := L2.WE W) F hr hg hm hk hb (passAt tk) ha hdb he hpl) fun σ H Q ⟨ρ, S, QA, EA, rs, rp, h, k, x⟩ => ⟨ρ, S, _, EA, rs, rp, h, fun ds S1 vs H1 h1 l1 r1 p1 =>
    ⟨by rw [p1.length]; exact h1.1, ds, S1, QA, EA, p1, r1, h1.2, k.le l1, x.le l1⟩, x⟩
def tMethS (C : Addr) (m : Str) (sp : Sp) (E : L2.St → XK) (ta : TE) (t : TA) : TE := fun σ H Q => ta σ H fun x H1 => ∃ a dx fs, x = .ref a ∧ H1 a = some (.ins C dx fs) ∧ fs.lookup m = none ∧ t σ H1 fun vs H2 => sp (x :: vs) H2 Q (E σ)
theorem pe_methS {CX : CXT} {sp : Sp} {E : L2.St → XK} {ta : TE} {t : TA} {pl : Sem Bool} (he : PE X o ta) (c : Cls X.K C) (hm : Meth X.K C m f) (F : FnOk X.prog X.w X.K X.mg X.base CX k f fd ps sp) (hr : Room k X.A) (hb : Binds X.K fd ps []) (hx : ∀ σ, PassesAt CX X σ (E σ)) (ha : PA X (e :: es) t)
    (hst : starEach (e :: es) X.env = (false, eval e X.env) :: starEach es X.env := by rfl) (hpl : (backTo pos (starEach es X.env)).any (·.1) = false := by rfl)
    (ht : eval (.Call (.Attribute o m apos) (e :: es) [] pos) X.env = (do
      let ov ← eval o X.env
      standAt apos.atName
      let (f, first) ← holding [ov] (getMethod ov m pl)
      callWith pos f first (backTo pos (starEach (e :: es) X.env)) (backToKw pos (keywordEach [] X.env))) := by rfl) :
    PE X (.Call (.Attribute o m apos) (e :: es) [] pos) (tMethS C m sp E ta t) := by
  refine ⟨fun pins s σ H Q I h => ?_⟩
  refine PySem.W.methodCall_KW (pl := pl) (thn (he.run pins s σ H _ I h) fun u s1 ⟨x, H1, I1, rx, a, dx, fs, ex, ea, l, q⟩ => ?_) ht
  subst ex
  obtain rfl : u = Value.ref a := rx
  refine getmeth_ok I1 ea c hm l ?_
  refine PySem.W.callWith_K (first := [.ref a]) (h₀ := X.base) I.ok.mod.kin hm.kp (thn (ha.run pos pins s1 σ H1 _ I1 q) fun us s2 ⟨vs, H2, I2, r, q2⟩ => ⟨I2.kIn, ?_⟩) hst hpl
  exact run_fnS (us := .ref a :: us) (vs := .ref a :: vs) F hr hb (hx σ) I2 (.cons rfl r) q2
theorem pe_methS0 {CX : CXT} {sp : Sp} {E : L2.St → XK} {ta : TE} {pl : Sem Bool} (he : PE X o ta) (c : Cls X.K C) (hm : Meth X.K C m f) (F : FnOk X.prog X.w X.K X.mg X.base CX k f fd ps sp) (hr : Room k X.A) (hb : Binds X.K fd ps []) (hx : ∀ σ, PassesAt CX X σ (E σ))
    (ht : eval (.Call (.Attribute o m apos) [] [] pos) X.env = (do
      let ov ← eval o X.env
      standAt apos.atName
      let (f, first) ← holding [ov] (getMethod ov m pl)
      callWith pos f first (backTo pos (starEach [] X.env)) (backToKw pos (keywordEach [] X.env))) := by rfl) :
    PE X (.Call (.Attribute o m apos) [] [] pos) (tMethS C m sp E ta tNil) := by
  refine ⟨fun pins s σ H Q I h => ?_⟩
  refine PySem.W.methodCall_KW (pl := pl) (thn (he.run pins s σ H _ I h) fun u s1 ⟨x, H1, I1, rx, a, dx, fs, ex, ea, l, q⟩ => ?_) ht
  subst ex
  obtain rfl : u = Value.ref a := rx
  refine getmeth_ok I1 ea c hm l ?_
  exact PySem.W.callWith_K0 (first := [.ref a]) I1.kIn hm.kp (run_fnS (us := [.ref a]) (vs := [.ref a]) F hr hb (hx σ) I1 (.cons rfl .nil) q)
theorem sim_meth {ta : TA} (hta : ∀ σ H Q, cA X.K W wa σ H Q → ta σ H Q) : ∀ σ H Q, cE X.K W (wMeth C m n w wo wa) σ H Q → tMethS C m (spA X.K n w) (L2.WE W) (cE X.K W wo) ta σ H Q := fun σ H Q ⟨ρ, S, QA, EA, rs, rp, h, k, x⟩ => ⟨ρ, S, _, EA, rs, rp, h, fun d S1 v H1 h1 l1 r1 p1 => by
    cases d with
    | ref a =>
      unfold RepV at p1
      subst p1
      obtain ⟨⟨fs, e1, e2⟩, h2⟩ := h1
      obtain ⟨dx, us, g1, g2⟩ := r1 a _ e1
      refine ⟨a, dx, us, rfl, g1, (g2.lookup (f := m)).2 e2, hta σ H1 _ ⟨ρ, S1, _, EA, rs.le l1, r1, h2, fun ds S2 vs H2 h3 l2 r2 p2 => ?_, x.le l1⟩⟩
      exact ⟨by rw [List.length_cons, p2.length]; exact h3.1, .ref a :: ds, S2, QA, EA, repL_cons (by unfold RepV; rfl) p2, r2, h3.2, k.le (l1.trans l2), x.le (l1.trans l2)⟩
    | _ => exact (show False from h1).elim, x⟩
theorem re_meth {pl : Sem Bool} (ho : RE X W o wo) (c : Cls X.K C) (hm : Meth X.K C m f) (F : FnOk X.prog X.w X.K X.mg X.base (L2.CX X.prog X.w) k f fd ps (spA X.K n w)) (hr : Room k X.A) (hb : Binds X.K fd ps []) (tk : Takes X W) (ha : RA X W (e :: es) wa)
    (hst : starEach (e :: es) X.env = (false, eval e X.env) :: starEach es X.env := by rfl) (hpl : (backTo pos (starEach es X.env)).any (·.1) = false := by rfl)
    (ht : eval (.Call (.Attribute o m apos) (e :: es) [] pos) X.env = (do
      let ov ← eval o X.env
      standAt apos.atName
      let (f, first) ← holding [ov] (getMethod ov m pl)
      callWith pos f first (backTo pos (starEach (e :: es) X.env)) (backToKw pos (keywordEach [] X.env))) := by rfl) :
    RE X W (.Call (.Attribute o m apos) (e :: es) [] pos) (wMeth C m n w wo wa) := pe_imp (pe_methS (E := L2.WE W) ho c hm F hr hb (passAt tk) ha hst hpl ht) (sim_meth fun _ _ _ h => h)
theorem re_meth0 {pl : Sem Bool} (ho : RE X W o wo) (c : Cls X.K C) (hm : Meth X.K C m f) (F : FnOk X.prog X.w X.K X.mg X.base (L2.CX X.prog X.w) k f fd ps (spA X.K n w)) (hr : Room k X.A) (hb : Binds X.K fd ps []) (tk : Takes X W)
    (ht : eval (.Call (.Attribute o m apos) [] [] pos) X.env = (do
      let ov ← eval o X.env
      standAt apos.atName
      let (f, first) ← holding [ov] (getMethod ov m pl)
      callWith pos f first (backTo pos (starEach [] X.env)) (backToKw pos (keywordEach [] X.env))) := by rfl) :
    RE X W (.Call (.Attribute o m apos) [] [] pos) (wMeth C m n w wo wNil) := pe_imp (pe_methS0 (E := L2.WE W) ho c hm F hr hb (passAt tk) ht) (sim_meth (wa := wNil) fun σ H Q ⟨ρ, S, QA, EA, rs, rp, h, k, x⟩ => k [] S [] H h (Le.refl H) rp repL_nil)
/-! a new instance -/
def tMakeS (C : Addr) (sp : Sp) (E : L2.St → XK) (t : TA) : TE := fun σ H Q => t σ H fun vs H1 => ∀ x dx, H1 x = none → H1 dx = none → dx ≠ x →
  sp (.ref x :: vs) (upd (upd H1 dx (.own x)) x (.ins C dx [])) (fun v H2 => v = .non ∧ Q (.ref x) H2) (E σ)
theorem pe_makeS {CX : CXT} {sp : Sp} {E : L2.St → XK} {t : TA} (M : Mk X.K C f) (F : FnOk X.prog X.w X.K X.mg X.base CX k f fd ps sp) (hr : Room (k + 1) X.A) (hg : Gl X x) (hm : X.mg x = some (.ref C)) (hb : Binds X.K fd ps []) (hx : ∀ σ, PassesAt CX X σ (E σ))
    (ha : PA X (e :: es) t) (hdb : (x == ("__debug__" : Str)) = false := by decide) (he : starEach (e :: es) X.env = (false, eval e X.env) :: starEach es X.env := by rfl) (hpl : (backTo pos (starEach es X.env)).any (·.1) = false := by rfl) :
    PE X (.Call (.Name x p) (e :: es) [] pos) (tMakeS C sp E t) := by
  refine ⟨fun pins s σ H Q I h => ?_⟩
  refine wpAny_Call_Name_kw (ld_glob I hg hm ?_ hdb)
  refine PySem.W.callWith_K (h₀ := X.base) I.ok.mod.kin M.kp (thn (ha.run pos pins s σ H _ I h) fun us s1 ⟨vs, H1, I1, r, q⟩ => ⟨I1.kIn, ?_⟩) he hpl
  have hq := q (s1.heap.objs.size + 1) s1.heap.objs.size (I1.hok.fresh (Nat.le_succ _)) (I1.hok.fresh (Nat.le_refl _)) (Nat.ne_of_lt (Nat.lt_succ_self _))
  have I2 := Inv.made (C := C) I1
  have r2 : Vals (V.ref (s1.heap.objs.size + 1) :: vs) (Value.ref (s1.heap.objs.size + 1) :: us) := .cons rfl r
  have hl : (Value.ref (s1.heap.objs.size + 1) :: us).length = ps.length := by
    have e := r2.length
    rw [F.len _ _ _ _ hq] at e
    exact e.symm
  have b := hb _ (Value.ref (s1.heap.objs.size + 1) :: us) I2.kIn (by rw [List.append_nil]; exact hl)
  rw [List.append_nil] at b
  refine wpAny_call (make_map (f := f) I1.kIn M.makes M.init (beq_iff_eq.mp M.fn) (codeAny_mono (F.run _ X.stack _ _ ⟨Value.ref (s1.heap.objs.size + 1) :: us, []⟩ (Value.ref (s1.heap.objs.size + 1) :: us) _ _ (E σ) (hr.make C us [])
    (I2.env0.make C us []) b r2 hq) fun r s' hq' => ?_))
  cases r with
  | error e => exact hx σ pins _ _ e s' I2 hq'
  | ok fl =>
    cases fl with
    | ret u =>
      obtain ⟨v, H', I3, rv, ev, q3⟩ := I2.after hq'
      subst ev
      exact ⟨rv, ⟨V.ref (s1.heap.objs.size + 1), H', I3, rfl, q3⟩⟩
    | next => exact False.elim hq'
    | brk => exact False.elim hq'
    | cont => exact False.elim hq'
theorem re_make (M : Mk X.K C f) (F : FnOk X.prog X.w X.K X.mg X.base (L2.CX X.prog X.w) k f fd ps (spA X.K n w)) (hr : Room (k + 1) X.A) (hg : Gl X x) (hm : X.mg x = some (.ref C)) (hb : Binds X.K fd ps []) (tk : Takes X W)
    (ha : RA X W (e :: es) wa) (hdb : (x == ("__debug__" : Str)) = false := by decide) (he : starEach (e :: es) X.env = (false, eval e X.env) :: starEach es X.env := by rfl) (hpl : (backTo pos (starEach es X.env)).any (·.1) = false := by rfl) :
    RE X W (.Call (.Name x p) (e :: es) [] pos) (wMake C n w wa) :=
  pe_imp (pe_makeS (E := L2.WE W) M F hr hg hm hb (passAt tk) ha hdb he hpl) fun σ H Q ⟨ρ, S, QA, EA, rs, rp, h, k, x⟩ => ⟨ρ, S, _, EA, rs, rp, h, fun ds S1 vs H1 h1 l1 r1 p1 y dx ny nd ne => by
    have nd' : H1 dx = none := nd
    have ny' : upd H1 dx (.own y) y = none := by rw [upd_ne (Ne.symm ne)]; exact ny
    have L : Le H1 (upd (upd H1 dx (.own y)) y (.ins C dx [])) := (Le.new nd').trans (Le.new ny')
    refine ⟨by rw [List.length_cons, p1.length]; exact h1.1, .ref y :: ds, put S1 y (.ins C []), _, EA, repL_cons (by unfold RepV; rfl) (p1.le L), (r1.new nd').newP ny' ⟨dx, [], upd_same, rfl⟩, h1.2 y (r1.free ny), ?_, x.le (l1.trans L)⟩
    rintro d S2 v H2 ⟨rfl, q⟩ l2 r2 p2
    unfold RepV at p2
    exact ⟨p2, k _ S2 _ H2 q ((l1.trans L).trans l2) r2 (by unfold RepV; rfl)⟩, x⟩
end

/-! ### fields -/
def putFA (f : Str) (v : D) : List (Str × D) → List (Str × D)
  | [] => [(f, v)]
  | (g, x) :: r => if g = f then (g, v) :: r else (g, x) :: putFA f v r
theorem RepK.putF {K : PySem.W.Frag} {H : Hp} {f : Str} {d : D} {v : V} (p : RepV K H d v) : ∀ {fs : List (Str × D)} {us : List (Str × V)}, RepK K H fs us → RepK K H (putFA f d fs) (L2.putF f v us)
  | [], _, h => by
    cases (show _ = [] from h)
    exact ⟨v, [], rfl, p, rfl⟩
  | (g, e) :: r, _, ⟨u, q, eq, pe, t⟩ => by
    subst eq
    unfold putFA L2.putF
    by_cases h : g = f
    · rw [if_pos h, if_pos h]
      exact ⟨v, q, rfl, p, t⟩
    · rw [if_neg h, if_neg h]
      exact ⟨u, _, rfl, pe, RepK.putF p t⟩
def wFld (C : Addr) (f : Str) (w : WE) : WE := fun ρ S Q E => w ρ S (fun x S1 => (match x with
  | .ref a => ∃ fs d, S1 a = some (.ins C fs) ∧ fs.lookup f = some d ∧ Q d S1
  | _ => False)) E
def wSetF (C : Addr) (f : Str) (wo wv : WE) : WS := fun A ρ S => wv ρ S (fun d S1 => wo ρ S1 (fun x S2 => (match x with
  | .ref a => ∃ fs, S2 a = some (.ins C fs) ∧ fs.length < 1000 ∧ A.nx ρ (put S2 a (.ins C (putFA f d fs)))
  | _ => False)) (fun c S2 => A.xe c ρ S2)) (fun c S1 => A.xe c ρ S1)
section
variable {X : Cx} {W : WX} {C : Addr} {f : Str} {e o value : Expr} {we wo wv : WE} {pos pos' : Pos}
theorem re_fld (c : Cls X.K C) (nf : NoAttr X.K C f) (he : RE X W e we) (hb : attributeBase e f X.env (eval e X.env) = eval e X.env := by rfl) : RE X W (.Attribute e f pos) (wFld C f we) :=
  pe_imp (pe_fld he hb) fun σ H Q ⟨ρ, S, QA, EA, rs, rp, h, k, x⟩ => ⟨ρ, S, _, EA, rs, rp, h, fun d S1 v H1 h1 l1 r1 p1 => by
    cases d with
    | ref a =>
      unfold RepV at p1
      subst p1
      obtain ⟨fs, d, e1, e2, q⟩ := h1
      obtain ⟨dx, us, g1, g2⟩ := r1 a _ e1
      obtain ⟨v, ev, pv⟩ := (g2.lookup (f := f)).1 d e2
      exact ⟨a, C, dx, us, v, rfl, g1, c, nf, ev, k d S1 v H1 q l1 r1 pv⟩
    | _ => exact (show False from h1).elim, x⟩
theorem rs_setf (c : Cls X.K C) (nf : NoAttr X.K C f) (ho : RE X W o wo) (hv : RE X W value wv) (hs : swapsWith value (some (.Attribute o f pos')) pos.line X.env = pure false := by rfl) : RS X W (.Assign [.Attribute o f pos'] value pos) (wSetF C f wo wv) :=
  ps_imp (ps_fld ho hv hs) fun E σ H ⟨ρ, S, A, rs, rp, h, k⟩ => ⟨ρ, S, _, _, rs, rp, h, fun d S1 v H1 h1 l1 r1 p1 => ⟨ρ, S1, _, _, rs.le l1, r1, h1, fun y S2 u H2 h2 l2 r2 p2 => by
    cases y with
    | ref a =>
      unfold RepV at p2
      subst p2
      obtain ⟨fs, e1, e2, q⟩ := h2
      obtain ⟨dx, us, g1, g2⟩ := r2 a _ e1
      have L : Le H2 (upd H2 a (.ins C dx (L2.putF f v us))) := r2.le_put e1
      refine ⟨a, C, dx, us, rfl, g1, c, nf, by rw [g2.length]; exact e2, k.nx ρ _ σ _ q ((l1.trans l2).trans L) (rs.le ((l1.trans l2).trans L)) (r2.put (o := .ins C (putFA f d fs)) e1 ⟨dx, _, upd_same, (g2.le L).putF (p1.le (l2.trans L))⟩)⟩
    | _ => exact (show False from h2).elim, (k.le l1).x (rs.le l1)⟩, k.x rs⟩
end

/-! ### raise -/
def wRaise (C : Value) : WS := fun A ρ S => A.xe C ρ S
section
variable {X : Cx} {W : WX} {C : Addr} {bmB : List Value} {B newId initId : String}
/-- X() -/
theorem pmk_own0 {x : Str} {p pos : Pos} (F : ExcBaseFacts B newId initId bmB) (q : PySem.W.excIn X.K C bmB newId = true) (gC : X.mg x = some (.ref C)) (kC : PySem.W.keepIn X.K (.ref C) = true) (r : Raises X (.ref C)) (hg : Gl X x)
    (hdb : (x == ("__debug__" : Str)) = false := by decide) : PMk X (.Call (.Name x p) [] [] pos) (fun _ H Q => Q (.ref C) none H) := by
  intro pins s σ H Q I h
  refine wpAny_Call_Name_kw (ld_glob I hg gC ?_ hdb)
  refine PySem.W.callWith_K0 I.kIn kC ?_
  obtain ⟨bm, N, nm, qn, bs, hdct, sn, sub, ab, col, dd, k0, k1, k2, k3, k5, mN, hC, hN, hni, T⟩ := exc_obj I.kIn q
  refine wpAny_call_exc_subT F T hC hN hni (fun h' e hm => ?_) (by show 0 ≤ sizeLine; exact Nat.zero_le _)
  exact mk_of I hm r h (I.hok.gone hm.new)
theorem rs_raise {e : Expr} {pos : Pos} (hc : X.calm = true) (tk : Takes X W) (he : PMk X e (fun _ H Q => Q (.ref C) none H)) : RS X W (.Raise (some e) none pos) (wRaise (.ref C)) :=
  ps_imp (ps_raise hc tk he) fun E σ H ⟨ρ, S, A, rs, rp, h, k⟩ => k.xe _ ρ S σ H h (Le.refl H) rs rp
end
end Ab
set_option Elab.async false
set_option linter.all false
set_option maxRecDepth 100000
set_option maxHeartbeats 4000000
namespace Ab
open PySem PySem.Spec PyProof.Rows L2 RZ

/-! ### arithmetic -/
def aI (g : Int → Int → D) : WR2 := fun x y S Q => (match x, y with
  | .int i, .int j => Q (g i j) S
  | _, _ => False)
def aIC (C : Int → Int → Prop) (g : Int → Int → D) : WR2 := fun x y S Q => (match x, y with
  | .int i, .int j => C i j ∧ Q (g i j) S
  | _, _ => False)
section
variable {K : PySem.W.Frag}
theorem sim_I {g : Int → Int → D} {gv : Int → Int → V} (h : ∀ i j H, RepV K H (g i j) (gv i j)) : Sim2 K (rI0 gv) (aI g) := fun x y dx dy H S QA Q p q r a k => by
  cases dx with
  | int i =>
    cases dy with
    | int j =>
      unfold RepV at p q
      exact ⟨i, j, p, q, k _ S _ H a (Le.refl H) r (h i j H)⟩
    | _ => exact (show False from a).elim
  | _ => exact (show False from a).elim
theorem sim_IC {C : Int → Int → Prop} {g : Int → Int → D} {gv : Int → Int → V} (h : ∀ i j H, RepV K H (g i j) (gv i j)) : Sim2 K (rI C gv) (aIC C g) := fun x y dx dy H S QA Q p q r a k => by
  cases dx with
  | int i =>
    cases dy with
    | int j =>
      unfold RepV at p q
      exact ⟨i, j, p, q, a.1, k _ S _ H a.2 (Le.refl H) r (h i j H)⟩
    | _ => exact (show False from a).elim
  | _ => exact (show False from a).elim
theorem sim_or {r r' : R2} {a a' : WR2} (h : Sim2 K r a) (h' : Sim2 K r' a') : Sim2 K (fun x y H Q => r x y H Q ∨ r' x y H Q) (fun x y S Q => a x y S Q ∨ a' x y S Q) := fun x y dx dy H S QA Q p q rp z k => by
  rcases z with z | z
  · exact .inl (h x y dx dy H S QA Q p q rp z k)
  · exact .inr (h' x y dx dy H S QA Q p q rp z k)
theorem rep_int {H : Hp} (i : Int) : RepV K H (.int i) (.int i) := by unfold RepV; rfl
theorem rep_bl {H : Hp} (i : Bool) : RepV K H (.bl i) (.bl i) := by unfold RepV; rfl
theorem rep_str {H : Hp} (i : Str) : RepV K H (.str i) (.str i) := by unfold RepV; rfl
theorem rep_non {H : Hp} : RepV K H .non .non := by unfold RepV; rfl
theorem rep_ref {H : Hp} (a : Addr) : RepV K H (.ref a) (.ref a) := by unfold RepV; rfl
end
def aSub : WR2 := aI fun i j => .int (i - j)
def aMod : WR2 := aIC (fun _ j => j ≠ 0) fun i j => .int (i.fmod j)
def aDiv : WR2 := aIC CDivN fun i j => .int (i.fdiv j)
/-- a + b: ints, texts, tuples, lists -/
def aAdd : WR2 := fun x y S Q => (match x, y with
  | .int i, .int j => Q (.int (i + j)) S
  | .str i, .str j => i.length + j.length ≤ sizeLine ∧ Q (.str (i ++ j)) S
  | .tup xs, .tup ys => xs.length + ys.length ≤ sizeLine ∧ Q (.tup (xs ++ ys)) S
  | .ref a, .ref b => (match S a, S b with
    | some (.lst xs), some (.lst ys) => xs.length + ys.length ≤ sizeLine ∧ ∀ p, S p = none → Q (.ref p) (put S p (.lst (xs ++ ys)))
    | _, _ => False)
  | _, _ => False)
/-- a * b: ints; a tuple, a list, so many times -/
def aMul : WR2 := fun x y S Q => (match x, y with
  | .int i, .int j => CMul i j ∧ Q (.int (i * j)) S
  | .tup xs, .int k => xs ≠ [] ∧ 2 ≤ k ∧ k ≤ 1000 ∧ xs.length ≤ 1000 ∧ Q (.tup (List.replicate k.toNat xs).flatten) S
  | .ref a, .int k => (match S a with
    | some (.lst xs) => -(2 ^ 63) ≤ k ∧ k < 2 ^ 63 ∧ xs.length * k.toNat ≤ sizeLine ∧ ∀ p, S p = none → Q (.ref p) (put S p (.lst (List.replicate k.toNat xs).flatten))
    | _ => False)
  | _, _ => False)
section
variable {X : Cx} {K : PySem.W.Frag}
theorem RepL.rep {H : Hp} {ds : List D} {vs : List V} (h : RepL K H ds vs) : ∀ n : Nat, RepL K H (List.replicate n ds).flatten (List.replicate n vs).flatten
  | 0 => repL_nil
  | n + 1 => by
    rw [List.replicate_succ, List.replicate_succ, List.flatten_cons, List.flatten_cons]
    exact h.append (RepL.rep h n)
theorem RepL.ne_nil {H : Hp} {ds : List D} {vs : List V} (h : RepL K H ds vs) : vs = [] ↔ ds = [] := by
  have e := h.length
  cases ds <;> cases vs <;> simp at e ⊢
def rAddV (K : PySem.W.Frag) : R2 := fun x y H Q => (rI0 fun i j => .int (i + j)) x y H Q ∨ (∃ i j, x = .str i ∧ y = .str j ∧ i.length + j.length ≤ sizeLine ∧ Q (.str (i ++ j)) H) ∨ rCatA K x y H Q ∨ rCat x y H Q
theorem op_addA : OpR X (binaryOp .Add) (rAddV X.K) := op_add.or (op_add_str.or (op_catA.or op_cat))
theorem sim_add : Sim2 K (rAddV K) aAdd := fun x y dx dy H S QA Q p q r a k => by
  cases dx with
  | int i =>
    cases dy with
    | int j =>
      unfold RepV at p q
      exact .inl ⟨i, j, p, q, k _ S _ H a (Le.refl H) r (rep_int _)⟩
    | _ => exact (show False from a).elim
  | str i =>
    cases dy with
    | str j =>
      unfold RepV at p q
      exact .inr (.inl ⟨i, j, p, q, a.1, k _ S _ H a.2 (Le.refl H) r (rep_str _)⟩)
    | _ => exact (show False from a).elim
  | tup xs =>
    cases dy with
    | tup ys =>
      have p0 := p
      have q0 := q
      unfold RepV at p q
      obtain ⟨t, vs, rfl, tp, rl⟩ := p
      obtain ⟨u, us, rfl, tq, rm⟩ := q
      refine .inr (.inr (.inl ⟨t, u, vs, us, rfl, rfl, tp.sq, tq.sq, by rw [rl.length, rm.length]; exact a.1, fun e => ?_, fun e e2 => ?_, fun e e2 l hl => ?_⟩))
      · have e' := rl.ne_nil.mp e
        subst e'
        exact k _ S _ H a.2 (Le.refl H) r q0
      · have e' := rm.ne_nil.mp e2
        subst e'
        refine k _ S _ H a.2 (Le.refl H) r ?_
        rw [List.append_nil]
        exact p0
      · refine k _ S _ _ a.2 (Le.new hl) (r.new hl) ?_
        unfold RepV
        exact ⟨l, _, rfl, .inl upd_same, (rl.append rm).le (Le.new hl)⟩
    | _ => exact (show False from a).elim
  | ref t =>
    cases dy with
    | ref u =>
      unfold RepV at p q
      subst p q
      unfold aAdd at a
      cases e1 : S t with
      | none => simp [e1] at a
      | some o =>
        cases o with
        | lst xs =>
          cases e2 : S u with
          | none => simp [e1, e2] at a
          | some o' =>
            cases o' with
            | lst ys =>
              simp only [e1, e2] at a
              obtain ⟨vs, g1, g2⟩ := r t _ e1
              obtain ⟨us, g3, g4⟩ := r u _ e2
              refine .inr (.inr (.inr ⟨t, u, vs, us, rfl, rfl, g1, g3, by rw [g2.length, g4.length]; exact a.1, fun l hl => ?_⟩))
              exact k _ _ _ _ (a.2 l (r.free hl)) (Le.new hl) (r.newP (o := .lst (xs ++ ys)) hl ⟨_, upd_same, (g2.append g4).le (Le.new hl)⟩) (rep_ref _)
            | _ => simp [e1, e2] at a
        | _ => simp [e1] at a
    | _ => exact (show False from a).elim
  | _ => exact (show False from a).elim
def rMulV (K : PySem.W.Frag) : R2 := fun x y H Q => (rI CMul fun i j => .int (i * j)) x y H Q ∨ rRepT K x y H Q ∨ rRep x y H Q
theorem op_mulA : OpR X (binaryOp .Mult) (rMulV X.K) := op_mul.or (op_repT.or op_rep)
theorem sim_mul : Sim2 K (rMulV K) aMul := fun x y dx dy H S QA Q p q r a k => by
  cases dx with
  | int i =>
    cases dy with
    | int j =>
      unfold RepV at p q
      exact .inl ⟨i, j, p, q, a.1, k _ S _ H a.2 (Le.refl H) r (rep_int _)⟩
    | _ => exact (show False from a).elim
  | tup xs =>
    cases dy with
    | int j =>
      unfold RepV at p q
      obtain ⟨t, vs, rfl, tp, rl⟩ := p
      refine .inr (.inl ⟨t, j, vs, rfl, q, tp.sq, fun e => a.1 (rl.ne_nil.mp e), a.2.1, a.2.2.1, by rw [rl.length]; exact a.2.2.2.1, fun l hl => k _ S _ _ a.2.2.2.2 (Le.new hl) (r.new hl) ?_⟩)
      unfold RepV
      exact ⟨l, _, rfl, .inl upd_same, (rl.rep _).le (Le.new hl)⟩
    | _ => exact (show False from a).elim
  | ref t =>
    cases dy with
    | int j =>
      unfold RepV at p q
      subst p q
      unfold aMul at a
      cases e1 : S t with
      | none => simp [e1] at a
      | some o =>
        cases o with
        | lst xs =>
          simp only [e1] at a
          obtain ⟨vs, g1, g2⟩ := r t _ e1
          refine .inr (.inr ⟨t, j, vs, rfl, rfl, g1, a.1, a.2.1, by rw [g2.length]; exact a.2.2.1, fun l hl => ?_⟩)
          exact k _ _ _ _ (a.2.2.2 l (r.free hl)) (Le.new hl) (r.newP (o := .lst (List.replicate j.toNat xs).flatten) hl ⟨_, upd_same, (g2.rep _).le (Le.new hl)⟩) (rep_ref _)
        | _ => simp [e1] at a
    | _ => exact (show False from a).elim
  | _ => exact (show False from a).elim
end
section
variable {X : Cx} {W : WX} {a b : Expr} {wa wb : WE} {pos : Pos}
theorem re_add (ha : RE X W a wa) (hb : RE X W b wb) : RE X W (.BinOp a .Add b pos) (wOp aAdd wa wb) := re_op op_addA sim_add ha hb
theorem re_sub (ha : RE X W a wa) (hb : RE X W b wb) : RE X W (.BinOp a .Sub b pos) (wOp aSub wa wb) := re_op op_sub (sim_I fun _ _ _ => rep_int _) ha hb
theorem re_mul (ha : RE X W a wa) (hb : RE X W b wb) : RE X W (.BinOp a .Mult b pos) (wOp aMul wa wb) := re_op op_mulA sim_mul ha hb
theorem re_mod (ha : RE X W a wa) (hb : RE X W b wb) : RE X W (.BinOp a .Mod b pos) (wOp aMod wa wb) := re_op op_modN (sim_IC fun _ _ _ => rep_int _) ha hb
theorem re_div (ha : RE X W a wa) (hb : RE X W b wb) : RE X W (.BinOp a .FloorDiv b pos) (wOp aDiv wa wb) := re_op op_fdivN (sim_IC fun _ _ _ => rep_int _) ha hb
def aNeg : WR1 := fun x S Q => (match x with
  | .int i => Q (.int (-i)) S
  | _ => False)
theorem re_neg (ha : RE X W a wa) : RE X W (.UnaryOp .USub a pos) (wUn aNeg wa) := re_un un_neg (fun x dx H S QA Q p r h k => by
  cases dx with
  | int i =>
    unfold RepV at p
    exact ⟨i, p, k _ S _ H h (Le.refl H) r (rep_int _)⟩
  | _ => exact (show False from h).elim) ha
end

/-! ### order of ints and of tuples of ints -/
def intsOf : List D → Option (List Int)
  | [] => some []
  | .int i :: r => (intsOf r).map (i :: ·)
  | _ => none
theorem intsOf_eq : ∀ {ds : List D} {ns : List Int}, intsOf ds = some ns → ds = ns.map D.int
  | [], ns, h => by
    unfold intsOf at h
    cases h
    rfl
  | .int i :: r, ns, h => by
    unfold intsOf at h
    rw [Option.map_eq_some_iff] at h
    obtain ⟨m, hm, rfl⟩ := h
    rw [intsOf_eq hm]
    rfl
  | .non :: _, _, h => by simp [intsOf] at h
  | .bl _ :: _, _, h => by simp [intsOf] at h
  | .str _ :: _, _, h => by simp [intsOf] at h
  | .tup _ :: _, _, h => by simp [intsOf] at h
  | .ref _ :: _, _, h => by simp [intsOf] at h
  | .scr _ :: _, _, h => by simp [intsOf] at h
  | .ty _ :: _, _, h => by simp [intsOf] at h
theorem intsOf_map : ∀ (ns : List Int), intsOf (ns.map D.int) = some ns
  | [] => rfl
  | n :: ns => by
    show (intsOf (ns.map D.int)).map (n :: ·) = _
    rw [intsOf_map ns]
    rfl
def aOrd (g : Int → Int → Bool) (h : List Int → List Int → Bool) : WR2 := fun x y S Q => (match x, y with
  | .int i, .int j => Q (.bl (g i j)) S
  | .tup xs, .tup ys => (match intsOf xs, intsOf ys with
    | some ns, some ms => Q (.bl (h ns ms)) S
    | _, _ => False)
  | _, _ => False)
theorem sim_ord {K : PySem.W.Frag} {g : Int → Int → Bool} {h : List Int → List Int → Bool} {rT : R2} (hT : ∀ x y H Q, (∃ a b ns ms, x = .ref a ∧ y = .ref b ∧ SqT K H a (ns.map V.int) ∧ SqT K H b (ms.map V.int) ∧ Q (.bl (h ns ms)) H) → rT x y H Q) :
    Sim2 K (fun x y H Q => (rI0 fun i j => .bl (g i j)) x y H Q ∨ rT x y H Q) (aOrd g h) := fun x y dx dy H S QA Q p q r a k => by
  cases dx with
  | int i =>
    cases dy with
    | int j =>
      unfold RepV at p q
      exact .inl ⟨i, j, p, q, k _ S _ H a (Le.refl H) r (rep_bl _)⟩
    | _ => exact (show False from a).elim
  | tup xs =>
    cases dy with
    | tup ys =>
      unfold RepV at p q
      obtain ⟨t, vs, rfl, tp, rl⟩ := p
      obtain ⟨u, us, rfl, tq, rm⟩ := q
      unfold aOrd at a
      cases e1 : intsOf xs with
      | none => simp [e1] at a
      | some ns =>
        cases e2 : intsOf ys with
        | none => simp [e1, e2] at a
        | some ms =>
          simp only [e1, e2] at a
          have h1 := intsOf_eq e1
          have h2 := intsOf_eq e2
          subst h1 h2
          have h3 := rl.ints
          have h4 := rm.ints
          subst h3 h4
          exact .inr (hT _ _ H Q ⟨t, u, ns, ms, rfl, rfl, tp.sq, tq.sq, k _ S _ H a (Le.refl H) r (rep_bl _)⟩)
    | _ => exact (show False from a).elim
  | _ => exact (show False from a).elim
def aLt : WR2 := aOrd (fun i j => decide (i < j)) HT.lexLt
def aIs (g : Int → Int → Bool) : WR2 := aI fun i j => .bl (g i j)
def aLe : WR2 := aIs fun i j => decide (i ≤ j)
def aGt : WR2 := aIs fun i j => decide (j < i)
def aGe : WR2 := aIs fun i j => decide (j ≤ i)
def rLtV (K : PySem.W.Frag) : R2 := fun x y H Q => (rI0 fun i j => .bl (decide (i < j))) x y H Q ∨ rLtT K x y H Q
theorem sim_lt {K : PySem.W.Frag} : Sim2 K (rLtV K) aLt := sim_ord fun _ _ _ _ z => z
theorem op_ltA {X : Cx} (hu : X.A.units < cLine) : OpR X (compareOp .Lt) (rLtV X.K) := op_lt.or (op_ltT hu)
section
variable {X : Cx} {W : WX} {a b c : Expr} {wa wb wc : WE} {pos : Pos}
theorem re_lt (hu : X.A.units < cLine) (ha : RE X W a wa) (hb : RE X W b wb) : RE X W (.Compare a [.Lt] [b] pos) (wOp aLt wa wb) := re_cmp (op_ltA hu) sim_lt ha hb (nomark _)
theorem rt_lt (hu : X.A.units < cLine) (ha : RE X W a wa) (hb : RE X W b wb) : RT X W (.Compare a [.Lt] [b] pos) (wB (wOp aLt wa wb)) := rt_cmp (op_ltA hu) sim_lt ha hb (nomark _)
theorem re_le (ha : RE X W a wa) (hb : RE X W b wb) : RE X W (.Compare a [.LtE] [b] pos) (wOp aLe wa wb) := re_cmp op_le (sim_I fun _ _ _ => rep_bl _) ha hb (nomark _)
theorem rt_le (ha : RE X W a wa) (hb : RE X W b wb) : RT X W (.Compare a [.LtE] [b] pos) (wB (wOp aLe wa wb)) := rt_cmp op_le (sim_I fun _ _ _ => rep_bl _) ha hb (nomark _)
theorem re_gt (ha : RE X W a wa) (hb : RE X W b wb) : RE X W (.Compare a [.Gt] [b] pos) (wOp aGt wa wb) := re_cmp op_gt (sim_I fun _ _ _ => rep_bl _) ha hb (nomark _)
theorem rt_gt (ha : RE X W a wa) (hb : RE X W b wb) : RT X W (.Compare a [.Gt] [b] pos) (wB (wOp aGt wa wb)) := rt_cmp op_gt (sim_I fun _ _ _ => rep_bl _) ha hb (nomark _)
theorem re_ge (ha : RE X W a wa) (hb : RE X W b wb) : RE X W (.Compare a [.GtE] [b] pos) (wOp aGe wa wb) := re_cmp op_ge (sim_I fun _ _ _ => rep_bl _) ha hb (nomark _)
theorem rt_ge (ha : RE X W a wa) (hb : RE X W b wb) : RT X W (.Compare a [.GtE] [b] pos) (wB (wOp aGe wa wb)) := rt_cmp op_ge (sim_I fun _ _ _ => rep_bl _) ha hb (nomark _)
theorem sim_le {K : PySem.W.Frag} : Sim2 K (rI0 fun i j => .bl (decide (i ≤ j))) aLe := sim_I fun _ _ _ => rep_bl _
theorem sim_lti {K : PySem.W.Frag} : Sim2 K (rI0 fun i j => .bl (decide (i < j))) (aIs fun i j => decide (i < j)) := sim_I fun _ _ _ => rep_bl _
theorem re_chain {op op' : CmpOp} {r r' : R2} {ra ra' : WR2} (ho : OpR X (compareOp op) r) (ho' : OpR X (compareOp op') r') (sr : Sim2 X.K r ra) (sr' : Sim2 X.K r' ra') (ha : RE X W a wa) (hb : RE X W b wb) (hc : RE X W c wc)
    (hm : lastMarks [op, op'] [b, c] = false := by with_unfolding_all rfl) : RE X W (.Compare a [op, op'] [b, c] pos) (wChain ra ra' wa wb wc) := pe_imp (pe_chain ho ho' ha hb hc hm) (sim_chain sr sr')
theorem rt_chain {op op' : CmpOp} {r r' : R2} {ra ra' : WR2} (ho : OpR X (compareOp op) r) (ho' : OpR X (compareOp op') r') (sr : Sim2 X.K r ra) (sr' : Sim2 X.K r' ra') (ha : RE X W a wa) (hb : RE X W b wb) (hc : RE X W c wc)
    (hm : lastMarks [op, op'] [b, c] = false := by with_unfolding_all rfl) : RT X W (.Compare a [op, op'] [b, c] pos) (wB (wChain ra ra' wa wb wc)) :=
  pt_imp (pt_chain ho ho' ha hb hc hm) fun σ H Q ⟨ρ, S, QA, EA, rs, rp, h, k, x⟩ => sim_chain (W := W) sr sr' σ H _ ⟨ρ, S, _, EA, rs, rp, h, fun d S1 v H1 ⟨b, e, q⟩ l1 r1 p1 => by
    subst e
    unfold RepV at p1
    exact ⟨b, p1, k b S1 H1 q l1 r1⟩, x⟩
end
end Ab
set_option Elab.async false
set_option linter.all false
set_option maxRecDepth 100000
set_option maxHeartbeats 4000000
namespace Ab
open PySem PySem.Spec PyProof.Rows L2 RZ

theorem hu_room {k : Nat} {A : Around} (r : Room k A) : A.units + 100 < cLine := by have := r.un; omega

/-! ### data without objects -/
mutual
def pd : D → PyData
  | .non => .none
  | .bl b => .bool b
  | .int i => .int i
  | .str x => .str x
  | .tup ds => .tuple (pdL ds)
  | _ => .none
def pdL : List D → List PyData
  | [] => []
  | d :: ds => pd d :: pdL ds
end
/-- no object within, at most n deep -/
def okD : Nat → D → Bool
  | _, .non => true
  | _, .bl _ => true
  | _, .int _ => true
  | _, .str x => PyData.strOk x
  | 0, .tup _ => false
  | n + 1, .tup ds => ds.all (okD n)
  | _, _ => false
section
variable {K : PySem.W.Frag} {H : Hp}
mutual
theorem dp_of : ∀ {d : D} {n : Nat} {v : V}, okD n d = true → RepV K H d v → Dp K H v (pd d)
  | .non, _, _, _, r => by unfold RepV at r; subst r; unfold pd; exact .non
  | .bl b, _, _, _, r => by unfold RepV at r; subst r; unfold pd; exact .bl b
  | .int i, _, _, _, r => by unfold RepV at r; subst r; unfold pd; exact .int i
  | .str x, _, _, _, r => by unfold RepV at r; subst r; unfold pd; exact .str x
  | .tup ds, 0, _, h, _ => by unfold okD at h; cases h
  | .tup ds, n + 1, _, h, r => by
    unfold okD at h
    unfold RepV at r
    obtain ⟨a, vs, rfl, t, q⟩ := r
    unfold pd
    exact .tup t.sq (dpAll_of h q)
  | .ref _, n, _, h, _ => by cases n <;> (unfold okD at h; cases h)
  | .scr _, n, _, h, _ => by cases n <;> (unfold okD at h; cases h)
  | .ty _, n, _, h, _ => by cases n <;> (unfold okD at h; cases h)
theorem dpAll_of : ∀ {ds : List D} {n : Nat} {vs : List V}, ds.all (okD n) = true → RepL K H ds vs → DpAll K H vs (pdL ds)
  | [], _, _, _, r => by rw [r.nil_inv]; unfold pdL; exact .nil
  | d :: ds, n, _, h, r => by
    obtain ⟨v, q, rfl, p, t⟩ := r.inv
    rw [List.all_cons, Bool.and_eq_true] at h
    unfold pdL
    exact .cons (dp_of h.1 p) (dpAll_of h.2 t)
end
mutual
theorem okD_lay : ∀ {d : D} {n : Nat}, okD n d = true → PyData.canLay0 (pd d) = true ∧ PyData.depth (pd d) ≤ n
  | .non, _, _ => by unfold pd; exact ⟨rfl, Nat.zero_le _⟩
  | .bl b, _, _ => by unfold pd; exact ⟨rfl, Nat.zero_le _⟩
  | .int i, _, _ => by unfold pd; exact ⟨rfl, Nat.zero_le _⟩
  | .str x, n, h => by
    have h' : PyData.strOk x = true := by cases n <;> (unfold okD at h; exact h)
    unfold pd
    exact ⟨h', Nat.zero_le _⟩
  | .tup ds, 0, h => by unfold okD at h; cases h
  | .tup ds, n + 1, h => by
    unfold okD at h
    unfold pd
    obtain ⟨h1, h2⟩ := okL_lay h
    exact ⟨h1, Nat.succ_le_succ h2⟩
  | .ref _, n, h => by cases n <;> (unfold okD at h; cases h)
  | .scr _, n, h => by cases n <;> (unfold okD at h; cases h)
  | .ty _, n, h => by cases n <;> (unfold okD at h; cases h)
theorem okL_lay : ∀ {ds : List D} {n : Nat}, ds.all (okD n) = true → PyData.canLayAll0 (pdL ds) = true ∧ PyData.depthAll (pdL ds) ≤ n
  | [], _, _ => by unfold pdL; exact ⟨rfl, Nat.zero_le _⟩
  | d :: ds, n, h => by
    rw [List.all_cons, Bool.and_eq_true] at h
    obtain ⟨h1, h2⟩ := okD_lay h.1
    obtain ⟨h3, h4⟩ := okL_lay h.2
    unfold pdL
    refine ⟨?_, Nat.max_le.mpr ⟨h2, h4⟩⟩
    show (PyData.canLay0 (pd d) && PyData.canLayAll0 (pdL ds)) = true
    rw [h1, h3]
    rfl
end
theorem okD_shaped {d : D} {n : Nat} (h : okD n d = true) (hn : n ≤ 64) : SeqAt.shaped (pd d) = true := by
  obtain ⟨h1, h2⟩ := okD_lay h
  unfold SeqAt.shaped
  rw [h1, decide_eq_true (Nat.le_trans h2 hn)]
  rfl
end
/-! == of such data -/
mutual
def eqD : D → D → Bool
  | .non, .non => true
  | .bl a, .bl b => a == b
  | .bl a, .int j => (if a then 1 else 0) == j
  | .int i, .bl b => i == (if b then 1 else 0)
  | .int i, .int j => i == j
  | .str x, .str y => x == y
  | .tup xs, .tup ys => eqL xs ys
  | _, _ => false
def eqL : List D → List D → Bool
  | [], [] => true
  | x :: xs, y :: ys => eqD x y && eqL xs ys
  | _, _ => false
end
mutual
theorem eqD_pd : ∀ {x y : D} {n m : Nat}, okD n x = true → okD m y = true → PyData.eqv (pd x) (pd y) = eqD x y
  | .non, y, n, m, _, hy => by cases y <;> first | rfl | (cases m <;> (unfold okD at hy; cases hy))
  | .bl a, y, n, m, _, hy => by cases y <;> first | rfl | (cases m <;> (unfold okD at hy; cases hy))
  | .int i, y, n, m, _, hy => by cases y <;> first | rfl | (cases m <;> (unfold okD at hy; cases hy))
  | .str x, y, n, m, _, hy => by cases y <;> first | rfl | (cases m <;> (unfold okD at hy; cases hy))
  | .tup xs, .tup ys, n + 1, m + 1, hx, hy => by
    unfold okD at hx hy
    unfold pd eqD
    exact eqL_pd hx hy
  | .tup xs, .non, _, m, _, hy => rfl
  | .tup xs, .bl _, _, m, _, hy => rfl
  | .tup xs, .int _, _, m, _, hy => rfl
  | .tup xs, .str _, _, m, _, hy => rfl
  | .tup xs, .ref _, _, m, _, hy => by cases m <;> (unfold okD at hy; cases hy)
  | .tup xs, .scr _, _, m, _, hy => by cases m <;> (unfold okD at hy; cases hy)
  | .tup xs, .ty _, _, m, _, hy => by cases m <;> (unfold okD at hy; cases hy)
  | .tup xs, .tup ys, 0, m, hx, hy => by unfold okD at hx; cases hx
  | .tup xs, .tup ys, n + 1, 0, hx, hy => by unfold okD at hy; cases hy
  | .ref _, y, n, m, hx, _ => by cases n <;> (unfold okD at hx; cases hx)
  | .scr _, y, n, m, hx, _ => by cases n <;> (unfold okD at hx; cases hx)
  | .ty _, y, n, m, hx, _ => by cases n <;> (unfold okD at hx; cases hx)
theorem eqL_pd : ∀ {xs ys : List D} {n m : Nat}, xs.all (okD n) = true → ys.all (okD m) = true → PyData.eqvAll (pdL xs) (pdL ys) = eqL xs ys
  | [], [], _, _, _, _ => rfl
  | [], _ :: _, _, _, _, _ => rfl
  | _ :: _, [], _, _, _, _ => rfl
  | x :: xs, y :: ys, n, m, hx, hy => by
    rw [List.all_cons, Bool.and_eq_true] at hx hy
    unfold pdL eqL
    show (PyData.eqv (pd x) (pd y) && PyData.eqvAll (pdL xs) (pdL ys)) = _
    rw [eqD_pd hx.1 hy.1, eqL_pd hx.2 hy.2]
end
theorem any_pd {x : D} {n m : Nat} (hx : okD n x = true) : ∀ {ys : List D}, ys.all (okD m) = true → ((pdL ys).any fun z => PyData.eqv z (pd x)) = ys.any fun z => eqD z x
  | [], _ => rfl
  | y :: ys, hy => by
    rw [List.all_cons, Bool.and_eq_true] at hy
    unfold pdL
    rw [List.any_cons, List.any_cons, eqD_pd hy.1 hx, any_pd hx hy.2]

def aEq : WR2 := fun x y S Q => okD 8 x = true ∧ okD 8 y = true ∧ Q (.bl (eqD x y)) S
def aNe : WR2 := fun x y S Q => okD 8 x = true ∧ okD 8 y = true ∧ Q (.bl (!eqD x y)) S
theorem sim_eq {K : PySem.W.Frag} : Sim2 K (rEqD K) aEq := fun x y dx dy H S QA Q p q r a k =>
  ⟨pd dx, pd dy, dp_of a.1 p, dp_of a.2.1 q, okD_shaped a.1 (by decide), okD_shaped a.2.1 (by decide), by rw [eqD_pd a.1 a.2.1]; exact k _ S _ H a.2.2 (Le.refl H) r (rep_bl _)⟩
theorem sim_ne {K : PySem.W.Frag} : Sim2 K (rNeD K) aNe := fun x y dx dy H S QA Q p q r a k =>
  ⟨pd dx, pd dy, dp_of a.1 p, dp_of a.2.1 q, okD_shaped a.1 (by decide), okD_shaped a.2.1 (by decide), by rw [eqD_pd a.1 a.2.1]; exact k _ S _ H a.2.2 (Le.refl H) r (rep_bl _)⟩
def isNonD : D → Bool
  | .non => true
  | _ => false
def aIsN : WR2 := fun x y S Q => (match y with
  | .non => Q (.bl (isNonD x)) S
  | _ => False)
def aNotN : WR2 := fun x y S Q => (match y with
  | .non => Q (.bl (!isNonD x)) S
  | _ => False)
theorem isNonD_ok {K : PySem.W.Frag} {H : Hp} {d : D} {v : V} (p : RepV K H d v) : decide (v = .non) = isNonD d := by
  cases d with
  | tup ds => unfold RepV at p; obtain ⟨a, vs, rfl, _⟩ := p; rfl
  | scr ns => unfold RepV at p; obtain ⟨a, rfl, _⟩ := p; rfl
  | _ => unfold RepV at p; subst p; rfl
theorem sim_isN {K : PySem.W.Frag} : Sim2 K (fun x y H Q => y = .non ∧ Q (.bl (decide (x = .non))) H) aIsN := fun x y dx dy H S QA Q p q r a k => by
  cases dy with
  | non =>
    unfold RepV at q
    exact ⟨q, k _ S _ H a (Le.refl H) r (by rw [isNonD_ok p]; exact rep_bl _)⟩
  | _ => exact (show False from a).elim
theorem sim_notN {K : PySem.W.Frag} : Sim2 K (fun x y H Q => y = .non ∧ Q (.bl (!decide (x = .non))) H) aNotN := fun x y dx dy H S QA Q p q r a k => by
  cases dy with
  | non =>
    unfold RepV at q
    exact ⟨q, k _ S _ H a (Le.refl H) r (by rw [isNonD_ok p]; exact rep_bl _)⟩
  | _ => exact (show False from a).elim
section
variable {X : Cx} {W : WX} {a b : Expr} {wa wb : WE} {pos : Pos}
theorem re_eq (hu : X.A.units + 100 < cLine) (ha : RE X W a wa) (hb : RE X W b wb) : RE X W (.Compare a [.Eq] [b] pos) (wOp aEq wa wb) := re_cmp (op_eqD (by omega)) sim_eq ha hb (nomark _)
theorem rt_eq (hu : X.A.units + 100 < cLine) (ha : RE X W a wa) (hb : RE X W b wb) : RT X W (.Compare a [.Eq] [b] pos) (wB (wOp aEq wa wb)) := rt_cmp (op_eqD (by omega)) sim_eq ha hb (nomark _)
theorem re_ne (hu : X.A.units + 100 < cLine) (ha : RE X W a wa) (hb : RE X W b wb) : RE X W (.Compare a [.NotEq] [b] pos) (wOp aNe wa wb) := re_cmp (op_neD (by omega)) sim_ne ha hb (nomark _)
theorem rt_ne (hu : X.A.units + 100 < cLine) (ha : RE X W a wa) (hb : RE X W b wb) : RT X W (.Compare a [.NotEq] [b] pos) (wB (wOp aNe wa wb)) := rt_cmp (op_neD (by omega)) sim_ne ha hb (nomark _)
theorem re_isN (ha : RE X W a wa) (hb : RE X W b wb) : RE X W (.Compare a [.Is] [b] pos) (wOp aIsN wa wb) := re_cmp op_isN sim_isN ha hb (nomark _)
theorem rt_isN (ha : RE X W a wa) (hb : RE X W b wb) : RT X W (.Compare a [.Is] [b] pos) (wB (wOp aIsN wa wb)) := rt_cmp op_isN sim_isN ha hb (nomark _)
theorem re_notN (ha : RE X W a wa) (hb : RE X W b wb) : RE X W (.Compare a [.IsNot] [b] pos) (wOp aNotN wa wb) := re_cmp op_notN sim_notN ha hb (nomark _)
theorem rt_notN (ha : RE X W a wa) (hb : RE X W b wb) : RT X W (.Compare a [.IsNot] [b] pos) (wB (wOp aNotN wa wb)) := rt_cmp op_notN sim_notN ha hb (nomark _)
end

/-! ### tables -/
section
variable {κ : Type} [DecidableEq κ]
def getA (kvs : List (κ × D)) (k : κ) : Option D := (kvs.find? fun kv => decide (kv.1 = k)).map (·.2)
def putA (kvs : List (κ × D)) (k : κ) (v : D) : List (κ × D) :=
  if (kvs.any fun kv => decide (kv.1 = k)) = true then kvs.map (fun kv => if kv.1 = k then (kv.1, v) else kv) else kvs ++ [(k, v)]
def delA (kvs : List (κ × D)) (k : κ) : List (κ × D) := kvs.filter fun kv => decide (kv.1 ≠ k)
variable {K : PySem.W.Frag} {H : Hp}
theorem RepK.val {k : κ} : ∀ {kvs : List (κ × D)} {us : List (κ × V)}, RepK K H kvs us → (∀ d, getA kvs k = some d → ∃ v, valV us k = some v ∧ RepV K H d v) ∧ (getA kvs k = none → valV us k = none)
  | [], _, h => by
    cases (show _ = [] from h)
    exact ⟨fun d e => by simp [getA] at e, fun _ => rfl⟩
  | (g, d) :: r, _, ⟨v, q, e, p, t⟩ => by
    subst e
    obtain ⟨i1, i2⟩ := RepK.val (k := k) t
    by_cases h : g = k
    · subst h
      refine ⟨fun d' e => ⟨v, by rw [valV_pos rfl], ?_⟩, fun e => ?_⟩
      · simp [getA, List.find?_cons] at e
        subst e
        exact p
      · simp [getA, List.find?_cons] at e
    · have e1 : getA ((g, d) :: r) k = getA r k := by simp [getA, List.find?_cons, h]
      rw [e1, valV_neg h]
      exact ⟨i1, i2⟩
theorem RepK.any {k : κ} : ∀ {kvs : List (κ × D)} {us : List (κ × V)}, RepK K H kvs us → (us.any fun kv => decide (kv.1 = k)) = kvs.any fun kv => decide (kv.1 = k)
  | [], _, h => by cases (show _ = [] from h); rfl
  | (g, d) :: r, _, ⟨v, q, e, p, t⟩ => by
    subst e
    rw [List.any_cons, List.any_cons, RepK.any t]
theorem RepK.append {kvs kvs' : List (κ × D)} : ∀ {us us' : List (κ × V)}, RepK K H kvs us → RepK K H kvs' us' → RepK K H (kvs ++ kvs') (us ++ us') := by
  induction kvs with
  | nil => intro us us' h h'; cases (show _ = [] from h); exact h'
  | cons a r ih =>
    intro us us' ⟨v, q, e, p, t⟩ h'
    subst e
    exact ⟨v, _, rfl, p, ih t h'⟩
theorem RepK.repl {k : κ} {d : D} {v : V} (pv : RepV K H d v) : ∀ {kvs : List (κ × D)} {us : List (κ × V)}, RepK K H kvs us → RepK K H (kvs.map fun kv => if kv.1 = k then (kv.1, d) else kv) (us.map fun kv => if kv.1 = k then (kv.1, v) else kv)
  | [], _, h => by cases (show _ = [] from h); exact rfl
  | (g, e) :: r, _, ⟨u, q, eq, p, t⟩ => by
    subst eq
    rw [List.map_cons, List.map_cons]
    by_cases h : g = k
    · simp only [h, if_true]
      exact ⟨v, _, rfl, pv, RepK.repl pv t⟩
    · simp only [h, if_false]
      exact ⟨u, _, rfl, p, RepK.repl pv t⟩
theorem RepK.put {k : κ} {d : D} {v : V} (pv : RepV K H d v) {kvs : List (κ × D)} {us : List (κ × V)} (h : RepK K H kvs us) : RepK K H (putA kvs k d) (putK us k v) := by
  unfold putA putK
  rw [h.any]
  split
  · exact h.repl pv
  · exact h.append ⟨v, [], rfl, pv, rfl⟩
theorem RepK.del {k : κ} : ∀ {kvs : List (κ × D)} {us : List (κ × V)}, RepK K H kvs us → RepK K H (delA kvs k) (dropK us k)
  | [], _, h => by cases (show _ = [] from h); exact rfl
  | (g, e) :: r, _, ⟨u, q, eq, p, t⟩ => by
    subst eq
    unfold delA dropK
    by_cases h : g = k
    · rw [List.filter_cons_of_neg (by simp [h]), List.filter_cons_of_neg (by simp [h])]
      exact RepK.del t
    · rw [List.filter_cons_of_pos (by simp [h]), List.filter_cons_of_pos (by simp [h])]
      exact ⟨u, _, rfl, p, RepK.del t⟩
end
def keyA : D → Option Key
  | .int i => some (.inl i)
  | .str x => some (.inr x)
  | _ => none
def keysA : List D → Option (List Key)
  | [] => some []
  | d :: ds => (match keyA d, keysA ds with
    | some k, some ks => some (k :: ks)
    | _, _ => none)
section
variable {K : PySem.W.Frag} {H : Hp}
theorem keyA_ok {d : D} {v : V} {k : Key} (h : keyA d = some k) (p : RepV K H d v) : v = kV k := by
  cases d with
  | int i => unfold keyA at h; cases h; unfold RepV at p; exact p
  | str x => unfold keyA at h; cases h; unfold RepV at p; exact p
  | _ => unfold keyA at h; cases h
theorem keysA_ok : ∀ {ds : List D} {vs : List V} {ks : List Key}, keysA ds = some ks → RepL K H ds vs → vs = ks.map kV
  | [], _, ks, h, r => by unfold keysA at h; cases h; rw [r.nil_inv]; rfl
  | d :: ds, _, ks, h, r => by
    obtain ⟨v, q, rfl, p, t⟩ := r.inv
    unfold keysA at h
    cases e1 : keyA d with
    | none => rw [e1] at h; cases h
    | some k =>
      cases e2 : keysA ds with
      | none => rw [e1, e2] at h; cases h
      | some ks' =>
        rw [e1, e2] at h
        cases h
        rw [keyA_ok e1 p, keysA_ok e2 t]
        rfl
end
/-- what a dict holds at a key; b: keys that are tuples, too -/
def dgetA (b : Bool) (S : Sto) (a : Addr) (y : D) (Q : Option D → Prop) : Prop := match S a with
  | some (.dK kvs) => (match keyA y with
    | some k => Q (getA kvs k)
    | none => False)
  | some (.lok _ _ kvs) => (match keyA y with
    | some k => Q (getA kvs k)
    | none => False)
  | some (.dT kvs) => b = true ∧ (match y with
    | .tup ds => (match keysA ds with
      | some ks => Q (getA kvs ks)
      | none => False)
    | _ => False)
  | _ => False
theorem dgetA_ok {K : PySem.W.Frag} {H : Hp} {S : Sto} {a : Addr} {y : D} {v : V} {b : Bool} {Q : Option D → Prop} (hb : b = true → NoSt K) (r : Rep K H S) (p : RepV K H y v) (h : dgetA b S a y Q) :
    ∃ o ov, DGet H a v ov ∧ Q o ∧ (∀ d, o = some d → ∃ u, ov = some u ∧ RepV K H d u) ∧ (o = none → ov = none) := by
  unfold dgetA at h
  cases e : S a with
  | none => simp [e] at h
  | some o =>
    cases o with
    | lst xs => simp [e] at h
    | ins C fs => simp [e] at h
    | dK kvs =>
      simp only [e] at h
      obtain ⟨us, g1, g2⟩ := r a _ e
      cases ek : keyA y with
      | none => simp [ek] at h
      | some k =>
        simp only [ek] at h
        rw [keyA_ok ek p]
        exact ⟨_, _, DGet.k g1, h, g2.val.1, g2.val.2⟩
    | lokT ob us kvs => simp [e] at h
    | ctup xs => simp [e] at h
    | tab => simp [e] at h
    | lok ob us kvs =>
      simp only [e] at h
      obtain ⟨g1, g2⟩ := r a _ e
      cases ek : keyA y with
      | none => simp [ek] at h
      | some k =>
        simp only [ek] at h
        rw [keyA_ok ek p]
        exact ⟨_, _, .inl ⟨us, k, .inr ⟨ob, g1⟩, rfl, rfl⟩, h, g2.val.1, g2.val.2⟩
    | dT kvs =>
      simp only [e] at h
      obtain ⟨us, g1, g2⟩ := r a _ e
      cases y with
      | tup ds =>
        obtain ⟨h0, h⟩ := h
        cases ek : keysA ds with
        | none => simp [ek] at h
        | some ks =>
          simp only [ek] at h
          unfold RepV at p
          obtain ⟨t, vs, rfl, tp, rl⟩ := p
          have hv := keysA_ok ek rl
          subst hv
          exact ⟨_, _, DGet.t g1 (tp.own (hb h0)), h, g2.val.1, g2.val.2⟩
      | _ => exact (show False from h.2).elim
def dputA (b : Bool) (S : Sto) (a : Addr) (y v : D) (Q : Sto → Prop) : Prop := match S a with
  | some (.dK kvs) => (match keyA y with
    | some k => kvs.length < sizeLine ∧ Q (put S a (.dK (putA kvs k v)))
    | none => False)
  | some (.dT kvs) => b = true ∧ (match y with
    | .tup ds => (match keysA ds with
      | some ks => kvs.length < sizeLine ∧ Q (put S a (.dT (putA kvs ks v)))
      | none => False)
    | _ => False)
  | _ => False
theorem dputA_ok {K : PySem.W.Frag} {H : Hp} {S : Sto} {a : Addr} {y d : D} {v u : V} {b : Bool} {Q : Sto → Prop} (hb : b = true → NoSt K) (r : Rep K H S) (p : RepV K H y v) (q : RepV K H d u) (h : dputA b S a y d Q) :
    ∃ H' S', DPut H a v u H' ∧ Le H H' ∧ Rep K H' S' ∧ Q S' := by
  unfold dputA at h
  cases e : S a with
  | none => simp [e] at h
  | some o =>
    cases o with
    | lst xs => simp [e] at h
    | ins C fs => simp [e] at h
    | lok ob us kvs => simp [e] at h
    | lokT ob us kvs => simp [e] at h
    | ctup xs => simp [e] at h
    | tab => simp [e] at h
    | dK kvs =>
      simp only [e] at h
      obtain ⟨us, g1, g2⟩ := r a _ e
      cases ek : keyA y with
      | none => simp [ek] at h
      | some k =>
        simp only [ek] at h
        rw [keyA_ok ek p]
        have L : Le H (upd H a (.dK (putK us k u))) := r.le_put e
        exact ⟨_, _, DPut.k g1 (by rw [g2.length]; exact h.1), L, r.put (o := .dK (putA kvs k d)) e ⟨_, upd_same, (g2.le L).put (q.le L)⟩, h.2⟩
    | dT kvs =>
      simp only [e] at h
      obtain ⟨us, g1, g2⟩ := r a _ e
      cases y with
      | tup ds =>
        obtain ⟨h0, h⟩ := h
        cases ek : keysA ds with
        | none => simp [ek] at h
        | some ks =>
          simp only [ek] at h
          unfold RepV at p
          obtain ⟨t, vs, rfl, tp, rl⟩ := p
          have hv := keysA_ok ek rl
          subst hv
          have L : Le H (upd H a (.dT (putK us ks u))) := r.le_put e
          exact ⟨_, _, DPut.t g1 (tp.own (hb h0)) (by rw [g2.length]; exact h.1), L, r.put (o := .dT (putA kvs ks d)) e ⟨_, upd_same, (g2.le L).put (q.le L)⟩, h.2⟩
      | _ => exact (show False from h.2).elim

/-! ### subscripts -/
section
variable {X : Cx}
def rIxD (K : PySem.W.Frag) : R2 := fun x y H Q => ∃ a v, x = .ref a ∧ DGet H a y (some v) ∧ Q v H
theorem ix_dict (hu : X.A.units + 100 < cLine) : IxR X (rIxD X.K) := by
  intro value slice pins s σ H x y v u Q I rx ry h hs
  obtain ⟨a, w, rfl, g, q⟩ := h
  obtain rfl : v = Value.ref a := rx
  have hT := dict_typeIs I g
  unfold subscriptTail
  refine wpAny_bind ?_
  rw [getitemInPython_of_ne hT.not_modules]
  refine wpAny_bind (wpAny_specialOf hT PySem.F.slot_dict_getitem.lookup ?_)
  have fin : wpAny (model X.prog X.w) X.A (subscripted slice false (.ref a) u) (fun r s₃ => wpAny (model X.prog X.w) X.A (letTemporaryGo value (.ref a) r >>= fun _ => pure r) (EP X pins σ Q) X.xe s₃) X.xe s := by
    rw [hs]
    exact wpAny_operating (wpAny_mono (d_getItem (by omega) I g ry fun w' s3 I3 rw' => (⟨w, H, I3, rw', q⟩ : EP X pins σ Q w' s3)) (fun r s₃ h₃ => wpAny_bind (wpAny_letTemporaryGo (wpAny_pure h₃))) fun _ _ x => x)
  first
    | exact wpAny_pure (wpAny_bind fin)
    | exact wpAny_bind (wpAny_pure (wpAny_bind fin))
    | exact wpAny_bind fin
def rIxV (K : PySem.W.Frag) : R2 := fun x y H Q => rIx K x y H Q ∨ rIxD K x y H Q
theorem ix_any (hu : X.A.units + 100 < cLine) : IxR X (rIxV X.K) := ix_seq.or (ix_dict hu)
end
def aIx (b : Bool) : WR2 := fun x y S Q => (match x with
  | .tup xs => (match y with
    | .int i => ∃ d, atI xs i = some d ∧ Q d S
    | _ => False)
  | .scr ns => (match y with
    | .int i => ∃ n, atI ns i = some n ∧ Q (.int n) S
    | _ => False)
  | .str z => (match y with
    | .int i => z.length ≤ sizeLine ∧ ∃ c, atI z.cps.toList i = some c ∧ Q (.str ⟨#[c]⟩) S
    | _ => False)
  | .ref a => (match S a with
    | some (.lst xs) => (match y with
      | .int i => ∃ d, atI xs i = some d ∧ Q d S
      | _ => False)
    | _ => dgetA b S a y fun o => ∃ d, o = some d ∧ Q d S)
  | _ => False)
theorem atI_rep {K : PySem.W.Frag} {H : Hp} {ds : List D} {vs : List V} {i : Int} {d : D} (r : RepL K H ds vs) (h : atI ds i = some d) : ∃ v, atI vs i = some v ∧ RepV K H d v := by
  unfold atI at h ⊢
  rw [r.length]
  cases e : ixN ds.length i with
  | none => rw [e] at h; cases h
  | some j =>
    rw [e] at h
    exact r.get h
theorem sim_ix {K : PySem.W.Frag} {b : Bool} (hb : b = true → NoSt K) : Sim2 K (rIxV K) (aIx b) := fun x y dx dy H S QA Q p q r a k => by
  cases dx with
  | tup xs =>
    cases dy with
    | int i =>
      unfold RepV at p q
      obtain ⟨t, vs, rfl, tp, rl⟩ := p
      obtain ⟨d, e, z⟩ := a
      obtain ⟨v, ev, pv⟩ := atI_rep rl e
      exact .inl (.inr (.inl ⟨t, vs, i, v, rfl, q, tp.sq, ev, k d S v H z (Le.refl H) r pv⟩))
    | _ => exact (show False from a).elim
  | scr ns =>
    cases dy with
    | int i =>
      unfold RepV at p q
      obtain ⟨t, rfl, tp⟩ := p
      obtain ⟨n, e, z⟩ := a
      refine .inl (.inl ⟨t, _, i, .int n, rfl, q, tp.sq, ?_, k _ S _ H z (Le.refl H) r (rep_int _)⟩)
      unfold atI at e ⊢
      rw [List.length_map]
      cases e1 : ixN ns.length i with
      | none => rw [e1] at e; cases e
      | some j =>
        rw [e1] at e
        show (ns.map V.int)[j]? = some (V.int n)
        rw [List.getElem?_map, show ns[j]? = some n from e]
        rfl
    | _ => exact (show False from a).elim
  | str z =>
    cases dy with
    | int i =>
      unfold RepV at p q
      obtain ⟨hz, c, e, z'⟩ := a
      exact .inl (.inr (.inr ⟨z, i, c, p, q, hz, e, k _ S _ H z' (Le.refl H) r (rep_str _)⟩))
    | _ => exact (show False from a).elim
  | ref t =>
    unfold RepV at p
    subst p
    have dict : dgetA b S t dy (fun o => ∃ d, o = some d ∧ QA d S) → rIxV K (.ref t) y H Q := fun a => by
      obtain ⟨o, ov, g, ⟨d, e, z⟩, h1, _⟩ := dgetA_ok hb r q a
      obtain ⟨u, eu, pu⟩ := h1 d e
      subst eu
      exact .inr ⟨t, u, rfl, g, k d S u H z (Le.refl H) r pu⟩
    unfold aIx at a
    cases e : S t with
    | none => simp only [e] at a; exact dict a
    | some o =>
      cases o with
      | lst xs =>
        simp only [e] at a
        cases dy with
        | int i =>
          unfold RepV at q
          obtain ⟨vs, g1, g2⟩ := r t _ e
          obtain ⟨d, e', z⟩ := a
          obtain ⟨v, ev, pv⟩ := atI_rep g2 e'
          exact .inl (.inl ⟨t, vs, i, v, rfl, q, .inl (.inl g1), ev, k d S v H z (Le.refl H) r pv⟩)
        | _ => exact (show False from a).elim
      | _ => simp only [e] at a; exact dict a
  | _ => exact (show False from a).elim
section
variable {X : Cx} {W : WX} {a b : Expr} {wa wb : WE} {pos : Pos} {t : Bool}
theorem re_sub_ (hu : X.A.units + 100 < cLine) (ht : t = true → NoSt X.K) (ha : RE X W a wa) (hb : RE X W b wb) (hs : PlainIx b := by exact fun _ _ => rfl) : RE X W (.Subscript a b pos) (wOp (aIx t) wa wb) := re_ix (ix_any hu) (sim_ix ht) ha hb hs
end
/-! o[i] = v -/
def gIx (b : Bool) (wo wi : WE) : WG := fun d ρ S Q => wo ρ S (fun x S1 => wi ρ S1 (fun y S2 => (match x with
  | .ref a => (match S2 a with
    | some (.lst xs) => (match y with
      | .int i => ∃ j, ixN xs.length i = some j ∧ Q ρ (put S2 a (.lst (xs.set j d)))
      | _ => False)
    | _ => dputA b S2 a y d (Q ρ))
  | _ => False)) X0) X0
section
variable {X : Cx} {o i : Expr} {wo wi : WE} {pos : Pos} {t : Bool}
def rSetV : V → V → V → Hp → (Hp → Prop) → Prop := fun o i v H Q => rSetL o i v H Q ∨ ∃ a H', o = .ref a ∧ DPut H a i v H' ∧ Q H'
theorem set_any (hu : X.A.units + 100 < cLine) : PSet X rSetV := by
  intro pins s σ H o i v ov iv u Q I ro ri rv h
  rcases h with h | ⟨a, H', rfl, g, q⟩
  · exact set_list pins s σ H o i v ov iv u Q I ro ri rv h
  · obtain rfl : ov = Value.ref a := ro
    exact d_setItem (by omega) I g ri rv fun s4 I4 => ⟨H', I4, q⟩
theorem rg_ix (hu : X.A.units + 100 < cLine) (ht : t = true → NoSt X.K) (ho : RE X W0 o wo) (hi : RE X W0 i wi)
    (ha : ∀ v, assign (.Subscript o i pos) X.env v = (do
      let ov ← holding [v] (eval o X.env)
      let iv ← holding [v, ov] (eval i X.env)
      standAt pos
      holding [v, ov, iv] (setItem ov iv v)
      release [v, ov, iv] []) := by intro _; rfl) : RG X [] (.Subscript o i pos) (gIx t wo wi) :=
  pg_imp (pg_sub ho hi (set_any hu) ha) fun v σ H Q ⟨d, ρ, S, QA, p, rs, rp, h, k⟩ => ⟨ρ, S, _, X0, rs, rp, h, fun x S1 vx H1 h1 l1 r1 p1 => ⟨ρ, S1, _, X0, rs.le l1, r1, h1, fun y S2 vy H2 h2 l2 r2 p2 => by
    cases x with
    | ref a =>
      unfold RepV at p1
      subst p1
      have dict : dputA t S2 a y d (QA ρ) → rSetV (.ref a) vy v H2 fun H3 => Q σ H3 := fun h2 => by
        obtain ⟨H', S', g, l, r', q⟩ := dputA_ok ht r2 p2 (p.le (l1.trans l2)) h2
        exact .inr ⟨a, H', rfl, g, k ρ S' σ H' q ((l1.trans l2).trans l) (rs.le ((l1.trans l2).trans l)) r' (Agr.refl _ _)⟩
      cases e : S2 a with
      | none => simp only [e] at h2; exact dict h2
      | some ob =>
        cases ob with
        | lst xs =>
          simp only [e] at h2
          cases y with
          | int i =>
            unfold RepV at p2
            subst p2
            obtain ⟨vs, g1, g2⟩ := r2 a _ e
            obtain ⟨j, ej, q⟩ := h2
            have L : Le H2 (upd H2 a (.lst (vs.set j v))) := r2.le_put e
            refine .inl ⟨a, vs, i, j, rfl, rfl, g1, by rw [g2.length]; exact ej, k ρ _ σ _ q ((l1.trans l2).trans L) (rs.le ((l1.trans l2).trans L)) (r2.put (o := .lst (xs.set j d)) e ⟨_, upd_same, ?_⟩) (Agr.refl _ _)⟩
            exact (g2.le L).set (p.le ((l1.trans l2).trans L)) j
          | _ => exact (show False from h2).elim
        | _ => simp only [e] at h2; exact dict h2
    | _ => exact (show False from h2).elim, fun _ _ _ z => z.elim⟩, fun _ _ _ z => z.elim⟩
end
end Ab
set_option Elab.async false
set_option linter.all false
set_option maxRecDepth 100000
set_option maxHeartbeats 4000000
namespace Ab
open PySem PySem.Spec PyProof.Rows L2 RZ

/-! ### in -/
section
variable {X : Cx}
def rInA (K : PySem.W.Frag) (neg : Bool) : R2 := fun x y H Q => ∃ d e ds, Dp K H x d ∧ Dp K H y e ∧ (e = .list ds ∨ e = .tuple ds) ∧ SeqAt.shaped d = true ∧ SeqAt.shaped e = true ∧ Q (.bl (if neg then !ds.any (fun z => PyData.eqv z d) else ds.any fun z => PyData.eqv z d)) H
theorem op_inA (hu : X.A.units + 100 < cLine) : OpR X (compareOp .In) (rInA X.K false) := by
  intro pins s σ H x y v u Q I rx ry ⟨d, e, ds, hd, he, hl, sd, se, q⟩
  obtain ⟨as, r1⟩ := Dp.reads I d x v hd rx
  obtain ⟨bs, r2⟩ := Dp.reads I e y u he ry
  rcases hl with rfl | rfl
  · exact SeqAt.in_list_reads r2 r1 (SeqAt.canLay_of_shaped se) (SeqAt.canLay_of_shaped sd) (room_in_shaped sd (by omega)) ⟨.bl _, H, I, rfl, q⟩
  · exact SeqAt.in_tuple_reads r2 r1 (SeqAt.canLay_of_shaped se) (SeqAt.canLay_of_shaped sd) (room_in_shaped sd (by omega)) ⟨.bl _, H, I, rfl, q⟩
theorem op_notInA (hu : X.A.units + 100 < cLine) : OpR X (compareOp .NotIn) (rInA X.K true) := by
  intro pins s σ H x y v u Q I rx ry ⟨d, e, ds, hd, he, hl, sd, se, q⟩
  obtain ⟨as, r1⟩ := Dp.reads I d x v hd rx
  obtain ⟨bs, r2⟩ := Dp.reads I e y u he ry
  rcases hl with rfl | rfl
  · exact SeqAt.notIn_list_reads r2 r1 (SeqAt.canLay_of_shaped se) (SeqAt.canLay_of_shaped sd) (room_in_shaped sd (by omega)) ⟨.bl _, H, I, rfl, q⟩
  · exact SeqAt.notIn_tuple_reads r2 r1 (SeqAt.canLay_of_shaped se) (SeqAt.canLay_of_shaped sd) (room_in_shaped sd (by omega)) ⟨.bl _, H, I, rfl, q⟩
def rInD2 (neg : Bool) : R2 := fun x y H Q => ∃ a o, y = .ref a ∧ DGet H a x o ∧ Q (.bl (if neg then !o.isSome else o.isSome)) H
theorem op_inDict (hu : X.A.units + 100 < cLine) : OpR X (compareOp .In) (rInD2 false) := by
  intro pins s σ H x y v u Q I rx ry ⟨a, o, e, g, q⟩
  subst e
  obtain rfl : u = Value.ref a := ry
  exact d_in (by omega) I g rx fun s3 I3 => ⟨.bl _, H, I3, rfl, q⟩
theorem op_notInDict (hu : X.A.units + 100 < cLine) : OpR X (compareOp .NotIn) (rInD2 true) := by
  intro pins s σ H x y v u Q I rx ry ⟨a, o, e, g, q⟩
  subst e
  obtain rfl : u = Value.ref a := ry
  exact d_notIn (by omega) I g rx fun s3 I3 => ⟨.bl _, H, I3, rfl, q⟩
def rInS (neg : Bool) : R2 := fun x y H Q => ∃ (c : Nat) (z : Str), x = .str ⟨#[c]⟩ ∧ y = .str z ∧ Q (.bl (if neg then !decide (c ∈ z.cps.toList) else decide (c ∈ z.cps.toList))) H
def rInV (K : PySem.W.Frag) (neg : Bool) : R2 := fun x y H Q => rInA K neg x y H Q ∨ rInD2 neg x y H Q ∨ rInS neg x y H Q
theorem op_inV (hu : X.A.units + 100 < cLine) : OpR X (compareOp .In) (rInV X.K false) := (op_inA hu).or ((op_inDict hu).or op_in_sign)
theorem op_notInV (hu : X.A.units + 100 < cLine) : OpR X (compareOp .NotIn) (rInV X.K true) := (op_notInA hu).or ((op_notInDict hu).or op_notIn_sign)
end
def aIn (b neg : Bool) : WR2 := fun x y S Q => (match y with
  | .tup ys => okD 8 x = true ∧ ys.all (okD 8) = true ∧ Q (.bl (if neg then !ys.any (fun z => eqD z x) else ys.any fun z => eqD z x)) S
  | .str z => (match x with
    | .str w => ∃ c, w = ⟨#[c]⟩ ∧ Q (.bl (if neg then !decide (c ∈ z.cps.toList) else decide (c ∈ z.cps.toList))) S
    | _ => False)
  | .ref a => (match S a with
    | some (.lst ys) => okD 8 x = true ∧ ys.all (okD 8) = true ∧ Q (.bl (if neg then !ys.any (fun z => eqD z x) else ys.any fun z => eqD z x)) S
    | _ => dgetA b S a x fun o => Q (.bl (if neg then !o.isSome else o.isSome)) S)
  | _ => False)
theorem shaped_list {ys : List D} {n : Nat} (h : ys.all (okD n) = true) (hn : n < 64) : SeqAt.shaped (.list (pdL ys)) = true ∧ SeqAt.shaped (.tuple (pdL ys)) = true := by
  obtain ⟨h1, h2⟩ := okL_lay h
  constructor
  · show (PyData.canLayAll0 (pdL ys) && decide (PyData.depthAll (pdL ys) + 1 ≤ 64)) = true
    rw [h1, decide_eq_true (by omega)]
    rfl
  · show (PyData.canLayAll0 (pdL ys) && decide (PyData.depthAll (pdL ys) + 1 ≤ 64)) = true
    rw [h1, decide_eq_true (by omega)]
    rfl
theorem sim_in {K : PySem.W.Frag} {b neg : Bool} (hb : b = true → NoSt K) : Sim2 K (rInV K neg) (aIn b neg) := fun x y dx dy H S QA Q p q r a k => by
  cases dy with
  | tup ys =>
    obtain ⟨h1, h2, h3⟩ := a
    unfold RepV at q
    obtain ⟨t, vs, rfl, tp, rl⟩ := q
    refine .inl ⟨pd dx, .tuple (pdL ys), pdL ys, dp_of h1 p, .tup tp.sq (dpAll_of h2 rl), .inr rfl, okD_shaped h1 (by decide), (shaped_list h2 (by decide)).2, ?_⟩
    rw [any_pd h1 h2]
    exact k _ S _ H h3 (Le.refl H) r (rep_bl _)
  | str z =>
    cases dx with
    | str w =>
      obtain ⟨c, rfl, h3⟩ := a
      unfold RepV at p q
      exact .inr (.inr ⟨c, z, p, q, k _ S _ H h3 (Le.refl H) r (rep_bl _)⟩)
    | _ => exact (show False from a).elim
  | ref t =>
    unfold RepV at q
    subst q
    have dict : (dgetA b S t dx fun o => QA (.bl (if neg then !o.isSome else o.isSome)) S) → rInV K neg x (.ref t) H Q := fun a => by
      obtain ⟨o, ov, g, z, h1, h2⟩ := dgetA_ok hb r p a
      have e : ov.isSome = o.isSome := by
        cases o with
        | none => rw [h2 rfl]; rfl
        | some d =>
          obtain ⟨u, eu, _⟩ := h1 d rfl
          rw [eu]; rfl
      exact .inr (.inl ⟨t, ov, rfl, g, by rw [e]; exact k _ S _ H z (Le.refl H) r (rep_bl _)⟩)
    unfold aIn at a
    cases e : S t with
    | none => simp only [e] at a; exact dict a
    | some o =>
      cases o with
      | lst ys =>
        simp only [e] at a
        obtain ⟨h1, h2, h3⟩ := a
        obtain ⟨vs, g1, g2⟩ := r t _ e
        refine .inl ⟨pd dx, .list (pdL ys), pdL ys, dp_of h1 p, .lst (.inl (.inl g1)) (dpAll_of h2 g2), .inl rfl, okD_shaped h1 (by decide), (shaped_list h2 (by decide)).1, ?_⟩
        rw [any_pd h1 h2]
        exact k _ S _ H h3 (Le.refl H) r (rep_bl _)
      | _ => simp only [e] at a; exact dict a
  | _ => exact (show False from a).elim
section
variable {X : Cx} {W : WX} {a b : Expr} {wa wb : WE} {pos : Pos} {t : Bool}
theorem re_in (hu : X.A.units + 100 < cLine) (ht : t = true → NoSt X.K) (ha : RE X W a wa) (hb : RE X W b wb) (hm : behindInMarks .In b = false := by rfl) : RE X W (.Compare a [.In] [b] pos) (wOp (aIn t false) wa wb) := re_cmp (op_inV hu) (sim_in ht) ha hb hm
theorem rt_in (hu : X.A.units + 100 < cLine) (ht : t = true → NoSt X.K) (ha : RE X W a wa) (hb : RE X W b wb) (hm : behindInMarks .In b = false := by rfl) : RT X W (.Compare a [.In] [b] pos) (wB (wOp (aIn t false) wa wb)) := rt_cmp (op_inV hu) (sim_in ht) ha hb hm
theorem re_notin (hu : X.A.units + 100 < cLine) (ht : t = true → NoSt X.K) (ha : RE X W a wa) (hb : RE X W b wb) (hm : behindInMarks .NotIn b = false := by rfl) : RE X W (.Compare a [.NotIn] [b] pos) (wOp (aIn t true) wa wb) := re_cmp (op_notInV hu) (sim_in ht) ha hb hm
theorem rt_notin (hu : X.A.units + 100 < cLine) (ht : t = true → NoSt X.K) (ha : RE X W a wa) (hb : RE X W b wb) (hm : behindInMarks .NotIn b = false := by rfl) : RT X W (.Compare a [.NotIn] [b] pos) (wB (wOp (aIn t true) wa wb)) := rt_cmp (op_notInV hu) (sim_in ht) ha hb hm
end

/-! ### slices -/
def cutA (xs : List D) (lo hi : Option Int) : List D := (xs.drop (HT.sIx xs.length 0 lo)).take (HT.sIx xs.length xs.length hi - HT.sIx xs.length 0 lo)
abbrev WO := DEnv → Sto → (Option Int → Sto → Prop) → XA → Prop
def cO (K : PySem.W.Frag) (W : WX) (w : WO) : TO := fun σ H Q => ∃ ρ S QA EA, RepS K H ρ σ ∧ Rep K H S ∧ w ρ S QA EA ∧ (∀ o S' H', QA o S' → Le H H' → Rep K H' S' → Q o H') ∧ XOk K W H σ EA
def RO (X : Cx) (W : WX) (e : Option Expr) (w : WO) : Prop := PO X e (cO X.K W w)
def wON : WO := fun _ S Q _ => Q none S
def wOS (w : WE) : WO := fun ρ S Q E => w ρ S (fun d S1 => (match d with
  | .int i => Q (some i) S1
  | _ => False)) E
def aSl : D → Option Int → Option Int → Sto → AK → Prop := fun x lo hi S Q => (match x with
  | .tup xs => Q (.tup (cutA xs lo hi)) S
  | .ref a => (match S a with
    | some (.lst xs) => ∀ p, S p = none → Q (.ref p) (put S p (.lst (cutA xs lo hi)))
    | _ => False)
  | _ => False)
def wSl (w : WE) (lo hi : WO) : WE := fun ρ S Q E => w ρ S (fun x S1 => lo ρ S1 (fun l S2 => hi ρ S2 (fun h S3 => aSl x l h S3 Q) E) E) E
theorem RepL.cut {K : PySem.W.Frag} {H : Hp} {ds : List D} {vs : List V} (r : RepL K H ds vs) (lo hi : Option Int) : RepL K H (cutA ds lo hi) (cutV vs lo hi) := by
  unfold cutA cutV
  rw [r.length]
  exact (r.drop _).take _
section
variable {X : Cx} {W : WX} {e : Expr} {lo hi : Option Expr} {we : WE} {wl wh : WO} {pos p2 : Pos}
theorem po_imp {e : Option Expr} {t t' : TO} (h : PO X e t) (i : ∀ σ H Q, t' σ H Q → t σ H Q) : PO X e t' := ⟨fun pins s σ H Q I q => h.run pins s σ H Q I (i σ H Q q)⟩
theorem ro_none : RO X W none wON := po_imp po_none fun σ H Q ⟨ρ, S, QA, EA, rs, rp, h, k, x⟩ => k none S H h (Le.refl H) rp
theorem ro_some (he : RE X W e we) : RO X W (some e) (wOS we) := po_imp (po_some he) fun σ H Q ⟨ρ, S, QA, EA, rs, rp, h, k, x⟩ => ⟨ρ, S, _, EA, rs, rp, h, fun d S1 v H1 h1 l1 r1 p1 => by
  cases d with
  | int i => unfold RepV at p1; exact ⟨i, p1, k _ S1 H1 h1 l1 r1⟩
  | _ => exact (show False from h1).elim, x⟩
def rSlV (K : PySem.W.Frag) : V → Option Int → Option Int → Hp → VK → Prop := fun x lo hi H Q => rSlL K x lo hi H Q ∨ rSlA K x lo hi H Q
theorem cut_whole {xs : List D} {lo hi : Option Int} (h : HT.sIx xs.length 0 lo = 0 ∧ HT.sIx xs.length xs.length hi = xs.length) : cutA xs lo hi = xs := by
  unfold cutA
  rw [h.1, h.2]
  simp
theorem re_slice (he : RE X W e we) (hl : RO X W lo wl) (hu : RO X W hi wh) : RE X W (.Subscript e (.Slice lo hi none p2) pos) (wSl we wl wh) :=
  pe_imp (pe_slice (r := rSlV X.K) (sl_list.or sl_tupA) he hl hu) fun σ H Q ⟨ρ, S, QA, EA, rs, rp, h, k, x⟩ => ⟨ρ, S, _, EA, rs, rp, h, fun d S1 v H1 h1 l1 r1 p1 => ⟨ρ, S1, _, EA, rs.le l1, r1, h1, fun l S2 H2 h2 l2 r2 => ⟨ρ, S2, _, EA, rs.le (l1.trans l2), r2, h2, fun u S3 H3 h3 l3 r3 => by
    have p3 := p1.le (l2.trans l3)
    have L := (l1.trans l2).trans l3
    cases d with
    | tup xs =>
      have p0 := p3
      unfold RepV at p3
      obtain ⟨t, vs, rfl, tp, rl⟩ := p3
      refine .inr ⟨t, vs, rfl, tp.sq, fun hw => ?_, fun _ p np => ?_⟩
      · rw [rl.length] at hw
        have h3' : QA (.tup (cutA xs l u)) S3 := h3
        rw [cut_whole hw] at h3'
        exact k _ S3 _ H3 h3' L r3 p0
      · refine k _ S3 _ _ h3 (L.trans (Le.new np)) (r3.new np) ?_
        unfold RepV
        exact ⟨p, _, rfl, .inl upd_same, (rl.cut l u).le (Le.new np)⟩
    | ref t =>
      unfold RepV at p3
      subst p3
      unfold aSl at h3
      cases e : S3 t with
      | none => simp [e] at h3
      | some o =>
        cases o with
        | lst xs =>
          simp only [e] at h3
          obtain ⟨vs, g1, g2⟩ := r3 t _ e
          exact .inl ⟨t, vs, rfl, .inl (.inl g1), fun p np => k _ _ _ _ (h3 p (r3.free np)) (L.trans (Le.new np)) (r3.newP (o := .lst (cutA xs l u)) np ⟨_, upd_same, (g2.cut l u).le (Le.new np)⟩) (rep_ref _)⟩
        | _ => simp [e] at h3
    | _ => exact (show False from h3).elim, x.le (l1.trans l2)⟩, x.le l1⟩, x⟩
end

/-! ### calls of built-ins -/
def wCB (a : WRL) (wa : WA) : WE := fun ρ S Q E => wa ρ S (fun ds S1 => a ds S1 Q) E
section
variable {X : Cx} {W : WX} {x : Str} {p pos : Pos} {e : Expr} {es : List Expr} {wa : WA} {id T : String} {r : List V → Hp → VK → Prop} {a : WRL}
theorem sim_cb (sr : SimL X.K r a) : ∀ σ H Q, cE X.K W (wCB a wa) σ H Q → tCB r (cA X.K W wa) σ H Q := fun σ H Q ⟨ρ, S, QA, EA, rs, rp, h, k, x⟩ =>
  ⟨ρ, S, _, EA, rs, rp, h, fun ds S1 vs H1 h1 l1 r1 p1 => sr vs ds H1 S1 QA Q p1 r1 h1 (k.le l1), x⟩
theorem re_cb (hc : CallR X (.builtin id) r) (sr : SimL X.K r a) (hg : Gl X x) (hm : X.mg x = none) (hv : bootBuiltins x = some (.builtin id)) (ha : RA X W (e :: es) wa) (hn : x ≠ "__name__" := by decide) (hdb : (x == ("__debug__" : Str)) = false := by decide)
    (he : starEach (e :: es) X.env = (false, eval e X.env) :: starEach es X.env := by rfl) (hpl : (backTo pos (starEach es X.env)).any (·.1) = false := by rfl) : RE X W (.Call (.Name x p) (e :: es) [] pos) (wCB a wa) :=
  pe_imp (pe_callB hc hg hm hv ha hn hdb he hpl) (sim_cb sr)
theorem re_cty (hc : CallR X (.type T) r) (sr : SimL X.K r a) (hg : Gl X x) (hm : X.mg x = none) (hv : bootBuiltins x = some (.type T)) (ha : RA X W (e :: es) wa) (hn : x ≠ "__name__" := by decide) (hdb : (x == ("__debug__" : Str)) = false := by decide)
    (he : starEach (e :: es) X.env = (false, eval e X.env) :: starEach es X.env := by rfl) (hpl : (backTo pos (starEach es X.env)).any (·.1) = false := by rfl) : RE X W (.Call (.Name x p) (e :: es) [] pos) (wCB a wa) :=
  pe_imp (pe_callTy hc hg hm hv ha hn hdb he hpl) (sim_cb sr)
end
/-- len -/
def aLen : WRL := fun ds S Q => (match ds with
  | [.tup xs] => Q (.int xs.length) S
  | [.scr ns] => Q (.int ns.length) S
  | [.str z] => z.length ≤ sizeLine ∧ Q (.int z.length) S
  | [.ref a] => (match S a with
    | some (.lst xs) => Q (.int xs.length) S
    | some (.dK kvs) => Q (.int kvs.length) S
    | some (.dT kvs) => Q (.int kvs.length) S
    | _ => False)
  | _ => False)
def rLenA (K : PySem.W.Frag) : List V → Hp → VK → Prop := fun xs H Q => (∃ x n, xs = [x] ∧ LenV K x H n ∧ Q (.int n) H) ∨ (∃ a kvs, xs = [V.ref a] ∧ H a = some (.dK kvs) ∧ Q (.int kvs.length) H) ∨ rLenT xs H Q
theorem call_lenA {X : Cx} : CallR X (.builtin "len") (rLenA X.K) := call_len.or (call_lenD.or call_len_dT)
theorem sim_len {K : PySem.W.Frag} : SimL K (rLenA K) aLen := fun xs ds H S QA Q p r a k => by
  match ds, a, p with
  | [.tup ys], a, p =>
    obtain ⟨v, rfl, pv⟩ := repL1 p
    unfold RepV at pv
    obtain ⟨t, vs, rfl, tp, rl⟩ := pv
    exact .inl ⟨_, ys.length, rfl, .inr ⟨vs, tp.sq, rl.length.symm⟩, k _ S _ H a (Le.refl H) r (rep_int _)⟩
  | [.scr ns], a, p =>
    obtain ⟨v, rfl, pv⟩ := repL1 p
    unfold RepV at pv
    obtain ⟨t, rfl, tp⟩ := pv
    exact .inl ⟨_, ns.length, rfl, .inl ⟨_, tp.sq, by simp⟩, k _ S _ H a (Le.refl H) r (rep_int _)⟩
  | [.str z], a, p =>
    obtain ⟨v, rfl, pv⟩ := repL1 p
    unfold RepV at pv
    subst pv
    exact .inl ⟨_, z.length, rfl, ⟨a.1, rfl⟩, k _ S _ H a.2 (Le.refl H) r (rep_int _)⟩
  | [.ref t], a, p =>
    obtain ⟨v, rfl, pv⟩ := repL1 p
    unfold RepV at pv
    subst pv
    unfold aLen at a
    cases e : S t with
    | none => simp [e] at a
    | some o =>
      cases o with
      | lst xs =>
        simp only [e] at a
        obtain ⟨vs, g1, g2⟩ := r t _ e
        exact .inl ⟨_, xs.length, rfl, .inl ⟨vs, .inl (.inl g1), g2.length.symm⟩, k _ S _ H a (Le.refl H) r (rep_int _)⟩
      | dK kvs =>
        simp only [e] at a
        obtain ⟨us, g1, g2⟩ := r t _ e
        exact .inr (.inl ⟨t, us, rfl, g1, by rw [g2.length]; exact k _ S _ H a (Le.refl H) r (rep_int _)⟩)
      | dT kvs =>
        simp only [e] at a
        obtain ⟨us, g1, g2⟩ := r t _ e
        exact .inr (.inr ⟨t, us, rfl, g1, by rw [g2.length]; exact k _ S _ H a (Le.refl H) r (rep_int _)⟩)
      | _ => simp [e] at a
def aAbs : WRL := fun ds S Q => (match ds with
  | [.int i] => Q (.int (if i < 0 then -i else i)) S
  | _ => False)
theorem sim_abs {K : PySem.W.Frag} : SimL K (fun xs H Q => ∃ i, xs = [.int i] ∧ Q (.int (if i < 0 then -i else i)) H) aAbs := fun xs ds H S QA Q p r a k => by
  match ds, a, p with
  | [.int i], a, p =>
    obtain ⟨v, rfl, pv⟩ := repL1 p
    unfold RepV at pv
    subst pv
    exact ⟨i, rfl, k _ S _ H a (Le.refl H) r (rep_int _)⟩
/-! max, min -/
section
variable {prog : Program} {w : World} {A : Around} {E : Value → Shared → Prop} {s : Shared}
theorem args_max4 (a b c d : Value) : argsOk "max" ⟨[a, b, c, d], []⟩ := by unfold argsOk; kernel_rfl
theorem call_max_four {a b c d : Value} {Q : Value → Shared → Prop}
    (h : wpAny (model prog w) A.in1 (pyIter (.ref s.heap.objs.size)) (fun it s2 => ∃ I fp wr n P St bt, it = .ref I ∧ Walks prog w A.in1 I fp wr n P St ∧ St 0 s2.heap ∧ (∀ b ∈ fp, b < s2.heap.objs.size) ∧ 0 < n ∧ CmpOf prog w A.in1 .Gt P bt ∧
      ∀ v h' tk, P (argBest bt (n - 1)) v → (∀ b o, b ∉ wr → s2.heap.get? b = some o → h'.get? b = some o) → Q v { s2 with heap := h', toks := tk }) E
      { s with heap := s.heap.push { cls := .type "tuple", data := .seq #[a, b, c, d] } }) :
    wpAny (model prog w) A (call (.builtin "max") [a, b, c, d]) Q E s := by
  have hname : (toString "max" ++ toString ".loop" : String) = "max.loop" := by decide
  refine call_function_tree F.kind_max F.plain_max F.entry_max (args_max4 _ _ _ _) ?_
  show wpAny _ A.in1 (Builtin.Builtins.bindParams "max" ["key", "default"] 0 ⟨[], []⟩ >>= _) _ _ s
  refine wpAny_bind (wpAny_of_eq (show Builtin.Builtins.bindParams "max" ["key", "default"] 0 ⟨[], []⟩ = pure [none, none] from rfl) ?_)
  show wpAny _ A.in1 (newTuple [a, b, c, d] >>= _) _ _ s
  refine wpAny_bind (wpAny_newObj_type ?_)
  refine wpAny_bind (wpAny_mono h (fun it s2 h2 => ?_) fun _ _ e => e)
  obtain ⟨I, fp, wr, n, P, St, bt, rfl, W, hst, hfp, hn, hcmp, hQ⟩ := h2
  refine wpAny_bind (wpAny_newObj_type ?_)
  have hSf : s2.heap.objs.size ∉ fp := fun hm => Nat.lt_irrefl _ (hfp _ hm)
  rw [hname]
  refine wpAny_pure ⟨plainId_quiet F.plain_max_loop _, codeAny_max_loop_first W bt hcmp s2.heap.objs.size hSf hn (W.frame _ _ _ hst fun b _ o e => Heap.get?_push_of_some _ e) (Heap.get?_push_size _ rfl) fun v h' tk hP hk => ?_⟩
  exact hQ v h' tk hP fun b o hbw e => hk b o hbw (Nat.ne_of_lt (Heap.lt_size e)) (Heap.get?_push_of_some _ e)
theorem best_all (f : Nat → Int) : ∀ n, argBest (fun i j => decide (f i > f j)) n ≤ n ∧ ∀ i, i ≤ n → f i ≤ f (argBest (fun i j => decide (f i > f j)) n)
  | 0 => ⟨Nat.le_refl _, fun i hi => by rw [Nat.le_zero.mp hi]; exact Int.le_refl _⟩
  | n + 1 => by
    obtain ⟨h1, h2⟩ := best_all f n
    unfold argBest
    by_cases h : f (n + 1) > f (argBest (fun i j => decide (f i > f j)) n)
    · rw [if_pos (decide_eq_true h)]
      refine ⟨Nat.le_refl _, fun i hi => ?_⟩
      by_cases e : i = n + 1
      · rw [e]; exact Int.le_refl _
      · have := h2 i (by omega)
        omega
    · rw [if_neg (by rw [decide_eq_false h]; decide)]
      refine ⟨by omega, fun i hi => ?_⟩
      by_cases e : i = n + 1
      · rw [e]; omega
      · exact h2 i (by omega)
theorem best4 (f : Nat → Int) : f (argBest (fun i j => decide (f i > f j)) 3) = max (max (max (f 0) (f 1)) (f 2)) (f 3) ∧ argBest (fun i j => decide (f i > f j)) 3 < 4 := by
  obtain ⟨h1, h2⟩ := best_all f 3
  generalize argBest (fun i j => decide (f i > f j)) 3 = m at h1 h2
  have a0 := h2 0 (by omega)
  have a1 := h2 1 (by omega)
  have a2 := h2 2 (by omega)
  have a3 := h2 3 (by omega)
  refine ⟨?_, by omega⟩
  match m, h1 with
  | 0, _ => omega
  | 1, _ => omega
  | 2, _ => omega
  | 3, _ => omega
theorem max_four_ints {a b c d : Int} {t1 t2 t3 t4 : Tok} {Q : Value → Shared → Prop} (hh : A.handled = none)
    (h : ∀ t h' tk, (∀ e o, s.heap.get? e = some o → h'.get? e = some o) → Q (.int (max (max (max a b) c) d) t) { s with heap := h', toks := tk }) :
    wpAny (model prog w) A (call (.builtin "max") [.int a t1, .int b t2, .int c t3, .int d t4]) Q E s := by
  have hT : (s.heap.push { cls := .type "tuple", data := .seq #[.int a t1, .int b t2, .int c t3, .int d t4] }).IsTuple s.heap.objs.size (intItems #[(a, t1), (b, t2), (c, t3), (d, t4)]) := ⟨_, Heap.get?_push_size _ rfl, rfl, 0, by simp [intItems]⟩
  refine call_max_four (wpAny_pyIter_tuple hT ?_)
  have hsz : (s.heap.push { cls := .type "tuple", data := .seq #[.int a t1, .int b t2, .int c t3, .int d t4] }).objs.size = s.heap.objs.size + 1 := Heap.size_push ..
  refine ⟨_, [_, s.heap.objs.size], [_], _, _, _, _, rfl, Walks.tuple (A := A.in1) hh _ s.heap.objs.size (by rw [hsz]; exact Nat.ne_of_lt (Nat.lt_succ_self _)) (intItems #[(a, t1), (b, t2), (c, t3), (d, t4)]),
    ⟨⟨_, Heap.get?_push_size _ rfl, rfl, rfl⟩, hT.push _⟩, fun d hd => ?_, by simp [intItems], CmpOf.ints_gt (numAt #[(a, t1), (b, t2), (c, t3), (d, t4)]) (fun _ _ => intItems_at), fun v h' tk hP hk => ?_⟩
  · show d < ((s.heap.push _).push _).objs.size
    rw [Heap.size_push, hsz]
    rcases List.mem_cons.mp hd with rfl | hd
    · rw [hsz]; exact Nat.lt_succ_self _
    · rcases List.mem_cons.mp hd with rfl | hd
      · exact Nat.lt_succ_of_lt (Nat.lt_succ_self _)
      · cases hd
  · have hold : ∀ d o, s.heap.get? d = some o → h'.get? d = some o := fun d o e => by
      refine hk d o (fun hm => ?_) (Heap.get?_push_of_some _ (Heap.get?_push_of_some _ e))
      rcases List.mem_cons.mp hm with e1 | hm
      · have := Heap.lt_size e; rw [e1, hsz] at this; exact Nat.lt_irrefl _ (Nat.lt_of_succ_lt this)
      · cases hm
    obtain ⟨e1, e2⟩ := best4 (numAt #[(a, t1), (b, t2), (c, t3), (d, t4)])
    have hP' : (intItems #[(a, t1), (b, t2), (c, t3), (d, t4)])[argBest (fun i j => decide (numAt #[(a, t1), (b, t2), (c, t3), (d, t4)] i > numAt #[(a, t1), (b, t2), (c, t3), (d, t4)] j)) 3]? = some v := by
      have hsz2 : (intItems #[(a, t1), (b, t2), (c, t3), (d, t4)]).size - 1 = 3 := by simp [intItems]
      rw [← hsz2]; exact hP
    have hall : ∀ j, j < 4 → (intItems #[(a, t1), (b, t2), (c, t3), (d, t4)])[j]? = some v → ∃ t, v = .int (numAt #[(a, t1), (b, t2), (c, t3), (d, t4)] j) t := fun j hj e => by
      match j, hj, e with
      | 0, _, e => exact ⟨t1, by simpa [intItems, numAt] using e.symm⟩
      | 1, _, e => exact ⟨t2, by simpa [intItems, numAt] using e.symm⟩
      | 2, _, e => exact ⟨t3, by simpa [intItems, numAt] using e.symm⟩
      | 3, _, e => exact ⟨t4, by simpa [intItems, numAt] using e.symm⟩
    obtain ⟨t, rfl⟩ := hall _ e2 hP'
    rw [e1]
    have := h t h' tk hold
    simpa [numAt] using this
end
end Ab
set_option Elab.async false
set_option linter.all false
set_option maxRecDepth 100000
set_option maxHeartbeats 4000000
namespace Ab
open PySem PySem.Spec PyProof.Rows L2 RZ

theorem repL4 {K : PySem.W.Frag} {H : Hp} {a b c d : D} {vs : List V} (h : RepL K H [a, b, c, d] vs) : ∃ v1 v2 v3 v4, vs = [v1, v2, v3, v4] ∧ RepV K H a v1 ∧ RepV K H b v2 ∧ RepV K H c v3 ∧ RepV K H d v4 := by
  obtain ⟨v1, r, rfl, p1, h⟩ := h.inv
  obtain ⟨v2, r, rfl, p2, h⟩ := h.inv
  obtain ⟨v3, v4, rfl, p3, p4⟩ := repL2 h
  exact ⟨v1, v2, v3, v4, rfl, p1, p2, p3, p4⟩
/-! ### max, min -/
section
variable {X : Cx}
def rMax4 : List V → Hp → VK → Prop := fun xs H Q => ∃ a b c d, xs = [.int a, .int b, .int c, .int d] ∧ Q (.int (max (max (max a b) c) d)) H
theorem call_max4 (hc : X.calm = true) : CallR X (.builtin "max") rMax4 := by
  intro pins s σ H xs us Q I r ⟨a, b, c, d, e, q⟩
  subst e
  cases r with
  | cons r1 r =>
    cases r with
    | cons r2 r =>
      cases r with
      | cons r3 r =>
        cases r with
        | cons r4 r =>
          cases r
          obtain ⟨t1, rfl⟩ := r1
          obtain ⟨t2, rfl⟩ := r2
          obtain ⟨t3, rfl⟩ := r3
          obtain ⟨t4, rfl⟩ := r4
          exact max_four_ints (I.ok.hd hc) fun t h' tk k => ⟨.int _, H, I.kept k, ⟨t, rfl⟩, q⟩
end
def rMaxA (K : PySem.W.Frag) : List V → Hp → VK → Prop := fun xs H Q => (∃ i j, xs = [.int i, .int j] ∧ Q (.int (if j > i then j else i)) H) ∨ rMax4 xs H Q ∨ rMax K xs H Q
def rMinA (K : PySem.W.Frag) : List V → Hp → VK → Prop := fun xs H Q => (∃ i j, xs = [.int i, .int j] ∧ Q (.int (if j < i then j else i)) H) ∨ rMin K xs H Q
theorem call_maxA {X : Cx} (hc : X.calm = true) : CallR X (.builtin "max") (rMaxA X.K) := (call_max2 hc).or ((call_max4 hc).or (cr_max hc))
theorem call_minA {X : Cx} (hc : X.calm = true) : CallR X (.builtin "min") (rMinA X.K) := (call_min2 hc).or (cr_min hc)
def aMax : WRL := fun ds S Q => (match ds with
  | [.int i, .int j] => Q (.int (max i j)) S
  | [.int a, .int b, .int c, .int d] => Q (.int (max (max (max a b) c) d)) S
  | [.ref a] => (match S a with
    | some (.lst xs) => (match intsOf xs with
      | some ns => 0 < ns.length ∧ ∀ m, m ∈ ns → (∀ y, y ∈ ns → y ≤ m) → Q (.int m) S
      | none => False)
    | _ => False)
  | _ => False)
def aMin : WRL := fun ds S Q => (match ds with
  | [.int i, .int j] => Q (.int (min i j)) S
  | [.ref a] => (match S a with
    | some (.lst xs) => (match intsOf xs with
      | some ns => 0 < ns.length ∧ ∀ m, m ∈ ns → (∀ y, y ∈ ns → m ≤ y) → Q (.int m) S
      | none => False)
    | _ => False)
  | _ => False)
/-- a list of ints in the store -/
theorem ints_at {K : PySem.W.Frag} {H : Hp} {S : Sto} {t : Addr} {xs : List D} {ns : List Int} (r : Rep K H S) (e : S t = some (.lst xs)) (h : intsOf xs = some ns) : SqL K H t (ns.map V.int) := by
  obtain ⟨vs, g1, g2⟩ := r t _ e
  rw [intsOf_eq h] at g2
  rw [← g2.ints]
  exact .inl (.inl g1)
theorem sim_max {K : PySem.W.Frag} : SimL K (rMaxA K) aMax := fun xs ds H S QA Q p r a k => by
  match ds, a, p with
  | [.int i, .int j], a, p =>
    obtain ⟨v, u, rfl, p1, p2⟩ := repL2 p
    unfold RepV at p1 p2
    subst p1 p2
    have e : (if j > i then j else i) = max i j := by omega
    exact .inl ⟨i, j, rfl, by rw [e]; exact k _ S _ H a (Le.refl H) r (rep_int _)⟩
  | [.int a1, .int b1, .int c1, .int d1], a, p =>
    obtain ⟨v1, v2, v3, v4, rfl, p1, p2, p3, p4⟩ := repL4 p
    unfold RepV at p1 p2 p3 p4
    subst p1 p2 p3 p4
    exact .inr (.inl ⟨a1, b1, c1, d1, rfl, k _ S _ H a (Le.refl H) r (rep_int _)⟩)
  | [.ref t], a, p =>
    obtain ⟨v, rfl, pv⟩ := repL1 p
    unfold RepV at pv
    subst pv
    unfold aMax at a
    cases e : S t with
    | none => simp [e] at a
    | some o =>
      cases o with
      | lst xs =>
        simp only [e] at a
        cases e2 : intsOf xs with
        | none => simp [e2] at a
        | some ns =>
          simp only [e2] at a
          exact .inr (.inr ⟨t, ns, rfl, ints_at r e e2, a.1, fun m h1 h2 => k _ S _ H (a.2 m h1 h2) (Le.refl H) r (rep_int _)⟩)
      | _ => simp [e] at a
theorem sim_min {K : PySem.W.Frag} : SimL K (rMinA K) aMin := fun xs ds H S QA Q p r a k => by
  match ds, a, p with
  | [.int i, .int j], a, p =>
    obtain ⟨v, u, rfl, p1, p2⟩ := repL2 p
    unfold RepV at p1 p2
    subst p1 p2
    have e : (if j < i then j else i) = min i j := by omega
    exact .inl ⟨i, j, rfl, by rw [e]; exact k _ S _ H a (Le.refl H) r (rep_int _)⟩
  | [.ref t], a, p =>
    obtain ⟨v, rfl, pv⟩ := repL1 p
    unfold RepV at pv
    subst pv
    unfold aMin at a
    cases e : S t with
    | none => simp [e] at a
    | some o =>
      cases o with
      | lst xs =>
        simp only [e] at a
        cases e2 : intsOf xs with
        | none => simp [e2] at a
        | some ns =>
          simp only [e2] at a
          exact .inr ⟨t, ns, rfl, ints_at r e e2, a.1, fun m h1 h2 => k _ S _ H (a.2 m h1 h2) (Le.refl H) r (rep_int _)⟩
      | _ => simp [e] at a
/-! ### isinstance -/
def tyD (S : Sto) : D → Option String
  | .non => some "NoneType"
  | .bl _ => some "bool"
  | .int _ => some "int"
  | .str _ => some "str"
  | .tup _ => some "tuple"
  | .scr _ => some "list"
  | .ref a => (match S a with
    | some (.lst _) => some "list"
    | some (.dK _) => some "dict"
    | some (.dT _) => some "dict"
    | _ => none)
  | .ty _ => none
def isiB (t T : String) : Bool := t == T || (t == "bool" && T == "int")
def aIsi : WRL := fun ds S Q => (match ds with
  | [x, .ty T] => (match tyD S x with
    | some t => (T = "int" ∨ T = "bool" ∨ T = "tuple" ∨ T = "str" ∨ T = "list") ∧ Q (.bl (isiB t T)) S
    | none => False)
  | _ => False)
theorem kit_isi {K : PySem.W.Frag} {t T : String} (ht : t = "NoneType" ∨ t = "bool" ∨ t = "int" ∨ t = "str" ∨ t = "tuple" ∨ t = "list" ∨ t = "dict") (hT : T = "int" ∨ T = "bool" ∨ T = "tuple" ∨ T = "str" ∨ T = "list") : PySem.W.kitOne K (.type t) (.type T) = some (isiB t T) := by
  rcases ht with rfl | rfl | rfl | rfl | rfl | rfl | rfl <;> rcases hT with rfl | rfl | rfl | rfl | rfl <;> exact kit_ty (by decide +kernel)
theorem tyD_ok {K : PySem.W.Frag} {H : Hp} {S : Sto} {d : D} {v : V} {t : String} (r : Rep K H S) (p : RepV K H d v) (h : tyD S d = some t) : TyX K H v (.type t) ∧ (t = "NoneType" ∨ t = "bool" ∨ t = "int" ∨ t = "str" ∨ t = "tuple" ∨ t = "list" ∨ t = "dict") := by
  cases d with
  | non => unfold tyD at h; cases h; unfold RepV at p; subst p; exact ⟨.base .non, .inl rfl⟩
  | bl b => unfold tyD at h; cases h; unfold RepV at p; subst p; exact ⟨.base (.bl b), by simp⟩
  | int b => unfold tyD at h; cases h; unfold RepV at p; subst p; exact ⟨.base (.int b), by simp⟩
  | str b => unfold tyD at h; cases h; unfold RepV at p; subst p; exact ⟨.base (.str b), by simp⟩
  | tup ds =>
    unfold tyD at h; cases h
    unfold RepV at p
    obtain ⟨a, vs, rfl, tp, _⟩ := p
    refine ⟨?_, by simp⟩
    rcases tp with tp | ⟨_, ((tp | ⟨o, tp⟩) | ⟨o, its, n, hk, hc, _⟩)⟩ | ⟨_, o, tp⟩
    · exact .base (.tup tp)
    · cases tp
    · cases tp
    · exact .kTuple hk hc
    · exact .fTuple tp
  | scr ns =>
    unfold tyD at h; cases h
    unfold RepV at p
    obtain ⟨a, rfl, tp⟩ := p
    refine ⟨?_, by simp⟩
    rcases tp with ⟨o, tp⟩ | ((tp | ⟨o, tp⟩) | ⟨o, its, n, hk, hc, _⟩)
    · exact .base (.frz tp)
    · cases tp
    · cases tp
    · exact .kList hk hc
  | ref a =>
    unfold RepV at p
    subst p
    unfold tyD at h
    cases e : S a with
    | none => simp [e] at h
    | some o =>
      cases o with
      | lst xs => simp [e] at h; subst h; obtain ⟨vs, g1, _⟩ := r a _ e; exact ⟨.base (.lst g1), by simp⟩
      | dK xs => simp [e] at h; subst h; obtain ⟨vs, g1, _⟩ := r a _ e; exact ⟨.base (.dK g1), by simp⟩
      | dT xs => simp [e] at h; subst h; obtain ⟨vs, g1, _⟩ := r a _ e; exact ⟨.base (.dT g1), by simp⟩
      | ins C fs => simp [e] at h
      | lok ob us kvs => simp [e] at h
      | lokT ob us kvs => simp [e] at h
      | ctup xs => simp [e] at h
      | tab => simp [e] at h
  | ty n => unfold tyD at h; cases h
theorem sim_isi {K : PySem.W.Frag} : SimL K (rIsi K) aIsi := fun xs ds H S QA Q p r a k => by
  match ds, a, p with
  | [x, .ty T], a, p =>
    obtain ⟨v, u, rfl, p1, p2⟩ := repL2 p
    unfold RepV at p2
    subst p2
    unfold aIsi at a
    cases e : tyD S x with
    | none => simp [e] at a
    | some t =>
      simp only [e] at a
      obtain ⟨h1, h2⟩ := tyD_ok r p1 e
      exact ⟨v, .ty T, .type t, .type T, _, rfl, .ty T, h1, kit_isi h2 a.1, k _ S _ H a.2 (Le.refl H) r (rep_bl _)⟩
/-! ### tuple(..), list(..), int(..) -/
def aTuple : WRL := fun ds S Q => (match ds with
  | [.tup xs] => Q (.tup xs) S
  | [.ref a] => (match S a with
    | some (.lst xs) => Q (.tup xs) S
    | _ => False)
  | _ => False)
theorem sim_tuple {K : PySem.W.Frag} : SimL K (fun xs H Q => ∃ p ys, xs = [.ref p] ∧ ((SqL K H p ys ∧ ∀ l, H l = none → Q (.ref l) (upd H l (.tup ys))) ∨ (SqT K H p ys ∧ Q (.ref p) H))) aTuple := fun xs ds H S QA Q p r a k => by
  match ds, a, p with
  | [.tup xs], a, p =>
    obtain ⟨v, rfl, pv⟩ := repL1 p
    have p0 := pv
    unfold RepV at pv
    obtain ⟨t, vs, rfl, tp, rl⟩ := pv
    exact ⟨t, vs, rfl, .inr ⟨tp.sq, k _ S _ H a (Le.refl H) r p0⟩⟩
  | [.ref t], a, p =>
    obtain ⟨v, rfl, pv⟩ := repL1 p
    unfold RepV at pv
    subst pv
    unfold aTuple at a
    cases e : S t with
    | none => simp [e] at a
    | some o =>
      cases o with
      | lst xs =>
        simp only [e] at a
        obtain ⟨vs, g1, g2⟩ := r t _ e
        refine ⟨t, vs, rfl, .inl ⟨.inl (.inl g1), fun l nl => k _ S _ _ a (Le.new nl) (r.new nl) ?_⟩⟩
        unfold RepV
        exact ⟨l, vs, rfl, .inl upd_same, g2.le (Le.new nl)⟩
      | _ => simp [e] at a
def aList : WRL := fun ds S Q => (match ds with
  | [.tup xs] => ∀ p, S p = none → Q (.ref p) (put S p (.lst xs))
  | [.ref a] => (match S a with
    | some (.lst xs) => ∀ p, S p = none → Q (.ref p) (put S p (.lst xs))
    | _ => False)
  | _ => False)
theorem sim_list {K : PySem.W.Frag} : SimL K (fun xs H Q => ∃ p ys, xs = [.ref p] ∧ (SqL K H p ys ∨ SqT K H p ys) ∧ ∀ l, H l = none → Q (.ref l) (upd H l (.lst ys))) aList := fun xs ds H S QA Q p r a k => by
  match ds, a, p with
  | [.tup xs], a, p =>
    obtain ⟨v, rfl, pv⟩ := repL1 p
    unfold RepV at pv
    obtain ⟨t, vs, rfl, tp, rl⟩ := pv
    exact ⟨t, vs, rfl, .inr tp.sq, fun l nl => k _ _ _ _ (a l (r.free nl)) (Le.new nl) (r.newP (o := .lst xs) nl ⟨vs, upd_same, rl.le (Le.new nl)⟩) (rep_ref _)⟩
  | [.ref t], a, p =>
    obtain ⟨v, rfl, pv⟩ := repL1 p
    unfold RepV at pv
    subst pv
    unfold aList at a
    cases e : S t with
    | none => simp [e] at a
    | some o =>
      cases o with
      | lst xs =>
        simp only [e] at a
        obtain ⟨vs, g1, g2⟩ := r t _ e
        exact ⟨t, vs, rfl, .inl (.inl (.inl g1)), fun l nl => k _ _ _ _ (a l (r.free nl)) (Le.new nl) (r.newP (o := .lst xs) nl ⟨vs, upd_same, g2.le (Le.new nl)⟩) (rep_ref _)⟩
      | _ => simp [e] at a
def aInt : WRL := fun ds S Q => (match ds with
  | [.int i] => Q (.int i) S
  | [.bl b] => Q (.int (if b then 1 else 0)) S
  | _ => False)
theorem sim_int {K : PySem.W.Frag} : SimL K (fun xs H Q => (∃ i, xs = [.int i] ∧ Q (.int i) H) ∨ ∃ k, xs = [.bl k] ∧ Q (.int (if k then 1 else 0)) H) aInt := fun xs ds H S QA Q p r a k => by
  match ds, a, p with
  | [.int i], a, p =>
    obtain ⟨v, rfl, pv⟩ := repL1 p
    unfold RepV at pv
    exact .inl ⟨i, by rw [pv], k _ S _ H a (Le.refl H) r (rep_int _)⟩
  | [.bl b], a, p =>
    obtain ⟨v, rfl, pv⟩ := repL1 p
    unfold RepV at pv
    exact .inr ⟨b, by rw [pv], k _ S _ H a (Le.refl H) r (rep_int _)⟩
/-! ### all, any, sum -/
def blsOf : List D → Option (List Bool)
  | [] => some []
  | .bl i :: r => (blsOf r).map (i :: ·)
  | _ => none
theorem blsOf_eq : ∀ {ds : List D} {ns : List Bool}, blsOf ds = some ns → ds = ns.map D.bl
  | [], ns, h => by unfold blsOf at h; cases h; rfl
  | .bl i :: r, ns, h => by
    unfold blsOf at h
    rw [Option.map_eq_some_iff] at h
    obtain ⟨m, hm, rfl⟩ := h
    rw [blsOf_eq hm]
    rfl
  | .non :: _, _, h => by simp [blsOf] at h
  | .int _ :: _, _, h => by simp [blsOf] at h
  | .str _ :: _, _, h => by simp [blsOf] at h
  | .tup _ :: _, _, h => by simp [blsOf] at h
  | .ref _ :: _, _, h => by simp [blsOf] at h
  | .scr _ :: _, _, h => by simp [blsOf] at h
  | .ty _ :: _, _, h => by simp [blsOf] at h
theorem blsOf_map : ∀ (ns : List Bool), blsOf (ns.map D.bl) = some ns
  | [] => rfl
  | n :: ns => by
    show (blsOf (ns.map D.bl)).map (n :: ·) = _
    rw [blsOf_map ns]
    rfl
def aBls (g : List Bool → Bool) : WRL := fun ds S Q => (match ds with
  | [.ref a] => (match S a with
    | some (.lst xs) => (match blsOf xs with
      | some bs => Q (.bl (g bs)) S
      | none => False)
    | _ => False)
  | _ => False)
theorem sim_bls {K : PySem.W.Frag} {g : List Bool → Bool} : SimL K (fun vs H Q => ∃ (a : Addr) (bs : List Bool), vs = [V.ref a] ∧ SqL K H a (bs.map V.bl) ∧ Q (.bl (g bs)) H) (aBls g) := fun xs ds H S QA Q p r a k => by
  match ds, a, p with
  | [.ref t], a, p =>
    obtain ⟨v, rfl, pv⟩ := repL1 p
    unfold RepV at pv
    subst pv
    unfold aBls at a
    cases e : S t with
    | none => simp [e] at a
    | some o =>
      cases o with
      | lst xs =>
        simp only [e] at a
        cases e2 : blsOf xs with
        | none => simp [e2] at a
        | some bs =>
          simp only [e2] at a
          obtain ⟨vs, g1, g2⟩ := r t _ e
          rw [blsOf_eq e2] at g2
          exact ⟨t, bs, rfl, by rw [← g2.bls]; exact .inl (.inl g1), k _ S _ H a (Le.refl H) r (rep_bl _)⟩
      | _ => simp [e] at a
def aAll : WRL := aBls fun bs => bs.all id
def aAny : WRL := aBls fun bs => bs.any id
theorem sim_all {K : PySem.W.Frag} : SimL K (rAll K) aAll := sim_bls
theorem sim_any {K : PySem.W.Frag} : SimL K (rAny K) aAny := sim_bls
def aSum : WRL := fun ds S Q => (match ds with
  | [.ref a] => (match S a with
    | some (.lst xs) => (match intsOf xs with
      | some ns => Q (.int ns.sum) S
      | none => False)
    | _ => False)
  | _ => False)
theorem sim_sum {K : PySem.W.Frag} : SimL K (rSum K) aSum := fun xs ds H S QA Q p r a k => by
  match ds, a, p with
  | [.ref t], a, p =>
    obtain ⟨v, rfl, pv⟩ := repL1 p
    unfold RepV at pv
    subst pv
    unfold aSum at a
    cases e : S t with
    | none => simp [e] at a
    | some o =>
      cases o with
      | lst xs =>
        simp only [e] at a
        cases e2 : intsOf xs with
        | none => simp [e2] at a
        | some ns =>
          simp only [e2] at a
          exact ⟨t, ns, rfl, ints_at r e e2, k _ S _ H a (Le.refl H) r (rep_int _)⟩
      | _ => simp [e] at a
/-! ### methods of lists -/
def wBM (a : D → List D → Sto → AK → Prop) (wo : WE) (wa : WA) : WE := fun ρ S Q E => wo ρ S (fun x S1 => (∃ l xs, x = .ref l ∧ S1 l = some (.lst xs)) ∧ wa ρ S1 (fun ds S2 => a x ds S2 Q) E) E
def SimM (K : PySem.W.Frag) (r : V → List V → Hp → VK → Prop) (a : D → List D → Sto → AK → Prop) : Prop := ∀ x xs dx ds H S QA Q, RepV K H dx x → RepL K H ds xs → Rep K H S → a dx ds S QA → KOk K H QA Q → r x xs H Q
section
variable {X : Cx} {W : WX} {o e : Expr} {es : List Expr} {wo : WE} {wa : WA} {name : Str} {apos cpos : Pos} {id : String} {r : V → List V → Hp → VK → Prop} {a : D → List D → Sto → AK → Prop}
theorem sim_bm {ta : TA} (hta : ∀ σ H Q, cA X.K W wa σ H Q → ta σ H Q) (sr : SimM X.K r a) : ∀ σ H Q, cE X.K W (wBM a wo wa) σ H Q → tBM X.K "list" r (cE X.K W wo) ta σ H Q := fun σ H Q ⟨ρ, S, QA, EA, rs, rp, h, k, x⟩ =>
  ⟨ρ, S, _, EA, rs, rp, h, fun d S1 v H1 ⟨⟨l, xs, e1, e2⟩, h2⟩ l1 r1 p1 => by
    subst e1
    have p0 := p1
    unfold RepV at p1
    subst p1
    obtain ⟨vs, g1, g2⟩ := r1 l _ e2
    exact ⟨.inl ⟨rfl, vs, .inl (.inl g1)⟩, hta σ H1 _ ⟨ρ, S1, _, EA, rs.le l1, r1, h2, fun ds S2 us H2 h3 l2 r2 p2 => sr _ _ _ _ H2 S2 QA Q (p0.le l2) p2 r2 h3 (k.le (l1.trans l2)), x.le l1⟩⟩, x⟩
theorem re_bm (slot : Slot "list" name id) (hty : typeOf (.builtin id) = pure (.type "method_descriptor")) (hm : MtR X id r) (sr : SimM X.K r a) (ho : RE X W o wo) (ha : RA X W (e :: es) wa)
    (hbase : attributeBase o name X.env (eval o X.env) = eval o X.env := by rfl)
    (hfew : ((backTo cpos (starEach (e :: es) X.env)).all (fun x => !x.1) && (backToKw cpos (keywordEach [] X.env)).all (fun x => x.1.isSome)
      && decide ((e :: es).length + ([] : List Keyword).length + (if ([] : List Keyword).isEmpty then 0 else 1) < 30)) = true := by rfl)
    (hline : (apos.endLine == cpos.line) = true := by rfl) (hs : starEach (e :: es) X.env = (false, eval e X.env) :: starEach es X.env := by rfl) (hplain : (backTo cpos (starEach es X.env)).any (·.1) = false := by rfl) :
    RE X W (.Call (.Attribute o name apos) (e :: es) [] cpos) (wBM a wo wa) := pe_imp (pe_bm PySem.F.plainAttrs_list slot hty hm ho ha hbase hfew hline hs hplain) (sim_bm (fun _ _ _ h => h) sr)
end
def aApp : D → List D → Sto → AK → Prop := fun x ds S Q => (match x, ds with
  | .ref l, [y] => (match S l with
    | some (.lst xs) => xs.length < sizeLine ∧ Q .non (put S l (.lst (xs ++ [y])))
    | _ => False)
  | _, _ => False)
theorem sim_app {K : PySem.W.Frag} : SimM K rAppend aApp := fun x xs dx ds H S QA Q px p r a k => by
  match dx, ds, a, p with
  | .ref l, [y], a, p =>
    obtain ⟨v, rfl, pv⟩ := repL1 p
    unfold RepV at px
    subst px
    unfold aApp at a
    cases e : S l with
    | none => simp [e] at a
    | some o =>
      cases o with
      | lst zs =>
        simp only [e] at a
        obtain ⟨vs, g1, g2⟩ := r l _ e
        have L : Le H (upd H l (.lst (vs ++ [v]))) := r.le_put e
        exact ⟨l, vs, v, rfl, rfl, g1, by rw [g2.length]; exact a.1, k _ _ _ _ a.2 L (r.put (o := .lst (zs ++ [y])) e ⟨_, upd_same, (g2.append (repL_cons pv repL_nil)).le L⟩) rep_non⟩
      | _ => simp [e] at a
def aExt : D → List D → Sto → AK → Prop := fun x ds S Q => (match x, ds with
  | .ref l, [.ref b] => (match S l, S b with
    | some (.lst xs), some (.lst zs) => xs.length + zs.length ≤ sizeLine ∧ Q .non (put S l (.lst (xs ++ zs)))
    | _, _ => False)
  | _, _ => False)
theorem sim_ext {K : PySem.W.Frag} : SimM K rExtend aExt := fun x xs dx ds H S QA Q px p r a k => by
  match dx, ds, a, p with
  | .ref l, [.ref b], a, p =>
    obtain ⟨v, rfl, pv⟩ := repL1 p
    unfold RepV at px pv
    subst px pv
    unfold aExt at a
    cases e : S l with
    | none => simp [e] at a
    | some o =>
      cases o with
      | lst zs =>
        cases e2 : S b with
        | none => simp [e, e2] at a
        | some o2 =>
          cases o2 with
          | lst ws =>
            simp only [e, e2] at a
            obtain ⟨vs, g1, g2⟩ := r l _ e
            obtain ⟨us, g3, g4⟩ := r b _ e2
            have L : Le H (upd H l (.lst (vs ++ us))) := r.le_put e
            exact ⟨l, b, vs, us, rfl, rfl, g1, g3, by rw [g2.length, g4.length]; exact a.1, k _ _ _ _ a.2 L (r.put (o := .lst (zs ++ ws)) e ⟨_, upd_same, (g2.append g4).le L⟩) rep_non⟩
          | _ => simp [e, e2] at a
      | _ => simp [e] at a
def aIns : D → List D → Sto → AK → Prop := fun x ds S Q => (match x, ds with
  | .ref l, [.int i, y] => (match S l with
    | some (.lst xs) => xs.length < sizeLine ∧ 0 ≤ i ∧ i < 2 ^ 63 ∧ Q .non (put S l (.lst (xs.take i.toNat ++ [y] ++ xs.drop i.toNat)))
    | _ => False)
  | _, _ => False)
theorem sim_ins {K : PySem.W.Frag} : SimM K (fun x vs H Q => ∃ (l : Addr) (xs : List V) (i : Int) (y : V), x = .ref l ∧ vs = [.int i, y] ∧ H l = some (.lst xs) ∧ xs.length < sizeLine ∧ 0 ≤ i ∧ i < 2 ^ 63 ∧ Q .non (upd H l (.lst (xs.take i.toNat ++ [y] ++ xs.drop i.toNat)))) aIns := fun x xs dx ds H S QA Q px p r a k => by
  match dx, ds, a, p with
  | .ref l, [.int i, y], a, p =>
    obtain ⟨v, u, rfl, pv, pu⟩ := repL2 p
    unfold RepV at px pv
    subst px pv
    unfold aIns at a
    cases e : S l with
    | none => simp [e] at a
    | some o =>
      cases o with
      | lst zs =>
        simp only [e] at a
        obtain ⟨vs, g1, g2⟩ := r l _ e
        have L : Le H (upd H l (.lst (vs.take i.toNat ++ [u] ++ vs.drop i.toNat))) := r.le_put e
        exact ⟨l, vs, i, u, rfl, rfl, g1, by rw [g2.length]; exact a.1, a.2.1, a.2.2.1, k _ _ _ _ a.2.2.2 L (r.put (o := .lst (zs.take i.toNat ++ [y] ++ zs.drop i.toNat)) e ⟨_, upd_same, (((g2.take _).append (repL_cons pu repL_nil)).append (g2.drop _)).le L⟩) rep_non⟩
      | _ => simp [e] at a
def aPopI : D → List D → Sto → AK → Prop := fun x ds S Q => (match x, ds with
  | .ref l, [.int i] => (match S l with
    | some (.lst xs) => -(2 ^ 63) ≤ i ∧ i < 2 ^ 63 ∧ ∃ k y, seqIndex? i xs.length = some k ∧ xs[k]? = some y ∧ Q y (put S l (.lst (xs.eraseIdx k)))
    | _ => False)
  | _, _ => False)
theorem sim_popI {K : PySem.W.Frag} : SimM K rPopAt aPopI := fun x xs dx ds H S QA Q px p r a k => by
  match dx, ds, a, p with
  | .ref l, [.int i], a, p =>
    obtain ⟨v, rfl, pv⟩ := repL1 p
    unfold RepV at px pv
    subst px pv
    unfold aPopI at a
    cases e : S l with
    | none => simp [e] at a
    | some o =>
      cases o with
      | lst zs =>
        simp only [e] at a
        obtain ⟨h1, h2, j, y, h3, h4, h5⟩ := a
        obtain ⟨vs, g1, g2⟩ := r l _ e
        obtain ⟨u, eu, pu⟩ := g2.get h4
        have L : Le H (upd H l (.lst (vs.eraseIdx j))) := r.le_put e
        exact ⟨l, vs, i, j, u, rfl, rfl, g1, h1, h2, by rw [g2.length]; exact h3, eu, k _ _ _ _ h5 L (r.put (o := .lst (zs.eraseIdx j)) e ⟨_, upd_same, (g2.erase j).le L⟩) (pu.le L)⟩
      | _ => simp [e] at a
end Ab
set_option Elab.async false
set_option linter.all false
set_option maxRecDepth 100000
set_option maxHeartbeats 4000000
namespace Ab
open PySem PySem.Spec PyProof.Rows L2 RZ

/-! ### new dicts -/
def wDK : WE := fun _ S Q _ => ∀ p, S p = none → Q (.ref p) (put S p (.dK []))
def wDT : WE := fun _ S Q _ => ∀ p, S p = none → Q (.ref p) (put S p (.dT []))
section
variable {X : Cx} {W : WX} {pos : Pos}
theorem re_dK : RE X W (.Dict [] [] pos) wDK := pe_imp pe_dnewK fun σ H Q ⟨ρ, S, QA, EA, rs, rp, h, k, x⟩ p np => k _ _ _ _ (h p (rp.free np)) (Le.new np) (rp.newP (o := .dK []) np ⟨[], upd_same, rfl⟩) (rep_ref _)
theorem re_dT : RE X W (.Dict [] [] pos) wDT := pe_imp pe_dnewT fun σ H Q ⟨ρ, S, QA, EA, rs, rp, h, k, x⟩ p np => k _ _ _ _ (h p (rp.free np)) (Le.new np) (rp.newP (o := .dT []) np ⟨[], upd_same, rfl⟩) (rep_ref _)
end
/-! ### methods of dicts -/
def isDA (S : Sto) (a : Addr) : Prop := match S a with
  | some (.dK _) => True
  | some (.dT _) => True
  | some (.lok _ _ _) => True
  | some (.lokT _ _ _) => True
  | _ => False
theorem isDA_ok {K : PySem.W.Frag} {H : Hp} {S : Sto} {a : Addr} (r : Rep K H S) (h : isDA S a) : IsD H a := by
  unfold isDA at h
  cases e : S a with
  | none => simp [e] at h
  | some o =>
    cases o with
    | dK kvs => obtain ⟨us, g1, _⟩ := r a _ e; exact .inl ⟨us, .inl g1⟩
    | dT kvs => obtain ⟨us, g1, _⟩ := r a _ e; exact .inr ⟨us, .inl g1⟩
    | lok ob us kvs => obtain ⟨g1, _⟩ := r a _ e; exact .inl ⟨us, .inr ⟨ob, g1⟩⟩
    | ctup xs => simp [e] at h
    | tab => simp [e] at h
    | lokT ob us kvs => obtain ⟨g1, _⟩ := r a _ e; exact .inr ⟨us, .inr ⟨ob, g1⟩⟩
    | lst xs => simp [e] at h
    | ins C fs => simp [e] at h
def wGet1 (b : Bool) (wo wi : WE) : WE := fun ρ S Q E => wo ρ S (fun x S1 => (match x with
  | .ref a => isDA S1 a ∧ wi ρ S1 (fun y S2 => dgetA b S2 a y fun o => Q (o.getD .non) S2) E
  | _ => False)) E
def wGet2 (b : Bool) (wo wi wz : WE) : WE := fun ρ S Q E => wo ρ S (fun x S1 => (match x with
  | .ref a => isDA S1 a ∧ wi ρ S1 (fun y S2 => wz ρ S2 (fun z S3 => dgetA b S3 a y fun o => Q (o.getD z) S3) E) E
  | _ => False)) E
def wPop1 (wo wi : WE) : WE := fun ρ S Q E => wo ρ S (fun x S1 => (match x with
  | .ref a => isDA S1 a ∧ wi ρ S1 (fun y S2 => (match S2 a, keyA y with
    | some (.dK kvs), some k => ∃ d, getA kvs k = some d ∧ Q d (put S2 a (.dK (delA kvs k)))
    | _, _ => False)) E
  | _ => False)) E
def wPop2 (wo wi wz : WE) : WE := fun ρ S Q E => wo ρ S (fun x S1 => (match x with
  | .ref a => isDA S1 a ∧ wi ρ S1 (fun y S2 => wz ρ S2 (fun z S3 => (match S3 a, keyA y with
    | some (.dK kvs), some k => (∀ d, getA kvs k = some d → Q d (put S3 a (.dK (delA kvs k)))) ∧ (getA kvs k = none → Q z S3)
    | _, _ => False)) E) E
  | _ => False)) E
def wSetd (wo wi wz : WE) : WE := fun ρ S Q E => wo ρ S (fun x S1 => (match x with
  | .ref a => isDA S1 a ∧ wi ρ S1 (fun y S2 => wz ρ S2 (fun z S3 => (match S3 a, keyA y with
    | some (.dK kvs), some k => kvs.length < sizeLine ∧ (∀ d, getA kvs k = some d → Q d S3) ∧ (getA kvs k = none → Q z (put S3 a (.dK (putA kvs k z))))
    | _, _ => False)) E) E
  | _ => False)) E
section
variable {X : Cx} {W : WX} {o e f : Expr} {wo we wf : WE} {apos cpos : Pos} {t : Bool}
theorem getD_ok {K : PySem.W.Frag} {H : Hp} {ob : Option D} {ov : Option V} {d : D} {v : V} (h1 : ∀ d, ob = some d → ∃ u, ov = some u ∧ RepV K H d u) (h2 : ob = none → ov = none) (p : RepV K H d v) : RepV K H (ob.getD d) (ov.getD v) := by
  cases ob with
  | none => rw [h2 rfl]; exact p
  | some x =>
    obtain ⟨u, eu, pu⟩ := h1 x rfl
    rw [eu]
    exact pu
theorem re_get1 (hu : X.A.units + 100 < cLine) (ht : t = true → NoSt X.K) (ho : RE X W o wo) (he : RE X W e we) (m : M1 X o "get" apos e cpos := by exact ⟨rfl, rfl, rfl, rfl⟩) : RE X W (.Call (.Attribute o "get" apos) [e] [] cpos) (wGet1 t wo we) :=
  pe_imp (pe_dget1 (by omega) ho he m) fun σ H Q ⟨ρ, S, QA, EA, rs, rp, h, k, x⟩ => ⟨ρ, S, _, EA, rs, rp, h, fun d S1 v H1 h1 l1 r1 p1 => by
    cases d with
    | ref a =>
      unfold RepV at p1
      subst p1
      refine ⟨a, rfl, isDA_ok r1 h1.1, ρ, S1, _, EA, rs.le l1, r1, h1.2, fun y S2 vy H2 h2 l2 r2 p2 => ?_, x.le l1⟩
      obtain ⟨ob, ov, g, q, g1, g2⟩ := dgetA_ok ht r2 p2 h2
      exact ⟨ov, g, k _ S2 _ H2 q (l1.trans l2) r2 (getD_ok g1 g2 rep_non)⟩
    | _ => exact (show False from h1).elim, x⟩
theorem re_get2 (hu : X.A.units + 100 < cLine) (ht : t = true → NoSt X.K) (ho : RE X W o wo) (he : RE X W e we) (hf : RE X W f wf) (m : M2 X o "get" apos e f cpos := by exact ⟨rfl, rfl, rfl, rfl⟩) : RE X W (.Call (.Attribute o "get" apos) [e, f] [] cpos) (wGet2 t wo we wf) :=
  pe_imp (pe_dget2 (by omega) ho he hf m) fun σ H Q ⟨ρ, S, QA, EA, rs, rp, h, k, x⟩ => ⟨ρ, S, _, EA, rs, rp, h, fun d S1 v H1 h1 l1 r1 p1 => by
    cases d with
    | ref a =>
      unfold RepV at p1
      subst p1
      refine ⟨a, rfl, isDA_ok r1 h1.1, ρ, S1, _, EA, rs.le l1, r1, h1.2, fun y S2 vy H2 h2 l2 r2 p2 => ⟨ρ, S2, _, EA, rs.le (l1.trans l2), r2, h2, fun z S3 vz H3 h3 l3 r3 p3 => ?_, x.le (l1.trans l2)⟩, x.le l1⟩
      obtain ⟨ob, ov, g, q, g1, g2⟩ := dgetA_ok ht r3 (p2.le l3) h3
      exact ⟨ov, g, k _ S3 _ H3 q ((l1.trans l2).trans l3) r3 (getD_ok g1 g2 p3)⟩
    | _ => exact (show False from h1).elim, x⟩
theorem re_pop1 (ho : RE X W o wo) (he : RE X W e we) (m : M1 X o "pop" apos e cpos := by exact ⟨rfl, rfl, rfl, rfl⟩) : RE X W (.Call (.Attribute o "pop" apos) [e] [] cpos) (wPop1 wo we) :=
  pe_imp (pe_dpop1 ho he m) fun σ H Q ⟨ρ, S, QA, EA, rs, rp, h, k, x⟩ => ⟨ρ, S, _, EA, rs, rp, h, fun d S1 v H1 h1 l1 r1 p1 => by
    cases d with
    | ref a =>
      unfold RepV at p1
      subst p1
      refine ⟨a, rfl, isDA_ok r1 h1.1, ρ, S1, _, EA, rs.le l1, r1, h1.2, fun y S2 vy H2 h2 l2 r2 p2 => ?_, x.le l1⟩
      cases e1 : S2 a with
      | none => simp [e1] at h2
      | some ob =>
        cases ob with
        | dK kvs =>
          cases e2 : keyA y with
          | none => simp [e1, e2] at h2
          | some key =>
            simp only [e1, e2] at h2
            obtain ⟨d, g3, q⟩ := h2
            obtain ⟨us, g1, g2⟩ := r2 a _ e1
            obtain ⟨u, eu, pu⟩ := g2.val.1 d g3
            have L : Le H2 (upd H2 a (.dK (dropK us key))) := r2.le_put e1
            exact ⟨us, key, u, g1, keyA_ok e2 p2, eu, k _ _ _ _ q ((l1.trans l2).trans L) (r2.put (o := .dK (delA kvs key)) e1 ⟨_, upd_same, (g2.le L).del⟩) (pu.le L)⟩
        | _ => simp [e1] at h2
    | _ => exact (show False from h1).elim, x⟩
theorem re_pop2 (ho : RE X W o wo) (he : RE X W e we) (hf : RE X W f wf) (m : M2 X o "pop" apos e f cpos := by exact ⟨rfl, rfl, rfl, rfl⟩) : RE X W (.Call (.Attribute o "pop" apos) [e, f] [] cpos) (wPop2 wo we wf) :=
  pe_imp (pe_dpop2 ho he hf m) fun σ H Q ⟨ρ, S, QA, EA, rs, rp, h, k, x⟩ => ⟨ρ, S, _, EA, rs, rp, h, fun d S1 v H1 h1 l1 r1 p1 => by
    cases d with
    | ref a =>
      unfold RepV at p1
      subst p1
      refine ⟨a, rfl, isDA_ok r1 h1.1, ρ, S1, _, EA, rs.le l1, r1, h1.2, fun y S2 vy H2 h2 l2 r2 p2 => ⟨ρ, S2, _, EA, rs.le (l1.trans l2), r2, h2, fun z S3 vz H3 h3 l3 r3 p3 => ?_, x.le (l1.trans l2)⟩, x.le l1⟩
      cases e1 : S3 a with
      | none => simp [e1] at h3
      | some ob =>
        cases ob with
        | dK kvs =>
          cases e2 : keyA y with
          | none => simp [e1, e2] at h3
          | some key =>
            simp only [e1, e2] at h3
            obtain ⟨us, g1, g2⟩ := r3 a _ e1
            have L : Le H3 (upd H3 a (.dK (dropK us key))) := r3.le_put e1
            refine ⟨us, key, g1, keyA_ok e2 (p2.le l3), fun u eu => ?_, fun en => ?_⟩
            · cases eg : getA kvs key with
              | none => rw [g2.val.2 eg] at eu; cases eu
              | some d =>
                obtain ⟨u', eu', pu⟩ := g2.val.1 d eg
                rw [eu'] at eu
                cases eu
                exact k _ _ _ _ (h3.1 d eg) (((l1.trans l2).trans l3).trans L) (r3.put (o := .dK (delA kvs key)) e1 ⟨_, upd_same, (g2.le L).del⟩) (pu.le L)
            · cases eg : getA kvs key with
              | none => exact k _ S3 _ H3 (h3.2 eg) ((l1.trans l2).trans l3) r3 p3
              | some d =>
                obtain ⟨u', eu', pu⟩ := g2.val.1 d eg
                rw [eu'] at en
                cases en
        | _ => simp [e1] at h3
    | _ => exact (show False from h1).elim, x⟩
theorem re_setd (ho : RE X W o wo) (he : RE X W e we) (hf : RE X W f wf) (m : M2 X o "setdefault" apos e f cpos := by exact ⟨rfl, rfl, rfl, rfl⟩) : RE X W (.Call (.Attribute o "setdefault" apos) [e, f] [] cpos) (wSetd wo we wf) :=
  pe_imp (pe_dsetd ho he hf m) fun σ H Q ⟨ρ, S, QA, EA, rs, rp, h, k, x⟩ => ⟨ρ, S, _, EA, rs, rp, h, fun d S1 v H1 h1 l1 r1 p1 => by
    cases d with
    | ref a =>
      unfold RepV at p1
      subst p1
      refine ⟨a, rfl, isDA_ok r1 h1.1, ρ, S1, _, EA, rs.le l1, r1, h1.2, fun y S2 vy H2 h2 l2 r2 p2 => ⟨ρ, S2, _, EA, rs.le (l1.trans l2), r2, h2, fun z S3 vz H3 h3 l3 r3 p3 => ?_, x.le (l1.trans l2)⟩, x.le l1⟩
      cases e1 : S3 a with
      | none => simp [e1] at h3
      | some ob =>
        cases ob with
        | dK kvs =>
          cases e2 : keyA y with
          | none => simp [e1, e2] at h3
          | some key =>
            simp only [e1, e2] at h3
            obtain ⟨us, g1, g2⟩ := r3 a _ e1
            have L : Le H3 (upd H3 a (.dK (putK us key vz))) := r3.le_put e1
            refine ⟨us, key, g1, keyA_ok e2 (p2.le l3), by rw [g2.length]; exact h3.1, fun u eu => ?_, fun en => ?_⟩
            · cases eg : getA kvs key with
              | none => rw [g2.val.2 eg] at eu; cases eu
              | some d =>
                obtain ⟨u', eu', pu⟩ := g2.val.1 d eg
                rw [eu'] at eu
                cases eu
                exact k _ S3 _ H3 (h3.2.1 d eg) ((l1.trans l2).trans l3) r3 pu
            · cases eg : getA kvs key with
              | none => exact k _ _ _ _ (h3.2.2 eg) (((l1.trans l2).trans l3).trans L) (r3.put (o := .dK (putA kvs key z)) e1 ⟨_, upd_same, (g2.le L).put (p3.le L)⟩) (p3.le L)
              | some d =>
                obtain ⟨u', eu', pu⟩ := g2.val.1 d eg
                rw [eu'] at en
                cases en
        | _ => simp [e1] at h3
    | _ => exact (show False from h1).elim, x⟩
end

/-! ### sorted -/
def lexLe (p q : Int × Int) : Prop := p.1 < q.1 ∨ (p.1 = q.1 ∧ p.2 ≤ q.2)
def plD (p : Int × Int) : D := .tup [.int p.1, .int p.2]
section
variable {X : Cx}
/-- sorted(xs), pairs of ints -/
def rSrt2 (K : PySem.W.Frag) : List V → Hp → VK → Prop := fun vs H Q => ∃ (a : Addr) (ps : List (V × (Int × Int))), vs = [V.ref a] ∧ SqL K H a (ps.map (·.1)) ∧ (∀ p ∈ ps, ∃ t, p.1 = V.ref t ∧ SqT K H t [.int p.2.1, .int p.2.2]) ∧
  ∀ (qs : List (V × (Int × Int))) (l : Addr), qs.Perm ps → qs.Pairwise (fun p q => lexLe p.2 q.2) → H l = none → Q (.ref l) (upd H l (.lst (qs.map (·.1))))
theorem cr_srt2 : CallR X (.builtin "sorted") (rSrt2 X.K) := by
  classical
  intro pins s σ H vs us Q I r h
  obtain ⟨a, ps, rfl, hs, hx, q⟩ := h
  obtain ⟨its, rv, hl, hz⟩ := I.list hs
  obtain ⟨u, rfl, ru⟩ := vals1 r
  obtain rfl : u = Value.ref a := ru
  -- what stands at a value
  let k : V → Int × Int := fun x => if h : ∃ p ∈ ps, p.1 = x then h.choose.2 else (0, 0)
  have hk : ∀ p ∈ ps, k p.1 = p.2 := fun p hp => by
    have h : ∃ p' ∈ ps, p'.1 = p.1 := ⟨p, hp, rfl⟩
    show (if h : ∃ p' ∈ ps, p'.1 = p.1 then h.choose.2 else (0, 0)) = p.2
    rw [dif_pos h]
    obtain ⟨h1, h2⟩ := h.choose_spec
    generalize h.choose = p' at h1 h2
    obtain ⟨t, e1, t1⟩ := hx p hp
    obtain ⟨t', e2, t2⟩ := hx p' h1
    rw [h2, e1] at e2
    cases e2
    have z := I.tuple_inj t1 t2
    injection z with z1 z2
    injection z2 with z2 _
    injection z1 with z1
    injection z2 with z2
    exact Prod.ext z1.symm z2.symm
  have hr : ∀ x ∈ ps.map (·.1), ∃ t, x = V.ref t := fun x m => by
    obtain ⟨p, hp, rfl⟩ := List.mem_map.mp m
    obtain ⟨t, e, _⟩ := hx p hp
    exact ⟨t, e⟩
  obtain ⟨e1, e2⟩ := refs_back rv hr
  refine SrtO.sorted_pairsO (k := fun u => k (backV u)) hl.isList (by rw [← rv.length]; exact hz) (fun v hv => ?_) fun h' d out h1 h2 kp hd hn => ?_
  · obtain ⟨t, rfl⟩ := e2 v hv
    have hm : V.ref t ∈ ps.map (·.1) := by rw [e1]; exact List.mem_map.mpr ⟨_, hv, rfl⟩
    obtain ⟨p, hp, ep⟩ := List.mem_map.mp hm
    obtain ⟨t', e', ht⟩ := hx p hp
    rw [ep] at e'
    cases e'
    have kp := hk p hp
    rw [ep] at kp
    obtain ⟨its2, r2, ⟨o, ho, hc, n, hd⟩, _⟩ := I.tuple ht
    obtain ⟨u1, u2, rfl, ri, rj⟩ := vals2 r2
    obtain ⟨t1, rfl⟩ := ri
    obtain ⟨t2, rfl⟩ := rj
    refine ⟨t, o, t1, t2, n, rfl, ho, hc, ?_⟩
    show o.data = .seq #[.int (k (V.ref t)).1 t1, .int (k (V.ref t)).2 t2] n
    rw [kp]
    exact hd
  · have h3 : ∀ u ∈ out, ∃ a, u = Value.ref a := fun u hu => e2 u (h2.perm.mem_iff.mp hu)
    obtain ⟨n, hn⟩ := hn
    have hb : SrtO.Stb (ltP k) (out.map backV) (ps.map (·.1)) := by
      rw [e1]
      exact SrtO.Stb.map (ltP_swo k) backV h2
    have hso : SrtO.Srtd (ltP k) (out.map backV) := SrtO.srtd_map h1
    have eps : (ps.map (·.1)).map (fun x => (x, k x)) = ps := by
      rw [List.map_map]
      conv => rhs; rw [← List.map_id ps]
      exact List.map_congr_left fun p hp => Prod.ext rfl (hk p hp)
    refine ⟨.ref d, upd H d (.lst (out.map backV)), I.laid (t' := s.toks) kp hd ⟨?_, out, n, vals_back h3, hn⟩, rfl, ?_⟩
    · rw [hb.len]
      simpa using hz
    · have eq : out.map backV = ((out.map backV).map fun x => (x, k x)).map (·.1) := by
        rw [List.map_map]
        conv => lhs; rw [← List.map_id (out.map backV)]
        exact List.map_congr_left fun _ _ => rfl
      rw [eq]
      refine q _ d ?_ ?_ (I.hok.fresh hd)
      · have := hb.perm.map (fun x => (x, k x))
        rw [eps] at this
        exact this
      · refine List.pairwise_map.mpr (hso.imp fun {x y} hxy => ?_)
        have := SrtO.lexB_no.mp hxy
        show lexLe (k x) (k y)
        unfold lexLe
        omega
end
def rSrtD : List V → Hp → VK → Prop := fun xs H Q => ∃ (a : Addr) (kvs : List (Key × V)) (ks : List Int), xs = [.ref a] ∧ Rd H a (.dK kvs) ∧ kvs.map (·.1) = ks.map Sum.inl ∧ ks.length < 64 ∧
    ∀ (ys : List Int) (p : Addr), ys.Perm ks → ys.Pairwise (· ≤ ·) → H p = none → Q (.ref p) (upd H p (.lst (ys.map V.int)))
def rSrtA (K : PySem.W.Frag) : List V → Hp → VK → Prop := fun xs H Q => rSortedI K xs H Q ∨ rSrt2 K xs H Q ∨ rSrtD xs H Q
theorem cr_srtA {X : Cx} (hc : X.calm = true) : CallR X (.builtin "sorted") (rSrtA X.K) := cr_sortedI.or (cr_srt2.or (call_sortedDI hc))
/-- sorted: a list of ints, a list of pairs of ints, a dict with int keys -/
def aSrt : WRL := fun ds S Q => (match ds with
  | [.ref a] => (match S a with
    | some (.lst xs) => (∃ ns, xs = ns.map D.int ∧ ∀ (ms : List Int), ms.Perm ns → ms.Pairwise (· ≤ ·) → ∀ p, S p = none → Q (.ref p) (put S p (.lst (ms.map D.int)))) ∨
        (∃ ps, xs = ps.map plD ∧ ∀ (qs : List (Int × Int)), qs.Perm ps → qs.Pairwise lexLe → ∀ p, S p = none → Q (.ref p) (put S p (.lst (qs.map plD))))
    | some (.dK kvs) => ∃ ks : List Int, kvs.map (·.1) = ks.map Sum.inl ∧ ks.length < 64 ∧ ∀ (ms : List Int), ms.Perm ks → ms.Pairwise (· ≤ ·) → ∀ p, S p = none → Q (.ref p) (put S p (.lst (ms.map D.int)))
    | some (.lok _ _ kvs) => ∃ ks : List Int, kvs.map (·.1) = ks.map Sum.inl ∧ ks.length < 64 ∧ ∀ (ms : List Int), ms.Perm ks → ms.Pairwise (· ≤ ·) → ∀ p, S p = none → Q (.ref p) (put S p (.lst (ms.map D.int)))
    | _ => False)
  | _ => False)
theorem pairs_rep {K : PySem.W.Frag} {H : Hp} : ∀ {ps : List (Int × Int)} {vs : List V}, RepL K H (ps.map plD) vs → ∃ zs : List (V × (Int × Int)), zs.map (·.1) = vs ∧ zs.map (·.2) = ps ∧ ∀ z ∈ zs, RepV K H (plD z.2) z.1
  | [], _, h => ⟨[], by rw [h.nil_inv]; exact ⟨rfl, rfl, by simp⟩⟩
  | p :: ps, _, h => by
    obtain ⟨v, r, rfl, pv, h'⟩ := h.inv
    obtain ⟨zs, e1, e2, e3⟩ := pairs_rep h'
    exact ⟨(v, p) :: zs, by rw [List.map_cons, e1], by rw [List.map_cons, e2], fun z hz => by
      rcases List.mem_cons.mp hz with rfl | hz
      · exact pv
      · exact e3 z hz⟩
theorem rep_pairs {K : PySem.W.Frag} {H : Hp} : ∀ {zs : List (V × (Int × Int))}, (∀ z ∈ zs, RepV K H (plD z.2) z.1) → RepL K H ((zs.map (·.2)).map plD) (zs.map (·.1))
  | [], _ => repL_nil
  | z :: zs, h => repL_cons (h z (by simp)) (rep_pairs fun y hy => h y (by simp [hy]))
theorem sim_srt {K : PySem.W.Frag} : SimL K (rSrtA K) aSrt := fun xs ds H S QA Q p r a k => by
  match ds, a, p with
  | [.ref t], a, p =>
    obtain ⟨v, rfl, pv⟩ := repL1 p
    unfold RepV at pv
    subst pv
    unfold aSrt at a
    cases e : S t with
    | none => simp [e] at a
    | some o =>
      cases o with
      | lst xs =>
        simp only [e] at a
        obtain ⟨vs, g1, g2⟩ := r t _ e
        rcases a with ⟨ns, rfl, a⟩ | ⟨ps, rfl, a⟩
        · have hv := g2.ints
          subst hv
          exact .inl ⟨t, ns, rfl, .inl (.inl g1), fun ms l h1 h2 nl => k _ _ _ _ (a ms h1 h2 l (r.free nl)) (Le.new nl) (r.newP (o := .lst (ms.map D.int)) nl ⟨_, upd_same, repL_ints ms⟩) (rep_ref _)⟩
        · obtain ⟨zs, e1, e2, e3⟩ := pairs_rep g2
          refine .inr (.inl ⟨t, zs, rfl, by rw [e1]; exact .inl (.inl g1), fun z hz => ?_, fun qs l h1 h2 nl => ?_⟩)
          · have z2 := e3 z hz
            unfold plD RepV at z2
            obtain ⟨t', ws, e4, tp, rl⟩ := z2
            obtain ⟨v1, v2, rfl, q1, q2⟩ := repL2 rl
            unfold RepV at q1 q2
            subst q1 q2
            exact ⟨t', e4, tp.sq⟩
          · have h3 := h1.map (·.2)
            rw [e2] at h3
            refine k _ _ _ _ (a _ h3 (List.pairwise_map.mpr h2) l (r.free nl)) (Le.new nl) (r.newP (o := .lst ((qs.map (·.2)).map plD)) nl ⟨_, upd_same, ?_⟩) (rep_ref _)
            exact rep_pairs fun z hz => (e3 z (h1.mem_iff.mp hz)).le (Le.new nl)
      | dK kvs =>
        simp only [e] at a
        obtain ⟨us, g1, g2⟩ := r t _ e
        obtain ⟨ks, h1, h2, a⟩ := a
        exact .inr (.inr ⟨t, us, ks, rfl, .inl g1, by rw [g2.keys]; exact h1, h2, fun ms l h3 h4 nl => k _ _ _ _ (a ms h3 h4 l (r.free nl)) (Le.new nl) (r.newP (o := .lst (ms.map D.int)) nl ⟨_, upd_same, repL_ints ms⟩) (rep_ref _)⟩)
      | lok od us kvs =>
        simp only [e] at a
        obtain ⟨g1, g2⟩ := r t _ e
        obtain ⟨ks, h1, h2, a⟩ := a
        exact .inr (.inr ⟨t, us, ks, rfl, .inr ⟨od, g1⟩, by rw [g2.keys]; exact h1, h2, fun ms l h3 h4 nl => k _ _ _ _ (a ms h3 h4 l (r.free nl)) (Le.new nl) (r.newP (o := .lst (ms.map D.int)) nl ⟨_, upd_same, repL_ints ms⟩) (rep_ref _)⟩)
      | _ => simp [e] at a
end Ab
set_option Elab.async false
set_option linter.all false
set_option maxRecDepth 100000
set_option maxHeartbeats 4000000
namespace Ab
open PySem PySem.Spec PyProof.Rows L2

/-! ### what is kept of a store -/
def Kp (ex : List Addr) (S S' : Sto) : Prop := ∀ a o, S a = some o → a ∉ ex → S' a = some o
section
variable {ex : List Addr} {S S1 S2 : Sto} {p : Addr} {o : AO}
theorem Kp.refl : Kp ex S S := fun _ _ h _ => h
theorem Kp.trans (h : Kp ex S S1) (k : Kp ex S1 S2) : Kp ex S S2 := fun a o e n => k a o (h a o e n) n
theorem Kp.weak {ex' : List Addr} (h : Kp ex S S1) (i : ∀ a, a ∈ ex → a ∈ ex') : Kp ex' S S1 := fun a o e n => h a o e fun z => n (i a z)
theorem Kp.of0 (h : Kp [] S S1) : Kp ex S S1 := h.weak (by simp)
theorem Kp.new (h : S p = none) : Kp ex S (put S p o) := fun a u e _ => by
  rw [put_ne (fun z => by rw [z, h] at e; cases e)]
  exact e
theorem Kp.mem (h : p ∈ ex) : Kp ex S (put S p o) := fun a u e n => by
  rw [put_ne (fun z : a = p => n (by rw [z]; exact h))]
  exact e
theorem Kp.put (k : Kp ex S S1) (h : S p = none ∨ p ∈ ex) : Kp ex S (put S1 p o) := fun a u e n => by
  rw [put_ne (fun z => by
    subst z
    rcases h with h | h
    · rw [h] at e; cases e
    · exact n h)]
  exact k a u e n
/-- what is new is kept out -/
theorem Kp.out (k : Kp (p :: ex) S S1) (h : S p = none) : Kp ex S S1 := fun a u e n => k a u e fun z => by
  rcases List.mem_cons.mp z with z | z
  · rw [z, h] at e; cases e
  · exact n z
theorem Kp.fresh (k : Kp [] S S1) (h : S1 p = none) : S p = none := by
  cases e : S p with
  | none => rfl
  | some o => rw [k p o e (by simp)] at h; cases h
theorem Kp.fresh1 {tw : Addr} {u u' : AO} (k : Kp [tw] S S1) (h : S1 p = none) (ht : S1 tw = some u) : S p = none := by
  cases e : S p with
  | none => rfl
  | some o =>
    rw [k p o e (fun z => by
      have : p = tw := by simpa using z
      rw [this, ht] at h; cases h)] at h
    cases h
theorem ne_some {a b : Addr} (h : S a = some o) (k : S b = none) : a ≠ b := fun e => by rw [e, k] at h; cases h
end

/-! ### loops by their invariants -/
theorem loopA_inv {g : WG} {b : WS} {still : Sto → Prop} {A : AEnds} : ∀ {xs : List D} {ρ : DEnv} {S : Sto} (I : Nat → DEnv → Sto → Prop), I 0 ρ S → (∀ i ρ S, I i ρ S → still S) →
    (∀ i x ρ S (N : DEnv → Sto → Prop), xs[i]? = some x → (∀ ρ' S', I (i + 1) ρ' S' → N ρ' S') → I i ρ S → g x ρ S fun ρ' S' => b { A with nx := N, ct := N, bk := A.nx } ρ' S') →
    (∀ ρ S, I xs.length ρ S → A.nx ρ S) → loopA g b still xs A ρ S
  | [], ρ, S, I, h0, hs, _, hd => ⟨hs _ _ _ h0, hd ρ S h0⟩
  | x :: xs, ρ, S, I, h0, hs, ht, hd => ⟨hs _ _ _ h0, ht 0 x ρ S _ rfl (fun ρ' S' h => loopA_inv (xs := xs) (fun i => I (i + 1)) h (fun i ρ S => hs (i + 1) ρ S) (fun i y ρ S N e => ht (i + 1) y ρ S N (by simpa using e)) hd) h0⟩
theorem lcA_inv {g : WG} {tt : WT} {te : WE} {js : List Nat} {still : Sto → Prop} {ρ : DEnv} {p : Addr} {Q : List D → Sto → Prop} : ∀ {xs acc : List D} {S : Sto} (I : Nat → List D → Sto → Prop), I 0 acc S → (∀ i acc S, I i acc S → still S ∧ S p = some (.lst acc)) →
    (∀ i x acc S (N : List D → Sto → Prop), xs[i]? = some x → (∀ acc' S', I (i + 1) acc' S' → N acc' S') → I i acc S → g x (wipeA ρ js) S fun ρ2 S2 => tt ρ2 S2 (fun b S3 =>
      if b = true then te ρ2 S3 (fun y S4 => S4 p = some (.lst acc) ∧ acc.length < sizeLine ∧ N (acc ++ [y]) (put S4 p (.lst (acc ++ [y])))) X0 else N acc S3) X0) →
    (∀ acc S, I xs.length acc S → Q acc S) → lcA g tt te js still ρ p xs acc S Q
  | [], acc, S, I, h0, hs, _, hd => ⟨(hs _ _ _ h0).1, (hs _ _ _ h0).2, hd acc S h0⟩
  | x :: xs, acc, S, I, h0, hs, ht, hd => ⟨(hs _ _ _ h0).1, ht 0 x acc S (fun acc' S' => lcA g tt te js still ρ p xs acc' S' Q) rfl (fun acc' S' h => lcA_inv (xs := xs) (fun i => I (i + 1)) h (fun i acc S => hs (i + 1) acc S) (fun i y acc S N e => ht (i + 1) y acc S N (by simpa using e)) hd) h0⟩
/-- a comprehension whose test and element leave all that stood as it is -/
theorem lc_ext {g : WG} {tt : WT} {te : WE} {js : List Nat} {still : Sto → Prop} {ρ : DEnv} {S : Sto} {Q : Addr → Sto → Prop} {xs : List D} (f : D → Option D) (hz : xs.length ≤ 100000) (hs : ∀ S1, Kp [] S S1 → still S1)
    (step : ∀ x ∈ xs, ∀ S1, Kp [] S S1 → ∀ (N1 : D → Sto → Prop) (N2 : Sto → Prop), (∀ y S2, f x = some y → Kp [] S1 S2 → N1 y S2) → (∀ S2, f x = none → Kp [] S1 S2 → N2 S2) →
      g x (wipeA ρ js) S1 fun ρ2 S2 => tt ρ2 S2 (fun b S3 => if b = true then te ρ2 S3 N1 X0 else N2 S3) X0)
    (hq : ∀ p S2, S p = none → Kp [] S S2 → S2 p = some (.lst (xs.filterMap f)) → Q p S2) : ∀ p, S p = none → lcA g tt te js still ρ p xs [] (put S p (.lst [])) (fun _ S2 => Q p S2) := fun p hp => by
  refine lcA_inv (fun i acc S1 => Kp [] S S1 ∧ S1 p = some (.lst acc) ∧ acc = (xs.take i).filterMap f) ⟨Kp.new hp, put_same, by simp⟩ (fun i acc S1 h => ⟨hs S1 h.1, h.2.1⟩) ?_ ?_
  · rintro i x acc S1 N hx hN ⟨h1, h2, h3⟩
    have hl : acc.length < sizeLine := by
      rw [h3]
      have := List.length_filterMap_le f (xs.take i)
      have h4 : i < xs.length := (List.getElem?_eq_some_iff.mp hx).1
      rw [List.length_take] at this
      exact Nat.lt_of_lt_of_le (show (List.filterMap f (xs.take i)).length < 100001 by omega) (by decide)
    have ht : (xs.take (i + 1)).filterMap f = (xs.take i).filterMap f ++ (match f x with | some y => [y] | none => []) := by
      rw [List.take_add_one, hx, List.filterMap_append]
      simp only [Option.toList, List.filterMap_cons, List.filterMap_nil]
      cases f x <;> rfl
    refine step x (List.mem_of_getElem? hx) S1 h1 _ _ (fun y S2 e k => ⟨k p _ h2 (by simp), hl, hN _ _ ⟨(h1.trans k).put (.inl hp), put_same, ?_⟩⟩) fun S2 e k => hN _ _ ⟨h1.trans k, k p _ h2 (by simp), ?_⟩
    · rw [ht, e, h3]
    · rw [ht, e, h3, List.append_nil]
  · rintro acc S1 ⟨h1, h2, h3⟩
    rw [List.take_length] at h3
    exact hq p S1 hp h1 (by rw [h2, h3])

/-- the same over the images of a list -/
theorem lc_map {α : Type} {g : WG} {tt : WT} {te : WE} {js : List Nat} {still : Sto → Prop} {ρ : DEnv} {S : Sto} {Q : Addr → Sto → Prop} {ys : List α} {e : α → D} (f : α → Option D) (hz : ys.length ≤ 100000) (hs : ∀ S1, Kp [] S S1 → still S1)
    (step : ∀ x ∈ ys, ∀ S1, Kp [] S S1 → ∀ (N1 : D → Sto → Prop) (N2 : Sto → Prop), (∀ y S2, f x = some y → Kp [] S1 S2 → N1 y S2) → (∀ S2, f x = none → Kp [] S1 S2 → N2 S2) →
      g (e x) (wipeA ρ js) S1 fun ρ2 S2 => tt ρ2 S2 (fun b S3 => if b = true then te ρ2 S3 N1 X0 else N2 S3) X0)
    (hq : ∀ p S2, S p = none → Kp [] S S2 → S2 p = some (.lst (ys.filterMap f)) → Q p S2) : ∀ p, S p = none → lcA g tt te js still ρ p (ys.map e) [] (put S p (.lst [])) (fun _ S2 => Q p S2) := fun p hp => by
  refine lcA_inv (fun i acc S1 => Kp [] S S1 ∧ S1 p = some (.lst acc) ∧ acc = (ys.take i).filterMap f) ⟨Kp.new hp, put_same, by simp⟩ (fun i acc S1 h => ⟨hs S1 h.1, h.2.1⟩) ?_ ?_
  · rintro i x acc S1 N hx hN ⟨h1, h2, h3⟩
    rw [List.getElem?_map, Option.map_eq_some_iff] at hx
    obtain ⟨y, hy, rfl⟩ := hx
    have hl : acc.length < sizeLine := by
      rw [h3]
      have := List.length_filterMap_le f (ys.take i)
      have h4 : i < ys.length := (List.getElem?_eq_some_iff.mp hy).1
      rw [List.length_take] at this
      exact Nat.lt_of_lt_of_le (show (List.filterMap f (ys.take i)).length < 100001 by omega) (by decide)
    have ht : (ys.take (i + 1)).filterMap f = (ys.take i).filterMap f ++ (match f y with | some y => [y] | none => []) := by
      rw [List.take_add_one, hy, List.filterMap_append]
      simp only [Option.toList, List.filterMap_cons, List.filterMap_nil]
      cases f y <;> rfl
    refine step y (List.mem_of_getElem? hy) S1 h1 _ _ (fun y S2 e k => ⟨k p _ h2 (by simp), hl, hN _ _ ⟨(h1.trans k).put (.inl hp), put_same, ?_⟩⟩) fun S2 e k => hN _ _ ⟨h1.trans k, k p _ h2 (by simp), ?_⟩
    · rw [ht, e, h3]
    · rw [ht, e, h3, List.append_nil]
  · rintro acc S1 ⟨h1, h2, h3⟩
    rw [List.length_map, List.take_length] at h3
    exact hq p S1 hp h1 (by rw [h2, h3])
/-- .. that all give -/
theorem lc_all {α : Type} {g : WG} {tt : WT} {te : WE} {js : List Nat} {still : Sto → Prop} {ρ : DEnv} {S : Sto} {Q : Addr → Sto → Prop} {ys : List α} {e : α → D} (f : α → D) (hz : ys.length ≤ 100000) (hs : ∀ S1, Kp [] S S1 → still S1)
    (step : ∀ x ∈ ys, ∀ S1, Kp [] S S1 → ∀ (N1 : D → Sto → Prop) (N2 : Sto → Prop), (∀ S2, Kp [] S1 S2 → N1 (f x) S2) →
      g (e x) (wipeA ρ js) S1 fun ρ2 S2 => tt ρ2 S2 (fun b S3 => if b = true then te ρ2 S3 N1 X0 else N2 S3) X0)
    (hq : ∀ p S2, S p = none → Kp [] S S2 → S2 p = some (.lst (ys.map f)) → Q p S2) : ∀ p, S p = none → lcA g tt te js still ρ p (ys.map e) [] (put S p (.lst [])) (fun _ S2 => Q p S2) :=
  lc_map (fun x => some (f x)) hz hs (fun x hx S1 k N1 N2 h1 _ => step x hx S1 k N1 N2 fun S2 k2 => h1 _ S2 rfl k2) fun p S2 hp k e => hq p S2 hp k (by rw [e]; congr 2; simp)

/-! ### sorting -/
theorem sort_uniq {α : Type} {r : α → α → Prop} (anti : ∀ a b, r a b → r b a → a = b) : ∀ {l m : List α}, l.Perm m → l.Pairwise r → m.Pairwise r → l = m
  | [], m, p, _, _ => (List.Perm.eq_nil p.symm).symm
  | a :: l, [], p, _, _ => absurd p.length_eq (by simp)
  | a :: l, b :: m, p, hl, hm => by
    have h1 := List.pairwise_cons.mp hl
    have h2 := List.pairwise_cons.mp hm
    have e : a = b := by
      rcases List.mem_cons.mp (p.mem_iff.mp (List.mem_cons_self (a := a) (l := l))) with e | ha
      · exact e
      · rcases List.mem_cons.mp (p.mem_iff.mpr (List.mem_cons_self (a := b) (l := m))) with e | hb
        · exact e.symm
        · exact anti a b (h1.1 b hb) (h2.1 a ha)
    subst e
    rw [sort_uniq anti p.cons_inv h1.2 h2.2]
def srtI (l : List Int) : List Int := l.mergeSort fun a b => decide (a ≤ b)
theorem srtI_perm (l : List Int) : (srtI l).Perm l := List.mergeSort_perm l _
theorem srtI_up (l : List Int) : (srtI l).Pairwise (· ≤ ·) := (List.pairwise_mergeSort (le := fun a b : Int => decide (a ≤ b)) (by intro a b c h1 h2; simp only [decide_eq_true_eq] at *; omega) (by intro a b; simp only [Bool.or_eq_true, decide_eq_true_eq]; omega) l).imp fun {a b} h => by simpa using h
theorem srtI_eq {l m : List Int} (p : m.Perm l) (h : m.Pairwise (· ≤ ·)) : m = srtI l := sort_uniq (fun a b h1 h2 => by omega) (p.trans (srtI_perm l).symm) h (srtI_up l)
def lexLeB (p q : Int × Int) : Bool := decide (p.1 < q.1) || (decide (p.1 = q.1) && decide (p.2 ≤ q.2))
theorem lexLeB_iff {p q : Int × Int} : lexLeB p q = true ↔ lexLe p q := by
  unfold lexLeB lexLe
  simp
def srt2 (l : List (Int × Int)) : List (Int × Int) := l.mergeSort lexLeB
theorem srt2_perm (l : List (Int × Int)) : (srt2 l).Perm l := List.mergeSort_perm l _
theorem srt2_up (l : List (Int × Int)) : (srt2 l).Pairwise lexLe := (List.pairwise_mergeSort (le := lexLeB) (by intro a b c h1 h2; rw [lexLeB_iff] at *; unfold lexLe at *; omega) (by intro a b; rw [Bool.or_eq_true, lexLeB_iff, lexLeB_iff]; unfold lexLe; omega) l).imp fun {a b} h => lexLeB_iff.mp h
theorem lexLe_anti (a b : Int × Int) (h1 : lexLe a b) (h2 : lexLe b a) : a = b := by
  unfold lexLe at *
  exact Prod.ext (by omega) (by omega)
theorem srt2_eq {l m : List (Int × Int)} (p : m.Perm l) (h : m.Pairwise lexLe) : m = srt2 l := sort_uniq lexLe_anti (p.trans (srt2_perm l).symm) h (srt2_up l)
theorem cutA_to {xs : List D} {k : Int} (h : 0 ≤ k) : cutA xs none (some k) = xs.take k.toNat := by
  obtain ⟨n, rfl⟩ := Int.eq_ofNat_of_zero_le h
  unfold cutA
  rw [HT.sIx_none, HT.sIx_nat]
  simp only [List.drop_zero, Nat.sub_zero, Int.toNat_natCast]
  by_cases hn : n ≤ xs.length
  · rw [Nat.min_eq_left hn]
  · rw [Nat.min_eq_right (by omega), List.take_length, List.take_of_length_le (by omega)]
theorem cutA_from {xs : List D} {k : Int} (h : 0 ≤ k) : cutA xs (some k) none = xs.drop k.toNat := by
  obtain ⟨n, rfl⟩ := Int.eq_ofNat_of_zero_le h
  unfold cutA
  rw [HT.sIx_none, HT.sIx_nat, Int.toNat_natCast]
  by_cases hn : n ≤ xs.length
  · rw [Nat.min_eq_left hn]
    exact List.take_of_length_le (by rw [List.length_drop]; omega)
  · rw [Nat.min_eq_right (by omega), List.drop_length, List.drop_of_length_le (by omega)]
    simp
theorem cutA_last {xs : List D} : cutA xs none (some (-1)) = xs.dropLast := by
  unfold cutA
  rw [HT.sIx_none]
  simp only [List.drop_zero, Nat.sub_zero]
  have e : HT.sIx xs.length xs.length (some (-1)) = xs.length - 1 := by
    unfold HT.sIx
    simp only
    split <;> omega
  rw [e, List.dropLast_eq_take]
/-- sorted of ints, of pairs -/
theorem aSrt_int {S : Sto} {a : Addr} {ns : List Int} {Q : AK} (h : S a = some (.lst (ns.map D.int))) (q : ∀ p, S p = none → Q (.ref p) (put S p (.lst ((srtI ns).map D.int)))) : aSrt [.ref a] S Q := by
  simp only [aSrt, h]
  exact .inl ⟨ns, rfl, fun ms p1 p2 p hp => by rw [srtI_eq p1 p2]; exact q p hp⟩
theorem aSrt_2 {S : Sto} {a : Addr} {ps : List (Int × Int)} {Q : AK} (h : S a = some (.lst (ps.map plD))) (q : ∀ p, S p = none → Q (.ref p) (put S p (.lst ((srt2 ps).map plD)))) : aSrt [.ref a] S Q := by
  simp only [aSrt, h]
  exact .inr ⟨ps, rfl, fun ms p1 p2 p hp => by rw [srt2_eq p1 p2]; exact q p hp⟩
theorem aSrt_d {S : Sto} {a : Addr} {kvs : List (Key × D)} {ks : List Int} {Q : AK} (h : S a = some (.dK kvs)) (hk : kvs.map (·.1) = ks.map Sum.inl) (hl : ks.length < 64) (q : ∀ p, S p = none → Q (.ref p) (put S p (.lst ((srtI ks).map D.int)))) : aSrt [.ref a] S Q := by
  simp only [aSrt, h]
  exact ⟨ks, hk, hl, fun ms p1 p2 p hp => by rw [srtI_eq p1 p2]; exact q p hp⟩

/-! ### by places -/
theorem atI0 {α : Type} (a : α) (l : List α) : atI (a :: l) 0 = some a := by
  unfold atI ixN
  rw [if_pos (Int.le_refl 0), if_pos (by simp)]
  rfl
theorem atI_lit {α : Type} {l : List α} {i : Nat} {a : α} (h : l[i]? = some a) : atI l (i : Int) = some a := atI_nat h
theorem atI1 {α : Type} (a b : α) (l : List α) : atI (a :: b :: l) 1 = some b := atI_nat (j := 1) rfl
theorem atI2 {α : Type} (a b c : α) (l : List α) : atI (a :: b :: c :: l) 2 = some c := atI_nat (j := 2) rfl
theorem atI3 {α : Type} (a b c d : α) (l : List α) : atI (a :: b :: c :: d :: l) 3 = some d := atI_nat (j := 3) rfl
theorem atI4 {α : Type} (a b c d e : α) (l : List α) : atI (a :: b :: c :: d :: e :: l) 4 = some e := atI_nat (j := 4) rfl
theorem ex_some {α : Type} {a : α} {P : α → Prop} : (∃ d, some a = some d ∧ P d) ↔ P a := ⟨fun ⟨_, e, h⟩ => by cases e; exact h, fun h => ⟨a, rfl, h⟩⟩
theorem ex_some2 {α : Type} {a : α} {P : α → Prop} : (∃ d, some (some a) = some (some d) ∧ P d) ↔ P a := ⟨fun ⟨_, e, h⟩ => by cases e; exact h, fun h => ⟨a, rfl, h⟩⟩
theorem ex_bl {b : Bool} {P : Bool → Prop} : (∃ c, D.bl b = .bl c ∧ P c) ↔ P b := ⟨fun ⟨_, e, h⟩ => by cases e; exact h, fun h => ⟨b, rfl, h⟩⟩
theorem sz {n : Nat} (h : n ≤ 100000) : n ≤ sizeLine := Nat.le_trans h (by decide)
theorem szl {n : Nat} (h : n < 100000) : n < sizeLine := Nat.lt_of_lt_of_le h (by decide)
theorem get0 {α : Type} (a : α) (l : List α) : (a :: l)[0]? = some a := rfl
theorem getS {α : Type} (a : α) (l : List α) (n : Nat) : (a :: l)[n + 1]? = l[n]? := rfl
end Ab
set_option Elab.async false
set_option linter.all false
set_option maxRecDepth 100000
set_option maxHeartbeats 4000000
namespace Ab
open PySem PySem.Spec PyProof.Rows L2
theorem scr_of {K : PySem.W.Frag} {H : Hp} {a : Addr} {ns : List Int} (hO : Only H) (h : SqL K H a (ns.map V.int)) : RepV K H (.scr ns) (.ref a) := by
  unfold RepV
  refine ⟨a, rfl, ?_⟩
  rcases h with (h | h) | h
  · rcases hO a with z | ⟨o, xs, z⟩
    · rw [z] at h; cases h
    · rw [z] at h; cases h
  · exact .inl h
  · exact .inr (.inr h)
theorem law_end {l : PySem.W.OpenLaw} {k : Nat} {q : Program} {loose : List Str} {XP : (Str → Option Value) → Heap → Prop} {YP : World → Heap → Prop} {d : DefRec} {x : Str}
    (hn : l.most = some 63) (hdf : d.params.defaults = []) (hr : Room k callerA)
    (F : ∀ (w : World) (mg : Str → Option Value) (fa : Addr) (h : Heap), YP w h → h.Ns mainGlobals mg → mg d.name = some (.ref fa) →
      ∃ (K : PySem.W.Frag) (fd : FuncData) (wl : WF), K.In h ∧ (∀ (s : Shared) (u : Value), BindsTo s fd ⟨[u], []⟩ [(x, u)]) ∧
        (∀ (ns : List Int), ns.length ≤ 63 → wl [.scr ns] (fun _ => none) (fun d _ => d = .bl true) fun _ _ => False) ∧
        ∀ base : Heap, K.In base → base.Ns mainGlobals mg → FnOk l.prog w K mg base (L2.CX l.prog w) k fa fd [x] (spA K 1 wl)) :
    PySem.W.WalkO q loose XP YP l.row.toRowW d [] (fun f vs => PySem.call f vs) := by
  refine Att.attach_call hn hdf fun w s0 s1 mg mb fa o pm cd doc a vs ns G Y ho hd hcd hmg hobj hints hlen hg => ?_
  obtain ⟨K, fd, wl, KX, hb, hsp, hF⟩ := F w mg fa _ Y G.T.g hmg
  refine law_call KX G.T.g G.T.b G.T.builtins G.T.nolimit hg hobj hints (Nat.le_trans hlen (by decide)) hr hF hb (fun H hO hS => ?_) fun H e s' hx => ?_
  · refine ⟨rfl, [.scr ns], fun _ => none, fun d _ => d = .bl true, fun _ _ => False, repL_cons (scr_of hO hS) repL_nil, (fun a o e => nomatch e), hsp ns hlen, (fun d S v H' e _ _ p => ?_), (fun _ _ _ z => False.elim z)⟩
    subst e
    unfold RepV at p
    exact p
  · obtain ⟨_, _, _, _, _, _, _, _, _, _, _, _, z⟩ := hx
    exact z
end Ab
set_option Elab.async false
set_option linter.all false
set_option maxRecDepth 100000
set_option maxHeartbeats 4000000
namespace Ab
open PySem PySem.Spec PyProof.Rows L2
section
variable {X : Cx} {W : WX}
theorem rs_par3 {i j l : Nat} {x y z : Str} {a b c : Expr} {wa : WA} {px py pz pt pos : Pos} {kt k2 pt2} (hc : X.calm = true) (hN : X.N.Nodup) (hi : X.N[i]? = some x) (hj : X.N[j]? = some y) (hl : X.N[l]? = some z) (hij : i ≠ j) (hil : i ≠ l) (hjl : j ≠ l)
    (hx : X.env.scope.names.lookup x = some .local) (hy : X.env.scope.names.lookup y = some .local) (hz : X.env.scope.names.lookup z = some .local) (ha : RA X W [a, b, c] wa)
    (hw : swappedStores [.Tuple [.Name x px, .Name y py, .Name z pz] kt pt] (.Tuple [a, b, c] k2 pt2) X.env = pure (some [x, y, z]))
    (hs : swapsWithSole [.Tuple [.Name x px, .Name y py, .Name z pz] kt pt] (.Tuple [a, b, c] k2 pt2) pos.line X.env = pure false := by rfl) :
    RS X W (.Assign [.Tuple [.Name x px, .Name y py, .Name z pz] kt pt] (.Tuple [a, b, c] k2 pt2) pos) (wPar3 i j l wa) :=
  ps_imp (ps_par3 hc hN hi hj hl hij hil hjl hx hy hz ha hw hs) fun E σ H ⟨ρ, S, A, rs, rp, h, k⟩ => ⟨ρ, S, _, _, rs, rp, h, fun ds S1 vs H1 q l' r p => by
    match ds, q, p with
    | [d1, d2, d3], q, p =>
      obtain ⟨v1, r1, rfl, p1, p'⟩ := p.inv
      obtain ⟨v2, v3, rfl, p2, p3⟩ := repL2 p'
      exact ⟨v1, v2, v3, rfl, k.nx _ S1 _ H1 q l' ((((rs.le l').set p1 i).set p2 j).set p3 l) r⟩, k.x rs⟩
end
end Ab
set_option Elab.async false
set_option linter.all false
set_option maxRecDepth 100000
set_option maxHeartbeats 4000000
namespace SrtO
open PySem PyProof.Rows Srt
section
variable {prog : Program} {w : World} {A : Around} {E : Value → Shared → Prop} {s : Shared}
theorem collect_tup {l : Addr} {vs : List Value} {Q : List Value → Shared → Prop} (hl : IsTup s.heap l vs.toArray)
    (h : Q vs { s with heap := (s.heap.push (seqObj "list" #[] 0)).update s.heap.objs.size (Obj.mapSeq (· ++ vs.toArray)) }) (hsz : vs.length ≤ sizeLine) :
    wpAny (model prog w) A (collect (.ref l)) Q E s := by
  obtain ⟨o, ho, hc, n, hd⟩ := id hl
  unfold collect
  refine wpAny_bind (wpAny_runValue (codeAny_builtin entry_proto_collect' ?_))
  show wpAny _ _ (do again (.builtin "list.__iadd__" ⟨[← newList [], .ref l], []⟩)) _ _ s
  refine wpAny_bind (wpAny_newList (wpAny_pure ⟨Code.quiet_builtin _ (by decide +kernel), codeAny_builtin entry_list_iadd' ?_⟩))
  show wpAny _ _ (Builtin.List.listExtendWith (.ref s.heap.objs.size) (.ref l) (.ref s.heap.objs.size)) _ _ { s with heap := s.heap.push (seqObj "list" #[] 0) }
  unfold Builtin.List.listExtendWith
  have ho' : (s.heap.push (seqObj "list" #[] 0)).get? l = some o := Heap.get?_push_of_some _ ho
  refine wpAny_bind (wpAny_typeOf (T := "tuple") ⟨o, ho', hc⟩ ?_)
  have ht : (Value.type "tuple" == Value.type "tuple") = true := by rfl
  rw [if_pos (by rw [ht]; simp)]
  refine wpAny_bind (listItems_at ho' hd ?_)
  refine wpAny_bind (listItems_at (xs := #[]) (n := 0) (Heap.get?_push_size _ rfl) rfl ?_)
  rw [if_neg (by simp)]
  refine wpAny_bind (listUpdate_at (xs := #[]) (n := 0) (Heap.get?_push_size _ rfl) rfl ?_ (Nat.zero_le _) (by show (#[] ++ vs.toArray).size ≤ sizeLine + 1; simp only [Array.size_append, List.size_toArray, List.length_nil]; omega))
  refine wpAny_pure ?_
  show wpAny (model prog w) A (do
      let o ← load s.heap.objs.size
      match o.data with
      | .seq xs _ => pure xs.toList
      | _ => unsupported "internal:collect") Q E { s with heap := (s.heap.push (seqObj "list" #[] 0)).update s.heap.objs.size (Obj.mapSeq (· ++ vs.toArray)) }
  refine wpAny_bind (wpAny_load (get?_update_seq (Heap.get?_push_size _ rfl) _) ?_)
  show wpAny _ _ (pure ((#[] : Array Value) ++ vs.toArray).toList) Q E _
  rw [show ((#[] : Array Value) ++ vs.toArray).toList = vs by simp]
  exact wpAny_pure h
theorem sorted_ordT {l : Addr} {vs : List Value} {ltv : Value → Value → Bool} {Q : Value → Shared → Prop} (O : Swo ltv) (hl : IsTup s.heap l vs.toArray) (hz : vs.length ≤ sizeLine)
    (hS : 2 ≤ vs.length → ∀ (h₁ : Heap) (a : Addr), h₁.get? a = some (seqObj "list" vs.toArray 0) → (∀ b o, s.heap.get? b = some o → b ≠ a ∧ h₁.get? b = some o) → SortableO prog w A.in1.in1 { s with heap := h₁ } a vs ltv)
    (h : ∀ out : List Value, Srtd ltv out → Stb ltv out vs → Q (.ref (s.heap.objs.size + 1)) { s with heap := sortedAll s.heap vs out.toArray }) :
    wpAny (model prog w) A (call (.builtin "sorted") [.ref l]) Q E s := by
  refine Calls.call_function_entry kind_sorted plain_sorted entry_sorted (args_sorted1 _) ?_
  unfold Builtin.«sorted»
  refine wpAny_bind (m := checkCount "sorted" 1 1 _) (wpAny_pure ?_)
  refine wpAny_bind (collect_tup hl ?_ hz)
  refine wpAny_bind (wpAny_newList ?_ hz)
  have hsz : ((s.heap.push (seqObj "list" #[] 0)).update s.heap.objs.size (Obj.mapSeq (· ++ vs.toArray))).objs.size = s.heap.objs.size + 1 := by
    rw [Heap.size_update, size_push']
  have hoL : (((s.heap.push (seqObj "list" #[] 0)).update s.heap.objs.size (Obj.mapSeq (· ++ vs.toArray))).push (seqObj "list" vs.toArray 0)).get? (s.heap.objs.size + 1) = some (seqObj "list" vs.toArray 0) := by
    rw [← hsz]; exact Heap.get?_push_size _ rfl
  have keep : ∀ b o, s.heap.get? b = some o → b ≠ s.heap.objs.size + 1 ∧ (((s.heap.push (seqObj "list" #[] 0)).update s.heap.objs.size (Obj.mapSeq (· ++ vs.toArray))).push (seqObj "list" vs.toArray 0)).get? b = some o := fun b o q => by
    have hlt : b < s.heap.objs.size := Heap.lt_size q
    refine ⟨Nat.ne_of_lt (Nat.lt_succ_of_lt hlt), Heap.get?_push_of_some _ ?_⟩
    rw [Heap.get?_update_ne _ _ _ _ (Nat.ne_of_lt hlt)]
    exact Heap.get?_push_of_some _ q
  show wpAny _ _ _ _ _ { s with heap := ((s.heap.push (seqObj "list" #[] 0)).update s.heap.objs.size (Obj.mapSeq (· ++ vs.toArray))).push (seqObj "list" vs.toArray 0) }
  rw [hsz]
  refine wpAny_bind (wpAny_holding (wpAny_call_entry slot_list_sort ⟨_, hoL, rfl⟩ entry_list_sort (list_sort_ord O hoL hz (fun h2 => hS h2 _ _ hoL keep) fun out hs hb => ⟨_, rfl, ?_⟩) (args_list_sort _)))
  exact wpAny_pure ⟨_, rfl, h out hs hb⟩
end
end SrtO
namespace Ab
open PySem PySem.Spec PyProof.Rows L2
/-- sorted(t), a tuple of ints -/
def rSortedTI (K : PySem.W.Frag) : List V → Hp → VK → Prop := fun vs H Q => ∃ (a : Addr) (ns : List Int), vs = [V.ref a] ∧ SqT K H a (ns.map V.int) ∧
  ∀ (ns' : List Int) (p : Addr), ns'.Perm ns → ns'.Pairwise (· ≤ ·) → H p = none → Q (.ref p) (upd H p (.lst (ns'.map V.int)))
theorem cr_sortedTI {X : Cx} : CallR X (.builtin "sorted") (rSortedTI X.K) := by
  intro pins s σ H vs us Q I r h
  obtain ⟨a, ns, rfl, hs, q⟩ := h
  obtain ⟨its, rv, hl, hz⟩ := I.tuple hs
  rw [Vals.ref1 r]
  have hi := rv.ints
  refine SrtO.sorted_ordT SrtO.swo_int hl (by rw [← rv.length]; exact hz) (fun h2 h₁ a' _ _ => SrtO.ints_sortable hi h2) fun out h1 h2 => ?_
  obtain ⟨k1, k2, k3⟩ := SrtO.ints_out hi h1 h2
  obtain ⟨ep, he'⟩ := PyProof.Rows.sortedAll_at s.heap its out.toArray
  have hlen : ((out.map SrtO.iv).map V.int).length ≤ sizeLine := by
    rw [List.length_map, k2.length_eq]
    rw [List.length_map] at hz
    exact hz
  exact ⟨.ref _, upd H (s.heap.objs.size + 1) (.lst ((out.map SrtO.iv).map V.int)), I.laid (t' := s.toks) (fun _ _ => PyProof.Rows.sortedAll_old) (Nat.le_succ _) ⟨hlen, out, ep, vals_of_ints k1, he'⟩, rfl, q _ _ k2 k3 (I.hok.fresh (Nat.le_succ _))⟩
def rSrtB (K : PySem.W.Frag) : List V → Hp → VK → Prop := fun xs H Q => rSortedTI K xs H Q ∨ rSrtA K xs H Q
theorem cr_srtB {X : Cx} (hc : X.calm = true) : CallR X (.builtin "sorted") (rSrtB X.K) := cr_sortedTI.or (cr_srtA hc)
def aSrtB : WRL := fun ds S Q => (match ds with
  | [.tup xs] => ∃ ns, xs = ns.map D.int ∧ ∀ (ms : List Int), ms.Perm ns → ms.Pairwise (· ≤ ·) → ∀ p, S p = none → Q (.ref p) (put S p (.lst (ms.map D.int)))
  | _ => aSrt ds S Q)
theorem aSrtB_ref {a : Addr} {S : Sto} {Q : AK} : aSrtB [.ref a] S Q = aSrt [.ref a] S Q := rfl
theorem sim_srtB {K : PySem.W.Frag} : SimL K (rSrtB K) aSrtB := fun xs ds H S QA Q p r a k => by
  have gen : aSrt ds S QA → rSrtB K xs H Q := fun a => .inr (sim_srt xs ds H S QA Q p r a k)
  match ds, a, p, gen with
  | [.tup xs], a, p, _ =>
    obtain ⟨v, rfl, pv⟩ := repL1 p
    unfold RepV at pv
    obtain ⟨t, vs, rfl, tp, rl⟩ := pv
    obtain ⟨ns, rfl, a⟩ := a
    have hv := rl.ints
    subst hv
    exact .inl ⟨t, ns, rfl, tp.sq, fun ms l h1 h2 nl => k _ _ _ _ (a ms h1 h2 l (r.free nl)) (Le.new nl) (r.newP (o := .lst (ms.map D.int)) nl ⟨_, upd_same, repL_ints ms⟩) (rep_ref _)⟩
  | [], a, p, gen => exact gen a
  | [.ref _], a, p, gen => exact gen a
  | [.non], a, p, gen => exact gen a
  | [.bl _], a, p, gen => exact gen a
  | [.int _], a, p, gen => exact gen a
  | [.str _], a, p, gen => exact gen a
  | [.scr _], a, p, gen => exact gen a
  | [.ty _], a, p, gen => exact gen a
  | _ :: _ :: _, a, p, gen =>
    refine gen ?_
    unfold aSrtB at a
    split at a
    · next h => simp at h
    · exact a
theorem aSrtB_tup {S : Sto} {ns : List Int} {Q : AK} (q : ∀ p, S p = none → Q (.ref p) (put S p (.lst ((srtI ns).map D.int)))) : aSrtB [.tup (ns.map D.int)] S Q :=
  ⟨ns, rfl, fun ms h1 h2 p hp => by rw [srtI_eq h1 h2]; exact q p hp⟩
mutual
theorem eqD_refl : ∀ {d : D} {n : Nat}, okD n d = true → eqD d d = true
  | .non, _, _ => rfl
  | .bl b, _, _ => by unfold eqD; simp
  | .int b, _, _ => by unfold eqD; simp
  | .str b, _, _ => by unfold eqD; simp
  | .tup ds, 0, h => by unfold okD at h; cases h
  | .tup ds, n + 1, h => by unfold okD at h; unfold eqD; exact eqL_refl h
  | .ref _, n, h => by cases n <;> (unfold okD at h; cases h)
  | .scr _, n, h => by cases n <;> (unfold okD at h; cases h)
  | .ty _, n, h => by cases n <;> (unfold okD at h; cases h)
theorem eqL_refl : ∀ {ds : List D} {n : Nat}, ds.all (okD n) = true → eqL ds ds = true
  | [], _, _ => rfl
  | d :: ds, n, h => by
    rw [List.all_cons, Bool.and_eq_true] at h
    unfold eqL
    rw [eqD_refl h.1, eqL_refl h.2]
    rfl
end
end Ab
set_option Elab.async false
set_option linter.all false
set_option maxRecDepth 100000
set_option maxHeartbeats 4000000
namespace L2
open PySem PySem.Spec PyProof.Rows
theorem tuple_mul1 (l : Addr) (items : Array Value) (n : Nat) (dd : Option Addr) (sl : Array (Option Value)) (u : Tok) :
    Meets (Builtin.«tuple.__mul__» ⟨[.ref l, .int 1 u], []⟩) (fun _ R s => s.heap.get? l = some { cls := .type "tuple", dict := dd, data := .seq items n, slots := sl } ∧
      R (.ok (.ret (Value.ref l))) s) :=
  .of_wp fun prog w A R s h => by
    obtain ⟨hp, g, d, tk, os⟩ := s
    obtain ⟨hl, h⟩ := h
    have f1 := AutoSeq1.idx_int
    have c1 : (items.isEmpty || (1 : Int) == 1) = true := by simp
    wp_walk using wpAny_loadPart' hl
    repeat (first
      | (refine wpAny_ite_true (decide_eq_true c1) ?_; wp_walk using wpAny_loadPart' hl)
      | (refine wpAny_ite_false (decide_eq_false (by decide)) ?_; wp_walk using wpAny_loadPart' hl))
    exact ⟨_, rfl, h⟩
def rRepT1 (K : PySem.W.Frag) : R2 := fun x y H Q => ∃ l xs, x = .ref l ∧ y = .int 1 ∧ SqT K H l xs ∧ Q (.ref l) H
section
variable {X : Cx}
theorem op_repT1 : OpR X (binaryOp .Mult) (rRepT1 X.K) := by
  intro pins s σ H x y v u Q I rx ry h
  obtain ⟨l, xs, rfl, rfl, hT, q⟩ := h
  cases rx
  obtain ⟨t, rfl⟩ := ry
  obtain ⟨its, r, ⟨⟨cls, dd, data, sl⟩, ho, hc, n, hd⟩, hs⟩ := I.tuple hT
  simp only at hc hd
  subst hc hd
  refine wpAny_binaryOp_repeat_ref (T := "tuple") (U := "int") (by decide) ⟨_, ho, rfl⟩ (fun s' => typeIs_int s' 1 t) noFill_tuple_mul F.fills_int_mul F.slot_int_rmul repeat_tuple F.slot_int_index.lookup
    (call_meets F.slot_int_rmul (typeIs_int s 1 t) F.entry_int_rmul (F.args_int_rmul_2 _ _) (int_rmul_tuple 1 t l its.toArray n dd sl)
      ⟨ho, rfl, ⟨_, ho, rfl⟩, call_meets F.slot_tuple_mul ⟨_, ho, rfl⟩ F.entry_tuple_mul (F.args_tuple_mul_2 _ _) (tuple_mul1 l its.toArray n dd sl t) ⟨ho, ?_⟩⟩)
  exact ⟨.ref l, H, I, rfl, q⟩
end
end L2
namespace Ab
open PySem PySem.Spec PyProof.Rows L2
def rMulB (K : PySem.W.Frag) : R2 := fun x y H Q => rRepT1 K x y H Q ∨ rMulV K x y H Q
theorem op_mulB {X : Cx} : OpR X (binaryOp .Mult) (rMulB X.K) := op_repT1.or op_mulA
/-- a * b, a tuple once too -/
def aMulB : WR2 := fun x y S Q => (match x, y with
  | .tup xs, .int k => (k = 1 ∧ Q (.tup xs) S) ∨ aMul (.tup xs) (.int k) S Q
  | x, y => aMul x y S Q)
theorem sim_mulB {K : PySem.W.Frag} : Sim2 K (rMulB K) aMulB := fun x y dx dy H S QA Q p q r a k => by
  have gen : aMul dx dy S QA → rMulB K x y H Q := fun a => .inr (sim_mul x y dx dy H S QA Q p q r a k)
  cases dx with
  | tup xs =>
    cases dy with
    | int j =>
      rcases a with ⟨rfl, a⟩ | a
      · have p0 := p
        unfold RepV at p q
        obtain ⟨t, vs, rfl, tp, rl⟩ := p
        exact .inl ⟨t, vs, rfl, q, tp.sq, k _ S _ H a (Le.refl H) r p0⟩
      · exact gen a
    | _ => exact gen a
  | _ => exact gen a
section
variable {X : Cx} {W : WX} {a b : Expr} {wa wb : WE} {pos : Pos}
theorem re_mulB (ha : RE X W a wa) (hb : RE X W b wb) : RE X W (.BinOp a .Mult b pos) (wOp aMulB wa wb) := re_op op_mulB sim_mulB ha hb
end
theorem aMulB_int {i j : Int} {S : Sto} {Q : AK} : aMulB (.int i) (.int j) S Q = (CMul i j ∧ Q (.int (i * j)) S) := rfl
theorem aMulB_ref {l : Addr} {y : D} {S : Sto} {Q : AK} : aMulB (.ref l) y S Q = aMul (.ref l) y S Q := rfl
end Ab
set_option Elab.async false
set_option linter.all false
set_option maxRecDepth 100000
set_option maxHeartbeats 4000000
/-! ### fractions of a turn -/
namespace Ab
abbrev Fr := Int × Int
theorem gcd_step (a b : Int) : Int.gcd b (a.fmod b) = Int.gcd a b := by
  have e : a.fmod b + b * a.fdiv b = a := Int.fmod_add_mul_fdiv a b
  refine Nat.dvd_antisymm ?_ ?_
  · refine Int.dvd_gcd ?_ (Int.gcd_dvd_left ..)
    have h : ((Int.gcd b (a.fmod b) : Nat) : Int) ∣ a.fmod b + b * a.fdiv b := Int.dvd_add (Int.gcd_dvd_right ..) (Int.dvd_mul_of_dvd_left (Int.gcd_dvd_left ..))
    rw [e] at h
    exact h
  · refine Int.dvd_gcd (Int.gcd_dvd_right ..) ?_
    have : a.fmod b = a - b * a.fdiv b := by omega
    rw [this]
    exact Int.dvd_sub (Int.gcd_dvd_left ..) (Int.dvd_mul_of_dvd_left (Int.gcd_dvd_right ..))
theorem fmod_abs {a b : Int} (h : b ≠ 0) : (a.fmod b).natAbs < b.natAbs := by
  rcases Int.lt_or_gt_of_ne h with h | h
  · rw [Int.fmod_eq_emod]
    have h1 := Int.emod_nonneg a (show b ≠ 0 by omega)
    have h2 := Int.emod_lt_of_neg a h
    split
    · omega
    · next hc =>
      have h3 : a % b ≠ 0 := fun z => hc (.inr (Int.dvd_of_emod_eq_zero z))
      omega
  · have h1 := Int.fmod_nonneg_of_pos a h
    have h2 := Int.fmod_lt_of_pos a h
    omega
def dvb (u l : Int) : Int := if l < 0 then 0 - (Int.gcd u l : Int) else (Int.gcd u l : Int)
def frac (u l : Int) : Fr := (u.fdiv (dvb u l), l.fdiv (dvb u l))
structure Fm (a : Fr) : Prop where
  pos : 0 < a.2
  cop : Int.gcd a.1 a.2 = 1
theorem dvb_ne {u l : Int} (h : l ≠ 0) : dvb u l ≠ 0 := by
  have : 0 < Int.gcd u l := Int.gcd_pos_of_ne_zero_right _ h
  unfold dvb
  split <;> omega
theorem dvb_abs {u l : Int} : (dvb u l).natAbs = Int.gcd u l := by
  unfold dvb
  split <;> omega
theorem dvb_dvd {u l : Int} : dvb u l ∣ u ∧ dvb u l ∣ l := by
  have h1 : ((Int.gcd u l : Nat) : Int) ∣ u := Int.gcd_dvd_left ..
  have h2 : ((Int.gcd u l : Nat) : Int) ∣ l := Int.gcd_dvd_right ..
  unfold dvb
  split
  · rw [Int.zero_sub]
    exact ⟨Int.neg_dvd.mpr h1, Int.neg_dvd.mpr h2⟩
  · exact ⟨h1, h2⟩
theorem frac_eq {u l : Int} : (frac u l).1 * dvb u l = u ∧ (frac u l).2 * dvb u l = l := by
  obtain ⟨h1, h2⟩ := dvb_dvd (u := u) (l := l)
  unfold frac
  simp only
  rw [Int.fdiv_eq_ediv_of_dvd h1, Int.fdiv_eq_ediv_of_dvd h2]
  exact ⟨Int.ediv_mul_cancel h1, Int.ediv_mul_cancel h2⟩
theorem frac_fm {u l : Int} (h : l ≠ 0) : Fm (frac u l) := by
  obtain ⟨e1, e2⟩ := frac_eq (u := u) (l := l)
  have hk := dvb_ne (u := u) h
  constructor
  · rcases Int.lt_or_gt_of_ne h with h0 | h0
    · have hn : dvb u l < 0 := by
        unfold dvb at hk ⊢
        rw [if_pos h0] at hk ⊢
        omega
      rcases Int.lt_or_le 0 (frac u l).2 with h1 | h1
      · exact h1
      · have := Int.mul_nonneg_of_nonpos_of_nonpos h1 (Int.le_of_lt hn)
        omega
    · have hn : 0 < dvb u l := by
        unfold dvb at hk ⊢
        rw [if_neg (by omega)] at hk ⊢
        omega
      rcases Int.lt_or_le 0 (frac u l).2 with h1 | h1
      · exact h1
      · have := Int.mul_nonpos_of_nonpos_of_nonneg h1 (Int.le_of_lt hn)
        omega
  · have h1 : Int.gcd ((frac u l).1 * dvb u l) ((frac u l).2 * dvb u l) = Int.gcd (frac u l).1 (frac u l).2 * (dvb u l).natAbs := Int.gcd_mul_right ..
    rw [e1, e2, dvb_abs] at h1
    have hg : 0 < Int.gcd u l := Int.gcd_pos_of_ne_zero_right _ h
    exact (Nat.eq_of_mul_eq_mul_right hg (by rw [← h1, Nat.one_mul]))
theorem frac_spec {u l : Int} (h : l ≠ 0) : ∃ k, k ≠ 0 ∧ u = (frac u l).1 * k ∧ l = (frac u l).2 * k := ⟨_, dvb_ne h, frac_eq.1.symm, frac_eq.2.symm⟩
theorem fm_dvd {a b : Fr} (ha : Fm a) (e : a.1 * b.2 = b.1 * a.2) : a.2.natAbs ∣ b.2.natAbs := by
  have h1 : a.2.natAbs ∣ a.1.natAbs * b.2.natAbs := by
    rw [← Int.natAbs_mul, e, Int.natAbs_mul]
    exact Nat.dvd_mul_left ..
  have c : Nat.Coprime a.2.natAbs a.1.natAbs := by
    have := ha.cop
    unfold Int.gcd at this
    exact (Nat.coprime_comm.mp this)
  exact c.dvd_of_dvd_mul_left h1
theorem fm_uniq {a b : Fr} (ha : Fm a) (hb : Fm b) (e : a.1 * b.2 = b.1 * a.2) : a = b := by
  have h1 := Nat.dvd_antisymm (fm_dvd ha e) (fm_dvd hb e.symm)
  have p1 := ha.pos
  have p2 := hb.pos
  have h2 : a.2 = b.2 := by omega
  have h3 : a.1 = b.1 := by
    rw [h2] at e
    exact Int.eq_of_mul_eq_mul_right (by omega) e
  exact Prod.ext h3 h2
/-- a is no later than b -/
def le (a b : Fr) : Prop := a.1 * b.2 ≤ b.1 * a.2
def lsB (a b : Fr) : Bool := decide (a.1 * b.2 < b.1 * a.2)
theorem lsB_iff {a b : Fr} : lsB a b = true ↔ ¬ le b a := by unfold lsB le; rw [decide_eq_true_eq]; omega
theorem lsB_no {a b : Fr} : lsB a b = false ↔ le b a := by unfold lsB le; rw [decide_eq_false_iff_not]; omega
theorem le_refl (a : Fr) : le a a := Int.le_refl _
theorem le_total (a b : Fr) : le a b ∨ le b a := by unfold le; omega
theorem le_trans {a b c : Fr} (ha : 0 < a.2) (hb : 0 < b.2) (hc : 0 < c.2) (h1 : le a b) (h2 : le b c) : le a c := by
  unfold le at *
  have x := Int.mul_le_mul_of_nonneg_right h1 (Int.le_of_lt hc)
  have y := Int.mul_le_mul_of_nonneg_right h2 (Int.le_of_lt ha)
  exact Int.le_of_mul_le_mul_right (a := b.2) (by grind) hb
theorem le_anti {a b : Fr} (ha : Fm a) (hb : Fm b) (h1 : le a b) (h2 : le b a) : a = b := fm_uniq ha hb (by unfold le at *; omega)
def grt (a b : Fr) : Fr := if lsB a b = true then b else a
def lss (a b : Fr) : Fr := if lsB b a = true then b else a
theorem grt_fm {a b : Fr} (ha : Fm a) (hb : Fm b) : Fm (grt a b) := by unfold grt; split <;> assumption
theorem lss_fm {a b : Fr} (ha : Fm a) (hb : Fm b) : Fm (lss a b) := by unfold lss; split <;> assumption
theorem le_of_not {a b : Fr} (h : ¬ le a b) : le b a := (le_total a b).resolve_left h
theorem grt_le {a b t : Fr} (ha : 0 < a.2) (hb : 0 < b.2) (ht : 0 < t.2) : le (grt a b) t ↔ le a t ∧ le b t := by
  unfold grt
  split
  · next h => exact ⟨fun z => ⟨le_trans ha hb ht (le_of_not (lsB_iff.mp h)) z, z⟩, fun z => z.2⟩
  · next h => exact ⟨fun z => ⟨z, le_trans hb ha ht (lsB_no.mp (Bool.eq_false_iff.mpr h)) z⟩, fun z => z.1⟩
theorem lss_le {a b t : Fr} (ha : 0 < a.2) (hb : 0 < b.2) (ht : 0 < t.2) : le t (lss a b) ↔ le t a ∧ le t b := by
  unfold lss
  split
  · next h => exact ⟨fun z => ⟨le_trans ht hb ha z (le_of_not (lsB_iff.mp h)), z⟩, fun z => z.2⟩
  · next h => exact ⟨fun z => ⟨z, le_trans ht ha hb z (lsB_no.mp (Bool.eq_false_iff.mpr h))⟩, fun z => z.1⟩
/-- the first and the last time of all at which something is so -/
def IsW (P : Fr → Prop) : Option (Fr × Fr) → Prop
  | none => ∀ t, 0 < t.2 → ¬ P t
  | some (x, y) => Fm x ∧ Fm y ∧ le x y ∧ ∀ t, 0 < t.2 → (P t ↔ le x t ∧ le t y)
theorem IsW.fst {P : Fr → Prop} {x y : Fr} (h : IsW P (some (x, y))) : P x := (h.2.2.2 x h.1.pos).mpr ⟨le_refl x, h.2.2.1⟩
theorem IsW.snd {P : Fr → Prop} {x y : Fr} (h : IsW P (some (x, y))) : P y := (h.2.2.2 y h.2.1.pos).mpr ⟨h.2.2.1, le_refl y⟩
theorem IsW.congr {P P' : Fr → Prop} {r : Option (Fr × Fr)} (h : IsW P r) (e : ∀ t, 0 < t.2 → (P t ↔ P' t)) : IsW P' r := by
  match r, h with
  | none, h => exact fun t ht z => h t ht ((e t ht).mpr z)
  | some (x, y), h => exact ⟨h.1, h.2.1, h.2.2.1, fun t ht => (e t ht).symm.trans (h.2.2.2 t ht)⟩
theorem IsW.uniq {P : Fr → Prop} {r r' : Option (Fr × Fr)} (h : IsW P r) (h' : IsW P r') : r = r' := by
  match r, r', h, h' with
  | none, none, _, _ => rfl
  | none, some (x, y), h, h' => exact (h x h'.1.pos h'.fst).elim
  | some (x, y), none, h, h' => exact (h' x h.1.pos h.fst).elim
  | some (x, y), some (x', y'), h, h' =>
    have a1 := (h.2.2.2 x' h'.1.pos).mp h'.fst
    have a2 := (h'.2.2.2 x h.1.pos).mp h.fst
    have b1 := (h.2.2.2 y' h'.2.1.pos).mp h'.snd
    have b2 := (h'.2.2.2 y h.2.1.pos).mp h.snd
    rw [le_anti h.1 h'.1 a1.1 a2.1, le_anti h.2.1 h'.2.1 b2.2 b1.2]
/-- both of two -/
def both (r r' : Fr × Fr) : Option (Fr × Fr) := if lsB (lss r.2 r'.2) (grt r.1 r'.1) = true then none else some (grt r.1 r'.1, lss r.2 r'.2)
theorem fm_01 : Fm (0, 1) := ⟨by decide, by decide⟩
theorem fm_11 : Fm (1, 1) := ⟨by decide, by decide⟩
theorem isW_of {P : Fr → Prop} {x y : Fr} (hx : Fm x) (hy : Fm y) (h : ∀ t, 0 < t.2 → (P t ↔ le x t ∧ le t y)) : IsW P (if lsB y x = true then none else some (x, y)) := by
  split
  · next c => exact fun t ht z => lsB_iff.mp c (le_trans hx.pos ht hy.pos ((h t ht).mp z).1 ((h t ht).mp z).2)
  · next c => exact ⟨hx, hy, lsB_no.mp (Bool.eq_false_iff.mpr c), h⟩
def in01 (t : Fr) : Prop := 0 ≤ t.1 ∧ t.1 ≤ t.2
theorem in01_iff {t : Fr} : in01 t ↔ le (0, 1) t ∧ le t (1, 1) := by unfold in01 le; simp only; omega
/-- at that time the number on its way is from -f to f -/
def nr (b e f : Int) (t : Fr) : Prop := -f * t.2 ≤ b * (t.2 - t.1) + e * t.1 ∧ b * (t.2 - t.1) + e * t.1 ≤ f * t.2
def withinF (b e f : Int) : Option (Fr × Fr) :=
  if b = e then (if (b.natAbs : Int) ≤ f then some ((0, 1), (1, 1)) else none)
  else
    let x := frac (0 - f - b) (e - b)
    let y := frac (f - b) (e - b)
    let r := if lsB y x = true then (y, x) else (x, y)
    if lsB (lss r.2 (1, 1)) (grt r.1 (0, 1)) = true then none else some (grt r.1 (0, 1), lss r.2 (1, 1))
theorem mul_le_pos {a b k : Int} (h : 0 < k) : a * k ≤ b * k ↔ a ≤ b := ⟨fun z => Int.le_of_mul_le_mul_right z h, fun z => Int.mul_le_mul_of_nonneg_right z (Int.le_of_lt h)⟩
theorem mul_le_neg {a b k : Int} (h : k < 0) : a * k ≤ b * k ↔ b ≤ a := by
  have := mul_le_pos (a := b) (b := a) (k := -k) (by omega)
  rw [Int.mul_neg, Int.mul_neg] at this
  omega
theorem frac_lo {u l : Int} {t : Fr} (h : l ≠ 0) : (0 < l → (u * t.2 ≤ l * t.1 ↔ le (frac u l) t)) ∧ (0 < l → (l * t.1 ≤ u * t.2 ↔ le t (frac u l))) ∧ (l < 0 → (u * t.2 ≤ l * t.1 ↔ le t (frac u l))) ∧ (l < 0 → (l * t.1 ≤ u * t.2 ↔ le (frac u l) t)) := by
  have hp := (frac_fm (u := u) h).pos
  obtain ⟨k, hk, e1, e2⟩ := frac_spec (u := u) h
  generalize frac u l = q at *
  have r1 : u * t.2 = (q.1 * t.2) * k := by rw [e1]; grind
  have r2 : l * t.1 = (t.1 * q.2) * k := by rw [e2]; grind
  rw [r1, r2]
  unfold le
  have kp : 0 < l → 0 < k := fun hl => by
    rcases Int.lt_or_gt_of_ne hk with h1 | h1
    · have := Int.mul_nonpos_of_nonneg_of_nonpos (Int.le_of_lt hp) (Int.le_of_lt h1); omega
    · exact h1
  have kn : l < 0 → k < 0 := fun hl => by
    rcases Int.lt_or_gt_of_ne hk with h1 | h1
    · exact h1
    · have := Int.mul_nonneg (Int.le_of_lt hp) (Int.le_of_lt h1); omega
  exact ⟨fun hl => mul_le_pos (kp hl), fun hl => mul_le_pos (kp hl), fun hl => mul_le_neg (kn hl), fun hl => mul_le_neg (kn hl)⟩
theorem nr_iff {b e f : Int} {t : Fr} : nr b e f t ↔ (0 - f - b) * t.2 ≤ (e - b) * t.1 ∧ (e - b) * t.1 ≤ (f - b) * t.2 := by
  unfold nr
  have e1 : b * (t.2 - t.1) + e * t.1 = (e - b) * t.1 + b * t.2 := by grind
  have e2 : (0 - f - b) * t.2 = -f * t.2 - b * t.2 := by grind
  have e3 : (f - b) * t.2 = f * t.2 - b * t.2 := by grind
  rw [e1, e2, e3]
  omega
theorem within_spec {b e f : Int} (hf : 0 ≤ f) : IsW (fun t => in01 t ∧ nr b e f t) (withinF b e f) := by
  unfold withinF
  by_cases h : b = e
  · rw [if_pos h]
    subst h
    have en : ∀ t : Fr, 0 < t.2 → (nr b b f t ↔ (b.natAbs : Int) ≤ f) := fun t ht => by
      unfold nr
      have e1 : b * (t.2 - t.1) + b * t.1 = b * t.2 := by grind
      rw [e1, mul_le_pos ht, mul_le_pos ht]
      omega
    split
    · next hb => exact ⟨fm_01, fm_11, by unfold le; decide, fun t ht => by show in01 t ∧ nr b b f t ↔ _; rw [en t ht, in01_iff]; exact ⟨fun z => z.1, fun z => ⟨z, hb⟩⟩⟩
    · next hb => exact fun t ht z => hb ((en t ht).mp z.2)
  · rw [if_neg h]
    have hd : e - b ≠ 0 := by omega
    have fx := frac_fm (u := 0 - f - b) hd
    have fy := frac_fm (u := f - b) hd
    have key : ∃ lo hi, Fm lo ∧ Fm hi ∧ (if lsB (frac (f - b) (e - b)) (frac (0 - f - b) (e - b)) = true then (frac (f - b) (e - b), frac (0 - f - b) (e - b)) else (frac (0 - f - b) (e - b), frac (f - b) (e - b))) = (lo, hi) ∧ ∀ t, 0 < t.2 → (nr b e f t ↔ le lo t ∧ le t hi) := by
      have A := fun t => frac_lo (u := 0 - f - b) (l := e - b) (t := t) hd
      have B := fun t => frac_lo (u := f - b) (l := e - b) (t := t) hd
      have M := fun t => nr_iff (b := b) (e := e) (f := f) (t := t)
      generalize frac (0 - f - b) (e - b) = x at *
      generalize frac (f - b) (e - b) = y at *
      rcases Int.lt_or_gt_of_ne hd with h0 | h0
      · have N : ∀ t, 0 < t.2 → (nr b e f t ↔ le y t ∧ le t x) := fun t ht => by rw [M, (A t).2.2.1 h0, (B t).2.2.2 h0]; exact And.comm
        have hyx : le y x := by
          refine ((B x).2.2.2 h0).mp ?_
          have h1 := ((A x).2.2.1 h0).mpr (le_refl x)
          have h2 := ((A x).2.2.2 h0).mpr (le_refl x)
          have h3 : (0 - f - b) * x.2 ≤ (f - b) * x.2 := Int.mul_le_mul_of_nonneg_right (by omega) (Int.le_of_lt fx.pos)
          omega
        by_cases c : lsB y x = true
        · exact ⟨y, x, fy, fx, if_pos c, N⟩
        · have e1 := le_anti fx fy (lsB_no.mp (Bool.eq_false_iff.mpr c)) hyx
          subst e1
          exact ⟨x, x, fx, fx, if_neg c, N⟩
      · have N : ∀ t, 0 < t.2 → (nr b e f t ↔ le x t ∧ le t y) := fun t ht => by rw [M, (A t).1 h0, (B t).2.1 h0]
        have hxy : le x y := by
          refine ((A y).1 h0).mp ?_
          have h1 := ((B y).1 h0).mpr (le_refl y)
          have h2 := ((B y).2.1 h0).mpr (le_refl y)
          have h3 : (0 - f - b) * y.2 ≤ (f - b) * y.2 := Int.mul_le_mul_of_nonneg_right (by omega) (Int.le_of_lt fy.pos)
          omega
        exact ⟨x, y, fx, fy, if_neg (by rw [Bool.not_eq_true]; exact lsB_no.mpr hxy), N⟩
    obtain ⟨lo, hi, fl, fh, er, N⟩ := key
    simp only [er]
    refine isW_of (grt_fm fl fm_01) (lss_fm fh fm_11) fun t ht => ?_
    rw [grt_le fl.pos (by decide) ht, lss_le fh.pos (by decide) ht, N t ht, in01_iff]
    constructor
    · rintro ⟨⟨a, b⟩, c, d⟩; exact ⟨⟨c, a⟩, d, b⟩
    · rintro ⟨⟨c, a⟩, d, b⟩; exact ⟨⟨a, b⟩, c, d⟩
theorem frac_bd {u l : Int} (h : l ≠ 0) : (frac u l).1.natAbs ≤ u.natAbs ∧ (frac u l).2.natAbs ≤ l.natAbs := by
  obtain ⟨k, hk, e1, e2⟩ := frac_spec (u := u) h
  generalize frac u l = q at *
  have h1 : u.natAbs = q.1.natAbs * k.natAbs := by rw [e1, Int.natAbs_mul]
  have h2 : l.natAbs = q.2.natAbs * k.natAbs := by rw [e2, Int.natAbs_mul]
  have h3 : 1 ≤ k.natAbs := by omega
  rw [h1, h2]
  exact ⟨Nat.le_mul_of_pos_right _ h3, Nat.le_mul_of_pos_right _ h3⟩
def Bd (B : Nat) (a : Fr) : Prop := a.1.natAbs ≤ B ∧ a.2.natAbs ≤ B
theorem grt_bd {B : Nat} {a b : Fr} (ha : Bd B a) (hb : Bd B b) : Bd B (grt a b) := by unfold grt; split <;> assumption
theorem lss_bd {B : Nat} {a b : Fr} (ha : Bd B a) (hb : Bd B b) : Bd B (lss a b) := by unfold lss; split <;> assumption
theorem within_bd {b e f : Int} {B : Nat} (h1 : f.natAbs + b.natAbs ≤ B) (h2 : e.natAbs + b.natAbs ≤ B) (h3 : 1 ≤ B) {r : Fr × Fr} (h : withinF b e f = some r) : Bd B r.1 ∧ Bd B r.2 := by
  have b0 : Bd B (0, 1) := ⟨Nat.zero_le _, h3⟩
  have b1 : Bd B (1, 1) := ⟨h3, h3⟩
  unfold withinF at h
  by_cases hbe : b = e
  · rw [if_pos hbe] at h
    split at h
    · cases h; exact ⟨b0, b1⟩
    · cases h
  · rw [if_neg hbe] at h
    have hd : e - b ≠ 0 := by omega
    have xb := frac_bd (u := 0 - f - b) hd
    have yb := frac_bd (u := f - b) hd
    have bx : Bd B (frac (0 - f - b) (e - b)) := ⟨by omega, by omega⟩
    have by' : Bd B (frac (f - b) (e - b)) := ⟨by omega, by omega⟩
    generalize frac (0 - f - b) (e - b) = x at *
    generalize frac (f - b) (e - b) = y at *
    simp only at h
    by_cases c : lsB y x = true
    · simp only [if_pos c] at h
      split at h
      · cases h
      · cases h; exact ⟨grt_bd by' b0, lss_bd bx b1⟩
    · simp only [if_neg c] at h
      split at h
      · cases h
      · cases h; exact ⟨grt_bd bx b0, lss_bd by' b1⟩
abbrev Wy := (Int × Int) × (Int × Int)
/-- both numbers at once -/
def nr2 (w o : Wy) (f : Int) (t : Fr) : Prop := in01 t ∧ nr (w.1.1 - o.1.1) (w.2.1 - o.2.1) f t ∧ nr (w.1.2 - o.1.2) (w.2.2 - o.2.2) f t
def whenF (w o : Wy) (f : Int) : Option (Fr × Fr) :=
  match withinF (w.1.1 - o.1.1) (w.2.1 - o.2.1) f with
  | none => none
  | some r => match withinF (w.1.2 - o.1.2) (w.2.2 - o.2.2) f with
    | none => none
    | some r' => if lsB (lss (lss (1, 1) r.2) r'.2) (grt (grt (0, 1) r.1) r'.1) = true then none else some (grt (grt (0, 1) r.1) r'.1, lss (lss (1, 1) r.2) r'.2)
theorem when_spec {w o : Wy} {f : Int} (hf : 0 ≤ f) : IsW (nr2 w o f) (whenF w o f) := by
  have A := within_spec (b := w.1.1 - o.1.1) (e := w.2.1 - o.2.1) hf
  have B := within_spec (b := w.1.2 - o.1.2) (e := w.2.2 - o.2.2) hf
  unfold whenF nr2
  cases ea : withinF (w.1.1 - o.1.1) (w.2.1 - o.2.1) f with
  | none =>
    rw [ea] at A
    exact fun t ht z => A t ht ⟨z.1, z.2.1⟩
  | some r =>
    rw [ea] at A
    cases eb : withinF (w.1.2 - o.1.2) (w.2.2 - o.2.2) f with
    | none =>
      rw [eb] at B
      exact fun t ht z => B t ht ⟨z.1, z.2.2⟩
    | some r' =>
      rw [eb] at B
      obtain ⟨x, y⟩ := r
      obtain ⟨x', y'⟩ := r'
      refine isW_of (grt_fm (grt_fm fm_01 A.1) B.1) (lss_fm (lss_fm fm_11 A.2.1) B.2.1) fun t ht => ?_
      rw [grt_le (grt_fm fm_01 A.1).pos B.1.pos ht, lss_le (lss_fm fm_11 A.2.1).pos B.2.1.pos ht, grt_le fm_01.pos A.1.pos ht, lss_le fm_11.pos A.2.1.pos ht]
      have a := A.2.2.2 t ht
      have b := B.2.2.2 t ht
      have c := in01_iff (t := t)
      constructor
      · rintro ⟨h1, h2, h3⟩
        have a' := a.mp ⟨h1, h2⟩
        have b' := b.mp ⟨h1, h3⟩
        have c' := c.mp h1
        exact ⟨⟨⟨c'.1, a'.1⟩, b'.1⟩, ⟨c'.2, a'.2⟩, b'.2⟩
      · rintro ⟨⟨⟨h1, h2⟩, h3⟩, ⟨h4, h5⟩, h6⟩
        have a' := a.mpr ⟨h2, h5⟩
        have b' := b.mpr ⟨h3, h6⟩
        exact ⟨a'.1, a'.2, b'.2⟩
theorem when_bd {w o : Wy} {f : Int} {B : Nat} (h1 : f.natAbs + (w.1.1 - o.1.1).natAbs ≤ B) (h2 : (w.2.1 - o.2.1).natAbs + (w.1.1 - o.1.1).natAbs ≤ B) (h3 : f.natAbs + (w.1.2 - o.1.2).natAbs ≤ B) (h4 : (w.2.2 - o.2.2).natAbs + (w.1.2 - o.1.2).natAbs ≤ B) (h5 : 1 ≤ B) {r : Fr × Fr} (h : whenF w o f = some r) : Bd B r.1 ∧ Bd B r.2 := by
  have b0 : Bd B (0, 1) := ⟨Nat.zero_le _, h5⟩
  have b1 : Bd B (1, 1) := ⟨h5, h5⟩
  unfold whenF at h
  cases ea : withinF (w.1.1 - o.1.1) (w.2.1 - o.2.1) f with
  | none => simp [ea] at h
  | some r1 =>
    cases eb : withinF (w.1.2 - o.1.2) (w.2.2 - o.2.2) f with
    | none => simp [ea, eb] at h
    | some r2 =>
      have a := within_bd h1 h2 h5 ea
      have b := within_bd h3 h4 h5 eb
      simp only [ea, eb] at h
      split at h
      · cases h
      · cases h
        exact ⟨grt_bd (grt_bd b0 a.1) b.1, lss_bd (lss_bd b1 a.2) b.2⟩
end Ab
set_option Elab.async false
set_option linter.all false
set_option maxRecDepth 100000
set_option maxHeartbeats 4000000
namespace Ab
open PySem PySem.Spec PyProof.Rows L2
/-- a, b = a list of two -/
def gL (n : Nat) (g : WGs) : WG := fun d ρ S Q => (match d with
  | .ref a => (match S a with
    | some (.lst ds) => ds.length = n ∧ g ds ρ S Q
    | _ => False)
  | _ => False)
section
variable {X : Cx} {pos : Pos}
theorem rg_lst {es : List Expr} {js : List Nat} {k : Nat} {g : WGs} {n : Nat} (hc : X.calm = true) (h : RGs X js es g) (hn : (assignEach es X.env).length = n := by rfl) (hst : (assignEach es X.env).findIdx? (·.1) = none := by rfl) : RG X js (.Tuple es k pos) (gL n g) :=
  pg_imp (pg_unl hc h hn hst) fun v σ H Q ⟨d, ρ, S, QA, p, rs, rp, h, k⟩ => by
    cases d with
    | ref a =>
      unfold RepV at p
      subst p
      unfold gL at h
      cases e : S a with
      | none => simp [e] at h
      | some o =>
        cases o with
        | lst ds =>
          simp only [e] at h
          obtain ⟨vs, g1, g2⟩ := rp a _ e
          exact ⟨a, vs, rfl, .inl (.inl g1), by rw [g2.length]; exact h.1, ds, ρ, S, QA, g2, rs, rp, h.2, k⟩
        | _ => simp [e] at h
    | _ => exact (show False from h).elim
end
end Ab
set_option Elab.async false
set_option linter.all false
set_option maxRecDepth 100000
set_option maxHeartbeats 4000000
/-! ### times of ways that are like one another -/
namespace Ab
def bk (t : Fr) : Fr := (t.2 - t.1, t.2)
def bkF (r : Fr × Fr) : Fr × Fr := (bk r.2, bk r.1)
theorem bk_bk (t : Fr) : bk (bk t) = t := by unfold bk; exact Prod.ext (by simp only; omega) rfl
theorem bk_fm {t : Fr} (h : Fm t) : Fm (bk t) := by
  refine ⟨h.pos, ?_⟩
  show Int.gcd (t.2 - t.1) t.2 = 1
  have h1 := h.cop
  refine Nat.dvd_antisymm ?_ (Nat.one_dvd _)
  rw [← h1]
  refine Int.dvd_gcd ?_ (Int.gcd_dvd_right ..)
  have e : t.1 = t.2 - (t.2 - t.1) := by omega
  have : ((Int.gcd (t.2 - t.1) t.2 : Nat) : Int) ∣ t.2 - (t.2 - t.1) := Int.dvd_sub (Int.gcd_dvd_right ..) (Int.gcd_dvd_left ..)
  rw [← e] at this
  exact this
theorem bk_le {a b : Fr} : le (bk a) (bk b) ↔ le b a := by
  unfold le bk
  simp only
  have e1 : (a.2 - a.1) * b.2 = a.2 * b.2 - a.1 * b.2 := Int.sub_mul ..
  have e2 : (b.2 - b.1) * a.2 = a.2 * b.2 - b.1 * a.2 := by rw [Int.sub_mul, Int.mul_comm b.2]
  rw [e1, e2]
  omega
theorem IsW.back {P : Fr → Prop} {r : Option (Fr × Fr)} (h : IsW P r) : IsW (fun t => P (bk t)) (r.map bkF) := by
  match r, h with
  | none, h => exact fun t ht z => h (bk t) ht z
  | some (x, y), h =>
    refine ⟨bk_fm h.2.1, bk_fm h.1, bk_le.mpr h.2.2.1, fun t ht => ?_⟩
    have a := h.2.2.2 (bk t) ht
    have b1 := bk_le (a := y) (b := bk t)
    have b2 := bk_le (a := bk t) (b := x)
    rw [bk_bk] at b1 b2
    show P (bk t) ↔ le (bk y) t ∧ le t (bk x)
    rw [a, b1, b2]
    exact And.comm
theorem in01_bk {t : Fr} : in01 (bk t) ↔ in01 t := by unfold in01 bk; simp only; omega
theorem nr_neg {b e f : Int} {t : Fr} : nr (-b) (-e) f t ↔ nr b e f t := by
  unfold nr
  have e1 : -b * (t.2 - t.1) + -e * t.1 = -(b * (t.2 - t.1) + e * t.1) := by grind
  rw [e1, Int.neg_mul]
  omega
theorem nr_bk {b e f : Int} {t : Fr} : nr e b f (bk t) ↔ nr b e f t := by
  unfold nr bk
  simp only
  have e1 : e * (t.2 - (t.2 - t.1)) + b * (t.2 - t.1) = b * (t.2 - t.1) + e * t.1 := by grind
  rw [e1]
theorem nr_mul {b e f k : Int} {t : Fr} (hk : 0 < k) : nr (k * b) (k * e) (k * f) t ↔ nr b e f t := by
  unfold nr
  have e1 : k * b * (t.2 - t.1) + k * e * t.1 = (b * (t.2 - t.1) + e * t.1) * k := by grind
  have e2 : -(k * f) * t.2 = (-f * t.2) * k := by grind
  have e3 : k * f * t.2 = (f * t.2) * k := by grind
  rw [e1, e2, e3, mul_le_pos hk, mul_le_pos hk]
theorem nr_0 {f : Int} {t : Fr} (hf : 0 ≤ f) (ht : 0 < t.2) : nr 0 0 f t := by
  unfold nr
  have h1 := Int.mul_nonneg hf (Int.le_of_lt ht)
  rw [Int.zero_mul, Int.zero_mul, Int.neg_mul]
  omega
theorem nr_b {b e f : Int} : nr b e f (0, 1) ↔ -f ≤ b ∧ b ≤ f := by unfold nr; simp
theorem nr_e {b e f : Int} : nr b e f (1, 1) ↔ -f ≤ e ∧ e ≤ f := by unfold nr; simp
theorem nr_wide {b e f g : Int} {t : Fr} (h : f ≤ g) (ht : 0 < t.2) (n : nr b e f t) : nr b e g t := by
  unfold nr at *
  have h1 : f * t.2 ≤ g * t.2 := Int.mul_le_mul_of_nonneg_right h (Int.le_of_lt ht)
  rw [Int.neg_mul] at *
  omega
theorem within_neg {b e f : Int} (hf : 0 ≤ f) : withinF (0 - b) (0 - e) f = withinF b e f :=
  (within_spec hf).uniq ((within_spec hf).congr fun t ht => by rw [Int.zero_sub, Int.zero_sub, nr_neg])
theorem within_back {b e f : Int} (hf : 0 ≤ f) : withinF e b f = (withinF b e f).map bkF :=
  (within_spec hf).uniq ((within_spec hf).back.congr fun t ht => by rw [in01_bk, nr_bk])
theorem within_mul {b e f k : Int} (hf : 0 ≤ f) (hk : 0 < k) : withinF (k * b) (k * e) (k * f) = withinF b e f :=
  (within_spec (Int.mul_nonneg (Int.le_of_lt hk) hf)).uniq ((within_spec hf).congr fun t ht => by rw [nr_mul hk])
theorem isW_first {P : Fr → Prop} {x y : Fr} (h : IsW P (some (x, y))) (h0 : ∀ t, P t → in01 t) : (x = (0, 1) ↔ P (0, 1)) ∧ (y = (1, 1) ↔ P (1, 1)) := by
  have a := in01_iff.mp (h0 x h.fst)
  have b := in01_iff.mp (h0 y h.snd)
  refine ⟨⟨fun e => e ▸ h.fst, fun z => ?_⟩, ⟨fun e => e ▸ h.snd, fun z => ?_⟩⟩
  · exact le_anti h.1 fm_01 ((h.2.2.2 (0, 1) (by decide)).mp z).1 a.1
  · exact le_anti h.2.1 fm_11 b.2 ((h.2.2.2 (1, 1) (by decide)).mp z).2
theorem isW_sub {P P' : Fr → Prop} {x y : Fr} {r : Option (Fr × Fr)} (h : IsW P (some (x, y))) (h' : IsW P' r) (i : ∀ t, 0 < t.2 → P t → P' t) : ∃ x' y', r = some (x', y') ∧ le x' x ∧ le y y' := by
  match r, h' with
  | none, h' => exact (h' x h.1.pos (i x h.1.pos h.fst)).elim
  | some (x', y'), h' => exact ⟨x', y', rfl, ((h'.2.2.2 x h.1.pos).mp (i x h.1.pos h.fst)).1, ((h'.2.2.2 y h.2.1.pos).mp (i y h.2.1.pos h.snd)).2⟩
theorem within_none {b e f : Int} (hf : 0 ≤ f) : withinF b e f = none ↔ (f < min b e ∨ max b e < 0 - f) := by
  have S := within_spec (b := b) (e := e) hf
  constructor
  · intro h
    rw [h] at S
    have h0 := fun z => S (0, 1) (by decide) ⟨⟨by decide, by decide⟩, nr_b.mpr z⟩
    have h1 := fun z => S (1, 1) (by decide) ⟨⟨by decide, by decide⟩, nr_e.mpr z⟩
    rcases Int.lt_or_le f b with hb | hb
    · rcases Int.lt_or_le f e with he | he
      · left; omega
      · have he' : e < -f := by
          rcases Int.lt_or_le e (-f) with z | z
          · exact z
          · exact (h1 ⟨z, he⟩).elim
        refine (S (b, b - e) (by simp only; omega) ⟨⟨by simp only; omega, by simp only; omega⟩, ?_⟩).elim
        unfold nr
        simp only
        have e1 : b * (b - e - b) + e * b = 0 := by grind
        have e2 := Int.mul_nonneg hf (show 0 ≤ b - e by omega)
        rw [e1, Int.neg_mul]
        omega
    · have hb' : b < -f := by
        rcases Int.lt_or_le b (-f) with z | z
        · exact z
        · exact (h0 ⟨z, hb⟩).elim
      rcases Int.lt_or_le e (-f) with he | he
      · right; omega
      · have he' : f < e := by
          rcases Int.lt_or_le f e with z | z
          · exact z
          · exact (h1 ⟨he, z⟩).elim
        refine (S (-b, e - b) (by simp only; omega) ⟨⟨by simp only; omega, by simp only; omega⟩, ?_⟩).elim
        unfold nr
        simp only
        have e1 : b * (e - b - -b) + e * -b = 0 := by grind
        have e2 := Int.mul_nonneg hf (show 0 ≤ e - b by omega)
        rw [e1, Int.neg_mul]
        omega
  · intro h
    cases hw : withinF b e f with
    | none => rfl
    | some r =>
      obtain ⟨x, y⟩ := r
      rw [hw] at S
      obtain ⟨⟨i1, i2⟩, n1, n2⟩ := S.fst
      have hp := S.1.pos
      exfalso
      have a1 := Int.mul_nonneg (show 0 ≤ x.2 - x.1 by omega) (Int.le_refl 0)
      rcases h with h | h
      · have m1 := Int.mul_le_mul_of_nonneg_right (show f + 1 ≤ b by omega) (show 0 ≤ x.2 - x.1 by omega)
        have m2 := Int.mul_le_mul_of_nonneg_right (show f + 1 ≤ e by omega) i1
        have e1 : (f + 1) * (x.2 - x.1) + (f + 1) * x.1 = f * x.2 + x.2 := by grind
        omega
      · have m1 := Int.mul_le_mul_of_nonneg_right (show b ≤ -f - 1 by omega) (show 0 ≤ x.2 - x.1 by omega)
        have m2 := Int.mul_le_mul_of_nonneg_right (show e ≤ -f - 1 by omega) i1
        have e1 : (-f - 1) * (x.2 - x.1) + (-f - 1) * x.1 = -f * x.2 - x.2 := by grind
        omega
end Ab
set_option Elab.async false
set_option linter.all false
set_option maxRecDepth 100000
set_option maxHeartbeats 4000000
namespace HT
open PySem PySem.Spec PyProof.Rows L2
section
variable {prog : Program} {w : World} {A : Around} {E : Value → Shared → Prop} {s : Shared}
theorem sliceApplied_rev {sl : Addr} {vl vu vs : Value} {n : Nat} {Q : Int × Int × Nat → Shared → Prop} (hs : s.heap.IsSliceOf sl vl vu vs) (pl : IsPart vl none) (pu : IsPart vu none) (ps : IsPart vs (some (-1)))
    (h : Q ((n : Int) - 1, -1, n) s) : wpAny (model prog w) A (Builtin.Slice.sliceApplied (.ref sl) (pure (n : Int))) Q E s := by
  obtain ⟨os, hos, hcs, hds⟩ := id hs
  unfold Builtin.Slice.sliceApplied Builtin.Slice.sliceFields
  refine wpAny_bind (wpAny_bind (wpAny_field hos hds (x := vl) rfl (wpAny_bind (wpAny_field hos hds (x := vu) rfl (wpAny_bind (wpAny_field hos hds (x := vs) rfl (wpAny_pure ?_)))))))
  refine wpAny_bind (slicePart_ ps ?_)
  show wpAny _ _ (if ((-1 : Int) == 0) = true then _ else _) _ _ s
  rw [if_neg (by decide)]
  refine wpAny_bind (slicePart_ pl (wpAny_bind (slicePart_ pu (wpAny_bind (wpAny_pure ?_)))))
  show wpAny _ _ (pure ((n : Int) - 1, (-1 : Int), Builtin.Slice.slicePlaces ((n : Int) - 1) (-1) (-1))) _ _ s
  have e : Builtin.Slice.slicePlaces ((n : Int) - 1) (-1) (-1) = n := by
    unfold Builtin.Slice.slicePlaces
    rw [if_neg (by decide)]
    have e1 : (- -1 : Int) = 1 := by decide
    rw [e1, Int.ediv_one]
    split <;> omega
  rw [e]
  exact wpAny_pure h
theorem fm_congr {α β : Type} {f g : α → Option β} : ∀ {l : List α}, (∀ x ∈ l, f x = g x) → l.filterMap f = l.filterMap g
  | [], _ => rfl
  | a :: l, h => by rw [List.filterMap_cons, List.filterMap_cons, h a (by simp), fm_congr fun x hx => h x (by simp [hx])]
theorem pick_rev (xs : Array Value) : ((List.range xs.size).filterMap fun (m : Nat) => xs[((xs.size : Int) - 1 + (m : Int) * -1).toNat]?).toArray = xs.toList.reverse.toArray := by
  congr 1
  have e : ∀ (l : List Value), (List.range l.length).filterMap (fun (m : Nat) => l[((l.length : Int) - 1 + (m : Int) * -1).toNat]?) = l.reverse := by
    intro l
    apply List.ext_getElem?
    intro i
    have h1 : (List.range l.length).filterMap (fun (m : Nat) => l[((l.length : Int) - 1 + (m : Int) * -1).toNat]?) = (List.range l.length).map (fun m => (l.reverse)[m]?.getD .none) := by
      rw [← List.filterMap_eq_map]
      apply fm_congr
      intro m hm
      have hm' := List.mem_range.mp hm
      have e2 : ((l.length : Int) - 1 + (m : Int) * -1).toNat = l.length - 1 - m := by omega
      rw [e2, List.getElem?_eq_getElem (by omega)]
      have e3 : l.reverse[m]? = some (l[l.length - 1 - m]'(by omega)) := by
        rw [List.getElem?_reverse hm', List.getElem?_eq_getElem (by omega)]
      simp only [Function.comp, e3, Option.getD]
    rw [h1, List.getElem?_map]
    by_cases hi : i < l.length
    · rw [List.getElem?_range hi]
      have : i < l.reverse.length := by simpa using hi
      rw [List.getElem?_eq_getElem this]
      simp [List.getElem?_eq_getElem this]
    · rw [List.getElem?_eq_none (by simpa using hi), List.getElem?_eq_none (by simpa using hi)]
      rfl
  have := e xs.toList
  rw [Array.length_toList] at this
  simpa using this
theorem getItem_tuple_rev {t sl : Addr} {items : Array Value} {vl vu vs : Value} {Q : Value → Shared → Prop} (ht : IsTup s.heap t items) (hs : s.heap.IsSliceOf sl vl vu vs) (pl : IsPart vl none) (pu : IsPart vu none) (ps : IsPart vs (some (-1)))
    (h : Q (.ref s.heap.objs.size) { s with heap := s.heap.push { cls := .type "tuple", data := .seq items.toList.reverse.toArray } })
    (hsz : items.size ≤ sizeLine) : wpAny (model prog w) A (getItem (.ref t) (.ref sl)) Q E s := by
  have htake : sizeOk (.seq items.toList.reverse.toArray) := by
    show items.toList.reverse.toArray.size ≤ sizeLine
    rw [List.size_toArray, List.length_reverse, Array.length_toList]
    exact hsz
  obtain ⟨os, hos, hcs, hds⟩ := id hs
  have hTs : s.TypeIs (.ref sl) "slice" := ⟨os, hos, hcs⟩
  unfold getItem
  try with_reducible refine wpAny_holding ?_
  first | refine wpAny_bind (wpAny_pure ?_) | skip
  refine wpAny_bind (wpAny_sequenceKey ht.typeIs (by decide) ?_)
  refine wpAny_bind (wpAny_callSpecial?_slot (name := Str.ofString "__getitem__") ht.typeIs PyProof.Rows.slot_tuple_getitem
    (wpAny_call_entry PyProof.Rows.slot_tuple_getitem ht.typeIs entry_tuple_getitem ?_ (args_tuple_getitem _ _)))
  show wpAny _ _ (Builtin.Tuple.tupleItemsOf (.ref t) >>= _) _ _ s
  refine wpAny_bind (tupleItemsOf_ ht ?_)
  refine wpAny_bind (wpAny_typeOf hTs ?_)
  rw [if_pos (by decide)]
  refine wpAny_bind (sliceApplied_rev hs pl pu ps ?_)
  have hno : ¬ ((((items.size : Int) - 1) == 0 && (-1 : Int) == 1 && items.size == items.size) = true) := by
    intro q
    rw [Bool.and_eq_true, Bool.and_eq_true] at q
    exact absurd q.1.2 (by decide)
  show wpAny _ _ (if (((items.size : Int) - 1) == 0 && (-1 : Int) == 1 && items.size == items.size) = true then _ else _) _ _ s
  rw [if_neg hno, pick_rev]
  first
    | exact wpAny_bind (m := Builtin.Tuple.tupleExact _) (wpAny_newObj_type (wpAny_pure ⟨_, rfl, wpAny_pure h⟩) htake)
    | exact wpAny_bind (m := Builtin.Tuple.tupleExact _) (wpAny_newObj_type (wpAny_bind (wpAny_pure (wpAny_pure ⟨_, rfl, wpAny_pure h⟩))) htake)
    | exact wpAny_bind (wpAny_bind (m := Builtin.Tuple.tupleExact _) (wpAny_newObj_type (wpAny_pure (wpAny_pure ⟨_, rfl, wpAny_pure h⟩)) htake))
    | exact wpAny_bind (wpAny_bind (m := Builtin.Tuple.tupleExact _) (wpAny_newObj_type (wpAny_pure ⟨_, rfl, wpAny_pure h⟩) htake))
end
end HT
namespace L2
open PySem PySem.Spec PyProof.Rows
section
variable {X : Cx}
def tRevT (K : PySem.W.Frag) (te : TE) : TE := fun σ H Q => te σ H fun x H1 => ∃ a xs, x = .ref a ∧ SqT K H1 a xs ∧ ∀ p, H1 p = none → Q (.ref p) (upd H1 p (.tup xs.reverse))
theorem pe_revT {e : Expr} {te : TE} {k : Nat} {p1 p2 p3 pos : Pos} (he : PE X e te) : PE X (.Subscript e (.Slice none none (some (.UnaryOp .USub (.Constant (.int 1) k p1) p2)) p3) pos) (tRevT X.K te) := by
  refine ⟨fun pins s σ H Q I h => ?_⟩
  refine Subscript_ (thn (he.run pins s σ H _ I h) fun v s1 ⟨x, H1, I1, r1, q1⟩ => ?_)
  obtain ⟨a, xs, ex, hx, q⟩ := q1
  subst ex
  cases r1
  have hst : PO X (some (.UnaryOp .USub (.Constant (.int 1) k p1) p2)) (tPart (tUn (rU fun i => .int (-i)) (tC (.int 1)))) := po_some (pe_un un_neg pe_int)
  refine wpAny_Slice (thn (po_none.run pins s1 σ H1 (fun o H2 => o = none ∧ H2 = H1) I1 ⟨rfl, rfl⟩) fun vl s2 ⟨l, H2, I2, pl, el, e2⟩ => ?_)
  subst el e2
  refine thn (po_none.run pins s2 σ H2 (fun o H3 => o = none ∧ H3 = H2) I2 ⟨rfl, rfl⟩) fun vu s3 ⟨u, H3, I3, pu, eu, e3⟩ => ?_
  subst eu e3
  refine thn (hst.run pins s3 σ H3 (fun o H4 => o = some (-1) ∧ H4 = H3) I3 ⟨1, rfl, -1, rfl, rfl, rfl⟩) fun vs s4 ⟨o, H4, I4, ps, eo, e4⟩ => ?_
  subst eo e4
  have I5 : Inv X pins σ H4 { s4 with heap := s4.heap.push { cls := .type "slice", data := .fields #[vl, vu, vs] } } := I4.kept (t' := s4.toks) fun b ob q => Heap.get?_push_of_some _ q
  obtain ⟨its, r, ht, hz⟩ := I5.tuple hx
  have hlen := r.length
  show wpAny (model X.prog X.w) X.A (subscriptTail e (.Slice none none (some (.UnaryOp .USub (.Constant (.int 1) k p1) p2)) p3) (.ref a) (.ref s4.heap.objs.size)) (EP X pins σ Q) X.xe { s4 with heap := s4.heap.push { cls := .type "slice", data := .fields #[vl, vu, vs] } }
  refine tail_any (ops := [.ref a, .ref s4.heap.objs.size]) ht.typeIs (PyProof.Rows.slot_tuple_getitem.lookup) ?_ (by with_unfolding_all rfl)
  refine HT.getItem_tuple_rev ht (Heap.IsSliceOf.new _ vl vu vs) pl pu ps ?_ (by rw [List.size_toArray]; omega)
  refine ⟨.ref _, _, I5.laid (t' := s4.toks) (o := .tup xs.reverse) (fun b ob q => Heap.get?_push_of_some _ q) (Nat.le_refl _) ?_, rfl, q _ (I5.hok.fresh (Nat.le_refl _))⟩
  exact ⟨by rw [List.length_reverse]; exact hz, _, r.reverse, IsTup.new _ _⟩
end
end L2
namespace Ab
open PySem PySem.Spec PyProof.Rows L2
/-- t[::-1] of a tuple -/
def wRev (w : WE) : WE := fun ρ S Q E => w ρ S (fun x S1 => (match x with
  | .tup xs => Q (.tup xs.reverse) S1
  | _ => False)) E
theorem RepL.rev {K : PySem.W.Frag} {H : Hp} : ∀ {ds : List D} {vs : List V}, RepL K H ds vs → RepL K H ds.reverse vs.reverse
  | [], _, h => by rw [h.nil_inv]; exact repL_nil
  | d :: ds, _, h => by
    obtain ⟨v, r, rfl, pv, h'⟩ := h.inv
    rw [List.reverse_cons, List.reverse_cons]
    exact (RepL.rev h').append (repL_cons pv repL_nil)
section
variable {X : Cx} {W : WX} {e : Expr} {we : WE} {k : Nat} {p1 p2 p3 pos : Pos}
theorem re_rev (he : RE X W e we) : RE X W (.Subscript e (.Slice none none (some (.UnaryOp .USub (.Constant (.int 1) k p1) p2)) p3) pos) (wRev we) :=
  pe_imp (pe_revT he) fun σ H Q ⟨ρ, S, QA, EA, rs, rp, h, k, x⟩ => ⟨ρ, S, _, EA, rs, rp, h, fun d S1 v H1 h1 l1 r1 p1 => by
    cases d with
    | tup xs =>
      unfold RepV at p1
      obtain ⟨t, vs, rfl, tp, rl⟩ := p1
      refine ⟨t, vs, rfl, tp.sq, fun p np => k _ S1 _ _ h1 (l1.trans (Le.new np)) (r1.new np) ?_⟩
      unfold RepV
      exact ⟨p, _, rfl, .inl upd_same, (RepL.rev rl).le (Le.new np)⟩
    | _ => exact (show False from h1).elim, x⟩
end
end Ab
set_option Elab.async false
set_option linter.all false
set_option maxRecDepth 100000
set_option maxHeartbeats 4000000
/-! ### ways turned about -/
namespace Ab
theorem nr_sub {a b c d f : Int} {t : Fr} : nr (b - a) (d - c) f t ↔ nr (a - b) (c - d) f t := by
  have e1 : b - a = -(a - b) := by omega
  have e2 : d - c = -(c - d) := by omega
  rw [e1, e2, nr_neg]
theorem when_comm {w o : Wy} {f : Int} (hf : 0 ≤ f) : whenF o w f = whenF w o f :=
  (when_spec hf).uniq ((when_spec hf).congr fun t ht => by unfold nr2; rw [nr_sub, nr_sub (a := o.1.2)])
def trn (w : Wy) : Wy := ((w.1.2, 199 - w.1.1), (w.2.2, 199 - w.2.1))
theorem when_trn {w o : Wy} {f : Int} (hf : 0 ≤ f) : whenF (trn w) (trn o) f = whenF w o f :=
  (when_spec hf).uniq ((when_spec hf).congr fun t ht => by
    unfold nr2 trn
    simp only
    have e1 : 199 - w.1.1 - (199 - o.1.1) = o.1.1 - w.1.1 := by omega
    have e2 : 199 - w.2.1 - (199 - o.2.1) = o.2.1 - w.2.1 := by omega
    rw [e1, e2, nr_sub (a := w.1.1)]
    exact ⟨fun z => ⟨z.1, z.2.2, z.2.1⟩, fun z => ⟨z.1, z.2.2, z.2.1⟩⟩)
def mvd (w : Wy) (k : Int) : Wy := ((w.1.1 + k, w.1.2), (w.2.1 + k, w.2.2))
theorem when_mvd {w o : Wy} {f k : Int} (hf : 0 ≤ f) : whenF (mvd w k) (mvd o k) f = whenF w o f :=
  (when_spec hf).uniq ((when_spec hf).congr fun t ht => by
    unfold nr2 mvd
    simp only
    have e1 : w.1.1 + k - (o.1.1 + k) = w.1.1 - o.1.1 := by omega
    have e2 : w.2.1 + k - (o.2.1 + k) = w.2.1 - o.2.1 := by omega
    rw [e1, e2])
def swp (w : Wy) : Wy := (w.2, w.1)
theorem nr2_bk {w o : Wy} {f : Int} {t : Fr} : nr2 (swp w) (swp o) f (bk t) ↔ nr2 w o f t := by
  unfold nr2 swp
  simp only
  rw [in01_bk, nr_bk, nr_bk]
theorem when_back {w o : Wy} {f : Int} (hf : 0 ≤ f) : whenF (swp w) (swp o) f = (whenF w o f).map bkF :=
  (when_spec hf).uniq ((when_spec hf).back.congr fun t ht => by
    have := nr2_bk (w := w) (o := o) (f := f) (t := bk t)
    rw [bk_bk] at this
    exact this.symm)
theorem when_self {w : Wy} : whenF w w 0 = some ((0, 1), (1, 1)) :=
  (when_spec (Int.le_refl 0)).uniq ⟨fm_01, fm_11, by unfold le; decide, fun t ht => by
    show nr2 w w 0 t ↔ _
    rw [← in01_iff]
    unfold nr2
    simp only [Int.sub_self]
    exact ⟨fun z => z.1, fun z => ⟨z, nr_0 (Int.le_refl 0) ht, nr_0 (Int.le_refl 0) ht⟩⟩⟩
theorem frac_1 (u : Int) : frac u 1 = (u, 1) := by
  have h := frac_fm (u := u) (l := 1) (by decide)
  obtain ⟨e1, e2⟩ := frac_eq (u := u) (l := 1)
  have hg : dvb u 1 = 1 := by
    unfold dvb
    rw [if_neg (by decide), Int.gcd_one_right]
    rfl
  rw [hg, Int.mul_one] at e1 e2
  exact Prod.ext e1 e2
theorem frac_same {u l u' l' : Int} (h : l ≠ 0) (h' : l' ≠ 0) (e : u * l' = u' * l) : frac u l = frac u' l' := by
  refine fm_uniq (frac_fm h) (frac_fm h') ?_
  obtain ⟨k, hk, a1, a2⟩ := frac_spec (u := u) h
  obtain ⟨m, hm, b1, b2⟩ := frac_spec (u := u') h'
  generalize frac u l = p at *
  generalize frac u' l' = q at *
  have e1 : (p.1 * q.2) * (k * m) = (q.1 * p.2) * (k * m) := by
    have : (p.1 * k) * (q.2 * m) = (q.1 * m) * (p.2 * k) := by rw [← a1, ← b2, ← b1, ← a2]; exact e
    grind
  exact Int.eq_of_mul_eq_mul_right (Int.mul_ne_zero hk hm) e1
theorem nr_in {b e f : Int} {x y t : Fr} (hx : 0 < x.2) (hy : 0 < y.2) (ht : 0 < t.2) : True := trivial
/-- at the first time, if that is not the beginning, it is just so far -/
theorem first_sharp {w o : Wy} {f : Int} {x y : Fr} (hf : 1 ≤ f) (h : whenF w o f = some (x, y)) (h0 : x ≠ (0, 1)) : ¬ nr2 w o (f - 1) x := by
  intro hn
  have S := when_spec (w := w) (o := o) (f := f) (by omega)
  rw [h] at S
  obtain ⟨⟨i1, i2⟩, n1, n2⟩ := hn
  have hp := S.1.pos
  have hu : 0 < x.1 := by
    rcases Int.lt_or_le 0 x.1 with z | z
    · exact z
    · have e : x.1 = 0 := by omega
      have c := S.1.cop
      rw [e, Int.gcd_zero_left] at c
      exact (h0 (Prod.ext e (by show x.2 = 1; omega))).elim
  generalize hb1 : w.1.1 - o.1.1 = b1 at *
  generalize he1 : w.2.1 - o.2.1 = e1 at *
  generalize hb2 : w.1.2 - o.1.2 = b2 at *
  generalize he2 : w.2.2 - o.2.2 = e2 at *
  let N : Int := (b1 - e1).natAbs + (b2 - e2).natAbs + 1
  have hN : 1 ≤ N := by show 1 ≤ ((b1 - e1).natAbs : Int) + (b2 - e2).natAbs + 1; omega
  have key : ∀ b e : Int, (b - e).natAbs ≤ N → nr b e (f - 1) x → nr b e f (x.1 * N - 1, x.2 * N) := by
    intro b e hbe ⟨m1, m2⟩
    unfold nr
    simp only
    have q1 : b * (x.2 * N - (x.1 * N - 1)) + e * (x.1 * N - 1) = (b * (x.2 - x.1) + e * x.1) * N + (b - e) := by grind
    have r1 := Int.mul_le_mul_of_nonneg_right m1 (show 0 ≤ N by omega)
    have r2 := Int.mul_le_mul_of_nonneg_right m2 (show 0 ≤ N by omega)
    have r3 : -(f - 1) * x.2 * N = -f * (x.2 * N) + x.2 * N := by grind
    have r4 : (f - 1) * x.2 * N = f * (x.2 * N) - x.2 * N := by grind
    have r5 : N ≤ x.2 * N := by
      have := Int.mul_le_mul_of_nonneg_right (show 1 ≤ x.2 by omega) (show 0 ≤ N by omega)
      omega
    rw [q1]
    omega
  have k1 := key b1 e1 (by show _ ≤ ((b1 - e1).natAbs : Int) + (b2 - e2).natAbs + 1; omega) n1
  have k2 := key b2 e2 (by show _ ≤ ((b1 - e1).natAbs : Int) + (b2 - e2).natAbs + 1; omega) n2
  have hxN : x.1 ≤ x.1 * N := by
    have := Int.mul_le_mul_of_nonneg_left hN (Int.le_of_lt hu)
    omega
  have hxM : x.1 * N ≤ x.2 * N := Int.mul_le_mul_of_nonneg_right i2 (by omega)
  have hlN : 0 < x.2 * N := Int.mul_pos hp (by omega)
  have hP : nr2 w o f (x.1 * N - 1, x.2 * N) := by
    refine ⟨⟨by show 0 ≤ x.1 * N - 1; omega, by show x.1 * N - 1 ≤ x.2 * N; omega⟩, ?_, ?_⟩
    · rw [hb1, he1]; exact k1
    · rw [hb2, he2]; exact k2
  have hl := ((S.2.2.2 (x.1 * N - 1, x.2 * N) hlN).mp hP).1
  unfold le at hl
  simp only at hl
  have z : (x.1 * N - 1) * x.2 = x.1 * (x.2 * N) - x.2 := by grind
  omega
/-- half way between -/
def mid (x y : Fr) : Fr := frac (x.1 * y.2 + y.1 * x.2) (2 * x.2 * y.2)
theorem mid_ok {x y : Fr} (hx : 0 < x.2) (hy : 0 < y.2) (h : le x y) : 0 < (mid x y).2 ∧ le x (mid x y) ∧ le (mid x y) y := by
  have hl : 0 < 2 * x.2 * y.2 := Int.mul_pos (by omega) hy
  have A := frac_lo (u := x.1 * y.2 + y.1 * x.2) (l := 2 * x.2 * y.2) (t := x) (by omega)
  have B := frac_lo (u := x.1 * y.2 + y.1 * x.2) (l := 2 * x.2 * y.2) (t := y) (by omega)
  refine ⟨(frac_fm (by omega)).pos, (A.2.1 hl).mp ?_, (B.1 hl).mp ?_⟩
  · unfold le at h
    have := Int.mul_le_mul_of_nonneg_right h (Int.le_of_lt hx)
    have e1 : 2 * x.2 * y.2 * x.1 = x.1 * y.2 * x.2 + x.1 * y.2 * x.2 := by grind
    have e2 : (x.1 * y.2 + y.1 * x.2) * x.2 = x.1 * y.2 * x.2 + y.1 * x.2 * x.2 := by grind
    rw [e1, e2]
    omega
  · unfold le at h
    have := Int.mul_le_mul_of_nonneg_right h (Int.le_of_lt hy)
    have e1 : 2 * x.2 * y.2 * y.1 = y.1 * x.2 * y.2 + y.1 * x.2 * y.2 := by grind
    have e2 : (x.1 * y.2 + y.1 * x.2) * y.2 = x.1 * y.2 * y.2 + y.1 * x.2 * y.2 := by grind
    rw [e1, e2]
    omega
/-- two places as fractions, how far -/
theorem gap_iff {a b l f : Int} (hl : 0 < l) : (((frac a l).1 * (frac b l).2 - (frac b l).1 * (frac a l).2).natAbs : Int) ≤ f * ((frac a l).2 * (frac b l).2) ↔ -f * l ≤ a - b ∧ a - b ≤ f * l := by
  have pa := (frac_fm (u := a) (l := l) (by omega)).pos
  have pb := (frac_fm (u := b) (l := l) (by omega)).pos
  obtain ⟨k, hk, a1, a2⟩ := frac_spec (u := a) (l := l) (by omega)
  obtain ⟨m, hm, b1, b2⟩ := frac_spec (u := b) (l := l) (by omega)
  generalize frac a l = p at *
  generalize frac b l = q at *
  have kp : 0 < k := by
    rcases Int.lt_or_gt_of_ne hk with h1 | h1
    · have := Int.mul_nonpos_of_nonneg_of_nonpos (Int.le_of_lt pa) (Int.le_of_lt h1); omega
    · exact h1
  have mp : 0 < m := by
    rcases Int.lt_or_gt_of_ne hm with h1 | h1
    · have := Int.mul_nonpos_of_nonneg_of_nonpos (Int.le_of_lt pb) (Int.le_of_lt h1); omega
    · exact h1
  have km : 0 < k * m := Int.mul_pos kp mp
  have e1 : (p.1 * q.2 - q.1 * p.2) * (k * m) = (a - b) * l := by
    have z1 : (p.1 * q.2 - q.1 * p.2) * (k * m) = (p.1 * k) * (q.2 * m) - (q.1 * m) * (p.2 * k) := by grind
    rw [z1, ← a1, ← b2, ← b1, ← a2, Int.sub_mul]
  have e2 : (f * (p.2 * q.2)) * (k * m) = (f * l) * l := by
    have z1 : (f * (p.2 * q.2)) * (k * m) = f * ((p.2 * k) * (q.2 * m)) := by grind
    rw [z1, ← a2, ← b2, Int.mul_assoc]
  have e3 : (-(f * (p.2 * q.2))) * (k * m) = (-f * l) * l := by
    rw [Int.neg_mul, e2, Int.neg_mul, Int.neg_mul]
  have c1 := mul_le_pos (a := p.1 * q.2 - q.1 * p.2) (b := f * (p.2 * q.2)) km
  have c2 := mul_le_pos (a := -(f * (p.2 * q.2))) (b := p.1 * q.2 - q.1 * p.2) km
  have c3 := mul_le_pos (a := a - b) (b := f * l) hl
  have c4 := mul_le_pos (a := -f * l) (b := a - b) hl
  rw [e1, e2, c3] at c1
  rw [e1, e3, c4] at c2
  omega
end Ab
set_option Elab.async false
set_option linter.all false
set_option maxRecDepth 100000
set_option maxHeartbeats 4000000
/-! ### the times at which a way comes to the rim -/
namespace Ab
def hitC (b e g : Int) : Bool := decide (e - b ≠ 0) && (decide (0 ≤ (g - b) * (e - b)) && decide ((g - b) * (e - b) ≤ (e - b) * (e - b)))
def hit1 (b e g : Int) : List Fr := if hitC b e g = true then [frac (g - b) (e - b)] else []
def hits (b e f : Int) : List Fr := (([(0, 1), (1, 1)] : List Fr) ++ hit1 b e (-f)) ++ hit1 b e f
theorem frac_in {u l : Int} (h : l ≠ 0) : in01 (frac u l) ↔ 0 ≤ u * l ∧ u * l ≤ l * l := by
  have hp := (frac_fm (u := u) h).pos
  obtain ⟨k, hk, e1, e2⟩ := frac_spec (u := u) h
  generalize frac u l = q at *
  have hkk : 0 < k * k := by
    rcases Int.lt_or_gt_of_ne hk with h1 | h1
    · exact Int.mul_pos_of_neg_of_neg h1 h1
    · exact Int.mul_pos h1 h1
  have h2 : 0 < q.2 * (k * k) := Int.mul_pos hp hkk
  have a1 : u * l = q.1 * (q.2 * (k * k)) := by rw [e1, e2]; grind
  have a2 : l * l = q.2 * (q.2 * (k * k)) := by rw [e2]; grind
  rw [a1, a2, mul_le_pos h2]
  unfold in01
  have := mul_le_pos (a := 0) (b := q.1) h2
  rw [Int.zero_mul] at this
  rw [this]
theorem hitC_iff {b e g : Int} : hitC b e g = true ↔ e - b ≠ 0 ∧ 0 ≤ (g - b) * (e - b) ∧ (g - b) * (e - b) ≤ (e - b) * (e - b) := by
  unfold hitC
  rw [Bool.and_eq_true, Bool.and_eq_true, decide_eq_true_eq, decide_eq_true_eq, decide_eq_true_eq]
theorem hits_ok {b e f : Int} {t : Fr} (h : t ∈ hits b e f) : Fm t ∧ in01 t := by
  have one : ∀ g, t ∈ hit1 b e g → Fm t ∧ in01 t := by
    intro g hg
    unfold hit1 at hg
    split at hg
    · next hc =>
      have hc' := hitC_iff.mp hc
      rw [List.mem_singleton.mp hg]
      exact ⟨frac_fm hc'.1, (frac_in hc'.1).mpr hc'.2⟩
    · exact absurd hg (by simp)
  unfold hits at h
  rcases List.mem_append.mp h with h | h
  · rcases List.mem_append.mp h with h | h
    · simp only [List.mem_cons, List.not_mem_nil, or_false] at h
      rcases h with rfl | rfl
      · exact ⟨fm_01, by decide, by decide⟩
      · exact ⟨fm_11, by decide, by decide⟩
    · exact one _ h
  · exact one _ h
theorem mem_hit {b e f : Int} (hd : e - b ≠ 0) : (in01 (frac (0 - f - b) (e - b)) → frac (0 - f - b) (e - b) ∈ hits b e f) ∧ (in01 (frac (f - b) (e - b)) → frac (f - b) (e - b) ∈ hits b e f) := by
  constructor
  · intro h
    have hc : hitC b e (-f) = true := hitC_iff.mpr ⟨hd, by have := (frac_in hd).mp h; rw [Int.zero_sub] at this; exact this⟩
    unfold hits hit1
    rw [if_pos hc, Int.zero_sub]
    simp
  · intro h
    have hc : hitC b e f = true := hitC_iff.mpr ⟨hd, (frac_in hd).mp h⟩
    unfold hits
    have : frac (f - b) (e - b) ∈ hit1 b e f := by unfold hit1; rw [if_pos hc]; simp
    exact List.mem_append.mpr (.inr this)
theorem mem_01 {b e f : Int} : (0, 1) ∈ hits b e f ∧ (1, 1) ∈ hits b e f := by unfold hits; constructor <;> simp
theorem grt_or (a b : Fr) : grt a b = a ∨ grt a b = b := by unfold grt; split <;> simp
theorem lss_or (a b : Fr) : lss a b = a ∨ lss a b = b := by unfold lss; split <;> simp
theorem within_hits {b e f : Int} (hf : 0 ≤ f) {x y : Fr} (h : withinF b e f = some (x, y)) : x ∈ hits b e f ∧ y ∈ hits b e f := by
  have S := within_spec (b := b) (e := e) hf
  rw [h] at S
  have i1 := S.fst.1
  have i2 := S.snd.1
  unfold withinF at h
  by_cases hbe : b = e
  · rw [if_pos hbe] at h
    split at h
    · cases h; exact mem_01
    · cases h
  · rw [if_neg hbe] at h
    have hd : e - b ≠ 0 := by omega
    have M := mem_hit (f := f) hd
    generalize frac (0 - f - b) (e - b) = u at *
    generalize frac (f - b) (e - b) = v at *
    simp only at h
    have fin : ∀ lo hi : Fr, (in01 lo → lo ∈ hits b e f) → (in01 hi → hi ∈ hits b e f) → some (grt lo (0, 1), lss hi (1, 1)) = some (x, y) → x ∈ hits b e f ∧ y ∈ hits b e f := by
      intro lo hi h1 h2 hh
      cases hh
      constructor
      · rcases grt_or lo (0, 1) with z | z
        · rw [z] at i1 ⊢; exact h1 i1
        · rw [z]; exact mem_01.1
      · rcases lss_or hi (1, 1) with z | z
        · rw [z] at i2 ⊢; exact h2 i2
        · rw [z]; exact mem_01.2
    by_cases c : lsB v u = true
    · simp only [if_pos c] at h
      split at h
      · cases h
      · exact fin v u M.2 M.1 h
    · simp only [if_neg c] at h
      split at h
      · cases h
      · exact fin u v M.1 M.2 h
def hits2 (w o : Wy) (f : Int) : List Fr := hits (w.1.1 - o.1.1) (w.2.1 - o.2.1) f ++ hits (w.1.2 - o.1.2) (w.2.2 - o.2.2) f
theorem when_hits {w o : Wy} {f : Int} (hf : 0 ≤ f) {x y : Fr} (h : whenF w o f = some (x, y)) : x ∈ hits2 w o f ∧ y ∈ hits2 w o f := by
  unfold whenF at h
  cases ea : withinF (w.1.1 - o.1.1) (w.2.1 - o.2.1) f with
  | none => simp [ea] at h
  | some r1 =>
    cases eb : withinF (w.1.2 - o.1.2) (w.2.2 - o.2.2) f with
    | none => simp [ea, eb] at h
    | some r2 =>
      obtain ⟨a, b⟩ := r1
      obtain ⟨c, d⟩ := r2
      have A := within_hits hf ea
      have B := within_hits hf eb
      simp only [ea, eb] at h
      split at h
      · cases h
      · cases h
        unfold hits2
        constructor
        · rcases grt_or (grt (0, 1) a) c with z | z
          · rw [z]
            rcases grt_or (0, 1) a with z | z
            · rw [z]; exact List.mem_append.mpr (.inl mem_01.1)
            · rw [z]; exact List.mem_append.mpr (.inl A.1)
          · rw [z]; exact List.mem_append.mpr (.inr B.1)
        · rcases lss_or (lss (1, 1) b) d with z | z
          · rw [z]
            rcases lss_or (1, 1) b with z | z
            · rw [z]; exact List.mem_append.mpr (.inl mem_01.2)
            · rw [z]; exact List.mem_append.mpr (.inl A.2)
          · rw [z]; exact List.mem_append.mpr (.inr B.2)
/-- least and greatest of a list -/
def mnS (a t : Fr) : Fr := if lsB t a = true then t else a
def mxS (a t : Fr) : Fr := if lsB a t = true then t else a
theorem mn_fold : ∀ (l : List Fr) (a : Fr), Fm a → (∀ t ∈ l, Fm t) → (l.foldl mnS a = a ∨ l.foldl mnS a ∈ l) ∧ Fm (l.foldl mnS a) ∧ le (l.foldl mnS a) a ∧ ∀ t ∈ l, le (l.foldl mnS a) t
  | [], a, ha, _ => ⟨.inl rfl, ha, le_refl a, by simp⟩
  | b :: l, a, ha, hl => by
    have hb := hl b (by simp)
    have hm : Fm (mnS a b) := by unfold mnS; split <;> assumption
    have h1 : le (mnS a b) a ∧ le (mnS a b) b := by
      unfold mnS
      split
      · next c => exact ⟨le_of_not (lsB_iff.mp c), le_refl b⟩
      · next c => exact ⟨le_refl a, lsB_no.mp (Bool.eq_false_iff.mpr c)⟩
    have ih := mn_fold l (mnS a b) hm fun t ht => hl t (by simp [ht])
    rw [List.foldl_cons]
    refine ⟨?_, ih.2.1, le_trans ih.2.1.pos hm.pos ha.pos ih.2.2.1 h1.1, fun t ht => ?_⟩
    · rcases ih.1 with z | z
      · rw [z]
        unfold mnS
        split
        · right; simp
        · left; rfl
      · right; simp [z]
    · rcases List.mem_cons.mp ht with rfl | ht
      · exact le_trans ih.2.1.pos hm.pos hb.pos ih.2.2.1 h1.2
      · exact ih.2.2.2 t ht
theorem mx_fold : ∀ (l : List Fr) (a : Fr), Fm a → (∀ t ∈ l, Fm t) → (l.foldl mxS a = a ∨ l.foldl mxS a ∈ l) ∧ Fm (l.foldl mxS a) ∧ le a (l.foldl mxS a) ∧ ∀ t ∈ l, le t (l.foldl mxS a)
  | [], a, ha, _ => ⟨.inl rfl, ha, le_refl a, by simp⟩
  | b :: l, a, ha, hl => by
    have hb := hl b (by simp)
    have hm : Fm (mxS a b) := by unfold mxS; split <;> assumption
    have h1 : le a (mxS a b) ∧ le b (mxS a b) := by
      unfold mxS
      split
      · next c => exact ⟨le_of_not (lsB_iff.mp c), le_refl b⟩
      · next c => exact ⟨le_refl a, lsB_no.mp (Bool.eq_false_iff.mpr c)⟩
    have ih := mx_fold l (mxS a b) hm fun t ht => hl t (by simp [ht])
    rw [List.foldl_cons]
    refine ⟨?_, ih.2.1, le_trans ha.pos hm.pos ih.2.1.pos h1.1 ih.2.2.1, fun t ht => ?_⟩
    · rcases ih.1 with z | z
      · rw [z]
        unfold mxS
        split
        · right; simp
        · left; rfl
      · right; simp [z]
    · rcases List.mem_cons.mp ht with rfl | ht
      · exact le_trans hb.pos hm.pos ih.2.1.pos h1.2 ih.2.2.1
      · exact ih.2.2.2 t ht
/-- what the law tells of a list of times -/
def fromL : List Fr → Option (Fr × Fr)
  | [] => none
  | a :: l => some ((a :: l).foldl mnS a, (a :: l).foldl mxS a)
theorem fromL_eq {P : Fr → Prop} {r : Option (Fr × Fr)} {l : List Fr} (h : IsW P r) (hl : ∀ t ∈ l, Fm t ∧ P t) (hm : ∀ x y, r = some (x, y) → x ∈ l ∧ y ∈ l) : fromL l = r := by
  match r, h with
  | none, h =>
    cases l with
    | nil => rfl
    | cons a l => exact (h a (hl a (by simp)).1.pos (hl a (by simp)).2).elim
  | some (x, y), h =>
    obtain ⟨mx, my⟩ := hm x y rfl
    cases l with
    | nil => exact absurd mx (by simp)
    | cons a l =>
      have ha := hl a (by simp)
      have A := mn_fold (a :: l) a ha.1 fun t ht => (hl t ht).1
      have B := mx_fold (a :: l) a ha.1 fun t ht => (hl t ht).1
      have memA : (a :: l).foldl mnS a ∈ a :: l := by
        rcases A.1 with z | z
        · rw [z]; simp
        · exact z
      have memB : (a :: l).foldl mxS a ∈ a :: l := by
        rcases B.1 with z | z
        · rw [z]; simp
        · exact z
      have pA := (h.2.2.2 _ A.2.1.pos).mp (hl _ memA).2
      have pB := (h.2.2.2 _ B.2.1.pos).mp (hl _ memB).2
      show some ((a :: l).foldl mnS a, (a :: l).foldl mxS a) = some (x, y)
      rw [le_anti A.2.1 h.1 (A.2.2.2 x mx) pA.1, le_anti B.2.1 h.2.1 pB.2 (B.2.2.2 y my)]
end Ab
set_option Elab.async false
set_option linter.all false
set_option maxRecDepth 100000
set_option maxHeartbeats 4000000
/-! ### between two times, a little ahead, a little behind -/
namespace Ab
def btw (x y : Fr) (u : Int) : Fr := frac (x.1 * y.2 * (8 - u) + y.1 * x.2 * u) (x.2 * y.2 * 8)
theorem btw_ok {x y : Fr} {u : Int} (hx : 0 < x.2) (hy : 0 < y.2) (h : le x y) (hu : 0 ≤ u ∧ u ≤ 8) : 0 < (btw x y u).2 ∧ le x (btw x y u) ∧ le (btw x y u) y := by
  have hl : 0 < x.2 * y.2 * 8 := Int.mul_pos (Int.mul_pos hx hy) (by decide)
  have A := frac_lo (u := x.1 * y.2 * (8 - u) + y.1 * x.2 * u) (l := x.2 * y.2 * 8) (t := x) (by omega)
  have B := frac_lo (u := x.1 * y.2 * (8 - u) + y.1 * x.2 * u) (l := x.2 * y.2 * 8) (t := y) (by omega)
  unfold le at h
  refine ⟨(frac_fm (by omega)).pos, (A.2.1 hl).mp ?_, (B.1 hl).mp ?_⟩
  · have p : 0 ≤ u * x.2 * (y.1 * x.2 - x.1 * y.2) := Int.mul_nonneg (Int.mul_nonneg hu.1 (Int.le_of_lt hx)) (by omega)
    have e : (x.1 * y.2 * (8 - u) + y.1 * x.2 * u) * x.2 = x.2 * y.2 * 8 * x.1 + u * x.2 * (y.1 * x.2 - x.1 * y.2) := by grind
    omega
  · have p : 0 ≤ (8 - u) * y.2 * (y.1 * x.2 - x.1 * y.2) := Int.mul_nonneg (Int.mul_nonneg (by omega) (Int.le_of_lt hy)) (by omega)
    have e : x.2 * y.2 * 8 * y.1 = (x.1 * y.2 * (8 - u) + y.1 * x.2 * u) * y.2 + (8 - u) * y.2 * (y.1 * x.2 - x.1 * y.2) := by grind
    omega
def ahd (x : Fr) : Fr := frac (x.1 * 1000 - x.2) (x.2 * 1000)
def bhd (x : Fr) : Fr := frac (x.1 * 1000 + x.2) (x.2 * 1000)
theorem ahd_ok {x : Fr} (hx : 0 < x.2) : 0 < (ahd x).2 ∧ ¬ le x (ahd x) ∧ le (ahd x) x := by
  have hl : 0 < x.2 * 1000 := by omega
  have A := frac_lo (u := x.1 * 1000 - x.2) (l := x.2 * 1000) (t := x) (by omega)
  have n : ¬ le x (ahd x) := fun z => by
    have h := (A.2.1 hl).mpr z
    have p := Int.mul_pos hx hx
    have e : (x.1 * 1000 - x.2) * x.2 = x.2 * 1000 * x.1 - x.2 * x.2 := by grind
    omega
  exact ⟨(frac_fm (by omega)).pos, n, le_of_not n⟩
theorem bhd_ok {x : Fr} (hx : 0 < x.2) : 0 < (bhd x).2 ∧ ¬ le (bhd x) x ∧ le x (bhd x) := by
  have hl : 0 < x.2 * 1000 := by omega
  have A := frac_lo (u := x.1 * 1000 + x.2) (l := x.2 * 1000) (t := x) (by omega)
  have n : ¬ le (bhd x) x := fun z => by
    have h := (A.1 hl).mpr z
    have p := Int.mul_pos hx hx
    have e : (x.1 * 1000 + x.2) * x.2 = x.2 * 1000 * x.1 + x.2 * x.2 := by grind
    omega
  exact ⟨(frac_fm (by omega)).pos, n, le_of_not n⟩
end Ab
set_option Elab.async false
set_option linter.all false
set_option maxRecDepth 100000
set_option maxHeartbeats 4000000
/-! ### == and in, of data with lists in it -/
namespace Ab
open PySem PySem.Spec PyProof.Rows L2 RZ
mutual
inductive DS (S : Sto) : D → PyData → Prop
  | ok {d : D} {n : Nat} : okD n d = true → DS S d (pd d)
  | lst {a : Addr} {xs : List D} {ps : List PyData} : S a = some (.lst xs) → DSL S xs ps → DS S (.ref a) (.list ps)
  | tup {xs : List D} {ps : List PyData} : DSL S xs ps → DS S (.tup xs) (.tuple ps)
inductive DSL (S : Sto) : List D → List PyData → Prop
  | nil : DSL S [] []
  | cons {d : D} {p : PyData} {ds : List D} {ps : List PyData} : DS S d p → DSL S ds ps → DSL S (d :: ds) (p :: ps)
end
theorem DSL.of {S : Sto} {n : Nat} : ∀ {ds : List D}, ds.all (okD n) = true → DSL S ds (pdL ds)
  | [], _ => .nil
  | d :: ds, h => by
    rw [List.all_cons, Bool.and_eq_true] at h
    exact .cons (.ok h.1) (.of h.2)
theorem DS.lsts {S : Sto} {n : Nat} {a : Addr} {ds : List D} (e : S a = some (.lst ds)) (h : ds.all (okD n) = true) : DS S (.ref a) (.list (pdL ds)) := .lst e (.of h)
mutual
theorem DS.dp {K : PySem.W.Frag} {H : Hp} {S : Sto} (r : Rep K H S) : ∀ {d : D} {p : PyData} {v : V}, DS S d p → RepV K H d v → Dp K H v p
  | _, _, _, .ok h, q => dp_of h q
  | _, _, _, .lst e h, q => by
    unfold RepV at q
    subst q
    obtain ⟨vs, g1, g2⟩ := r _ _ e
    exact .lst (.inl (.inl g1)) (DSL.dp r h g2)
  | _, _, _, .tup h, q => by
    unfold RepV at q
    obtain ⟨t, vs, rfl, tp, rl⟩ := q
    exact .tup tp.sq (DSL.dp r h rl)
theorem DSL.dp {K : PySem.W.Frag} {H : Hp} {S : Sto} (r : Rep K H S) : ∀ {ds : List D} {ps : List PyData} {vs : List V}, DSL S ds ps → RepL K H ds vs → DpAll K H vs ps
  | _, _, _, .nil, q => by rw [q.nil_inv]; exact .nil
  | _, _, _, .cons h hs, q => by
    obtain ⟨v, q', rfl, p, t⟩ := q.inv
    exact .cons (DS.dp r h p) (DSL.dp r hs t)
end
def aEqS (neg : Bool) : WR2 := fun x y S Q => ∃ d e, DS S x d ∧ DS S y e ∧ SeqAt.shaped d = true ∧ SeqAt.shaped e = true ∧ Q (.bl (if neg then !PyData.eqv d e else PyData.eqv d e)) S
def aInS (neg : Bool) : WR2 := fun x y S Q => ∃ d e ds, DS S x d ∧ DS S y e ∧ (e = .list ds ∨ e = .tuple ds) ∧ SeqAt.shaped d = true ∧ SeqAt.shaped e = true ∧ Q (.bl (if neg then !ds.any (fun z => PyData.eqv z d) else ds.any fun z => PyData.eqv z d)) S
theorem sim_eqS {K : PySem.W.Frag} : Sim2 K (rEqD K) (aEqS false) := fun x y dx dy H S QA Q p q r ⟨d, e, h1, h2, h3, h4, h5⟩ k =>
  ⟨d, e, h1.dp r p, h2.dp r q, h3, h4, k _ S _ H h5 (Le.refl H) r (rep_bl _)⟩
theorem sim_neS {K : PySem.W.Frag} : Sim2 K (rNeD K) (aEqS true) := fun x y dx dy H S QA Q p q r ⟨d, e, h1, h2, h3, h4, h5⟩ k =>
  ⟨d, e, h1.dp r p, h2.dp r q, h3, h4, k _ S _ H h5 (Le.refl H) r (rep_bl _)⟩
theorem sim_inS {K : PySem.W.Frag} {neg : Bool} : Sim2 K (rInA K neg) (aInS neg) := fun x y dx dy H S QA Q p q r ⟨d, e, ds, h1, h2, h3, h4, h5, h6⟩ k =>
  ⟨d, e, ds, h1.dp r p, h2.dp r q, h3, h4, h5, k _ S _ H h6 (Le.refl H) r (rep_bl _)⟩
section
variable {X : Cx} {W : WX} {a b : Expr} {wa wb : WE} {pos : Pos}
theorem re_eqS (hu : X.A.units + 100 < cLine) (ha : RE X W a wa) (hb : RE X W b wb) : RE X W (.Compare a [.Eq] [b] pos) (wOp (aEqS false) wa wb) := re_cmp (op_eqD (by omega)) sim_eqS ha hb (nomark _)
theorem rt_eqS (hu : X.A.units + 100 < cLine) (ha : RE X W a wa) (hb : RE X W b wb) : RT X W (.Compare a [.Eq] [b] pos) (wB (wOp (aEqS false) wa wb)) := rt_cmp (op_eqD (by omega)) sim_eqS ha hb (nomark _)
theorem re_neS (hu : X.A.units + 100 < cLine) (ha : RE X W a wa) (hb : RE X W b wb) : RE X W (.Compare a [.NotEq] [b] pos) (wOp (aEqS true) wa wb) := re_cmp (op_neD (by omega)) sim_neS ha hb (nomark _)
theorem rt_neS (hu : X.A.units + 100 < cLine) (ha : RE X W a wa) (hb : RE X W b wb) : RT X W (.Compare a [.NotEq] [b] pos) (wB (wOp (aEqS true) wa wb)) := rt_cmp (op_neD (by omega)) sim_neS ha hb (nomark _)
theorem re_inS (hu : X.A.units + 100 < cLine) (ha : RE X W a wa) (hb : RE X W b wb) (hm : behindInMarks .In b = false := by rfl) : RE X W (.Compare a [.In] [b] pos) (wOp (aInS false) wa wb) := re_cmp (op_inA hu) sim_inS ha hb hm
theorem rt_inS (hu : X.A.units + 100 < cLine) (ha : RE X W a wa) (hb : RE X W b wb) (hm : behindInMarks .In b = false := by rfl) : RT X W (.Compare a [.In] [b] pos) (wB (wOp (aInS false) wa wb)) := rt_cmp (op_inA hu) sim_inS ha hb hm
theorem re_notinS (hu : X.A.units + 100 < cLine) (ha : RE X W a wa) (hb : RE X W b wb) (hm : behindInMarks .NotIn b = false := by rfl) : RE X W (.Compare a [.NotIn] [b] pos) (wOp (aInS true) wa wb) := re_cmp (op_notInA hu) sim_inS ha hb hm
theorem rt_notinS (hu : X.A.units + 100 < cLine) (ha : RE X W a wa) (hb : RE X W b wb) (hm : behindInMarks .NotIn b = false := by rfl) : RT X W (.Compare a [.NotIn] [b] pos) (wB (wOp (aInS true) wa wb)) := rt_cmp (op_notInA hu) sim_inS ha hb hm
end
end Ab
set_option Elab.async false
set_option linter.all false
set_option maxRecDepth 100000
set_option maxHeartbeats 4000000
/-! ### zip of a tuple and a list -/
namespace Ab
open PySem PySem.Spec PyProof.Rows L2 RZ
def ItM (K : PySem.W.Frag) (a b : Addr) (n m : Nat) : It :=
  ⟨fun j G => ∃ (vs us : List V) (p q : V), SqT K G a vs ∧ SqL K G b us ∧ vs.length = n ∧ us.length = m ∧ vs[j]? = some p ∧ us[j]? = some q,
   fun j G v G' => ∃ c p q, v = .ref c ∧ G c = none ∧ G' = upd G c (.tup [p, q]) ∧ (∀ vs, SqT K G a vs → vs[j]? = some p) ∧ ∀ us, SqL K G b us → us[j]? = some q,
   fun j G => ∃ vs us : List V, SqT K G a vs ∧ SqL K G b us ∧ vs.length = n ∧ us.length = m ∧ (n ≤ j ∨ m ≤ j)⟩
theorem turn_M {P : Program} {w : World} {K : PySem.W.Frag} {elts : List Expr} {kk : Nat} {tp : Pos} {a b z ti to c d : Addr} {n m : Nat} (Z : ZipSep2 z ti to c d [c, a] [d, b]) (ha : a ≠ c) (hb : b ≠ d) :
    Turn P w K (.Tuple elts kk tp) (ItM K a b n m) [z, ti, to, c, d] z (fun j h => (j ≤ n ∧ j ≤ m) ∧ IsZip h z ti to .none ∧ IsTupOf2 h ti (.ref c) (.ref d) ∧ (∃ p q, IsTupOf2 h to p q) ∧ h.IsTupleIter c a j ∧ h.IsListIter d b j) where
  mem := by simp
  obj := fun j h ⟨_, g1, g2, ⟨p, q, g3⟩, ⟨u, e1, _, f1⟩, ⟨v, e2, _, f2⟩⟩ y hy => by
    simp only [List.mem_cons, List.not_mem_nil, or_false] at hy
    rcases hy with r | r | r | r | r <;> subst r
    · exact ⟨_, g1, fun v q => nomatch q⟩
    · exact ⟨_, g2, fun v q => nomatch q⟩
    · exact ⟨_, g3, fun v q => nomatch q⟩
    · exact ⟨u, e1, fun v q => by rw [f1] at q; cases q⟩
    · exact ⟨v, e2, fun v q => by rw [f2] at q; cases q⟩
  keep := fun j h h' ⟨le, g1, g2, ⟨p, q, g3⟩, g4, g5⟩ k =>
    ⟨le, k z (by simp) _ g1, k ti (by simp) _ g2, ⟨p, q, k to (by simp) _ g3⟩, g4.at fun o e => k c (by simp) o e, g5.at fun o e => k d (by simp) o e⟩
  item := by
    intro X hP hw hK hc j pins s σ G E I hf ⟨le, g1, g2, ⟨p0, q0, g3⟩, g4, g5⟩ ⟨vs, us, p, q, sa, sb, ln, lm, hp, hq⟩
    subst hP hw hK
    obtain ⟨its, r1, t1, _⟩ := I.tuple sa
    obtain ⟨its2, r2, t2, _⟩ := I.list sb
    obtain ⟨x, ex, rx⟩ := r1.get hp
    obtain ⟨y, ey, ry⟩ := r2.get hq
    have D1 : Draws X.prog X.w X.A.in1 c [c, a] _ _ _ := Draws.tuple (A := X.A.in1) (show X.A.in1.handled = none from I.ok.hd hc) c a ha its.toArray
    have D2 : Draws X.prog X.w X.A.in1 d [d, b] _ _ _ := Draws.list (A := X.A.in1) (show X.A.in1.handled = none from I.ok.hd hc) d b hb its2.toArray
    have j1 : j < its.toArray.size := by have := (List.getElem?_eq_some_iff.mp ex).1; simpa using this
    have j2 : j < its2.toArray.size := by have := (List.getElem?_eq_some_iff.mp ey).1; simpa using this
    have zl : z < s.heap.objs.size := Heap.lt_size g1
    refine wpAny_pyNext_zipD2_item Z D1 D2 g1 g2 g3 ⟨g4, t1⟩ ⟨g5, t2.isList⟩ j1 j2 fun x' y' h' tk px py z' to' st1 st2 hT hsz hk => ?_
    have ex' : x' = x := by
      have : its[j]? = some x' := by simpa using px
      rw [ex] at this
      exact (Option.some.inj this).symm
    have ey' : y' = y := by
      have : its2[j]? = some y' := by simpa using py
      rw [ey] at this
      exact (Option.some.inj this).symm
    subst ex' ey'
    refine ⟨_, rfl, wpAny_letOwnedTupleGo_zip (s := { s with heap := h', toks := tk }) z' fun h2 z2 sb2 => ?_⟩
    have hT2 : h2.get? s.heap.objs.size = some { cls := .type "tuple", data := .seq #[x', y'] } := (sb2.2 _ (Nat.ne_of_gt zl)).trans hT
    have fresh : ObjOk X.prog X.w (upd G s.heap.objs.size (.tup [p, q])) h2 s.heap.objs.size (.tup [p, q]) :=
      ⟨by show 2 ≤ sizeLine; decide, [x', y'], .cons rx (.cons ry .nil), ⟨_, hT2, rfl, _, rfl⟩⟩
    have I1 : Inv X pins σ (upd G s.heap.objs.size (.tup [p, q])) { s with heap := h2, toks := tk } :=
      I.turnedNew (t' := tk) (ch := [z, ti, to, c, d]) (fun y o hy e => by
        simp only [List.mem_cons, List.not_mem_nil, or_false, not_or] at hy
        exact (sb2.2 y hy.1).trans (hk y o hy.1 hy.2.2.1 hy.2.2.2.1 hy.2.2.2.2 e)) hf (Nat.le_refl _) fresh
    refine ⟨.ref s.heap.objs.size, _, I1, rfl, ⟨_, p, q, rfl, I.hok.fresh (Nat.le_refl _), rfl, fun l hl => by rw [I.tuple_inj hl sa]; exact hp, fun l hl => by rw [I.list_inj hl sb]; exact hq⟩, ⟨?_, z2, ?_, ⟨x', y', ?_⟩, ?_, ?_⟩, fun y hy => ?_⟩
    · have l1 := (List.getElem?_eq_some_iff.mp hp).1
      have l2 := (List.getElem?_eq_some_iff.mp hq).1
      omega
    · exact (sb2.2 _ Z.TIz).trans (hk _ _ Z.TIz Z.TITO Z.TIi1 Z.TIi2 g2)
    · exact (sb2.2 _ Z.TOz).trans to'
    · exact st1.1.at fun o e => (sb2.2 _ Z.zi1.symm).trans e
    · exact st2.1.at fun o e => (sb2.2 _ Z.zi2.symm).trans e
    · have lt : y < s.heap.objs.size := by
        simp only [List.mem_cons, List.not_mem_nil, or_false] at hy
        rcases hy with r | r | r | r | r <;> subst r
        · exact zl
        · exact Heap.lt_size g2
        · exact Heap.lt_size g3
        · obtain ⟨_, e1, _⟩ := g4; exact Heap.lt_size e1
        · obtain ⟨_, e2, _⟩ := g5; exact Heap.lt_size e2
      rw [upd_ne (Nat.ne_of_lt lt)]
      exact (hf y hy).1
  done := by
    intro X hP hw hK hc j pins s σ G E I hf ⟨le, g1, g2, ⟨p0, q0, g3⟩, g4, g5⟩ ⟨vs, us, sa, sb, ln, lm, hend⟩
    subst hP hw hK
    obtain ⟨its, r1, t1, _⟩ := I.tuple sa
    obtain ⟨its2, r2, t2, _⟩ := I.list sb
    have D1 : Draws X.prog X.w X.A.in1 c [c, a] _ _ _ := Draws.tuple (A := X.A.in1) (show X.A.in1.handled = none from I.ok.hd hc) c a ha its.toArray
    have D2 : Draws X.prog X.w X.A.in1 d [d, b] _ _ _ := Draws.list (A := X.A.in1) (show X.A.in1.handled = none from I.ok.hd hc) d b hb its2.toArray
    have l1 := r1.length
    have l2 := r2.length
    refine wpAny_pyNext_zipD2_end Z D1 D2 g1 g2 g3 ⟨g4, t1⟩ ⟨g5, t2.isList⟩ (by simp; omega) (by simp; omega) (by simp; omega) fun h' tk hk => ⟨rfl, I.turnedL (t' := tk) (ch := [z, ti, to, c, d]) (fun y o hy e => ?_) hf⟩
    simp only [List.mem_cons, List.not_mem_nil, or_false, not_or] at hy
    exact hk y o hy.1 hy.2.2.1 hy.2.2.2.1 hy.2.2.2.2 e
  self := fun A j s Q E st h => wpAny_pyIter_zip st.2.1 h
def iZipM (K : PySem.W.Frag) (ta : TA) : TI := fun σ H R => ta σ H fun vs G => ∃ a b xs ys, vs = [.ref a, .ref b] ∧ SqT K G a xs ∧ SqL K G b ys ∧ R (ItM K a b xs.length ys.length) G
theorem pi_zipM {X : Cx} {e e2 : Expr} {ta : TA} {p pos tp : Pos} {elts : List Expr} {kk : Nat} (hg : Gl X "zip") (hm : X.mg "zip" = none) (ha : PA X [e, e2] ta)
    (hs : starEach [e, e2] X.env = (false, eval e X.env) :: starEach [e2] X.env := by rfl) (hpl : (backTo pos (starEach [e2] X.env)).any (·.1) = false := by rfl) :
    PI X (.Tuple elts kk tp) (.Call (.Name "zip" p) [e, e2] [] pos) (iZipM X.K ta) := by
  refine ⟨fun pins s σ H R I h => Call_ (ld_blt I hg hm PyProof.Rows.boot_zip (PyProof.Rows.callWith_type1 (thn (ha.run pos pins s σ H _ I h) fun us t ⟨vs, G, I1, r1, a, b, xs, ys, ev, sa, sb, q⟩ => ?_) hs hpl))⟩
  subst ev
  cases r1 with
  | cons r rr =>
    cases rr with
    | cons r' rr =>
      cases rr
      cases r
      cases r'
      obtain ⟨its, v1, t1, _⟩ := I1.tuple sa
      obtain ⟨its2, v2, t2, _⟩ := I1.list sb
      have la : a < t.heap.objs.size := by obtain ⟨o, ho, _⟩ := id t1; exact Heap.lt_size ho
      have lb : b < t.heap.objs.size := t2.lt
      refine zip_begins2 (begins_tuple a its.toArray) (begins_list b its2.toArray) t1 t2.isList fun h' g1 g2 g3 g4 g5 hsz hk => wpAny_pyIter_zip g1 ?_
      have I2 : Inv X pins σ G { t with heap := h' } := I1.kept (t' := t.toks) hk
      have Z : ZipSep2 (t.heap.objs.size + 4) (t.heap.objs.size + 2) (t.heap.objs.size + 3) t.heap.objs.size (t.heap.objs.size + 1) [t.heap.objs.size, a] [t.heap.objs.size + 1, b] := by
        have Y := zip_sep2 (N := t.heap.objs.size) (fp1 := [a]) (fp2 := [b]) (by simpa using la) (by simpa using lb)
        exact Y
      refine ⟨t.heap.objs.size + 4, [t.heap.objs.size + 4, t.heap.objs.size + 2, t.heap.objs.size + 3, t.heap.objs.size, t.heap.objs.size + 1], _, _, G, rfl, I2, turn_M Z (Nat.ne_of_lt la) (Nat.ne_of_lt (Nat.lt_succ_of_lt lb)), ⟨⟨Nat.zero_le _, Nat.zero_le _⟩, g1, g2, ⟨_, _, g3⟩, ⟨_, g4, rfl, rfl⟩, ⟨_, g5, rfl, rfl⟩⟩, fun y hy => ?_, q⟩
      have ly : t.heap.objs.size ≤ y := by
        simp only [List.mem_cons, List.not_mem_nil, or_false] at hy
        rcases hy with r | r | r | r | r <;> rw [r]
        · exact Nat.le_add_right _ _
        · exact Nat.le_add_right _ _
        · exact Nat.le_add_right _ _
        · exact Nat.le_refl _
        · exact Nat.le_add_right _ _
      exact I1.fpOk ly (I1.hok.fresh ly)
def wZipM (w : WA) : WI := fun ρ S Q E => w ρ S (fun ds S1 => (match ds with
  | [.tup xs, .ref b] => (match S1 b with
    | some (.lst ys) => Q ⟨zipD xs ys, fun S => S b = some (.lst ys)⟩ S1
    | _ => False)
  | _ => False)) E
theorem isim_zipM {K : PySem.W.Frag} {H : Hp} {a b : Addr} {xs ys : List D} {vs : List V} (t : TupP K H a vs) (q : RepL K H xs vs) : ISim K H (ItM K a b xs.length ys.length) ⟨zipD xs ys, fun S => S b = some (.lst ys)⟩ := fun i H' S' l' r' st => by
  obtain ⟨us, h2, q'⟩ := r' b _ st
  have sq : SqT K H' a vs := (t.le l').sq
  have sq' : SqL K H' b us := .inl (.inl h2)
  have e1 : vs.length = xs.length := q.length
  have e2 : us.length = ys.length := q'.length
  refine ⟨fun d e => ?_, fun hl => ⟨vs, us, sq, sq', e1, e2, zipD_len hl⟩⟩
  obtain ⟨x, y, ex, ey, rfl⟩ := zipD_get e
  obtain ⟨v, ev, p⟩ := (q.le l').get ex
  obtain ⟨u, eu, p'⟩ := q'.get ey
  refine ⟨⟨vs, us, v, u, sq, sq', e1, e2, ev, eu⟩, fun z G ⟨c, x1, y1, k1, k2, k3, k4, k5⟩ => ?_⟩
  subst k1 k3
  obtain rfl : x1 = v := Option.some.inj ((k4 vs sq).symm.trans ev)
  obtain rfl : y1 = u := Option.some.inj ((k5 us sq').symm.trans eu)
  refine ⟨Le.new k2, r'.new k2, ?_⟩
  unfold RepV
  exact ⟨c, _, rfl, .inl upd_same, repL_cons (p.le (Le.new k2)) (repL_cons (p'.le (Le.new k2)) repL_nil)⟩
section
variable {X : Cx} {W : WX}
theorem ri_zipM {e e2 : Expr} {wa : WA} {p pos tpos : Pos} {elts : List Expr} {kk : Nat} (hg : Gl X "zip") (hm : X.mg "zip" = none) (ha : RA X W [e, e2] wa)
    (hs : starEach [e, e2] X.env = (false, eval e X.env) :: starEach [e2] X.env := by rfl) (hpl : (backTo pos (starEach [e2] X.env)).any (·.1) = false := by rfl) :
    RI X W (.Tuple elts kk tpos) (.Call (.Name "zip" p) [e, e2] [] pos) (wZipM wa) :=
  pi_imp (pi_zipM hg hm ha hs hpl) fun σ H R ⟨ρ, S, QA, EA, rs, rp, h, k, x⟩ => ⟨ρ, S, _, EA, rs, rp, h, fun ds S1 vs H1 h1 l1 r1 p1 => by
    match ds, h1, p1 with
    | [.tup xs, .ref b], h1, p1 =>
      obtain ⟨v, u, rfl, p, q⟩ := repL2 p1
      unfold RepV at p q
      subst q
      obtain ⟨a, vs, rfl, t, q1⟩ := p
      cases e2 : S1 b with
      | none => simp [e2] at h1
      | some o =>
        cases o with
        | lst ys =>
          simp only [e2] at h1
          obtain ⟨us, g1, g2⟩ := r1 b _ e2
          refine ⟨a, b, vs, us, rfl, t.sq, .inl (.inl g1), ?_⟩
          have f1 : vs.length = xs.length := q1.length
          have f2 : us.length = ys.length := g2.length
          rw [f1, f2]
          exact k _ S1 _ H1 h1 l1 r1 (isim_zipM t q1)
        | _ => simp [e2] at h1, x⟩
end
end Ab
set_option Elab.async false
set_option linter.all false
set_option maxRecDepth 100000
set_option maxHeartbeats 4000000
/-! ### halves of turns -/
namespace Ab
theorem frac_is {x : Fr} (h : Fm x) {u l : Int} (hl : 0 < l) (h1 : le x (u, l)) (h2 : le (u, l) x) : x = frac u l := by
  have A := frac_lo (u := u) (l := l) (t := x) (by omega)
  unfold le at h1 h2
  simp only at h1 h2
  have c1 : x.1 * l = l * x.1 := Int.mul_comm _ _
  exact le_anti h (frac_fm (by omega)) ((A.2.1 hl).mp (by omega)) ((A.1 hl).mp (by omega))
/-- the middle m of b and e -/
theorem nr_d1 {b m e f : Int} {t : Fr} (h : b + e = 2 * m) : nr b m f (2 * t.1, t.2) ↔ nr b e f t := by
  unfold nr
  simp only
  have q : b * (t.2 - 2 * t.1) + m * (2 * t.1) = b * (t.2 - t.1) + e * t.1 := by
    have : m * (2 * t.1) = (b + e) * t.1 := by rw [h]; grind
    rw [this]; grind
  rw [q]
theorem nr_d2 {b m e f : Int} {t : Fr} (h : b + e = 2 * m) : nr m e f (2 * t.1 - t.2, t.2) ↔ nr b e f t := by
  unfold nr
  simp only
  have q : m * (t.2 - (2 * t.1 - t.2)) + e * (2 * t.1 - t.2) = b * (t.2 - t.1) + e * t.1 := by
    have : m * (t.2 - (2 * t.1 - t.2)) = (b + e) * (t.2 - t.1) := by rw [h]; grind
    rw [this]; grind
  rw [q]
theorem nr_h1 {b m e f : Int} {t : Fr} (h : b + e = 2 * m) : nr b e f (t.1, 2 * t.2) ↔ nr b m f t := by
  unfold nr
  simp only
  have q : b * (2 * t.2 - t.1) + e * t.1 = 2 * (b * (t.2 - t.1) + m * t.1) := by
    have : e = 2 * m - b := by omega
    rw [this]; grind
  have q2 : -f * (2 * t.2) = 2 * (-f * t.2) := by grind
  have q3 : f * (2 * t.2) = 2 * (f * t.2) := by grind
  rw [q, q2, q3]
  omega
theorem nr_h2 {b m e f : Int} {t : Fr} (h : b + e = 2 * m) : nr b e f (t.2 + t.1, 2 * t.2) ↔ nr m e f t := by
  unfold nr
  simp only
  have q : b * (2 * t.2 - (t.2 + t.1)) + e * (t.2 + t.1) = 2 * (m * (t.2 - t.1) + e * t.1) := by
    have : b = 2 * m - e := by omega
    rw [this]; grind
  have q2 : -f * (2 * t.2) = 2 * (-f * t.2) := by grind
  have q3 : f * (2 * t.2) = 2 * (f * t.2) := by grind
  rw [q, q2, q3]
  omega
/-- a way in three: whole, first half, second half -/
structure Hv where
  b : Int × Int
  m : Int × Int
  e : Int × Int
def Hv.w (h : Hv) : Wy := (h.b, h.e)
def Hv.w1 (h : Hv) : Wy := (h.b, h.m)
def Hv.w2 (h : Hv) : Wy := (h.m, h.e)
structure Hv.ok (h : Hv) : Prop where
  x : h.b.1 + h.e.1 = 2 * h.m.1
  y : h.b.2 + h.e.2 = 2 * h.m.2
section
variable {h g : Hv} {f : Int}
theorem Hv.d1 (oh : h.ok) (og : g.ok) {t : Fr} (ht : in01 (2 * t.1, t.2)) (n : nr2 h.w g.w f t) : nr2 h.w1 g.w1 f (2 * t.1, t.2) :=
  ⟨ht, (nr_d1 (e := h.e.1 - g.e.1) (by have := oh.x; have := og.x; simp only [Hv.w1]; omega)).mpr n.2.1, (nr_d1 (e := h.e.2 - g.e.2) (by have := oh.y; have := og.y; simp only [Hv.w1]; omega)).mpr n.2.2⟩
theorem Hv.d2 (oh : h.ok) (og : g.ok) {t : Fr} (ht : in01 (2 * t.1 - t.2, t.2)) (n : nr2 h.w g.w f t) : nr2 h.w2 g.w2 f (2 * t.1 - t.2, t.2) :=
  ⟨ht, (nr_d2 (b := h.b.1 - g.b.1) (by have := oh.x; have := og.x; simp only [Hv.w2]; omega)).mpr n.2.1, (nr_d2 (b := h.b.2 - g.b.2) (by have := oh.y; have := og.y; simp only [Hv.w2]; omega)).mpr n.2.2⟩
theorem Hv.h1 (oh : h.ok) (og : g.ok) {t : Fr} (ht : 0 < t.2) (n : nr2 h.w1 g.w1 f t) : nr2 h.w g.w f (t.1, 2 * t.2) := by
  have i := n.1
  refine ⟨⟨i.1, by have := i.2; show t.1 ≤ 2 * t.2; omega⟩, (nr_h1 (m := h.m.1 - g.m.1) (by have := oh.x; have := og.x; simp only [Hv.w]; omega)).mpr n.2.1, (nr_h1 (m := h.m.2 - g.m.2) (by have := oh.y; have := og.y; simp only [Hv.w]; omega)).mpr n.2.2⟩
theorem Hv.h2 (oh : h.ok) (og : g.ok) {t : Fr} (ht : 0 < t.2) (n : nr2 h.w2 g.w2 f t) : nr2 h.w g.w f (t.2 + t.1, 2 * t.2) := by
  have i := n.1
  refine ⟨⟨by have := i.1; show 0 ≤ t.2 + t.1; omega, by have := i.2; show t.2 + t.1 ≤ 2 * t.2; omega⟩, (nr_h2 (m := h.m.1 - g.m.1) (by have := oh.x; have := og.x; simp only [Hv.w]; omega)).mpr n.2.1, (nr_h2 (m := h.m.2 - g.m.2) (by have := oh.y; have := og.y; simp only [Hv.w]; omega)).mpr n.2.2⟩
/-- near in the whole just if in a half -/
theorem half_none (oh : h.ok) (og : g.ok) (hf : 0 ≤ f) : whenF h.w g.w f = none ↔ (whenF h.w1 g.w1 f = none ∧ whenF h.w2 g.w2 f = none) := by
  have S := when_spec (w := h.w) (o := g.w) hf
  have S1 := when_spec (w := h.w1) (o := g.w1) hf
  have S2 := when_spec (w := h.w2) (o := g.w2) hf
  constructor
  · intro e
    rw [e] at S
    constructor
    · cases e1 : whenF h.w1 g.w1 f with
      | none => rfl
      | some r =>
        obtain ⟨u, v⟩ := r
        rw [e1] at S1
        have p := S1.1.pos
        exact (S _ (by show 0 < 2 * u.2; omega) (Hv.h1 oh og p S1.fst)).elim
    · cases e1 : whenF h.w2 g.w2 f with
      | none => rfl
      | some r =>
        obtain ⟨u, v⟩ := r
        rw [e1] at S2
        have p := S2.1.pos
        exact (S _ (by show 0 < 2 * u.2; omega) (Hv.h2 oh og p S2.fst)).elim
  · rintro ⟨e1, e2⟩
    rw [e1] at S1
    rw [e2] at S2
    cases e : whenF h.w g.w f with
    | none => rfl
    | some r =>
      obtain ⟨x, y⟩ := r
      rw [e] at S
      have p := S.1.pos
      have i := S.fst.1
      unfold in01 at i
      by_cases c : 2 * x.1 ≤ x.2
      · exact (S1 (2 * x.1, x.2) p (Hv.d1 oh og ⟨by show 0 ≤ 2 * x.1; omega, c⟩ S.fst)).elim
      · exact (S2 (2 * x.1 - x.2, x.2) p (Hv.d2 oh og ⟨by show 0 ≤ 2 * x.1 - x.2; omega, by show 2 * x.1 - x.2 ≤ x.2; omega⟩ S.fst)).elim
theorem half_fst (oh : h.ok) (og : g.ok) (hf : 0 ≤ f) {x y u v : Fr} (e : whenF h.w g.w f = some (x, y)) (e1 : whenF h.w1 g.w1 f = some (u, v)) : x = frac u.1 (2 * u.2) := by
  have S := when_spec (w := h.w) (o := g.w) hf
  have S1 := when_spec (w := h.w1) (o := g.w1) hf
  rw [e] at S
  rw [e1] at S1
  have pu := S1.1.pos
  have px := S.1.pos
  have i := S.fst.1
  have iu := S1.fst.1
  unfold in01 at i iu
  have a := ((S.2.2.2 _ (by show 0 < 2 * u.2; omega)).mp (Hv.h1 oh og pu S1.fst)).1
  refine frac_is S.1 (by omega) a ?_
  have a' := a
  unfold le at a'
  simp only at a'
  have c : 2 * x.1 ≤ x.2 := by
    have z1 : u.1 * x.2 ≤ u.2 * x.2 := Int.mul_le_mul_of_nonneg_right iu.2 (Int.le_of_lt px)
    have z2 : x.1 * (2 * u.2) = (2 * x.1) * u.2 := by grind
    have z3 : u.2 * x.2 = x.2 * u.2 := Int.mul_comm _ _
    exact Int.le_of_mul_le_mul_right (a := u.2) (by omega) pu
  have b := ((S1.2.2.2 (2 * x.1, x.2) px).mp (Hv.d1 oh og ⟨by show 0 ≤ 2 * x.1; omega, c⟩ S.fst)).1
  unfold le at b ⊢
  simp only at b ⊢
  have z2 : x.1 * (2 * u.2) = (2 * x.1) * u.2 := by grind
  omega
theorem half_snd2 (oh : h.ok) (og : g.ok) (hf : 0 ≤ f) {x y u v : Fr} (e : whenF h.w g.w f = some (x, y)) (e1 : whenF h.w2 g.w2 f = some (u, v)) : y = frac (v.2 + v.1) (2 * v.2) := by
  have S := when_spec (w := h.w) (o := g.w) hf
  have S1 := when_spec (w := h.w2) (o := g.w2) hf
  rw [e] at S
  rw [e1] at S1
  have pv := S1.2.1.pos
  have py := S.2.1.pos
  have i := S.snd.1
  have iv := S1.snd.1
  unfold in01 at i iv
  have a := ((S.2.2.2 _ (by show 0 < 2 * v.2; omega)).mp (Hv.h2 oh og pv S1.snd)).2
  refine frac_is S.2.1 (by omega) ?_ a
  have a' := a
  unfold le at a'
  simp only at a'
  have z2 : y.1 * (2 * v.2) = (2 * y.1) * v.2 := by grind
  have z3 : (v.2 + v.1) * y.2 = y.2 * v.2 + v.1 * y.2 := by grind
  have c : y.2 ≤ 2 * y.1 := by
    have z1 : 0 ≤ v.1 * y.2 := Int.mul_nonneg iv.1 (Int.le_of_lt py)
    exact Int.le_of_mul_le_mul_right (a := v.2) (by omega) pv
  have b := ((S1.2.2.2 (2 * y.1 - y.2, y.2) py).mp (Hv.d2 oh og ⟨by show 0 ≤ 2 * y.1 - y.2; omega, by show 2 * y.1 - y.2 ≤ y.2; omega⟩ S.snd)).2
  unfold le at b ⊢
  simp only at b ⊢
  have z4 : (2 * y.1 - y.2) * v.2 = (2 * y.1) * v.2 - y.2 * v.2 := by grind
  omega
theorem half_fst2 (oh : h.ok) (og : g.ok) (hf : 0 ≤ f) {x y u v : Fr} (e : whenF h.w g.w f = some (x, y)) (e0 : whenF h.w1 g.w1 f = none) (e1 : whenF h.w2 g.w2 f = some (u, v)) : x = frac (u.2 + u.1) (2 * u.2) := by
  have S := when_spec (w := h.w) (o := g.w) hf
  have S0 := when_spec (w := h.w1) (o := g.w1) hf
  have S1 := when_spec (w := h.w2) (o := g.w2) hf
  rw [e] at S
  rw [e0] at S0
  rw [e1] at S1
  have pu := S1.1.pos
  have px := S.1.pos
  have i := S.fst.1
  unfold in01 at i
  have a := ((S.2.2.2 _ (by show 0 < 2 * u.2; omega)).mp (Hv.h2 oh og pu S1.fst)).1
  refine frac_is S.1 (by omega) a ?_
  have c : ¬ 2 * x.1 ≤ x.2 := fun c => S0 (2 * x.1, x.2) px (Hv.d1 oh og ⟨by show 0 ≤ 2 * x.1; omega, c⟩ S.fst)
  have b := ((S1.2.2.2 (2 * x.1 - x.2, x.2) px).mp (Hv.d2 oh og ⟨by show 0 ≤ 2 * x.1 - x.2; omega, by show 2 * x.1 - x.2 ≤ x.2; omega⟩ S.fst)).1
  unfold le at b ⊢
  simp only at b ⊢
  have z2 : x.1 * (2 * u.2) = (2 * x.1) * u.2 := by grind
  have z3 : (u.2 + u.1) * x.2 = x.2 * u.2 + u.1 * x.2 := by grind
  have z4 : (2 * x.1 - x.2) * u.2 = (2 * x.1) * u.2 - x.2 * u.2 := by grind
  omega
theorem half_snd1 (oh : h.ok) (og : g.ok) (hf : 0 ≤ f) {x y u v : Fr} (e : whenF h.w g.w f = some (x, y)) (e0 : whenF h.w2 g.w2 f = none) (e1 : whenF h.w1 g.w1 f = some (u, v)) : y = frac v.1 (2 * v.2) := by
  have S := when_spec (w := h.w) (o := g.w) hf
  have S0 := when_spec (w := h.w2) (o := g.w2) hf
  have S1 := when_spec (w := h.w1) (o := g.w1) hf
  rw [e] at S
  rw [e0] at S0
  rw [e1] at S1
  have pv := S1.2.1.pos
  have py := S.2.1.pos
  have i := S.snd.1
  unfold in01 at i
  have a := ((S.2.2.2 _ (by show 0 < 2 * v.2; omega)).mp (Hv.h1 oh og pv S1.snd)).2
  refine frac_is S.2.1 (by omega) ?_ a
  have c : 2 * y.1 ≤ y.2 := by
    rcases Int.lt_or_le y.2 (2 * y.1) with c | c
    · exact (S0 (2 * y.1 - y.2, y.2) py (Hv.d2 oh og ⟨by show 0 ≤ 2 * y.1 - y.2; omega, by show 2 * y.1 - y.2 ≤ y.2; omega⟩ S.snd)).elim
    · exact c
  have b := ((S1.2.2.2 (2 * y.1, y.2) py).mp (Hv.d1 oh og ⟨by show 0 ≤ 2 * y.1; omega, c⟩ S.snd)).2
  unfold le at b ⊢
  simp only at b ⊢
  have z2 : y.1 * (2 * v.2) = (2 * y.1) * v.2 := by grind
  omega
/-- near at some time of the first half and at the end: near in the middle -/
theorem half_mid (oh : h.ok) (og : g.ok) (hf : 0 ≤ f) {t : Fr} (ht : 0 < t.2) (ht2 : 2 * t.1 ≤ t.2) (n : nr2 h.w g.w f t) (n1 : nr2 h.w g.w f (1, 1)) : nr2 h.w1 g.w1 f (1, 1) := by
  have S := when_spec (w := h.w) (o := g.w) hf
  cases e : whenF h.w g.w f with
  | none => rw [e] at S; exact (S t ht n).elim
  | some r =>
    obtain ⟨x, y⟩ := r
    rw [e] at S
    have px := S.1.pos
    have py := S.2.1.pos
    have a := ((S.2.2.2 t ht).mp n).1
    have b := ((S.2.2.2 (1, 1) (by decide)).mp n1).2
    have m := (S.2.2.2 (1, 2) (by decide)).mpr ⟨le_trans px ht (by decide) a (by unfold le; simp only; omega), by unfold le at b ⊢; simp only at b ⊢; omega⟩
    have ox := oh.x; have oy := oh.y; have gx := og.x; have gy := og.y
    obtain ⟨_, m1, m2⟩ := m
    unfold nr at m1 m2
    simp only [Hv.w] at m1 m2
    refine ⟨⟨by decide, by decide⟩, ?_, ?_⟩
    · rw [nr_e]; simp only [Hv.w1]; omega
    · rw [nr_e]; simp only [Hv.w1]; omega
end
end Ab
set_option Elab.async false
set_option linter.all false
set_option maxRecDepth 100000
set_option maxHeartbeats 4000000
/-! ### enumerate of a tuple; >= of tuples -/
namespace Ab
open PySem PySem.Spec PyProof.Rows L2 RZ
def ItE (K : PySem.W.Frag) (a : Addr) (n : Nat) : It :=
  ⟨fun j G => ∃ (vs : List V) (p : V), SqT K G a vs ∧ vs.length = n ∧ vs[j]? = some p,
   fun j G v G' => ∃ c p, v = .ref c ∧ G c = none ∧ G' = upd G c (.tup [.int (j : Nat), p]) ∧ ∀ vs, SqT K G a vs → vs[j]? = some p,
   fun j G => ∃ vs : List V, SqT K G a vs ∧ vs.length = n ∧ n ≤ j⟩
theorem turn_E {P : Program} {w : World} {K : PySem.W.Frag} {elts : List Expr} {kk : Nat} {tp : Pos} {a e c : Addr} {n : Nat} (hec : e ≠ c) (hea : e ≠ a) (hac : a ≠ c) :
    Turn P w K (.Tuple elts kk tp) (ItE K a n) [e, c] e (fun j h => j ≤ n ∧ (∃ old, IsEnum h e c ((j : Nat) : Int) old) ∧ h.IsTupleIter c a j) where
  mem := by simp
  obj := fun j h ⟨_, ⟨old, g1⟩, ⟨u, e1, _, f1⟩⟩ y hy => by
    simp only [List.mem_cons, List.not_mem_nil, or_false] at hy
    rcases hy with r | r <;> subst r
    · exact ⟨_, g1, fun v q => nomatch q⟩
    · exact ⟨u, e1, fun v q => by rw [f1] at q; cases q⟩
  keep := fun j h h' ⟨le, ⟨old, g1⟩, g2⟩ k => ⟨le, ⟨old, k e (by simp) _ g1⟩, g2.at fun o q => k c (by simp) o q⟩
  item := by
    intro X hP hw hK hc j pins s σ G E I hf ⟨le, ⟨old, g1⟩, g2⟩ ⟨vs, p, sa, ln, hp⟩
    subst hP hw hK
    obtain ⟨its, r1, t1, _⟩ := I.tuple sa
    obtain ⟨x, ex, rx⟩ := r1.get hp
    have D1 : Draws X.prog X.w X.A.in1 c [c, a] _ _ _ := Draws.tuple (A := X.A.in1) (show X.A.in1.handled = none from I.ok.hd hc) c a hac its.toArray
    have j1 : j < its.toArray.size := by have := (List.getElem?_eq_some_iff.mp ex).1; simpa using this
    have el : e < s.heap.objs.size := Heap.lt_size g1
    have cl : c < s.heap.objs.size := by obtain ⟨_, q, _⟩ := g2; exact Heap.lt_size q
    refine wpAny_pyNext_enum_itemD D1 g1 ⟨g2, t1⟩ j1 hec (by simp [hec, hea]) fun x' h' tk px ho st hT hsz hk => ?_
    have ex' : x' = x := by
      have : its[j]? = some x' := by simpa using px
      rw [ex] at this
      exact (Option.some.inj this).symm
    subst ex'
    refine ⟨_, rfl, wpAny_letOwnedTupleGo_enum (s := { s with heap := h', toks := tk + 1 }) ho fun h2 he2 sb2 => ?_⟩
    have hT2 : h2.get? s.heap.objs.size = some { cls := .type "tuple", data := .seq #[.int j tk, x'] } := (sb2.2 _ (Nat.ne_of_gt el)).trans hT
    have fresh : ObjOk X.prog X.w (upd G s.heap.objs.size (.tup [.int (j : Nat), p])) h2 s.heap.objs.size (.tup [.int (j : Nat), p]) :=
      ⟨by show 2 ≤ sizeLine; decide, [.int j tk, x'], .cons ⟨_, rfl⟩ (.cons rx .nil), ⟨_, hT2, rfl, _, rfl⟩⟩
    have I1 : Inv X pins σ (upd G s.heap.objs.size (.tup [.int (j : Nat), p])) { s with heap := h2, toks := tk + 1 } :=
      I.turnedNew (t' := tk + 1) (ch := [e, c]) (fun y o hy q => by
        simp only [List.mem_cons, List.not_mem_nil, or_false, not_or] at hy
        exact (sb2.2 y hy.1).trans (hk y o hy.1 hy.2 q)) hf (Nat.le_refl _) fresh
    refine ⟨.ref s.heap.objs.size, _, I1, rfl, ⟨_, p, rfl, I.hok.fresh (Nat.le_refl _), rfl, fun l hl => by rw [I.tuple_inj hl sa]; exact hp⟩, ⟨?_, ⟨x', ?_⟩, ?_⟩, fun y hy => ?_⟩
    · have l1 := (List.getElem?_eq_some_iff.mp hp).1
      omega
    · have q : ((j + 1 : Nat) : Int) = (j : Int) + 1 := by omega
      rw [q]
      exact he2
    · exact st.1.at fun o q => (sb2.2 _ hec.symm).trans q
    · have lt : y < s.heap.objs.size := by
        simp only [List.mem_cons, List.not_mem_nil, or_false] at hy
        rcases hy with r | r <;> subst r
        · exact el
        · exact cl
      rw [upd_ne (Nat.ne_of_lt lt)]
      exact (hf y hy).1
  done := by
    intro X hP hw hK hc j pins s σ G E I hf ⟨le, ⟨old, g1⟩, g2⟩ ⟨vs, sa, ln, hend⟩
    subst hP hw hK
    obtain ⟨its, r1, t1, _⟩ := I.tuple sa
    have D1 : Draws X.prog X.w X.A.in1 c [c, a] _ _ _ := Draws.tuple (A := X.A.in1) (show X.A.in1.handled = none from I.ok.hd hc) c a hac its.toArray
    have l1 := r1.length
    have ej : j = its.toArray.size := by simp; omega
    refine wpAny_pyNext_enum_endD D1 g1 (by rw [← ej]; exact ⟨g2, t1⟩) fun h' eb => ⟨rfl, I.turnedL (t' := s.toks) (ch := [e, c]) (fun y o hy q => ?_) hf⟩
    simp only [List.mem_cons, List.not_mem_nil, or_false, not_or] at hy
    exact eb y o hy.2 q
  self := fun A j s Q E st h => let ⟨_, ⟨_, g⟩, _⟩ := st; wpAny_pyIter_enum g h
abbrev enO (n : Nat) : Obj := { cls := .type "enumerate", data := .fields #[.none, .bool false, .ref n, rawInt 0, .none, .none] }
set_option maxHeartbeats 4000000 in
theorem meets_enB {v : Value} {o : Obj} {H : Heap → Prop} (B : Begins v o H) :
    Meets (Builtin.«enumerate.__new__» ⟨[.type "enumerate", v], []⟩) (fun _ R s => H s.heap ∧ R (.ok (.ret (.ref (s.heap.push o).objs.size))) { s with heap := (s.heap.push o).push (enO s.heap.objs.size) }) :=
  .of_wp fun prog w A R s ⟨h1, h⟩ => by
    obtain ⟨hp, g, d, tk, os⟩ := s
    have hsub := sub_enumerate
    have go : ∀ {A' : Around} {E : Value → Shared → Prop} {Q : Value → Shared → Prop}, Q (.ref hp.objs.size) ⟨hp.push o, g, d, tk, os⟩ → wpAny (model prog w) A' (pyIter v) Q E ⟨hp, g, d, tk, os⟩ := fun q =>
      B.iter prog w _ _ ⟨hp, g, d, tk, os⟩ _ h1 q
    wp_walk using go
    refine wpAny_stack_any fun st => wpAny_pure ?_
    split
    · rename_i c _ _ _ _ _
      cases (c == Value.type "enumerate") <;> (wp_walk using go; exact ⟨_, rfl, h⟩)
    · wp_walk using go
      exact ⟨_, rfl, h⟩
def iEnumT (K : PySem.W.Frag) (ta : TA) : TI := fun σ H R => ta σ H fun vs G => ∃ a xs, vs = [.ref a] ∧ SqT K G a xs ∧ R (ItE K a xs.length) G
theorem pi_enumT {X : Cx} {e : Expr} {ta : TA} {p pos tp : Pos} {elts : List Expr} {kk : Nat} (hg : Gl X "enumerate") (hm : X.mg "enumerate" = none) (ha : PA X [e] ta) (hs : starEach [e] X.env = [(false, eval e X.env)] := by rfl) :
    PI X (.Tuple elts kk tp) (.Call (.Name "enumerate" p) [e] [] pos) (iEnumT X.K ta) := by
  refine ⟨fun pins s σ H R I h => Call_ (ld_blt I hg hm boot_enumerate (PyProof.Rows.callWith_type1 (thn (ha.run pos pins s σ H _ I h) fun us t ⟨vs, G, I1, r1, a, xs, ev, sa, q⟩ => ?_) hs rfl))⟩
  subst ev
  cases r1 with
  | cons r rr =>
    cases rr
    cases r
    obtain ⟨its, v1, t1, _⟩ := I1.tuple sa
    have la : a < t.heap.objs.size := by obtain ⟨o, ho, _⟩ := id t1; exact Heap.lt_size ho
    have B := begins_tuple a its.toArray
    refine callType_new F.called_enumerate (by decide) (F.typeCall_enumerate_1 _) (F.newCall_enumerate_1 _) (fun obj => F.args_object_init_2 obj _) F.entry_enumerate_new (meets_enB B) ⟨t1, ?_⟩
    show _ ∧ _
    have hz : (t.heap.push { cls := .type "tuple_iterator", data := .fields #[.ref a, .int 0 0] }).objs.size = t.heap.objs.size + 1 := Heap.size_push ..
    rw [hz]
    have g1 : IsEnum ((t.heap.push { cls := .type "tuple_iterator", data := .fields #[.ref a, .int 0 0] }).push (enO t.heap.objs.size)) (t.heap.objs.size + 1) t.heap.objs.size 0 .none := by
      have z := Heap.get?_push_size (t.heap.push { cls := .type "tuple_iterator", data := .fields #[.ref a, .int 0 0] }) (o := enO t.heap.objs.size) rfl
      rw [hz] at z
      exact z
    have hk : ∀ b o, t.heap.get? b = some o → ((t.heap.push { cls := .type "tuple_iterator", data := .fields #[.ref a, .int 0 0] }).push (enO t.heap.objs.size)).get? b = some o := fun b o x => Heap.get?_push_of_some _ (Heap.get?_push_of_some _ x)
    refine ⟨⟨_, g1, rfl⟩, wpAny_pyIter_enum g1 ?_⟩
    have I2 := I1.kept (t' := t.toks) hk
    refine ⟨t.heap.objs.size + 1, [t.heap.objs.size + 1, t.heap.objs.size], _, _, G, rfl, I2, turn_E (Nat.succ_ne_self _) (Nat.ne_of_gt (Nat.lt_succ_of_lt la)) (Nat.ne_of_lt la), ⟨Nat.zero_le _, ⟨.none, g1⟩, ⟨_, Heap.get?_push_of_some _ (Heap.get?_push_size _ rfl), rfl, rfl⟩⟩, fun y hy => ?_, q⟩
    have ly : t.heap.objs.size ≤ y := by
      simp only [List.mem_cons, List.not_mem_nil, or_false] at hy
      rcases hy with r | r <;> rw [r]
      · exact Nat.le_add_right _ _
      · exact Nat.le_refl _
    exact I1.fpOk ly (I1.hok.fresh ly)
def enumD : Nat → List D → List D
  | _, [] => []
  | n, x :: xs => .tup [.int (n : Nat), x] :: enumD (n + 1) xs
theorem enumD_get : ∀ {xs : List D} {n i : Nat} {d : D}, (enumD n xs)[i]? = some d → ∃ x, xs[i]? = some x ∧ d = .tup [.int ((n + i : Nat) : Int), x]
  | [], n, i, d, h => by simp [enumD] at h
  | x :: xs, n, 0, d, h => by
    simp only [enumD, List.getElem?_cons_zero, Option.some.injEq] at h
    exact ⟨x, rfl, h.symm⟩
  | x :: xs, n, i + 1, d, h => by
    simp only [enumD, List.getElem?_cons_succ] at h
    obtain ⟨y, h1, h2⟩ := enumD_get h
    refine ⟨y, by simpa using h1, ?_⟩
    rw [h2, show n + 1 + i = n + (i + 1) by omega]
theorem enumD_len : ∀ {xs : List D} {n : Nat}, (enumD n xs).length = xs.length
  | [], _ => rfl
  | x :: xs, n => by simp only [enumD, List.length_cons, enumD_len]
def wEnum (w : WA) : WI := fun ρ S Q E => w ρ S (fun ds S1 => (match ds with
  | [.tup xs] => Q ⟨enumD 0 xs, fun _ => True⟩ S1
  | _ => False)) E
theorem isim_enumT {K : PySem.W.Frag} {H : Hp} {a : Addr} {xs : List D} {vs : List V} (t : TupP K H a vs) (q : RepL K H xs vs) : ISim K H (ItE K a xs.length) ⟨enumD 0 xs, fun _ => True⟩ := fun i H' S' l' r' _ => by
  have sq : SqT K H' a vs := (t.le l').sq
  have e1 : vs.length = xs.length := q.length
  refine ⟨fun d e => ?_, fun hl => ⟨vs, sq, e1, by rw [← enumD_len (n := 0)]; exact hl⟩⟩
  obtain ⟨x, ex, rfl⟩ := enumD_get e
  obtain ⟨v, ev, p⟩ := (q.le l').get ex
  refine ⟨⟨vs, v, sq, e1, ev⟩, fun z G ⟨c, x1, k1, k2, k3, k4⟩ => ?_⟩
  subst k1 k3
  obtain rfl : x1 = v := Option.some.inj ((k4 vs sq).symm.trans ev)
  refine ⟨Le.new k2, r'.new k2, ?_⟩
  unfold RepV
  refine ⟨c, _, rfl, .inl upd_same, repL_cons ?_ (repL_cons (p.le (Le.new k2)) repL_nil)⟩
  rw [Nat.zero_add]
  unfold RepV
  rfl
section
variable {X : Cx} {W : WX}
theorem ri_enum {e : Expr} {wa : WA} {p pos tpos : Pos} {elts : List Expr} {kk : Nat} (hg : Gl X "enumerate") (hm : X.mg "enumerate" = none) (ha : RA X W [e] wa) (hs : starEach [e] X.env = [(false, eval e X.env)] := by rfl) :
    RI X W (.Tuple elts kk tpos) (.Call (.Name "enumerate" p) [e] [] pos) (wEnum wa) :=
  pi_imp (pi_enumT hg hm ha hs) fun σ H R ⟨ρ, S, QA, EA, rs, rp, h, k, x⟩ => ⟨ρ, S, _, EA, rs, rp, h, fun ds S1 vs H1 h1 l1 r1 p1 => by
    match ds, h1, p1 with
    | [.tup xs], h1, p1 =>
      obtain ⟨v, rfl, p⟩ := repL1 p1
      unfold RepV at p
      obtain ⟨a, vs, rfl, t, q1⟩ := p
      refine ⟨a, vs, rfl, t.sq, ?_⟩
      have f1 : vs.length = xs.length := q1.length
      rw [f1]
      exact k _ S1 _ H1 h1 l1 r1 (isim_enumT t q1), x⟩
end
/-! >= -/
def geL (ns ms : List Int) : Bool := Ob.lexAt (fun j => decide (ns.getD j 0 = ms.getD j 0)) (fun j => decide (ms.getD j 0 ≤ ns.getD j 0)) (decide (ns.length ≥ ms.length)) 0 (min ns.length ms.length)
def rGeT (K : PySem.W.Frag) : R2 := fun x y H Q => ∃ a b ns ms, x = .ref a ∧ y = .ref b ∧ SqT K H a (ns.map V.int) ∧ SqT K H b (ms.map V.int) ∧ Q (.bl (geL ns ms)) H
theorem dq (a b : Int) : decide (a = b) = (a == b) := by by_cases q : a = b <;> simp [q]
theorem op_geT {X : Cx} (hu : X.A.units < cLine) : OpR X (compareOp .GtE) (rGeT X.K) := by
  rintro pins s σ H x y v u Q I rx ry ⟨a, b, ns, ms, rfl, rfl, ha, hb, q⟩
  cases rx
  cases ry
  obtain ⟨us, r1, p1, _⟩ := I.tuple ha
  obtain ⟨vs, r2, p2, _⟩ := I.tuple hb
  have i1 : IntsAre us ns := Vals.ints r1
  have i2 : IntsAre vs ms := Vals.ints r2
  have z1 : us.toArray.size = ns.length := by rw [List.size_toArray]; exact i1.length
  have z2 : vs.toArray.size = ms.length := by rw [List.size_toArray]; exact i2.length
  have g1 : ∀ j (h : j < us.toArray.size), ∃ t, us.toArray[j] = .int (ns.getD j 0) t := fun j h => PyProof.Rows.IntsAre.int_at i1 _ _ (by simp at h; simp [h])
  have g2 : ∀ j (h : j < vs.toArray.size), ∃ t, vs.toArray[j] = .int (ms.getD j 0) t := fun j h => PyProof.Rows.IntsAre.int_at i2 _ _ (by simp at h; simp [h])
  have R := Ob.RcOp.tuples_ge (A := X.A) (s := s) (e := fun j => decide (ns.getD j 0 = ms.getD j 0)) (r := fun j => decide (ms.getD j 0 ≤ ns.getD j 0)) p1 p2 hu (fun j h1 h2 => by
    obtain ⟨t, e1⟩ := g1 j h1
    obtain ⟨t', e2⟩ := g2 j h2
    rw [e1, e2, dq]
    exact SeqAt.EqAt.int_int _ _ _ _) (fun j h1 h2 _ => by
    obtain ⟨t, e1⟩ := g1 j h1
    obtain ⟨t', e2⟩ := g2 j h2
    rw [e1, e2]
    exact Ob.RcOp.ge_int _ _ _ _)
  rw [z1, z2] at R
  exact R X.prog X.w X.xe (EP X pins σ Q) ⟨.bl _, H, I, rfl, q⟩
def aGeV : WR2 := aOrd (fun i j => decide (j ≤ i)) geL
theorem sim_geV {K : PySem.W.Frag} : Sim2 K (fun x y H Q => (rI0 fun i j => .bl (decide (j ≤ i))) x y H Q ∨ rGeT K x y H Q) aGeV := sim_ord fun _ _ _ _ z => z
section
variable {X : Cx} {W : WX} {a b : Expr} {wa wb : WE} {pos : Pos}
theorem re_geV (hu : X.A.units < cLine) (ha : RE X W a wa) (hb : RE X W b wb) : RE X W (.Compare a [.GtE] [b] pos) (wOp aGeV wa wb) := re_cmp (op_ge.or (op_geT hu)) sim_geV ha hb (nomark _)
theorem rt_geV (hu : X.A.units < cLine) (ha : RE X W a wa) (hb : RE X W b wb) : RT X W (.Compare a [.GtE] [b] pos) (wB (wOp aGeV wa wb)) := rt_cmp (op_ge.or (op_geT hu)) sim_geV ha hb (nomark _)
end
end Ab
set_option Elab.async false
set_option linter.all false
set_option maxRecDepth 100000
set_option maxHeartbeats 4000000
/-! ### sorted of a dict whose keys are pairs -/
namespace Ab
open PySem PySem.Spec PyProof.Rows L2 RZ
section
variable {prog : Program} {w : World}
theorem src_raw {d : Addr} {es : Array DictEntry} {ep : Nat} (lo : (d == sysModules) = false) : PySem.W.KdlSrc prog w "dict" d d es.size (fun i v => ∃ hi : i < es.size, v = es[i].key) (fun h => h.DictRaw d es ep) where
  type := fun _ hm => hm.typeIs
  there := fun _ hm => let ⟨_, ho, _⟩ := hm; ⟨Heap.lt_size ho, Heap.lt_size ho⟩
  keep := fun _ _ hm hk => hm.at fun o e => hk d (.inl rfl) o e
  notList := by decide
  notTuple := by decide
  hint := fun _ _ _ _ hm hq => PySem.W.kdl_hint_dict hm.typeIs hq
  iter := fun A s hh hm => by
    have lt : d < s.heap.objs.size := let ⟨_, ho, _⟩ := hm; Heap.lt_size ho
    refine ⟨_, _, fun E Q hq => wpAny_pyIter_dict_raw lo hm hq, Walks.rawKeys hh _ d (Nat.ne_of_lt lt) es ep, ⟨_, Heap.get?_push_size _ rfl, rfl, rfl⟩, hm.at fun o e => Heap.get?_push_of_some _ e⟩
end
def prK (p : Int × Int) : List L2.Key := [Sum.inl p.1, Sum.inl p.2]
def rSortDT (B : Int) : List V → Hp → VK → Prop := fun vs H Q => ∃ (a : Addr) (kvs : List (List L2.Key × V)) (ps : List (Int × Int)), vs = [V.ref a] ∧ H a = some (.dT kvs) ∧ kvs.map (·.1) = ps.map prK ∧ ps.length < 64 ∧ (∀ p ∈ ps, TS.Bd B [p.1, p.2]) ∧
  ∀ (zs : List (Addr × (Int × Int))) (l : Addr), (zs.map (·.2)).Perm ps → (zs.map (·.2)).Pairwise (fun x y => TS.code B [x.1, x.2] ≤ TS.code B [y.1, y.2]) → (∀ z ∈ zs, H z.1 = some (.tup [.int z.2.1, .int z.2.2])) → H l = none → Q (.ref l) (upd H l (.lst (zs.map fun z => V.ref z.1)))
theorem perm_unmap {α β : Type} {f : α → β} {out us : List β} (p : out.Perm us) : ∀ {zs : List α}, us = zs.map f → ∃ zs' : List α, zs'.Perm zs ∧ out = zs'.map f := by
  induction p with
  | nil =>
    intro zs h
    have : zs = [] := by simpa using h.symm
    subst this
    exact ⟨[], .refl _, rfl⟩
  | cons x p ih =>
    intro zs h
    cases zs with
    | nil => simp at h
    | cons z zs =>
      simp only [List.map_cons, List.cons.injEq] at h
      obtain ⟨zs', h1, h2⟩ := ih h.2
      exact ⟨z :: zs', h1.cons z, by rw [List.map_cons, h.1, h2]⟩
  | swap x y l =>
    intro zs h
    match zs, h with
    | a :: b :: zs, h =>
      simp only [List.map_cons, List.cons.injEq] at h
      exact ⟨b :: a :: zs, .swap a b zs, by simp only [List.map_cons]; rw [h.1, h.2.1, h.2.2]⟩
  | trans p1 p2 ih1 ih2 =>
    intro zs h
    obtain ⟨zs2, h1, h2⟩ := ih2 h
    obtain ⟨zs1, h3, h4⟩ := ih1 h2
    exact ⟨zs1, h3.trans h1, h4⟩
theorem pgetA {α β : Type} {F : α → β → Prop} : ∀ {l₁ : List α} {l₂ : List β} {j : Nat} {x : β}, Paired F l₁ l₂ → l₂[j]? = some x → ∃ y, l₁[j]? = some y ∧ F y x := fun {l₁ l₂ j x} p h => by
  induction p generalizing j with
  | nil => simp at h
  | cons r rs ih =>
    cases j with
    | zero =>
      simp only [List.getElem?_cons_zero, Option.some.injEq] at h
      exact ⟨_, by simp, h ▸ r⟩
    | succ j =>
      simp only [List.getElem?_cons_succ] at h ⊢
      exact ih h
theorem vrefs : ∀ (l : List (Addr × (Int × Int))), Vals (l.map fun z => V.ref z.1) (l.map fun z => Value.ref z.1)
  | [] => .nil
  | _ :: l => .cons rfl (vrefs l)
theorem cr_sortDT {X : Cx} {B : Int} (hc : X.calm = true) : CallR X (.builtin "sorted") (rSortDT B) := by
  rintro pins s σ H xs us Q I r ⟨a, kvs, ps, rfl, hd, hk, h64, hb, q⟩
  rw [Vals.ref1 r]
  obtain ⟨_, lo, xs', rel, o, es, ep, ho, hx, hdat, hes, his, hn⟩ := dt_of I.hok hd
  have l1 : kvs.length = xs'.length := Paired.length rel
  have l2 : es.size = xs'.length := size_of_entries hes
  have l3 : kvs.length = ps.length := by have := congrArg List.length hk; simpa using this
  let zs : List (Addr × (Int × Int)) := (xs'.map fun x => x.2.1).zip ps
  have lz : zs.length = ps.length := by simp [zs]; omega
  have zat : ∀ (j : Nat) (z : Addr × (Int × Int)), zs[j]? = some z → (∃ x : List L2.Key × Addr × Value, xs'[j]? = some x ∧ z.1 = x.2.1) ∧ ps[j]? = some z.2 := by
    intro j z hz
    simp only [zs, List.getElem?_zip_eq_some, List.getElem?_map, Option.map_eq_some_iff] at hz
    obtain ⟨⟨x, h1, h2⟩, h3⟩ := hz
    exact ⟨⟨x, h1, h2.symm⟩, h3⟩
  have zH : ∀ z ∈ zs, H z.1 = some (.tup [.int z.2.1, .int z.2.2]) := by
    intro z hz
    obtain ⟨j, hj⟩ := List.getElem?_of_mem hz
    obtain ⟨⟨x, h1, h2⟩, h3⟩ := zat j z hj
    obtain ⟨y, y1, y2, y3, _⟩   := pgetA rel h1
    have e1 : (kvs.map (·.1))[j]? = some y.1 := by rw [List.getElem?_map, y1]; rfl
    rw [hk, List.getElem?_map, h3] at e1
    have e2 : prK z.2 = y.1 := Option.some.inj e1
    rw [h2, y3, ← e2]
    rfl
  have zsnd : zs.map (·.2) = ps := List.map_snd_zip (by simp; omega)
  have hh : X.A.handled = none := I.ok.hd hc
  refine Calls.call_function_entry PyProof.Rows.kind_sorted PyProof.Rows.plain_sorted PyProof.Rows.entry_sorted (PyProof.Rows.args_sorted1 _) ?_
  unfold Builtin.«sorted»
  refine wpAny_bind (m := checkCount "sorted" 1 1 _) (wpAny_pure (wpAny_bind (PySem.W.kdu_collect (A := X.A.in1) (src_raw (ep := ep) lo) hh ⟨o, ho, hx, hdat⟩ (by rw [sizeLine_eq]; omega) fun h' tk acc hk' hacc => ?_)))
  have I1 : Inv X pins σ H { s with heap := h', toks := tk } := I.kept hk'
  have ea : acc.toList = zs.map fun z => Value.ref z.1 := by
    apply List.ext_getElem?
    intro j
    rw [List.getElem?_map, Array.getElem?_toList]
    cases hz : zs[j]? with
    | none =>
      have : zs.length ≤ j := List.getElem?_eq_none_iff.mp hz
      rw [Option.map_none, Array.getElem?_eq_none_iff, hacc.1]
      omega
    | some z =>
      have lj : j < acc.size := by
        have := (List.getElem?_eq_some_iff.mp hz).1
        rw [hacc.1]
        omega
      obtain ⟨⟨x, h1, h2⟩, _⟩ := zat j z hz
      obtain ⟨hi, hv⟩ := hacc.2 j acc[j] (by simp [lj])
      have e1 := entry_at hes j
      rw [h1, Array.getElem?_eq_getElem hi] at e1
      have e2 : es[j] = entryOfKey (tupleKind (mixKind X.prog X.w)) x := Option.some.inj e1
      rw [Option.map_some, Array.getElem?_eq_getElem lj, hv, e2, h2]
      rfl
  rw [ea]
  have lz2 : (zs.map fun z => Value.ref z.1).length < 64 := by rw [List.length_map, lz]; exact h64
  have raw : ∀ z ∈ zs, TS.TupInts h' (.ref z.1) [z.2.1, z.2.2] := fun z hz => tupI_raw (X := X) I1 (show SqT X.K H z.1 (([z.2.1, z.2.2] : List Int).map V.int) from .inl (.inl (zH z hz)))
  refine wpAny_bind (wpAny_newList ?_ (by rw [sizeLine_eq]; omega))
  have hoL : (h'.push (seqObj "list" (zs.map fun z => Value.ref z.1).toArray 0)).get? h'.objs.size = some (seqObj "list" (zs.map fun z => Value.ref z.1).toArray 0) := Heap.get?_push_size _ rfl
  have keep : ∀ b o, h'.get? b = some o → o.cls = .type "tuple" → (h'.push (seqObj "list" (zs.map fun z => Value.ref z.1).toArray 0)).get? b = some o := fun b o e _ => Heap.get?_push_of_some _ e
  show wpAny _ _ _ _ _ { s with heap := h'.push (seqObj "list" (zs.map fun z => Value.ref z.1).toArray 0), toks := tk }
  refine wpAny_bind (wpAny_holding (TS.call_sort_tups (d := 2) (B := B) hoL lz2 (by decide) (fun v hv => ?_) fun out p1 p2 => ?_))
  · obtain ⟨z, hz, rfl⟩ := List.mem_map.mp hv
    refine ⟨[z.2.1, z.2.2], (raw z hz).keeps keep, rfl, hb z.2 ?_⟩
    rw [← zsnd]
    exact List.mem_map.mpr ⟨z, hz, rfl⟩
  · obtain ⟨zs', q1, q2⟩ := perm_unmap p1 rfl
    obtain ⟨e', he'⟩ := PyProof.Rows.sortedHeap_at (vs := zs.map fun z => Value.ref z.1) (out := out) hoL
    have hv : Vals (zs'.map fun z => V.ref z.1) out.toList := by
      rw [q2]
      exact vrefs zs'
    refine wpAny_pure ⟨_, rfl, .ref h'.objs.size, upd H h'.objs.size (.lst (zs'.map fun z => V.ref z.1)), I1.laid (t' := tk) (fun b u e => ?_) (Nat.le_refl _) (show ObjOk X.prog X.w _ _ _ (.lst (zs'.map fun z => V.ref z.1)) from ⟨?_, out.toList, e', hv, by rw [Array.toArray_toList]; exact he'⟩), rfl, q zs' _ ?_ ?_ (fun z hz => zH z (q1.mem_iff.mp hz)) (I1.hok.fresh (Nat.le_refl _))⟩
    · have hb' : b < h'.objs.size := Heap.lt_size e
      rw [PyProof.Rows.sortedHeap_old (Nat.ne_of_lt hb') (by rw [size_push']; exact Nat.lt_succ_of_lt hb')]
      exact Heap.get?_push_of_some _ e
    · rw [List.length_map, q1.length_eq, lz, sizeLine_eq]
      omega
    · rw [← zsnd]
      exact q1.map _
    · rw [q2, List.pairwise_map] at p2
      rw [List.pairwise_map]
      refine List.Pairwise.imp_of_mem (fun {u v} hu hv h => ?_) p2
      have i1 := ((raw u (q1.mem_iff.mp hu)).keeps keep).ints
      have i2 := ((raw v (q1.mem_iff.mp hv)).keeps keep).ints
      rw [i1, i2] at h
      exact h
def aSrtC : WRL := fun ds S Q => (match ds with
  | [.ref a] => (match S a with
    | some (.dT kvs) => ∃ ps : List (Int × Int), kvs.map (·.1) = ps.map prK ∧ ps.length < 64 ∧ (∀ p ∈ ps, (0 ≤ p.1 ∧ p.1 < 1000) ∧ (0 ≤ p.2 ∧ p.2 < 1000)) ∧ ∀ (qs : List (Int × Int)), qs.Perm ps → qs.Pairwise lexLe → ∀ p, S p = none → Q (.ref p) (put S p (.lst (qs.map plD)))
    | _ => aSrtB ds S Q)
  | _ => aSrtB ds S Q)
def rSrtC (K : PySem.W.Frag) : List V → Hp → VK → Prop := fun xs H Q => rSrtB K xs H Q ∨ rSortDT 1000 xs H Q
theorem cr_srtC {X : Cx} (hc : X.calm = true) : CallR X (.builtin "sorted") (rSrtC X.K) := (cr_srtB hc).or (cr_sortDT hc)
theorem repL_zs {K : PySem.W.Frag} {H : Hp} : ∀ {zs : List (Addr × (Int × Int))}, (∀ z ∈ zs, H z.1 = some (.tup [.int z.2.1, .int z.2.2])) → RepL K H ((zs.map (·.2)).map plD) (zs.map fun z => V.ref z.1)
  | [], _ => repL_nil
  | z :: zs, h => by
    refine repL_cons ?_ (repL_zs fun z hz => h z (by simp [hz]))
    unfold plD RepV
    exact ⟨z.1, _, rfl, .inl (h z (by simp)), repL_ints [z.2.1, z.2.2]⟩
theorem sim_srtC {K : PySem.W.Frag} : SimL K (rSrtC K) aSrtC := fun xs ds H S QA Q p r a k => by
  have gen : aSrtB ds S QA → rSrtC K xs H Q := fun a => .inl (sim_srtB xs ds H S QA Q p r a k)
  match ds, a, p, gen with
  | [.ref l], a, p, gen =>
    unfold aSrtC at a
    cases e : S l with
    | none => simp only [e] at a; exact gen a
    | some o =>
      cases o with
      | dT kvs =>
        simp only [e] at a
        obtain ⟨ps, h1, h2, h3, h4⟩ := a
        obtain ⟨v, rfl, pv⟩ := repL1 p
        unfold RepV at pv
        subst pv
        obtain ⟨us, g1, g2⟩ := r l _ e
        have ek : us.map (·.1) = kvs.map (·.1) := g2.keys
        refine .inr ⟨l, us, ps, rfl, g1, ek.trans h1, h2, fun q hq m hm => ?_, fun zs t z1 z2 z3 z4 => ?_⟩
        · have := h3 q hq
          simp only [List.mem_cons, List.not_mem_nil, or_false] at hm
          rcases hm with rfl | rfl
          · exact this.1
          · exact this.2
        · have b : ∀ q ∈ ps, TS.Bd 1000 [q.1, q.2] := fun q hq m hm => by
            have := h3 q hq
            simp only [List.mem_cons, List.not_mem_nil, or_false] at hm
            rcases hm with rfl | rfl
            · exact this.1
            · exact this.2
          have L : Le H (upd H t (.lst (zs.map fun z => V.ref z.1))) := Le.new z4
          refine k _ _ _ _ (h4 (zs.map (·.2)) z1 ?_ t (r.free z4)) L (r.newP (o := .lst ((zs.map (·.2)).map plD)) z4 ⟨_, upd_same, (repL_zs z3).le L⟩) (rep_ref _)
          refine List.Pairwise.imp_of_mem (fun {u v} hu hv hh => ?_) z2
          rcases code_lex (b u (z1.mem_iff.mp hu)) (b v (z1.mem_iff.mp hv)) hh with z | z
          · exact .inl z
          · exact .inr z
      | _ => simp only [e] at a; exact gen a
  | [], a, p, gen => exact gen a
  | [.tup _], a, p, gen => exact gen a
  | [.non], a, p, gen => exact gen a
  | [.bl _], a, p, gen => exact gen a
  | [.int _], a, p, gen => exact gen a
  | [.str _], a, p, gen => exact gen a
  | [.scr _], a, p, gen => exact gen a
  | [.ty _], a, p, gen => exact gen a
  | d :: _ :: _, a, p, gen => exact gen (by cases d <;> exact a)
end Ab
set_option Elab.async false
set_option linter.all false
set_option maxRecDepth 100000
set_option maxHeartbeats 8000000
/-! ### sorted(set(t)), t a tuple of pairs -/
namespace L2
open PySem PySem.Spec PyProof.Rows
abbrev nSet (w : World) : Obj := { cls := .type "set", dict := none, data := .set #[] 0 (.fresh 0 0 (!w.params.followText "set-order")) }
section
variable {P : Program} {w : World} {A : Around} {E : Value → Shared → Prop} {s : Shared}
theorem set_tt {l : Addr} {xs : Array Value} (ks : List (Addr × List Int)) {Q : Value → Shared → Prop} (h0 : A.handled = none) (ht : s.heap.IsTuple l xs) (hx : xs.toList = ks.map fun p => Value.ref p.1) (hi : ∀ p ∈ ks, IsT P w s.heap p.2 p.1) (few : ks.length < 64) (room : A.units + 3 < cLine)
    (q : ∀ (g : Heap) (n : Nat) L es ep t, SetTR P w g s.heap.objs.size L es ep t → Got ks ks.length L → (∀ b o, s.heap.get? b = some o → g.get? b = some o) → Q (.ref s.heap.objs.size) { s with heap := g, toks := n }) :
    wpAny (model P w) A (call (.type "set") [.ref l]) Q E s := by
  have sz : xs.size = ks.length := by rw [← Array.length_toList, hx, List.length_map]
  obtain ⟨c, tl, mro⟩ := F.called_set.mro
  have made := F.called_set.made; have sub := F.called_set.sub
  refine wpAny_call (codeAny_of_tree (show wpAny _ _ (callAny (.type "set") _) _ _ _ from wpAny_pure ⟨Code.quiet_builtin _ (by decide +kernel), codeAny_builtin F.entry_type_call ?_⟩))
  rw [Around.under_plain (weight_type_call_type "set" [.ref l] []) rfl]
  have a1 := F.called_set.notType; have a2 := F.called_set.canCreate; have a3 := F.typeCall_set_1 (.ref l)
  repeat (any_goals first | assumption | wp_step)
  refine codeAny_mono (code_set_led1 (.ref l) (E := E) (Q₁ := fun ob t => ob = .ref s.heap.objs.size ∧ t = { s with heap := s.heap.push (nSet w) }) ⟨rfl, rfl⟩) fun r t hr => ?_
  match r, hr with
  | .error e, hr => exact hr
  | .ok (.ret ob), hr =>
    obtain ⟨rfl, rfl⟩ := hr
    have gS : (s.heap.push (nSet w)).get? s.heap.objs.size = some (nSet w) := Heap.get?_push_size _ rfl
    have ty : Shared.TypeIs { s with heap := s.heap.push (nSet w) } (.ref s.heap.objs.size) "set" := ⟨_, gS, rfl⟩
    have b1 := F.called_set.init.lookup; have b2 := F.called_set.init.bind (.ref s.heap.objs.size)
    repeat (any_goals first | assumption | wp_step)
    refine codeAny_mono (codeAny_call_builtin (R := wants (fun r t => r = .none ∧ ∃ g n L es ep u, t = { s with heap := g, toks := n } ∧ SetTR P w g s.heap.objs.size L es ep u ∧ Got ks ks.length L ∧ ∀ b o, s.heap.get? b = some o → g.get? b = some o) E) F.called_set.init.plain F.entry_set_init (check_set_init_1 ty ?_)) fun r t hr => ?_
    · obtain ⟨⟨cl, dc, da, sl⟩, gl, rfl, nl, rfl⟩ := ht
      have gl' : (s.heap.push (nSet w)).get? l = some { cls := .type "tuple", dict := dc, data := .seq xs nl, slots := sl } := Heap.get?_push_of_some _ gl
      have c1 := F.sub_tuple_set; have c2 := F.sub_tuple_frozenset
      have c3 : (Value.type "tuple" == Value.type "dict") = false := by decide
      have it : (s.heap.push (nSet w)).IsTuple l xs := ⟨_, gl', rfl, nl, rfl⟩
      have lt : l < s.heap.objs.size := Heap.lt_size gl
      unfold Builtin.«set.__init__» noKeywords Builtin.Frozenset.updateFrom
      generalize e : pyIter = pI
      wp_walk
      subst e
      refine wpAny_pyIter_tuple it (wpAny_bind (wpAny_runValue ?_))
      have up : (s.heap.push (nSet w)).objs.size = s.heap.objs.size + 1 := Heap.size_push ..
      have no : ∀ b, s.heap.objs.size ≤ b → s.heap.get? b = none := fun b hb => by
        cases z : s.heap.get? b with
        | none => rfl
        | some o => exact (Nat.lt_irrefl _ (Nat.lt_of_lt_of_le (Heap.lt_size z) hb)).elim
      have va : ∀ (i : Nat) (v : Value), xs[i]? = some v → ∃ p, ks[i]? = some p ∧ v = .ref p.1 := fun i v hv => by
        rw [← Array.getElem?_toList, hx, List.getElem?_map, Option.map_eq_some_iff] at hv
        obtain ⟨p, h1, h2⟩ := hv
        exact ⟨p, h1, h2.symm⟩
      refine set_update_tups (Walks.tuple (show A.in1.in1.in1.handled = none by simp [h0]) _ l (by rw [up]; exact Nat.ne_of_lt (Nat.lt_succ_of_lt lt)) xs).toS s.heap.objs.size ?_ ks sz few va s.heap hi (no _ (Nat.le_refl _)) (fun b hb => no b ?_) room (xs.size - 0) 0 _ (by omega) (Nat.zero_le _) ⟨⟨_, Heap.get?_push_size _ rfl, rfl, rfl⟩, it.push _⟩ (fun b o z => Heap.get?_push_of_some _ (Heap.get?_push_of_some _ z)) ⟨[], #[], 0, _, setTR_fresh (Heap.get?_push_of_some _ gS), Got.zero ks⟩ ?_
      · rw [up]
        simp only [List.mem_cons, List.not_mem_nil, or_false, not_or]
        exact ⟨Nat.ne_of_lt (Nat.lt_succ_self _), Nat.ne_of_gt lt⟩
      · rw [List.mem_singleton.mp hb, up]
        exact Nat.le_succ _
      · rintro ⟨g, gn, dr, tk, os⟩ L es ep u mv hS hG hk
        obtain rfl : gn = s.gens := mv.gens
        obtain rfl : dr = s.drawn := mv.drawn
        obtain rfl : os = s.os := mv.os
        rw [sz] at hG
        exact wpAny_pure (show wpAny _ _ (ret Value.none) _ _ _ from wpAny_pure ⟨rfl, g, tk, L, es, ep, u, rfl, hS, hG, hk⟩)
    · match r, hr with
      | .error e, hr => exact hr
      | .ok (.ret v), hr =>
        obtain ⟨rfl, g, n, L, es, ep, u, rfl, h1, h2, h3⟩ := hr
        repeat (any_goals first | assumption | wp_step)
        exact q _ _ _ _ _ _ h1 h2 h3
end
end L2
namespace Ab
open PySem PySem.Spec PyProof.Rows L2 RZ
def rSetTT (X : Cx) : List V → Hp → VK → Prop := fun vs H Q => ∃ (l : Addr) (ks : List (Addr × List Int)), vs = [V.ref l] ∧ SqT X.K H l (ks.map fun p => V.ref p.1) ∧ (∀ p ∈ ks, SqT X.K H p.1 (p.2.map V.int)) ∧ ks.length < 64 ∧
  ∀ a L, H a = none → (∀ p ∈ L, p ∈ ks) → (∀ p ∈ ks, p.2 ∈ L.map (·.2)) → Q (.ref a) (upd H a (SetTO X.prog X.w a L))
theorem cr_setTT {X : Cx} (hc : X.calm = true) (hu : X.A.units + 64 < cLine) : CallR X (.type "set") (rSetTT X) := by
  rintro pins s σ H xs us Q I r ⟨l, ks, rfl, hl, hk, hf, q⟩
  rw [Vals.ref1 r]
  obtain ⟨its, rv, pl, _⟩ := I.tuple hl
  refine set_tt (P := X.prog) (w := X.w) ks (I.ok.hd hc) pl (by simpa using refs_of_vals rv) (fun p hp => I.isT (hk p hp)) hf (by omega) fun g n L es ep t R G k => ⟨.ref s.heap.objs.size, upd H s.heap.objs.size (SetTO X.prog X.w s.heap.objs.size L), I.laid (t' := n) k (Nat.le_refl _) (setTO_new R.t0), rfl, q _ L (I.hok.fresh (Nat.le_refl _)) (fun p hp => List.mem_of_mem_take (G.sub p hp)) fun p hp => G.all p ?_⟩
  rw [List.take_length]
  exact hp
/-- sorted(set(e)) -/
def wSS (we : WE) : WE := fun ρ S Q E => we ρ S (fun d S1 => (match d with
  | .tup xs => ∃ ps : List (Int × Int), xs = ps.map plD ∧ ps.length < 64 ∧ (∀ p ∈ ps, (0 ≤ p.1 ∧ p.1 < 1000) ∧ (0 ≤ p.2 ∧ p.2 < 1000)) ∧ ∀ qs : List (Int × Int), (∀ q, q ∈ qs ↔ q ∈ ps) → qs.Nodup → qs.Pairwise lexLe → ∀ p, S1 p = none → Q (.ref p) (put S1 p (.lst (qs.map plD)))
  | _ => False)) E
theorem tup_refs {K : PySem.W.Frag} {H : Hp} : ∀ {ps : List (Int × Int)} {vs : List V}, RepL K H (ps.map plD) vs → ∃ ks : List (Addr × List Int), vs = ks.map (fun p => V.ref p.1) ∧ ks.map (·.2) = ps.map (fun p => [p.1, p.2]) ∧ ∀ p ∈ ks, TupP K H p.1 (p.2.map V.int)
  | [], _, h => ⟨[], by rw [h.nil_inv]; exact ⟨rfl, rfl, by simp⟩⟩
  | p :: ps, _, h => by
    obtain ⟨v, r, rfl, pv, h'⟩ := h.inv
    obtain ⟨ks, e1, e2, e3⟩ := tup_refs h'
    unfold plD RepV at pv
    obtain ⟨t, vs, rfl, tp, rl⟩ := pv
    have hv : vs = ([p.1, p.2] : List Int).map V.int := (show RepL K H (([p.1, p.2] : List Int).map D.int) vs from rl).ints
    refine ⟨(t, [p.1, p.2]) :: ks, by rw [e1]; rfl, by rw [List.map_cons, e2]; rfl, fun z hz => ?_⟩
    rcases List.mem_cons.mp hz with rfl | hz
    · rw [← hv]; exact tp
    · exact e3 z hz
section
variable {X : Cx} {W : WX} {e : Expr} {we : WE} {p p2 pos pos2 : Pos}
theorem re_sortset (hc : X.calm = true) (hu : X.A.units + 100 < cLine) (hg : Gl X "sorted") (hm : X.mg "sorted" = none) (hg2 : Gl X "set") (hm2 : X.mg "set" = none) (he : RE X W e we)
    (s1 : starEach [e] X.env = (false, eval e X.env) :: starEach [] X.env := by rfl) (s2 : (backTo pos2 (starEach [] X.env)).any (·.1) = false := by rfl)
    (s3 : starEach [Expr.Call (.Name "set" p2) [e] [] pos2] X.env = (false, eval (.Call (.Name "set" p2) [e] [] pos2) X.env) :: starEach [] X.env := by rfl) (s4 : (backTo pos (starEach [] X.env)).any (·.1) = false := by rfl) :
    RE X W (.Call (.Name "sorted" p) [.Call (.Name "set" p2) [e] [] pos2] [] pos) (wSS we) := by
  have A1 := pe_callTy (x := "set") (p := p2) (cr_setTT hc (by omega)) hg2 hm2 (by decide +kernel) (pa_cons he pa_nil s1) (by decide) (by decide) s1 s2
  have A2 := pe_callB (x := "sorted") (p := p) (cr_sortedT hc) hg hm (by decide +kernel) (pa_cons A1 pa_nil s3) (by decide) (by decide) s3 s4
  refine pe_imp A2 fun σ H Q ⟨ρ, S, QA, EA, rs, rp, h, k, x⟩ => ?_
  refine ⟨ρ, S, _, EA, rs, rp, h, fun d S1 v H1 h1 l1 r1 q1 => ?_, x⟩
  cases d with
  | tup xs =>
    obtain ⟨ps, rfl, h2, h3, h4⟩ := h1
    unfold RepV at q1
    obtain ⟨t, vs, rfl, tp, rl⟩ := q1
    obtain ⟨ks, e1, e2, e3⟩ := tup_refs rl
    subst e1
    have lk : ks.length = ps.length := by have := congrArg List.length e2; simpa using this
    have sh : ∀ z ∈ ks, ∃ w : Int × Int, w ∈ ps ∧ z.2 = [w.1, w.2] := fun z hz => by
      have : z.2 ∈ ks.map (·.2) := List.mem_map.mpr ⟨z, hz, rfl⟩
      rw [e2] at this
      obtain ⟨w, hw, e⟩ := List.mem_map.mp this
      exact ⟨w, hw, e.symm⟩
    refine ⟨t, ks, rfl, tp.sq, fun z hz => (e3 z hz).sq, by omega, fun a L ha hL hM => ?_⟩
    have L1 : Le H1 (upd H1 a (SetTO X.prog X.w a L)) := Le.new ha
    refine ⟨a, L, 2, 1000, rfl, upd_same, fun z hz => ((e3 z (hL z hz)).le L1).sq, by decide, fun z hz => ?_, fun L' b pm nd few pw hb => ?_⟩
    · obtain ⟨w, hw, e⟩ := sh z (hL z hz)
      rw [e]
      refine ⟨rfl, fun m hm => ?_⟩
      have := h3 w hw
      simp only [List.mem_cons, List.not_mem_nil, or_false] at hm
      rcases hm with rfl | rfl
      · exact this.1
      · exact this.2
    · have L2 : Le (upd H1 a (SetTO X.prog X.w a L)) (upd (upd H1 a (SetTO X.prog X.w a L)) b (.lst (L'.map fun q => V.ref q.1))) := Le.new hb
      have r2 : Rep X.K (upd H1 a (SetTO X.prog X.w a L)) S1 := r1.new ha
      have sh' : ∀ z ∈ L', ∃ w : Int × Int, w ∈ ps ∧ z.2 = [w.1, w.2] := fun z hz => sh z (hL z (pm.mem_iff.mp hz))
      let f : Addr × List Int → Int × Int := fun z => (z.2.getD 0 0, z.2.getD 1 0)
      have fz : ∀ z ∈ L', f z ∈ ps ∧ z.2 = [(f z).1, (f z).2] := fun z hz => by
        obtain ⟨w, hw, e⟩ := sh' z hz
        have : f z = w := by simp only [f, e]; rfl
        rw [this]
        exact ⟨hw, e⟩
      have rl' : ∀ {M : List (Addr × List Int)}, (∀ z ∈ M, z ∈ L') → RepL X.K (upd (upd H1 a (SetTO X.prog X.w a L)) b (.lst (L'.map fun q => V.ref q.1))) ((M.map f).map plD) (M.map fun q => V.ref q.1) := by
        intro M
        induction M with
        | nil => exact fun _ => repL_nil
        | cons z M ih =>
          intro hz
          refine repL_cons ?_ (ih fun y hy => hz y (by simp [hy]))
          have q := fz z (hz z (by simp))
          have tz := ((e3 z (hL z (pm.mem_iff.mp (hz z (by simp))))).le L1).le L2
          rw [q.2] at tz
          unfold plD RepV
          exact ⟨z.1, _, rfl, tz, repL_ints [(f z).1, (f z).2]⟩
      refine k _ _ _ _ (h4 (L'.map f) (fun w => ?_) ?_ ?_ b (r2.free hb)) ((l1.trans L1).trans L2) (r2.newP (o := .lst ((L'.map f).map plD)) hb ⟨_, upd_same, rl' fun z hz => hz⟩) (rep_ref _)
      · constructor
        · intro hw
          obtain ⟨z, hz, rfl⟩ := List.mem_map.mp hw
          exact (fz z hz).1
        · intro hw
          have : [w.1, w.2] ∈ ks.map (·.2) := by rw [e2]; exact List.mem_map.mpr ⟨w, hw, rfl⟩
          obtain ⟨z, hz, e⟩ := List.mem_map.mp this
          have hz' := hM z hz
          obtain ⟨y, hy, e'⟩ := List.mem_map.mp hz'
          refine List.mem_map.mpr ⟨y, pm.mem_iff.mpr hy, ?_⟩
          simp only [f, e', e]
          rfl
      · have : (L'.map (·.2)) = (L'.map f).map fun w => [w.1, w.2] := by
          rw [List.map_map]
          exact List.map_congr_left fun z hz => (fz z hz).2
        rw [this] at nd
        exact nodup_of_map nd
      · rw [List.pairwise_map]
        refine List.Pairwise.imp_of_mem (fun {u v} hu hv hh => ?_) pw
        have fu := fz u hu
        have fv := fz v hv
        rw [fu.2, fv.2] at hh
        have bd : ∀ w ∈ ps, TS.Bd 1000 [w.1, w.2] := fun w hw m hm => by
          have := h3 w hw
          simp only [List.mem_cons, List.not_mem_nil, or_false] at hm
          rcases hm with rfl | rfl
          · exact this.1
          · exact this.2
        rcases code_lex (bd _ fu.1) (bd _ fv.1) hh with z | z
        · exact .inl z
        · exact .inr z
  | _ => exact (show False from h1).elim
end
end Ab
set_option Elab.async false
set_option linter.all false
set_option maxRecDepth 100000
set_option maxHeartbeats 4000000
/-! ### list.remove of an int; dict of a list of pairs -/
namespace Ab
open PySem PySem.Spec PyProof.Rows L2 RZ
def aRem : D → List D → Sto → AK → Prop := fun x ds S Q => (match x, ds with
  | .ref l, [.int k] => (match S l with
    | some (.lst xs) => ∃ (ns : List Int) (j : Nat), xs = ns.map D.int ∧ ns[j]? = some k ∧ (∀ m : Nat, m < j → ns[m]? ≠ some k) ∧ Q .non (put S l (.lst ((ns.eraseIdx j).map D.int)))
    | _ => False)
  | _, _ => False)
theorem sim_rem {K : PySem.W.Frag} : SimM K rRemI aRem := fun x xs dx ds H S QA Q px p r a k => by
  match dx, ds, a, p with
  | .ref l, [.int i], a, p =>
    obtain ⟨v, rfl, pv⟩ := repL1 p
    unfold RepV at px pv
    subst px pv
    unfold aRem at a
    cases e : S l with
    | none => simp [e] at a
    | some o =>
      cases o with
      | lst zs =>
        simp only [e] at a
        obtain ⟨ns, j, rfl, h1, h2, h3⟩ := a
        obtain ⟨vs, g1, g2⟩ := r l _ e
        have hv := g2.ints
        subst hv
        have L : Le H (upd H l (.lst ((ns.eraseIdx j).map V.int))) := r.le_put e
        exact ⟨l, ns, i, j, rfl, rfl, g1, h1, h2, k _ _ _ _ h3 L (r.put (o := .lst ((ns.eraseIdx j).map D.int)) e ⟨_, upd_same, repL_ints _⟩) rep_non⟩
      | _ => simp [e] at a
def mergeA (kvs : List (Int × D)) : List (L2.Key × D) := kvs.foldl (fun acc kv => putA acc (Sum.inl kv.1) kv.2) []
def aDictP : WRL := fun ds S Q => (match ds with
  | [.ref a] => (match S a with
    | some (.lst xs) => ∃ kvs : List (Int × D), xs = kvs.map (fun kv => D.tup [.int kv.1, kv.2]) ∧ ∀ p, S p = none → Q (.ref p) (put S p (.dK (mergeA kvs)))
    | _ => False)
  | _ => False)
theorem pairs_of {K : PySem.W.Frag} {H : Hp} : ∀ {kvs : List (Int × D)} {vs : List V}, RepL K H (kvs.map fun kv => D.tup [.int kv.1, kv.2]) vs → ∃ (ps : List Addr) (us : List (L2.Key × V)), vs = ps.map V.ref ∧ Paired (fun p kv => SqT K H p [kV kv.1, kv.2]) ps us ∧ RepK K H (kvs.map fun kv => ((Sum.inl kv.1 : L2.Key), kv.2)) us
  | [], _, h => ⟨[], [], by rw [h.nil_inv]; rfl, .nil, rfl⟩
  | kv :: kvs, _, h => by
    obtain ⟨v, q, rfl, pv, h'⟩ := h.inv
    obtain ⟨ps, us, e1, e2, e3⟩ := pairs_of h'
    unfold RepV at pv
    obtain ⟨t, ws, rfl, tp, rl⟩ := pv
    obtain ⟨v1, v2, rfl, p1, p2⟩ := repL2 rl
    unfold RepV at p1
    subst p1
    exact ⟨t :: ps, (Sum.inl kv.1, v2) :: us, by rw [e1]; rfl, .cons tp.sq e2, v2, us, rfl, p2, e3⟩
theorem merge_rep {K : PySem.W.Frag} {H : Hp} : ∀ {kvs : List (Int × D)} {us : List (L2.Key × V)} {a : List (L2.Key × D)} {b : List (L2.Key × V)}, RepK K H (kvs.map fun kv => ((Sum.inl kv.1 : L2.Key), kv.2)) us → RepK K H a b → RepK K H (kvs.foldl (fun acc kv => putA acc (Sum.inl kv.1) kv.2) a) (mergeK b us)
  | [], _, a, b, h, h2 => by
    have : _ = [] := h
    subst this
    exact h2
  | kv :: kvs, _, a, b, ⟨v, q, e, p, t⟩, h2 => by
    subst e
    have z := merge_rep (kvs := kvs) (a := putA a (Sum.inl kv.1) kv.2) (b := putK b (Sum.inl kv.1) v) t (RepK.put p h2)
    exact z
theorem sim_dictP {K : PySem.W.Frag} : SimL K (fun xs H Q => ∃ (a : Addr) (ps : List Addr) (kvs : List (L2.Key × V)), xs = [.ref a] ∧ SqL K H a (ps.map V.ref) ∧ Paired (fun p kv => SqT K H p [kV kv.1, kv.2]) ps kvs ∧ ∀ p, H p = none → Q (.ref p) (upd H p (.dK (mergeK [] kvs)))) aDictP := fun xs ds H S QA Q p r a k => by
  match ds, a, p with
  | [.ref l], a, p =>
    obtain ⟨v, rfl, pv⟩ := repL1 p
    unfold RepV at pv
    subst pv
    unfold aDictP at a
    cases e : S l with
    | none => simp [e] at a
    | some o =>
      cases o with
      | lst zs =>
        simp only [e] at a
        obtain ⟨kvs, rfl, h⟩ := a
        obtain ⟨vs, g1, g2⟩ := r l _ e
        obtain ⟨ps, us, rfl, e2, e3⟩ := pairs_of g2
        refine ⟨l, ps, us, rfl, .inl (.inl g1), e2, fun q hq => ?_⟩
        have L : Le H (upd H q (.dK (mergeK [] us))) := Le.new hq
        exact k _ _ _ _ (h q (r.free hq)) L (r.newP (o := .dK (mergeA kvs)) hq ⟨_, upd_same, (merge_rep e3 (show RepK K H [] [] from rfl)).le L⟩) (rep_ref _)
      | _ => simp [e] at a
end Ab
set_option Elab.async false
set_option linter.all false
set_option maxRecDepth 100000
set_option maxHeartbeats 4000000
/-! ### dict displays -/
namespace Ab
open PySem PySem.Spec PyProof.Rows L2 RZ
def wPairs : List (WE × WE) → DEnv → Sto → (List (D × D) → Sto → Prop) → XA → Prop
  | [], _, S, Q, _ => Q [] S
  | w :: r, ρ, S, Q, E => w.1 ρ S (fun x S1 => w.2 ρ S1 (fun y S2 => wPairs r ρ S2 (fun ps S3 => Q ((x, y) :: ps) S3) E) E) E
def mergeD (kvs : List (L2.Key × D)) : List (L2.Key × D) := kvs.foldl (fun acc kv => putA acc kv.1 kv.2) []
/-- the keys of a display -/
def keyPs : List (D × D) → Option (List (L2.Key × D))
  | [] => some []
  | (x, y) :: r => (match keyA x, keyPs r with
    | some k, some q => some ((k, y) :: q)
    | _, _ => none)
def wDisp (ws : List (WE × WE)) : WE := fun ρ S Q E => ∀ p, S p = none → wPairs ws ρ (put S p (.dK [])) (fun ps S2 => S2 p = some (.dK []) ∧ ∃ kvs, keyPs ps = some kvs ∧ kvs.length ≤ 15 ∧ Q (.ref p) (put S2 p (.dK (mergeD kvs)))) E
inductive RPs (X : Cx) (W : WX) (pos : Pos) : List (Option Expr) → List Expr → List (WE × WE) → Prop
  | nil : RPs X W pos [] [] []
  | cons {k v : Expr} {ks : List (Option Expr)} {vs : List Expr} {wk wv : WE} {ws : List (WE × WE)} : RE X W k wk → RE X W v wv → RPs X W pos ks vs ws → RPs X W pos (some k :: ks) (v :: vs) ((wk, wv) :: ws)
def RepP (K : PySem.W.Frag) (H : Hp) : List (D × D) → List (V × V) → Prop
  | [], us => us = []
  | (x, y) :: r, us => ∃ v u q, us = (v, u) :: q ∧ RepV K H x v ∧ RepV K H y u ∧ RepP K H r q
theorem RepP.le {K : PySem.W.Frag} {H H' : Hp} (l : Le H H') : ∀ {ps : List (D × D)} {us : List (V × V)}, RepP K H ps us → RepP K H' ps us
  | [], _, h => h
  | (x, y) :: r, _, ⟨v, u, q, e, p1, p2, t⟩ => ⟨v, u, q, e, p1.le l, p2.le l, RepP.le l t⟩
theorem rps_pps {X : Cx} {W : WX} {pos : Pos} {ks : List (Option Expr)} {vs : List Expr} {ws : List (WE × WE)} (h : RPs X W pos ks vs ws) : PPs X pos ks vs (ws.map fun w => (cE X.K W w.1, cE X.K W w.2)) := by
  induction h with
  | nil => exact pps_nil
  | cons a b _ ih => exact pps_cons a b ih
theorem rps_len {X : Cx} {W : WX} {pos : Pos} {ks : List (Option Expr)} {vs : List Expr} {ws : List (WE × WE)} (h : RPs X W pos ks vs ws) : ks.all (·.isSome) = true ∧ ks.length = vs.length := by
  induction h with
  | nil => exact ⟨rfl, rfl⟩
  | cons _ _ _ ih => exact ⟨by rw [List.all_cons, ih.1]; rfl, by simp [ih.2]⟩
theorem pairs_t {K : PySem.W.Frag} {W : WX} : ∀ {ws : List (WE × WE)} {ρ : DEnv} {S : Sto} {σ : L2.St} {H : Hp} {QA : List (D × D) → Sto → Prop} {EA : XA} {Q : List (V × V) → Hp → Prop}, RepS K H ρ σ → Rep K H S → wPairs ws ρ S QA EA → XOk K W H σ EA → (∀ ps S' us H', QA ps S' → Le H H' → Rep K H' S' → RepP K H' ps us → Q us H') → tPairs (ws.map fun w => (cE K W w.1, cE K W w.2)) σ H Q
  | [], ρ, S, σ, H, QA, EA, Q, rs, rp, h, x, k => k [] S [] H h (Le.refl H) rp rfl
  | w :: r, ρ, S, σ, H, QA, EA, Q, rs, rp, h, x, k => by
    refine ⟨ρ, S, _, EA, rs, rp, h, fun d S1 v H1 h1 l1 r1 p1 => ?_, x⟩
    refine ⟨ρ, S1, _, EA, rs.le l1, r1, h1, fun d2 S2 v2 H2 h2 l2 r2 p2 => ?_, x.le l1⟩
    refine pairs_t (rs.le (l1.trans l2)) r2 h2 (x.le (l1.trans l2)) fun ps S' us H' q l' r' p' => ?_
    exact k ((d, d2) :: ps) S' ((v, v2) :: us) H' q ((l1.trans l2).trans l') r' ⟨v, v2, us, rfl, p1.le (l2.trans l'), p2.le l', p'⟩
theorem keyPs_ok {K : PySem.W.Frag} {H : Hp} : ∀ {ps : List (D × D)} {us : List (V × V)} {kvs : List (L2.Key × D)}, keyPs ps = some kvs → RepP K H ps us → ∃ zs : List (L2.Key × V), us = zs.map (fun kv => (kV kv.1, kv.2)) ∧ RepK K H kvs zs ∧ zs.length = kvs.length
  | [], us, kvs, h, r => by
    unfold keyPs at h
    cases h
    exact ⟨[], r, rfl, rfl⟩
  | (x, y) :: ps, us, kvs, h, ⟨v, u, q, e, p1, p2, t⟩ => by
    unfold keyPs at h
    cases e1 : keyA x with
    | none => simp [e1] at h
    | some k =>
      cases e2 : keyPs ps with
      | none => simp [e1, e2] at h
      | some q' =>
        simp only [e1, e2, Option.some.injEq] at h
        subst h
        obtain ⟨zs, z1, z2, z3⟩ := keyPs_ok e2 t
        refine ⟨(k, u) :: zs, ?_, ⟨u, zs, rfl, p2, z2⟩, by simp [z3]⟩
        rw [e, z1, keyA_ok e1 p1]
        rfl
theorem mergeD_rep {K : PySem.W.Frag} {H : Hp} : ∀ {kvs : List (L2.Key × D)} {us : List (L2.Key × V)} {a : List (L2.Key × D)} {b : List (L2.Key × V)}, RepK K H kvs us → RepK K H a b → RepK K H (kvs.foldl (fun acc kv => putA acc kv.1 kv.2) a) (mergeK b us)
  | [], _, a, b, h, h2 => by
    have : _ = [] := h
    subst this
    exact h2
  | (k, d) :: kvs, _, a, b, ⟨v, q, e, p, t⟩, h2 => by
    subst e
    have z := mergeD_rep (kvs := kvs) (a := putA a k d) (b := putK b k v) t (RepK.put p h2)
    exact z
section
variable {X : Cx} {W : WX} {pos : Pos} {ks : List (Option Expr)} {vs : List Expr} {ws : List (WE × WE)}
theorem re_disp (h : RPs X W pos ks vs ws) (h0 : ks ≠ [] := by simp) (h15 : ks.length ≤ 15 := by decide) : RE X W (.Dict ks vs pos) (wDisp ws) := by
  refine pe_imp (pe_disp (rps_pps h) (rps_len h).1 (rps_len h).2 h0 h15) fun σ H Q ⟨ρ, S, QA, EA, rs, rp, hw, k, x⟩ p hp => ?_
  have L : Le H (upd H p (.dK [])) := Le.new hp
  refine pairs_t (rs.le L) (rp.newP (o := .dK []) hp ⟨[], upd_same, rfl⟩) (hw p (rp.free hp)) (x.le L) fun ps S' us H' q l' r' p' => ?_
  obtain ⟨e, kvs, e1, e2, q⟩ := q
  obtain ⟨zs, z1, z2, z3⟩ := keyPs_ok e1 p'
  obtain ⟨us0, g1, g2⟩ := r' p _ e
  have : us0 = [] := g2
  subst this
  have L2 : Le H' (upd H' p (.dK (mergeK [] zs))) := r'.le_put e
  refine ⟨g1, zs, z1, by omega, k _ _ _ _ q ((L.trans l').trans L2) (r'.put (o := .dK (mergeD kvs)) e ⟨_, upd_same, (mergeD_rep z2 (show RepK X.K H' [] [] from rfl)).le L2⟩) (rep_ref _)⟩
end
end Ab
set_option Elab.async false
set_option linter.all false
set_option maxRecDepth 100000
set_option maxHeartbeats 4000000
/-! ### a head's look with one more test -/
namespace Ab
open PySem PySem.Spec PyProof.Rows L2
def obsX (n : Nat) (fa : List He.Fa) (fn : List He.DefD) (ex : PySem.W.Frag → Bool) (g : Addr → Option Obj) : He.AlD × Bool := (He.obsDG n fa fn g, ex (He.frG g (He.asD g n)))
def hookX (n : Nat) (fa : List He.Fa) (fn : List He.DefD) (ex : PySem.W.Frag → Bool) : PySem.W.Hook where
  α := He.AlD × Bool
  obs := fun s => obsX n fa fn ex s.heap.get?
  val := fun _ => (He.valD fn, true)
  says := fun _ h => ∃ K : PySem.W.Frag, K.In h ∧ (He.SaysD fa fn K ∧ ex K = true)
  of := fun _ _ e => ⟨_, He.frG_in, congrArg Prod.fst e, congrArg Prod.snd e⟩
  keeps := fun _ _ _ ⟨K, hK, c⟩ k => ⟨K, PySem.W.Frag.In.keeps hK k, c⟩
theorem obsX_eq {n : Nat} {fa : List He.Fa} {fn : List He.DefD} {ex : PySem.W.Frag → Bool} {g : Addr → Option Obj} {s : Shared} (h : ∀ a, g a = s.heap.get? a) : obsX n fa fn ex g = (hookX n fa fn ex).obs s := by
  have e : g = s.heap.get? := funext h
  rw [e]
  rfl
end Ab
set_option Elab.async false
set_option linter.all false
set_option maxRecDepth 100000
set_option maxHeartbeats 4000000
/-! ### try .. except X: .. -/
namespace Ab
open PySem PySem.Spec PyProof.Rows L2
def noX (A : AEnds) : AEnds := { A with xe := fun _ _ _ => False }
/-- the clauses, one after the other -/
def tryH (K : PySem.W.Frag) (c : Value) (A : AEnds) (ρ : DEnv) (S : Sto) : List (Value × WS) → Prop
  | [] => A.xe c ρ S
  | h :: r => ∃ b, PySem.W.exmOne K c h.1 = some b ∧ (b = true → h.2 (noX A) ρ S) ∧ (b = false → tryH K c A ρ S r)
def wTry (K : PySem.W.Frag) (b : WS) (hs : List (Value × WS)) : WS := fun A ρ S => b { A with xe := fun c ρ' S' => tryH K c A ρ' S' hs } ρ S
inductive RHs (X : Cx) : List ExceptHandler → List (Value × WS) → Prop
  | nil : RHs X [] []
  | cons {x : Str} {c : Value} {w : WS} {b₀ : Stmt} {suite : List Stmt} {np pos' : Pos} {hds : List ExceptHandler} {l : List (Value × WS)} (hc : Names X x c)
      (hsu : ∀ (a : Addr) (pn : List (Addr × Obj)), RSs (X.suite a pn) W0 (b₀ :: suite) w) (r : RHs X hds l) :
      RHs X (.ExceptHandler (some (.Name x np)) none (b₀ :: suite) pos' :: hds) ((c, w) :: l)
def hdL (K : PySem.W.Frag) (l : List (Value × WS)) : List (Value × (Addr → Value → Option Addr → TS)) := l.map fun h => (h.1, fun _ _ _ => cS K W0 h.2)
theorem rhs_ok {X : Cx} {hds : List ExceptHandler} {l : List (Value × WS)} (h : RHs X hds l) : HdsOk X hds (hdL X.K l) := by
  induction h with
  | nil => exact .nil
  | cons hc hsu _ ih => exact .cons hc (fun a oe cls d pn _ _ => hsu a ((a, oe) :: pn)) ih
theorem tryH_ok {K : PySem.W.Frag} {Wout : WX} {c : Value} {A : AEnds} {ρ : DEnv} {S : Sto} {D : Ends} {σ : L2.St} {H H' : Hp} (k : EOk K Wout H A D) (l' : Le H H') (rs : RepS K H' ρ σ) (rp : Rep K H' S) : ∀ {l : List (Value × WS)}, tryH K c A ρ S l → wMany K Wout D (hdL K l) c none σ H'
  | [], h => k.xe c ρ S σ H' h l' rs rp
  | x :: r, ⟨b, e, h1, h2⟩ => ⟨b, e, fun hb a _ => ⟨ρ, S, noX A, rs, rp, h1 hb, ⟨(k.le l').nx, (k.le l').rt, (k.le l').bk, (k.le l').ct, fun _ _ _ _ _ z => z.elim⟩⟩, fun hb => tryH_ok k l' rs rp (h2 hb)⟩
theorem rs_try {X : Cx} {W : WX} {body : List Stmt} {h₀ : ExceptHandler} {hds : List ExceptHandler} {l : List (Value × WS)} {pos : Pos} {wb : WS} (hs : X.stack = X.env :: X.outer) (hf : X.env.frame = some X.env.locals) (tk : Takes X W)
    (hb : ∀ (W' : WX) (pn : List (Addr × Obj)) (xe : Value → Shared → Prop), Takes (X.tr pn xe) W' → PassesOwn (model X.prog X.w) X.A X.env xe → RSs (X.tr pn xe) W' body wb) (hh : RHs X (h₀ :: hds) l) :
    RS X W (.Try body (h₀ :: hds) [] [] pos) (wTry X.K wb l) :=
  ps_imp (ps_try_many (tb := fun W' => cS X.K W' wb) (Wout := W) hs hf tk hb (rhs_ok hh)) fun E σ H ⟨ρ, S, A, rs, rp, h, k⟩ =>
    ⟨ρ, S, _, rs, rp, h, ⟨k.nx, k.rt, k.bk, k.ct, fun c ρ' S' σ' H' q l' rs' rp' => tryH_ok k l' rs' rp' q⟩⟩
end Ab
set_option Elab.async false
set_option linter.all false
set_option maxRecDepth 100000
set_option maxHeartbeats 4000000
/-! ### the order of data: >, max, min, sorted -/
namespace Ab
open PySem PySem.Spec PyProof.Rows L2 RZ PySem.W
/-- x < y -/
def dLt (x y : D) : Bool := dataLt (pd x) (pd y)
theorem dLt_irrefl (x : D) : dLt x x = false := lex_irrefl _
theorem dLt_trans {x y z : D} (h : dLt x y = true) (k : dLt y z = true) : dLt x z = true := lex_trans _ _ _ h k
theorem lt_asymm {a b : PyData} (h : dataLt a b = true) : dataLt b a = false := by
  cases e : dataLt b a with
  | false => rfl
  | true =>
    have := lex_trans _ _ _ h e
    rw [lex_irrefl] at this
    cases this
theorem lt_le {a b c : PyData} (h : dataLt a b = true) (k : dataLt c b = false) : dataLt a c = true := by
  cases e : dataLt b c with
  | true => exact lex_trans _ _ _ h e
  | false =>
    have := lex_total _ _ e k
    unfold dataLt at h ⊢
    rw [← this]
    exact h
theorem le_lt {a b c : PyData} (h : dataLt b a = false) (k : dataLt b c = true) : dataLt a c = true := by
  cases e : dataLt a b with
  | true => exact lex_trans _ _ _ e k
  | false =>
    have := lex_total _ _ e h
    unfold dataLt at k ⊢
    rw [this]
    exact k
theorem maxD_ge : ∀ (xs : List PyData) (x : PyData), (∀ y ∈ x :: xs, dataLt (maxD x xs) y = false)
  | [], x, y, hy => by
    rw [List.mem_singleton.mp hy]
    exact lex_irrefl _
  | z :: xs, x, y, hy => by
    have ih := maxD_ge xs (if dataLt x z then z else x)
    have e : maxD x (z :: xs) = maxD (if dataLt x z then z else x) xs := rfl
    rw [e]
    have h0 := ih _ (List.mem_cons_self ..)
    rcases List.mem_cons.mp hy with rfl | hy
    · by_cases h : dataLt y z = true
      · rw [if_pos h] at h0 ⊢
        cases q : dataLt (maxD z xs) y with
        | false => rfl
        | true =>
          have := lex_trans _ _ _ q h
          have h0' : dataLt (maxD z xs) z = false := h0
          unfold dataLt at h0'
          rw [this] at h0'
          cases h0'
      · rw [if_neg h] at h0 ⊢
        exact h0
    · rcases List.mem_cons.mp hy with rfl | hy
      · by_cases h : dataLt x y = true
        · rw [if_pos h] at h0 ⊢
          exact h0
        · rw [if_neg h] at h0 ⊢
          cases q : dataLt (maxD x xs) y with
          | false => rfl
          | true =>
            have h2 : dataLt x y = false := by simpa using h
            have := lt_le q h2
            rw [h0] at this
            cases this
      · exact ih y (List.mem_cons_of_mem _ hy)
theorem minD_le : ∀ (xs : List PyData) (x : PyData), (∀ y ∈ x :: xs, dataLt y (minD x xs) = false)
  | [], x, y, hy => by
    rw [List.mem_singleton.mp hy]
    exact lex_irrefl _
  | z :: xs, x, y, hy => by
    have ih := minD_le xs (if dataLt z x then z else x)
    have e : minD x (z :: xs) = minD (if dataLt z x then z else x) xs := rfl
    rw [e]
    have h0 := ih _ (List.mem_cons_self ..)
    rcases List.mem_cons.mp hy with rfl | hy
    · by_cases h : dataLt z y = true
      · rw [if_pos h] at h0 ⊢
        cases q : dataLt y (minD z xs) with
        | false => rfl
        | true =>
          have := lex_trans _ _ _ h q
          have h0' : dataLt z (minD z xs) = false := h0
          unfold dataLt at h0'
          rw [this] at h0'
          cases h0'
      · rw [if_neg h] at h0 ⊢
        exact h0
    · rcases List.mem_cons.mp hy with rfl | hy
      · by_cases h : dataLt y x = true
        · rw [if_pos h] at h0 ⊢
          exact h0
        · rw [if_neg h] at h0 ⊢
          cases q : dataLt y (minD x xs) with
          | false => rfl
          | true =>
            have h2 : dataLt y x = false := by simpa using h
            have := le_lt h2 q
            rw [h0] at this
            cases this
      · exact ih y (List.mem_cons_of_mem _ hy)
/-! > -/
def rGtD (K : PySem.W.Frag) : R2 := fun x y H Q => ∃ d e, Dp K H x d ∧ Dp K H y e ∧ alike d e = true ∧ d ≠ .none ∧ d.depth ≤ 64 ∧ Q (.bl (dataLt e d)) H
theorem op_gtD {X : Cx} (hu : X.A.units + 100 < cLine) : OpR X (compareOp .Gt) (rGtD X.K) := by
  rintro pins s σ H x y v u Q I rx ry ⟨d, e, hd, he, al, nn, dp, q⟩
  obtain ⟨as, r1⟩ := Dp.reads I d x v hd rx
  obtain ⟨bs, r2⟩ := Dp.reads I e y u he ry
  exact gt_data r1 r2 al nn (by omega) ⟨.bl _, H, I, rfl, q⟩
def aGtV : WR2 := fun x y S Q => (match x, y with
  | .int i, .int j => Q (.bl (decide (j < i))) S
  | x, y => okD 8 x = true ∧ okD 8 y = true ∧ alike (pd x) (pd y) = true ∧ pd x ≠ .none ∧ Q (.bl (dLt y x)) S)
theorem sim_gtV {K : PySem.W.Frag} : Sim2 K (fun x y H Q => (rI0 fun i j => .bl (decide (j < i))) x y H Q ∨ rGtD K x y H Q) aGtV := fun x y dx dy H S QA Q p q r a k => by
  unfold aGtV at a
  split at a
  · unfold RepV at p q
    exact .inl ⟨_, _, p, q, k _ S _ H a (Le.refl H) r (rep_bl _)⟩
  · obtain ⟨h1, h2, h3, h4, h5⟩ := a
    exact .inr ⟨pd dx, pd dy, dp_of h1 p, dp_of h2 q, h3, h4, by have := (okD_lay h1).2; omega, k _ S _ H h5 (Le.refl H) r (rep_bl _)⟩
section
variable {X : Cx} {W : WX} {a b : Expr} {wa wb : WE} {pos : Pos}
theorem re_gtV (hu : X.A.units + 100 < cLine) (ha : RE X W a wa) (hb : RE X W b wb) : RE X W (.Compare a [.Gt] [b] pos) (wOp aGtV wa wb) := re_cmp (op_gt.or (op_gtD hu)) sim_gtV ha hb (nomark _)
theorem rt_gtV (hu : X.A.units + 100 < cLine) (ha : RE X W a wa) (hb : RE X W b wb) : RT X W (.Compare a [.Gt] [b] pos) (wB (wOp aGtV wa wb)) := rt_cmp (op_gt.or (op_gtD hu)) sim_gtV ha hb (nomark _)
end
/-! max, min of a list of data -/
theorem dpAll_get {K : PySem.W.Frag} {H : Hp} : ∀ {xs : List V} {ds : List PyData} {i : Nat} {v : V}, DpAll K H xs ds → xs[i]? = some v → ∃ d, ds[i]? = some d ∧ Dp K H v d
  | _, _, i, v, .nil, h => by simp at h
  | _, _, 0, v, .cons h r, e => by simp at e; subst e; exact ⟨_, rfl, h⟩
  | _, _, i + 1, v, .cons h r, e => by
    obtain ⟨d, e1, e2⟩ := dpAll_get (i := i) r (by simpa using e)
    exact ⟨d, by simpa using e1, e2⟩
theorem vals_get : ∀ {xs : List V} {us : List Value} {i : Nat} {u : Value}, Vals xs us → us[i]? = some u → ∃ v, xs[i]? = some v ∧ RelV v u
  | _, _, i, u, .nil, h => by simp at h
  | _, _, 0, u, .cons h r, e => by simp at e; subst e; exact ⟨_, rfl, h⟩
  | _, _, i + 1, u, .cons h r, e => by
    obtain ⟨d, e1, e2⟩ := vals_get (i := i) r (by simpa using e)
    exact ⟨d, by simpa using e1, e2⟩
def rMaxG (K : PySem.W.Frag) : List V → Hp → VK → Prop := fun vs H Q => ∃ (a : Addr) (xs : List V) (ds : List PyData), vs = [V.ref a] ∧ SqL K H a xs ∧ DpAll K H xs ds ∧ ds ≠ [] ∧ AlikeAll ds ∧ PyData.depthAll ds ≤ 64 ∧
  ∀ (i : Nat) (v : V) (d : PyData), xs[i]? = some v → ds[i]? = some d → (∀ e ∈ ds, dataLt d e = false) → Q v H
def rMinG (K : PySem.W.Frag) : List V → Hp → VK → Prop := fun vs H Q => ∃ (a : Addr) (xs : List V) (ds : List PyData), vs = [V.ref a] ∧ SqL K H a xs ∧ DpAll K H xs ds ∧ ds ≠ [] ∧ AlikeAll ds ∧ PyData.depthAll ds ≤ 64 ∧
  ∀ (i : Nat) (v : V) (d : PyData), xs[i]? = some v → ds[i]? = some d → (∀ e ∈ ds, dataLt e d = false) → Q v H
theorem max_mem : ∀ (xs : List PyData) (x : PyData), maxD x xs ∈ x :: xs
  | [], x => List.mem_singleton.mpr rfl
  | z :: xs, x => by
    have e : maxD x (z :: xs) = maxD (if dataLt x z then z else x) xs := rfl
    have := max_mem xs (if dataLt x z then z else x)
    rw [e]
    by_cases h : dataLt x z = true
    · rw [if_pos h] at this ⊢; exact List.mem_cons_of_mem _ this
    · rw [if_neg h] at this ⊢
      rcases List.mem_cons.mp this with h | h
      · rw [h]; exact List.mem_cons_self ..
      · exact List.mem_cons_of_mem _ (List.mem_cons_of_mem _ h)
theorem min_mem : ∀ (xs : List PyData) (x : PyData), minD x xs ∈ x :: xs
  | [], x => List.mem_singleton.mpr rfl
  | z :: xs, x => by
    have e : minD x (z :: xs) = minD (if dataLt z x then z else x) xs := rfl
    have := min_mem xs (if dataLt z x then z else x)
    rw [e]
    by_cases h : dataLt z x = true
    · rw [if_pos h] at this ⊢; exact List.mem_cons_of_mem _ this
    · rw [if_neg h] at this ⊢
      rcases List.mem_cons.mp this with h | h
      · rw [h]; exact List.mem_cons_self ..
      · exact List.mem_cons_of_mem _ (List.mem_cons_of_mem _ h)
theorem cr_maxG {X : Cx} (hc : X.calm = true) (hu : X.A.units + 100 < cLine) : CallR X (.builtin "max") (rMaxG X.K) := by
  intro pins s σ H vs us Q I r h
  obtain ⟨a, xs, ds, rfl, hs, hd, hn, al, dp, q⟩ := h
  obtain ⟨its, rv, hl, _⟩ := I.list hs
  rw [Vals.ref1 r]
  obtain ⟨as, ra⟩ := Dp.readsAll I ds xs its hd rv
  cases ds with
  | nil => exact absurd rfl hn
  | cons x ys =>
    refine max_list_data (I.ok.hd hc) hl.isList (by simpa using ra) al (by omega) fun i u h' tk bs hi hr hk => ?_
    have hi' : its[i]? = some u := by simpa using hi
    obtain ⟨v, ev, rl⟩ := vals_get rv hi'
    obtain ⟨d, ed, dv⟩ := dpAll_get hd ev
    have I2 := I.kept (h' := h') (t' := tk) hk
    obtain ⟨cs, r2⟩ := Dp.reads I2 d v u dv rl
    have hm : d ∈ x :: ys := List.mem_of_getElem? ed
    have e2 : d = maxD x ys := alike_unique _ _ _ _ _ (al.1 _ hm _ (max_mem ys x)) r2 hr
    exact ⟨v, H, I2, rl, q i v d ev ed fun e he => by rw [e2]; exact maxD_ge ys x e he⟩
theorem cr_minG {X : Cx} (hc : X.calm = true) (hu : X.A.units + 100 < cLine) : CallR X (.builtin "min") (rMinG X.K) := by
  intro pins s σ H vs us Q I r h
  obtain ⟨a, xs, ds, rfl, hs, hd, hn, al, dp, q⟩ := h
  obtain ⟨its, rv, hl, _⟩ := I.list hs
  rw [Vals.ref1 r]
  obtain ⟨as, ra⟩ := Dp.readsAll I ds xs its hd rv
  cases ds with
  | nil => exact absurd rfl hn
  | cons x ys =>
    refine min_list_data (I.ok.hd hc) hl.isList (by simpa using ra) al (by omega) fun i u h' tk bs hi hr hk => ?_
    have hi' : its[i]? = some u := by simpa using hi
    obtain ⟨v, ev, rl⟩ := vals_get rv hi'
    obtain ⟨d, ed, dv⟩ := dpAll_get hd ev
    have I2 := I.kept (h' := h') (t' := tk) hk
    obtain ⟨cs, r2⟩ := Dp.reads I2 d v u dv rl
    have hm : d ∈ x :: ys := List.mem_of_getElem? ed
    have e2 : d = minD x ys := alike_unique _ _ _ _ _ (al.1 _ hm _ (min_mem ys x)) r2 hr
    exact ⟨v, H, I2, rl, q i v d ev ed fun e he => by rw [e2]; exact minD_le ys x e he⟩
theorem pdL_eq : ∀ (xs : List D), pdL xs = xs.map pd
  | [] => rfl
  | x :: xs => by unfold pdL; rw [pdL_eq xs]; rfl
def aMaxG : WRL := fun ds S Q => (match ds with
  | [.ref a] => (match S a with
    | some (.lst xs) => xs ≠ [] ∧ xs.all (okD 8) = true ∧ AlikeAll (xs.map pd) ∧ ∀ m, m ∈ xs → (∀ y, y ∈ xs → dLt m y = false) → Q m S
    | _ => False)
  | _ => False)
def aMinG : WRL := fun ds S Q => (match ds with
  | [.ref a] => (match S a with
    | some (.lst xs) => xs ≠ [] ∧ xs.all (okD 8) = true ∧ AlikeAll (xs.map pd) ∧ ∀ m, m ∈ xs → (∀ y, y ∈ xs → dLt y m = false) → Q m S
    | _ => False)
  | _ => False)
theorem sim_maxG {K : PySem.W.Frag} : SimL K (rMaxG K) aMaxG := fun xs ds H S QA Q p r a k => by
  match ds, a, p with
  | [.ref t], a, p =>
    obtain ⟨v, rfl, pv⟩ := repL1 p
    unfold RepV at pv
    subst pv
    unfold aMaxG at a
    cases e : S t with
    | none => simp [e] at a
    | some o =>
      cases o with
      | lst zs =>
        simp only [e] at a
        obtain ⟨h1, h2, h3, h4⟩ := a
        obtain ⟨vs, g1, g2⟩ := r t _ e
        refine ⟨t, vs, pdL zs, rfl, .inl (.inl g1), dpAll_of h2 g2, by rw [pdL_eq]; simpa using h1, by rw [pdL_eq]; exact h3, by have := (okL_lay h2).2; omega, fun i v d ev ed hm => ?_⟩
        obtain ⟨x, ex, px⟩ := g2.get_inv ev
        have e2 : d = pd x := by rw [pdL_eq, List.getElem?_map, ex] at ed; simpa using ed.symm
        exact k x S v H (h4 x (List.mem_of_getElem? ex) fun y hy => by
          have := hm (pd y) (by rw [pdL_eq]; exact List.mem_map_of_mem hy)
          rw [e2] at this
          exact this) (Le.refl H) r px
      | _ => simp [e] at a
theorem sim_minG {K : PySem.W.Frag} : SimL K (rMinG K) aMinG := fun xs ds H S QA Q p r a k => by
  match ds, a, p with
  | [.ref t], a, p =>
    obtain ⟨v, rfl, pv⟩ := repL1 p
    unfold RepV at pv
    subst pv
    unfold aMinG at a
    cases e : S t with
    | none => simp [e] at a
    | some o =>
      cases o with
      | lst zs =>
        simp only [e] at a
        obtain ⟨h1, h2, h3, h4⟩ := a
        obtain ⟨vs, g1, g2⟩ := r t _ e
        refine ⟨t, vs, pdL zs, rfl, .inl (.inl g1), dpAll_of h2 g2, by rw [pdL_eq]; simpa using h1, by rw [pdL_eq]; exact h3, by have := (okL_lay h2).2; omega, fun i v d ev ed hm => ?_⟩
        obtain ⟨x, ex, px⟩ := g2.get_inv ev
        have e2 : d = pd x := by rw [pdL_eq, List.getElem?_map, ex] at ed; simpa using ed.symm
        exact k x S v H (h4 x (List.mem_of_getElem? ex) fun y hy => by
          have := hm (pd y) (by rw [pdL_eq]; exact List.mem_map_of_mem hy)
          rw [e2] at this
          exact this) (Le.refl H) r px
      | _ => simp [e] at a
/-! pairs of ints -/
theorem dLt_pl (p q : Int × Int) : dLt (plD p) (plD q) = decide (p.1 < q.1 ∨ (p.1 = q.1 ∧ p.2 < q.2)) := dataLt_ii p.1 p.2 q.1 q.2
theorem dLt_pl_le (p q : Int × Int) : dLt (plD p) (plD q) = false ↔ lexLe q p := by
  rw [dLt_pl, decide_eq_false_iff_not]
  unfold lexLe
  omega
theorem alike_pl (p q : Int × Int) : alike (pd (plD p)) (pd (plD q)) = true := rfl
theorem alikeAll_pl (ps : List (Int × Int)) : AlikeAll ((ps.map plD).map pd) := by
  constructor
  · intro x hx y hy
    rw [List.map_map, List.mem_map] at hx hy
    obtain ⟨p, _, rfl⟩ := hx
    obtain ⟨q, _, rfl⟩ := hy
    exact alike_pl p q
  · intro x hx
    rw [List.map_map, List.mem_map] at hx
    obtain ⟨p, _, rfl⟩ := hx
    exact fun z => by cases z
theorem okD_pl (p : Int × Int) : okD 8 (plD p) = true := rfl
theorem aMax_pl {S : Sto} {a : Addr} {ps : List (Int × Int)} {Q : AK} (h : S a = some (.lst (ps.map plD))) (h0 : ps ≠ []) (q : ∀ m, m ∈ ps → (∀ y, y ∈ ps → lexLe y m) → Q (plD m) S) : aMaxG [.ref a] S Q := by
  simp only [aMaxG, h]
  refine ⟨by simpa using h0, ?_, alikeAll_pl ps, fun m hm hy => ?_⟩
  · rw [List.all_map, List.all_eq_true]; intro x _; rfl
  · obtain ⟨p, hp, rfl⟩ := List.mem_map.mp hm
    exact q p hp fun y h2 => (dLt_pl_le p y).mp (hy _ (List.mem_map_of_mem h2))
theorem aMin_pl {S : Sto} {a : Addr} {ps : List (Int × Int)} {Q : AK} (h : S a = some (.lst (ps.map plD))) (h0 : ps ≠ []) (q : ∀ m, m ∈ ps → (∀ y, y ∈ ps → lexLe m y) → Q (plD m) S) : aMinG [.ref a] S Q := by
  simp only [aMinG, h]
  refine ⟨by simpa using h0, ?_, alikeAll_pl ps, fun m hm hy => ?_⟩
  · rw [List.all_map, List.all_eq_true]; intro x _; rfl
  · obtain ⟨p, hp, rfl⟩ := List.mem_map.mp hm
    exact q p hp fun y h2 => (dLt_pl_le y p).mp (hy _ (List.mem_map_of_mem h2))
/-! sorted of a list of data -/
def srtD (xs : List D) : List D := xs.mergeSort fun x y => !dLt y x
def rSrtG (K : PySem.W.Frag) : List V → Hp → VK → Prop := fun vs H Q => ∃ (a : Addr) (bs : List (V × D)), vs = [V.ref a] ∧ SqL K H a (bs.map (·.1)) ∧ (∀ b ∈ bs, Dp K H b.1 (pd b.2)) ∧ AllAlike (bs.map fun b => pd b.2) ∧ Sortable (bs.map fun b => pd b.2) ∧ (∀ b ∈ bs, (pd b.2).depth ≤ 64) ∧ bs.length ≤ sizeLine ∧
  ∀ p, H p = none → Q (.ref p) (upd H p (.lst ((bs.mergeSort fun x y => !dLt y.2 x.2).map (·.1))))
theorem each_vals : ∀ {bs : List (V × D)} {us : List Value}, Vals (bs.map (·.1)) us → EachIs (fun u b => RelV b.1 u) us bs
  | [], _, h => by cases h; exact .nil
  | b :: bs, _, h => by
    cases h with
    | cons r t => exact .cons r (each_vals t)
theorem vals_each : ∀ {bs : List (V × D)} {us : List Value}, EachIs (fun u b => RelV b.1 u) us bs → Vals (bs.map (·.1)) us
  | [], _, h => by cases h; exact .nil
  | b :: bs, _, h => by
    cases h with
    | cons r t => exact .cons r (vals_each t)
theorem each_reads {X : Cx} {pins : List (Addr × Obj)} {σ : L2.St} {H : Hp} {s : Shared} (I : Inv X pins σ H s) : ∀ {bs : List (V × D)} {us : List Value}, (∀ b ∈ bs, Dp X.K H b.1 (pd b.2)) → Vals (bs.map (·.1)) us → EachIs (fun u b => ∃ as, Reads s.heap u (pd b.2) as) us bs
  | [], _, _, h => by cases h; exact .nil
  | b :: bs, _, hd, h => by
    cases h with
    | cons r t => exact .cons (Dp.reads I _ _ _ (hd b (List.mem_cons_self ..)) r) (each_reads I (fun c hc => hd c (List.mem_cons_of_mem _ hc)) t)
theorem cr_srtG {X : Cx} (hu : X.A.units + 100 < cLine) : CallR X (.builtin "sorted") (rSrtG X.K) := by
  intro pins s σ H vs us Q I r h
  obtain ⟨a, bs, rfl, hs, hd, al, so, dp, hz, q⟩ := h
  obtain ⟨its, rv, hl, _⟩ := I.list hs
  rw [Vals.ref1 r]
  refine sorted_data (R := fun u b => RelV b.1 u) (enc := fun b => pd b.2) hl.isList (each_vals rv) (each_reads I hd rv) al so hz (fun b hb => by have := dp b hb; omega) fun out ho he => ?_
  have he2 : EachIs (fun u b => RelV b.1 u) out (bs.mergeSort fun x y => !dLt y.2 x.2) := he
  obtain ⟨ep, he'⟩ := PyProof.Rows.sortedAll_at s.heap its out.toArray
  have hv := vals_each he2
  refine ⟨.ref _, _, I.laid (o := .lst ((bs.mergeSort fun x y => !dLt y.2 x.2).map (·.1))) (t' := s.toks) (fun _ _ => PyProof.Rows.sortedAll_old) (Nat.le_succ _) ⟨?_, out, ep, hv, he'⟩, rfl, q _ (I.hok.fresh (Nat.le_succ _))⟩
  rw [List.length_map, List.length_mergeSort]
  exact hz
end Ab
namespace Ab
open PySem PySem.Spec PyProof.Rows L2 RZ PySem.W
def aSrtG : WRL := fun ds S Q => (match ds with
  | [.ref a] => (match S a with
    | some (.lst xs) => xs.all (okD 8) = true ∧ AllAlike (xs.map pd) ∧ Sortable (xs.map pd) ∧ xs.length ≤ sizeLine ∧ ∀ p, S p = none → Q (.ref p) (put S p (.lst (srtD xs)))
    | _ => False)
  | _ => False)
theorem zip_fst {α β : Type} : ∀ {l : List α} {m : List β}, l.length = m.length → (l.zip m).map (·.1) = l
  | [], [], _ => rfl
  | a :: l, b :: m, h => by simp only [List.zip_cons_cons, List.map_cons]; rw [zip_fst (by simpa using h)]
theorem zip_snd {α β : Type} : ∀ {l : List α} {m : List β}, l.length = m.length → (l.zip m).map (·.2) = m
  | [], [], _ => rfl
  | a :: l, b :: m, h => by simp only [List.zip_cons_cons, List.map_cons]; rw [zip_snd (by simpa using h)]
theorem repL_zip {K : PySem.W.Frag} {H : Hp} : ∀ {ds : List D} {vs : List V}, RepL K H ds vs → ∀ b ∈ vs.zip ds, RepV K H b.2 b.1
  | [], _, h, b, hb => by rw [h.nil_inv] at hb; simp at hb
  | d :: ds, _, h, b, hb => by
    obtain ⟨v, r, rfl, p, t⟩ := h.inv
    rw [List.zip_cons_cons] at hb
    rcases List.mem_cons.mp hb with rfl | hb
    · exact p
    · exact repL_zip t b hb
theorem repL_of {K : PySem.W.Frag} {H : Hp} : ∀ {bs : List (V × D)}, (∀ b ∈ bs, RepV K H b.2 b.1) → RepL K H (bs.map (·.2)) (bs.map (·.1))
  | [], _ => repL_nil
  | b :: bs, h => repL_cons (h b (List.mem_cons_self ..)) (repL_of fun c hc => h c (List.mem_cons_of_mem _ hc))
theorem sort_zip (bs : List (V × D)) : (bs.mergeSort fun x y => !dLt y.2 x.2).map (·.2) = srtD (bs.map (·.2)) := by
  unfold srtD
  exact List.map_mergeSort (r := fun (x y : V × D) => !dLt y.2 x.2) (fun a _ b _ => rfl)
theorem sim_srtG {K : PySem.W.Frag} : SimL K (rSrtG K) aSrtG := fun xs ds H S QA Q p r a k => by
  match ds, a, p with
  | [.ref t], a, p =>
    obtain ⟨v, rfl, pv⟩ := repL1 p
    unfold RepV at pv
    subst pv
    unfold aSrtG at a
    cases e : S t with
    | none => simp [e] at a
    | some o =>
      cases o with
      | lst zs =>
        simp only [e] at a
        obtain ⟨h1, h2, h3, h4, h5⟩ := a
        obtain ⟨vs, g1, g2⟩ := r t _ e
        have hl : vs.length = zs.length := g2.length
        have m2 : ((vs.zip zs).map fun b => pd b.2) = zs.map pd := by
          have : ((vs.zip zs).map fun b => pd b.2) = ((vs.zip zs).map (·.2)).map pd := by rw [List.map_map]; rfl
          rw [this, zip_snd hl]
        have ok : ∀ b ∈ vs.zip zs, okD 8 b.2 = true := fun b hb => List.all_eq_true.mp h1 _ (by rw [← zip_snd hl]; exact List.mem_map_of_mem hb)
        refine ⟨t, vs.zip zs, rfl, by rw [zip_fst hl]; exact .inl (.inl g1), fun b hb => dp_of (ok b hb) (repL_zip g2 b hb), by rw [m2]; exact h2, by rw [m2]; exact h3, fun b hb => by have := (okD_lay (ok b hb)).2; omega, by rw [List.length_zip]; omega, fun q hq => ?_⟩
        refine k _ _ _ _ (h5 q (r.free hq)) (Le.new hq) (r.newP (o := .lst (srtD zs)) hq ⟨_, upd_same, ?_⟩) (rep_ref _)
        have := repL_of (K := K) (H := H) (bs := (vs.zip zs).mergeSort fun x y => !dLt y.2 x.2) fun b hb => repL_zip g2 b ((List.mergeSort_perm _ _).mem_iff.mp hb)
        rw [sort_zip, zip_snd hl] at this
        exact this.le (Le.new hq)
      | _ => simp [e] at a
end Ab
set_option Elab.async false
set_option linter.all false
set_option maxRecDepth 100000
set_option maxHeartbeats 4000000
/-! ### () * k -/
namespace L2
open PySem PySem.Spec PyProof.Rows
theorem tuple_mul0 (l : Addr) (n : Nat) (dd : Option Addr) (sl : Array (Option Value)) (k : Int) (u : Tok) (h1 : -1000 ≤ k) (h2 : k ≤ 1000) :
    Meets (Builtin.«tuple.__mul__» ⟨[.ref l, .int k u], []⟩) (fun _ R s => s.heap.get? l = some { cls := .type "tuple", dict := dd, data := .seq #[] n, slots := sl } ∧
      R (.ok (.ret (Value.ref l))) s) :=
  .of_wp fun prog w A R s h => by
    obtain ⟨hp, g, d, tk, os⟩ := s
    obtain ⟨hl, h⟩ := h
    have f1 := AutoSeq1.idx_int
    have c0 : (decide (k < -(2 ^ 63)) || decide (k ≥ 2 ^ 63)) = false := by
      rw [decide_eq_false (by omega), decide_eq_false (by omega)]
      rfl
    have c1 : ((#[] : Array Value).isEmpty || k == 1) = true := by simp
    wp_walk using wpAny_loadPart' hl
    repeat (first
      | (refine wpAny_ite_true (decide_eq_true c1) ?_; wp_walk using wpAny_loadPart' hl)
      | (refine wpAny_ite_true c1 ?_; wp_walk using wpAny_loadPart' hl)
      | (refine wpAny_ite_false (decide_eq_false (by rw [c0]; decide)) ?_; wp_walk using wpAny_loadPart' hl))
    exact ⟨_, rfl, h⟩
def rRepT0 (K : PySem.W.Frag) : R2 := fun x y H Q => ∃ l k, x = .ref l ∧ y = .int k ∧ -1000 ≤ k ∧ k ≤ 1000 ∧ SqT K H l [] ∧ Q (.ref l) H
section
variable {X : Cx}
theorem op_repT0 : OpR X (binaryOp .Mult) (rRepT0 X.K) := by
  intro pins s σ H x y v u Q I rx ry h
  obtain ⟨l, k, rfl, rfl, h1, h2, hT, q⟩ := h
  cases rx
  obtain ⟨t, rfl⟩ := ry
  obtain ⟨its, r, ⟨⟨cls, dd, data, sl⟩, ho, hc, n, hd⟩, hs⟩ := I.tuple hT
  cases r
  simp only at hc hd
  subst hc hd
  refine wpAny_binaryOp_repeat_ref (T := "tuple") (U := "int") (by decide) ⟨_, ho, rfl⟩ (fun s' => typeIs_int s' k t) noFill_tuple_mul F.fills_int_mul F.slot_int_rmul repeat_tuple F.slot_int_index.lookup
    (call_meets F.slot_int_rmul (typeIs_int s k t) F.entry_int_rmul (F.args_int_rmul_2 _ _) (int_rmul_tuple k t l _ n dd sl)
      ⟨ho, rfl, ⟨_, ho, rfl⟩, call_meets F.slot_tuple_mul ⟨_, ho, rfl⟩ F.entry_tuple_mul (F.args_tuple_mul_2 _ _) (tuple_mul0 l n dd sl k t h1 h2) ⟨ho, ?_⟩⟩)
  exact ⟨.ref l, H, I, rfl, q⟩
end
end L2
namespace Ab
open PySem PySem.Spec PyProof.Rows L2
def aMulC : WR2 := fun x y S Q => (match x, y with
  | .tup [], .int k => -1000 ≤ k ∧ k ≤ 1000 ∧ Q (.tup []) S
  | x, y => aMulB x y S Q)
theorem sim_mulC {K : PySem.W.Frag} : Sim2 K (fun x y H Q => rRepT0 K x y H Q ∨ rMulB K x y H Q) aMulC := fun x y dx dy H S QA Q p q r a k => by
  unfold aMulC at a
  split at a
  · have p0 := p
    unfold RepV at p q
    obtain ⟨t, vs, rfl, tp, rl⟩ := p
    rw [rl.nil_inv] at tp
    exact .inl ⟨t, _, rfl, q, a.1, a.2.1, tp.sq, k _ S _ H a.2.2 (Le.refl H) r p0⟩
  · exact .inr (sim_mulB x y dx dy H S QA Q p q r a k)
section
variable {X : Cx} {W : WX} {a b : Expr} {wa wb : WE} {pos : Pos}
theorem re_mulC (ha : RE X W a wa) (hb : RE X W b wb) : RE X W (.BinOp a .Mult b pos) (wOp aMulC wa wb) := re_op (op_repT0.or op_mulB) sim_mulC ha hb
end
end Ab
set_option Elab.async false
set_option linter.all false
set_option maxRecDepth 100000
set_option maxHeartbeats 4000000
/-! ### dicts as maps (plain) -/
namespace Ab
open PySem PySem.Spec PyProof.Rows L2
section
variable {κ : Type} [DecidableEq κ]
theorem getA_nil {k : κ} : getA ([] : List (κ × D)) k = none := rfl
theorem getA_cons {k k' : κ} {v : D} {r : List (κ × D)} : getA ((k, v) :: r) k' = if k = k' then some v else getA r k' := by
  unfold getA
  rw [List.find?_cons]
  by_cases h : k = k' <;> simp [h]
theorem getA_app {k : κ} : ∀ {l m : List (κ × D)}, getA (l ++ m) k = (match getA l k with | some v => some v | none => getA m k)
  | [], m => rfl
  | (a, v) :: l, m => by
    rw [List.cons_append, getA_cons, getA_cons, getA_app]
    by_cases h : a = k <;> simp [h]
theorem getA_none {k : κ} : ∀ {l : List (κ × D)}, getA l k = none ↔ k ∉ l.map (·.1)
  | [] => by simp [getA_nil]
  | (a, v) :: l => by
    rw [getA_cons, List.map_cons, List.mem_cons]
    by_cases h : a = k
    · simp [h]
    · rw [if_neg h, getA_none]
      simp [Ne.symm h]
theorem any_key {k : κ} {l : List (κ × D)} : (l.any fun kv => decide (kv.1 = k)) = true ↔ k ∈ l.map (·.1) := by
  rw [List.any_eq_true, List.mem_map]
  constructor
  · rintro ⟨x, hx, h⟩; exact ⟨x, hx, by simpa using h⟩
  · rintro ⟨x, hx, h⟩; exact ⟨x, hx, by simpa using h⟩
theorem keys_put {k : κ} {v : D} {l : List (κ × D)} : (putA l k v).map (·.1) = if k ∈ l.map (·.1) then l.map (·.1) else l.map (·.1) ++ [k] := by
  unfold putA
  by_cases h : k ∈ l.map (·.1)
  · rw [if_pos h, if_pos (any_key.mpr h), List.map_map]
    refine List.map_congr_left fun kv _ => ?_
    simp only [Function.comp]
    split <;> rfl
  · rw [if_neg h, if_neg (fun z => h (any_key.mp z)), List.map_append]
    rfl
theorem getA_map {k k' : κ} {v : D} : ∀ {l : List (κ × D)}, k ∈ l.map (·.1) → getA (l.map fun kv => if kv.1 = k then (kv.1, v) else kv) k' = if k' = k then some v else getA l k'
  | [], h => by simp at h
  | (a, x) :: l, h => by
    rw [List.map_cons]
    simp only
    by_cases ha : a = k
    · rw [if_pos ha, getA_cons, getA_cons]
      by_cases hk : a = k'
      · rw [if_pos hk, if_pos (by rw [← hk, ha])]
      · rw [if_neg hk, if_neg (fun z => hk (by rw [z, ha])), if_neg hk]
        by_cases hm : k ∈ l.map (·.1)
        · rw [getA_map hm, if_neg (fun z => hk (by rw [z, ha]))]
        · have e : (l.map fun kv => if kv.1 = k then (kv.1, v) else kv) = l := by
            conv => rhs; rw [← List.map_id l]
            refine List.map_congr_left fun kv hkv => ?_
            rw [if_neg (fun z => hm (by rw [← z]; exact List.mem_map_of_mem hkv))]
            rfl
          rw [e]
    · rw [if_neg ha, getA_cons, getA_cons]
      have hm : k ∈ l.map (·.1) := by
        rcases List.mem_cons.mp h with h | h
        · exact absurd h.symm ha
        · exact h
      by_cases hk : a = k'
      · rw [if_pos hk, if_pos hk, if_neg (fun z => ha (by rw [hk, z]))]
      · rw [if_neg hk, if_neg hk]
        exact getA_map hm
theorem getA_put {k k' : κ} {v : D} {l : List (κ × D)} : getA (putA l k v) k' = if k' = k then some v else getA l k' := by
  unfold putA
  by_cases h : k ∈ l.map (·.1)
  · rw [if_pos (any_key.mpr h)]
    exact getA_map h
  · rw [if_neg (fun z => h (any_key.mp z)), getA_app, getA_cons, getA_nil]
    by_cases hk : k' = k
    · subst hk
      rw [getA_none.mpr h, if_pos rfl]
    · rw [if_neg hk, if_neg (Ne.symm hk)]
      cases getA l k' <;> rfl
theorem getA_del {k k' : κ} : ∀ {l : List (κ × D)}, getA (delA l k) k' = if k' = k then none else getA l k'
  | [] => by simp [delA, getA_nil]
  | (a, v) :: l => by
    unfold delA
    rw [List.filter_cons]
    by_cases ha : a = k
    · rw [if_neg (by simp [ha]), getA_cons]
      have := getA_del (k := k) (k' := k') (l := l)
      unfold delA at this
      rw [this]
      by_cases hk : k' = k
      · simp [hk]
      · rw [if_neg hk, if_neg hk, if_neg (fun z => hk (by rw [← z, ha]))]
    · rw [if_pos (by simp [ha]), getA_cons, getA_cons]
      have := getA_del (k := k) (k' := k') (l := l)
      unfold delA at this
      rw [this]
      by_cases hk : a = k'
      · rw [if_pos hk, if_pos hk, if_neg (fun z => ha (by rw [hk, z]))]
      · rw [if_neg hk, if_neg hk]
theorem nodup_put {k : κ} {v : D} {l : List (κ × D)} (h : (l.map (·.1)).Nodup) : ((putA l k v).map (·.1)).Nodup := by
  rw [keys_put]
  split
  · exact h
  · rename_i hn
    rw [List.nodup_append]
    exact ⟨h, by simp, fun a ha b hb => by
      rw [List.mem_singleton.mp hb]
      exact fun z => hn (by rw [← z]; exact ha)⟩
theorem nodup_del {k : κ} {l : List (κ × D)} (h : (l.map (·.1)).Nodup) : ((delA l k).map (·.1)).Nodup := h.sublist (List.filter_sublist.map _)
theorem mem_keys_put {k k' : κ} {v : D} {l : List (κ × D)} : k' ∈ (putA l k v).map (·.1) ↔ k' = k ∨ k' ∈ l.map (·.1) := by
  rw [keys_put]
  split
  · rename_i h
    exact ⟨.inr, fun z => by
      rcases z with rfl | z
      · exact h
      · exact z⟩
  · rw [List.mem_append, List.mem_singleton]
    exact Or.comm
theorem mem_keys_del {k k' : κ} {l : List (κ × D)} : k' ∈ (delA l k).map (·.1) ↔ k' ≠ k ∧ k' ∈ l.map (·.1) := by
  unfold delA
  rw [List.mem_map, List.mem_map]
  constructor
  · rintro ⟨x, hx, rfl⟩
    obtain ⟨h1, h2⟩ := List.mem_filter.mp hx
    exact ⟨by simpa using h2, x, h1, rfl⟩
  · rintro ⟨h, x, hx, rfl⟩
    exact ⟨x, List.mem_filter.mpr ⟨hx, by simpa using h⟩, rfl⟩
end
/-- f with another value at i -/
def upF {α : Type} (f : Int → α) (i : Int) (v : α) : Int → α := fun j => if j = i then v else f j
theorem upF_same {α : Type} {f : Int → α} {i : Int} {v : α} : upF f i v i = v := by unfold upF; rw [if_pos rfl]
theorem upF_ne {α : Type} {f : Int → α} {i j : Int} {v : α} (h : j ≠ i) : upF f i v j = f j := by unfold upF; rw [if_neg h]
/-- a dict with ints as keys is a map -/
structure MapI {α : Type} (enc : α → D) (kvs : List (L2.Key × D)) (f : Int → Option α) : Prop where
  nd : (kvs.map (·.1)).Nodup
  int : ∀ k ∈ kvs.map (·.1), ∃ i, k = Sum.inl i
  get : ∀ i, getA kvs (Sum.inl i) = (f i).map enc
section
variable {α : Type} {enc : α → D} {kvs : List (L2.Key × D)} {f : Int → Option α}
theorem MapI.nil : MapI enc [] fun _ => none := ⟨by simp, by simp, fun _ => rfl⟩
theorem MapI.put (h : MapI enc kvs f) (i : Int) (v : α) : MapI enc (putA kvs (Sum.inl i) (enc v)) (upF f i (some v)) := by
  refine ⟨nodup_put h.nd, fun k hk => ?_, fun j => ?_⟩
  · rcases mem_keys_put.mp hk with rfl | hk
    · exact ⟨i, rfl⟩
    · exact h.int k hk
  · rw [getA_put]
    unfold upF
    by_cases hj : j = i
    · rw [if_pos (by rw [hj]), if_pos hj]; rfl
    · rw [if_neg (fun z => hj (Sum.inl.inj z)), if_neg hj]; exact h.get j
theorem MapI.del (h : MapI enc kvs f) (i : Int) : MapI enc (delA kvs (Sum.inl i)) (upF f i none) := by
  refine ⟨nodup_del h.nd, fun k hk => h.int k (mem_keys_del.mp hk).2, fun j => ?_⟩
  rw [getA_del]
  unfold upF
  by_cases hj : j = i
  · rw [if_pos (by rw [hj]), if_pos hj]; rfl
  · rw [if_neg (fun z => hj (Sum.inl.inj z)), if_neg hj]; exact h.get j
theorem ints_of : ∀ {ks : List L2.Key}, (∀ k ∈ ks, ∃ i, k = Sum.inl i) → ∃ is : List Int, ks = is.map Sum.inl
  | [], _ => ⟨[], rfl⟩
  | k :: ks, h => by
    obtain ⟨i, rfl⟩ := h k (List.mem_cons_self ..)
    obtain ⟨is, e⟩ := ints_of fun k' hk => h k' (List.mem_cons_of_mem _ hk)
    exact ⟨i :: is, by rw [e]; rfl⟩
theorem MapI.mem (h : MapI enc kvs f) {i : Int} : Sum.inl i ∈ kvs.map (·.1) ↔ (f i).isSome = true := by
  have := getA_none (k := (Sum.inl i : L2.Key)) (l := kvs)
  rw [h.get i] at this
  cases e : f i with
  | none => rw [e] at this; simp at this ⊢; exact this
  | some v =>
    rw [e] at this
    simp only [Option.map_some, reduceCtorEq, false_iff, Decidable.not_not] at this
    simpa using this
theorem MapI.keys (h : MapI enc kvs f) : ∃ is : List Int, kvs.map (·.1) = is.map Sum.inl ∧ is.Nodup ∧ ∀ i, i ∈ is ↔ (f i).isSome = true := by
  obtain ⟨is, e⟩ := ints_of h.int
  refine ⟨is, e, ?_, fun i => ?_⟩
  · have := h.nd
    rw [e] at this
    unfold List.Nodup at this ⊢
    rw [List.pairwise_map] at this
    exact this.imp fun {a b} z q => z (by rw [q])
  · rw [← h.mem, e, List.mem_map]
    exact ⟨fun z => ⟨i, z, rfl⟩, fun ⟨j, hj, q⟩ => by cases q; exact hj⟩
/-- all keys lie from lo on, n of them -/
def InR {α : Type} (lo : Int) (n : Nat) (f : Int → Option α) : Prop := ∀ i, (f i).isSome = true → lo ≤ i ∧ i < lo + n
/-- the keys, rising -/
def idsF {α : Type} (lo : Int) (n : Nat) (f : Int → Option α) : List Int := ((List.range n).map fun (k : Nat) => lo + (k : Int)).filter fun i => (f i).isSome
theorem idsF_mem {lo : Int} {n : Nat} (r : InR lo n f) {i : Int} : i ∈ idsF lo n f ↔ (f i).isSome = true := by
  unfold idsF
  rw [List.mem_filter, List.mem_map]
  constructor
  · exact fun h => h.2
  · intro h
    obtain ⟨h1, h2⟩ := r i h
    exact ⟨⟨(i - lo).toNat, by rw [List.mem_range]; omega, by omega⟩, h⟩
theorem idsF_up {lo : Int} {n : Nat} : (idsF lo n f).Pairwise (· < ·) := by
  unfold idsF
  refine List.Pairwise.filter _ ?_
  rw [List.pairwise_map]
  exact (List.pairwise_lt_range).imp fun {a b} h => by omega
theorem up_nodup {l : List Int} (h : l.Pairwise (· < ·)) : l.Nodup := h.imp fun {a b} z => by omega
theorem perm_of_mem {l m : List Int} (h1 : l.Nodup) (h2 : m.Nodup) (h : ∀ i, i ∈ l ↔ i ∈ m) : l.Perm m := (List.perm_ext_iff_of_nodup h1 h2).mpr h
theorem srt_ids {lo : Int} {n : Nat} {is : List Int} (r : InR lo n f) (nd : is.Nodup) (hm : ∀ i, i ∈ is ↔ (f i).isSome = true) : srtI is = idsF lo n f := by
  refine (srtI_eq (perm_of_mem (up_nodup idsF_up) nd fun i => ?_) (idsF_up.imp fun {a b} h => by omega)).symm
  rw [idsF_mem r, hm]
theorem idsF_len {lo : Int} {n : Nat} : (idsF lo n f).length ≤ n := by
  unfold idsF
  refine Nat.le_trans (List.length_filter_le _ _) ?_
  simp
theorem MapI.len {lo : Int} {n : Nat} (h : MapI enc kvs f) (r : InR lo n f) : kvs.length ≤ n := by
  obtain ⟨is, e, nd, hm⟩ := h.keys
  have h1 : kvs.length = is.length := by rw [← List.length_map (f := (·.1)), e, List.length_map]
  have h2 := srt_ids r nd hm
  have h3 := (srtI_perm is).length_eq
  rw [h2] at h3
  have := idsF_len (f := f) (lo := lo) (n := n)
  omega
/-- sorted(d) -/
theorem aSrt_map {lo : Int} {n : Nat} {S : Sto} {a : Addr} {Q : AK} (m : MapI enc kvs f) (r : InR lo n f) (hs : S a = some (.dK kvs)) (hl : kvs.length < 64) (q : ∀ p, S p = none → Q (.ref p) (put S p (.lst ((idsF lo n f).map D.int)))) : aSrt [.ref a] S Q := by
  obtain ⟨is, e, nd, hm⟩ := m.keys
  refine aSrt_d hs e (by rw [← List.length_map (f := (·.1)), e, List.length_map] at hl; exact hl) fun p hp => ?_
  rw [srt_ids r nd hm]
  exact q p hp
theorem InR.put {lo : Int} {n : Nat} {i : Int} {v : Option α} (r : InR lo n f) (h1 : lo ≤ i) (h2 : i < lo + n) : InR lo n (upF f i v) := fun j hj => by
  unfold upF at hj
  by_cases e : j = i
  · rw [e]; exact ⟨h1, h2⟩
  · rw [if_neg e] at hj; exact r j hj
theorem InR.del {lo : Int} {n : Nat} {i : Int} (r : InR lo n f) : InR lo n (upF f i none) := fun j hj => by
  unfold upF at hj
  by_cases e : j = i
  · rw [if_pos e] at hj; cases hj
  · rw [if_neg e] at hj; exact r j hj
theorem getA_of {κ : Type} [DecidableEq κ] : ∀ {l : List (κ × D)} {kv : κ × D}, (l.map (·.1)).Nodup → kv ∈ l → getA l kv.1 = some kv.2
  | [], _, _, h => by cases h
  | (a, v) :: l, kv, nd, h => by
    rw [List.map_cons, List.nodup_cons] at nd
    rw [getA_cons]
    rcases List.mem_cons.mp h with rfl | h
    · rw [if_pos rfl]
    · have hm : kv.1 ∈ l.map (·.1) := List.mem_map_of_mem h
      rw [if_neg (fun z => nd.1 (by rw [show a = kv.1 from z]; exact hm))]
      exact getA_of nd.2 h
/-- the entries, as they stand -/
theorem MapI.entries (h : MapI enc kvs f) : ∃ is : List Int, is.Nodup ∧ (∀ i, i ∈ is ↔ (f i).isSome = true) ∧ kvs = is.map fun i => (Sum.inl i, ((f i).map enc).getD .non) := by
  obtain ⟨is, e, nd, hm⟩ := h.keys
  refine ⟨is, nd, hm, ?_⟩
  have h1 : kvs = (kvs.map (·.1)).map fun k => (k, (getA kvs k).getD .non) := by
    rw [List.map_map]
    conv => lhs; rw [← List.map_id kvs]
    refine List.map_congr_left fun kv hkv => ?_
    simp only [Function.comp, getA_of h.nd hkv]
    rfl
  rw [h1, e, List.map_map]
  refine List.map_congr_left fun i _ => ?_
  simp only [Function.comp, h.get i]
theorem merge_map : ∀ (l : List (Int × α)) {kvs : List (L2.Key × D)} {f : Int → Option α}, MapI enc kvs f → MapI enc ((l.map fun x => (x.1, enc x.2)).foldl (fun acc kv => putA acc (Sum.inl kv.1) kv.2) kvs) (l.foldl (fun g x => upF g x.1 (some x.2)) f)
  | [], _, _, h => h
  | x :: l, _, _, h => by
    rw [List.map_cons, List.foldl_cons, List.foldl_cons]
    exact merge_map l (h.put x.1 x.2)
theorem mergeA_map (l : List (Int × α)) : MapI enc (mergeA (l.map fun x => (x.1, enc x.2))) (l.foldl (fun g x => upF g x.1 (some x.2)) fun _ => none) := merge_map l MapI.nil
theorem foldF_not : ∀ (l : List (Int × α)) (f : Int → Option α) (i : Int), i ∉ l.map (·.1) → (l.foldl (fun g x => upF g x.1 (some x.2)) f) i = f i
  | [], _, _, _ => rfl
  | x :: l, f, i, h => by
    rw [List.map_cons, List.mem_cons, not_or] at h
    rw [List.foldl_cons, foldF_not l _ i h.2, upF_ne h.1]
theorem foldF_get : ∀ (l : List (Int × α)) (f : Int → Option α) (x : Int × α), (l.map (·.1)).Nodup → x ∈ l → (l.foldl (fun g x => upF g x.1 (some x.2)) f) x.1 = some x.2
  | [], _, _, _, h => by cases h
  | y :: l, f, x, nd, h => by
    rw [List.map_cons, List.nodup_cons] at nd
    rw [List.foldl_cons]
    rcases List.mem_cons.mp h with rfl | h
    · rw [foldF_not l _ _ nd.1, upF_same]
    · exact foldF_get l _ x nd.2 h
end
end Ab
set_option Elab.async false
set_option linter.all false
set_option maxRecDepth 100000
set_option maxHeartbeats 4000000
/-! ### rooms (plain): a search by breadth -/
namespace Ab
open PySem PySem.Spec PyProof.Rows L2
abbrev Drs := List (Int × Int)
/-- rooms beside -/
def nbF (ds : Drs) (r : Int) : List Int := srtI ((ds.filter fun d => decide (r = d.1 ∨ r = d.2)).map fun d => d.1 + d.2 - r)
def rlx (d : Int) (st : (Int → Option Int) × List Int) (o : Int) : (Int → Option Int) × List Int := if (st.1 o).isSome = true then st else (upF st.1 o (some (d + 1)), st.2 ++ [o])
def bfs (ds : Drs) : Nat → (Int → Option Int) → List Int → (Int → Option Int)
  | 0, f, _ => f
  | _ + 1, f, [] => f
  | n + 1, f, h :: t => bfs ds n ((nbF ds h).foldl (rlx ((f h).getD 0)) (f, t)).1 ((nbF ds h).foldl (rlx ((f h).getD 0)) (f, t)).2
def stF (ds : Drs) (r : Int) : Int → Option Int := bfs ds 10 (upF (fun _ => none) r (some 0)) [r]
def stepsL (ds : Drs) (r : Int) : List (Int × Int) := (idsF 0 10 (stF ds r)).map fun i => (i, ((stF ds r) i).getD 0)
def reachL (ds : Drs) (r deep : Int) : List Int := (idsF 0 10 (stF ds r)).filter fun i => decide (((stF ds r) i).getD 0 ≤ deep)
/-- doors between rooms from 0 to 9 -/
def DrOk (ds : Drs) : Prop := ∀ d ∈ ds, 0 ≤ d.1 ∧ d.1 < 10 ∧ 0 ≤ d.2 ∧ d.2 < 10
theorem nbF_mem {ds : Drs} {r o : Int} : o ∈ nbF ds r ↔ ∃ d ∈ ds, (d.1 = r ∧ d.2 = o) ∨ (d.1 = o ∧ d.2 = r) := by
  unfold nbF
  rw [(srtI_perm _).mem_iff, List.mem_map]
  constructor
  · rintro ⟨d, hd, rfl⟩
    obtain ⟨h1, h2⟩ := List.mem_filter.mp hd
    refine ⟨d, h1, ?_⟩
    have : r = d.1 ∨ r = d.2 := by simpa using h2
    rcases this with h | h
    · exact .inl ⟨h.symm, by omega⟩
    · exact .inr ⟨by omega, h.symm⟩
  · rintro ⟨d, hd, h⟩
    refine ⟨d, List.mem_filter.mpr ⟨hd, ?_⟩, ?_⟩
    · rcases h with h | h
      · simp [h.1]
      · simp [h.2]
    · rcases h with h | h <;> omega
theorem nbF_sym {ds : Drs} {r o : Int} : o ∈ nbF ds r ↔ r ∈ nbF ds o := by
  rw [nbF_mem, nbF_mem]
  constructor
  · rintro ⟨d, hd, h | h⟩
    · exact ⟨d, hd, .inr h⟩
    · exact ⟨d, hd, .inl ⟨h.1, h.2⟩⟩
  · rintro ⟨d, hd, h | h⟩
    · exact ⟨d, hd, .inr h⟩
    · exact ⟨d, hd, .inl ⟨h.1, h.2⟩⟩
theorem nbF_rng {ds : Drs} (ok : DrOk ds) {r o : Int} (h : o ∈ nbF ds r) : 0 ≤ o ∧ o < 10 := by
  obtain ⟨d, hd, h⟩ := nbF_mem.mp h
  have := ok d hd
  rcases h with h | h <;> omega
theorem nbF_len {ds : Drs} {r : Int} : (nbF ds r).length ≤ ds.length := by
  unfold nbF
  rw [(srtI_perm _).length_eq, List.length_map]
  exact List.length_filter_le _ _
theorem ids_put {f : Int → Option Int} {o v : Int} (r : InR 0 10 f) (hn : f o = none) (h1 : 0 ≤ o) (h2 : o < 10) : (idsF 0 10 (upF f o (some v))).length = (idsF 0 10 f).length + 1 := by
  have r' : InR 0 10 (upF f o (some v)) := r.put h1 (by omega)
  have p : (idsF 0 10 (upF f o (some v))).Perm (o :: idsF 0 10 f) := by
    refine perm_of_mem (up_nodup idsF_up) (List.nodup_cons.mpr ⟨fun z => ?_, up_nodup idsF_up⟩) fun i => ?_
    · rw [idsF_mem r, hn] at z; cases z
    · rw [idsF_mem r', List.mem_cons, idsF_mem r]
      unfold upF
      by_cases e : i = o <;> simp [e]
  rw [p.length_eq, List.length_cons]
/-- one relaxing -/
structure RlxI (f : Int → Option Int) (t : List Int) (h : Int) (st : (Int → Option Int) × List Int) : Prop where
  rng : InR 0 10 st.1
  same : ∀ i, (f i).isSome = true → st.1 i = f i
  len : st.2.length + (idsF 0 10 f).length = t.length + (idsF 0 10 st.1).length
theorem rlx_inv {f : Int → Option Int} {t : List Int} {h d o : Int} {st : (Int → Option Int) × List Int} (i : RlxI f t h st) (h1 : 0 ≤ o) (h2 : o < 10) : RlxI f t h (rlx d st o) := by
  unfold rlx
  split
  · exact i
  · rename_i hn
    have hn' : st.1 o = none := by simpa using hn
    refine ⟨i.rng.put h1 (by omega), fun j hj => ?_, ?_⟩
    · have e := i.same j hj
      rw [← e]
      refine upF_ne fun z => ?_
      rw [z] at e hj
      rw [hn'] at e
      rw [← e] at hj
      cases hj
    · have := i.len
      rw [ids_put i.rng hn' h1 h2, List.length_append]
      simp
      omega
theorem rlx_fold {f : Int → Option Int} {t : List Int} {h d : Int} : ∀ {os : List Int} {st : (Int → Option Int) × List Int}, RlxI f t h st → (∀ o ∈ os, 0 ≤ o ∧ o < 10) → RlxI f t h (os.foldl (rlx d) st)
  | [], _, i, _ => i
  | o :: os, st, i, h => rlx_fold (os := os) (rlx_inv i (h o (by simp)).1 (h o (by simp)).2) fun o' ho => h o' (by simp [ho])
theorem foldl_snoc {α β : Type} (g : β → α → β) (st : β) (os : List α) (o : α) : (os ++ [o]).foldl g st = g (os.foldl g st) o := by rw [List.foldl_append]; rfl
end Ab
set_option Elab.async false
set_option linter.all false
set_option maxRecDepth 100000
set_option maxHeartbeats 4000000
/-! ### loops over a dict: it is locked meanwhile -/
namespace Ab
open PySem PySem.Spec PyProof.Rows L2
def wLockS (w : WS) : WS := fun A ρ S => ∃ d kvs, S d = some (.dK kvs) ∧ ∀ od us, w
  { nx := fun ρ' S' => S' d = some (.lok od us kvs) ∧ A.nx ρ' (put S' d (.dK kvs))
    rt := fun v S' => S' d = some (.lok od us kvs) ∧ A.rt v (put S' d (.dK kvs))
    bk := fun ρ' S' => S' d = some (.lok od us kvs) ∧ A.bk ρ' (put S' d (.dK kvs))
    ct := fun ρ' S' => S' d = some (.lok od us kvs) ∧ A.ct ρ' (put S' d (.dK kvs))
    xe := fun _ _ _ => False } ρ (put S d (.lok od us kvs))
def wLockE (w : WE) : WE := fun ρ S Q _ => ∃ d kvs, S d = some (.dK kvs) ∧ ∀ od us, w ρ (put S d (.lok od us kvs)) (fun v S' => S' d = some (.lok od us kvs) ∧ Q v (put S' d (.dK kvs))) fun _ _ => False
section
variable {X : Cx} {W : WX} {st : Stmt} {e : Expr} {w : WS} {we : WE}
theorem repK_back {K : PySem.W.Frag} {H : Hp} {S : Sto} {d : Addr} {od : Obj} {us : List (Key × V)} {kvs : List (Key × D)} (r : Rep K H S) (h : S d = some (.lok od us kvs)) : H d = some (.frz od (.dK us)) ∧ Le H (upd H d (.dK us)) ∧ Rep K (upd H d (.dK us)) (put S d (.dK kvs)) := by
  obtain ⟨h1, h2⟩ := r d _ h
  have L : Le H (upd H d (.dK us)) := Le.put h1 (fun z => z)
  exact ⟨h1, L, r.put h ⟨us, upd_same, h2.le L⟩⟩
theorem rs_lock (h : RS X W st w) : RS X W st (wLockS w) := ps_imp (ps_lock h) fun E σ H ⟨ρ, S, A, rs, rp, ⟨d, kvs, e, hw⟩, k⟩ => by
  obtain ⟨us, g1, g2⟩ := rp d _ e
  refine ⟨d, .dK us, g1, trivial, fun od => ?_⟩
  have L : Le H (upd H d (.frz od (.dK us))) := Le.put g1 (fun z => z)
  refine ⟨ρ, put S d (.lok od us kvs), _, rs.le L, rp.put e ⟨upd_same, g2.le L⟩, hw od us, ⟨?_, ?_, ?_, ?_, ?_⟩⟩
  · rintro ρ' S' σ' H' ⟨q1, q2⟩ l rs' rp'
    obtain ⟨b1, b2, b3⟩ := repK_back rp' q1
    exact ⟨b1, k.nx ρ' _ σ' _ q2 ((L.trans l).trans b2) (rs'.le b2) b3⟩
  · rintro v S' v' H' ⟨q1, q2⟩ l rp' p'
    obtain ⟨b1, b2, b3⟩ := repK_back rp' q1
    exact ⟨b1, k.rt v _ v' _ q2 ((L.trans l).trans b2) b3 (p'.le b2)⟩
  · rintro ρ' S' σ' H' ⟨q1, q2⟩ l rs' rp'
    obtain ⟨b1, b2, b3⟩ := repK_back rp' q1
    exact ⟨b1, k.bk ρ' _ σ' _ q2 ((L.trans l).trans b2) (rs'.le b2) b3⟩
  · rintro ρ' S' σ' H' ⟨q1, q2⟩ l rs' rp'
    obtain ⟨b1, b2, b3⟩ := repK_back rp' q1
    exact ⟨b1, k.ct ρ' _ σ' _ q2 ((L.trans l).trans b2) (rs'.le b2) b3⟩
  · exact fun _ _ _ _ _ z => z.elim
theorem re_lockE (h : RE X W e we) : RE X W e (wLockE we) := pe_imp (pe_lock h) fun σ H Q ⟨ρ, S, QA, EA, rs, rp, ⟨d, kvs, e, hw⟩, k, x⟩ => by
  obtain ⟨us, g1, g2⟩ := rp d _ e
  refine ⟨d, .dK us, g1, trivial, fun od => ?_⟩
  have L : Le H (upd H d (.frz od (.dK us))) := Le.put g1 (fun z => z)
  refine ⟨ρ, put S d (.lok od us kvs), _, _, rs.le L, rp.put e ⟨upd_same, g2.le L⟩, hw od us, fun v S' v' H' ⟨q1, q2⟩ l rp' p' => ?_, fun _ _ _ z => z.elim⟩
  obtain ⟨b1, b2, b3⟩ := repK_back rp' q1
  exact ⟨b1, k v _ v' _ q2 ((L.trans l).trans b2) b3 (p'.le b2)⟩
end
def keyD : Key → D
  | .inl i => .int i
  | .inr x => .str x
theorem keyD_rep {K : PySem.W.Frag} {H : Hp} (k : Key) : RepV K H (keyD k) (kV k) := by
  cases k <;> (unfold keyD RepV; rfl)
def wKeysI (w : WE) : WI := fun ρ S Q E => w ρ S (fun d S1 => (match d with
  | .ref a => (match S1 a with
    | some (.lok od us kvs) => Q ⟨kvs.map fun kv => keyD kv.1, fun S' => S' a = some (.lok od us kvs)⟩ S1
    | _ => False)
  | _ => False)) E
theorem isim_keys {K : PySem.W.Frag} {H : Hp} {a : Addr} {od : Obj} {us : List (Key × V)} {kvs : List (Key × D)} : ISim K H (Itk a od us) ⟨kvs.map fun kv => keyD kv.1, fun S' => S' a = some (.lok od us kvs)⟩ := fun i H' S' l' r' st => by
  obtain ⟨h1, h2⟩ := r' a _ st
  have hk := h2.keys
  have hl := h2.length
  refine ⟨fun d e => ?_, fun hl' => ⟨h1, by rw [List.length_map] at hl'; omega⟩⟩
  rw [List.getElem?_map, Option.map_eq_some_iff] at e
  obtain ⟨kv, e1, rfl⟩ := e
  have hi : i < kvs.length := (List.getElem?_eq_some_iff.mp e1).1
  refine ⟨⟨h1, by omega⟩, fun x H2 ⟨e2, k, v, e3, e4⟩ => ?_⟩
  subst e2 e4
  refine ⟨Le.refl _, r', ?_⟩
  have : (us.map (·.1))[i]? = some k := by rw [List.getElem?_map, e3]; rfl
  rw [hk, List.getElem?_map, e1] at this
  have e5 : kv.1 = k := by simpa using this
  rw [e5]
  exact keyD_rep k
section
variable {X : Cx} {W : WX} {tg l : Expr} {wl : WE}
theorem ri_keys (hl : RE X W l wl) : RI X W tg l (wKeysI wl) := pi_imp (pi_keys hl) fun σ H R ⟨ρ, S, QA, EA, rs, rp, h, k, x⟩ => ⟨ρ, S, _, EA, rs, rp, h, fun d S1 v H1 h1 l1 r1 p1 => by
  cases d with
  | ref a =>
    unfold RepV at p1
    subst p1
    cases e : S1 a with
    | none => simp [e] at h1
    | some o =>
      cases o with
      | lok od us kvs =>
        simp only [e] at h1
        exact ⟨a, od, rfl, .inl ⟨us, (r1 a _ e).1, k _ S1 _ H1 h1 l1 r1 isim_keys⟩⟩
      | _ => simp [e] at h1
  | _ => exact (show False from h1).elim, x⟩
end
end Ab
set_option Elab.async false
set_option linter.all false
set_option maxRecDepth 100000
set_option maxHeartbeats 4000000
/-! ### tellers (plain) -/
namespace Ab
open PySem PySem.Spec PyProof.Rows L2
def dist (p q : Int × Int) : Int := max (p.1 - q.1).natAbs (p.2 - q.2).natAbs
theorem dist_comm (p q : Int × Int) : dist p q = dist q p := by unfold dist; omega
theorem dist_nn (p q : Int × Int) : 0 ≤ dist p q := by unfold dist; omega
structure Tg where
  pl : Int × Int
  room : Int
  grp : Option Int
structure Sg where
  far : Int
  slack : Int
  deep : Int
structure Tel where
  doors : Drs
  things : Int → Option Tg
  sights : Int → Option Sg
  kn : Int → Int → Bool
structure Rw where
  time : Fr
  met : Bool
  h : Int
  n : Int
deriving DecidableEq
def gpD : Option Int → D
  | none => .non
  | some g => .int g
def tgD (t : Tg) : D := .tup [plD t.pl, .int t.room, gpD t.grp]
def sgD (s : Sg) : D := .tup [.int s.far, .int s.slack, .int s.deep]
def wdD (b : Bool) : D := .str (if b = true then "met" else "lost")
def rwD (r : Rw) : D := .tup [plD r.time, wdD r.met, .int r.h, .int r.n]
def rwsD (rs : List Rw) : D := .tup (rs.map rwD)
namespace Tel
def ids (t : Tel) : List Int := idsF 0 100 t.things
def hs (t : Tel) : List Int := idsF 0 100 t.sights
def joined (t : Tel) (h n : Int) : Bool := match t.things h, t.things n with
  | some a, some b => a.grp.isSome && decide (a.grp = b.grp)
  | _, _ => false
def hears (t : Tel) (h n : Int) : Bool := match t.things h, t.things n, t.sights h with
  | some a, some b, some s => decide (b.room ∈ reachL t.doors a.room s.deep)
  | _, _, _ => false
def close (t : Tel) (h n : Int) : Bool := match t.things h, t.things n, t.sights h with
  | some a, some b, some s => decide (dist a.pl b.pl ≤ s.far + (if t.kn h n = true then s.slack else 0))
  | _, _, _ => false
def fits (t : Tel) (h n : Int) : Bool := t.joined h n || (t.hears h n && t.close h n)
/-- a hearer and another thing -/
def live (t : Tel) (h n : Int) : Bool := (t.sights h).isSome && (t.things n).isSome && decide (n ≠ h)
def settle (t : Tel) : Tel := { t with kn := fun h n => if t.live h n = true then t.fits h n else t.kn h n }
def setRow (t : Tel) (h : Int) (ns : List Int) : List Rw := (ns.filter fun n => decide (n ≠ h) && (t.fits h n != t.kn h n)).map fun n => ⟨(0, 1), t.fits h n, h, n⟩
def setRows (t : Tel) : List Rw := t.hs.flatMap fun h => t.setRow h t.ids
def new (ds : Drs) : Tel := ⟨ds, fun _ => none, fun _ => none, fun _ _ => false⟩
def addT (t : Tel) (i : Int) (g : Tg) : Tel := { t with things := upF t.things i (some g) }
def addS (t : Tel) (i : Int) (s : Sg) : Tel := { t with sights := upF t.sights i (some s) }
def deaf (t : Tel) (i : Int) : Tel := { t with sights := upF t.sights i none, kn := fun h n => if h = i then false else t.kn h n }
def gone (t : Tel) (i : Int) : Tel := { t with things := upF t.things i none, sights := upF t.sights i none, kn := fun h n => if h = i ∨ n = i then false else t.kn h n }
def setDoors (t : Tel) (ds : Drs) : Tel := { t with doors := ds }
/-- whom a hearer knows, who knows a thing -/
def knows (t : Tel) (h : Int) : List Int := t.ids.filter fun n => t.kn h n
def knownBy (t : Tel) (n : Int) : List Int := t.hs.filter fun h => t.kn h n
end Tel
def drD (ds : Drs) : D := .tup (ds.map plD)
/-- doors, rising -/
structure DrU (ds : Drs) : Prop where
  ok : DrOk ds
  lt : ∀ d ∈ ds, d.1 < d.2
  nd : ds.Nodup
  up : ds.Pairwise lexLe
theorem drU_len {ds : Drs} (h : DrU ds) : ds.length ≤ 45 := by
  have key : ∀ {l m : List Int}, l.Nodup → (∀ x ∈ l, x ∈ m) → l.length ≤ m.length := by
    intro l
    induction l with
    | nil => intro m _ _; simp
    | cons a l ih =>
      intro m h s
      have hn := List.nodup_cons.mp h
      have ha : a ∈ m := s a (by simp)
      have := ih (m := m.erase a) hn.2 fun x hx => (List.mem_erase_of_ne (fun (e : x = a) => hn.1 (by rw [← e]; exact hx))).mpr (s x (by simp [hx]))
      rw [List.length_erase_of_mem ha] at this
      have : 0 < m.length := List.length_pos_iff.mpr (List.ne_nil_of_mem ha)
      simp only [List.length_cons]
      omega
  have h1 : (ds.map fun d => d.1 * 10 + d.2).Nodup := by
    unfold List.Nodup
    rw [List.pairwise_map]
    refine List.Pairwise.imp_of_mem (fun {a b} ha hb hne z => hne ?_) h.nd
    have := h.ok a ha
    have := h.ok b hb
    exact Prod.ext (by omega) (by omega)
  have h2 := key h1 (m := ((List.range 100).filter fun c => decide (c / 10 < c % 10)).map fun (c : Nat) => (c : Int)) fun x hx => by
    obtain ⟨d, hd, rfl⟩ := List.mem_map.mp hx
    have h3 := h.ok d hd
    have h4 := h.lt d hd
    refine List.mem_map.mpr ⟨(d.1 * 10 + d.2).toNat, List.mem_filter.mpr ⟨List.mem_range.mpr (by omega), decide_eq_true (by omega)⟩, by omega⟩
  rw [List.length_map] at h2
  refine Nat.le_trans h2 ?_
  decide
structure TOk (t : Tel) : Prop where
  rng : InR 0 100 t.things
  cnt : t.ids.length < 64
  sub : ∀ h, (t.sights h).isSome = true → (t.things h).isSome = true
  knt : ∀ h n, t.kn h n = true → (t.sights h).isSome = true ∧ (t.things n).isSome = true
  room : ∀ i g, t.things i = some g → 0 ≤ g.room ∧ g.room < 10
  pl : ∀ i g, t.things i = some g → g.pl.1.natAbs ≤ 400000 ∧ g.pl.2.natAbs ≤ 400000
  sg : ∀ h s, t.sights h = some s → (0 ≤ s.far ∧ s.far ≤ 400000) ∧ 0 ≤ s.slack ∧ s.slack ≤ 400000
  dr : DrU t.doors
section
variable {t : Tel}
theorem TOk.rngS (o : TOk t) : InR 0 100 t.sights := fun i hi => o.rng i (o.sub i hi)
theorem TOk.hid (o : TOk t) {h : Int} : h ∈ t.hs ↔ (t.sights h).isSome = true := idsF_mem o.rngS
theorem TOk.iid (o : TOk t) {n : Int} : n ∈ t.ids ↔ (t.things n).isSome = true := idsF_mem o.rng
theorem sub_len {α β : Type} {f : Int → Option α} {g : Int → Option β} (h : ∀ i, (f i).isSome = true → (g i).isSome = true) {lo : Int} {n : Nat} : (idsF lo n f).length ≤ (idsF lo n g).length := by
  unfold idsF
  have : ∀ l : List Int, (l.filter fun i => (f i).isSome).length ≤ (l.filter fun i => (g i).isSome).length := by
    intro l
    induction l with
    | nil => simp
    | cons a l ih =>
      rw [List.filter_cons, List.filter_cons]
      by_cases ha : (f a).isSome = true
      · rw [if_pos ha, if_pos (h a ha)]; simp; exact ih
      · rw [if_neg ha]
        split
        · simp; omega
        · exact ih
  exact this _
theorem TOk.cntS (o : TOk t) : t.hs.length < 64 := Nat.lt_of_le_of_lt (sub_len o.sub) o.cnt
theorem fits_true {h n : Int} (o : TOk t) (hn : t.fits h n = true) (hh : (t.sights h).isSome = true) : (t.things n).isSome = true := by
  unfold Tel.fits Tel.joined Tel.hears at hn
  cases e : t.things n with
  | some b => rfl
  | none =>
    rw [e] at hn
    cases t.things h <;> cases t.sights h <;> simp at hn
theorem TOk.settle (o : TOk t) : TOk t.settle := by
  refine ⟨o.rng, o.cnt, o.sub, fun h n hk => ?_, o.room, o.pl, o.sg, o.dr⟩
  unfold Tel.settle at hk
  simp only at hk
  split at hk
  · rename_i hl
    unfold Tel.live at hl
    simp only [Bool.and_eq_true] at hl
    exact ⟨hl.1.1, hl.1.2⟩
  · exact o.knt h n hk
theorem TOk.addT (o : TOk t) {i : Int} {g : Tg} (hi : 0 ≤ i ∧ i < 100) (hc : (idsF 0 100 (upF t.things i (some g))).length < 64) (hr : 0 ≤ g.room ∧ g.room < 10) (hp : g.pl.1.natAbs ≤ 400000 ∧ g.pl.2.natAbs ≤ 400000) : TOk (t.addT i g) := by
  have up : ∀ j, (t.things j).isSome = true → (upF t.things i (some g) j).isSome = true := fun j hj => by
    unfold upF; split
    · rfl
    · exact hj
  refine ⟨o.rng.put hi.1 (by omega), hc, fun h hh => up h (o.sub h hh), fun h n hk => ⟨(o.knt h n hk).1, up n (o.knt h n hk).2⟩, fun j u e => ?_, fun j u e => ?_, o.sg, o.dr⟩
  · unfold Tel.addT upF at e
    simp only at e
    split at e
    · cases e; exact hr
    · exact o.room j u e
  · unfold Tel.addT upF at e
    simp only at e
    split at e
    · cases e; exact hp
    · exact o.pl j u e
theorem ids_same {α : Type} {f : Int → Option α} {i : Int} {g : α} (h : (f i).isSome = true) {lo : Int} {n : Nat} : idsF lo n (upF f i (some g)) = idsF lo n f := by
  unfold idsF
  refine List.filter_congr fun j _ => ?_
  unfold upF
  by_cases e : j = i
  · rw [if_pos e, e, h]; rfl
  · rw [if_neg e]
theorem TOk.addS (o : TOk t) {i : Int} {s : Sg} (hi : (t.things i).isSome = true) (hs : (0 ≤ s.far ∧ s.far ≤ 400000) ∧ 0 ≤ s.slack ∧ s.slack ≤ 400000) : TOk (t.addS i s) := by
  have up : ∀ j, (t.sights j).isSome = true → (upF t.sights i (some s) j).isSome = true := fun j hj => by
    unfold upF; split
    · rfl
    · exact hj
  refine ⟨o.rng, o.cnt, fun h hh => ?_, fun h n hk => ⟨up h (o.knt h n hk).1, (o.knt h n hk).2⟩, o.room, o.pl, fun h u e => ?_, o.dr⟩
  · unfold Tel.addS upF at hh
    simp only at hh
    split at hh
    · rename_i e; rw [e]; exact hi
    · exact o.sub h hh
  · unfold Tel.addS upF at e
    simp only at e
    split at e
    · cases e; exact hs
    · exact o.sg h u e
theorem TOk.deaf (o : TOk t) {i : Int} : TOk (t.deaf i) := by
  refine ⟨o.rng, o.cnt, fun h hh => ?_, fun h n hk => ?_, o.room, o.pl, fun h u e => ?_, o.dr⟩
  · unfold Tel.deaf upF at hh
    simp only at hh
    split at hh
    · cases hh
    · exact o.sub h hh
  · unfold Tel.deaf at hk ⊢
    simp only at hk ⊢
    split at hk
    · cases hk
    · rename_i e; rw [upF_ne e]; exact o.knt h n hk
  · unfold Tel.deaf upF at e
    simp only at e
    split at e
    · cases e
    · exact o.sg h u e
theorem ids_del_len {α : Type} {f : Int → Option α} {i lo : Int} {n : Nat} : (idsF lo n (upF f i none)).length ≤ (idsF lo n f).length := sub_len fun j hj => by
  unfold upF at hj
  split at hj
  · cases hj
  · exact hj
theorem TOk.gone (o : TOk t) {i : Int} : TOk (t.gone i) := by
  refine ⟨o.rng.del, Nat.lt_of_le_of_lt ids_del_len o.cnt, fun h hh => ?_, fun h n hk => ?_, fun j g e => ?_, fun j g e => ?_, fun h u e => ?_, o.dr⟩
  · unfold Tel.gone upF at hh ⊢
    simp only at hh ⊢
    split at hh
    · cases hh
    · rename_i e; rw [if_neg e]; exact o.sub h hh
  · unfold Tel.gone at hk ⊢
    simp only at hk ⊢
    split at hk
    · cases hk
    · rename_i e
      rw [not_or] at e
      rw [upF_ne e.1, upF_ne e.2]; exact o.knt h n hk
  · unfold Tel.gone upF at e
    simp only at e
    split at e
    · cases e
    · exact o.room j g e
  · unfold Tel.gone upF at e
    simp only at e
    split at e
    · cases e
    · exact o.pl j g e
  · unfold Tel.gone upF at e
    simp only at e
    split at e
    · cases e
    · exact o.sg h u e
theorem TOk.setDoors (o : TOk t) {ds : Drs} (h : DrU ds) : TOk (t.setDoors ds) := ⟨o.rng, o.cnt, o.sub, o.knt, o.room, o.pl, o.sg, h⟩
theorem TOk.new {ds : Drs} (h : DrU ds) : TOk (Tel.new ds) := ⟨fun i hi => by simp [Tel.new] at hi, (by show (idsF 0 100 (fun _ : Int => (none : Option Tg))).length < 64; decide), fun _ h => by simp [Tel.new] at h, fun _ _ h => by simp [Tel.new] at h, fun _ _ h => by simp [Tel.new] at h, fun _ _ h => by simp [Tel.new] at h, fun _ _ h => by simp [Tel.new] at h, h⟩
end
end Ab
set_option Elab.async false
set_option linter.all false
set_option maxRecDepth 100000
set_option maxHeartbeats 4000000
/-! ### a teller in the store -/
namespace Ab
open PySem PySem.Spec PyProof.Rows L2
structure TRef where
  a : Addr
  d1 : Addr
  d2 : Addr
  d3 : Addr
  ka : Int → Addr
def TRef.fp (R : TRef) (t : Tel) : List Addr := R.a :: R.d1 :: R.d2 :: R.d3 :: t.hs.map R.ka
def telF (R : TRef) (t : Tel) : List (Str × D) := [("doors", drD t.doors), ("things", .ref R.d1), ("sights", .ref R.d2), ("known", .ref R.d3)]
def knF (t : Tel) (h n : Int) : Option Bool := if t.kn h n = true then some true else none
structure TelAt (C : Addr) (S : Sto) (R : TRef) (t : Tel) : Prop where
  ins : S R.a = some (.ins C (telF R t))
  th : ∃ kv, S R.d1 = some (.dK kv) ∧ MapI tgD kv t.things
  si : ∃ kv, S R.d2 = some (.dK kv) ∧ MapI sgD kv t.sights
  kd : ∃ kv, S R.d3 = some (.dK kv) ∧ MapI D.ref kv fun h => (t.sights h).map fun _ => R.ka h
  ki : ∀ h, (t.sights h).isSome = true → ∃ kv, S (R.ka h) = some (.dK kv) ∧ MapI D.bl kv (knF t h)
  n12 : R.d1 ≠ R.d2
  n13 : R.d1 ≠ R.d3
  n23 : R.d2 ≠ R.d3
  nk : ∀ h, (t.sights h).isSome = true → R.ka h ≠ R.d1 ∧ R.ka h ≠ R.d2 ∧ R.ka h ≠ R.d3
  inj : ∀ h h', (t.sights h).isSome = true → (t.sights h').isSome = true → R.ka h = R.ka h' → h = h'
section
variable {C : Addr} {S S' : Sto} {R : TRef} {t t' : Tel}
theorem TelAt.mem (T : TelAt C S R t) (o : TOk t) {x : Addr} (h : x ∈ R.fp t) : ∃ ob, S x = some ob ∧ ∀ xs, ob ≠ .lst xs := by
  unfold TRef.fp at h
  simp only [List.mem_cons, List.mem_map] at h
  rcases h with rfl | rfl | rfl | rfl | ⟨i, hi, rfl⟩
  · exact ⟨_, T.ins, fun _ z => by cases z⟩
  · obtain ⟨kv, e, _⟩ := T.th; exact ⟨_, e, fun _ z => by cases z⟩
  · obtain ⟨kv, e, _⟩ := T.si; exact ⟨_, e, fun _ z => by cases z⟩
  · obtain ⟨kv, e, _⟩ := T.kd; exact ⟨_, e, fun _ z => by cases z⟩
  · obtain ⟨kv, e, _⟩ := T.ki i (o.hid.mp hi); exact ⟨_, e, fun _ z => by cases z⟩
/-- what is kept -/
theorem TelAt.keep (T : TelAt C S R t) (o : TOk t) (h : ∀ x ∈ R.fp t, S' x = S x) : TelAt C S' R t := by
  have m0 : R.a ∈ R.fp t := by unfold TRef.fp; simp
  have m1 : R.d1 ∈ R.fp t := by unfold TRef.fp; simp
  have m2 : R.d2 ∈ R.fp t := by unfold TRef.fp; simp
  have m3 : R.d3 ∈ R.fp t := by unfold TRef.fp; simp
  have mk : ∀ i, (t.sights i).isSome = true → R.ka i ∈ R.fp t := fun i hi => by
    unfold TRef.fp
    simp only [List.mem_cons]
    exact .inr (.inr (.inr (.inr (List.mem_map_of_mem (o.hid.mpr hi)))))
  exact ⟨(h _ m0).trans T.ins, by rw [h _ m1]; exact T.th, by rw [h _ m2]; exact T.si, by rw [h _ m3]; exact T.kd, fun i hi => by rw [h _ (mk i hi)]; exact T.ki i hi, T.n12, T.n13, T.n23, T.nk, T.inj⟩
theorem TelAt.kp {ex : List Addr} (T : TelAt C S R t) (o : TOk t) (k : Kp ex S S') (d : ∀ x ∈ R.fp t, x ∉ ex) : TelAt C S' R t := T.keep o fun x hx => by
  obtain ⟨ob, e, _⟩ := T.mem o hx
  rw [e]
  exact k x ob e (d x hx)
theorem TelAt.kp0 (T : TelAt C S R t) (o : TOk t) (k : Kp [] S S') : TelAt C S' R t := T.kp o k fun _ _ => by simp
/-! reading -/
theorem aIx_tup {b : Bool} {xs : List D} {i : Int} {S : Sto} {Q : AK} : aIx b (.tup xs) (.int i) S Q = ∃ d, atI xs i = some d ∧ Q d S := rfl
theorem aIx_scr {b : Bool} {xs : List Int} {i : Int} {S : Sto} {Q : AK} : aIx b (.scr xs) (.int i) S Q = ∃ d, atI xs i = some d ∧ Q (.int d) S := rfl
theorem th_get (T : TelAt C S R t) {b : Bool} {i : Int} {g : Tg} {Q : AK} (e : t.things i = some g) (h : Q (tgD g) S) : aIx b (.ref R.d1) (.int i) S Q := by
  obtain ⟨kv, e1, m⟩ := T.th
  simp only [aIx, e1, dgetA, keyA, m.get, e]
  exact ⟨_, rfl, h⟩
theorem si_get (T : TelAt C S R t) {b : Bool} {i : Int} {g : Sg} {Q : AK} (e : t.sights i = some g) (h : Q (sgD g) S) : aIx b (.ref R.d2) (.int i) S Q := by
  obtain ⟨kv, e1, m⟩ := T.si
  simp only [aIx, e1, dgetA, keyA, m.get, e]
  exact ⟨_, rfl, h⟩
theorem kd_get (T : TelAt C S R t) {b : Bool} {i : Int} {Q : AK} (e : (t.sights i).isSome = true) (h : Q (.ref (R.ka i)) S) : aIx b (.ref R.d3) (.int i) S Q := by
  obtain ⟨kv, e1, m⟩ := T.kd
  obtain ⟨s, es⟩ := Option.isSome_iff_exists.mp e
  simp only [aIx, e1, dgetA, keyA, m.get, es]
  exact ⟨_, rfl, h⟩
theorem map_in {α : Type} {enc : α → D} {kv : List (Key × D)} {f : Int → Option α} {a : Addr} {b neg : Bool} {i : Int} {Q : AK} (e : S a = some (.dK kv)) (m : MapI enc kv f) (h : Q (.bl (xor neg (f i).isSome)) S) : aIn b neg (.int i) (.ref a) S Q := by
  simp only [aIn, e, dgetA, keyA, m.get, Option.isSome_map]
  cases neg <;> simpa using h
theorem th_in (T : TelAt C S R t) {b neg : Bool} {i : Int} {Q : AK} (h : Q (.bl (xor neg (t.things i).isSome)) S) : aIn b neg (.int i) (.ref R.d1) S Q := by
  obtain ⟨kv, e1, m⟩ := T.th
  exact map_in e1 m h
theorem si_in (T : TelAt C S R t) {b neg : Bool} {i : Int} {Q : AK} (h : Q (.bl (xor neg (t.sights i).isSome)) S) : aIn b neg (.int i) (.ref R.d2) S Q := by
  obtain ⟨kv, e1, m⟩ := T.si
  exact map_in e1 m h
theorem knF_some (t : Tel) (h n : Int) : (knF t h n).isSome = t.kn h n := by
  unfold knF
  cases t.kn h n <;> rfl
theorem ki_in (T : TelAt C S R t) {b neg : Bool} {i n : Int} {Q : AK} (e : (t.sights i).isSome = true) (h : Q (.bl (xor neg (t.kn i n))) S) : aIn b neg (.int n) (.ref (R.ka i)) S Q := by
  obtain ⟨kv, e1, m⟩ := T.ki i e
  exact map_in e1 m (by rw [knF_some]; exact h)
variable {w : WE} {ρ : DEnv} {Q : AK} {E : XA}
theorem fldT (T : TelAt C S R t) (hw : ∀ Q : AK, Q (.ref R.a) S → w ρ S Q E) (h : Q (.ref R.d1) S) : wFld C "things" w ρ S Q E := hw _ ⟨_, _, T.ins, rfl, h⟩
theorem fldS (T : TelAt C S R t) (hw : ∀ Q : AK, Q (.ref R.a) S → w ρ S Q E) (h : Q (.ref R.d2) S) : wFld C "sights" w ρ S Q E := hw _ ⟨_, _, T.ins, rfl, h⟩
theorem fldK (T : TelAt C S R t) (hw : ∀ Q : AK, Q (.ref R.a) S → w ρ S Q E) (h : Q (.ref R.d3) S) : wFld C "known" w ρ S Q E := hw _ ⟨_, _, T.ins, rfl, h⟩
theorem fldD (T : TelAt C S R t) (hw : ∀ Q : AK, Q (.ref R.a) S → w ρ S Q E) (h : Q (drD t.doors) S) : wFld C "doors" w ρ S Q E := hw _ ⟨_, _, T.ins, rfl, h⟩
/-- a call of a method -/
theorem methT {m : Str} {n : Nat} {wf : WF} {wa : WA} (T : TelAt C S R t) (hm : (telF R t).lookup m = none) (hw : ∀ Q : AK, Q (.ref R.a) S → w ρ S Q E) (h : wa ρ S (fun ds S2 => ds.length + 1 = n ∧ wf (.ref R.a :: ds) S2 Q E) E) : wMeth C m n wf w wa ρ S Q E := hw _ ⟨⟨_, T.ins, hm⟩, h⟩
end
end Ab
set_option Elab.async false
set_option linter.all false
set_option maxRecDepth 100000
set_option maxHeartbeats 4000000
/-! ### tellers: what changes, part by part (plain) -/
namespace Ab
open PySem PySem.Spec PyProof.Rows L2
namespace Tel
def setK (t : Tel) (i n : Int) (b : Bool) : Tel := { t with kn := fun h m => if h = i ∧ m = n then b else t.kn h m }
/-- settled as far as P says -/
def pt (t : Tel) (P : Int → Int → Bool) : Tel := { t with kn := fun h n => if (P h n && t.live h n) = true then t.fits h n else t.kn h n }
theorem ext {t u : Tel} (h1 : t.doors = u.doors) (h2 : t.things = u.things) (h3 : t.sights = u.sights) (h4 : ∀ h n, t.kn h n = u.kn h n) : t = u := by
  cases t
  cases u
  simp only at h1 h2 h3 h4
  subst h1 h2 h3
  congr 1
  funext h n
  exact h4 h n
theorem pt_none (t : Tel) : t.pt (fun _ _ => false) = t := ext rfl rfl rfl fun h n => by unfold pt; simp
theorem pt_all {t : Tel} {P : Int → Int → Bool} (h : ∀ h n, t.live h n = true → P h n = true) : t.pt P = t.settle := ext rfl rfl rfl fun a n => by
  unfold pt settle
  simp only
  by_cases hl : t.live a n = true
  · rw [if_pos (by rw [h a n hl, hl]; rfl), if_pos hl]
  · rw [if_neg hl, if_neg (by simp [hl])]
theorem pt_congr {t : Tel} {P P' : Int → Int → Bool} (h : ∀ h n, t.live h n = true → t.fits h n ≠ t.kn h n → P h n = P' h n) : t.pt P = t.pt P' := ext rfl rfl rfl fun a n => by
  unfold pt
  simp only
  by_cases hl : t.live a n = true
  · by_cases hf : t.fits a n = t.kn a n
    · rw [hf]; simp
    · rw [h a n hl hf]
  · simp [hl]
theorem pt_kn {t : Tel} {P : Int → Int → Bool} {h n : Int} (hp : P h n = false) : (t.pt P).kn h n = t.kn h n := by unfold pt; simp [hp]
theorem pt_fits {t : Tel} {P : Int → Int → Bool} {h n : Int} (hp : P h n = false) : (t.pt P).fits h n = t.fits h n := by
  unfold fits joined hears close
  rw [pt_kn hp]
  rfl
theorem pt_set {t : Tel} {P P' : Int → Int → Bool} {h n : Int} (hl : t.live h n = true) (h1 : ∀ a b, ¬(a = h ∧ b = n) → P' a b = P a b) (h2 : P' h n = true) : (t.pt P).setK h n (t.fits h n) = t.pt P' := ext rfl rfl rfl fun a b => by
  unfold setK pt
  simp only
  by_cases e : a = h ∧ b = n
  · obtain ⟨rfl, rfl⟩ := e
    rw [if_pos ⟨rfl, rfl⟩, h2, hl]
    rfl
  · rw [if_neg e, h1 a b e]
theorem setRow_snoc (t : Tel) (h : Int) (l : List Int) (n : Int) : t.setRow h (l ++ [n]) = t.setRow h l ++ (if (decide (n ≠ h) && (t.fits h n != t.kn h n)) = true then [⟨(0, 1), t.fits h n, h, n⟩] else []) := by
  unfold setRow
  rw [List.filter_append, List.map_append]
  congr 1
  rw [List.filter_cons]
  split <;> rfl
theorem setRow_len (t : Tel) (h : Int) (l : List Int) : (t.setRow h l).length ≤ l.length := by
  unfold setRow
  rw [List.length_map]
  exact List.length_filter_le _ _
theorem flat_len {α : Type} {f : Int → List α} {m : Nat} : ∀ {l : List Int}, (∀ h ∈ l, (f h).length ≤ m) → (l.flatMap f).length ≤ l.length * m
  | [], _ => by simp
  | a :: l, h => by
    rw [List.flatMap_cons, List.length_append, List.length_cons, Nat.succ_mul]
    have := flat_len (l := l) (f := f) (m := m) fun h' hh => h h' (by simp [hh])
    have := h a (by simp)
    omega
end Tel
theorem TOk.pt {t : Tel} (o : TOk t) {P : Int → Int → Bool} : TOk (t.pt P) := by
  refine ⟨o.rng, o.cnt, o.sub, fun h n hk => ?_, o.room, o.pl, o.sg, o.dr⟩
  unfold Tel.pt at hk
  simp only at hk
  split at hk
  · rename_i hl
    rw [Bool.and_eq_true] at hl
    have hl := hl.2
    unfold Tel.live at hl
    simp only [Bool.and_eq_true] at hl
    exact ⟨hl.1.1, hl.1.2⟩
  · exact o.knt h n hk
theorem TOk.setK {t : Tel} (o : TOk t) {i n : Int} {b : Bool} (hi : (t.sights i).isSome = true) (hn : (t.things n).isSome = true) : TOk (t.setK i n b) := by
  refine ⟨o.rng, o.cnt, o.sub, fun h m hk => ?_, o.room, o.pl, o.sg, o.dr⟩
  unfold Tel.setK at hk
  simp only at hk
  split at hk
  · rename_i e
    rw [e.1, e.2]
    exact ⟨hi, hn⟩
  · exact o.knt h m hk
section
variable {C : Addr} {S : Sto} {R : TRef} {t : Tel}
theorem knF_setK {i n : Int} {b : Bool} : knF (t.setK i n b) i = upF (knF t i) n (if b = true then some true else none) := by
  funext m
  unfold knF Tel.setK upF
  simp only [true_and]
  by_cases e : m = n
  · simp [e]
  · simp [e]
theorem knF_setK_ne {i n j : Int} {b : Bool} (h : j ≠ i) : knF (t.setK i n b) j = knF t j := by
  funext m
  unfold knF Tel.setK
  simp [h]
theorem TelAt.setK (T : TelAt C S R t) {i n : Int} {b : Bool} (hi : (t.sights i).isSome = true) {kv : List (Key × D)} (m : MapI D.bl kv (knF (t.setK i n b) i)) : TelAt C (put S (R.ka i) (.dK kv)) R (t.setK i n b) := by
  have ne : R.a ≠ R.ka i := fun z => by
    obtain ⟨kv', e, _⟩ := T.ki i hi
    rw [← z, T.ins] at e
    cases e
  have nk := T.nk i hi
  refine ⟨by rw [put_ne ne]; exact T.ins, by rw [put_ne (Ne.symm nk.1)]; exact T.th, by rw [put_ne (Ne.symm nk.2.1)]; exact T.si, by rw [put_ne (Ne.symm nk.2.2)]; exact T.kd, fun h hh => ?_, T.n12, T.n13, T.n23, T.nk, T.inj⟩
  by_cases e : h = i
  · subst e
    exact ⟨kv, put_same, m⟩
  · rw [put_ne (fun z => e (T.inj h i hh hi z)), knF_setK_ne e]
    exact T.ki h hh
theorem TelAt.ka_mem (o : TOk t) {i : Int} (hi : (t.sights i).isSome = true) : R.ka i ∈ R.fp t := by
  unfold TRef.fp
  simp only [List.mem_cons]
  exact .inr (.inr (.inr (.inr (List.mem_map_of_mem (o.hid.mpr hi)))))
end
end Ab
set_option Elab.async false
set_option linter.all false
set_option maxRecDepth 100000
set_option maxHeartbeats 4000000
/-! ### tellers: deeds in the store -/
namespace Ab
open PySem PySem.Spec PyProof.Rows L2
/-- a deed: from S to S' -/
structure TStep (C : Addr) (S S' : Sto) (R R' : TRef) (t t' : Tel) : Prop where
  at_ : TelAt C S' R' t'
  eqa : R'.a = R.a
  kp : Kp (R.fp t) S S'
  nw : ∀ x ∈ R'.fp t', x ∈ R.fp t ∨ S x = none
section
variable {C : Addr} {S S1 S2 : Sto} {R R1 R2 : TRef} {t t1 t2 : Tel}
theorem TStep.trans (o : TOk t) (T : TelAt C S R t) (a : TStep C S S1 R R1 t t1) (b : TStep C S1 S2 R1 R2 t1 t2) : TStep C S S2 R R2 t t2 := by
  refine ⟨b.at_, b.eqa.trans a.eqa, fun x ob e hx => ?_, fun x hx => ?_⟩
  · refine b.kp x ob (a.kp x ob e hx) fun z => ?_
    rcases a.nw x z with h | h
    · exact hx h
    · rw [e] at h; cases h
  · rcases b.nw x hx with h | h
    · exact a.nw x h
    · by_cases hm : x ∈ R.fp t
      · exact .inl hm
      · right
        cases e : S x with
        | none => rfl
        | some ob => rw [a.kp x ob e hm] at h; cases h
theorem TStep.same (T : TelAt C S1 R t1) (hk : Kp (R.fp t) S S1) (hs : t1.hs = t.hs) : TStep C S S1 R R t t1 := ⟨T, rfl, hk, fun x hx => by
  unfold TRef.fp at hx ⊢
  rw [hs] at hx
  exact .inl hx⟩
theorem TRef.d1_mem : R.d1 ∈ R.fp t := by unfold TRef.fp; simp
theorem TRef.d2_mem : R.d2 ∈ R.fp t := by unfold TRef.fp; simp
theorem TRef.d3_mem : R.d3 ∈ R.fp t := by unfold TRef.fp; simp
theorem TRef.a_mem : R.a ∈ R.fp t := by unfold TRef.fp; simp
theorem TelAt.ne_a (T : TelAt C S R t) : R.a ≠ R.d1 ∧ R.a ≠ R.d2 ∧ R.a ≠ R.d3 := by
  refine ⟨fun z => ?_, fun z => ?_, fun z => ?_⟩
  · obtain ⟨kv, e, _⟩ := T.th; rw [← z, T.ins] at e; cases e
  · obtain ⟨kv, e, _⟩ := T.si; rw [← z, T.ins] at e; cases e
  · obtain ⟨kv, e, _⟩ := T.kd; rw [← z, T.ins] at e; cases e
theorem TelAt.ne_k (T : TelAt C S R t) {h : Int} (hh : (t.sights h).isSome = true) : R.a ≠ R.ka h := fun z => by
  obtain ⟨kv, e, _⟩ := T.ki h hh
  rw [← z, T.ins] at e; cases e
theorem TelAt.putT (T : TelAt C S R t) {f : Int → Option Tg} {kv : List (Key × D)} (m : MapI tgD kv f) : TelAt C (put S R.d1 (.dK kv)) R { t with things := f } := by
  have na := T.ne_a
  exact ⟨by rw [put_ne na.1]; exact T.ins, ⟨kv, put_same, m⟩, by rw [put_ne (Ne.symm T.n12)]; exact T.si, by rw [put_ne (Ne.symm T.n13)]; exact T.kd, fun h hh => by rw [put_ne (T.nk h hh).1]; exact T.ki h hh, T.n12, T.n13, T.n23, T.nk, T.inj⟩
theorem TelAt.putD (T : TelAt C S R t) {ds : Drs} : TelAt C (put S R.a (.ins C (telF R (t.setDoors ds)))) R (t.setDoors ds) := by
  have na := T.ne_a
  exact ⟨put_same, by rw [put_ne (Ne.symm na.1)]; exact T.th, by rw [put_ne (Ne.symm na.2.1)]; exact T.si, by rw [put_ne (Ne.symm na.2.2)]; exact T.kd, fun h hh => by rw [put_ne (Ne.symm (T.ne_k hh))]; exact T.ki h hh, T.n12, T.n13, T.n23, T.nk, T.inj⟩
/-- another sight of a hearer -/
theorem TelAt.putS (T : TelAt C S R t) {i : Int} {s : Sg} {kv : List (Key × D)} (hi : (t.sights i).isSome = true) (m : MapI sgD kv (upF t.sights i (some s))) : TelAt C (put S R.d2 (.dK kv)) R (t.addS i s) := by
  have na := T.ne_a
  have hs : ∀ h, ((t.addS i s).sights h).isSome = (t.sights h).isSome := fun h => by
    unfold Tel.addS upF
    simp only
    by_cases e : h = i
    · rw [if_pos e, e, hi]; rfl
    · rw [if_neg e]
  have hf : (fun h => ((t.addS i s).sights h).map fun _ => R.ka h) = fun h => (t.sights h).map fun _ => R.ka h := by
    funext h
    have := hs h
    cases e1 : (t.addS i s).sights h <;> cases e2 : t.sights h <;> simp_all
  refine ⟨by rw [put_ne na.2.1]; exact T.ins, by rw [put_ne T.n12]; exact T.th, ⟨kv, put_same, m⟩, by rw [put_ne (Ne.symm T.n23), hf]; exact T.kd, fun h hh => by rw [hs] at hh; rw [put_ne (T.nk h hh).2.1]; exact T.ki h hh, T.n12, T.n13, T.n23, fun h hh => T.nk h (by rw [hs] at hh; exact hh), fun h h' hh hh' => T.inj h h' (by rw [hs] at hh; exact hh) (by rw [hs] at hh'; exact hh')⟩
/-- a new hearer -/
theorem TelAt.putN (T : TelAt C S R t) (o : TOk t) {i : Int} {s : Sg} {kv kk : List (Key × D)} {p : Addr} (hi : t.sights i = none) (hp : S p = none) (m : MapI sgD kv (upF t.sights i (some s))) (mk : MapI D.ref kk (upF (fun h => (t.sights h).map fun _ => R.ka h) i (some p))) :
    TelAt C (put (put (put S R.d2 (.dK kv)) p (.dK [])) R.d3 (.dK kk)) { R with ka := upF R.ka i p } (t.addS i s) := by
  have na := T.ne_a
  have hn : ∀ x, x ∈ R.fp t → x ≠ p := fun x hx z => by
    obtain ⟨ob, e, _⟩ := T.mem o hx
    rw [z, hp] at e; cases e
  have hki : ∀ n, t.kn i n = false := fun n => by
    cases e : t.kn i n with
    | false => rfl
    | true => have := (o.knt i n e).1; rw [hi] at this; cases this
  have hne : ∀ h, h ≠ i → ((t.addS i s).sights h) = t.sights h := fun h e => by unfold Tel.addS; simp only; rw [upF_ne e]
  have hsm : ((t.addS i s).sights i) = some s := by unfold Tel.addS; simp only; rw [upF_same]
  have sp : ∀ h, h ≠ i → ((t.addS i s).sights h).isSome = true → (t.sights h).isSome = true := fun h e hh => by rw [hne h e] at hh; exact hh
  refine ⟨?_, ?_, ?_, ⟨kk, put_same, ?_⟩, fun h hh => ?_, T.n12, T.n13, T.n23, fun h hh => ?_, fun h h' hh hh' e => ?_⟩
  · show put (put (put S R.d2 _) p _) R.d3 _ R.a = _
    rw [put_ne na.2.2, put_ne (hn _ TRef.a_mem), put_ne na.2.1]; exact T.ins
  · obtain ⟨kt, e, mt⟩ := T.th
    exact ⟨kt, by show put (put (put S R.d2 _) p _) R.d3 _ R.d1 = _; rw [put_ne T.n13, put_ne (hn _ TRef.d1_mem), put_ne T.n12]; exact e, mt⟩
  · exact ⟨kv, by show put (put (put S R.d2 _) p _) R.d3 _ R.d2 = _; rw [put_ne T.n23, put_ne (hn _ TRef.d2_mem)]; exact put_same, m⟩
  · have hf : (fun h => ((t.addS i s).sights h).map fun _ => upF R.ka i p h) = upF (fun h => (t.sights h).map fun _ => R.ka h) i (some p) := by
      funext h
      by_cases e : h = i
      · subst e; rw [hsm, upF_same, upF_same]; rfl
      · rw [hne h e, upF_ne e, upF_ne e]
    show MapI D.ref kk fun h => ((t.addS i s).sights h).map fun _ => upF R.ka i p h
    rw [hf]
    exact mk
  · by_cases e : h = i
    · subst e
      refine ⟨[], ?_, ?_⟩
      · show put (put (put S R.d2 _) p _) R.d3 _ (upF R.ka h p h) = _
        rw [upF_same, put_ne (Ne.symm (hn _ TRef.d3_mem))]; exact put_same
      · have : knF (t.addS h s) h = fun _ => none := by
          funext n
          unfold knF
          have : (t.addS h s).kn h n = false := hki n
          rw [this]; rfl
        rw [this]; exact MapI.nil
    · have h0 := sp h e hh
      obtain ⟨kh, eh, mh⟩ := T.ki h h0
      refine ⟨kh, ?_, mh⟩
      show put (put (put S R.d2 _) p _) R.d3 _ (upF R.ka i p h) = _
      rw [upF_ne e, put_ne (T.nk h h0).2.2, put_ne (hn _ (TelAt.ka_mem o h0)), put_ne (T.nk h h0).2.1]; exact eh
  · show upF R.ka i p h ≠ R.d1 ∧ upF R.ka i p h ≠ R.d2 ∧ upF R.ka i p h ≠ R.d3
    by_cases e : h = i
    · subst e
      rw [upF_same]
      exact ⟨Ne.symm (hn _ TRef.d1_mem), Ne.symm (hn _ TRef.d2_mem), Ne.symm (hn _ TRef.d3_mem)⟩
    · rw [upF_ne e]; exact T.nk h (sp h e hh)
  · have e' : upF R.ka i p h = upF R.ka i p h' := e
    by_cases e1 : h = i
    · by_cases e2 : h' = i
      · rw [e1, e2]
      · exfalso
        rw [e1, upF_same, upF_ne e2] at e'
        exact hn _ (TelAt.ka_mem o (sp h' e2 hh')) e'.symm
    · by_cases e2 : h' = i
      · exfalso
        rw [e2, upF_same, upF_ne e1] at e'
        exact hn _ (TelAt.ka_mem o (sp h e1 hh)) e'
      · rw [upF_ne e1, upF_ne e2] at e'
        exact T.inj h h' (sp h e1 hh) (sp h' e2 hh') e'
theorem addS_fp (o : TOk t) {i : Int} {s : Sg} {p : Addr} (hi : t.sights i = none) (o2 : TOk (t.addS i s)) {x : Addr} (hx : x ∈ ({ R with ka := upF R.ka i p } : TRef).fp (t.addS i s)) : x ∈ R.fp t ∨ x = p := by
  unfold TRef.fp at hx ⊢
  simp only [List.mem_cons, List.mem_map] at hx ⊢
  rcases hx with h | h | h | h | ⟨j, hj, rfl⟩
  · exact .inl (.inl h)
  · exact .inl (.inr (.inl h))
  · exact .inl (.inr (.inr (.inl h)))
  · exact .inl (.inr (.inr (.inr (.inl h))))
  · by_cases e : j = i
    · right; rw [e, upF_same]
    · left
      have := o2.hid.mp hj
      unfold Tel.addS at this
      simp only at this
      rw [upF_ne e] at this
      exact .inr (.inr (.inr (.inr ⟨j, o.hid.mpr this, by rw [upF_ne e]⟩)))
/-- deaf -/
theorem TelAt.delS (T : TelAt C S R t) {i : Int} {kv kk : List (Key × D)} (m : MapI sgD kv (upF t.sights i none)) (mk : MapI D.ref kk (upF (fun h => (t.sights h).map fun _ => R.ka h) i none)) : TelAt C (put (put S R.d2 (.dK kv)) R.d3 (.dK kk)) R (t.deaf i) := by
  have na := T.ne_a
  have hs : ∀ h, ((t.deaf i).sights h).isSome = true → h ≠ i ∧ (t.sights h).isSome = true := fun h hh => by
    unfold Tel.deaf upF at hh
    simp only at hh
    by_cases e : h = i
    · rw [if_pos e] at hh; cases hh
    · rw [if_neg e] at hh; exact ⟨e, hh⟩
  refine ⟨by rw [put_ne na.2.2, put_ne na.2.1]; exact T.ins, by rw [put_ne T.n13, put_ne T.n12]; exact T.th, ⟨kv, by rw [put_ne T.n23]; exact put_same, m⟩, ⟨kk, put_same, ?_⟩, fun h hh => ?_, T.n12, T.n13, T.n23, fun h hh => T.nk h (hs h hh).2, fun h h' hh hh' => T.inj h h' (hs h hh).2 (hs h' hh').2⟩
  · have hf : (fun h => ((t.deaf i).sights h).map fun _ => R.ka h) = upF (fun h => (t.sights h).map fun _ => R.ka h) i none := by
      funext h
      unfold Tel.deaf upF
      simp only
      by_cases e : h = i
      · simp [e]
      · simp [e]
    rw [hf]; exact mk
  · obtain ⟨e, h0⟩ := hs h hh
    obtain ⟨kh, eh, mh⟩ := T.ki h h0
    refine ⟨kh, by rw [put_ne (T.nk h h0).2.2, put_ne (T.nk h h0).2.1]; exact eh, ?_⟩
    have : knF (t.deaf i) h = knF t h := by
      funext n
      unfold knF Tel.deaf
      simp [e]
    rw [this]; exact mh
theorem deaf_fp (o : TOk t) {i : Int} {x : Addr} (hx : x ∈ R.fp (t.deaf i)) : x ∈ R.fp t := by
  unfold TRef.fp at hx ⊢
  simp only [List.mem_cons, List.mem_map] at hx ⊢
  rcases hx with h | h | h | h | ⟨j, hj, rfl⟩
  · exact .inl h
  · exact .inr (.inl h)
  · exact .inr (.inr (.inl h))
  · exact .inr (.inr (.inr (.inl h)))
  · have h1 := o.deaf (i := i) |>.hid.mp hj
    unfold Tel.deaf upF at h1
    simp only at h1
    split at h1
    · cases h1
    · exact .inr (.inr (.inr (.inr ⟨j, o.hid.mpr h1, rfl⟩)))
end
def Tel.rowOf (t : Tel) (i : Int) : D := match t.things i with
  | some g => .tup [.int i, plD g.pl, .int g.room, gpD g.grp]
  | none => .non
def Tel.toldL (t : Tel) (i far : Int) : List Int := (t.knownBy i).filter fun h => match t.things h, t.things i with
  | some a, some b => decide (dist a.pl b.pl ≤ far)
  | _, _ => false
end Ab
set_option Elab.async false
set_option linter.all false
set_option maxRecDepth 100000
set_option maxHeartbeats 4000000
/-! ### tellers: turns (plain) -/
namespace Ab
open PySem PySem.Spec PyProof.Rows L2
def chgo (w o : Wy) (g : Int) (found : List (Fr × Bool)) (time : Fr) : List (Fr × Bool) := match whenF w o g with
  | none => found ++ [(time, false)]
  | some kept => if lsB kept.2 time = true then found ++ [(time, false)] else if kept.2 ≠ (1, 1) then found ++ [(kept.2, false)] else found
def changesF (k : Bool) (w o : Wy) (far slack : Int) : List (Fr × Bool) := if k = true then chgo w o (far + slack) [] (0, 1) else match whenF w o far with
  | none => []
  | some t => chgo w o (far + slack) [(t.1, true)] t.1
theorem frac_fix {t : Fr} (h : Fm t) : frac t.1 t.2 = t := by
  have hp := h.pos
  have f := frac_fm (u := t.1) (l := t.2) (by omega)
  obtain ⟨k, hk, e1, e2⟩ := frac_spec (u := t.1) (l := t.2) (by omega)
  refine fm_uniq f h ?_
  generalize frac t.1 t.2 = q at *
  have : (q.1 * t.2) * k = (t.1 * q.2) * k := by
    have z1 : (q.1 * t.2) * k = (q.1 * k) * t.2 := by grind
    have z2 : (t.1 * q.2) * k = t.1 * (q.2 * k) := by grind
    rw [z1, z2, ← e1, ← e2]
  exact Int.eq_of_mul_eq_mul_right hk this
theorem nr2_wide {w o : Wy} {f g : Int} {t : Fr} (h : f ≤ g) (ht : 0 < t.2) (n : nr2 w o f t) : nr2 w o g t := ⟨n.1, nr_wide h ht n.2.1, nr_wide h ht n.2.2⟩
/-- what changes can be -/
theorem ch_cases {k : Bool} {w o : Wy} {far slack : Int} (hf : 0 ≤ far) (hs : 0 ≤ slack) :
    (changesF k w o far slack = [] ∧ (k = true → nr2 w o (far + slack) (1, 1)) ∧ (k = false → whenF w o far = none))
    ∨ (∃ t, changesF k w o far slack = [(t, false)] ∧ k = true ∧ Fm t ∧ in01 t ∧ ¬ nr2 w o (far + slack) (1, 1) ∧ ((whenF w o (far + slack) = none ∧ t = (0, 1)) ∨ ∃ s, whenF w o (far + slack) = some (s, t)))
    ∨ (∃ t, changesF k w o far slack = [(t, true)] ∧ k = false ∧ Fm t ∧ nr2 w o far t ∧ nr2 w o (far + slack) (1, 1) ∧ ∃ s, whenF w o far = some (t, s))
    ∨ (∃ t u, changesF k w o far slack = [(t, true), (u, false)] ∧ k = false ∧ Fm t ∧ Fm u ∧ nr2 w o far t ∧ le t u ∧ in01 u ∧ ¬ nr2 w o (far + slack) (1, 1) ∧ (∃ s, whenF w o far = some (t, s)) ∧ ∃ s, whenF w o (far + slack) = some (s, u)) := by
  have S2 := when_spec (w := w) (o := o) (f := far + slack) (by omega)
  cases k with
  | true =>
    cases e2 : whenF w o (far + slack) with
    | none =>
      rw [e2] at S2
      have e : changesF true w o far slack = [((0, 1), false)] := by
        unfold changesF chgo
        rw [if_pos rfl, e2]
        rfl
      rw [e]
      exact .inr (.inl ⟨(0, 1), rfl, rfl, fm_01, ⟨by decide, by decide⟩, S2 (1, 1) (by decide), .inl ⟨rfl, rfl⟩⟩)
    | some r =>
      obtain ⟨x, y⟩ := r
      rw [e2] at S2
      have h01 := in01_iff.mp S2.snd.1
      have F := isW_first S2 fun t z => z.1
      have e : changesF true w o far slack = if y ≠ (1, 1) then [(y, false)] else [] := by
        unfold changesF chgo
        rw [if_pos rfl, e2]
        simp only
        rw [lsB_no.mpr h01.1, if_neg (by decide), List.nil_append]
      rw [e]
      by_cases c : y = (1, 1)
      · rw [if_neg (fun z => z c)]
        exact .inl ⟨rfl, fun _ => F.2.mp c, fun z => (by cases z)⟩
      · rw [if_pos c]
        exact .inr (.inl ⟨y, rfl, rfl, S2.2.1, S2.snd.1, fun z => c (F.2.mpr z), .inr ⟨x, rfl⟩⟩)
  | false =>
    have S1 := when_spec (w := w) (o := o) (f := far) (by omega)
    cases e1 : whenF w o far with
    | none =>
      rw [e1] at S1
      have e : changesF false w o far slack = [] := by
        unfold changesF
        rw [if_neg (by decide), e1]
      rw [e]
      exact .inl ⟨rfl, fun z => (by cases z), fun _ => rfl⟩
    | some r =>
      obtain ⟨t, s⟩ := r
      rw [e1] at S1
      obtain ⟨x, y, e2, l1, l2⟩ := isW_sub S1 S2 fun t ht n => nr2_wide (by omega) ht n
      rw [e2] at S2
      have F := isW_first S2 fun t z => z.1
      have l3 := le_trans S1.1.pos S1.2.1.pos S2.2.1.pos S1.2.2.1 l2
      have e : changesF false w o far slack = if y ≠ (1, 1) then [(t, true), (y, false)] else [(t, true)] := by
        unfold changesF chgo
        rw [if_neg (by decide), e1]
        simp only
        rw [e2]
        simp only
        rw [lsB_no.mpr l3, if_neg (by decide)]
        rfl
      rw [e, e2]
      by_cases c : y = (1, 1)
      · rw [if_neg (fun z => z c)]
        exact .inr (.inr (.inl ⟨t, rfl, rfl, S1.1, S1.fst, F.2.mp c, s, rfl⟩))
      · rw [if_pos c]
        exact .inr (.inr (.inr ⟨t, y, rfl, rfl, S1.1, S2.2.1, S1.fst, l3, S2.snd.1, fun z => c (F.2.mpr z), ⟨s, rfl⟩, x, rfl⟩))
/-- changes go to and fro -/
inductive Alt : Bool → List (Fr × Bool) → Prop
  | nil (k : Bool) : Alt k []
  | cons (k : Bool) (t : Fr) {l : List (Fr × Bool)} : Alt (!k) l → Alt k ((t, !k) :: l)
theorem changes_alt (k : Bool) (w o : Wy) (far slack : Int) : Alt k (changesF k w o far slack) := by
  have go : ∀ (time : Fr), Alt true (chgo w o (far + slack) [] time) := fun time => by
    unfold chgo
    split
    · exact .cons true _ (.nil _)
    · split
      · exact .cons true _ (.nil _)
      · split
        · exact .cons true _ (.nil _)
        · exact .nil _
  have gp : ∀ (time : Fr) (x : Fr × Bool), chgo w o (far + slack) [x] time = x :: chgo w o (far + slack) [] time := fun time x => by
    unfold chgo
    split
    · rfl
    · split
      · rfl
      · split <;> rfl
  unfold changesF
  cases k with
  | true => exact go _
  | false =>
    rw [if_neg (by decide)]
    split
    · exact .nil _
    · rw [gp]
      exact .cons false _ (go _)
/-- what is known behind changes -/
def lastB (k : Bool) (l : List (Fr × Bool)) : Bool := l.foldl (fun _ c => c.2) k
abbrev Goals := Int → Option (Int × Int)
namespace Tel
def wayOf (t : Tel) (G : Goals) (i : Int) : Wy := match t.things i with
  | some g => (g.pl, (G i).getD g.pl)
  | none => ((0, 0), (0, 0))
def farOf (t : Tel) (h : Int) : Int := match t.sights h with
  | some s => s.far
  | none => 0
def slackOf (t : Tel) (h : Int) : Int := match t.sights h with
  | some s => s.slack
  | none => 0
def chgs (t : Tel) (G : Goals) (h n : Int) : List (Fr × Bool) := changesF (t.kn h n) (t.wayOf G h) (t.wayOf G n) (t.farOf h) (t.slackOf h)
/-- who is told of whom in a turn -/
def act (t : Tel) (h n : Int) : Bool := t.live h n && !t.joined h n && t.hears h n
def chRow (h n : Int) (l : List (Fr × Bool)) : List Rw := l.map fun c => ⟨c.1, c.2, h, n⟩
def turnRow (t : Tel) (G : Goals) (h n : Int) : List Rw := if t.act h n = true then chRow h n (t.chgs G h n) else []
def turnRows (t : Tel) (G : Goals) : List Rw := t.hs.flatMap fun h => t.ids.flatMap fun n => t.turnRow G h n
def moved (t : Tel) (G : Goals) : Int → Option Tg := fun i => (t.things i).map fun g => ⟨(G i).getD g.pl, g.room, g.grp⟩
def turn (t : Tel) (G : Goals) : Tel := { t with things := t.moved G, kn := fun h n => if t.act h n = true then lastB (t.kn h n) (t.chgs G h n) else t.kn h n }
/-- turned as far as P says -/
def tp (t : Tel) (G : Goals) (P : Int → Int → Bool) : Tel := { t with kn := fun h n => if (P h n && t.act h n) = true then lastB (t.kn h n) (t.chgs G h n) else t.kn h n }
theorem tp_congr {t : Tel} {G : Goals} {P P' : Int → Int → Bool} (h : ∀ h n, t.act h n = true → P h n = P' h n) : t.tp G P = t.tp G P' := ext rfl rfl rfl fun a n => by
  unfold tp
  simp only
  by_cases hl : t.act a n = true
  · rw [h a n hl]
  · simp [hl]
theorem tp_none (t : Tel) (G : Goals) : t.tp G (fun _ _ => false) = t := ext rfl rfl rfl fun h n => by unfold tp; simp
theorem tp_kn {t : Tel} {G : Goals} {P : Int → Int → Bool} {h n : Int} (hp : P h n = false) : (t.tp G P).kn h n = t.kn h n := by unfold tp; simp [hp]
theorem tp_set {t : Tel} {G : Goals} {P P' : Int → Int → Bool} {h n : Int} (hl : t.act h n = true) (h1 : ∀ a b, ¬(a = h ∧ b = n) → P' a b = P a b) (h2 : P' h n = true) : (t.tp G P).setK h n (lastB (t.kn h n) (t.chgs G h n)) = t.tp G P' := ext rfl rfl rfl fun a b => by
  unfold setK tp
  simp only
  by_cases e : a = h ∧ b = n
  · obtain ⟨rfl, rfl⟩ := e
    rw [if_pos ⟨rfl, rfl⟩, h2, hl]
    rfl
  · rw [if_neg e, h1 a b e]
end Tel
theorem TOk.tp {t : Tel} (o : TOk t) {G : Goals} {P : Int → Int → Bool} : TOk (t.tp G P) := by
  refine ⟨o.rng, o.cnt, o.sub, fun h n hk => ?_, o.room, o.pl, o.sg, o.dr⟩
  unfold Tel.tp at hk
  simp only at hk
  split at hk
  · rename_i hl
    rw [Bool.and_eq_true] at hl
    have hl := hl.2
    unfold Tel.act Tel.live at hl
    simp only [Bool.and_eq_true] at hl
    exact ⟨hl.1.1.1.1, hl.1.1.1.2⟩
  · exact o.knt h n hk
theorem moved_some {t : Tel} {G : Goals} {i : Int} : (t.moved G i).isSome = (t.things i).isSome := by unfold Tel.moved; simp
theorem moved_ids {t : Tel} {G : Goals} : idsF 0 100 (t.moved G) = t.ids := by
  unfold Tel.ids idsF
  refine List.filter_congr fun i _ => moved_some
/-- goals within the plane -/
def GOk (G : Goals) : Prop := ∀ i p, G i = some p → p.1.natAbs ≤ 400000 ∧ p.2.natAbs ≤ 400000
theorem TOk.turn {t : Tel} (o : TOk t) {G : Goals} (hg : GOk G) : TOk (t.turn G) := by
  refine ⟨fun i hi => o.rng i (by rw [← moved_some (G := G)]; exact hi), by show (idsF 0 100 (t.moved G)).length < 64; rw [moved_ids]; exact o.cnt, fun h hh => by show (t.moved G h).isSome = true; rw [moved_some]; exact o.sub h hh, fun h n hk => ?_, fun i g e => ?_, fun i g e => ?_, o.sg, o.dr⟩
  · have e : (t.tp G fun _ _ => true).kn h n = true := by
      unfold Tel.turn at hk
      unfold Tel.tp
      simp only [Bool.true_and]
      exact hk
    have := (o.tp (G := G) (P := fun _ _ => true)).knt h n e
    exact ⟨this.1, by show (t.moved G n).isSome = true; rw [moved_some]; exact this.2⟩
  · unfold Tel.turn Tel.moved at e
    simp only [Option.map_eq_some_iff] at e
    obtain ⟨g0, e0, rfl⟩ := e
    exact o.room i g0 e0
  · unfold Tel.turn Tel.moved at e
    simp only [Option.map_eq_some_iff] at e
    obtain ⟨g0, e0, rfl⟩ := e
    simp only
    cases eg : G i with
    | none => exact o.pl i g0 e0
    | some p => exact hg i p eg
/-! the order of rows -/
def aheadB (a b : Rw) : Bool := if a.time ≠ b.time then lsB a.time b.time else HT.lexLt [a.h, a.n] [b.h, b.n]
/-- where a row goes in -/
def insPos (r : Rw) (l : List Rw) : Nat → Nat
  | 0 => 0
  | k + 1 => match l[k]? with
    | some x => if aheadB r x = true then insPos r l k else k + 1
    | none => k + 1
def insR (l : List Rw) (r : Rw) : List Rw := l.take (insPos r l l.length) ++ [r] ++ l.drop (insPos r l l.length)
def sortR (rs : List Rw) : List Rw := rs.foldl insR []
theorem insPos_le {r : Rw} {l : List Rw} : ∀ {k : Nat}, insPos r l k ≤ k
  | 0 => Nat.le_refl _
  | k + 1 => by
    unfold insPos
    split
    · split
      · exact Nat.le_succ_of_le insPos_le
      · exact Nat.le_refl _
    · exact Nat.le_refl _
theorem insR_perm (l : List Rw) (r : Rw) : (insR l r).Perm (l ++ [r]) := by
  unfold insR
  generalize insPos r l l.length = k
  have e : l ++ [r] = l.take k ++ l.drop k ++ [r] := by rw [List.take_append_drop]
  rw [e, List.append_assoc, List.append_assoc]
  exact List.Perm.append_left _ List.perm_append_comm
theorem sortR_permG : ∀ (rs acc : List Rw), (rs.foldl insR acc).Perm (acc ++ rs)
  | [], acc => by simp
  | r :: rs, acc => by
    rw [List.foldl_cons]
    refine (sortR_permG rs (insR acc r)).trans ?_
    refine ((insR_perm acc r).append_right rs).trans ?_
    simp
theorem sortR_perm (rs : List Rw) : (sortR rs).Perm rs := by have := sortR_permG rs []; rw [List.nil_append] at this; exact this
theorem insR_len (l : List Rw) (r : Rw) : (insR l r).length = l.length + 1 := by rw [(insR_perm l r).length_eq]; simp
/-! goals of a turn -/
inductive GRes where
  | noThing
  | badMove
  | ok (G : Goals)
def goalsF (t : Tel) : List (Int × (Int × Int)) → Goals → GRes
  | [], G => .ok G
  | m :: ms, G => if (t.things m.1).isSome = true then (if (G m.1).isSome = true then .badMove else goalsF t ms (upF G m.1 (some m.2))) else .noThing
def mvD (ms : List (Int × (Int × Int))) : D := .tup (ms.map fun m => .tup [.int m.1, plD m.2])
theorem goals_ok {t : Tel} {B : Nat} : ∀ {ms : List (Int × (Int × Int))} {G G' : Goals}, (∀ m ∈ ms, m.2.1.natAbs ≤ B ∧ m.2.2.natAbs ≤ B) → (∀ i p, G i = some p → (p.1.natAbs ≤ B ∧ p.2.natAbs ≤ B) ∧ (t.things i).isSome = true) → goalsF t ms G = .ok G' → ∀ i p, G' i = some p → (p.1.natAbs ≤ B ∧ p.2.natAbs ≤ B) ∧ (t.things i).isSome = true
  | [], G, G', _, h, e => by unfold goalsF at e; cases e; exact h
  | m :: ms, G, G', hm, h, e => by
    unfold goalsF at e
    split at e
    · rename_i ht
      split at e
      · cases e
      · refine goals_ok (fun m' hm' => hm m' (by simp [hm'])) (fun i p q => ?_) e
        unfold upF at q
        split at q
        · rename_i ei
          cases q
          rw [ei]
          exact ⟨hm m (by simp), ht⟩
        · exact h i p q
    · cases e
/-- moved as far as L says -/
def Tel.mv (t : Tel) (G : Goals) (L : List Int) : Int → Option Tg := fun i => if i ∈ L then t.moved G i else t.things i
theorem mv_all {t : Tel} {G : Goals} {L : List Int} (h : ∀ i, (G i).isSome = true → i ∈ L) : t.mv G L = t.moved G := by
  funext i
  unfold Tel.mv
  split
  · rfl
  · rename_i hn
    have : G i = none := by
      cases e : G i with
      | none => rfl
      | some p => exact absurd (h i (by rw [e]; rfl)) hn
    unfold Tel.moved
    rw [this]
    cases t.things i with
    | none => rfl
    | some g => rfl
theorem mv_snoc {t : Tel} {G : Goals} {L : List Int} {i : Int} {g : Tg} {p : Int × Int} (hg : t.things i = some g) (hp : G i = some p) : upF (t.mv G L) i (some ⟨p, g.room, g.grp⟩) = t.mv G (L ++ [i]) := by
  funext j
  unfold upF Tel.mv
  by_cases e : j = i
  · subst e
    rw [if_pos rfl, if_pos (by simp)]
    unfold Tel.moved
    rw [hg, hp]
    rfl
  · rw [if_neg e]
    simp [e]
end Ab
set_option Elab.async false
set_option linter.all false
set_option maxRecDepth 100000
set_option maxHeartbeats 4000000
/-! ### d[(a, b)] = v: the key is a tuple made there -/
namespace Ab
open PySem PySem.Spec PyProof.Rows L2
def gIxT (wo : WE) (wa : WA) : WG := fun d ρ S Q => wo ρ S (fun x S1 => wa ρ S1 (fun ds S2 => ds.length ≤ sizeLine ∧ (match x with
  | .ref a => (match S2 a, keysA ds with
    | some (.dT kvs), some ks => kvs.length < sizeLine ∧ Q ρ (put S2 a (.dT (putA kvs ks d)))
    | _, _ => False)
  | _ => False)) X0) X0
section
variable {X : Cx} {o : Expr} {es : List Expr} {wo : WE} {wa : WA} {pos p2 : Pos} {x1 : Nat}
theorem rg_ixT (hu : X.A.units + 100 < cLine) (ho : RE X W0 o wo) (hi : RA X W0 es wa)
    (ha : ∀ v, assign (.Subscript o (.Tuple es x1 p2) pos) X.env v = (do
      let ov ← holding [v] (eval o X.env)
      let iv ← holding [v, ov] (eval (.Tuple es x1 p2) X.env)
      standAt pos
      holding [v, ov, iv] (setItem ov iv v)
      release [v, ov, iv] []) := by intro _; rfl) : RG X [] (.Subscript o (.Tuple es x1 p2) pos) (gIxT wo wa) :=
  pg_imp (pg_sub ho (pe_tup hi) (set_any hu) ha) fun v σ H Q ⟨d, ρ, S, QA, p, rs, rp, h, k⟩ => ⟨ρ, S, _, X0, rs, rp, h, fun x S1 vx H1 h1 l1 r1 p1 => ⟨ρ, S1, _, X0, rs.le l1, r1, h1, fun ds S2 vs H2 h2 l2 r2 p2 => by
    refine ⟨by rw [p2.length]; exact h2.1, fun q hq => ?_⟩
    replace h2 := h2.2
    cases x with
    | ref a =>
      unfold RepV at p1
      subst p1
      cases e : S2 a with
      | none => simp [e] at h2
      | some ob =>
        cases ob with
        | dT kvs =>
          cases ek : keysA ds with
          | none => simp [e, ek] at h2
          | some ks =>
            simp only [e, ek] at h2
            have hv := keysA_ok ek p2
            subst hv
            have L0 : Le H2 (upd H2 q (.tup (ks.map kV))) := Le.new hq
            have r3 : Rep X.K (upd H2 q (.tup (ks.map kV))) S2 := r2.new hq
            obtain ⟨us, g1, g2⟩ := r3 a _ e
            have L : Le (upd H2 q (.tup (ks.map kV))) (upd (upd H2 q (.tup (ks.map kV))) a (.dT (putK us ks v))) := r3.le_put e
            have LL := ((l1.trans l2).trans L0).trans L
            refine .inr ⟨a, _, rfl, DPut.t g1 upd_same (by rw [g2.length]; exact h2.1), k ρ _ σ _ h2.2 LL (rs.le LL) (r3.put (o := .dT (putA kvs ks d)) e ⟨_, upd_same, (g2.le L).put (p.le LL)⟩) (Agr.refl _ _)⟩
        | _ => simp [e] at h2
    | _ => exact (show False from h2).elim, fun _ _ _ z => z.elim⟩, fun _ _ _ z => z.elim⟩
end
/-! the same, looked up: d.get((a, b), z) -/
def wGet2T (wo : WE) (wa : WA) (wz : WE) : WE := fun ρ S Q E => wo ρ S (fun x S1 => (match x with
  | .ref a => isDA S1 a ∧ wa ρ S1 (fun ds S2 => ds.length ≤ sizeLine ∧ wz ρ S2 (fun z S3 => (match S3 a, keysA ds with
    | some (.dT kvs), some ks => Q ((getA kvs ks).getD z) S3
    | _, _ => False)) E) E
  | _ => False)) E
end Ab
set_option Elab.async false
set_option linter.all false
set_option maxRecDepth 100000
set_option maxHeartbeats 4000000
/-! ### max, min of a tuple of ints -/
namespace Ab
open PySem PySem.Spec PyProof.Rows L2 PySem.W
def rMaxT (K : PySem.W.Frag) : List V → Hp → VK → Prop := fun vs H Q => ∃ (a : Addr) (ns : List Int), vs = [V.ref a] ∧ SqT K H a (ns.map V.int) ∧ ns ≠ [] ∧ ∀ m, m ∈ ns → (∀ y, y ∈ ns → y ≤ m) → Q (.int m) H
def rMinT (K : PySem.W.Frag) : List V → Hp → VK → Prop := fun vs H Q => ∃ (a : Addr) (ns : List Int), vs = [V.ref a] ∧ SqT K H a (ns.map V.int) ∧ ns ≠ [] ∧ ∀ m, m ∈ ns → (∀ y, y ∈ ns → m ≤ y) → Q (.int m) H
theorem dp_ints {K : PySem.W.Frag} {H : Hp} : ∀ (ns : List Int), DpAll K H (ns.map V.int) (ns.map PyData.int)
  | [] => .nil
  | n :: ns => .cons (.int n) (dp_ints ns)
theorem alike_ints' (ns : List Int) : AlikeAll (ns.map PyData.int) := by
  constructor
  · intro x hx y hy
    obtain ⟨a, _, rfl⟩ := List.mem_map.mp hx
    obtain ⟨b, _, rfl⟩ := List.mem_map.mp hy
    rfl
  · intro x hx
    obtain ⟨a, _, rfl⟩ := List.mem_map.mp hx
    exact fun z => by cases z
theorem cr_maxT {X : Cx} (hc : X.calm = true) (hu : X.A.units + 100 < cLine) : CallR X (.builtin "max") (rMaxT X.K) := by
  intro pins s σ H vs us Q I r h
  obtain ⟨a, ns, rfl, hs, hn, q⟩ := h
  obtain ⟨its, rv, hl, _⟩ := I.tuple hs
  rw [Vals.ref1 r]
  obtain ⟨as, ra⟩ := Dp.readsAll I (ns.map PyData.int) (ns.map V.int) its (dp_ints ns) rv
  cases ns with
  | nil => exact absurd rfl hn
  | cons x ys =>
    have hdp : PyData.depthAll ((x :: ys).map PyData.int) = 0 := depth_ints _
    refine max_tuple_data (x := .int x) (xs := ys.map .int) (I.ok.hd hc) (show s.heap.IsTuple a its.toArray from hl) (by simpa using ra) (alike_ints' (x :: ys)) (by rw [show (PyData.int x :: ys.map PyData.int) = (x :: ys).map PyData.int from rfl, hdp]; omega) fun i u h' tk bs hi hr hk => ?_
    have hi' : its[i]? = some u := by simpa using hi
    obtain ⟨v, ev, rl⟩ := vals_get rv hi'
    rw [List.getElem?_map, Option.map_eq_some_iff] at ev
    obtain ⟨m, em, rfl⟩ := ev
    have I2 := I.kept (h' := h') (t' := tk) hk
    obtain ⟨cs, r2⟩ := Dp.reads I2 (.int m) (.int m) u (.int m) rl
    have hmm := max_mem (ys.map PyData.int) (.int x)
    have e2 : PyData.int m = maxD (.int x) (ys.map .int) := alike_unique _ _ _ _ _ ((alike_ints' (x :: ys)).1 _ (List.mem_map_of_mem (List.mem_of_getElem? em)) _ hmm) r2 hr
    refine ⟨.int m, H, I2, rl, q m (List.mem_of_getElem? em) fun y hy => ?_⟩
    have := maxD_ge (ys.map PyData.int) (.int x) (.int y) (show PyData.int y ∈ (x :: ys).map PyData.int from List.mem_map_of_mem hy)
    rw [← e2, dataLt_int, decide_eq_false_iff_not] at this
    omega
theorem cr_minT {X : Cx} (hc : X.calm = true) (hu : X.A.units + 100 < cLine) : CallR X (.builtin "min") (rMinT X.K) := by
  intro pins s σ H vs us Q I r h
  obtain ⟨a, ns, rfl, hs, hn, q⟩ := h
  obtain ⟨its, rv, hl, _⟩ := I.tuple hs
  rw [Vals.ref1 r]
  obtain ⟨as, ra⟩ := Dp.readsAll I (ns.map PyData.int) (ns.map V.int) its (dp_ints ns) rv
  cases ns with
  | nil => exact absurd rfl hn
  | cons x ys =>
    have hdp : PyData.depthAll ((x :: ys).map PyData.int) = 0 := depth_ints _
    refine min_tuple_data (x := .int x) (xs := ys.map .int) (I.ok.hd hc) (show s.heap.IsTuple a its.toArray from hl) (by simpa using ra) (alike_ints' (x :: ys)) (by rw [show (PyData.int x :: ys.map PyData.int) = (x :: ys).map PyData.int from rfl, hdp]; omega) fun i u h' tk bs hi hr hk => ?_
    have hi' : its[i]? = some u := by simpa using hi
    obtain ⟨v, ev, rl⟩ := vals_get rv hi'
    rw [List.getElem?_map, Option.map_eq_some_iff] at ev
    obtain ⟨m, em, rfl⟩ := ev
    have I2 := I.kept (h' := h') (t' := tk) hk
    obtain ⟨cs, r2⟩ := Dp.reads I2 (.int m) (.int m) u (.int m) rl
    have hmm := min_mem (ys.map PyData.int) (.int x)
    have e2 : PyData.int m = minD (.int x) (ys.map .int) := alike_unique _ _ _ _ _ ((alike_ints' (x :: ys)).1 _ (List.mem_map_of_mem (List.mem_of_getElem? em)) _ hmm) r2 hr
    refine ⟨.int m, H, I2, rl, q m (List.mem_of_getElem? em) fun y hy => ?_⟩
    have := minD_le (ys.map PyData.int) (.int x) (.int y) (show PyData.int y ∈ (x :: ys).map PyData.int from List.mem_map_of_mem hy)
    rw [← e2, dataLt_int, decide_eq_false_iff_not] at this
    omega
def aMaxT : WRL := fun ds S Q => (match ds with
  | [.tup xs] => ∃ ns : List Int, xs = ns.map D.int ∧ ns ≠ [] ∧ ∀ m, m ∈ ns → (∀ y, y ∈ ns → y ≤ m) → Q (.int m) S
  | _ => False)
def aMinT : WRL := fun ds S Q => (match ds with
  | [.tup xs] => ∃ ns : List Int, xs = ns.map D.int ∧ ns ≠ [] ∧ ∀ m, m ∈ ns → (∀ y, y ∈ ns → m ≤ y) → Q (.int m) S
  | _ => False)
theorem sim_maxT {K : PySem.W.Frag} : SimL K (rMaxT K) aMaxT := fun xs ds H S QA Q p r a k => by
  match ds, a, p with
  | [.tup zs], ⟨ns, e, hn, h⟩, p =>
    obtain ⟨v, rfl, pv⟩ := repL1 p
    unfold RepV at pv
    obtain ⟨t, vs, rfl, tp, rl⟩ := pv
    rw [e] at rl
    have hv := rl.ints
    subst hv
    exact ⟨t, ns, rfl, tp.sq, hn, fun m hm hy => k _ S _ H (h m hm hy) (Le.refl H) r (rep_int _)⟩
theorem sim_minT {K : PySem.W.Frag} : SimL K (rMinT K) aMinT := fun xs ds H S QA Q p r a k => by
  match ds, a, p with
  | [.tup zs], ⟨ns, e, hn, h⟩, p =>
    obtain ⟨v, rfl, pv⟩ := repL1 p
    unfold RepV at pv
    obtain ⟨t, vs, rfl, tp, rl⟩ := pv
    rw [e] at rl
    have hv := rl.ints
    subst hv
    exact ⟨t, ns, rfl, tp.sq, hn, fun m hm hy => k _ S _ H (h m hm hy) (Le.refl H) r (rep_int _)⟩
theorem aMin_2 {a b : Int} {S : Sto} {Q : AK} (h : Q (.int (min a b)) S) : aMinT [.tup [.int a, .int b]] S Q := by
  refine ⟨[a, b], rfl, by simp, fun m hm hy => ?_⟩
  have h1 := hy a (by simp)
  have h2 := hy b (by simp)
  have : m = min a b := by
    simp only [List.mem_cons, List.not_mem_nil, or_false] at hm
    rcases hm with rfl | rfl <;> omega
  rw [this]; exact h
theorem aMax_2 {a b : Int} {S : Sto} {Q : AK} (h : Q (.int (max a b)) S) : aMaxT [.tup [.int a, .int b]] S Q := by
  refine ⟨[a, b], rfl, by simp, fun m hm hy => ?_⟩
  have h1 := hy a (by simp)
  have h2 := hy b (by simp)
  have : m = max a b := by
    simp only [List.mem_cons, List.not_mem_nil, or_false] at hm
    rcases hm with rfl | rfl <;> omega
  rw [this]; exact h
end Ab
set_option Elab.async false
set_option linter.all false
set_option maxRecDepth 100000
set_option maxHeartbeats 4000000
/-! ### rooms: the search finds the least number of doors -/
namespace Ab
open PySem PySem.Spec PyProof.Rows L2
/-- a way of so many doors -/
inductive Wk (ds : Drs) (r : Int) : Int → Nat → Prop
  | nil : Wk ds r r 0
  | cons {p o : Int} {n : Nat} : Wk ds r p n → o ∈ nbF ds p → Wk ds r o (n + 1)
structure BI (ds : Drs) (r : Int) (f : Int → Option Int) (q : List Int) : Prop where
  a : f r = some 0
  b : ∀ o v, f o = some v → ∃ n : Nat, v = n ∧ Wk ds r o n
  c : ∀ x ∈ q, (f x).isSome = true
  d : ∀ x v, f x = some v → x ∉ q → ∀ o ∈ nbF ds x, ∃ w, f o = some w ∧ w ≤ v + 1
  e : q.Pairwise fun x y => (f x).getD 0 ≤ (f y).getD 0
  m : ∀ h t, q = h :: t → ∀ x v, f x = some v → v ≤ (f h).getD 0 + 1
structure MI (ds : Drs) (r : Int) (f : Int → Option Int) (t : List Int) (v : Int) (os : List Int) (st : (Int → Option Int) × List Int) : Prop where
  same : ∀ i, (f i).isSome = true → st.1 i = f i
  b : ∀ o w, st.1 o = some w → ∃ n : Nat, w = n ∧ Wk ds r o n
  new : ∀ x w, st.1 x = some w → f x = some w ∨ (w = v + 1 ∧ x ∈ st.2)
  q : ∃ ns, st.2 = t ++ ns ∧ ∀ x ∈ ns, st.1 x = some (v + 1)
  done : ∀ o ∈ os, ∃ w, st.1 o = some w ∧ w ≤ v + 1
theorem mi_step {ds : Drs} {r h : Int} {f : Int → Option Int} {t os : List Int} {v : Int} {st : (Int → Option Int) × List Int} (I : MI ds r f t v os st) (hm : ∀ x w, f x = some w → w ≤ v + 1) (hv : ∃ n : Nat, v = n ∧ Wk ds r h n) {o : Int} (ho : o ∈ nbF ds h) : MI ds r f t v (os ++ [o]) (rlx v st o) := by
  unfold rlx
  split
  · rename_i hs
    refine ⟨I.same, I.b, I.new, I.q, fun x hx => ?_⟩
    rcases List.mem_append.mp hx with z | z
    · exact I.done x z
    · rw [List.mem_singleton.mp z]
      obtain ⟨w, hw⟩ := Option.isSome_iff_exists.mp hs
      refine ⟨w, hw, ?_⟩
      rcases I.new o w hw with q | q
      · exact hm o w q
      · omega
  · rename_i hn
    have hn' : st.1 o = none := by simpa using hn
    have old : ∀ x w, st.1 x = some w → upF st.1 o (some (v + 1)) x = some w := fun x w e => by
      rw [upF_ne fun z => by rw [z, hn'] at e; cases e]; exact e
    obtain ⟨n, en, wk⟩ := hv
    obtain ⟨ns, e1, e2⟩ := I.q
    refine ⟨fun i hi => ?_, fun x w e => ?_, fun x w e => ?_, ⟨ns ++ [o], ?_, fun x hx => ?_⟩, fun x hx => ?_⟩
    · obtain ⟨w, hw⟩ := Option.isSome_iff_exists.mp hi
      have := I.same i hi
      rw [hw] at this ⊢
      exact old i w this
    · show ∃ n : Nat, w = n ∧ Wk ds r x n
      unfold upF at e
      simp only at e
      split at e
      · rename_i z; cases e; subst z; exact ⟨n + 1, by omega, wk.cons ho⟩
      · exact I.b x w e
    · show f x = some w ∨ (w = v + 1 ∧ x ∈ st.2 ++ [o])
      unfold upF at e
      simp only at e
      split at e
      · rename_i z; cases e; exact .inr ⟨rfl, by simp [z]⟩
      · rcases I.new x w e with q | q
        · exact .inl q
        · exact .inr ⟨q.1, by simp [q.2]⟩
    · show st.2 ++ [o] = t ++ (ns ++ [o])
      rw [e1, List.append_assoc]
    · show upF st.1 o (some (v + 1)) x = _
      rcases List.mem_append.mp hx with z | z
      · exact old x _ (e2 x z)
      · rw [List.mem_singleton.mp z]; exact upF_same
    · show ∃ w, upF st.1 o (some (v + 1)) x = some w ∧ w ≤ v + 1
      rcases List.mem_append.mp hx with z | z
      · obtain ⟨w, e, l⟩ := I.done x z
        exact ⟨w, old x w e, l⟩
      · rw [List.mem_singleton.mp z]; exact ⟨v + 1, upF_same, Int.le_refl _⟩
theorem mi_fold {ds : Drs} {r h : Int} {f : Int → Option Int} {t : List Int} {v : Int} (hm : ∀ x w, f x = some w → w ≤ v + 1) (hv : ∃ n : Nat, v = n ∧ Wk ds r h n) : ∀ (l : List Int) {os : List Int} {st : (Int → Option Int) × List Int}, MI ds r f t v os st → (∀ o ∈ l, o ∈ nbF ds h) → MI ds r f t v (os ++ l) (l.foldl (rlx v) st)
  | [], os, st, I, _ => by rw [List.append_nil]; exact I
  | o :: l, os, st, I, hl => by
    have := mi_fold hm hv l (mi_step I hm hv (hl o (by simp))) fun x hx => hl x (by simp [hx])
    rw [List.append_assoc] at this
    exact this
theorem bi_step {ds : Drs} {r h : Int} {f : Int → Option Int} {t : List Int} (B : BI ds r f (h :: t)) : BI ds r ((nbF ds h).foldl (rlx ((f h).getD 0)) (f, t)).1 ((nbF ds h).foldl (rlx ((f h).getD 0)) (f, t)).2 := by
  obtain ⟨v, hv⟩ := Option.isSome_iff_exists.mp (B.c h (by simp))
  have hm := B.m h t rfl
  rw [hv] at hm ⊢
  simp only [Option.getD_some] at hm ⊢
  have I := mi_fold (ds := ds) (r := r) (h := h) (f := f) (t := t) (v := v) hm (B.b h v hv) (nbF ds h) (os := []) (st := (f, t)) ⟨fun _ _ => rfl, B.b, fun x w e => .inl e, ⟨[], by simp, by simp⟩, by simp⟩ (fun _ h => h)
  rw [List.nil_append] at I
  generalize (nbF ds h).foldl (rlx v) (f, t) = st at I ⊢
  obtain ⟨ns, e1, e2⟩ := I.q
  have st1 : ∀ x w, f x = some w → st.1 x = some w := fun x w e => by rw [I.same x (by rw [e]; rfl)]; exact e
  have tv : ∀ x ∈ t, (st.1 x).getD 0 = (f x).getD 0 := fun x hx => by rw [I.same x (B.c x (by simp [hx]))]
  have le1 : ∀ x w, st.1 x = some w → w ≤ v + 1 := fun x w e => by
    rcases I.new x w e with q | q
    · exact hm x w q
    · omega
  have pw := List.pairwise_cons.mp B.e
  refine ⟨st1 _ _ B.a, I.b, fun x hx => ?_, fun x w e hx => ?_, ?_, fun h' t' e => ?_⟩
  · rw [e1] at hx
    rcases List.mem_append.mp hx with z | z
    · obtain ⟨w, hw⟩ := Option.isSome_iff_exists.mp (B.c x (by simp [z]))
      rw [st1 x w hw]; rfl
    · rw [e2 x z]; rfl
  · rcases I.new x w e with q | q
    · by_cases hh : x = h
      · subst hh
        rw [hv] at q
        cases q
        exact I.done
      · intro o ho
        have hx' : x ∉ h :: t := fun z => by
          rcases List.mem_cons.mp z with z | z
          · exact hh z
          · exact hx (by rw [e1]; exact List.mem_append.mpr (.inl z))
        obtain ⟨u, hu, l⟩ := B.d x w q hx' o ho
        exact ⟨u, st1 o u hu, l⟩
    · exact (hx q.2).elim
  · rw [e1, List.pairwise_append]
    refine ⟨?_, ?_, fun x hx y hy => ?_⟩
    · refine List.Pairwise.imp_of_mem (fun {x y} hx hy l => ?_) pw.2
      rw [tv x hx, tv y hy]; exact l
    · have : ∀ l : List Int, (∀ x ∈ l, st.1 x = some (v + 1)) → l.Pairwise fun x y => (st.1 x).getD 0 ≤ (st.1 y).getD 0 := by
        intro l
        induction l with
        | nil => intro _; exact List.Pairwise.nil
        | cons x l ih =>
          intro h
          refine List.pairwise_cons.mpr ⟨fun y hy => ?_, ih fun y hy => h y (by simp [hy])⟩
          rw [h x (by simp), h y (by simp [hy])]
          exact Int.le_refl _
      exact this ns e2
    · rw [e2 y hy]
      obtain ⟨w, hw⟩ := Option.isSome_iff_exists.mp (B.c x (by simp [hx]))
      rw [st1 x w hw]
      exact le1 x w (st1 x w hw)
  · intro x w ew
    have l1 := le1 x w ew
    rw [e1] at e
    cases t with
    | nil =>
      rw [List.nil_append] at e
      have : st.1 h' = some (v + 1) := e2 h' (by rw [e]; simp)
      rw [this]
      simp only [Option.getD_some]
      omega
    | cons y t =>
      cases e
      have l2 := pw.1 h' (by simp)
      rw [hv] at l2
      simp only [Option.getD_some] at l2
      rw [tv h' (by simp)]
      omega
theorem bfs_end {ds : Drs} {r : Int} (ok : DrOk ds) : ∀ (n : Nat) {f : Int → Option Int} {q : List Int}, BI ds r f q → InR 0 10 f → q.length + 10 ≤ n + (idsF 0 10 f).length → BI ds r (bfs ds n f q) []
  | 0, f, q, B, rg, hn => by
    have := idsF_len (f := f) (lo := 0) (n := 10)
    have : q = [] := List.eq_nil_of_length_eq_zero (by omega)
    rw [this] at B
    exact B
  | n + 1, f, [], B, rg, hn => B
  | n + 1, f, h :: t, B, rg, hn => by
    have I := rlx_fold (f := f) (t := t) (h := h) (d := (f h).getD 0) (os := nbF ds h) (st := (f, t)) ⟨rg, fun _ _ => rfl, rfl⟩ fun o ho => nbF_rng ok ho
    refine bfs_end ok n (bi_step B) I.rng ?_
    have := I.len
    simp only [List.length_cons] at hn
    omega
theorem st_bi {ds : Drs} {r : Int} (ok : DrOk ds) (hr : 0 ≤ r ∧ r < 10) : BI ds r (stF ds r) [] := by
  have rg0 : InR 0 10 (fun _ : Int => (none : Option Int)) := fun i hi => by cases hi
  have e : (idsF 0 10 (upF (fun _ : Int => (none : Option Int)) r (some 0))).length = 1 := by
    rw [ids_put rg0 rfl hr.1 hr.2]
    rfl
  refine bfs_end ok 10 ⟨upF_same, fun o v e => ?_, fun x hx => ?_, fun x v e hx => ?_, by simp, fun h t e x v ex => ?_⟩ (rg0.put hr.1 (by omega)) (by rw [e]; simp)
  · unfold upF at e
    split at e
    · rename_i z; cases e; subst z; exact ⟨0, rfl, .nil⟩
    · cases e
  · rw [List.mem_singleton.mp hx, upF_same]; rfl
  · unfold upF at e
    split at e
    · rename_i z; exact (hx (by simp [z])).elim
    · cases e
  · cases e
    unfold upF at ex
    split at ex
    · cases ex; rw [upF_same]; simp
    · cases ex
/-- found is just what a way leads to, with the least number of doors -/
theorem st_wk {ds : Drs} {r : Int} (ok : DrOk ds) (hr : 0 ≤ r ∧ r < 10) {o : Int} {n : Nat} (w : Wk ds r o n) : ∃ v, stF ds r o = some v ∧ v ≤ n := by
  have B := st_bi ok hr
  induction w with
  | nil => exact ⟨0, B.a, by simp⟩
  | cons w ho ih =>
    obtain ⟨v, e, l⟩ := ih
    obtain ⟨u, e2, l2⟩ := B.d _ v e (by simp) _ ho
    exact ⟨u, e2, by omega⟩
theorem st_of {ds : Drs} {r : Int} (ok : DrOk ds) (hr : 0 ≤ r ∧ r < 10) {o v : Int} (e : stF ds r o = some v) : ∃ n : Nat, v = n ∧ Wk ds r o n := (st_bi ok hr).b o v e
theorem reach_wk {ds : Drs} {r o deep : Int} (ok : DrOk ds) (hr : 0 ≤ r ∧ r < 10) : (∃ v, stF ds r o = some v ∧ v ≤ deep) ↔ ∃ n : Nat, Wk ds r o n ∧ (n : Int) ≤ deep := by
  constructor
  · rintro ⟨v, e, l⟩
    obtain ⟨n, en, w⟩ := st_of ok hr e
    exact ⟨n, w, by omega⟩
  · rintro ⟨n, w, l⟩
    obtain ⟨v, e, l2⟩ := st_wk ok hr w
    exact ⟨v, e, by omega⟩
end Ab
set_option Elab.async false
set_option linter.all false
set_option maxRecDepth 100000
set_option maxHeartbeats 4000000
/-! ### rooms called otherwise -/
namespace Ab
open PySem PySem.Spec PyProof.Rows L2
theorem Wk.rng {ds : Drs} {r o : Int} {n : Nat} (ok : DrOk ds) (hr : 0 ≤ r ∧ r < 10) (w : Wk ds r o n) : 0 ≤ o ∧ o < 10 := by
  cases w with
  | nil => exact hr
  | cons w ho => exact nbF_rng ok ho
theorem st_rng {ds : Drs} {r : Int} (ok : DrOk ds) (hr : 0 ≤ r ∧ r < 10) : InR 0 10 (stF ds r) := fun o ho => by
  obtain ⟨v, e⟩ := Option.isSome_iff_exists.mp ho
  obtain ⟨n, _, w⟩ := st_of ok hr e
  have := w.rng ok hr
  exact ⟨this.1, by omega⟩
theorem reach_mem {ds : Drs} {r o deep : Int} (ok : DrOk ds) (hr : 0 ≤ r ∧ r < 10) : o ∈ reachL ds r deep ↔ ∃ n : Nat, Wk ds r o n ∧ (n : Int) ≤ deep := by
  rw [← reach_wk ok hr]
  unfold reachL
  rw [List.mem_filter, idsF_mem (st_rng ok hr), decide_eq_true_eq]
  constructor
  · rintro ⟨h, l⟩
    obtain ⟨v, e⟩ := Option.isSome_iff_exists.mp h
    rw [e] at l
    exact ⟨v, e, l⟩
  · rintro ⟨v, e, l⟩
    rw [e]
    exact ⟨rfl, l⟩
/-- doors between mirrored rooms -/
def mdr (ds : Drs) : Drs := srt2 (ds.map fun d => (9 - d.2, 9 - d.1))
theorem mdr_mem {ds : Drs} {d : Int × Int} : d ∈ mdr ds ↔ (9 - d.2, 9 - d.1) ∈ ds := by
  unfold mdr
  rw [(srt2_perm _).mem_iff, List.mem_map]
  constructor
  · rintro ⟨x, hx, rfl⟩
    have : (9 - (9 - x.1), 9 - (9 - x.2)) = x := Prod.ext (by simp only; omega) (by simp only; omega)
    simp only
    rw [this]; exact hx
  · intro h
    exact ⟨_, h, Prod.ext (by simp only; omega) (by simp only; omega)⟩
theorem mdr_nb {ds : Drs} {r o : Int} (h : o ∈ nbF ds r) : 9 - o ∈ nbF (mdr ds) (9 - r) := by
  obtain ⟨d, hd, q⟩ := nbF_mem.mp h
  have hm : (9 - d.2, 9 - d.1) ∈ mdr ds := by
    rw [mdr_mem]
    have : (9 - (9 - d.1), 9 - (9 - d.2)) = d := Prod.ext (by simp only; omega) (by simp only; omega)
    simp only
    rw [this]; exact hd
  refine nbF_mem.mpr ⟨_, hm, ?_⟩
  simp only
  omega
theorem mdr_nb' {ds : Drs} {r o : Int} (h : o ∈ nbF (mdr ds) r) : 9 - o ∈ nbF ds (9 - r) := by
  obtain ⟨d, hd, q⟩ := nbF_mem.mp h
  refine nbF_mem.mpr ⟨_, mdr_mem.mp hd, ?_⟩
  simp only
  omega
theorem Wk.mir {ds : Drs} {r o : Int} {n : Nat} (w : Wk ds r o n) : Wk (mdr ds) (9 - r) (9 - o) n := by
  induction w with
  | nil => exact .nil
  | cons w ho ih => exact .cons ih (mdr_nb ho)
theorem Wk.mir' {ds : Drs} {r o : Int} {n : Nat} (w : Wk (mdr ds) r o n) : Wk ds (9 - r) (9 - o) n := by
  induction w with
  | nil => exact .nil
  | cons w ho ih => exact .cons ih (mdr_nb' ho)
theorem mdr_ok {ds : Drs} (ok : DrOk ds) : DrOk (mdr ds) := fun d hd => by
  have := ok _ (mdr_mem.mp hd)
  simp only at this
  omega
theorem mdr_U {ds : Drs} (u : DrU ds) : DrU (mdr ds) := by
  refine ⟨mdr_ok u.ok, fun d hd => ?_, ?_, srt2_up _⟩
  · have := u.lt _ (mdr_mem.mp hd)
    simp only at this
    omega
  · refine (srt2_perm _).nodup_iff.mpr ?_
    unfold List.Nodup
    rw [List.pairwise_map]
    refine u.nd.imp fun {x y} h z => h ?_
    have := Prod.mk.inj z
    exact Prod.ext (by omega) (by omega)
theorem reach_mir {ds : Drs} {r o deep : Int} (ok : DrOk ds) (hr : 0 ≤ r ∧ r < 10) : 9 - o ∈ reachL (mdr ds) (9 - r) deep ↔ o ∈ reachL ds r deep := by
  rw [reach_mem ok hr, reach_mem (mdr_ok ok) (by omega)]
  constructor
  · rintro ⟨n, w, l⟩
    have := w.mir'
    rw [show 9 - (9 - r) = r by omega, show 9 - (9 - o) = o by omega] at this
    exact ⟨n, this, l⟩
  · rintro ⟨n, w, l⟩
    exact ⟨n, w.mir, l⟩
/-- ids called otherwise -/
theorem ids_shift {α β : Type} {f : Int → Option α} {g : α → β} {b : Int} (hb : 0 ≤ b) (h : ∀ i, (f i).isSome = true → 0 ≤ i ∧ i + b < 100) : idsF 0 100 (fun i => (f (i - b)).map g) = (idsF 0 100 f).map (· + b) := by
  have r1 : InR 0 100 f := fun i hi => by have := h i hi; exact ⟨this.1, by omega⟩
  have r2 : InR 0 100 (fun i => (f (i - b)).map g) := fun i hi => by
    have := h (i - b) (by simpa using hi)
    exact ⟨by omega, by omega⟩
  have up : ((idsF 0 100 f).map (· + b)).Pairwise (· < ·) := by
    rw [List.pairwise_map]
    exact idsF_up.imp fun {x y} z => by omega
  refine sort_uniq (r := fun a b : Int => a < b) (fun a b h1 h2 => by omega) (perm_of_mem (up_nodup idsF_up) (up_nodup up) fun i => ?_) idsF_up up
  rw [idsF_mem r2, List.mem_map]
  constructor
  · intro z
    exact ⟨i - b, (idsF_mem r1).mpr (by simpa using z), by omega⟩
  · rintro ⟨j, hj, rfl⟩
    have := (idsF_mem r1).mp hj
    simpa using this
end Ab
set_option Elab.async false
set_option linter.all false
set_option maxRecDepth 100000
set_option maxHeartbeats 4000000
/-! ### list(range(n)) -/
namespace Ab
open PySem PySem.Spec PyProof.Rows L2
def rgI (n : Int) : List Int := (List.range n.toNat).map fun (i : Nat) => (i : Int)
def wLR1 (w : WE) : WE := fun ρ S Q E => w ρ S (fun d S1 => (match d with
  | .int n => (0 ≤ n ∧ n ≤ 100000) ∧ ∀ p, S1 p = none → Q (.ref p) (put S1 p (.lst ((rgI n).map D.int)))
  | _ => False)) E
theorem rgV_ints (n : Int) : rgV 0 n = (rgI n).map V.int := by
  unfold rgV rgI
  rw [List.map_map, Int.sub_zero]
  refine List.map_congr_left fun i _ => ?_
  simp only [Function.comp, Int.zero_add]
section
variable {X : Cx} {W : WX} {a : Expr} {wa : WE} {p p2 pos pos2 : Pos}
theorem re_listRg1 (hc : X.calm = true) (hg : Gl X "list") (hm : X.mg "list" = none) (hg2 : Gl X "range") (hm2 : X.mg "range" = none) (ha : RE X W a wa) (na : starEach [a] X.env = (false, eval a X.env) :: starEach [] X.env := by rfl) : RE X W (.Call (.Name "list" p) [.Call (.Name "range" p2) [a] [] pos2] [] pos) (wLR1 wa) :=
  pe_imp (pe_listRg hc hg hm (prg_1 hg2 hm2 ha na)) fun σ H Q ⟨ρ, S, QA, EA, rs, rp, h, k, x⟩ => ⟨ρ, S, _, EA, rs, rp, h, fun d S1 v H1 h1 l1 r1 p1 => by
    cases d with
    | int n =>
      unfold RepV at p1
      subst p1
      obtain ⟨h2, h3⟩ := h1
      refine ⟨n, rfl, RgOk.of_le (Int.le_refl 0) (by omega) (by decide) h2.1, fun q nq => ?_⟩
      rw [rgV_ints]
      exact k _ _ _ _ (h3 q (r1.free nq)) (l1.trans (Le.new nq)) (r1.newP (o := .lst ((rgI n).map D.int)) nq ⟨_, upd_same, repL_ints _⟩) (rep_ref _)
    | _ => exact (show False from h1).elim, x⟩
end
end Ab
set_option Elab.async false
set_option linter.all false
set_option maxRecDepth 100000
set_option maxHeartbeats 4000000
/-! ### rows played one by one (plain) -/
namespace Ab
open PySem PySem.Spec PyProof.Rows L2
def ofPair (h n : Int) (r : Rw) : Bool := decide (r.h = h ∧ r.n = n)
def tmOf (r : Rw) : Fr × Bool := (r.time, r.met)
/-- what rows tell of one pair -/
def prs (rs : List Rw) (h n : Int) : List (Fr × Bool) := (rs.filter (ofPair h n)).map tmOf
def Plays (k : Int → Int → Bool) (rs : List Rw) (k' : Int → Int → Bool) : Prop := ∀ h n, Alt (k h n) (prs rs h n) ∧ k' h n = lastB (k h n) (prs rs h n)
def upK (k : Int → Int → Bool) (h n : Int) (b : Bool) : Int → Int → Bool := fun a c => if a = h ∧ c = n then b else k a c
theorem lastB_nil {k : Bool} : lastB k [] = k := rfl
theorem lastB_cons {k : Bool} {c : Fr × Bool} {l : List (Fr × Bool)} : lastB k (c :: l) = lastB c.2 l := rfl
theorem prs_nil {h n : Int} : prs [] h n = [] := rfl
theorem prs_cons {r : Rw} {rs : List Rw} {h n : Int} : prs (r :: rs) h n = if r.h = h ∧ r.n = n then (r.time, r.met) :: prs rs h n else prs rs h n := by
  unfold prs
  rw [List.filter_cons]
  unfold ofPair
  by_cases e : r.h = h ∧ r.n = n
  · rw [if_pos (decide_eq_true e), if_pos e]; rfl
  · rw [if_neg (by simp only [decide_eq_true_eq]; exact e), if_neg e]
theorem prs_append {a b : List Rw} {h n : Int} : prs (a ++ b) h n = prs a h n ++ prs b h n := by
  unfold prs
  rw [List.filter_append, List.map_append]
theorem prs_off {rs : List Rw} {h n : Int} (hr : ∀ r ∈ rs, ¬ (r.h = h ∧ r.n = n)) : prs rs h n = [] := by
  induction rs with
  | nil => rfl
  | cons r rs ih => rw [prs_cons, if_neg (hr r (by simp)), ih fun x hx => hr x (by simp [hx])]
theorem prs_on {rs : List Rw} {h n : Int} (hr : ∀ r ∈ rs, r.h = h ∧ r.n = n) : prs rs h n = rs.map tmOf := by
  induction rs with
  | nil => rfl
  | cons r rs ih => rw [prs_cons, if_pos (hr r (by simp)), ih fun x hx => hr x (by simp [hx])]; rfl
theorem Plays.nil {k k' : Int → Int → Bool} (p : Plays k [] k') (h n : Int) : k' h n = k h n := (p h n).2
theorem Plays.cons {k k' : Int → Int → Bool} {r : Rw} {rs : List Rw} (p : Plays k (r :: rs) k') : r.met = (!k r.h r.n) ∧ Plays (upK k r.h r.n r.met) rs k' := by
  have q := p r.h r.n
  rw [prs_cons, if_pos ⟨rfl, rfl⟩] at q
  obtain ⟨q1, q2⟩ := q
  have key : ∀ {b c : Bool} {x : Fr} {l : List (Fr × Bool)}, Alt b ((x, c) :: l) → c = (!b) ∧ Alt (!b) l := fun {b c x l} a => by
    cases a
    exact ⟨rfl, by assumption⟩
  have hm : r.met = (!k r.h r.n) := (key q1).1
  refine ⟨hm, fun h n => ?_⟩
  unfold upK
  by_cases e : h = r.h ∧ n = r.n
  · obtain ⟨rfl, rfl⟩ := e
    rw [if_pos ⟨rfl, rfl⟩]
    rw [lastB_cons] at q2
    refine ⟨?_, q2⟩
    rw [hm]
    exact (key q1).2
  · rw [if_neg e]
    have z := p h n
    rw [prs_cons, if_neg (fun z => e ⟨z.1.symm, z.2.symm⟩)] at z
    exact z
theorem prs_flat {h n : Int} {f : Int → List Rw} : ∀ {l : List Int}, prs (l.flatMap f) h n = l.flatMap fun x => prs (f x) h n
  | [] => rfl
  | a :: l => by rw [List.flatMap_cons, List.flatMap_cons, prs_append, prs_flat]
theorem flat_off {α : Type} {g : Int → List α} : ∀ {l : List Int}, (∀ x ∈ l, g x = []) → l.flatMap g = []
  | [], _ => rfl
  | a :: l, h => by rw [List.flatMap_cons, h a (by simp), flat_off fun x hx => h x (by simp [hx])]; rfl
theorem flat_one {α : Type} {h : Int} {g : Int → List α} : ∀ {l : List Int}, l.Nodup → (∀ x, x ≠ h → g x = []) → l.flatMap g = if h ∈ l then g h else []
  | [], _, _ => rfl
  | a :: l, nd, hg => by
    rw [List.nodup_cons] at nd
    rw [List.flatMap_cons]
    by_cases e : a = h
    · subst e
      rw [if_pos (by simp), flat_off fun x hx => hg x (fun z => nd.1 (z ▸ hx)), List.append_nil]
    · rw [hg a e, List.nil_append, flat_one nd.2 hg]
      by_cases m : h ∈ l
      · rw [if_pos m, if_pos (by simp [m])]
      · rw [if_neg m, if_neg (by simp [m, Ne.symm e])]
theorem prs_two {hs ids : List Int} (nd1 : hs.Nodup) (nd2 : ids.Nodup) {g : Int → Int → List Rw} (hg : ∀ h n, ∀ r ∈ g h n, r.h = h ∧ r.n = n) (h n : Int) : prs (hs.flatMap fun a => ids.flatMap fun b => g a b) h n = if h ∈ hs ∧ n ∈ ids then (g h n).map tmOf else [] := by
  rw [prs_flat, flat_one (h := h) nd1 fun x hx => ?_]
  · by_cases m : h ∈ hs
    · rw [if_pos m, prs_flat, flat_one (h := n) nd2 fun x hx => ?_]
      · by_cases m2 : n ∈ ids
        · rw [if_pos m2, if_pos ⟨m, m2⟩, prs_on (hg h n)]
        · rw [if_neg m2, if_neg fun z => m2 z.2]
      · exact prs_off fun r hr z => hx (by have := hg h x r hr; omega)
    · rw [if_neg m, if_neg fun z => m z.1]
  · rw [prs_flat]
    exact flat_off fun y _ => prs_off fun r hr z => hx (by have := hg x y r hr; omega)
namespace Tel
theorem setRow_flat (t : Tel) (h : Int) : ∀ (ns : List Int), t.setRow h ns = ns.flatMap fun m => if (decide (m ≠ h) && (t.fits h m != t.kn h m)) = true then [⟨(0, 1), t.fits h m, h, m⟩] else []
  | [] => rfl
  | a :: l => by
    have ih := setRow_flat t h l
    unfold setRow at ih ⊢
    rw [List.filter_cons, List.flatMap_cons]
    by_cases c : (decide (a ≠ h) && (t.fits h a != t.kn h a)) = true
    · rw [if_pos c, if_pos c, List.map_cons, ih]; rfl
    · rw [if_neg c, if_neg c, ih]; rfl
end Tel
section
variable {t : Tel}
theorem TOk.live_iff (o : TOk t) {h n : Int} : t.live h n = true ↔ (h ∈ t.hs ∧ n ∈ t.ids) ∧ n ≠ h := by
  rw [o.hid, o.iid]
  unfold Tel.live
  simp only [Bool.and_eq_true, decide_eq_true_eq]
theorem TOk.prs_set (o : TOk t) (h n : Int) : prs t.setRows h n = if t.live h n = true ∧ t.fits h n ≠ t.kn h n then [((0, 1), t.fits h n)] else [] := by
  have e : t.setRows = t.hs.flatMap fun a => t.ids.flatMap fun m => if (decide (m ≠ a) && (t.fits a m != t.kn a m)) = true then [⟨(0, 1), t.fits a m, a, m⟩] else [] := by
    unfold Tel.setRows
    congr 1
    funext a
    exact t.setRow_flat a t.ids
  rw [e, prs_two (hs := t.hs) (ids := t.ids) (up_nodup idsF_up) (up_nodup idsF_up) fun a m r hr => ?_]
  · by_cases m : h ∈ t.hs ∧ n ∈ t.ids
    · rw [if_pos m]
      by_cases c : n ≠ h ∧ t.fits h n ≠ t.kn h n
      · rw [if_pos (by simpa using c), if_pos ⟨o.live_iff.mpr ⟨m, c.1⟩, c.2⟩]; rfl
      · rw [if_neg (by simpa using c), if_neg fun z => c ⟨(o.live_iff.mp z.1).2, z.2⟩]; rfl
    · rw [if_neg m, if_neg fun z => m (o.live_iff.mp z.1).1]
  · split at hr
    · rw [List.mem_singleton.mp hr]; exact ⟨rfl, rfl⟩
    · cases hr
theorem TOk.plays_set (o : TOk t) : Plays t.kn t.setRows t.settle.kn := fun h n => by
  rw [o.prs_set]
  unfold Tel.settle
  simp only
  by_cases c : t.live h n = true ∧ t.fits h n ≠ t.kn h n
  · rw [if_pos c, if_pos c.1]
    have e : t.fits h n = (!t.kn h n) := by
      have := c.2
      revert this
      cases t.fits h n <;> cases t.kn h n <;> simp
    rw [e]
    exact ⟨.cons _ _ (.nil _), rfl⟩
  · rw [if_neg c]
    refine ⟨.nil _, ?_⟩
    by_cases l : t.live h n = true
    · rw [if_pos l, lastB_nil]
      exact Decidable.byContradiction fun z => c ⟨l, z⟩
    · rw [if_neg l, lastB_nil]
theorem chRow_map {h n : Int} {l : List (Fr × Bool)} : (Tel.chRow h n l).map tmOf = l := by
  unfold Tel.chRow
  rw [List.map_map]
  conv => rhs; rw [← List.map_id l]
  rfl
theorem TOk.prs_turn (o : TOk t) (G : Goals) (h n : Int) : prs (t.turnRows G) h n = if t.act h n = true then t.chgs G h n else [] := by
  unfold Tel.turnRows
  rw [prs_two (hs := t.hs) (ids := t.ids) (up_nodup idsF_up) (up_nodup idsF_up) fun a m r hr => ?_]
  · by_cases m : h ∈ t.hs ∧ n ∈ t.ids
    · rw [if_pos m]
      unfold Tel.turnRow
      split
      · rw [chRow_map]
      · rfl
    · rw [if_neg m, if_neg fun z => m ?_]
      unfold Tel.act at z
      simp only [Bool.and_eq_true] at z
      exact (o.live_iff.mp z.1.1).1
  · unfold Tel.turnRow Tel.chRow at hr
    split at hr
    · obtain ⟨c, _, rfl⟩ := List.mem_map.mp hr
      exact ⟨rfl, rfl⟩
    · cases hr
theorem TOk.plays_turn (o : TOk t) (G : Goals) : Plays t.kn (t.turnRows G) (t.turn G).kn := fun h n => by
  rw [o.prs_turn]
  unfold Tel.turn
  simp only
  by_cases c : t.act h n = true
  · rw [if_pos c, if_pos c]
    exact ⟨changes_alt _ _ _ _ _, rfl⟩
  · rw [if_neg c, if_neg c]
    exact ⟨.nil _, rfl⟩
end
/-! the order of rows -/
def klt (a b : Rw) : Prop := lsB a.time b.time = true ∨ (a.time = b.time ∧ (a.h < b.h ∨ (a.h = b.h ∧ a.n < b.n)))
theorem lsB_self (a : Fr) : lsB a a = false := by unfold lsB; simp
theorem lex2 {a b c d : Int} : HT.lexLt [a, b] [c, d] = decide (a < c ∨ (a = c ∧ b < d)) := by
  simp only [HT.lexLt]
  by_cases h : a = c
  · subst h
    simp
    omega
  · simp [h]
theorem aheadB_iff {a b : Rw} : aheadB a b = true ↔ klt a b := by
  unfold aheadB klt
  by_cases e : a.time = b.time
  · rw [if_neg (fun z => z e), lex2, decide_eq_true_eq]
    constructor
    · exact fun z => .inr ⟨e, z⟩
    · rintro (z | z)
      · rw [e, lsB_self] at z; cases z
      · exact z.2
  · rw [if_pos e]
    exact ⟨.inl, fun z => z.elim id fun z => absurd z.1 e⟩
def kle (a b : Rw) : Prop := le a.time b.time ∧ (a.time = b.time → a.h < b.h ∨ (a.h = b.h ∧ a.n ≤ b.n))
theorem kle_iff {a b : Rw} : aheadB b a = false ↔ kle a b := by
  have : aheadB b a = false ↔ ¬ klt b a := by rw [← aheadB_iff]; simp
  rw [this]
  unfold klt kle
  rw [not_or]
  constructor
  · rintro ⟨h1, h2⟩
    refine ⟨lsB_no.mp (by simpa using h1), fun e => ?_⟩
    have : ¬ (b.h < a.h ∨ (b.h = a.h ∧ b.n < a.n)) := fun z => h2 ⟨e.symm, z⟩
    omega
  · rintro ⟨h1, h2⟩
    refine ⟨by rw [lsB_no.mpr h1]; decide, fun z => ?_⟩
    have := h2 z.1.symm
    omega
theorem kle_trans {a b c : Rw} (fa : Fm a.time) (fb : Fm b.time) (fc : Fm c.time) (h1 : kle a b) (h2 : kle b c) : kle a c := by
  refine ⟨le_trans fa.pos fb.pos fc.pos h1.1 h2.1, fun e => ?_⟩
  have e1 : a.time = b.time := le_anti fa fb h1.1 (by rw [e]; exact h2.1)
  have := h1.2 e1
  have := h2.2 (e1.symm.trans e)
  omega
theorem klt_kle {a b : Rw} (h : aheadB a b = true) : kle a b := by
  rw [aheadB_iff] at h
  unfold klt at h
  rcases h with h | ⟨h1, h2⟩
  · refine ⟨le_of_not (lsB_iff.mp h), fun e => ?_⟩
    rw [e, lsB_self] at h; cases h
  · exact ⟨by rw [h1]; exact le_refl _, fun _ => by omega⟩
theorem insPos_ahead {r : Rw} {l : List Rw} : ∀ {k j : Nat}, k ≤ l.length → insPos r l k ≤ j → j < k → ∃ x, l[j]? = some x ∧ aheadB r x = true
  | 0, j, _, _, h => by omega
  | k + 1, j, hk, h1, h2 => by
    unfold insPos at h1
    have hk' : k < l.length := by omega
    rw [List.getElem?_eq_getElem hk'] at h1
    simp only at h1
    split at h1
    · rename_i c
      by_cases e : j = k
      · subst e
        exact ⟨_, List.getElem?_eq_getElem hk', c⟩
      · exact insPos_ahead (by omega) h1 (by omega)
    · omega
theorem insPos_stop {r : Rw} {l : List Rw} : ∀ {k m : Nat}, k ≤ l.length → insPos r l k = m + 1 → ∃ x, l[m]? = some x ∧ aheadB r x = false
  | 0, m, _, h => by unfold insPos at h; cases h
  | k + 1, m, hk, h => by
    unfold insPos at h
    have hk' : k < l.length := by omega
    rw [List.getElem?_eq_getElem hk'] at h
    simp only at h
    split at h
    · exact insPos_stop (by omega) h
    · rename_i c
      cases h
      exact ⟨_, List.getElem?_eq_getElem hk', by simpa using c⟩
theorem drop_ahead {r : Rw} {l : List Rw} {x : Rw} (h : x ∈ l.drop (insPos r l l.length)) : aheadB r x = true := by
  obtain ⟨i, hi, e⟩ := List.mem_iff_getElem.mp h
  rw [List.length_drop] at hi
  rw [List.getElem_drop] at e
  obtain ⟨y, e1, e2⟩ := insPos_ahead (r := r) (l := l) (k := l.length) (j := insPos r l l.length + i) (Nat.le_refl _) (by omega) (by omega)
  rw [List.getElem?_eq_getElem (by omega)] at e1
  cases e1
  rw [← e]; exact e2
theorem prs_ins {l : List Rw} {r : Rw} (hr : ∀ x ∈ l, x.h = r.h ∧ x.n = r.n → le x.time r.time) (h n : Int) : prs (insR l r) h n = prs (l ++ [r]) h n := by
  unfold insR
  have e : prs l h n = prs (l.take (insPos r l l.length)) h n ++ prs (l.drop (insPos r l l.length)) h n := by rw [← prs_append, List.take_append_drop]
  rw [prs_append, prs_append, prs_append, e]
  by_cases c : r.h = h ∧ r.n = n
  · have z : prs (l.drop (insPos r l l.length)) h n = [] := prs_off fun x hx q => by
      have a := drop_ahead hx
      rw [aheadB_iff] at a
      have m := hr x (List.mem_of_mem_drop hx) ⟨q.1.trans c.1.symm, q.2.trans c.2.symm⟩
      unfold klt at a
      rcases a with a | a
      · exact lsB_iff.mp a m
      · omega
    rw [z, List.append_nil, List.append_nil]
  · have z : prs [r] h n = [] := by rw [prs_cons, if_neg c]; rfl
    rw [z, List.append_nil, List.append_nil]
def tmUp (l : List (Fr × Bool)) : Prop := l.Pairwise fun a b => le a.1 b.1
theorem prs_mem {rs : List Rw} {r : Rw} (h : r ∈ rs) : (r.time, r.met) ∈ prs rs r.h r.n := by
  unfold prs
  exact List.mem_map.mpr ⟨r, List.mem_filter.mpr ⟨h, by unfold ofPair; simp⟩, rfl⟩
theorem prs_sortG : ∀ (rs acc : List Rw), (∀ h n, tmUp (prs (acc ++ rs) h n)) → ∀ h n, prs (rs.foldl insR acc) h n = prs (acc ++ rs) h n
  | [], acc, _, h, n => by rw [List.append_nil]; rfl
  | r :: rs, acc, hu, h, n => by
    rw [List.foldl_cons]
    have e : ∀ h n, prs (insR acc r ++ rs) h n = prs (acc ++ r :: rs) h n := fun h n => by
      have q : acc ++ r :: rs = (acc ++ [r]) ++ rs := by simp
      rw [prs_append, prs_ins (fun x hx z => ?_), q, prs_append (a := acc ++ [r])]
      have u := hu r.h r.n
      rw [prs_append, prs_cons, if_pos ⟨rfl, rfl⟩] at u
      unfold tmUp at u
      rw [List.pairwise_append] at u
      have m := prs_mem hx
      rw [z.1, z.2] at m
      exact u.2.2 _ m (r.time, r.met) (by simp)
    rw [prs_sortG rs (insR acc r) (fun h n => by rw [e]; exact hu h n), e]
theorem prs_sort {rs : List Rw} (hu : ∀ h n, tmUp (prs rs h n)) (h n : Int) : prs (sortR rs) h n = prs rs h n := by
  have := prs_sortG rs [] (by simpa using hu) h n
  simpa [sortR] using this
theorem ins_up {l : List Rw} {r : Rw} (fl : ∀ x ∈ l, Fm x.time) (fr : Fm r.time) (h : l.Pairwise kle) : (insR l r).Pairwise kle := by
  unfold insR
  have hd : ∀ x ∈ l.drop (insPos r l l.length), kle r x := fun x hx => klt_kle (drop_ahead hx)
  have ht : ∀ x ∈ l.take (insPos r l l.length), kle x r := fun x hx => by
    cases e : insPos r l l.length with
    | zero => rw [e] at hx; simp at hx
    | succ m =>
      obtain ⟨y, e1, e2⟩ := insPos_stop (Nat.le_refl _) e
      have hy := kle_iff.mp e2
      rw [e] at hx
      obtain ⟨i, hi, q⟩ := List.mem_iff_getElem.mp hx
      rw [List.length_take] at hi
      rw [List.getElem_take] at q
      obtain ⟨hm, e3⟩ := List.getElem?_eq_some_iff.mp e1
      by_cases c : i = m
      · subst c
        rw [e3] at q
        rw [← q]; exact hy
      · have := (List.pairwise_iff_getElem.mp h) i m (by omega) hm (by omega)
        rw [q, e3] at this
        exact kle_trans (fl x (List.mem_of_mem_take hx)) (fl y (List.mem_of_getElem? e1)) fr this hy
  have hl := h
  rw [← List.take_append_drop (insPos r l l.length) l, List.pairwise_append] at hl
  rw [List.append_assoc, List.pairwise_append, List.singleton_append, List.pairwise_cons]
  refine ⟨hl.1, ⟨hd, hl.2.1⟩, fun x hx y hy => ?_⟩
  rcases List.mem_cons.mp hy with rfl | hy
  · exact ht x hx
  · exact hl.2.2 x hx y hy
theorem sort_upG : ∀ (rs acc : List Rw), (∀ x ∈ acc, Fm x.time) → (∀ x ∈ rs, Fm x.time) → acc.Pairwise kle → (rs.foldl insR acc).Pairwise kle
  | [], _, _, _, h => h
  | r :: rs, acc, fa, fr, h => by
    rw [List.foldl_cons]
    refine sort_upG rs _ (fun x hx => ?_) (fun x hx => fr x (by simp [hx])) (ins_up fa (fr r (by simp)) h)
    have := (insR_perm acc r).mem_iff.mp hx
    rcases List.mem_append.mp this with m | m
    · exact fa x m
    · rw [List.mem_singleton.mp m]; exact fr r (by simp)
theorem sort_up {rs : List Rw} (h : ∀ x ∈ rs, Fm x.time) : (sortR rs).Pairwise kle := sort_upG rs [] (by simp) h List.Pairwise.nil
/-! rows of a turn -/
section
variable {t : Tel}
theorem TOk.chg_cases (o : TOk t) {G : Goals} {h n : Int} (a : t.act h n = true) :
    t.chgs G h n = [] ∨ (∃ x, t.chgs G h n = [(x, false)] ∧ t.kn h n = true ∧ Fm x ∧ in01 x) ∨ (∃ x, t.chgs G h n = [(x, true)] ∧ t.kn h n = false ∧ Fm x ∧ in01 x) ∨ ∃ x y, t.chgs G h n = [(x, true), (y, false)] ∧ t.kn h n = false ∧ Fm x ∧ Fm y ∧ in01 x ∧ in01 y ∧ le x y := by
  unfold Tel.act Tel.live at a
  simp only [Bool.and_eq_true] at a
  obtain ⟨s, es⟩ := Option.isSome_iff_exists.mp a.1.1.1.1
  have q := o.sg h s es
  have c := ch_cases (k := t.kn h n) (w := t.wayOf G h) (o := t.wayOf G n) (far := s.far) (slack := s.slack) q.1.1 q.2.1
  have e : t.chgs G h n = changesF (t.kn h n) (t.wayOf G h) (t.wayOf G n) s.far s.slack := by unfold Tel.chgs Tel.farOf Tel.slackOf; rw [es]
  rw [e]
  rcases c with ⟨c, _⟩ | ⟨x, c, hk, f, i, _⟩ | ⟨x, c, hk, f, nr, _⟩ | ⟨x, y, c, hk, f, g, nr, l, i, _⟩
  · exact .inl c
  · exact .inr (.inl ⟨x, c, hk, f, i⟩)
  · exact .inr (.inr (.inl ⟨x, c, hk, f, nr.1⟩))
  · exact .inr (.inr (.inr ⟨x, y, c, hk, f, g, nr.1, i, l⟩))
theorem TOk.turn_up (o : TOk t) (G : Goals) (h n : Int) : tmUp (prs (t.turnRows G) h n) := by
  rw [o.prs_turn]
  by_cases a : t.act h n = true
  · rw [if_pos a]
    rcases o.chg_cases (G := G) a with c | ⟨x, c, _⟩ | ⟨x, c, _⟩ | ⟨x, y, c, _, _, _, _, _, l⟩
    · rw [c]; exact List.Pairwise.nil
    · rw [c]; exact List.pairwise_singleton ..
    · rw [c]; exact List.pairwise_singleton ..
    · rw [c]; unfold tmUp; simp; exact l
  · rw [if_neg a]; exact List.Pairwise.nil
theorem turn_mem {G : Goals} {r : Rw} (h : r ∈ t.turnRows G) : t.act r.h r.n = true ∧ (r.time, r.met) ∈ t.chgs G r.h r.n := by
  unfold Tel.turnRows at h
  obtain ⟨a, _, h⟩ := List.mem_flatMap.mp h
  obtain ⟨b, _, h⟩ := List.mem_flatMap.mp h
  unfold Tel.turnRow Tel.chRow at h
  split at h
  · rename_i c
    obtain ⟨x, hx, rfl⟩ := List.mem_map.mp h
    exact ⟨c, hx⟩
  · cases h
theorem TOk.turn_fm (o : TOk t) {G : Goals} {r : Rw} (h : r ∈ t.turnRows G) : Fm r.time ∧ in01 r.time := by
  obtain ⟨a, m⟩ := turn_mem h
  rcases o.chg_cases (G := G) a with c | ⟨x, c, _, f, i⟩ | ⟨x, c, _, f, i⟩ | ⟨x, y, c, _, f, g, i, j, l⟩
  · rw [c] at m; cases m
  · rw [c] at m; rw [show r.time = x from congrArg Prod.fst (List.mem_singleton.mp m)]; exact ⟨f, i⟩
  · rw [c] at m; rw [show r.time = x from congrArg Prod.fst (List.mem_singleton.mp m)]; exact ⟨f, i⟩
  · rw [c] at m
    simp only [List.mem_cons, List.not_mem_nil, or_false, Prod.mk.injEq] at m
    rcases m with ⟨e, _⟩ | ⟨e, _⟩
    · rw [e]; exact ⟨f, i⟩
    · rw [e]; exact ⟨g, j⟩
theorem TOk.prs_srt (o : TOk t) (G : Goals) (h n : Int) : prs (sortR (t.turnRows G)) h n = if t.act h n = true then t.chgs G h n else [] := by
  rw [prs_sort (o.turn_up G), o.prs_turn]
theorem TOk.plays_srt (o : TOk t) (G : Goals) : Plays t.kn (sortR (t.turnRows G)) (t.turn G).kn := fun h n => by
  have := o.plays_turn G h n
  rw [prs_sort (o.turn_up G)]
  exact this
theorem TOk.srt_up (o : TOk t) (G : Goals) : (sortR (t.turnRows G)).Pairwise kle := sort_up fun x hx => (o.turn_fm hx).1
theorem TOk.srt_fm (o : TOk t) {G : Goals} {r : Rw} (h : r ∈ sortR (t.turnRows G)) : Fm r.time ∧ in01 r.time := o.turn_fm ((sortR_perm _).mem_iff.mp h)
/-- two rows, one behind the other -/
theorem TOk.srt_next (o : TOk t) {G : Goals} {i : Nat} {a b : Rw} (ha : (sortR (t.turnRows G))[i]? = some a) (hb : (sortR (t.turnRows G))[i + 1]? = some b) :
    (a.time ≠ b.time ∧ lsB a.time b.time = true) ∨ (a.time = b.time ∧ ((a.h < b.h ∨ (a.h = b.h ∧ a.n < b.n)) ∨ ((a.h = b.h ∧ a.n = b.n) ∧ a.met = true ∧ b.met = false))) := by
  have fa := (o.srt_fm (List.mem_of_getElem? ha)).1
  have fb := (o.srt_fm (List.mem_of_getElem? hb)).1
  obtain ⟨ia, ea⟩ := List.getElem?_eq_some_iff.mp ha
  obtain ⟨ib, eb⟩ := List.getElem?_eq_some_iff.mp hb
  have k := (List.pairwise_iff_getElem.mp (o.srt_up G)) i (i + 1) ia ib (by omega)
  rw [ea, eb] at k
  by_cases e : a.time = b.time
  · right
    refine ⟨e, ?_⟩
    rcases k.2 e with c | ⟨c1, c2⟩
    · exact .inl (.inl c)
    · by_cases c3 : a.n = b.n
      · right
        refine ⟨⟨c1, c3⟩, ?_⟩
        have sp : sortR (t.turnRows G) = (sortR (t.turnRows G)).take i ++ a :: b :: (sortR (t.turnRows G)).drop (i + 2) := by
          conv => lhs; rw [← List.take_append_drop i (sortR (t.turnRows G))]
          congr 1
          rw [List.drop_eq_getElem_cons ia, List.drop_eq_getElem_cons ib, ea, eb]
        have p := o.prs_srt G a.h a.n
        rw [sp, prs_append, prs_cons, if_pos ⟨rfl, rfl⟩, prs_cons, if_pos ⟨c1.symm, c3.symm⟩] at p
        have act := (turn_mem ((sortR_perm _).mem_iff.mp (List.mem_of_getElem? ha))).1
        rw [if_pos act] at p
        rcases o.chg_cases (G := G) act with c | ⟨x, c, _⟩ | ⟨x, c, _⟩ | ⟨x, y, c, _⟩
        · rw [c] at p; simp at p
        · rw [c] at p
          have := congrArg List.length p
          simp at this; omega
        · rw [c] at p
          have := congrArg List.length p
          simp at this; omega
        · rw [c] at p
          cases q : prs ((sortR (t.turnRows G)).take i) a.h a.n with
          | nil =>
            rw [q] at p
            simp only [List.nil_append, List.cons.injEq, Prod.mk.injEq] at p
            exact ⟨p.1.2, p.2.1.2⟩
          | cons z zs =>
            rw [q] at p
            have := congrArg List.length p
            simp at this; omega
      · exact .inl (.inr ⟨c1, by omega⟩)
  · left
    refine ⟨e, lsB_iff.mpr fun z => e (le_anti fa fb k.1 z)⟩
end
end Ab
set_option Elab.async false
set_option linter.all false
set_option maxRecDepth 100000
set_option maxHeartbeats 4000000
/-! ### (a, b) in d, d.pop((a, b)): the key is a tuple made there -/
namespace DT
open PySem PySem.Spec PyProof.Rows L2
section
variable {prog : Program} {w : World} {K : Type} [DecidableEq K] {knd : HeapKind prog w K}
theorem meetsPop1 {d b : Addr} {k : K} :
    MeetsIn prog w (Builtin.«dict.pop» ⟨[.ref d, .ref b], []⟩) (fun A R s => ∃ xs, knd.room A.in1 ∧ knd.is s.heap k b ∧ s.heap.DictOfH knd d xs ∧ xs.length ≤ sizeLine ∧ atKey xs k ≠ none ∧
      ∀ p, atKey xs k = some p → ∀ h' tk, h'.DictOfH knd d (dropH xs k) → Heap.SameBut d s.heap h' → R (.ok (.ret p.2)) { s with heap := h', toks := tk }) :=
  .of_wp fun A R s ⟨xs, hu, hkey, hm, hsz, hnone, hsome⟩ => by
    obtain ⟨o, es, ep, ho, hc, hdat, he, his, hn⟩ := id hm
    have hes : es.size = xs.length := size_of_entries he
    have hpart : (keyPart (Value.ref b)).isSome = false := rfl
    unfold Builtin.«dict.pop»
    refine wpAny_bind ?_
    unfold Builtin.Dict.keyAndDefault
    refine wpAny_bind (wpAny_notOrdered_dict hm.typeIs ?_)
    show wpAny _ _ (pure (d, Value.ref b, none)) _ _ s
    refine wpAny_pure ?_
    simp only [hpart, Bool.false_eq_true, if_false]
    refine wpAny_bind (wpAny_dictEntries ho hdat (wpAny_bind (wpAny_pure ?_)))
    cases hem : es.isEmpty with
    | true =>
      have h0 : xs = [] := by
        have z : es.size = 0 := by simpa using hem
        exact List.length_eq_zero_iff.mp (by omega)
      exact absurd (by rw [h0]; rfl) hnone
    | false =>
      simp only [Bool.false_eq_true, if_false]
      refine wpAny_bind (takeH hu hkey hm hsz (fun hno => absurd hno hnone) fun p e hp hev h' hm' hs' => ?_)
      simp only [Option.isNone_some, Bool.false_eq_true, if_false]
      exact wpAny_bind (wpAny_letGo (wpAny_pure ⟨e.val, rfl, by rw [hev]; exact hsome p hp h' _ hm' hs'⟩))
end
end DT
namespace Ab
open PySem PySem.Spec PyProof.Rows L2
section
variable {X : Cx}
def rPopT1 : V → List V → Hp → VK → Prop := fun x xs H Q => ∃ (a : Addr) (kvs : List (List L2.Key × V)) (k : List L2.Key) (b : Addr) (v : V), x = .ref a ∧ xs = [.ref b] ∧ H a = some (.dT kvs) ∧ H b = some (.tup (k.map kV)) ∧
  valV kvs k = some v ∧ Q v (upd H a (.dT (dropK kvs k)))
theorem mt_popT1 (hu : X.A.units + 1 < cLine) : MtR X "dict.pop" rPopT1 := by
  intro pins s σ H x xs v us Q I rx rxs h
  obtain ⟨a, kvs, k, b, v1, rfl, rfl, ha, hb, hv, q1⟩ := h
  cases rx
  obtain ⟨u1, rfl, r1⟩ := vals1 rxs
  cases r1
  obtain ⟨z, hd, xs', rel, dd⟩ := dt_of I.hok ha
  have hz : xs'.length ≤ sizeLine := by rw [← Paired.length rel]; exact z
  refine call_meetsIn PySem.F.slot_dict_pop dd.typeIs PySem.F.entry_dict_pop (PySem.F.args_dict_pop_2 _ _) (DT.meetsPop1 (knd := tupleKind (mixKind X.prog X.w)) (k := k))
    ⟨xs', tupleKind_room_in1 hu, key_of I.hok hb, dd, hz, fun hn => ?_, fun p hp h' tk dd' hs => ?_⟩
  · have r := rel.val k
    rw [hn, hv] at r
    exact (show False from r)
  · have r := rel.val k
    rw [hp, hv] at r
    obtain ⟨o, es, ep, hq, h2, h3, h4, _, h5⟩ := dd'
    have I2 : Inv X pins σ (upd H a (.dT (dropK kvs k))) { s with heap := h', toks := tk } :=
      d_write I (by rw [ha]; exact True.intro) hs ⟨o, hq⟩ ⟨Nat.le_trans (dropK_le kvs k) z, hd, _, (L2.DX.KT_drop k rel).keeps (fun c ys ec => (by rw [upd_ne (ne_of ec ha (fun z => nomatch z))]; exact ec)), o, es, ep, hq, h2, h3, h4, h5⟩
    show EP X pins σ Q p.2 _
    exact ⟨v1, _, I2, r, q1⟩
end
def wInT (neg : Bool) (wa : WA) (wb : WE) : WE := fun ρ S Q E => wa ρ S (fun ds S1 => ds.length ≤ sizeLine ∧ wb ρ S1 (fun y S2 => (match y with
  | .ref a => (match S2 a, keysA ds with
    | some (.dT kvs), some ks => Q (.bl (if neg then !(getA kvs ks).isSome else (getA kvs ks).isSome)) S2
    | _, _ => False)
  | _ => False)) E) E
def isTA (S : Sto) (a : Addr) : Prop := ∃ kvs, S a = some (.dT kvs)
def wPop1T (wo : WE) (wa : WA) : WE := fun ρ S Q E => wo ρ S (fun x S1 => (match x with
  | .ref a => isTA S1 a ∧ wa ρ S1 (fun ds S2 => ds.length ≤ sizeLine ∧ (match S2 a, keysA ds with
    | some (.dT kvs), some ks => ∃ d, getA kvs ks = some d ∧ Q d (put S2 a (.dT (delA kvs ks)))
    | _, _ => False)) E
  | _ => False)) E
section
variable {X : Cx} {W : WX} {o b : Expr} {es : List Expr} {wo wb : WE} {wa : WA} {pos p2 apos cpos : Pos} {x1 : Nat}
theorem some_val {κ : Type} [DecidableEq κ] {K : PySem.W.Frag} {H : Hp} {kvs : List (κ × D)} {us : List (κ × V)} (g : RepK K H kvs us) (k : κ) : (valV us k).isSome = (getA kvs k).isSome := by
  cases e : getA kvs k with
  | none => rw [g.val.2 e]; rfl
  | some d =>
    obtain ⟨u, eu, _⟩ := g.val.1 d e
    rw [eu]; rfl
theorem sim_inT {neg : Bool} : ∀ σ H Q, cE X.K W (wInT neg wa wb) σ H Q → tOp (rInD2 neg) (tTup (cA X.K W wa)) (cE X.K W wb) σ H Q := fun σ H Q ⟨ρ, S, QA, EA, rs, rp, h, k, x⟩ => ⟨ρ, S, _, EA, rs, rp, h, fun ds S1 vs H1 h1 l1 r1 p1 => by
  refine ⟨by rw [p1.length]; exact h1.1, fun q hq => ?_⟩
  have L0 : Le H1 (upd H1 q (.tup vs)) := Le.new hq
  refine ⟨ρ, S1, _, EA, (rs.le l1).le L0, r1.new hq, h1.2, fun y S2 vy H2 h2 l2 r2 p2 => ?_, (x.le l1).le L0⟩
  cases y with
  | ref a =>
    unfold RepV at p2
    subst p2
    cases e : S2 a with
    | none => simp [e] at h2
    | some ob =>
      cases ob with
      | dT kvs =>
        cases ek : keysA ds with
        | none => simp [e, ek] at h2
        | some ks =>
          simp only [e, ek] at h2
          have hv := keysA_ok ek p1
          subst hv
          obtain ⟨us, g1, g2⟩ := r2 a _ e
          have hq2 : H2 q = some (.tup (ks.map kV)) := l2.tup upd_same
          exact ⟨a, _, rfl, DGet.t g1 hq2, by rw [some_val g2]; exact k _ _ _ _ h2 ((l1.trans L0).trans l2) r2 (rep_bl _)⟩
      | _ => simp [e] at h2
  | _ => exact (show False from h2).elim, x⟩
theorem re_inT (hu : X.A.units + 100 < cLine) (ha : RA X W es wa) (hb : RE X W b wb) (hm : behindInMarks .In b = false := by rfl) : RE X W (.Compare (.Tuple es x1 p2) [.In] [b] pos) (wInT false wa wb) := pe_imp (pe_cmpR (op_inDict hu) (pe_tup ha) hb hm) sim_inT
theorem re_notinT (hu : X.A.units + 100 < cLine) (ha : RA X W es wa) (hb : RE X W b wb) (hm : behindInMarks .NotIn b = false := by rfl) : RE X W (.Compare (.Tuple es x1 p2) [.NotIn] [b] pos) (wInT true wa wb) := pe_imp (pe_cmpR (op_notInDict hu) (pe_tup ha) hb hm) sim_inT
theorem re_pop1T (hu : X.A.units + 100 < cLine) (ho : RE X W o wo) (ha : RA X W es wa)
    (hbase : attributeBase o "pop" X.env (eval o X.env) = eval o X.env := by rfl)
    (hfew : ((backTo cpos (starEach [(.Tuple es x1 p2 : Expr)] X.env)).all (fun x => !x.1) && (backToKw cpos (keywordEach [] X.env)).all (fun x => x.1.isSome)
      && decide (([(.Tuple es x1 p2 : Expr)]).length + ([] : List Keyword).length + (if ([] : List Keyword).isEmpty then 0 else 1) < 30)) = true := by rfl)
    (hline : (apos.endLine == cpos.line) = true := by rfl) (hs : starEach [(.Tuple es x1 p2 : Expr)] X.env = (false, eval (.Tuple es x1 p2) X.env) :: starEach [] X.env := by rfl) (hplain : (backTo cpos (starEach [] X.env)).any (·.1) = false := by rfl) :
    RE X W (.Call (.Attribute o "pop" apos) [.Tuple es x1 p2] [] cpos) (wPop1T wo wa) :=
  pe_imp (pe_bm PySem.F.plainAttrs_dict PySem.F.slot_dict_pop PySem.F.type_dict_pop (mt_popT1 (by omega)) ho (pa_cons (pe_tup ha) pa_nil hs) hbase hfew hline hs hplain) fun σ H Q ⟨ρ, S, QA, EA, rs, rp, h, k, x⟩ => ⟨ρ, S, _, EA, rs, rp, h, fun d S1 v H1 h1 l1 r1 p1 => by
    cases d with
    | ref a =>
      unfold RepV at p1
      subst p1
      obtain ⟨⟨kv, hkv⟩, h1⟩ := h1
      obtain ⟨us0, g0, _⟩ := r1 a _ hkv
      refine ⟨.inr (.inr (.inl ⟨rfl, .inr ⟨us0, g0⟩⟩)), ρ, S1, _, EA, rs.le l1, r1, h1, fun ds S2 vs H2 h2 l2 r2 p2 => ?_, x.le l1⟩
      refine ⟨by rw [p2.length]; exact h2.1, fun q hq => ?_⟩
      replace h2 := h2.2
      have L0 : Le H2 (upd H2 q (.tup vs)) := Le.new hq
      cases e : S2 a with
      | none => simp [e] at h2
      | some ob =>
        cases ob with
        | dT kvs =>
          cases ek : keysA ds with
          | none => simp [e, ek] at h2
          | some ks =>
            simp only [e, ek] at h2
            obtain ⟨d, gd, h2⟩ := h2
            have hv := keysA_ok ek p2
            subst hv
            have r3 : Rep X.K (upd H2 q (.tup (ks.map kV))) S2 := r2.new hq
            obtain ⟨us, g1, g2⟩ := r3 a _ e
            obtain ⟨u, eu, pu⟩ := g2.val.1 d gd
            have L : Le (upd H2 q (.tup (ks.map kV))) (upd (upd H2 q (.tup (ks.map kV))) a (.dT (dropK us ks))) := r3.le_put e
            have LL := ((l1.trans l2).trans L0).trans L
            exact ⟨a, us, ks, q, u, rfl, rfl, g1, upd_same, eu, k _ _ _ _ h2 LL (r3.put (o := .dT (delA kvs ks)) e ⟨_, upd_same, (g2.le L).del⟩) (pu.le L)⟩
        | _ => simp [e] at h2
    | _ => exact (show False from h1).elim, x⟩
end
end Ab
set_option Elab.async false
set_option linter.all false
set_option maxRecDepth 100000
set_option maxHeartbeats 4000000
/-! ### len(set(ps)), ps a list of pairs, none twice; dict(d) -/
namespace Ab
open PySem PySem.Spec PyProof.Rows L2 RZ
def tLenSetT (K : PySem.W.Frag) (ta : TE) : TE := fun σ H Q => ta σ H fun x H1 => ∃ (l : Addr) (ks : List (Addr × List Int)), x = .ref l ∧ SqL K H1 l (ks.map fun p => V.ref p.1) ∧ (∀ p ∈ ks, SqT K H1 p.1 (p.2.map V.int)) ∧ (ks.map (·.2)).Nodup ∧ ks.length < 64 ∧ Q (.int (ks.length : Nat)) H1
theorem pe_lenSetT {X : Cx} {a : Expr} {ta : TE} {p p2 q pos : Pos} (hg : Gl X "len") (hm : X.mg "len" = none) (hg2 : Gl X "set") (hm2 : X.mg "set" = none) (hu : X.A.units + 100 < cLine) (ha : PE X a ta) (hc : X.calm = true := by rfl)
    (na : starEach [a] X.env = (false, eval a X.env) :: starEach [] X.env := by rfl) : PE X (.Call (.Name "len" p) [.Call (.Name "set" p2) [a] [] q] [] pos) (tLenSetT X.K ta) := by
  refine ⟨fun pins s σ H Q I h => ?_⟩
  refine Call_ (ld_blt I hg hm boot_len ?_)
  refine PyProof.Rows.callWith_builtin1 (PyProof.Rows.args_cons ?_ rfl) rfl rfl
  refine Call_ (ld_blt I hg2 hm2 boot_set ?_)
  refine PyProof.Rows.callWith_type1 (PyProof.Rows.args_cons (thn (ha.run pins s σ H _ I h) fun v s1 ⟨x, H1, I1, r1, q1⟩ => PyProof.Rows.args_nil ?_) na) na rfl
  obtain ⟨l, ks, rfl, hq, hk, hnd, hl, q1⟩ := q1
  cases r1
  obtain ⟨its, r, pl, hz⟩ := I1.list hq
  refine call_set_tups (P := X.prog) (w := X.w) ks (I1.ok.hd hc) pl.isList (by simpa using refs_of_vals r) (fun p hp => I1.isT (hk p hp)) hl (by omega) fun h' tk L es ep t R G k => ?_
  refine PyProof.Rows.args_nil ?_
  obtain ⟨o, ho, hex, hd⟩ := R.ob
  have hn : es.size = ks.length := by
    have h1 : es.size = L.length := by
      have h := congrArg List.length R.rows
      unfold rowsOf at h
      rw [Array.length_toList, List.length_map] at h
      exact h
    have h2 := G.len
    have key : ∀ {l m : List (List Int)}, l.Nodup → (∀ x ∈ l, x ∈ m) → l.length ≤ m.length := by
      intro l
      induction l with
      | nil => intro m _ _; simp
      | cons a l ih =>
        intro m h s
        have hn := List.nodup_cons.mp h
        have ha : a ∈ m := s a (by simp)
        have := ih (m := m.erase a) hn.2 fun x hx => (List.mem_erase_of_ne (fun (e : x = a) => hn.1 (by rw [← e]; exact hx))).mpr (s x (by simp [hx]))
        rw [List.length_erase_of_mem ha] at this
        have : 0 < m.length := List.length_pos_iff.mpr (List.ne_nil_of_mem ha)
        simp only [List.length_cons]
        omega
    have h3 := key hnd (m := L.map (·.2)) fun x hx => by
      obtain ⟨p, hp, rfl⟩ := List.mem_map.mp hx
      exact G.all p (by rw [List.take_length]; exact hp)
    rw [List.length_map, List.length_map] at h3
    omega
  have I2 : Inv X pins σ H1 { s1 with heap := h', toks := tk } := I1.kept fun b o e => k b o e
  have R2 : SetTR X.prog X.w ({ s1 with heap := h', toks := tk } : Shared).heap s1.heap.objs.size L es ep t := R
  exact call_len_set (s := { s1 with heap := h', toks := tk }) ho hex hd R2.fits (by rw [hn]; omega) ⟨.int ks.length, H1, I2.tok _, ⟨_, by rw [hn]⟩, q1⟩
def wLenSet (we : WE) : WE := fun ρ S Q E => we ρ S (fun d S1 => (match d with
  | .ref a => (match S1 a with
    | some (.lst xs) => ∃ ps : List (Int × Int), xs = ps.map plD ∧ ps.length < 64 ∧ ps.Nodup ∧ Q (.int (ps.length : Nat)) S1
    | _ => False)
  | _ => False)) E
section
variable {X : Cx} {W : WX} {e : Expr} {we : WE} {p p2 q pos : Pos}
theorem re_lenSet (hg : Gl X "len") (hm : X.mg "len" = none) (hg2 : Gl X "set") (hm2 : X.mg "set" = none) (hu : X.A.units + 100 < cLine) (he : RE X W e we) (hc : X.calm = true := by rfl)
    (na : starEach [e] X.env = (false, eval e X.env) :: starEach [] X.env := by rfl) : RE X W (.Call (.Name "len" p) [.Call (.Name "set" p2) [e] [] q] [] pos) (wLenSet we) :=
  pe_imp (pe_lenSetT hg hm hg2 hm2 hu he hc na) fun σ H Q ⟨ρ, S, QA, EA, rs, rp, h, k, x⟩ => ⟨ρ, S, _, EA, rs, rp, h, fun d S1 v H1 h1 l1 r1 p1 => by
    cases d with
    | ref a =>
      unfold RepV at p1
      subst p1
      cases ea : S1 a with
      | none => simp [ea] at h1
      | some o =>
        cases o with
        | lst xs =>
          simp only [ea] at h1
          obtain ⟨ps, rfl, h2, h3, h4⟩ := h1
          obtain ⟨vs, g1, g2⟩ := r1 a _ ea
          obtain ⟨ks, e1, e2, e3⟩ := tup_refs g2
          subst e1
          have lk : ks.length = ps.length := by have := congrArg List.length e2; simpa using this
          refine ⟨a, ks, rfl, .inl (.inl g1), fun z hz => (e3 z hz).sq, ?_, by omega, ?_⟩
          · rw [e2]
            unfold List.Nodup
            rw [List.pairwise_map]
            exact h3.imp fun {x y} z w => z (by simp only [List.cons.injEq, and_true] at w; exact Prod.ext w.1 w.2)
          · rw [lk]
            exact k _ S1 _ H1 h4 l1 r1 (rep_int _)
        | _ => simp [ea] at h1
    | _ => exact (show False from h1).elim, x⟩
end
/-! dict(x): pairs of a list, or a copy of a dict -/
def aDictC : WRL := fun ds S Q => (match ds with
  | [.ref a] => (match S a with
    | some (.dK kvs) => ∀ p, S p = none → Q (.ref p) (put S p (.dK kvs))
    | some (.lok _ _ kvs) => ∀ p, S p = none → Q (.ref p) (put S p (.dK kvs))
    | _ => False)
  | _ => False)
theorem sim_dictC {K : PySem.W.Frag} : SimL K (fun xs H Q => ∃ (a : Addr) (kvs : List (L2.Key × V)), xs = [.ref a] ∧ Rd H a (.dK kvs) ∧ ∀ p, H p = none → Q (.ref p) (upd H p (.dK kvs))) aDictC := fun xs ds H S QA Q p r a k => by
  match ds, a, p with
  | [.ref l], a, p =>
    obtain ⟨v, rfl, pv⟩ := repL1 p
    unfold RepV at pv
    subst pv
    unfold aDictC at a
    cases e : S l with
    | none => simp [e] at a
    | some o =>
      cases o with
      | dK kvs =>
        simp only [e] at a
        obtain ⟨us, g1, g2⟩ := r l _ e
        refine ⟨l, us, rfl, .inl g1, fun q hq => ?_⟩
        have L : Le H (upd H q (.dK us)) := Le.new hq
        exact k _ _ _ _ (a q (r.free hq)) L (r.newP (o := .dK kvs) hq ⟨_, upd_same, g2.le L⟩) (rep_ref _)
      | lok od us kvs =>
        simp only [e] at a
        obtain ⟨g1, g2⟩ := r l _ e
        refine ⟨l, us, rfl, .inr ⟨od, g1⟩, fun q hq => ?_⟩
        have L : Le H (upd H q (.dK us)) := Le.new hq
        exact k _ _ _ _ (a q (r.free hq)) L (r.newP (o := .dK kvs) hq ⟨_, upd_same, g2.le L⟩) (rep_ref _)
      | _ => simp [e] at a
end Ab
set_option Elab.async false
set_option linter.all false
set_option maxRecDepth 100000
set_option maxHeartbeats 4000000
/-! ### defs as values: a def's name; a call of a local name that holds one of several defs -/
namespace Ab
open PySem PySem.Spec PyProof.Rows L2
def tCallLS (i : Nat) (f : Addr) (sp : Sp) (E : L2.St → XK) (t : TA) : TE := fun σ H Q => σ[i]? = some (some (.ref f)) ∧ t σ H fun vs H1 => sp vs H1 Q (E σ)
def wCallL (i : Nat) (f : Addr) (n : Nat) (w : WF) (wa : WA) : WE := fun ρ S Q E => ρ[i]? = some (some (.ref f)) ∧ wa ρ S (fun ds S1 => ds.length = n ∧ w ds S1 Q E) E
def wOrE (w u : WE) : WE := fun ρ S Q E => w ρ S Q E ∨ u ρ S Q E
section
variable {X : Cx} {W : WX} {k n i : Nat} {f : Addr} {fd : FuncData} {ps : List Str} {w : WF} {x : Str} {p pos : Pos} {e : Expr} {es : List Expr} {wa : WA}
theorem pe_callLS {CX : CXT} {sp : Sp} {E : L2.St → XK} {t : TA} (F : FnOk X.prog X.w X.K X.mg X.base CX k f fd ps sp) (hr : Room k X.A) (hN : X.N[i]? = some x) (hv : Vis X.env.scope x) (hk : PySem.W.keepIn X.K (.ref f) = true) (hb : Binds X.K fd ps []) (hx : ∀ σ, PassesAt CX X σ (E σ)) (ha : PA X (e :: es) t)
    (hdb : (x == ("__debug__" : Str)) = false := by decide) (hcd : (x == ("__classdict__" : Str)) = false := by decide)
    (he : starEach (e :: es) X.env = (false, eval e X.env) :: starEach es X.env := by rfl) (hpl : (backTo pos (starEach es X.env)).any (·.1) = false := by rfl) : PE X (.Call (.Name x p) (e :: es) [] pos) (tCallLS i f sp E t) := by
  refine ⟨fun pins s σ H Q I h => ?_⟩
  obtain ⟨hs, ht⟩ := h
  refine wpAny_Call_Name_kw (thn ((pe_var (pos := p) hN hv hdb hcd).run pins s σ H (fun v H1 => v = .ref f ∧ H1 = H) I ⟨.ref f, hs, rfl, rfl⟩) fun u s1 ⟨v, H1, I1, r1, q1⟩ => ?_)
  obtain ⟨rfl, rfl⟩ := q1
  cases r1
  refine PySem.W.callWith_K (h₀ := X.base) I.ok.mod.kin hk (thn (ha.run pos pins s1 σ _ _ I1 ht) fun us s2 ⟨vs, H2, I2, r, q⟩ => ⟨I2.kIn, ?_⟩) he hpl
  exact run_fnS F hr hb (hx σ) I2 r q
theorem re_callL (F : FnOk X.prog X.w X.K X.mg X.base (L2.CX X.prog X.w) k f fd ps (spA X.K n w)) (hr : Room k X.A) (hN : X.N[i]? = some x) (hk : PySem.W.keepIn X.K (.ref f) = true) (hb : Binds X.K fd ps []) (tk : Takes X W)
    (ha : RA X W (e :: es) wa) (hv : Vis X.env.scope x := by first | exact Or.inl rfl | exact Or.inr (Or.inl rfl) | exact Or.inr (Or.inr rfl)) (hdb : (x == ("__debug__" : Str)) = false := by decide) (hcd : (x == ("__classdict__" : Str)) = false := by decide) (he : starEach (e :: es) X.env = (false, eval e X.env) :: starEach es X.env := by rfl) (hpl : (backTo pos (starEach es X.env)).any (·.1) = false := by rfl) :
    RE X W (.Call (.Name x p) (e :: es) [] pos) (wCallL i f n w wa) :=
  pe_imp (pe_callLS (E := L2.WE W) F hr hN hv hk hb (passAt tk) ha hdb hcd he hpl) fun σ H Q ⟨ρ, S, QA, EA, rs, rp, ⟨h0, h⟩, k, x⟩ => by
    obtain ⟨v, ev, pv⟩ := rs.2 i _ h0
    unfold RepV at pv
    subst pv
    exact ⟨ev, ρ, S, _, EA, rs, rp, h, fun ds S1 vs H1 h1 l1 r1 p1 => ⟨by rw [p1.length]; exact h1.1, ds, S1, QA, EA, p1, r1, h1.2, k.le l1, x.le l1⟩, x⟩
theorem re_orE {w1 w2 : WE} (h1 : RE X W e w1) (h2 : RE X W e w2) : RE X W e (wOrE w1 w2) := ⟨fun pins s σ H Q I ⟨ρ, S, QA, EA, rs, rp, h, k, x⟩ => by
  rcases h with h | h
  · exact h1.run pins s σ H Q I ⟨ρ, S, QA, EA, rs, rp, h, k, x⟩
  · exact h2.run pins s σ H Q I ⟨ρ, S, QA, EA, rs, rp, h, k, x⟩⟩
theorem re_gref {a : Addr} (hg : Gl X x) (hm : X.mg x = some (.ref a)) (hd : (x == ("__debug__" : Str)) = false := by decide) : RE X W (.Name x pos) (wC (.ref a)) :=
  re_c (v := .ref a) (pe_glob hg hm rfl hd) fun H => by unfold RepV; rfl
end
end Ab
set_option Elab.async false
set_option linter.all false
set_option maxRecDepth 100000
set_option maxHeartbeats 4000000
/-! ### d.setdefault(t, x), t a tuple (programs without START) -/
namespace Ab
open PySem PySem.Spec PyProof.Rows L2
section
variable {X : Cx}
def rSetT : V → List V → Hp → VK → Prop := fun x xs H Q => ∃ (a : Addr) (kvs : List (List L2.Key × V)) (k : List L2.Key) (b : Addr) (d : V), x = .ref a ∧ xs = [.ref b, d] ∧ H a = some (.dT kvs) ∧ H b = some (.tup (k.map kV)) ∧ kvs.length < sizeLine ∧
  (∀ v, valV kvs k = some v → Q v H) ∧ (valV kvs k = none → Q d (upd H a (.dT (putK kvs k d))))
theorem mt_setT (hu : X.A.units + 1 < cLine) : MtR X "dict.setdefault" rSetT := by
  intro pins s σ H x xs v us Q I rx rxs h
  obtain ⟨a, kvs, k, b, d, rfl, rfl, ha, hb, hlt, q1, q2⟩ := h
  cases rx
  obtain ⟨u1, u2, rfl, r1, r2⟩ := vals2 rxs
  cases r1
  obtain ⟨z, hd, xs', rel, dd⟩ := dt_of I.hok ha
  have hz : xs'.length ≤ sizeLine := by rw [← Paired.length rel]; exact z
  refine call_setdefault_heap (knd := tupleKind (mixKind X.prog X.w)) (k := k) (tupleKind_room_in1 hu) (key_of I.hok hb) hd dd (fun p hp => ?_) (fun hn h' dd' hs => ?_) hz
  · have r := rel.val k
    rw [hp] at r
    obtain ⟨v0, ev, rv⟩ : ∃ v0, valV kvs k = some v0 ∧ RelV v0 p.2 := by
      cases ev : valV kvs k with
      | none =>
        rw [ev] at r
        exact (show False from r).elim
      | some v0 =>
        rw [ev] at r
        exact ⟨v0, rfl, r⟩
    exact ⟨v0, H, I.tok _, rv, q1 v0 ev⟩
  · have r := rel.val k
    rw [hn] at r
    have e : valV kvs k = none := by
      cases ev : valV kvs k with
      | none => rfl
      | some v0 =>
        rw [ev] at r
        exact (show False from r).elim
    obtain ⟨o, es, ep, hq, h2, h3, h4, _, h5⟩ := dd'
    have hl : (putK kvs k d).length ≤ sizeLine := by
      have : (putK kvs k d).length ≤ kvs.length + 1 := by
        unfold putK
        split
        · rw [List.length_map]; omega
        · rw [List.length_append]; simp
      omega
    have I2 : Inv X pins σ (upd H a (.dT (putK kvs k d))) { s with heap := h', toks := s.toks + (tupleKind (mixKind X.prog X.w)).draws k } :=
      d_write I (by rw [ha]; exact True.intro) hs ⟨o, hq⟩ ⟨hl, hd, _, (rel.put k hb r2).keeps (fun c ys ec => (by rw [upd_ne (ne_of ec ha (fun z => nomatch z))]; exact ec)), o, es, ep, hq, h2, h3, h4, h5⟩
    exact ⟨d, _, I2, r2, q2 e⟩
end
def wSetdT (wo : WE) (wa : WA) : WE := fun ρ S Q E => wo ρ S (fun x S1 => (match x with
  | .ref a => isTA S1 a ∧ wa ρ S1 (fun ds S2 => (match ds, S2 a with
    | [.tup ts, z], some (.dT kvs) => (match keysA ts with
      | some ks => kvs.length < sizeLine ∧ (∀ d, getA kvs ks = some d → Q d S2) ∧ (getA kvs ks = none → Q z (put S2 a (.dT (putA kvs ks z))))
      | none => False)
    | _, _ => False)) E
  | _ => False)) E
section
variable {X : Cx} {W : WX} {o e f : Expr} {wo : WE} {wa : WA} {apos cpos : Pos}
theorem re_setdT (hu : X.A.units + 100 < cLine) (hn : NoSt X.K) (ho : RE X W o wo) (ha : RA X W [e, f] wa)
    (hbase : attributeBase o "setdefault" X.env (eval o X.env) = eval o X.env := by rfl)
    (hfew : ((backTo cpos (starEach [e, f] X.env)).all (fun x => !x.1) && (backToKw cpos (keywordEach [] X.env)).all (fun x => x.1.isSome)
      && decide (([e, f] : List Expr).length + ([] : List Keyword).length + (if ([] : List Keyword).isEmpty then 0 else 1) < 30)) = true := by rfl)
    (hline : (apos.endLine == cpos.line) = true := by rfl) (hs : starEach [e, f] X.env = (false, eval e X.env) :: starEach [f] X.env := by rfl) (hplain : (backTo cpos (starEach [f] X.env)).any (·.1) = false := by rfl) :
    RE X W (.Call (.Attribute o "setdefault" apos) [e, f] [] cpos) (wSetdT wo wa) :=
  pe_imp (pe_bm PySem.F.plainAttrs_dict PySem.F.slot_dict_setdefault PySem.F.type_dict_setdefault (mt_setT (by omega)) ho ha hbase hfew hline hs hplain) fun σ H Q ⟨ρ, S, QA, EA, rs, rp, h, k, x⟩ => ⟨ρ, S, _, EA, rs, rp, h, fun d S1 v H1 h1 l1 r1 p1 => by
    cases d with
    | ref a =>
      unfold RepV at p1
      subst p1
      obtain ⟨⟨kv, hkv⟩, h1⟩ := h1
      obtain ⟨us0, g0, _⟩ := r1 a _ hkv
      refine ⟨.inr (.inr (.inl ⟨rfl, .inr ⟨us0, g0⟩⟩)), ρ, S1, _, EA, rs.le l1, r1, h1, fun ds S2 vs H2 h2 l2 r2 p2 => ?_, x.le l1⟩
      match ds, h2, p2 with
      | [.tup ts, z], h2, p2 =>
        obtain ⟨vt, vz, rfl, pt, pz⟩ := repL2 p2
        cases e1 : S2 a with
        | none => simp [e1] at h2
        | some ob =>
          cases ob with
          | dT kvs =>
            cases ek : keysA ts with
            | none => simp [e1, ek] at h2
            | some ks =>
              simp only [e1, ek] at h2
              unfold RepV at pt
              obtain ⟨tb, ws, rfl, tp, rl⟩ := pt
              have hv := keysA_ok ek rl
              subst hv
              obtain ⟨us, g1, g2⟩ := r2 a _ e1
              have L : Le H2 (upd H2 a (.dT (putK us ks vz))) := r2.le_put e1
              refine ⟨a, us, ks, tb, vz, rfl, rfl, g1, tp.own hn, by rw [g2.length]; exact h2.1, fun u eu => ?_, fun en => ?_⟩
              · cases eg : getA kvs ks with
                | none => rw [g2.val.2 eg] at eu; cases eu
                | some d =>
                  obtain ⟨u', eu', pu⟩ := g2.val.1 d eg
                  rw [eu'] at eu
                  cases eu
                  exact k _ S2 _ H2 (h2.2.1 d eg) (l1.trans l2) r2 pu
              · cases eg : getA kvs ks with
                | none => exact k _ _ _ _ (h2.2.2 eg) ((l1.trans l2).trans L) (r2.put (o := .dT (putA kvs ks z)) e1 ⟨_, upd_same, (g2.le L).put (pz.le L)⟩) (pz.le L)
                | some d =>
                  obtain ⟨u', eu', pu⟩ := g2.val.1 d eg
                  rw [eu'] at en
                  cases en
          | _ => simp [e1] at h2
    | _ => exact (show False from h1).elim, x⟩
end
end Ab
set_option Elab.async false
set_option linter.all false
set_option maxRecDepth 100000
set_option maxHeartbeats 4000000
/-! ### list(d.values()) -/
namespace Ab
open PySem PySem.Spec PyProof.Rows L2
def rValsL : V → Hp → VK → Prop := fun x H Q => ∃ (d : Addr) (kvs : List (L2.Key × V)), x = .ref d ∧ H d = some (.dK kvs) ∧ ∀ p, H p = none → Q (.ref p) (upd H p (.lst (kvs.map (·.2))))
theorem kv_vals {kvs : List (L2.Key × V)} {vs : List (L2.Key × Value)} (h : KV kvs vs) : Vals (kvs.map (·.2)) (vs.map (·.2)) := by
  unfold KV at h
  induction h with
  | nil => exact .nil
  | cons a t ih => exact .cons a.2 ih
section
variable {X : Cx} {e : Expr} {te : TE} {p apos cpos pos : Pos}
theorem pe_listVals (hc : X.calm = true) (he : PE X e te) (hg : Gl X "list") (hm : X.mg "list" = none) (hv : bootBuiltins "list" = some (.type "list")) (hbase : attributeBase e "values" X.env (eval e X.env) = eval e X.env := by rfl) (hline : (apos.endLine == cpos.line) = true := by rfl)
    (hs : starEach [.Call (.Attribute e "values" apos) [] [] cpos] X.env = (false, eval (.Call (.Attribute e "values" apos) [] [] cpos) X.env) :: starEach [] X.env := by rfl) :
    PE X (.Call (.Name "list" p) [.Call (.Attribute e "values" apos) [] [] cpos] [] pos) (fun σ H Q => te σ H fun x H1 => rValsL x H1 Q) := by
  refine ⟨fun pins s σ H Q I hq => ?_⟩
  refine wpAny_Call_Name_kw (ld_blt I hg hm hv ?_)
  refine PyProof.Rows.callWith_type1 ?_ hs rfl
  rw [hs]
  show wpAny _ _ (spliced ((false, eval (.Call (.Attribute e "values" apos) [] [] cpos) X.env) :: backTo pos (starEach [] X.env))) _ _ s
  refine Calls.spliced_cons ?_
  refine wpAny_Call_method (T := "dict") (id := "dict.values") hbase rfl hline F.plainAttrs_dict F.slot_dict_values F.type_dict_values (thn (he.run pins s σ H _ I hq) fun u s1 ⟨x, H1, I1, rx, d, kvs, ex, hd, q⟩ => ?_)
  subst ex
  obtain rfl : u = Value.ref d := rx
  obtain ⟨hz, hs0, vs, kv, hdo⟩ := I1.hok d _ hd
  obtain ⟨ep, hat⟩ := hdo.dictAt
  have lk : kvs.length = vs.length := Paired.length kv
  have I2 : Inv X pins σ H1 { s1 with heap := s1.heap.push { cls := .type "dict_values", data := .fields #[.ref d] } } := I1.kept (t' := s1.toks) fun b ob q => Heap.get?_push_of_some _ q
  refine ⟨hdo.typeIs, hdo.mapOf.noDict, ?_⟩
  show wpAny _ _ (callWith cpos (.builtin "dict.values") [.ref d] [] []) _ X.xe s1
  refine method_meetsIn F.slot_dict_values F.entry_dict_values rfl (PySem.evalArgs_none ⟨rfl, hdo.typeIs, F.args_dict_values_1 _, _, meets_dict_values (mixKind X.prog X.w) d hs0, ⟨vs, hdo⟩, ?_⟩)
  refine Calls.spliced_nil ?_
  refine PySem.W.kdl_call (PySem.W.kdl_values (knd := mixKind X.prog X.w) (kvs := vs) (ep := ep) (d := d)) (I1.ok.hd hc) ⟨⟨_, Heap.get?_push_size _ rfl, rfl, rfl⟩, hat.push _⟩ (by omega) fun h' tk acc' c' kp e it => ?_
  have ea : acc'.toList = vs.map (·.2) := by
    have hl : acc'.toList.length = vs.length := by rw [Array.length_toList, it.1]
    apply List.ext_getElem?
    intro j
    rw [List.getElem?_map]
    cases hj : acc'.toList[j]? with
    | none =>
      have h1 := List.getElem?_eq_none_iff.mp hj
      rw [List.getElem?_eq_none (by omega)]
      all_goals rfl
    | some v =>
      obtain ⟨k, hk⟩ := it.2 j v (by rw [← Array.getElem?_toList]; exact hj)
      rw [hk]
      all_goals rfl
  have rv : Vals (kvs.map (·.2)) acc'.toList := by rw [ea]; exact kv_vals kv
  have hz' : (kvs.map (·.2)).length ≤ sizeLine := by rw [List.length_map]; omega
  refine ⟨.ref _, _, I2.laid (t' := tk) (o := .lst (kvs.map (·.2))) kp (Nat.le_refl _) ?_, rfl, q _ (I2.hok.fresh (Nat.le_refl _))⟩
  exact ⟨hz', acc'.toList, c', rv, by rw [Array.toArray_toList]; exact e⟩
end
def wListVals (w : WE) : WE := fun ρ S Q E => w ρ S (fun d S1 => (match d with
  | .ref a => (match S1 a with
    | some (.dK kvs) => ∀ p, S1 p = none → Q (.ref p) (put S1 p (.lst (kvs.map (·.2))))
    | _ => False)
  | _ => False)) E
theorem RepK.vals {κ : Type} {K : PySem.W.Frag} {H : Hp} : ∀ {kvs : List (κ × D)} {us : List (κ × V)}, RepK K H kvs us → RepL K H (kvs.map (·.2)) (us.map (·.2))
  | [], us, h => by
    cases (show us = [] from h)
    unfold RepL
    rfl
  | (k, d) :: kvs, us, h => by
    obtain ⟨v, q, rfl, p, t⟩ := h
    rw [List.map_cons, List.map_cons]
    unfold RepL
    exact ⟨v, q.map (·.2), rfl, p, RepK.vals t⟩
section
variable {X : Cx} {W : WX} {e : Expr} {we : WE} {p apos cpos pos : Pos}
theorem re_listVals (hc : X.calm = true) (hg : Gl X "list") (hm : X.mg "list" = none) (he : RE X W e we) (hbase : attributeBase e "values" X.env (eval e X.env) = eval e X.env := by rfl) (hline : (apos.endLine == cpos.line) = true := by rfl)
    (hs : starEach [.Call (.Attribute e "values" apos) [] [] cpos] X.env = (false, eval (.Call (.Attribute e "values" apos) [] [] cpos) X.env) :: starEach [] X.env := by rfl) :
    RE X W (.Call (.Name "list" p) [.Call (.Attribute e "values" apos) [] [] cpos] [] pos) (wListVals we) :=
  pe_imp (pe_listVals hc he hg hm (by decide +kernel) hbase hline hs) fun σ H Q ⟨ρ, S, QA, EA, rs, rp, h, k, x⟩ => ⟨ρ, S, _, EA, rs, rp, h, fun d S1 v H1 h1 l1 r1 p1 => by
    cases d with
    | ref a =>
      unfold RepV at p1
      subst p1
      cases ea : S1 a with
      | none => simp [ea] at h1
      | some ob =>
        cases ob with
        | dK kvs =>
          simp only [ea] at h1
          obtain ⟨us, g1, g2⟩ := r1 a _ ea
          refine ⟨a, us, rfl, g1, fun q nq => ?_⟩
          exact k _ _ _ _ (h1 q (r1.free nq)) (l1.trans (Le.new nq)) (r1.newP (o := .lst (kvs.map (·.2))) nq ⟨_, upd_same, (RepK.vals g2).le (Le.new nq)⟩) (rep_ref _)
        | _ => simp [ea] at h1
    | _ => exact (show False from h1).elim, x⟩
end
end Ab
set_option Elab.async false
set_option linter.all false
set_option maxRecDepth 100000
set_option maxHeartbeats 4000000
/-! ### list(a dict); d[k], d.get((a, b), z) with tuples as keys; for k in d, for v in d.values(), any(d.values()) of such a dict -/
namespace Ab
open PySem PySem.Spec PyProof.Rows L2
section
variable {X : Cx} {pins : List (Addr × Obj)} {σ : L2.St} {H : Hp} {s : Shared}
theorem keyT_is {b : Addr} {ks : List L2.Key} (I : Inv X pins σ H s) (h : SqT X.K H b (ks.map kV)) : (tupleKind (mixKind X.prog X.w)).is s.heap ks b := by
  obtain ⟨its, r, ⟨o, h1, h2, n, h3⟩, _⟩ := I.tuple h
  exact ⟨o, its.toArray, n, h1, h2, h3, by simpa using items_are r⟩
end
section
variable {X : Cx}
def rIxT (K : PySem.W.Frag) : R2 := fun x y H Q => ∃ (a b : Addr) (kvs : List (List L2.Key × V)) (ks : List L2.Key) (v : V), x = .ref a ∧ y = .ref b ∧ Rd H a (.dT kvs) ∧ SqT K H b (ks.map kV) ∧ valV kvs ks = some v ∧ Q v H
theorem ix_dT (hu : X.A.units + 100 < cLine) : IxR X (rIxT X.K) := by
  intro value slice pins s σ H x y v u Q I rx ry h hs
  obtain ⟨a, b, kvs, ks, w, rfl, rfl, e, hb, l, q⟩ := h
  obtain rfl : v = Value.ref a := rx
  obtain rfl : u = Value.ref b := ry
  obtain ⟨z, hd, xs, rel, dd⟩ := dt_rd I.hok e
  have hT := dd.typeIs
  unfold subscriptTail
  refine wpAny_bind ?_
  rw [getitemInPython_of_ne hT.not_modules]
  refine wpAny_bind (wpAny_specialOf hT PySem.F.slot_dict_getitem.lookup ?_)
  have get : wpAny (model X.prog X.w) X.A (getItem (.ref a) (.ref b)) (EP X pins σ Q) X.xe s := by
    obtain ⟨w', hw, rw'⟩ := RelO.some_of (v := w) (o := (atKey xs ks).map (·.2)) (by rw [← l]; exact rel.val ks)
    obtain ⟨p, hp, hp2⟩ := Option.map_eq_some_iff.mp hw
    refine wpAny_getItem_heap (tupleKind_room_in1 (by omega)) (keyT_is I hb) dd hp ?_
    rw [hp2]
    exact ⟨w, H, I.tok _, rw', q⟩
  have fin : wpAny (model X.prog X.w) X.A (subscripted slice false (.ref a) (.ref b)) (fun r s₃ => wpAny (model X.prog X.w) X.A (letTemporaryGo value (.ref a) r >>= fun _ => pure r) (EP X pins σ Q) X.xe s₃) X.xe s := by
    rw [hs]
    exact wpAny_operating (wpAny_mono get (fun r s₃ h₃ => wpAny_bind (wpAny_letTemporaryGo (wpAny_pure h₃))) fun _ _ x => x)
  first
    | exact wpAny_pure (wpAny_bind fin)
    | exact wpAny_bind (wpAny_pure (wpAny_bind fin))
    | exact wpAny_bind fin
end
def dTof (S : Sto) (a : Addr) : Option (List (List L2.Key × D)) := match S a with
  | some (.dT kvs) => some kvs
  | some (.lokT _ _ kvs) => some kvs
  | _ => none
theorem dTof_ok {K : PySem.W.Frag} {H : Hp} {S : Sto} {a : Addr} {kvs : List (List L2.Key × D)} (r : Rep K H S) (h : dTof S a = some kvs) : ∃ us, Rd H a (.dT us) ∧ RepK K H kvs us := by
  unfold dTof at h
  cases e : S a with
  | none => simp [e] at h
  | some o =>
    cases o with
    | dT k =>
      simp [e] at h
      subst h
      obtain ⟨us, g1, g2⟩ := r a _ e
      exact ⟨us, .inl g1, g2⟩
    | lokT ob us k =>
      simp [e] at h
      subst h
      obtain ⟨g1, g2⟩ := r a _ e
      exact ⟨us, .inr ⟨ob, g1⟩, g2⟩
    | _ => simp [e] at h
theorem dTof_dT {S : Sto} {a : Addr} {kvs : List (List L2.Key × D)} (h : S a = some (.dT kvs)) : dTof S a = some kvs := by unfold dTof; rw [h]
theorem dTof_lok {S : Sto} {a : Addr} {o : Obj} {us : List (List L2.Key × V)} {kvs : List (List L2.Key × D)} (h : S a = some (.lokT o us kvs)) : dTof S a = some kvs := by unfold dTof; rw [h]
def aIxT : WR2 := fun x y S Q => (match x, y with
  | .ref a, .tup ds => ∃ kvs ks d, dTof S a = some kvs ∧ keysA ds = some ks ∧ getA kvs ks = some d ∧ Q d S
  | _, _ => False)
theorem sim_ixT {K : PySem.W.Frag} : Sim2 K (rIxT K) aIxT := fun x y dx dy H S QA Q p q r a k => by
  match dx, dy, a, p, q with
  | .ref t, .tup ds, a, p, q =>
    unfold RepV at p q
    subst p
    obtain ⟨b, vs, rfl, tp, rl⟩ := q
    obtain ⟨kvs, ks, d, h1, h2, h3, h4⟩ := a
    obtain ⟨us, g1, g2⟩ := dTof_ok r h1
    obtain ⟨v, ev, pv⟩ := g2.val.1 d h3
    have hv := keysA_ok h2 rl
    subst hv
    exact ⟨t, b, us, ks, v, rfl, rfl, g1, tp.sq, ev, k d S v H h4 (Le.refl H) r pv⟩
section
variable {X : Cx} {W : WX} {a b o f : Expr} {es : List Expr} {wa wb wo wf : WE} {we : WA} {pos p2 apos cpos : Pos} {x1 : Nat}
theorem re_subT (hu : X.A.units + 100 < cLine) (ha : RE X W a wa) (hb : RE X W b wb) (hs : PlainIx b := by exact fun _ _ => rfl) : RE X W (.Subscript a b pos) (wOp aIxT wa wb) := re_ix (ix_dT hu) sim_ixT ha hb hs
theorem re_get2T (hu : X.A.units + 100 < cLine) (ho : RE X W o wo) (he : RA X W es we) (hf : RE X W f wf) (m : M2 X o "get" apos (.Tuple es x1 p2) f cpos := by exact ⟨rfl, rfl, rfl, rfl⟩) : RE X W (.Call (.Attribute o "get" apos) [.Tuple es x1 p2, f] [] cpos) (wGet2T wo we wf) :=
  pe_imp (pe_dget2 (by omega) ho (pe_tup he) hf m) fun σ H Q ⟨ρ, S, QA, EA, rs, rp, h, k, x⟩ => ⟨ρ, S, _, EA, rs, rp, h, fun d S1 v H1 h1 l1 r1 p1 => by
    cases d with
    | ref a =>
      unfold RepV at p1
      subst p1
      refine ⟨a, rfl, isDA_ok r1 h1.1, ρ, S1, _, EA, rs.le l1, r1, h1.2, fun ds S2 vs H2 h2 l2 r2 p2 => ?_, x.le l1⟩
      refine ⟨by rw [p2.length]; exact h2.1, fun q hq => ?_⟩
      have L0 : Le H2 (upd H2 q (.tup vs)) := Le.new hq
      refine ⟨ρ, S2, _, EA, (rs.le (l1.trans l2)).le L0, r2.new hq, h2.2, fun z S3 vz H3 h3 l3 r3 p3 => ?_, (x.le (l1.trans l2)).le L0⟩
      cases e : S3 a with
      | none => simp [e] at h3
      | some ob =>
        cases ob with
        | dT kvs =>
          cases ek : keysA ds with
          | none => simp [e, ek] at h3
          | some ks =>
            simp only [e, ek] at h3
            have hv := keysA_ok ek p2
            subst hv
            obtain ⟨us, g1, g2⟩ := r3 a _ e
            have hq2 : H3 q = some (.tup (ks.map kV)) := l3.tup upd_same
            exact ⟨_, DGet.t g1 hq2, k _ S3 _ H3 h3 (((l1.trans l2).trans L0).trans l3) r3 (getD_ok g2.val.1 g2.val.2 p3)⟩
        | _ => simp [e] at h3
    | _ => exact (show False from h1).elim, x⟩
end

/-! list(x): a tuple, a list, a dict -/
def rListK (K : PySem.W.Frag) : List V → Hp → VK → Prop := fun xs H Q => (∃ p ys, xs = [.ref p] ∧ (SqL K H p ys ∨ SqT K H p ys) ∧ ∀ l, H l = none → Q (.ref l) (upd H l (.lst ys))) ∨ rListD xs H Q
theorem call_list_K {X : Cx} (hc : X.calm = true) : CallR X (.type "list") (rListK X.K) := call_list_of.or (call_list_dK hc)
def aListK : WRL := fun ds S Q => (match ds with
  | [.tup xs] => ∀ p, S p = none → Q (.ref p) (put S p (.lst xs))
  | [.ref a] => (match S a with
    | some (.lst xs) => ∀ p, S p = none → Q (.ref p) (put S p (.lst xs))
    | some (.dK kvs) => ∀ p, S p = none → Q (.ref p) (put S p (.lst (kvs.map fun kv => keyD kv.1)))
    | _ => False)
  | _ => False)
theorem repL_keys {K : PySem.W.Frag} {H : Hp} : ∀ (ks : List L2.Key), RepL K H (ks.map keyD) (ks.map kV)
  | [] => repL_nil
  | k :: ks => repL_cons (keyD_rep k) (repL_keys ks)
theorem sim_listK {K : PySem.W.Frag} : SimL K (rListK K) aListK := fun xs ds H S QA Q p r a k => by
  match ds, a, p with
  | [.tup xs], a, p => exact .inl (sim_list _ [.tup xs] H S QA Q p r a k)
  | [.ref t], a, p =>
    have p0 := p
    obtain ⟨v, rfl, pv⟩ := repL1 p
    unfold RepV at pv
    subst pv
    unfold aListK at a
    cases e : S t with
    | none => simp [e] at a
    | some o =>
      cases o with
      | lst xs =>
        refine .inl (sim_list _ [.ref t] H S QA Q p0 r ?_ k)
        simp only [e] at a
        unfold aList
        simp only [e]
        exact a
      | dK kvs =>
        simp only [e] at a
        obtain ⟨us, g1, g2⟩ := r t _ e
        refine .inr ⟨t, us, rfl, g1, fun q hq => ?_⟩
        refine k _ _ _ _ (a q (r.free hq)) (Le.new hq) (r.newP (o := .lst (kvs.map fun kv => keyD kv.1)) hq ⟨_, upd_same, ?_⟩) (rep_ref _)
        have e1 : (us.map fun kv => kV kv.1) = (us.map (·.1)).map kV := by rw [List.map_map]; rfl
        have e2 : (kvs.map fun kv => keyD kv.1) = (kvs.map (·.1)).map keyD := by rw [List.map_map]; rfl
        rw [e1, e2, g2.keys]
        exact repL_keys _
      | _ => simp [e] at a

/-! the lock of a dict with tuples as keys -/
def wLockTS (w : WS) : WS := fun A ρ S => ∃ d kvs, S d = some (.dT kvs) ∧ ∀ od us, w
  { nx := fun ρ' S' => S' d = some (.lokT od us kvs) ∧ A.nx ρ' (put S' d (.dT kvs))
    rt := fun v S' => S' d = some (.lokT od us kvs) ∧ A.rt v (put S' d (.dT kvs))
    bk := fun ρ' S' => S' d = some (.lokT od us kvs) ∧ A.bk ρ' (put S' d (.dT kvs))
    ct := fun ρ' S' => S' d = some (.lokT od us kvs) ∧ A.ct ρ' (put S' d (.dT kvs))
    xe := fun _ _ _ => False } ρ (put S d (.lokT od us kvs))
def wLockTE (w : WE) : WE := fun ρ S Q _ => ∃ d kvs, S d = some (.dT kvs) ∧ ∀ od us, w ρ (put S d (.lokT od us kvs)) (fun v S' => S' d = some (.lokT od us kvs) ∧ Q v (put S' d (.dT kvs))) fun _ _ => False
section
variable {X : Cx} {W : WX} {st : Stmt} {e : Expr} {w : WS} {we : WE}
theorem repKT_back {K : PySem.W.Frag} {H : Hp} {S : Sto} {d : Addr} {od : Obj} {us : List (List L2.Key × V)} {kvs : List (List L2.Key × D)} (r : Rep K H S) (h : S d = some (.lokT od us kvs)) : H d = some (.frz od (.dT us)) ∧ Le H (upd H d (.dT us)) ∧ Rep K (upd H d (.dT us)) (put S d (.dT kvs)) := by
  obtain ⟨h1, h2⟩ := r d _ h
  have L : Le H (upd H d (.dT us)) := Le.put h1 (fun z => z)
  exact ⟨h1, L, r.put h ⟨us, upd_same, h2.le L⟩⟩
theorem rs_lockT (h : RS X W st w) : RS X W st (wLockTS w) := ps_imp (ps_lock h) fun E σ H ⟨ρ, S, A, rs, rp, ⟨d, kvs, e, hw⟩, k⟩ => by
  obtain ⟨us, g1, g2⟩ := rp d _ e
  refine ⟨d, .dT us, g1, trivial, fun od => ?_⟩
  have L : Le H (upd H d (.frz od (.dT us))) := Le.put g1 (fun z => z)
  refine ⟨ρ, put S d (.lokT od us kvs), _, rs.le L, rp.put e ⟨upd_same, g2.le L⟩, hw od us, ⟨?_, ?_, ?_, ?_, ?_⟩⟩
  · rintro ρ' S' σ' H' ⟨q1, q2⟩ l rs' rp'
    obtain ⟨b1, b2, b3⟩ := repKT_back rp' q1
    exact ⟨b1, k.nx ρ' _ σ' _ q2 ((L.trans l).trans b2) (rs'.le b2) b3⟩
  · rintro v S' v' H' ⟨q1, q2⟩ l rp' p'
    obtain ⟨b1, b2, b3⟩ := repKT_back rp' q1
    exact ⟨b1, k.rt v _ v' _ q2 ((L.trans l).trans b2) b3 (p'.le b2)⟩
  · rintro ρ' S' σ' H' ⟨q1, q2⟩ l rs' rp'
    obtain ⟨b1, b2, b3⟩ := repKT_back rp' q1
    exact ⟨b1, k.bk ρ' _ σ' _ q2 ((L.trans l).trans b2) (rs'.le b2) b3⟩
  · rintro ρ' S' σ' H' ⟨q1, q2⟩ l rs' rp'
    obtain ⟨b1, b2, b3⟩ := repKT_back rp' q1
    exact ⟨b1, k.ct ρ' _ σ' _ q2 ((L.trans l).trans b2) (rs'.le b2) b3⟩
  · exact fun _ _ _ _ _ z => z.elim
theorem re_lockTE (h : RE X W e we) : RE X W e (wLockTE we) := pe_imp (pe_lock h) fun σ H Q ⟨ρ, S, QA, EA, rs, rp, ⟨d, kvs, e, hw⟩, k, x⟩ => by
  obtain ⟨us, g1, g2⟩ := rp d _ e
  refine ⟨d, .dT us, g1, trivial, fun od => ?_⟩
  have L : Le H (upd H d (.frz od (.dT us))) := Le.put g1 (fun z => z)
  refine ⟨ρ, put S d (.lokT od us kvs), _, _, rs.le L, rp.put e ⟨upd_same, g2.le L⟩, hw od us, fun v S' v' H' ⟨q1, q2⟩ l rp' p' => ?_, fun _ _ _ z => z.elim⟩
  obtain ⟨b1, b2, b3⟩ := repKT_back rp' q1
  exact ⟨b1, k v _ v' _ q2 ((L.trans l).trans b2) b3 (p'.le b2)⟩
end
/-! for k in d -/
def wKeysTI (w : WE) : WI := fun ρ S Q E => w ρ S (fun d S1 => (match d with
  | .ref a => (match S1 a with
    | some (.lokT od us kvs) => Q ⟨kvs.map fun kv => .tup (kv.1.map keyD), fun S' => S' a = some (.lokT od us kvs)⟩ S1
    | _ => False)
  | _ => False)) E
theorem isim_keysT {K : PySem.W.Frag} {H : Hp} {a : Addr} {od : Obj} {us : List (List L2.Key × V)} {kvs : List (List L2.Key × D)} : ISim K H (Itkt a od us) ⟨kvs.map fun kv => .tup (kv.1.map keyD), fun S' => S' a = some (.lokT od us kvs)⟩ := fun i H' S' l' r' st => by
  obtain ⟨h1, h2⟩ := r' a _ st
  have hk := h2.keys
  have hl := h2.length
  refine ⟨fun d e => ?_, fun hl' => ⟨h1, by rw [List.length_map] at hl'; omega⟩⟩
  rw [List.getElem?_map, Option.map_eq_some_iff] at e
  obtain ⟨kv, e1, rfl⟩ := e
  have hi : i < kvs.length := (List.getElem?_eq_some_iff.mp e1).1
  refine ⟨⟨h1, by omega⟩, fun x H2 ⟨e2, k, v, q, e3, e4, e5⟩ => ?_⟩
  subst e2 e4
  refine ⟨Le.refl _, r', ?_⟩
  have : (us.map (·.1))[i]? = some k := by rw [List.getElem?_map, e3]; rfl
  rw [hk, List.getElem?_map, e1] at this
  have e6 : kv.1 = k := by simpa using this
  rw [e6]
  unfold RepV
  exact ⟨q, _, rfl, .inl e5, repL_keys k⟩
section
variable {X : Cx} {W : WX} {tg l : Expr} {wl : WE}
theorem ri_keysT (hl : RE X W l wl) : RI X W tg l (wKeysTI wl) := pi_imp (pi_keys hl) fun σ H R ⟨ρ, S, QA, EA, rs, rp, h, k, x⟩ => ⟨ρ, S, _, EA, rs, rp, h, fun d S1 v H1 h1 l1 r1 p1 => by
  cases d with
  | ref a =>
    unfold RepV at p1
    subst p1
    cases e : S1 a with
    | none => simp [e] at h1
    | some o =>
      cases o with
      | lokT od us kvs =>
        simp only [e] at h1
        exact ⟨a, od, rfl, .inr ⟨us, (r1 a _ e).1, k _ S1 _ H1 h1 l1 r1 isim_keysT⟩⟩
      | _ => simp [e] at h1
  | _ => exact (show False from h1).elim, x⟩
end
/-! for v in d.values() -/
def ItdT (d : Addr) (o : Obj) (kvs : List (List L2.Key × V)) : It :=
  ⟨fun i H => H d = some (.frz o (.dT kvs)) ∧ i < kvs.length, fun i H x H' => H' = H ∧ ∃ k, kvs[i]? = some (k, x), fun i H => H d = some (.frz o (.dT kvs)) ∧ kvs.length ≤ i⟩
section
variable {X : Cx} {pins : List (Addr × Obj)} {σ : L2.St} {H : Hp} {s : Shared} {d : Addr} {o : Obj}
theorem rawT {kvs : List (List L2.Key × V)} (I : Inv X pins σ H s) (h : Rd H d (.dT kvs)) : (d == sysModules) = false ∧ kvs.length ≤ sizeLine ∧ ∃ (es : Array DictEntry) (ep : Nat), s.heap.DictRaw d es ep ∧ es.size = kvs.length ∧
    (∀ (i : Nat) (hi : i < es.size) (k : List L2.Key) (v : V), kvs[i]? = some (k, v) → RelV v es[i].val) ∧ ∀ o', s.heap.get? d = some o' → o'.data = .dict es ep := by
  obtain ⟨z, hs, xs, pr, o', es, ep, ho, hx, hdt, he, _⟩ := (show ObjOk X.prog X.w H s.heap d (.dT kvs) from h.ok I.hok)
  have l1 : es.size = xs.length := size_of_entries he
  have l2 : kvs.length = xs.length := Paired.length pr
  refine ⟨hs, z, es, ep, ⟨o', ho, hx, hdt⟩, by omega, fun i hi k v e => ?_, fun o2 h2 => ?_⟩
  · obtain ⟨b, hb, e1, e2, e3⟩ := paired_get pr e
    have q := entry_at he i
    rw [hb, Array.getElem?_eq_getElem hi, Option.map_some] at q
    rw [Option.some.inj q]
    exact e3
  · rw [ho] at h2; cases h2; exact hdt
theorem turn_valsT {P : Program} {w : World} {K : PySem.W.Frag} {tg : Expr} {es : Array DictEntry} {ep : Nat} {kvs : List (List L2.Key × V)} (it : Addr) (hod : o.data = .dict es ep) : Turn P w K tg (ItdT d o kvs) [it] it (fun i h => h.IsValIter it d i kvs.length ep) where
  mem := by simp
  obj := fun i h st b hb => by
    have e : b = it := by simpa using hb
    subst e
    obtain ⟨oi, e, c, dd⟩ := st
    exact ⟨oi, e, fun v z => by rw [dd] at z; cases z⟩
  keep := fun i h h' st k => st.at fun oi e => k it (by simp) oi e
  item := by
    intro X hP hw hK hc i pins s σ H E I hf st hg
    subst hP hw hK
    obtain ⟨hd, hi⟩ := hg
    obtain ⟨f0, f1, f2, f3, f4, f5⟩ := hf it (by simp)
    obtain ⟨hs, z, es', ep', raw, hsz, hv, hdat⟩ := rawT I (.inr ⟨o, hd⟩)
    have ho : s.heap.get? d = some o := (I.hok d _ hd).1
    obtain ⟨rfl, rfl⟩ := dict_ep (hdat o ho) hod
    obtain ⟨⟨k, v⟩, hkv⟩ : ∃ p, kvs[i]? = some p := ⟨kvs[i], List.getElem?_eq_getElem hi⟩
    have hi2 : i < es.size := by omega
    rw [← hsz] at st
    refine wpAny_pyNext_values_item_raw st raw hi2 fun h' st' sb => ?_
    have I1 : Inv X pins σ H { s with heap := h' } := I.turned (t' := s.toks) (fun b ob hb e => (sb.2 b hb).trans e) f0 f1 f3 f4 f5
    obtain ⟨oi, e, c, dd⟩ := id st'
    refine ⟨_, rfl, go_of (s := { s with heap := h' }) e c dd (by decide) ⟨v, H, I1, hv i hi2 k v hkv, ⟨rfl, k, hkv⟩, ?_, fun b hb => (hf b hb).1⟩⟩
    show h'.IsValIter it d (i + 1) kvs.length _
    rw [← hsz]
    exact st'
  done := by
    intro X hP hw hK hc i pins s σ H E I hf st hg
    subst hP hw hK
    obtain ⟨hd, hi⟩ := hg
    obtain ⟨f0, f1, f2, f3, f4, f5⟩ := hf it (by simp)
    obtain ⟨hs, z, es', ep', raw, hsz, hv, hdat⟩ := rawT I (.inr ⟨o, hd⟩)
    have ho : s.heap.get? d = some o := (I.hok d _ hd).1
    obtain ⟨rfl, rfl⟩ := dict_ep (hdat o ho) hod
    rw [← hsz] at st
    exact wpAny_pyNext_values_end_raw (I.ok.hd hc) st raw (by omega) fun h' eb => ⟨rfl, I.turned (t' := s.toks) (fun b ob hb e => eb b ob hb e) f0 f1 f3 f4 f5⟩
  self := fun A i s Q E st h => wpAny_pyIter_valiter st h
end
def iValsT (td : TE) : TI := fun σ H R => td σ H fun x H1 => ∃ d o kvs, x = .ref d ∧ H1 d = some (.frz o (.dT kvs)) ∧ R (ItdT d o kvs) H1
section
variable {X : Cx} {tg e : Expr} {td : TE} {apos cpos : Pos}
theorem pi_valuesT (he : PE X e td) (hbase : attributeBase e "values" X.env (eval e X.env) = eval e X.env := by rfl) (hline : (apos.endLine == cpos.line) = true := by rfl) : PI X tg (.Call (.Attribute e "values" apos) [] [] cpos) (iValsT td) := by
  refine ⟨fun pins s σ H R I h => ?_⟩
  refine wpAny_Call_method (T := "dict") (id := "dict.values") hbase rfl hline F.plainAttrs_dict F.slot_dict_values F.type_dict_values (thn (he.run pins s σ H _ I h) fun u s1 ⟨x, H1, I1, rx, d, o, kvs, ex, hd, q⟩ => ?_)
  subst ex
  obtain rfl : u = Value.ref d := rx
  obtain ⟨hs, z, es, ep, raw, hsz, hv, hdat⟩ := rawT I1 (.inr ⟨o, hd⟩)
  have ho : s1.heap.get? d = some o := (I1.hok d _ hd).1
  refine ⟨raw.typeIs, fun b eb => ?_, ?_⟩
  · cases eb
    obtain ⟨ob, h1, h2, _⟩ := raw
    exact ⟨ob, h1, h2.2.1⟩
  have I2 : Inv X pins σ H1 { s1 with heap := s1.heap.push { cls := .type "dict_values", data := .fields #[.ref d] } } := I1.kept (t' := s1.toks) fun b ob q => Heap.get?_push_of_some _ q
  have fin : wpAny (model X.prog X.w) X.A (pyIter (.ref s1.heap.objs.size)) (PIE X pins σ tg R) X.xe { s1 with heap := s1.heap.push { cls := .type "dict_values", data := .fields #[.ref d] } } := by
    refine wpAny_pyIter_values_raw (d := d) ⟨_, Heap.get?_push_size _ rfl, rfl, rfl⟩ (raw.push _) (pi_one (tk := s1.toks) I2 _ (turn_valsT _ (hdat o ho)) ⟨_, Heap.get?_push_size _ rfl, rfl, ?_⟩ q)
    rw [hsz] <;> rfl
  show wpAny _ _ (callWith cpos (.builtin "dict.values") [.ref d] [] []) _ X.xe s1
  exact method_meetsIn F.slot_dict_values F.entry_dict_values rfl (PySem.evalArgs_none ⟨rfl, raw.typeIs, F.args_dict_values_1 _, _, meets_dict_values_raw d hs, ⟨⟨es, ep, raw⟩, fin⟩⟩)
end
def wValsTI (w : WE) : WI := fun ρ S Q E => w ρ S (fun d S1 => (match d with
  | .ref a => (match S1 a with
    | some (.lokT od us kvs) => Q ⟨kvs.map fun kv => kv.2, fun S' => S' a = some (.lokT od us kvs)⟩ S1
    | _ => False)
  | _ => False)) E
theorem RepK.get_inv {κ : Type} {K : PySem.W.Frag} {H : Hp} : ∀ {kvs : List (κ × D)} {us : List (κ × V)} {i : Nat} {kv : κ × D} {k : κ} {v : V}, RepK K H kvs us → kvs[i]? = some kv → us[i]? = some (k, v) → RepV K H kv.2 v
  | [], _, _, _, _, _, _, e, _ => by simp at e
  | (k0, d) :: kvs, us, 0, kv, k, v, h, e, f => by
    obtain ⟨v0, q, rfl, p, t⟩ := h
    simp at e f
    obtain ⟨rfl, rfl⟩ := f
    subst e
    exact p
  | (k0, d) :: kvs, us, i + 1, kv, k, v, h, e, f => by
    obtain ⟨v0, q, rfl, p, t⟩ := h
    exact RepK.get_inv t (by simpa using e) (by simpa using f)
theorem isim_valsT {K : PySem.W.Frag} {H : Hp} {a : Addr} {od : Obj} {us : List (List L2.Key × V)} {kvs : List (List L2.Key × D)} : ISim K H (ItdT a od us) ⟨kvs.map fun kv => kv.2, fun S' => S' a = some (.lokT od us kvs)⟩ := fun i H' S' l' r' st => by
  obtain ⟨h1, h2⟩ := r' a _ st
  have hl := h2.length
  refine ⟨fun d e => ?_, fun hl' => ⟨h1, by rw [List.length_map] at hl'; omega⟩⟩
  rw [List.getElem?_map, Option.map_eq_some_iff] at e
  obtain ⟨kv, e1, rfl⟩ := e
  have hi : i < kvs.length := (List.getElem?_eq_some_iff.mp e1).1
  refine ⟨⟨h1, by omega⟩, fun x H2 ⟨e2, k, e3⟩ => ?_⟩
  subst e2
  exact ⟨Le.refl _, r', h2.get_inv e1 e3⟩
section
variable {X : Cx} {W : WX} {tg l : Expr} {wl : WE} {apos cpos : Pos}
theorem ri_valsT (hl : RE X W l wl) (hbase : attributeBase l "values" X.env (eval l X.env) = eval l X.env := by rfl) (hline : (apos.endLine == cpos.line) = true := by rfl) : RI X W tg (.Call (.Attribute l "values" apos) [] [] cpos) (wValsTI wl) := pi_imp (pi_valuesT hl hbase hline) fun σ H R ⟨ρ, S, QA, EA, rs, rp, h, k, x⟩ => ⟨ρ, S, _, EA, rs, rp, h, fun d S1 v H1 h1 l1 r1 p1 => by
  cases d with
  | ref a =>
    unfold RepV at p1
    subst p1
    cases e : S1 a with
    | none => simp [e] at h1
    | some o =>
      cases o with
      | lokT od us kvs =>
        simp only [e] at h1
        exact ⟨a, od, us, rfl, (r1 a _ e).1, k _ S1 _ H1 h1 l1 r1 isim_valsT⟩
      | _ => simp [e] at h1
  | _ => exact (show False from h1).elim, x⟩
end
/-! any(d.values()), ints -/
section
variable {X : Cx} {e : Expr} {te : TE} {p apos cpos pos : Pos}
theorem truth_int {prog : Program} {w : World} {A : Around} {ns : List Int} {P : Nat → Value → Prop} (h : ∀ i v, P i v → ∃ n t, ns[i]? = some n ∧ v = .int n t) : TruthOf prog w A P fun i => decide ((ns[i]?.getD 0) ≠ 0) := fun i v s Q E hv hQ => by
  obtain ⟨n, t, e1, rfl⟩ := h i v hv
  simp only [e1] at hQ
  refine PyProof.Rows.truthy_int ?_
  have : (n != 0) = decide (((some n).getD 0) ≠ 0) := by
    by_cases h : n = 0
    · subst h; rfl
    · simp [h]
  rw [this]
  exact hQ
theorem range_nz : ∀ (ns : List Int), ((List.range ns.length).any fun i => decide ((ns[i]?.getD 0) ≠ 0)) = ns.any fun n => decide (n ≠ 0)
  | [] => rfl
  | n :: ns => by
    rw [List.length_cons, List.range_succ_eq_map, List.any_cons, List.any_map, List.any_cons, ← range_nz ns]
    rfl
def rAnyVT : V → Hp → VK → Prop := fun x H Q => ∃ (d : Addr) (kvs : List (List L2.Key × V)) (ns : List Int), x = .ref d ∧ Rd H d (.dT kvs) ∧ kvs.map (·.2) = ns.map V.int ∧ Q (.bl (ns.any fun n => decide (n ≠ 0))) H
theorem pe_anyValsT (hc : X.calm = true) (he : PE X e te) (hg : Gl X "any") (hm : X.mg "any" = none) (hv : bootBuiltins "any" = some (.builtin "any")) (hbase : attributeBase e "values" X.env (eval e X.env) = eval e X.env := by rfl) (hline : (apos.endLine == cpos.line) = true := by rfl)
    (hs : starEach [.Call (.Attribute e "values" apos) [] [] cpos] X.env = (false, eval (.Call (.Attribute e "values" apos) [] [] cpos) X.env) :: starEach [] X.env := by rfl) :
    PE X (.Call (.Name "any" p) [.Call (.Attribute e "values" apos) [] [] cpos] [] pos) (fun σ H Q => te σ H fun x H1 => rAnyVT x H1 Q) := by
  refine ⟨fun pins s σ H Q I hq => ?_⟩
  refine wpAny_Call_Name_kw (ld_blt I hg hm hv ?_)
  refine callWith_builtin1 ?_ hs rfl
  rw [hs]
  show wpAny _ _ (spliced ((false, eval (.Call (.Attribute e "values" apos) [] [] cpos) X.env) :: backTo pos (starEach [] X.env))) _ _ s
  refine Calls.spliced_cons ?_
  refine wpAny_Call_method (T := "dict") (id := "dict.values") hbase rfl hline F.plainAttrs_dict F.slot_dict_values F.type_dict_values (thn (he.run pins s σ H _ I hq) fun u s1 ⟨x, H1, I1, rx, d, kvs, ns, ex, hd, hns, q⟩ => ?_)
  subst ex
  obtain rfl : u = Value.ref d := rx
  obtain ⟨hs0, z, es, ep, raw, hsz, hvs, _⟩ := rawT I1 hd
  have I2 : Inv X pins σ H1 { s1 with heap := s1.heap.push { cls := .type "dict_values", data := .fields #[.ref d] } } := I1.kept (t' := s1.toks) fun b ob q => Heap.get?_push_of_some _ q
  refine ⟨raw.typeIs, fun b eb => ?_, ?_⟩
  · cases eb
    obtain ⟨ob, h1, h2, _⟩ := raw
    exact ⟨ob, h1, h2.2.1⟩
  show wpAny _ _ (callWith cpos (.builtin "dict.values") [.ref d] [] []) _ X.xe s1
  refine method_meetsIn F.slot_dict_values F.entry_dict_values rfl (PySem.evalArgs_none ⟨rfl, raw.typeIs, F.args_dict_values_1 _, _, meets_dict_values_raw d hs0, ⟨⟨es, ep, raw⟩, ?_⟩⟩)
  refine Calls.spliced_nil ?_
  have hlt : d < s1.heap.objs.size := raw.lt_size
  refine call_any_walk (wpAny_pyIter_values_raw (d := d) ⟨_, Heap.get?_push_size _ rfl, rfl, rfl⟩ (raw.push _) ?_)
  refine ⟨_, _, _, _, _, _, _, rfl, Walks.rawValues (A := X.A.in1) (I.ok.hd hc) _ d (Nat.ne_of_lt (Nat.lt_trans hlt (by rw [Heap.size_push]; exact Nat.lt_succ_self _))) es ep, ⟨⟨_, Heap.get?_push_size _ rfl, rfl, rfl⟩, (raw.push _).push _⟩, truth_int (ns := ns) ?_, fun h' tk hk => ?_⟩
  · rintro i v ⟨hi, rfl⟩
    have hi2 : i < kvs.length := by omega
    have hr := hvs i hi kvs[i].1 kvs[i].2 (List.getElem?_eq_getElem hi2)
    have hn : (kvs.map (·.2))[i]? = some kvs[i].2 := by rw [List.getElem?_map, List.getElem?_eq_getElem hi2]; rfl
    rw [hns, List.getElem?_map, Option.map_eq_some_iff] at hn
    obtain ⟨n, e1, e2⟩ := hn
    rw [← e2] at hr
    obtain ⟨t, et⟩ := hr
    exact ⟨n, t, e1, et⟩
  · refine ⟨.bl _, H1, I2.kept (t' := tk) fun b o eo => hk b o (fun hmem => ?_) (Heap.get?_push_of_some _ eo), ?_, q⟩
    · rcases List.mem_cons.mp hmem with e1 | hmem
      · exact absurd (e1 ▸ Heap.lt_size eo) (Nat.lt_irrefl _)
      · cases hmem
    · show Value.bool _ = Value.bool _
      have hl : es.size = ns.length := by rw [hsz, ← List.length_map (f := fun x : List L2.Key × V => x.2), hns, List.length_map]
      rw [← range_nz, hl]
end
def wAnyVT (w : WE) : WE := fun ρ S Q E => w ρ S (fun d S1 => (match d with
  | .ref a => ∃ (kvs : List (List L2.Key × D)) (ns : List Int), dTof S1 a = some kvs ∧ kvs.map (·.2) = ns.map D.int ∧ Q (.bl (ns.any fun n => decide (n ≠ 0))) S1
  | _ => False)) E
section
variable {X : Cx} {W : WX} {e : Expr} {we : WE} {p apos cpos pos : Pos}
theorem re_anyValsT (hc : X.calm = true) (hg : Gl X "any") (hm : X.mg "any" = none) (he : RE X W e we) (hbase : attributeBase e "values" X.env (eval e X.env) = eval e X.env := by rfl) (hline : (apos.endLine == cpos.line) = true := by rfl)
    (hs : starEach [.Call (.Attribute e "values" apos) [] [] cpos] X.env = (false, eval (.Call (.Attribute e "values" apos) [] [] cpos) X.env) :: starEach [] X.env := by rfl) :
    RE X W (.Call (.Name "any" p) [.Call (.Attribute e "values" apos) [] [] cpos] [] pos) (wAnyVT we) :=
  pe_imp (pe_anyValsT hc he hg hm (by decide +kernel) hbase hline hs) fun σ H Q ⟨ρ, S, QA, EA, rs, rp, h, k, x⟩ => ⟨ρ, S, _, EA, rs, rp, h, fun d S1 v H1 h1 l1 r1 p1 => by
    cases d with
    | ref a =>
      unfold RepV at p1
      subst p1
      obtain ⟨kvs, ns, h2, h3, h4⟩ := h1
      obtain ⟨us, g1, g2⟩ := dTof_ok r1 h2
      have hv := RepK.vals g2
      rw [h3] at hv
      exact ⟨a, us, ns, rfl, g1, hv.ints, k _ _ _ _ h4 l1 r1 (rep_bl _)⟩
    | _ => exact (show False from h1).elim, x⟩
end
end Ab
set_option Elab.async false
set_option linter.all false
set_option maxRecDepth 100000
set_option maxHeartbeats 4000000
/-! ### tuple(d.items()), sorted(d.items()) -/
namespace Ab
open PySem PySem.Spec PyProof.Rows L2
section
variable {prog : Program} {w : World} {A : Around} {E : Value → Shared → Prop} {s : Shared} {r d : Addr} {es : Array DictEntry} {ep : Nat}
theorem code_tuple_new_items {Q₁ : Value → Shared → Prop} (hh : A.handled = none) (hv : s.heap.IsItemsView r d) (hm : DT.Raw s.heap d es ep) (hn : es.size ≤ sizeLine)
    (h : ∀ (h' : Heap) (tk : Nat) (as : List Addr), (∀ b o, s.heap.get? b = some o → h'.get? b = some o) → as.length = es.size → DT.Made es s.heap.objs.size h' as →
      Q₁ (.ref h'.objs.size) { s with heap := h'.push { cls := .type "tuple", data := .seq (as.map Value.ref).toArray }, toks := tk }) :
    codeAny (model prog w) A (.call (.builtin "tuple.__new__") ⟨[.type "tuple", .ref r], []⟩) (wants Q₁ E) s := by
  refine codeAny_of_tree ?_
  show wpAny _ A.in1 (do checkBuiltinCall "tuple.__new__" ⟨[.type "tuple", .ref r], []⟩; again (.builtin "tuple.__new__" ⟨[.type "tuple", .ref r], []⟩)) _ _ s
  refine wpAny_bind (wpAny_of_eq (F.newCall_tuple_1 _) (wpAny_pure ⟨plainId_quiet F.plain_tuple_new _, codeAny_builtin F.entry_tuple_new ?_⟩))
  rw [Around.under_plainId F.plain_tuple_new _]
  have hsub := sub_tuple_self
  have hinit := init_tuple_lookup
  have hmh := madeHere_tuple
  have hTI : s.TypeIs (.ref r) "dict_items" := let ⟨o, ho, hc, _⟩ := hv; ⟨o, ho, hc⟩
  have hh1 : A.in1.handled = none := hh
  wp_walk using wpAny_typeOf hTI, DT.collectI (A := A.in1) hh1 hv hm hn
  intro h' tk as hk hlt hl hG
  show wpAny _ _ (Builtin.Tuple.tupleExact (as.map Value.ref).toArray >>= fun v => ret v) _ _ _
  unfold Builtin.Tuple.tupleExact
  refine wpAny_bind (wpAny_newObj_type ?_ (by show (as.map Value.ref).toArray.size ≤ sizeLine; rw [List.size_toArray, List.length_map, hl]; exact hn))
  exact wpAny_pure (h h' tk as hk hl hG)
theorem call_tuple_items {Q : Value → Shared → Prop} (hh : A.handled = none) (hv : s.heap.IsItemsView r d) (hm : DT.Raw s.heap d es ep) (hn : es.size ≤ sizeLine)
    (hQ : ∀ (h' : Heap) (tk : Nat) (as : List Addr), (∀ b o, s.heap.get? b = some o → h'.get? b = some o) → as.length = es.size → DT.Made es s.heap.objs.size h' as →
      Q (.ref h'.objs.size) { s with heap := h'.push { cls := .type "tuple", data := .seq (as.map Value.ref).toArray }, toks := tk }) :
    wpAny (model prog w) A (call (.type "tuple") [.ref r]) Q E s := by
  refine callType_codes (Q₁ := fun obj s₁ => s₁.TypeIs obj "tuple" ∧ Q obj s₁) F.called_tuple (F.typeCall_tuple_1 _) F.entry_object_init
    (code_tuple_new_items (A := A.in1) hh hv hm hn fun h' tk as hk hl hG => ⟨⟨_, Heap.get?_push_size _ rfl, rfl⟩, hQ h' tk as hk hl hG⟩) fun obj s₁ h₁ => ?_
  exact ⟨h₁.1, F.args_object_init_2 obj _, object_init_meets F.called_tuple.init.lookup F.called_tuple.made (by decide) prog w A.in1 _ s₁ ⟨h₁.1, rfl, h₁.2⟩⟩
end
section
variable {X : Cx}
theorem dK_raw {pins : List (Addr × Obj)} {σ : L2.St} {H : Hp} {s : Shared} {d : Addr} {kvs : List (L2.Key × V)} (I : Inv X pins σ H s) (h : H d = some (.dK kvs)) : (d == sysModules) = false ∧ kvs.length ≤ sizeLine ∧ ∃ (es : Array DictEntry) (ep : Nat), DT.Raw s.heap d es ep ∧ es.size = kvs.length ∧
    ∀ (i : Nat) (e : DictEntry), es[i]? = some e → ∃ k v, kvs[i]? = some (k, v) ∧ RelV (kV k) e.key ∧ RelV v e.val := by
  obtain ⟨z, hs, vs, kv, hd⟩ := (show ObjOk X.prog X.w H s.heap d (.dK kvs) from I.hok d _ h)
  obtain ⟨es, ep, raw, hsz, he⟩ := hd.raw
  have hl : kvs.length = vs.length := Paired.length kv
  refine ⟨hs, z, es, ep, raw, by omega, fun i e hi => ?_⟩
  have hi1 : i < es.size := by
    by_cases c : i < es.size
    · exact c
    · rw [Array.getElem?_eq_none (by omega)] at hi; cases hi
  rw [Array.getElem?_eq_getElem hi1] at hi
  cases hi
  obtain ⟨⟨k, v⟩, hkv⟩ : ∃ p, kvs[i]? = some p := ⟨kvs[i]'(by omega), List.getElem?_eq_getElem (by omega)⟩
  obtain ⟨u, hu, ru⟩ := kv_get kv hkv
  obtain ⟨h1, h2⟩ := he i hi1 k u hu
  exact ⟨k, v, hkv, keyIs_rel h1, by rw [h2]; exact ru⟩
theorem tups_laid {pins : List (Addr × Obj)} {σ : L2.St} {H : Hp} {s : Shared} {h' : Heap} {tk : Nat} {kvs : List (L2.Key × V)} {es : Array DictEntry} {as : List Addr} {lo : Addr} (I : Inv X pins σ H s) (hlo : s.heap.objs.size ≤ lo)
    (hk : ∀ b o, s.heap.get? b = some o → h'.get? b = some o) (hl : as.length = kvs.length) (hG : DT.Made es lo h' as) (he : ∀ (i : Nat) (e : DictEntry), es[i]? = some e → ∃ k v, kvs[i]? = some (k, v) ∧ RelV (kV k) e.key ∧ RelV v e.val) :
    ∃ H' : Hp, (∀ b o, H b = some o → H' b = some o) ∧ (∀ t ∈ as, H t = none) ∧ (∀ b, b ∉ as → H' b = H b) ∧ Paired (fun (t : Addr) (q : L2.Key × V) => H' t = some (.tup [kV q.1, q.2])) as kvs ∧ Inv X pins σ H' { s with heap := h', toks := tk } := by
  have nd : as.Nodup := List.Pairwise.imp (fun {a b} (h : a < b) => Nat.ne_of_lt h) hG.rise
  have new : ∀ t ∈ as, H t = none := fun t ht => I.hok.fresh (Nat.le_trans hlo (Nat.le_of_lt (hG.above t ht)))
  have atP := LiI.putT_at as kvs H hl nd
  have off : ∀ b, b ∉ as → LiI.putT H as kvs b = H b := fun b h1 => LiI.putT_off as kvs _ h1
  have low : ∀ b o, s.heap.get? b = some o → b ∉ as := fun b o e z => absurd (Heap.lt_size e) (Nat.not_lt.mpr (Nat.le_trans hlo (Nat.le_of_lt (hG.above b z))))
  have kp : ∀ b u, H b = some u → (LiI.putT H as kvs) b = some u := fun b u e => by
    rw [off b (fun z => by rw [new b z] at e; cases e)]
    exact e
  refine ⟨LiI.putT H as kvs, kp, new, off, atP, ?_⟩
  refine I.call' (ch := []) rfl ⟨fun b o q _ _ _ => hk b o q, fun b o q _ _ _ => ⟨o.slots, hk b o q⟩, fun b o q n _ => ?_, fun b o q _ => ⟨o, hk b o q⟩, fun b xs q => kp b _ q, fun b o u q => kp b _ q, fun b ps q => ⟨#[], by rw [kp b _ q]; simp⟩⟩ (fun b u q => ?_) I.bare fun b z => by simp at z
  · rw [off b (low b o q)]
    exact n
  · by_cases hb : b ∈ as
    · obtain ⟨j, pk, e1, e2, e3⟩ := LiI.paired_ix atP hb
      rw [e3] at q
      cases q
      obtain ⟨e, f1, f3⟩ := hG.pairs j b e1
      obtain ⟨k, v, g1, g2, g3⟩ := he j e f1
      rw [e2] at g1
      cases g1
      exact ⟨by show 2 ≤ sizeLine; decide, [e.key, e.val], .cons g2 (.cons g3 .nil), ⟨_, f3, rfl, _, rfl⟩⟩
    · rw [off b hb] at q
      exact (I.hok b u q).stay (fun d v _ y => hk d v y) (fun d y => kp d _ y) fun d xs y => kp d _ y
theorem paired_imp {α β : Type} {F G : α → β → Prop} (h : ∀ a b, F a b → G a b) : ∀ {as : List α} {bs : List β}, Paired F as bs → Paired G as bs
  | [], [], _ => .nil
  | [], b :: bs, p => by cases p
  | a :: as, [], p => by cases p
  | a :: as, b :: bs, p => by cases p with | cons x y => exact .cons (h a b x) (paired_imp h y)
def rTupItems : V → Hp → VK → Prop := fun x H Q => ∃ (d : Addr) (kvs : List (L2.Key × V)), x = .ref d ∧ H d = some (.dK kvs) ∧
  ∀ (H' : Hp) (p : Addr) (ts : List Addr), (∀ b o, H b = some o → H' b = some o) → H' p = some (.tup (ts.map V.ref)) → Paired (fun (t : Addr) (q : L2.Key × V) => H' t = some (.tup [kV q.1, q.2])) ts kvs → Q (.ref p) H'
variable {e : Expr} {te : TE} {p apos cpos pos : Pos}
theorem pe_tupItems (hc : X.calm = true) (he : PE X e te) (hg : Gl X "tuple") (hm : X.mg "tuple" = none) (hv : bootBuiltins "tuple" = some (.type "tuple")) (hbase : attributeBase e "items" X.env (eval e X.env) = eval e X.env := by rfl) (hline : (apos.endLine == cpos.line) = true := by rfl)
    (hs : starEach [.Call (.Attribute e "items" apos) [] [] cpos] X.env = (false, eval (.Call (.Attribute e "items" apos) [] [] cpos) X.env) :: starEach [] X.env := by rfl) :
    PE X (.Call (.Name "tuple" p) [.Call (.Attribute e "items" apos) [] [] cpos] [] pos) (fun σ H Q => te σ H fun x H1 => rTupItems x H1 Q) := by
  refine ⟨fun pins s σ H Q I hq => ?_⟩
  refine wpAny_Call_Name_kw (ld_blt I hg hm hv ?_)
  refine PyProof.Rows.callWith_type1 ?_ hs rfl
  rw [hs]
  show wpAny _ _ (spliced ((false, eval (.Call (.Attribute e "items" apos) [] [] cpos) X.env) :: backTo pos (starEach [] X.env))) _ _ s
  refine Calls.spliced_cons ?_
  refine wpAny_Call_method (T := "dict") (id := "dict.items") hbase rfl hline F.plainAttrs_dict F.slot_dict_items F.type_dict_items (thn (he.run pins s σ H _ I hq) fun u s1 ⟨x, H1, I1, rx, d, kvs, ex, hd, q⟩ => ?_)
  subst ex
  obtain rfl : u = Value.ref d := rx
  obtain ⟨hs0, z, es, ep, raw, hsz, hes⟩ := dK_raw I1 hd
  have I2 : Inv X pins σ H1 { s1 with heap := s1.heap.push { cls := .type "dict_items", data := .fields #[.ref d] } } := I1.kept (t' := s1.toks) fun b ob q => Heap.get?_push_of_some _ q
  refine ⟨raw.typeIs, fun b eb => ?_, ?_⟩
  · cases eb
    obtain ⟨ob, h1, h2, _⟩ := raw
    exact ⟨ob, h1, h2.2.1⟩
  show wpAny _ _ (callWith cpos (.builtin "dict.items") [.ref d] [] []) _ X.xe s1
  refine method_meetsIn F.slot_dict_items F.entry_dict_items rfl (PySem.evalArgs_none ⟨rfl, raw.typeIs, F.args_dict_items_1 _, _, meets_dict_items_raw d hs0, ⟨⟨es, ep, raw⟩, ?_⟩⟩)
  refine Calls.spliced_nil ?_
  refine call_tuple_items (I1.ok.hd hc) ⟨_, Heap.get?_push_size _ rfl, rfl, rfl⟩ (raw.push _) (by omega) fun h' tk as hk hl hG => ?_
  obtain ⟨H', k1, k2, k3, k4, J⟩ := tups_laid (tk := tk) I2 (Nat.le_refl _) hk (by omega) hG hes
  have hf : H' h'.objs.size = none := J.hok.fresh (Nat.le_refl _)
  have hz : (as.map V.ref).length ≤ sizeLine := by rw [List.length_map]; omega
  refine ⟨.ref h'.objs.size, upd H' h'.objs.size (.tup (as.map V.ref)), J.laid (t' := tk) (o := .tup (as.map V.ref)) (fun b o e => Heap.get?_push_of_some _ e) (Nat.le_refl _) ⟨hz, as.map Value.ref, LiI.vals_refs as, ⟨_, Heap.get?_push_size _ rfl, rfl, _, rfl⟩⟩, rfl, q _ _ as (fun b o e => ?_) upd_same ?_⟩
  · have := k1 b o e
    rw [upd_ne (fun w => by rw [w, hf] at this; cases this)]
    exact this
  · refine paired_imp (fun t q hq => ?_) k4
    rw [upd_ne (fun w => by rw [w, hf] at hq; cases hq)]
    exact hq
def rSortItems : V → Hp → VK → Prop := fun x H Q => ∃ (d : Addr) (ps : List (Int × Int)), x = .ref d ∧ H d = some (.dK (ps.map fun p => (Sum.inl p.1, V.int p.2))) ∧
  ∀ (H' : Hp) (p : Addr) (ts : List Addr) (qs : List (Int × Int)), (∀ b o, H b = some o → H' b = some o) → H p = none → H' p = some (.lst (ts.map V.ref)) → Paired (fun (t : Addr) (q : Int × Int) => H' t = some (.tup [.int q.1, .int q.2])) ts qs → qs.Perm ps → qs.Pairwise lexLe → Q (.ref p) H'
theorem paired_map2 {α β γ : Type} {F : α → β → Prop} (f : γ → β) : ∀ {as : List α} {l : List γ}, Paired F as (l.map f) → Paired (fun a c => F a (f c)) as l
  | [], [], _ => .nil
  | [], c :: l, h => by cases h
  | a :: as, [], h => by cases h
  | a :: as, c :: l, h => by cases h with | cons x y => exact .cons x (paired_map2 f y)
theorem paired_zip {α β : Type} {F : α → β → Prop} : ∀ {as : List α} {bs : List β}, Paired F as bs → ∃ zs : List (α × β), zs.map (·.1) = as ∧ zs.map (·.2) = bs ∧ ∀ z ∈ zs, F z.1 z.2
  | [], [], _ => ⟨[], rfl, rfl, by simp⟩
  | a :: as, [], h => by cases h
  | [], b :: bs, h => by cases h
  | a :: as, b :: bs, h => by
    cases h with
    | cons x y =>
      obtain ⟨zs, h1, h2, h3⟩ := paired_zip y
      refine ⟨(a, b) :: zs, by simp [h1], by simp [h2], fun z hz => ?_⟩
      rcases List.mem_cons.mp hz with rfl | hz
      · exact x
      · exact h3 z hz
theorem zip_paired {α β : Type} {F : α → β → Prop} : ∀ {zs : List (α × β)}, (∀ z ∈ zs, F z.1 z.2) → Paired F (zs.map (·.1)) (zs.map (·.2))
  | [], _ => .nil
  | z :: zs, h => .cons (h z (by simp)) (zip_paired fun y hy => h y (by simp [hy]))
theorem pe_sortItems (hc : X.calm = true) (he : PE X e te) (hg : Gl X "sorted") (hm : X.mg "sorted" = none) (hv : bootBuiltins "sorted" = some (.builtin "sorted")) (hbase : attributeBase e "items" X.env (eval e X.env) = eval e X.env := by rfl) (hline : (apos.endLine == cpos.line) = true := by rfl)
    (hs : starEach [.Call (.Attribute e "items" apos) [] [] cpos] X.env = (false, eval (.Call (.Attribute e "items" apos) [] [] cpos) X.env) :: starEach [] X.env := by rfl) :
    PE X (.Call (.Name "sorted" p) [.Call (.Attribute e "items" apos) [] [] cpos] [] pos) (fun σ H Q => te σ H fun x H1 => rSortItems x H1 Q) := by
  classical
  refine ⟨fun pins s σ H Q I hq => ?_⟩
  refine wpAny_Call_Name_kw (ld_blt I hg hm hv ?_)
  refine callWith_builtin1 ?_ hs rfl
  rw [hs]
  show wpAny _ _ (spliced ((false, eval (.Call (.Attribute e "items" apos) [] [] cpos) X.env) :: backTo pos (starEach [] X.env))) _ _ s
  refine Calls.spliced_cons ?_
  refine wpAny_Call_method (T := "dict") (id := "dict.items") hbase rfl hline F.plainAttrs_dict F.slot_dict_items F.type_dict_items (thn (he.run pins s σ H _ I hq) fun u s1 ⟨x, H1, I1, rx, d, ps, ex, hd, q⟩ => ?_)
  subst ex
  obtain rfl : u = Value.ref d := rx
  obtain ⟨hs0, z, es, ep, raw, hsz, hes⟩ := dK_raw I1 hd
  have I2 : Inv X pins σ H1 { s1 with heap := s1.heap.push { cls := .type "dict_items", data := .fields #[.ref d] } } := I1.kept (t' := s1.toks) fun b ob q => Heap.get?_push_of_some _ q
  refine ⟨raw.typeIs, fun b eb => ?_, ?_⟩
  · cases eb
    obtain ⟨ob, h1, h2, _⟩ := raw
    exact ⟨ob, h1, h2.2.1⟩
  show wpAny _ _ (callWith cpos (.builtin "dict.items") [.ref d] [] []) _ X.xe s1
  refine method_meetsIn F.slot_dict_items F.entry_dict_items rfl (PySem.evalArgs_none ⟨rfl, raw.typeIs, F.args_dict_items_1 _, _, meets_dict_items_raw d hs0, ⟨⟨es, ep, raw⟩, ?_⟩⟩)
  refine Calls.spliced_nil ?_
  refine DT.sortedI (I1.ok.hd hc) ⟨_, Heap.get?_push_size _ rfl, rfl, rfl⟩ (raw.push _) (by omega) fun h' tk as hk hlt hl hG => ?_
  obtain ⟨H', k1, k2, k3, k4, J⟩ := tups_laid (tk := tk) I2 (Nat.le_refl _) hk (by omega) hG hes
  have k5 := paired_map2 _ k4
  obtain ⟨zs, z1, z2, z3⟩ := paired_zip k5
  have nda : as.Nodup := List.Pairwise.imp (fun {a b} (h : a < b) => Nat.ne_of_lt h) hG.rise
  -- what stands at an address
  let k : Addr → Int × Int := fun a => if h : ∃ z ∈ zs, z.1 = a then h.choose.2 else (0, 0)
  have hkz : ∀ z ∈ zs, k z.1 = z.2 := fun z hz => by
    have h : ∃ z' ∈ zs, z'.1 = z.1 := ⟨z, hz, rfl⟩
    show (if h : ∃ z' ∈ zs, z'.1 = z.1 then h.choose.2 else (0, 0)) = z.2
    rw [dif_pos h]
    obtain ⟨h1, h2⟩ := h.choose_spec
    generalize h.choose = z' at h1 h2
    have e1 := z3 z hz
    have e2 := z3 z' h1
    rw [h2, e1] at e2
    injection e2 with e2
    injection e2 with e2
    injection e2 with a1 a2
    injection a2 with a2 _
    injection a1 with a1
    injection a2 with a2
    exact Prod.ext a1.symm a2.symm
  let kv : Value → Int × Int := fun v => match v with | .ref a => k a | _ => (0, 0)
  have hmem : ∀ a ∈ as, ∃ z ∈ zs, z.1 = a := fun a ha => by rw [← z1] at ha; exact List.mem_map.mp ha
  have hp : ∀ v ∈ as.map Value.ref, Srt.IsPair (h'.push { cls := .type "list", data := .seq (as.map Value.ref).toArray }) v (kv v).1 (kv v).2 := fun v hv => by
    obtain ⟨a, ha, rfl⟩ := List.mem_map.mp hv
    obtain ⟨z, hz, rfl⟩ := hmem a ha
    show Srt.IsPair _ _ (k z.1).1 (k z.1).2
    rw [hkz z hz]
    obtain ⟨_, its, ri, o, ho, hcl, n, hda⟩ := J.hok _ _ (z3 z hz)
    obtain ⟨u1, u2, rfl, r1, r2⟩ := vals2 ri
    obtain ⟨t1, rfl⟩ := r1
    obtain ⟨t2, rfl⟩ := r2
    exact ⟨z.1, o, t1, t2, n, rfl, Heap.get?_push_of_some _ ho, hcl, hda⟩
  have hz' : (as.map Value.ref).length ≤ sizeLine := by rw [List.length_map]; omega
  have hob : (h'.push { cls := .type "list", data := .seq (as.map Value.ref).toArray }).get? h'.objs.size = some (seqObj "list" (as.map Value.ref).toArray 0) := Heap.get?_push_size _ rfl
  refine wpAny_call_entry PyProof.Rows.slot_list_sort ⟨_, hob, rfl⟩ PyProof.Rows.entry_list_sort
    (SrtO.list_sort_ord (s := { s1 with heap := h'.push { cls := .type "list", data := .seq (as.map Value.ref).toArray }, toks := tk }) (SrtO.swo_lex kv) hob hz' (fun h2 => SrtO.pairs_sortableO (by omega) hp fun o e => ?_) fun out h1 h2 => ?_) (PyProof.Rows.args_list_sort _)
  · have e' : some o = some (seqObj "list" (as.map Value.ref).toArray 0) := e.symm.trans hob
    cases e'
    intro c
    exact absurd (Value.type.inj c) (by decide)
  refine ⟨.none, rfl, ?_⟩
  obtain ⟨as2, ea2⟩ : ∃ as2 : List Addr, out = as2.map Value.ref := by
    have : ∀ l : List Value, (∀ u ∈ l, u ∈ as.map Value.ref) → ∃ l2 : List Addr, l = l2.map Value.ref := by
      intro l
      induction l with
      | nil => exact fun _ => ⟨[], rfl⟩
      | cons u l ih =>
        intro h
        obtain ⟨l2, e2⟩ := ih fun v hv => h v (by simp [hv])
        obtain ⟨a, _, ea⟩ := List.mem_map.mp (h u (by simp))
        exact ⟨a :: l2, by rw [List.map_cons, ea, e2]⟩
    exact this out fun u hu => h2.perm.mem_iff.mp hu
  subst ea2
  have pm : as2.Perm as := by
    have := h2.perm.map (fun v => match v with | Value.ref a => a | _ => 0)
    rw [List.map_map, List.map_map] at this
    have e : ((fun v : Value => match v with | Value.ref a => a | _ => 0) ∘ Value.ref) = id := rfl
    rw [e, List.map_id, List.map_id] at this
    exact this
  have hL : H' h'.objs.size = none := J.hok.fresh (Nat.le_refl _)
  obtain ⟨ep', he'⟩ := PyProof.Rows.sortedHeap_at (vs := as.map Value.ref) (out := (as2.map Value.ref).toArray) hob
  have hold : ∀ b o, h'.get? b = some o → (PyProof.Rows.sortedHeap (h'.push { cls := .type "list", data := .seq (as.map Value.ref).toArray }) h'.objs.size (as.map Value.ref) (as2.map Value.ref).toArray).get? b = some o := fun b o eb => by
    have hb := Heap.lt_size eb
    rw [PyProof.Rows.sortedHeap_old (Nat.ne_of_lt hb) (Nat.lt_trans hb (by rw [Heap.size_push]; exact Nat.lt_succ_self _))]
    exact Heap.get?_push_of_some _ eb
  have hz2 : (as2.map V.ref).length ≤ sizeLine := by rw [List.length_map, pm.length_eq]; omega
  have J2 : Inv X pins σ (upd H' h'.objs.size (.lst (as2.map V.ref))) { s1 with heap := PyProof.Rows.sortedHeap (h'.push { cls := .type "list", data := .seq (as.map Value.ref).toArray }) h'.objs.size (as.map Value.ref) (as2.map Value.ref).toArray, toks := tk } :=
    J.laid (t' := tk) (o := .lst (as2.map V.ref)) hold (Nat.le_refl _) ⟨hz2, as2.map Value.ref, ep', LiI.vals_refs as2, he'⟩
  refine ⟨.ref h'.objs.size, _, J2, rfl, q _ _ as2 (as2.map k) (fun b o eb => ?_) ?_ upd_same ?_ ?_ ?_⟩
  · have := k1 b o eb
    rw [upd_ne (fun w => by rw [w, hL] at this; cases this)]
    exact this
  · cases eh : H1 h'.objs.size with
    | none => rfl
    | some o => have := k1 _ _ eh; rw [hL] at this; cases this
  · have : as2.map k = (as2.map fun a => (a, k a)).map (·.2) := by rw [List.map_map]; rfl
    have e1 : as2 = (as2.map fun a => (a, k a)).map (·.1) := by rw [List.map_map]; exact (List.map_id as2).symm
    rw [this]
    conv => arg 2; rw [e1]
    refine zip_paired fun z hz => ?_
    obtain ⟨a, ha, rfl⟩ := List.mem_map.mp hz
    obtain ⟨y, hy, e⟩ := hmem a (pm.mem_iff.mp ha)
    subst e
    have hy2 := z3 y hy
    show upd H' h'.objs.size _ y.1 = some (.tup [.int (k y.1).1, .int (k y.1).2])
    rw [upd_ne (fun w => by rw [w, hL] at hy2; cases hy2), hkz y hy]
    exact hy2
  · have h3 : (as2.map k).Perm (as.map k) := pm.map k
    have h4 : as.map k = ps := by
      rw [← z1, ← z2, List.map_map]
      exact List.map_congr_left fun z hz => hkz z hz
    rw [h4] at h3
    exact h3
  · have h5 := List.pairwise_map.mp h1
    refine List.pairwise_map.mpr (h5.imp fun {a b} hab => ?_)
    have h6 : SrtO.lexB (k b) (k a) = false := hab
    have := SrtO.lexB_no.mp h6
    unfold lexLe
    omega
end
/-! over data -/
theorem Rep.grow {K : PySem.W.Frag} {H H' : Hp} {S : Sto} (k : ∀ b o, H b = some o → H' b = some o) (r : Rep K H S) : Le H H' ∧ Rep K H' S := by
  have L : Le H H' := fun a u _ h => k _ _ h
  refine ⟨L, fun a o e => ?_⟩
  have ok := r a o e
  obtain ⟨u, hu, _⟩ := ok.some
  exact ok.le L (by rw [hu]; exact k a u hu)
theorem Rep.growP {K : PySem.W.Frag} {H H' : Hp} {S : Sto} {p : Addr} {o : AO} (k : ∀ b o, H b = some o → H' b = some o) (r : Rep K H S) (ok : OkO K H' p o) : Rep K H' (Ab.put S p o) := fun a o' e => by
  by_cases c : a = p
  · subst c
    rw [put_same] at e
    cases e
    exact ok
  · rw [put_ne c] at e
    exact (r.grow k).2 a o' e
def wTupItems (w : WE) : WE := fun ρ S Q E => w ρ S (fun d S1 => (match d with
  | .ref a => (match S1 a with
    | some (.dK kvs) => Q (.tup (kvs.map fun kv => .tup [keyD kv.1, kv.2])) S1
    | _ => False)
  | _ => False)) E
def wSortItems (w : WE) : WE := fun ρ S Q E => w ρ S (fun d S1 => (match d with
  | .ref a => (match S1 a with
    | some (.dK kvs) => ∃ ps : List (Int × Int), kvs = ps.map (fun p => (Sum.inl p.1, D.int p.2)) ∧ ∀ p, S1 p = none → Q (.ref p) (put S1 p (.lst ((srt2 ps).map plD)))
    | _ => False)
  | _ => False)) E
theorem repL_items {K : PySem.W.Frag} {H H' : Hp} (l : Le H H') : ∀ {ts : List Addr} {kvs : List (L2.Key × D)} {us : List (L2.Key × V)}, RepK K H kvs us → Paired (fun (t : Addr) (q : L2.Key × V) => H' t = some (.tup [kV q.1, q.2])) ts us → RepL K H' (kvs.map fun kv => D.tup [keyD kv.1, kv.2]) (ts.map V.ref)
  | ts, [], us, h, p => by
    cases (show us = [] from h)
    cases p
    exact repL_nil
  | ts, (k, d) :: kvs, us, h, p => by
    obtain ⟨v, q, rfl, pv, t⟩ := h
    cases p with
    | cons a b =>
      refine repL_cons ?_ (repL_items l t b)
      unfold RepV
      exact ⟨_, _, rfl, .inl a, repL_cons (keyD_rep k) (repL_cons (pv.le l) repL_nil)⟩
theorem repL_pls {K : PySem.W.Frag} {H' : Hp} : ∀ {ts : List Addr} {qs : List (Int × Int)}, Paired (fun (t : Addr) (q : Int × Int) => H' t = some (.tup [.int q.1, .int q.2])) ts qs → RepL K H' (qs.map plD) (ts.map V.ref)
  | [], [], _ => repL_nil
  | [], q :: qs, p => by cases p
  | t :: ts, [], p => by cases p
  | t :: ts, q :: qs, p => by
    cases p with
    | cons a b =>
      refine repL_cons ?_ (repL_pls b)
      unfold plD RepV
      exact ⟨t, _, rfl, .inl a, repL_cons (rep_int _) (repL_cons (rep_int _) repL_nil)⟩
theorem repK_ints {K : PySem.W.Frag} {H : Hp} : ∀ {ps : List (Int × Int)} {us : List (L2.Key × V)}, RepK K H (ps.map fun p => ((Sum.inl p.1 : L2.Key), D.int p.2)) us → us = ps.map fun p => (Sum.inl p.1, V.int p.2)
  | [], us, h => h
  | p :: ps, us, h => by
    obtain ⟨v, q, rfl, pv, t⟩ := h
    unfold RepV at pv
    rw [pv, repK_ints t]
    rfl
section
variable {X : Cx} {W : WX} {e : Expr} {we : WE} {p apos cpos pos : Pos}
theorem re_tupItems (hc : X.calm = true) (hg : Gl X "tuple") (hm : X.mg "tuple" = none) (he : RE X W e we) (hbase : attributeBase e "items" X.env (eval e X.env) = eval e X.env := by rfl) (hline : (apos.endLine == cpos.line) = true := by rfl)
    (hs : starEach [.Call (.Attribute e "items" apos) [] [] cpos] X.env = (false, eval (.Call (.Attribute e "items" apos) [] [] cpos) X.env) :: starEach [] X.env := by rfl) :
    RE X W (.Call (.Name "tuple" p) [.Call (.Attribute e "items" apos) [] [] cpos] [] pos) (wTupItems we) :=
  pe_imp (pe_tupItems hc he hg hm (by decide +kernel) hbase hline hs) fun σ H Q ⟨ρ, S, QA, EA, rs, rp, h, k, x⟩ => ⟨ρ, S, _, EA, rs, rp, h, fun d S1 v H1 h1 l1 r1 p1 => by
    cases d with
    | ref a =>
      unfold RepV at p1
      subst p1
      cases ea : S1 a with
      | none => simp [ea] at h1
      | some ob =>
        cases ob with
        | dK kvs =>
          simp only [ea] at h1
          obtain ⟨us, g1, g2⟩ := r1 a _ ea
          refine ⟨a, us, rfl, g1, fun H' q ts kp hq hp => ?_⟩
          obtain ⟨L, r2⟩ := r1.grow kp
          refine k _ _ _ _ h1 (l1.trans L) r2 ?_
          unfold RepV
          exact ⟨q, _, rfl, .inl hq, repL_items L g2 hp⟩
        | _ => simp [ea] at h1
    | _ => exact (show False from h1).elim, x⟩
theorem re_sortItems (hc : X.calm = true) (hg : Gl X "sorted") (hm : X.mg "sorted" = none) (he : RE X W e we) (hbase : attributeBase e "items" X.env (eval e X.env) = eval e X.env := by rfl) (hline : (apos.endLine == cpos.line) = true := by rfl)
    (hs : starEach [.Call (.Attribute e "items" apos) [] [] cpos] X.env = (false, eval (.Call (.Attribute e "items" apos) [] [] cpos) X.env) :: starEach [] X.env := by rfl) :
    RE X W (.Call (.Name "sorted" p) [.Call (.Attribute e "items" apos) [] [] cpos] [] pos) (wSortItems we) :=
  pe_imp (pe_sortItems hc he hg hm (by decide +kernel) hbase hline hs) fun σ H Q ⟨ρ, S, QA, EA, rs, rp, h, k, x⟩ => ⟨ρ, S, _, EA, rs, rp, h, fun d S1 v H1 h1 l1 r1 p1 => by
    cases d with
    | ref a =>
      unfold RepV at p1
      subst p1
      cases ea : S1 a with
      | none => simp [ea] at h1
      | some ob =>
        cases ob with
        | dK kvs =>
          simp only [ea] at h1
          obtain ⟨ps, rfl, h1⟩ := h1
          obtain ⟨us, g1, g2⟩ := r1 a _ ea
          have eu := repK_ints g2
          subst eu
          refine ⟨a, ps, rfl, g1, fun H' q ts qs kp hq0 hq hp pm up => ?_⟩
          obtain ⟨L, _⟩ := r1.grow kp
          have es : qs = srt2 ps := srt2_eq pm up
          subst es
          exact k _ _ _ _ (h1 q (r1.free hq0)) (l1.trans L) (r1.growP (o := .lst ((srt2 ps).map plD)) kp ⟨_, hq, repL_pls hp⟩) (rep_ref _)
        | _ => simp [ea] at h1
    | _ => exact (show False from h1).elim, x⟩
end
end Ab
set_option Elab.async false
set_option linter.all false
set_option maxRecDepth 100000
set_option maxHeartbeats 4000000
/-! ### sorted(dict(pairs)): the first items of the pairs are pairs of ints -/
namespace Ab
open PySem PySem.Spec PyProof.Rows L2
structure ZP where
  t : Addr
  b : Addr
  p : Int × Int
section
theorem atKeyI {K : Type} [DecidableEq K] {xs : List (K × Addr × Value)} {k : K} : (atKey xs k).isSome = true ↔ k ∈ xs.map (·.1) := by
  unfold atKey
  rw [Option.isSome_map, List.find?_isSome]
  simp [List.mem_map]
theorem putAt_fst {K : Type} [DecidableEq K] (k : K) (v : Value) (x : K × Addr × Value) : (putAt k v x).1 = x.1 := by
  unfold putAt
  split <;> rfl
theorem storedH_mem {K : Type} [DecidableEq K] {xs : List (K × Addr × Value)} {k k' : K} {a : Addr} {v : Value} : k' ∈ (storedH xs k a v).map (·.1) ↔ k' ∈ xs.map (·.1) ∨ k' = k := by
  unfold storedH
  split
  · rename_i h
    have e : (xs.map (putAt k v)).map (·.1) = xs.map (·.1) := by
      rw [List.map_map]
      exact List.map_congr_left fun x _ => putAt_fst k v x
    rw [e]
    constructor
    · exact .inl
    · rintro (q | q)
      · exact q
      · rw [q]; exact atKeyI.mp h
  · rw [List.map_append, List.mem_append]
    simp
theorem storedAllH_mem {K : Type} [DecidableEq K] {k' : K} : ∀ {ps xs : List (K × Addr × Value)}, k' ∈ (storedAllH xs ps).map (·.1) ↔ k' ∈ xs.map (·.1) ∨ k' ∈ ps.map (·.1)
  | [], xs => by simp [storedAllH]
  | p :: ps, xs => by
    show k' ∈ (storedAllH (storedH xs p.1 p.2.1 p.2.2) ps).map (·.1) ↔ _
    rw [storedAllH_mem, storedH_mem, List.map_cons, List.mem_cons]
    constructor
    · rintro ((h | h) | h)
      · exact .inl h
      · exact .inr (.inl h)
      · exact .inr (.inr h)
    · rintro (h | h | h)
      · exact .inl (.inl h)
      · exact .inl (.inr h)
      · exact .inr h
end
section
variable {X : Cx} {e : Expr} {te : TE} {p p2 pos pos2 : Pos}
def rSD (K : PySem.W.Frag) : V → Hp → VK → Prop := fun x H Q => ∃ (l : Addr) (zs : List ZP), x = .ref l ∧ SqL K H l (zs.map fun z => V.ref z.t) ∧ (∀ z ∈ zs, ∃ v, SqT K H z.t [V.ref z.b, v]) ∧ (∀ z ∈ zs, SqT K H z.b [V.int z.p.1, V.int z.p.2]) ∧ zs.length < 64 ∧ (∀ z ∈ zs, TS.Bd 1000 [z.p.1, z.p.2]) ∧
  ∀ (qs : List (Addr × (Int × Int))) (q : Addr), (∀ x ∈ qs, ∃ z ∈ zs, x = (z.b, z.p)) → (qs.map (·.2)).Nodup → (∀ z ∈ zs, z.p ∈ qs.map (·.2)) → (qs.map (·.2)).Pairwise lexLe → H q = none → Q (.ref q) (upd H q (.lst (qs.map fun x => V.ref x.1)))
theorem pe_sortDict (hc : X.calm = true) (hu : X.A.units + 100 < cLine) (he : PE X e te) (hg : Gl X "sorted") (hm : X.mg "sorted" = none) (hg2 : Gl X "dict") (hm2 : X.mg "dict" = none) (hv : bootBuiltins "sorted" = some (.builtin "sorted")) (hv2 : bootBuiltins "dict" = some (.type "dict"))
    (s1 : starEach [e] X.env = (false, eval e X.env) :: starEach [] X.env := by rfl)
    (s3 : starEach [Expr.Call (.Name "dict" p2) [e] [] pos2] X.env = (false, eval (.Call (.Name "dict" p2) [e] [] pos2) X.env) :: starEach [] X.env := by rfl) :
    PE X (.Call (.Name "sorted" p) [.Call (.Name "dict" p2) [e] [] pos2] [] pos) (fun σ H Q => te σ H fun x H1 => rSD X.K x H1 Q) := by
  classical
  refine ⟨fun pins s σ H Q I hq => ?_⟩
  refine wpAny_Call_Name_kw (ld_blt I hg hm hv ?_)
  refine callWith_builtin1 ?_ s3 rfl
  rw [s3]
  show wpAny _ _ (spliced ((false, eval (.Call (.Name "dict" p2) [e] [] pos2) X.env) :: backTo pos (starEach [] X.env))) _ _ s
  refine Calls.spliced_cons ?_
  refine wpAny_Call_Name_kw (ld_blt I hg2 hm2 hv2 ?_)
  refine PyProof.Rows.callWith_type1 ?_ s1 rfl
  rw [s1]
  show wpAny _ _ (spliced ((false, eval e X.env) :: backTo pos2 (starEach [] X.env))) _ _ s
  refine Calls.spliced_cons (thn (he.run pins s σ H _ I hq) fun u s1 ⟨x, H1, I1, rx, l, zs, ex, hl, ht, hb, h64, hbd, q⟩ => ?_)
  subst ex
  obtain rfl : u = Value.ref l := rx
  refine Calls.spliced_nil ?_
  obtain ⟨its, rv, pl, hz⟩ := I1.list hl
  rw [List.length_map] at hz
  have eits : its = zs.map fun z => Value.ref z.t := by
    have : (zs.map fun z => V.ref z.t) = (zs.map (·.t)).map V.ref := by rw [List.map_map]; rfl
    rw [this] at rv
    rw [L2.refs_at rv, List.map_map]
    rfl
  subst eits
  -- the pairs as they stand
  have tv : ∀ z ∈ zs, ∃ v : Value, IsTup s1.heap z.t #[.ref z.b, v] := fun z hz => by
    obtain ⟨v, hv⟩ := ht z hz
    obtain ⟨its, ri, hT, _⟩ := I1.tuple hv
    obtain ⟨u1, u2, rfl, r1, r2⟩ := vals2 ri
    cases r1
    exact ⟨u2, hT⟩
  let vl : ZP → Value := fun z => if h : z ∈ zs then (tv z h).choose else .none
  have tvl : ∀ z ∈ zs, IsTup s1.heap z.t #[.ref z.b, vl z] := fun z hz => by
    show IsTup s1.heap z.t #[.ref z.b, if h : z ∈ zs then (tv z h).choose else .none]
    rw [dif_pos hz]
    exact (tv z hz).choose_spec
  have keyI : ∀ z ∈ zs, (tupleKind (mixKind X.prog X.w)).is s1.heap [Sum.inl z.p.1, Sum.inl z.p.2] z.b := fun z hz => keyT_is I1 (ks := [Sum.inl z.p.1, Sum.inl z.p.2]) (hb z hz)
  let ps : List (Value × Value) := zs.map fun z => (Value.ref z.b, vl z)
  let kps : List (List L2.Key × Addr × Value) := zs.map fun z => ([Sum.inl z.p.1, Sum.inl z.p.2], z.b, vl z)
  let Ts : Nat → Addr := fun j => ((zs[j]?).map (·.t)).getD 0
  obtain ⟨o, n, ho, hcl, hdn, hdat⟩ := pl
  have okA : PlainSeq "list" s1.heap l (zs.map fun z => Value.ref z.t).toArray ∧ PairItems s1.heap (zs.map fun z => Value.ref z.t).toArray Ts ps := by
    refine ⟨⟨o, n, ho, hcl, hdn, hdat⟩, by simp [ps], fun j k v e => ?_⟩
    simp only [ps, List.getElem?_map, Option.map_eq_some_iff] at e
    obtain ⟨z, ez, e⟩ := e
    cases e
    have eT : Ts j = z.t := by show ((zs[j]?).map (·.t)).getD 0 = z.t; rw [ez]; rfl
    rw [eT]
    refine ⟨by simp [ez], .inl ?_⟩
    obtain ⟨o', h1, h2, n', h3⟩ := tvl z (List.mem_of_getElem? ez)
    exact ⟨o', h1, h2, n', h3⟩
  have hlp : ps.length = zs.length := by simp [ps]
  refine call_dict_pairsH (knd := tupleKind (mixKind X.prog X.w)) (ps := kps) (PairArg.list l _ Ts ps) (I1.ok.hd hc) (tupleKind_room_in1 (A := X.A.in1) (by show X.A.units + 1 + 1 < cLine; omega)) okA ⟨by simp [kps, ps], fun i key v e => ?_⟩ (fun h' hk x hx => ?_) (by rw [hlp, sizeLine_eq]; omega) fun h' tk hd' hk => ?_
  · simp only [PairRel, ps, List.getElem?_map, Option.map_eq_some_iff] at e
    obtain ⟨z, ez, e⟩ := e
    cases e
    exact ⟨[Sum.inl z.p.1, Sum.inl z.p.2], z.b, by simp [kps, ez], rfl⟩
  · simp only [kps, List.mem_map] at hx
    obtain ⟨z, hz, rfl⟩ := hx
    have kI := keyI z hz
    obtain ⟨o2, its2, n2, g1, g2, g3, g4⟩ := kI
    exact ⟨o2, its2, n2, hk _ o2 (Nat.ne_of_lt (Heap.lt_size g1)) (by simp) g1, g2, g3, g4⟩
  refine Calls.spliced_nil ?_
  have I2 : Inv X pins σ H1 { s1 with heap := h', toks := tk } := I1.kept fun b o e => hk b o (by simp) e
  obtain ⟨o3, es, ep, ho3, hx3, hdat3, hes, his, hnd⟩ := hd'
  have l2 : es.size = (storedAllH [] kps).length := size_of_entries hes
  have l3 := storedAllH_length kps []
  have l4 : kps.length = zs.length := by simp [kps]
  rw [List.length_nil] at l3
  have big : s1.heap.objs.size ≠ sysModules := Nat.ne_of_gt I1.big
  have lo : (s1.heap.objs.size == sysModules) = false := beq_eq_false_iff_ne.mpr big
  -- what the dict's keys are
  have kf : ∀ x ∈ storedAllH [] kps, ∃ z ∈ zs, x.1 = [Sum.inl z.p.1, Sum.inl z.p.2] ∧ x.2.1 = z.b := fun x hx =>
    storedAllH_keys (P := fun k b => ∃ z ∈ zs, k = [Sum.inl z.p.1, Sum.inl z.p.2] ∧ b = z.b) (xs := []) (by simp) (fun y hy => by
      simp only [kps, List.mem_map] at hy
      obtain ⟨z, hz, rfl⟩ := hy
      exact ⟨z, hz, rfl, rfl⟩) x hx
  let ws : List (Addr × (Int × Int)) := (storedAllH [] kps).map fun x => (x.2.1, match x.1 with | [Sum.inl i, Sum.inl j] => (i, j) | _ => (0, 0))
  have wz : ∀ x ∈ ws, ∃ z ∈ zs, x = (z.b, z.p) := fun x hx => by
    obtain ⟨y, hy, rfl⟩ := List.mem_map.mp hx
    obtain ⟨z, hz, e1, e2⟩ := kf y hy
    exact ⟨z, hz, by rw [e1, e2]⟩
  have wk : (storedAllH [] kps).map (·.1) = (ws.map (·.2)).map prK := by
    simp only [ws, List.map_map]
    refine List.map_congr_left fun y hy => ?_
    obtain ⟨z, hz, e1, e2⟩ := kf y hy
    simp only [Function.comp, e1]
    rfl
  have wnd : (ws.map (·.2)).Nodup := by
    rw [wk] at hnd
    exact (List.pairwise_map.mp hnd).imp fun {a b} h e => h (by rw [e])
  have wall : ∀ z ∈ zs, z.p ∈ ws.map (·.2) := fun z hz => by
    have h1 : ([Sum.inl z.p.1, Sum.inl z.p.2] : List L2.Key) ∈ (storedAllH [] kps).map (·.1) := storedAllH_mem.mpr (.inr (by simp only [kps, List.map_map]; exact List.mem_map.mpr ⟨z, hz, rfl⟩))
    rw [wk] at h1
    obtain ⟨p', hp', e⟩ := List.mem_map.mp h1
    unfold prK at e
    simp only [List.cons.injEq, Sum.inl.injEq, and_true] at e
    have : p' = z.p := Prod.ext e.1 e.2
    rw [← this]
    exact hp'
  refine Calls.call_function_entry PyProof.Rows.kind_sorted PyProof.Rows.plain_sorted PyProof.Rows.entry_sorted (PyProof.Rows.args_sorted1 _) ?_
  unfold Builtin.«sorted»
  refine wpAny_bind (m := checkCount "sorted" 1 1 _) (wpAny_pure (wpAny_bind (PySem.W.kdu_collect (A := X.A.in1) (src_raw (ep := ep) lo) (I.ok.hd hc) ⟨o3, ho3, hx3, hdat3⟩ (by rw [sizeLine_eq]; omega) fun h2 tk2 acc hk2 hacc => ?_)))
  have I3 : Inv X pins σ H1 { s1 with heap := h2, toks := tk2 } := I2.kept hk2
  have ea : acc.toList = ws.map fun z => Value.ref z.1 := by
    apply List.ext_getElem?
    intro j
    rw [List.getElem?_map, Array.getElem?_toList]
    have e1 := entry_at hes j
    cases hy : (storedAllH [] kps)[j]? with
    | none =>
      have : (storedAllH [] kps).length ≤ j := List.getElem?_eq_none_iff.mp hy
      have e2 : ws[j]? = none := by simp only [ws, List.getElem?_map, hy]; rfl
      rw [e2, Option.map_none, Array.getElem?_eq_none_iff, hacc.1]
      omega
    | some y =>
      have lj : j < acc.size := by
        have := (List.getElem?_eq_some_iff.mp hy).1
        rw [hacc.1]
        omega
      obtain ⟨hi, hv⟩ := hacc.2 j acc[j] (by simp [lj])
      have e2 : ws[j]? = some (y.2.1, match y.1 with | [Sum.inl i, Sum.inl j] => (i, j) | _ => (0, 0)) := by simp only [ws, List.getElem?_map, hy]; rfl
      rw [e2]
      rw [hy, Array.getElem?_eq_getElem hi] at e1
      have e3 : es[j] = entryOfKey (tupleKind (mixKind X.prog X.w)) y := Option.some.inj e1
      rw [Option.map_some, Array.getElem?_eq_getElem lj, hv, e3]
      rfl
  rw [ea]
  have lw : ws.length = (storedAllH [] kps).length := by simp [ws]
  have lz2 : (ws.map fun z => Value.ref z.1).length < 64 := by rw [List.length_map, lw]; omega
  have raw : ∀ x ∈ ws, TS.TupInts h2 (.ref x.1) [x.2.1, x.2.2] ∧ TS.Bd 1000 [x.2.1, x.2.2] := fun x hx => by
    obtain ⟨z, hz, rfl⟩ := wz x hx
    exact ⟨tupI_raw (X := X) I3 (show SqT X.K H1 z.b (([z.p.1, z.p.2] : List Int).map V.int) from hb z hz), hbd z hz⟩
  refine wpAny_bind (wpAny_newList ?_ (by rw [sizeLine_eq]; omega))
  have hoL : (h2.push (seqObj "list" (ws.map fun z => Value.ref z.1).toArray 0)).get? h2.objs.size = some (seqObj "list" (ws.map fun z => Value.ref z.1).toArray 0) := Heap.get?_push_size _ rfl
  have keep : ∀ b o, h2.get? b = some o → o.cls = .type "tuple" → (h2.push (seqObj "list" (ws.map fun z => Value.ref z.1).toArray 0)).get? b = some o := fun b o e _ => Heap.get?_push_of_some _ e
  show wpAny _ _ _ _ _ { s1 with heap := h2.push (seqObj "list" (ws.map fun z => Value.ref z.1).toArray 0), toks := tk2 }
  refine wpAny_bind (wpAny_holding (TS.call_sort_tups (d := 2) (B := 1000) hoL lz2 (by decide) (fun v hv => ?_) fun out p1 p2 => ?_))
  · obtain ⟨z, hz, rfl⟩ := List.mem_map.mp hv
    exact ⟨[z.2.1, z.2.2], (raw z hz).1.keeps keep, rfl, (raw z hz).2⟩
  · obtain ⟨zs', q1, q2⟩ := perm_unmap p1 rfl
    obtain ⟨e', he'⟩ := PyProof.Rows.sortedHeap_at (vs := ws.map fun z => Value.ref z.1) (out := out) hoL
    have hv : Vals (zs'.map fun z => V.ref z.1) out.toList := by
      rw [q2]
      exact vrefs zs'
    refine wpAny_pure ⟨_, rfl, .ref h2.objs.size, upd H1 h2.objs.size (.lst (zs'.map fun z => V.ref z.1)), I3.laid (t' := tk2) (fun b u e => ?_) (Nat.le_refl _) (show ObjOk X.prog X.w _ _ _ (.lst (zs'.map fun z => V.ref z.1)) from ⟨?_, out.toList, e', hv, by simpa using he'⟩), rfl, q zs' _ (fun x hx => wz x (q1.mem_iff.mp hx)) ((q1.map _).nodup_iff.mpr wnd) (fun z hz => (q1.map _).mem_iff.mpr (wall z hz)) ?_ (I3.hok.fresh (Nat.le_refl _))⟩
    · have hb' : b < h2.objs.size := Heap.lt_size e
      rw [PyProof.Rows.sortedHeap_old (Nat.ne_of_lt hb') (by rw [size_push']; exact Nat.lt_succ_of_lt hb')]
      exact Heap.get?_push_of_some _ e
    · rw [List.length_map, q1.length_eq, lw, sizeLine_eq]
      omega
    · rw [q2, List.pairwise_map] at p2
      rw [List.pairwise_map]
      refine List.Pairwise.imp_of_mem (fun {u v} hu hv h => ?_) p2
      have ru := raw u (q1.mem_iff.mp hu)
      have rv := raw v (q1.mem_iff.mp hv)
      rw [(ru.1.keeps keep).ints, (rv.1.keeps keep).ints] at h
      rcases code_lex ru.2 rv.2 h with z | z
      · exact .inl z
      · exact .inr z
end
def wSortDict (w : WE) : WE := fun ρ S Q E => w ρ S (fun d S1 => (match d with
  | .ref a => (match S1 a with
    | some (.lst xs) => ∃ ps : List ((Int × Int) × D), xs = ps.map (fun p => D.tup [plD p.1, p.2]) ∧ ps.length < 64 ∧ (∀ p ∈ ps, (0 ≤ p.1.1 ∧ p.1.1 < 1000) ∧ (0 ≤ p.1.2 ∧ p.1.2 < 1000)) ∧
        ∀ qs : List (Int × Int), (∀ q, q ∈ qs ↔ q ∈ ps.map (·.1)) → qs.Nodup → qs.Pairwise lexLe → ∀ p, S1 p = none → Q (.ref p) (put S1 p (.lst (qs.map plD)))
    | _ => False)
  | _ => False)) E
theorem zps_of {K : PySem.W.Frag} {H : Hp} : ∀ {ps : List ((Int × Int) × D)} {vs : List V}, RepL K H (ps.map fun p => D.tup [plD p.1, p.2]) vs → ∃ zs : List ZP, vs = zs.map (fun z => V.ref z.t) ∧ zs.map (·.p) = ps.map (·.1) ∧ (∀ z ∈ zs, ∃ v, SqT K H z.t [V.ref z.b, v]) ∧ (∀ z ∈ zs, TupP K H z.b [V.int z.p.1, V.int z.p.2])
  | [], _, h => ⟨[], by rw [h.nil_inv]; rfl, rfl, by simp, by simp⟩
  | p :: ps, _, h => by
    obtain ⟨v, r, rfl, pv, h'⟩ := h.inv
    obtain ⟨zs, e1, e2, e3, e4⟩ := zps_of h'
    unfold RepV at pv
    obtain ⟨t, us, rfl, tp, rl⟩ := pv
    obtain ⟨v1, v2, rfl, pk, pv2⟩ := repL2 rl
    unfold plD RepV at pk
    obtain ⟨b, ks, rfl, tk, rk⟩ := pk
    have hk : ks = ([p.1.1, p.1.2] : List Int).map V.int := (show RepL K H (([p.1.1, p.1.2] : List Int).map D.int) ks from rk).ints
    subst hk
    refine ⟨⟨t, b, p.1⟩ :: zs, by rw [e1]; rfl, by rw [List.map_cons, e2]; rfl, fun z hz => ?_, fun z hz => ?_⟩
    · rcases List.mem_cons.mp hz with rfl | hz
      · exact ⟨v2, tp.sq⟩
      · exact e3 z hz
    · rcases List.mem_cons.mp hz with rfl | hz
      · exact tk
      · exact e4 z hz
section
variable {X : Cx} {W : WX} {e : Expr} {we : WE} {p p2 pos pos2 : Pos}
theorem re_sortDict (hc : X.calm = true) (hu : X.A.units + 100 < cLine) (hg : Gl X "sorted") (hm : X.mg "sorted" = none) (hg2 : Gl X "dict") (hm2 : X.mg "dict" = none) (he : RE X W e we)
    (s1 : starEach [e] X.env = (false, eval e X.env) :: starEach [] X.env := by rfl)
    (s3 : starEach [Expr.Call (.Name "dict" p2) [e] [] pos2] X.env = (false, eval (.Call (.Name "dict" p2) [e] [] pos2) X.env) :: starEach [] X.env := by rfl) :
    RE X W (.Call (.Name "sorted" p) [.Call (.Name "dict" p2) [e] [] pos2] [] pos) (wSortDict we) :=
  pe_imp (pe_sortDict hc hu he hg hm hg2 hm2 (by decide +kernel) (by decide +kernel) s1 s3) fun σ H Q ⟨ρ, S, QA, EA, rs, rp, h, k, x⟩ => ⟨ρ, S, _, EA, rs, rp, h, fun d S1 v H1 h1 l1 r1 p1 => by
    cases d with
    | ref a =>
      unfold RepV at p1
      subst p1
      cases ea : S1 a with
      | none => simp [ea] at h1
      | some ob =>
        cases ob with
        | lst xs =>
          simp only [ea] at h1
          obtain ⟨ps, rfl, h2, h3, h4⟩ := h1
          obtain ⟨vs, g1, g2⟩ := r1 a _ ea
          obtain ⟨zs, rfl, z2, z3, z4⟩ := zps_of g2
          have hlen : zs.length = ps.length := by have := congrArg List.length z2; simpa using this
          have zb : ∀ z ∈ zs, (0 ≤ z.p.1 ∧ z.p.1 < 1000) ∧ (0 ≤ z.p.2 ∧ z.p.2 < 1000) := fun z hz => by
            have : z.p ∈ ps.map (·.1) := by rw [← z2]; exact List.mem_map_of_mem hz
            obtain ⟨y, hy, e⟩ := List.mem_map.mp this
            rw [← e]
            exact h3 y hy
          refine ⟨a, zs, rfl, .inl (.inl g1), z3, fun z hz => (z4 z hz).sq, by omega, fun z hz m hm => ?_, fun qs q q1 q2 q3 q4 q5 => ?_⟩
          · have := zb z hz
            simp only [List.mem_cons, List.not_mem_nil, or_false] at hm
            rcases hm with rfl | rfl
            · exact this.1
            · exact this.2
          · have L : Le H1 (upd H1 q (.lst (qs.map fun x => V.ref x.1))) := Le.new q5
            refine k _ _ _ _ (h4 (qs.map (·.2)) (fun y => ?_) q2 q4 q (r1.free q5)) (l1.trans L) (r1.newP (o := .lst ((qs.map (·.2)).map plD)) q5 ⟨_, upd_same, ?_⟩) (rep_ref _)
            · constructor
              · intro hy
                obtain ⟨x, hx, rfl⟩ := List.mem_map.mp hy
                obtain ⟨z, hz, rfl⟩ := q1 x hx
                rw [← z2]
                exact List.mem_map_of_mem hz
              · intro hy
                rw [← z2] at hy
                obtain ⟨z, hz, rfl⟩ := List.mem_map.mp hy
                exact q3 z hz
            · have : ∀ qs : List (Addr × (Int × Int)), (∀ x ∈ qs, ∃ z ∈ zs, x = (z.b, z.p)) → RepL X.K H1 ((qs.map (·.2)).map plD) (qs.map fun x => V.ref x.1) := by
                intro qs
                induction qs with
                | nil => exact fun _ => repL_nil
                | cons x qs ih =>
                  intro hx
                  obtain ⟨z, hz, rfl⟩ := hx x (by simp)
                  refine repL_cons ?_ (ih fun y hy => hx y (by simp [hy]))
                  unfold plD RepV
                  exact ⟨z.b, _, rfl, z4 z hz, repL_ints [z.p.1, z.p.2]⟩
              exact (this qs q1).le L
        | _ => simp [ea] at h1
    | _ => exact (show False from h1).elim, x⟩
end
end Ab
set_option Elab.async false
set_option linter.all false
set_option maxRecDepth 100000
set_option maxHeartbeats 4000000
/-! ### x is True, x is not True -/
namespace Ab
open PySem PySem.Spec PyProof.Rows L2
def aIsBl (neg : Bool) : WR2 := fun x y S Q => (match x, y with
  | .bl a, .bl b => Q (.bl (if neg then !decide (a = b) else decide (a = b))) S
  | _, _ => False)
theorem sim_isBl {K : PySem.W.Frag} : Sim2 K rIsB (aIsBl false) := fun x y dx dy H S QA Q p q r a k => by
  match dx, dy, a, p, q with
  | .bl i, .bl j, a, p, q =>
    unfold RepV at p q
    exact ⟨i, j, p, q, k _ S _ H a (Le.refl H) r (rep_bl _)⟩
theorem sim_notBl {K : PySem.W.Frag} : Sim2 K rNotB (aIsBl true) := fun x y dx dy H S QA Q p q r a k => by
  match dx, dy, a, p, q with
  | .bl i, .bl j, a, p, q =>
    unfold RepV at p q
    exact ⟨i, j, p, q, k _ S _ H a (Le.refl H) r (rep_bl _)⟩
section
variable {X : Cx} {W : WX} {a b : Expr} {wa wb : WE} {pos : Pos}
theorem re_isBl (ha : RE X W a wa) (hb : RE X W b wb) : RE X W (.Compare a [.Is] [b] pos) (wOp (aIsBl false) wa wb) := re_cmp op_isBl sim_isBl ha hb (nomark _)
theorem rt_isBl (ha : RE X W a wa) (hb : RE X W b wb) : RT X W (.Compare a [.Is] [b] pos) (wB (wOp (aIsBl false) wa wb)) := rt_cmp op_isBl sim_isBl ha hb (nomark _)
theorem re_notBl (ha : RE X W a wa) (hb : RE X W b wb) : RE X W (.Compare a [.IsNot] [b] pos) (wOp (aIsBl true) wa wb) := re_cmp op_notBl sim_notBl ha hb (nomark _)
theorem rt_notBl (ha : RE X W a wa) (hb : RE X W b wb) : RT X W (.Compare a [.IsNot] [b] pos) (wB (wOp (aIsBl true) wa wb)) := rt_cmp op_notBl sim_notBl ha hb (nomark _)
end
end Ab
set_option Elab.async false
set_option linter.all false
set_option maxRecDepth 100000
set_option maxHeartbeats 4000000
/-! ### sorted of a tuple of data -/
namespace SrtO
open PySem PyProof.Rows Srt PySem.W
section
variable {prog : Program} {w : World} {A : Around} {E : Value → Shared → Prop} {s : Shared} {β : Type} {vs : List Value} {bs : List β} {enc : β → PyData} {R : Value → β → Prop}
theorem sorted_dataT {l : Addr} {Q : Value → Shared → Prop} (hl : IsTup s.heap l vs.toArray) (e : EachIs R vs bs) (er : EachIs (fun v b => ∃ as, Reads s.heap v (enc b) as) vs bs) (hal : AllAlike (bs.map enc)) (hk : Sortable (bs.map enc)) (hL : bs.length ≤ sizeLine)
    (hu : ∀ b, b ∈ bs → A.units + 2 + (enc b).depth < cLine) (h : ∀ out, out.length = bs.length → EachIs R out (bs.mergeSort (dataLe false enc)) → Q (.ref (s.heap.objs.size + 1)) { s with heap := sortedAll s.heap vs (List.toArray out) }) :
    wpAny (model prog w) A (call (.builtin "sorted") [.ref l]) Q E s := by
  have hz : vs.length ≤ sizeLine := by rw [e.length]; exact hL
  refine Calls.call_function_entry kind_sorted plain_sorted entry_sorted (args_sorted1 _) ?_
  unfold Builtin.«sorted»
  refine wpAny_bind (m := checkCount "sorted" 1 1 _) (wpAny_pure ?_)
  refine wpAny_bind (collect_tup hl ?_ hz)
  refine wpAny_bind (wpAny_newList ?_ hz)
  have hsz : ((s.heap.push (seqObj "list" #[] 0)).update s.heap.objs.size (Obj.mapSeq (· ++ vs.toArray))).objs.size = s.heap.objs.size + 1 := by
    rw [Heap.size_update, size_push']
  have hoL : (((s.heap.push (seqObj "list" #[] 0)).update s.heap.objs.size (Obj.mapSeq (· ++ vs.toArray))).push (seqObj "list" vs.toArray 0)).get? (s.heap.objs.size + 1) = some (seqObj "list" vs.toArray 0) := by
    rw [← hsz]; exact Heap.get?_push_size _ rfl
  have keep : ∀ b o, s.heap.get? b = some o → b ≠ s.heap.objs.size + 1 ∧ (((s.heap.push (seqObj "list" #[] 0)).update s.heap.objs.size (Obj.mapSeq (· ++ vs.toArray))).push (seqObj "list" vs.toArray 0)).get? b = some o := fun b o q => by
    have hlt : b < s.heap.objs.size := Heap.lt_size q
    refine ⟨Nat.ne_of_lt (Nat.lt_succ_of_lt hlt), Heap.get?_push_of_some _ ?_⟩
    rw [Heap.get?_update_ne _ _ _ _ (Nat.ne_of_lt hlt)]
    exact Heap.get?_push_of_some _ q
  show wpAny _ _ _ _ _ { s with heap := ((s.heap.push (seqObj "list" #[] 0)).update s.heap.objs.size (Obj.mapSeq (· ++ vs.toArray))).push (seqObj "list" vs.toArray 0) }
  rw [hsz]
  generalize hh1 : ((s.heap.push (seqObj "list" #[] 0)).update s.heap.objs.size (Obj.mapSeq (· ++ vs.toArray))).push (seqObj "list" vs.toArray 0) = h1 at hoL keep
  have er' : EachIs (fun v b => ∃ as, Reads (sortingHeap h1 (s.heap.objs.size + 1) vs) v (enc b) as) vs bs := er.mono fun _ _ ⟨as, r⟩ => ⟨as, PyProof.Rows.Reads.keeps (fun b o q => by
    rw [sortingHeap_old (keep b o q).1 (keep b o q).2]) r⟩
  refine wpAny_bind (wpAny_holding (wpAny_call_entry slot_list_sort ⟨_, hoL, rfl⟩ entry_list_sort (list_sort_vals (s := { s with heap := h1 }) (κ := dataKind (sortingHeap h1 (s.heap.objs.size + 1) vs) (bs.map enc)) hoL (SortsAt.data (s := { s with heap := sortingHeap h1 (s.heap.objs.size + 1) vs }) (each_map (R := fun v d => ∃ as, Reads (sortingHeap h1 (s.heap.objs.size + 1) vs) v d as) enc er') hal hk (bound_map fun b hb => by have := hu b hb; show A.units + 1 + 1 + _ < _; omega)) hz ⟨.none, rfl, ?_⟩) (args_list_sort _)))
  refine wpAny_pure ⟨_, rfl, ?_⟩
  have := h _ (by rw [sortVals_length false rfl]; exact e.length) (sortVals_data false e er' hal)
  subst hh1
  exact this
end
end SrtO
namespace Ab
open PySem PySem.Spec PyProof.Rows L2 RZ PySem.W
def rSrtT (K : PySem.W.Frag) : List V → Hp → VK → Prop := fun vs H Q => ∃ (a : Addr) (bs : List (V × D)), vs = [V.ref a] ∧ SqT K H a (bs.map (·.1)) ∧ (∀ b ∈ bs, Dp K H b.1 (pd b.2)) ∧ AllAlike (bs.map fun b => pd b.2) ∧ Sortable (bs.map fun b => pd b.2) ∧ (∀ b ∈ bs, (pd b.2).depth ≤ 64) ∧ bs.length ≤ sizeLine ∧
  ∀ p, H p = none → Q (.ref p) (upd H p (.lst ((bs.mergeSort fun x y => !dLt y.2 x.2).map (·.1))))
theorem cr_srtT {X : Cx} (hu : X.A.units + 100 < cLine) : CallR X (.builtin "sorted") (rSrtT X.K) := by
  intro pins s σ H vs us Q I r h
  obtain ⟨a, bs, rfl, hs, hd, al, so, dp, hz, q⟩ := h
  obtain ⟨its, rv, hl, _⟩ := I.tuple hs
  rw [Vals.ref1 r]
  refine SrtO.sorted_dataT (R := fun u b => RelV b.1 u) (enc := fun b => pd b.2) hl (each_vals rv) (each_reads I hd rv) al so hz (fun b hb => by have := dp b hb; omega) fun out ho he => ?_
  have he2 : EachIs (fun u b => RelV b.1 u) out (bs.mergeSort fun x y => !dLt y.2 x.2) := he
  obtain ⟨ep, he'⟩ := PyProof.Rows.sortedAll_at s.heap its out.toArray
  have hv := vals_each he2
  refine ⟨.ref _, _, I.laid (o := .lst ((bs.mergeSort fun x y => !dLt y.2 x.2).map (·.1))) (t' := s.toks) (fun _ _ => PyProof.Rows.sortedAll_old) (Nat.le_succ _) ⟨?_, out, ep, hv, he'⟩, rfl, q _ (I.hok.fresh (Nat.le_succ _))⟩
  rw [List.length_map, List.length_mergeSort]
  exact hz
def rSrtH (K : PySem.W.Frag) : List V → Hp → VK → Prop := fun vs H Q => rSrtG K vs H Q ∨ rSrtT K vs H Q
theorem cr_srtH {X : Cx} (hu : X.A.units + 100 < cLine) : CallR X (.builtin "sorted") (rSrtH X.K) := (cr_srtG hu).or (cr_srtT hu)
/-- sorted: a list, a tuple of data -/
def aSrtH : WRL := fun ds S Q => (match ds with
  | [.tup xs] => xs.all (okD 8) = true ∧ AllAlike (xs.map pd) ∧ Sortable (xs.map pd) ∧ xs.length ≤ sizeLine ∧ ∀ p, S p = none → Q (.ref p) (put S p (.lst (srtD xs)))
  | _ => aSrtG ds S Q)
theorem sim_srtH {K : PySem.W.Frag} : SimL K (rSrtH K) aSrtH := fun xs ds H S QA Q p r a k => by
  match ds, a, p with
  | [.tup zs], a, p =>
    obtain ⟨v, rfl, pv⟩ := repL1 p
    unfold RepV at pv
    obtain ⟨t, vs, rfl, tp, g2⟩ := pv
    obtain ⟨h1, h2, h3, h4, h5⟩ := a
    have hl : vs.length = zs.length := g2.length
    have m2 : ((vs.zip zs).map fun b => pd b.2) = zs.map pd := by
      have : ((vs.zip zs).map fun b => pd b.2) = ((vs.zip zs).map (·.2)).map pd := by rw [List.map_map]; rfl
      rw [this, zip_snd hl]
    have ok : ∀ b ∈ vs.zip zs, okD 8 b.2 = true := fun b hb => List.all_eq_true.mp h1 _ (by rw [← zip_snd hl]; exact List.mem_map_of_mem hb)
    refine .inr ⟨t, vs.zip zs, rfl, by rw [zip_fst hl]; exact tp.sq, fun b hb => dp_of (ok b hb) (repL_zip g2 b hb), by rw [m2]; exact h2, by rw [m2]; exact h3, fun b hb => by have := (okD_lay (ok b hb)).2; omega, by rw [List.length_zip]; omega, fun q hq => ?_⟩
    refine k _ _ _ _ (h5 q (r.free hq)) (Le.new hq) (r.newP (o := .lst (srtD zs)) hq ⟨_, upd_same, ?_⟩) (rep_ref _)
    have := repL_of (K := K) (H := H) (bs := (vs.zip zs).mergeSort fun x y => !dLt y.2 x.2) fun b hb => repL_zip g2 b ((List.mergeSort_perm _ _).mem_iff.mp hb)
    rw [sort_zip, zip_snd hl] at this
    exact this.le (Le.new hq)
  | [], a, p => exact .inl (sim_srtG _ _ H S QA Q p r a k)
  | [.ref _], a, p => exact .inl (sim_srtG _ _ H S QA Q p r a k)
  | [.scr _], a, p => exact .inl (sim_srtG _ _ H S QA Q p r a k)
  | [.non], a, p => exact .inl (sim_srtG _ _ H S QA Q p r a k)
  | [.bl _], a, p => exact .inl (sim_srtG _ _ H S QA Q p r a k)
  | [.int _], a, p => exact .inl (sim_srtG _ _ H S QA Q p r a k)
  | [.str _], a, p => exact .inl (sim_srtG _ _ H S QA Q p r a k)
  | [.ty _], a, p => exact .inl (sim_srtG _ _ H S QA Q p r a k)
  | d :: _ :: _, a, p => exact .inl (sim_srtG _ _ H S QA Q p r (by cases d <;> exact a) k)
end Ab
set_option Elab.async false
set_option linter.all false
set_option maxRecDepth 100000
set_option maxHeartbeats 4000000
/-! ### sorted rows: of like rows in any order -/
namespace Ab
open PySem PySem.Spec PyProof.Rows L2 RZ PySem.W
theorem dLt_tri {x y : D} {n m : Nat} (hx : okD n x = true) (hy : okD m y = true) (al : alike (pd x) (pd y) = true) (h1 : dLt x y = false) (h2 : dLt y x = false) : eqD x y = true := by
  rw [← eqD_pd hx hy]
  cases e : PyData.eqv (pd x) (pd y) with
  | true => rfl
  | false =>
    exfalso
    have t : keyToks (pd x) = keyToks (pd y) := lex_total _ _ h1 h2
    have q := (toks_eqv _ _ al).2 e [] [Sum.inl 0]
    rw [t, lex_pre, lex_irrefl] at q
    exact absurd q (by decide)
/-- data by a name: alike, told apart -/
structure Named {α : Type} (f : α → D) : Prop where
  ok : ∀ a, okD 8 (f a) = true
  al : ∀ a b, alike (pd (f a)) (pd (f b)) = true
  inj : ∀ a b, eqD (f a) (f b) = true → a = b
theorem srtD_map {α : Type} (f : α → D) (l : List α) : srtD (l.map f) = (l.mergeSort fun x y => !dLt (f y) (f x)).map f := by
  unfold srtD
  exact (List.map_mergeSort (r := fun (x y : α) => !dLt (f y) (f x)) (fun a _ b _ => rfl)).symm
theorem dLe_trans {a b c : D} (h1 : (!dLt b a) = true) (h2 : (!dLt c b) = true) : (!dLt c a) = true := by
  cases e : dLt c a with
  | false => rfl
  | true =>
    have h1' : dataLt (pd b) (pd a) = false := by simpa [dLt] using h1
    have h2' : dataLt (pd c) (pd b) = false := by simpa [dLt] using h2
    have e' : dataLt (pd c) (pd a) = true := e
    have := lt_le e' h1'
    rw [h2'] at this
    cases this
theorem dLe_total (a b : D) : (!dLt b a || !dLt a b) = true := by
  cases e : dLt b a with
  | false => rfl
  | true =>
    have : dLt a b = false := lt_asymm e
    rw [this]; rfl
theorem srtD_perm {α : Type} {f : α → D} (N : Named f) {l m : List α} (p : l.Perm m) : srtD (l.map f) = srtD (m.map f) := by
  rw [srtD_map, srtD_map]
  congr 1
  refine sort_uniq (r := fun x y => (!dLt (f y) (f x)) = true) (fun a b h1 h2 => ?_) ((List.mergeSort_perm l _).trans (p.trans (List.mergeSort_perm m _).symm)) ?_ ?_
  · exact (N.inj b a (dLt_tri (N.ok b) (N.ok a) (N.al b a) (by simpa using h1) (by simpa using h2))).symm
  · exact List.pairwise_mergeSort (le := fun x y => !dLt (f y) (f x)) (fun a b c h1 h2 => dLe_trans h1 h2) (fun a b => dLe_total (f a) (f b)) l
  · exact List.pairwise_mergeSort (le := fun x y => !dLt (f y) (f x)) (fun a b c h1 h2 => dLe_trans h1 h2) (fun a b => dLe_total (f a) (f b)) m
theorem named_rw : Named rwD := by
  refine ⟨fun r => ?_, fun a b => ?_, fun a b h => ?_⟩
  · have e1 : PyData.strOk "met" = true := by decide +kernel
    have e2 : PyData.strOk "lost" = true := by decide +kernel
    unfold rwD plD wdD
    simp only [okD, List.all_cons, List.all_nil, Bool.and_true, Bool.true_and]
    cases r.met
    · exact e2
    · exact e1
  · unfold rwD plD wdD
    cases a.met <;> cases b.met <;> rfl
  · unfold rwD at h
    simp only [eqD, eqL, plD, Bool.and_true, Bool.and_eq_true, beq_iff_eq] at h
    obtain ⟨⟨h1, h2⟩, h3, h4, h5⟩ := h
    have hw : a.met = b.met := by
      have e1 : eqD (.str "met") (.str "lost") = false := by decide +kernel
      have e2 : eqD (.str "lost") (.str "met") = false := by decide +kernel
      unfold wdD at h3
      cases ha : a.met <;> cases hb : b.met <;> simp only [ha, hb, Bool.false_eq_true, if_false, if_true] at h3 <;> first | rfl | (rw [e1] at h3; cases h3) | (rw [e2] at h3; cases h3)
    cases a
    cases b
    simp only at *
    congr 1
    exact Prod.ext h1 h2
/-- sorted of rows can be told -/
theorem rows_sortable {α : Type} {f : α → D} (N : Named f) (ht : ∀ a, ∃ x r, pd (f a) = .tuple (x :: r)) (l : List α) : (l.map f).all (okD 8) = true ∧ AllAlike ((l.map f).map pd) ∧ Sortable ((l.map f).map pd) := by
  refine ⟨?_, ?_, .inl ?_⟩
  · rw [List.all_map, List.all_eq_true]
    exact fun x _ => N.ok x
  · intro x hx y hy
    rw [List.map_map, List.mem_map] at hx hy
    obtain ⟨a, _, rfl⟩ := hx
    obtain ⟨b, _, rfl⟩ := hy
    exact N.al a b
  · intro x hx
    rw [List.map_map, List.mem_map] at hx
    obtain ⟨a, _, rfl⟩ := hx
    exact ht a
theorem pd_rw (r : Rw) : ∃ x t, pd (rwD r) = .tuple (x :: t) := ⟨_, _, rfl⟩
theorem aSrtH_rows {S : Sto} {rs : List Rw} {Q : AK} (hl : rs.length ≤ 1000000) (h : ∀ p, S p = none → Q (.ref p) (put S p (.lst (srtD (rs.map rwD))))) : aSrtH [rwsD rs] S Q := by
  obtain ⟨h1, h2, h3⟩ := rows_sortable named_rw pd_rw rs
  unfold aSrtH rwsD
  exact ⟨h1, h2, h3, by rw [List.length_map]; exact Nat.le_trans hl (by decide), h⟩
theorem aSrtH_lst {S : Sto} {a : Addr} {rs : List Rw} {Q : AK} (e : S a = some (.lst (rs.map rwD))) (hl : rs.length ≤ 1000000) (h : ∀ p, S p = none → Q (.ref p) (put S p (.lst (srtD (rs.map rwD))))) : aSrtH [.ref a] S Q := by
  obtain ⟨h1, h2, h3⟩ := rows_sortable named_rw pd_rw rs
  unfold aSrtH aSrtG
  simp only [e]
  exact ⟨h1, h2, h3, by rw [List.length_map]; exact Nat.le_trans hl (by decide), h⟩
end Ab
set_option Elab.async false
set_option linter.all false
set_option maxRecDepth 100000
set_option maxHeartbeats 4000000
/-! ### tuples known as they were made (no dict of their own), for dict(tuple of pairs) -/
namespace Ab
open PySem PySem.Spec PyProof.Rows L2
section
variable {X : Cx}
def rCtup (K : PySem.W.Frag) : List V → Hp → VK → Prop := fun xs H Q => ∃ p ys, xs = [.ref p] ∧ SqL K H p ys ∧ ∀ (l : Addr) (o : Obj), H l = none → o.dict = none → Q (.ref l) (upd H l (.frz o (.tup ys)))
theorem call_ctuple : CallR X (.type "tuple") (rCtup X.K) := by
  intro pins s σ H xs us Q I r h
  obtain ⟨p, ys, rfl, hq, q⟩ := h
  obtain ⟨u, rfl, rx⟩ := vals1 r
  cases rx
  obtain ⟨its, r', pl, hz⟩ := I.list hq
  have hlen := r'.length
  refine call_tuple_list pl.isList (fun h' kp => ?_) (by simp only [List.size_toArray] <;> omega)
  have I1 : Inv X pins σ H { s with heap := h' } := I.kept (t' := s.toks) kp
  have I2 : Inv X pins σ (upd H h'.objs.size (.frz { cls := .type "tuple", data := .seq its.toArray } (.tup ys))) { s with heap := h'.push { cls := .type "tuple", data := .seq its.toArray } } :=
    I1.laid (t' := s.toks) (fun b o e => Heap.get?_push_of_some _ e) (Nat.le_refl _) ⟨Heap.get?_push_size _ rfl, hz, its, r', IsTup.new _ _⟩
  exact ⟨.ref h'.objs.size, _, I2, rfl, q _ _ (I1.hok.fresh (Nat.le_refl _)) rfl⟩
def rDictCT (K : PySem.W.Frag) : List V → Hp → VK → Prop := fun xs H Q => ∃ (a : Addr) (o : Obj) (ps : List Addr) (kvs : List (L2.Key × V)), xs = [.ref a] ∧ H a = some (.frz o (.tup (ps.map V.ref))) ∧ o.dict = none ∧ Paired (fun p kv => SqT K H p [kV kv.1, kv.2]) ps kvs ∧
  ∀ p, H p = none → Q (.ref p) (upd H p (.dK (mergeK [] kvs)))
theorem call_dictCT (hcalm : X.calm = true) : CallR X (.type "dict") (rDictCT X.K) := by
  intro pins s σ H xs us Q I r q
  obtain ⟨a, o, ps, kvs, ex, hq, hdn, hp, q⟩ := q
  subst ex
  obtain ⟨u, eu, rx⟩ := vals1 r
  subst eu
  cases rx
  obtain ⟨ho, hz, its, rv, o', ho', hc, n, hdat⟩ := I.hok a _ hq
  rw [ho] at ho'
  cases ho'
  have ei := L2.refs_at rv
  subst ei
  rw [List.length_map] at hz
  obtain ⟨prs, rel, hl, hpr⟩ := L2.pairs_of I hp
  -- the keys as values
  have kvl : ∀ (j : Nat) (q : L2.Key × Value), prs[j]? = some q → ∃ (b : Addr) (u : Value), ps[j]? = some b ∧ IsTup s.heap b #[u, q.2] ∧ keyIs q.1 u = true := hpr
  classical
  have hE : ∀ j : Nat, ∃ u : Value, ∀ q, prs[j]? = some q → ∃ b, ps[j]? = some b ∧ IsTup s.heap b #[u, q.2] ∧ keyIs q.1 u = true := fun j => by
    cases e : prs[j]? with
    | none => exact ⟨.none, fun q h => (nomatch h)⟩
    | some q0 =>
      obtain ⟨b, u, h1, h2, h3⟩ := kvl j q0 e
      exact ⟨u, fun q h => by cases h; exact ⟨b, h1, h2, h3⟩⟩
  let ku : Nat → Value := fun j => (hE j).choose
  let pv : List (Value × Value) := (List.range prs.length).map fun j => (ku j, ((prs[j]?).map (·.2)).getD .none)
  let Ts : Nat → Addr := fun j => (ps[j]?).getD 0
  have ku_is : ∀ (j : Nat) (q : L2.Key × Value), prs[j]? = some q → ps[j]? = some (Ts j) ∧ IsTup s.heap (Ts j) #[ku j, q.2] ∧ keyIs q.1 (ku j) = true := fun j q e => by
    obtain ⟨b, h1, h2, h3⟩ := (hE j).choose_spec q e
    have e4 : Ts j = b := by show (ps[j]?).getD 0 = _; rw [h1]; rfl
    rw [e4]
    exact ⟨h1, h2, h3⟩
  have pvat : ∀ (j : Nat) (k v : Value), pv[j]? = some (k, v) → ∃ q, prs[j]? = some q ∧ k = ku j ∧ v = q.2 := fun j k v e => by
    simp only [pv, List.getElem?_map, Option.map_eq_some_iff] at e
    obtain ⟨i, e1, e2⟩ := e
    have hj : j < prs.length := by have := (List.getElem?_eq_some_iff.mp e1).1; simpa using this
    rw [List.getElem?_eq_getElem (by simpa using hj)] at e1
    have ij : i = j := by simpa using e1.symm
    subst ij
    cases e2
    exact ⟨prs[i], List.getElem?_eq_getElem hj, rfl, by rw [List.getElem?_eq_getElem hj]; rfl⟩
  have hlp : pv.length = prs.length := by simp [pv]
  have okA : PlainSeq "tuple" s.heap a (ps.map Value.ref).toArray ∧ PairItems s.heap (ps.map Value.ref).toArray Ts pv := by
    refine ⟨⟨o, n, ho, hc, hdn, hdat⟩, by simp [hlp, hl], fun j k v e => ?_⟩
    obtain ⟨q, e1, rfl, rfl⟩ := pvat j k v e
    obtain ⟨h1, h2, h3⟩ := ku_is j q e1
    refine ⟨by simp [h1], .inl ?_⟩
    obtain ⟨o', g1, g2, n', g3⟩ := h2
    exact ⟨o', g1, g2, n', g3⟩
  refine PySem.call_dict_pairs (knd := mixKind X.prog X.w) (kvs := prs) (PairArg.tuple a _ Ts pv) (I.ok.hd hcalm) okA ⟨by rw [hlp], fun i key v e => ?_⟩ (by rw [hlp, hl]; exact hz) fun h' tk hd' k => ?_
  · obtain ⟨q, e1, rfl, rfl⟩ := pvat i key v e
    exact ⟨q.1, e1, (ku_is i q e1).2.2⟩
  · have hm : (s.heap.objs.size == sysModules) = false := beq_eq_false_iff_ne.mpr (Nat.ne_of_gt I.big)
    have hlen : (mergeK [] kvs).length ≤ sizeLine := by
      refine Nat.le_trans (length_mergeK kvs []) ?_
      rw [List.length_nil, Nat.zero_add, rel.length, hl]
      exact hz
    exact ⟨.ref s.heap.objs.size, upd H s.heap.objs.size (.dK (mergeK [] kvs)), I.laid (t' := tk) (fun b o e => k b o (by simp) e) (Nat.le_refl _) (show ObjOk X.prog X.w _ _ _ (.dK (mergeK [] kvs)) from ⟨hlen, hm, merged [] prs, KV.merge rel .nil, hd'⟩), rfl, q _ (I.hok.fresh (Nat.le_refl _))⟩
end
def aCtup : WRL := fun ds S Q => (match ds with
  | [.ref a] => (match S a with
    | some (.lst xs) => ∀ p, S p = none → Q (.ref p) (put S p (.ctup xs))
    | _ => False)
  | _ => False)
theorem sim_ctup {K : PySem.W.Frag} : SimL K (rCtup K) aCtup := fun xs ds H S QA Q p r a k => by
  match ds, a, p with
  | [.ref t], a, p =>
    obtain ⟨v, rfl, pv⟩ := repL1 p
    unfold RepV at pv
    subst pv
    unfold aCtup at a
    cases e : S t with
    | none => simp [e] at a
    | some o =>
      cases o with
      | lst xs =>
        simp only [e] at a
        obtain ⟨vs, g1, g2⟩ := r t _ e
        exact ⟨t, vs, rfl, .inl (.inl g1), fun l o nl hd => k _ _ _ _ (a l (r.free nl)) (Le.new nl) (r.newP (o := .ctup xs) nl ⟨o, vs, upd_same, hd, g2.le (Le.new nl)⟩) (rep_ref _)⟩
      | _ => simp [e] at a
def aDictCT : WRL := fun ds S Q => (match ds with
  | [.ref a] => (match S a with
    | some (.ctup xs) => ∃ kvs : List (Int × D), xs = kvs.map (fun kv => D.tup [.int kv.1, kv.2]) ∧ ∀ p, S p = none → Q (.ref p) (put S p (.dK (mergeA kvs)))
    | _ => False)
  | _ => False)
theorem sim_dictCT {K : PySem.W.Frag} : SimL K (rDictCT K) aDictCT := fun xs ds H S QA Q p r a k => by
  match ds, a, p with
  | [.ref l], a, p =>
    obtain ⟨v, rfl, pv⟩ := repL1 p
    unfold RepV at pv
    subst pv
    unfold aDictCT at a
    cases e : S l with
    | none => simp [e] at a
    | some o =>
      cases o with
      | ctup zs =>
        simp only [e] at a
        obtain ⟨kvs, rfl, h⟩ := a
        obtain ⟨ob, vs, g1, gd, g2⟩ := r l _ e
        obtain ⟨ps, us, rfl, e2, e3⟩ := Ab.pairs_of g2
        refine ⟨l, ob, ps, us, rfl, g1, gd, e2, fun q hq => ?_⟩
        have L : Le H (upd H q (.dK (mergeK [] us))) := Le.new hq
        exact k _ _ _ _ (h q (r.free hq)) L (r.newP (o := .dK (mergeA kvs)) hq ⟨_, upd_same, (merge_rep e3 (show RepK K H [] [] from rfl)).le L⟩) (rep_ref _)
      | _ => simp [e] at a
end Ab
namespace Ab
open PySem PySem.Spec PyProof.Rows L2
/-- a loop over a dict that may be locked already -/
def wLockO (w : WS) : WS := fun A ρ S => wLockS w A ρ S ∨ w A ρ S
section
variable {X : Cx} {W : WX} {st : Stmt} {w : WS}
theorem rs_lockO (h : RS X W st w) : RS X W st (wLockO w) := ⟨fun pins s σ H D I q => by
  obtain ⟨ρ, S, A, rs, rp, q, k⟩ := q
  rcases q with q | q
  · exact (rs_lock h).run pins s σ H D I ⟨ρ, S, A, rs, rp, q, k⟩
  · exact h.run pins s σ H D I ⟨ρ, S, A, rs, rp, q, k⟩⟩
end
end Ab
set_option Elab.async false
set_option linter.all false
set_option maxRecDepth 100000
set_option maxHeartbeats 4000000
/-! ### xs[::-1] of a list -/
namespace Ab
open PySem PySem.Spec PyProof.Rows L2
/-- l[::-1] of a list -/
def wRevL (w : WE) : WE := fun ρ S Q E => w ρ S (fun x S1 => (match x with
  | .ref a => (match S1 a with
    | some (.lst xs) => ∀ p, S1 p = none → Q (.ref p) (put S1 p (.lst xs.reverse))
    | _ => False)
  | _ => False)) E
section
variable {X : Cx} {W : WX} {e : Expr} {we : WE} {k : Nat} {p1 p2 p3 pos : Pos}
theorem re_revL (he : RE X W e we) : RE X W (.Subscript e (.Slice none none (some (.UnaryOp .USub (.Constant (.int 1) k p1) p2)) p3) pos) (wRevL we) :=
  pe_imp (pe_revL he) fun σ H Q ⟨ρ, S, QA, EA, rs, rp, h, k, x⟩ => ⟨ρ, S, _, EA, rs, rp, h, fun d S1 v H1 h1 l1 r1 p1 => by
    cases d with
    | ref a =>
      unfold RepV at p1
      subst p1
      cases e1 : S1 a with
      | none => simp [e1] at h1
      | some o =>
        cases o with
        | lst xs =>
          simp only [e1] at h1
          obtain ⟨vs, g1, g2⟩ := r1 a _ e1
          exact ⟨a, vs, rfl, .inl (.inl g1), fun p np => k _ _ _ _ (h1 p (r1.free np)) (l1.trans (Le.new np)) (r1.newP (o := .lst xs.reverse) np ⟨_, upd_same, (RepL.rev g2).le (Le.new np)⟩) (rep_ref _)⟩
        | _ => simp [e1] at h1
    | _ => exact (show False from h1).elim, x⟩
end
end Ab
set_option Elab.async false
set_option linter.all false
set_option maxRecDepth 100000
set_option maxHeartbeats 4000000
/-! ### clean tuples: displays, t + u -/
namespace L2
open PySem PySem.Spec PyProof.Rows
section
variable {X : Cx}
def tTupC (t : TA) : TE := fun σ H Q => t σ H fun xs H1 => xs.length ≤ sizeLine ∧ ∀ (p : Addr) (o : Obj), H1 p = none → o.dict = none → Q (.ref p) (upd H1 p (.frz o (.tup xs)))
theorem pe_tupC {es : List Expr} {t : TA} {pos : Pos} {x1} (h : PA X es t) : PE X (.Tuple es x1 pos) (tTupC t) := by
  refine ⟨fun pins s σ H Q I hq => ?_⟩
  refine wpAny_Tuple_spliced (thn (h.run pos pins s σ H _ I hq) fun us s1 ⟨xs, H1, I1, r, z, q⟩ => ⟨by rw [← r.length]; exact z, ?_⟩)
  have hf : H1 s1.heap.objs.size = none := I1.hok.fresh (Nat.le_refl _)
  refine ⟨.ref s1.heap.objs.size, upd H1 s1.heap.objs.size (.frz { cls := .type "tuple", data := .seq us.toArray } (.tup xs)), I1.laid (t' := s1.toks) (fun b u e => Heap.get?_push_of_some _ e) (Nat.le_refl _) ?_, rfl, q _ _ hf rfl⟩
  exact ⟨Heap.get?_push_size _ rfl, z, us, r, ⟨_, Heap.get?_push_size _ rfl, rfl, _, rfl⟩⟩
/-- t + u, u not empty: what comes of it is u itself, or new -/
def rCatC (K : PySem.W.Frag) : R2 := fun x y H Q => ∃ a b xs ys, x = .ref a ∧ y = .ref b ∧ SqT K H a xs ∧ SqT K H b ys ∧ ys ≠ [] ∧ xs.length + ys.length ≤ sizeLine ∧
  (xs = [] → Q (.ref b) H) ∧ (xs ≠ [] → ∀ (p : Addr) (o : Obj), H p = none → o.dict = none → Q (.ref p) (upd H p (.frz o (.tup (xs ++ ys)))))
theorem op_catC : OpR X (binaryOp .Add) (rCatC X.K) := by
  intro pins s σ H x y v u Q I rx ry h
  obtain ⟨a, b, xs, ys, rfl, rfl, ha, hb, hy, hz, q0, q2⟩ := h
  cases rx
  cases ry
  obtain ⟨its, r1, p1, _⟩ := I.tuple ha
  obtain ⟨its2, r2, p2, _⟩ := I.tuple hb
  by_cases hx : xs = []
  · subst hx
    cases r1
    exact cat_tup0 p1 p2 ⟨.ref b, H, I, rfl, q0 rfl⟩
  · refine HT.cat_tup p1 p2 (fun z => hx (r1.nil_iff.mp z)) (fun z => absurd (r2.nil_iff.mp z) hy) (fun z => ?_) (by rw [← r1.length, ← r2.length]; exact hz)
    refine ⟨.ref s.heap.objs.size, _, I.laid (t' := s.toks) (o := .frz { cls := .type "tuple", data := .seq (its ++ its2).toArray } (.tup (xs ++ ys))) (fun b ob q => Heap.get?_push_of_some _ q) (Nat.le_refl _) ?_, rfl, q2 hx _ _ (I.hok.fresh (Nat.le_refl _)) rfl⟩
    exact ⟨Heap.get?_push_size _ rfl, by rw [List.length_append]; exact hz, _, r1.append r2, IsTup.new _ _⟩
end
end L2
namespace Ab
open PySem PySem.Spec PyProof.Rows L2
/-- (a, b, ..): a clean tuple -/
def wTupC (w : WA) : WE := fun ρ S Q E => w ρ S (fun ds S1 => ds.length ≤ sizeLine ∧ ∀ p, S1 p = none → Q (.ref p) (put S1 p (.ctup ds))) E
def aCatC : WR2 := fun x y S Q => (match x, y with
  | .ref a, .ref b => (match S a, S b with
    | some (.ctup xs), some (.ctup ys) => ys ≠ [] ∧ xs.length + ys.length ≤ sizeLine ∧ (xs = [] → Q (.ref b) S) ∧ (xs ≠ [] → ∀ p, S p = none → Q (.ref p) (put S p (.ctup (xs ++ ys))))
    | _, _ => False)
  | _, _ => False)
section
variable {X : Cx} {W : WX} {e a b : Expr} {es : List Expr} {we wa wb : WE} {wr : WA} {pos : Pos}
theorem re_tupC {x1} (h : RA X W es wr) : RE X W (.Tuple es x1 pos) (wTupC wr) :=
  pe_imp (pe_tupC h) fun σ H Q ⟨ρ, S, QA, EA, rs, rp, h, k, x⟩ => ⟨ρ, S, _, EA, rs, rp, h, fun ds S1 vs H1 h1 l1 r1 p1 => ⟨by rw [p1.length]; exact h1.1, fun p o np hd => k _ _ _ _ (h1.2 p (r1.free np)) (l1.trans (Le.new np)) (r1.newP (o := .ctup ds) np ⟨o, vs, upd_same, hd, p1.le (Le.new np)⟩) (rep_ref _)⟩, x⟩
theorem sim_catC {K : PySem.W.Frag} : Sim2 K (rCatC K) aCatC := fun x y dx dy H S QA Q p q r a k => by
  cases dx with
  | ref l =>
    cases dy with
    | ref m =>
      unfold RepV at p q
      subst p q
      unfold aCatC at a
      cases e1 : S l with
      | none => simp [e1] at a
      | some o1 =>
        cases o1 with
        | ctup xs =>
          cases e2 : S m with
          | none => simp [e1, e2] at a
          | some o2 =>
            cases o2 with
            | ctup ys =>
              simp only [e1, e2] at a
              obtain ⟨hy, hz, q0, q2⟩ := a
              obtain ⟨ob, vs, g1, gd, g2⟩ := r l _ e1
              obtain ⟨ob2, vs2, g3, gd2, g4⟩ := r m _ e2
              have n1 : vs = [] ↔ xs = [] := g2.ne_nil
              have n2 : vs2 = [] ↔ ys = [] := g4.ne_nil
              refine ⟨l, m, vs, vs2, rfl, rfl, .inl (.inr ⟨ob, g1⟩), .inl (.inr ⟨ob2, g3⟩), fun z => hy (n2.mp z), by rw [g2.length, g4.length]; exact hz, fun z => k _ _ _ _ (q0 (n1.mp z)) (Le.refl H) r (rep_ref _), fun z p o np hd => ?_⟩
              have L := Le.new (o := .frz o (.tup (vs ++ vs2))) np
              exact k _ _ _ _ (q2 (fun w => z (n1.mpr w)) p (r.free np)) L (r.newP (o := .ctup (xs ++ ys)) np ⟨o, _, upd_same, hd, (g2.append g4).le L⟩) (rep_ref _)
            | _ => simp [e1, e2] at a
        | _ => simp [e1] at a
    | _ => exact (show False from a).elim
  | _ => exact (show False from a).elim
theorem re_catC (ha : RE X W a wa) (hb : RE X W b wb) : RE X W (.BinOp a .Add b pos) (wOp aCatC wa wb) := re_op op_catC sim_catC ha hb
end
end Ab
set_option Elab.async false
set_option linter.all false
set_option maxRecDepth 100000
set_option maxHeartbeats 4000000
/-! ### a clean tuple taken for a plain one -/
namespace Ab
open PySem PySem.Spec PyProof.Rows L2
theorem notst' {K : PySem.W.Frag} {v : Value} (h : PySem.W.nsIn K mainGlobals "START" = some (some v)) : ¬ NoSt K := fun z => by
  unfold NoSt at z
  rw [z] at h
  cases h
def wUnC (w : WE) : WE := fun ρ S Q E => w ρ S (fun d S1 => (match d with
  | .ref a => (match S1 a with
    | some (.ctup xs) => Q (.tup xs) S1
    | _ => False)
  | _ => False)) E
section
variable {X : Cx} {W : WX} {e : Expr} {w : WE}
theorem re_unC (hs : ¬ NoSt X.K) (h : RE X W e w) : RE X W e (wUnC w) := pe_imp h fun σ H Q ⟨ρ, S, QA, EA, rs, rp, h, k, x⟩ => ⟨ρ, S, _, EA, rs, rp, h, fun d S1 v H1 h1 l1 r1 p1 => by
  cases d with
  | ref a =>
    unfold RepV at p1
    subst p1
    cases e : S1 a with
    | none => simp [e] at h1
    | some o =>
      cases o with
      | ctup xs =>
        simp only [e] at h1
        obtain ⟨o, vs, g1, g2, g3⟩ := r1 a _ e
        refine k _ S1 _ H1 h1 l1 r1 ?_
        unfold RepV
        exact ⟨a, vs, rfl, .inr (.inr ⟨hs, o, g1⟩), g3⟩
      | _ => simp [e] at h1
  | _ => exact (show False from h1).elim, x⟩
end
end Ab
set_option Elab.async false
set_option linter.all false
set_option maxRecDepth 100000
set_option maxHeartbeats 4000000
/-! ### sorted(.., key=lambda x: x[2:]) -/
namespace Ab
open PySem PySem.Spec PyProof.Rows L2 PySem.W
abbrev lamPar (x : Str) (p : Pos) : Arguments := { posonlyargs := [], args := [{ arg := x, annotation := none, pos := p }], vararg := none, kwonlyargs := [], kw_defaults := [], kwarg := none, defaults := [] }
abbrev lamSc (x : Str) : Scope := { kind := .function, names := [(x, .local)], isGenerator := false, isCoroutine := false, more := [] }
abbrev lamBody (x : Str) (j : Nat) (p1 p2 p3 p4 : Pos) : Expr := .Subscript (.Name x p1) (.Slice (some (.Constant (.int 2) j p2)) none none p3) p4
section
variable {prog : Program} {w : World} {A : Around} {E : Value → Shared → Prop} {s : Shared} {x : Str} {j : Nat} {p0 p1 p2 p3 p4 : Pos} {q : Str} {pm ctv : Value} {f c' t : Addr} {items : Array Value} {Q : Value → Shared → Prop}
/-- the body, in the frame where x is the tuple at t -/
theorem lam_body {env : Env} {m : Str → Option Value} (hk : env.scope.kind = .function) (hl : env.kindOf x = some .local) (hn : s.heap.Ns env.locals m) (hv : m x = some (.ref t)) (hd : (x == ("__debug__" : Str)) = false) (ht : IsTup s.heap t items) (h2 : 2 ≤ items.size) (hz : items.size ≤ sizeLine)
    (h : ∀ h' tk a, (∀ b o, s.heap.get? b = some o → h'.get? b = some o) → IsTup h' a (items.toList.drop 2).toArray → Q (.ref a) { s with heap := h', toks := tk }) :
    wpAny (model prog w) A (eval (lamBody x j p1 p2 p3 p4) env) Q E s := by
  refine Subscript_ (wpAny_Name (wpAny_loadName_local hk hl hn hv ?_) hd)
  refine wpAny_Slice ?_
  rw [evalPart_some]
  refine wpAny_Constant_int ?_
  rw [evalPart_none]
  refine wpAny_pure (wpAny_pure ?_)
  have k1 : ∀ b o, s.heap.get? b = some o → (s.heap.push { cls := .type "slice", data := .fields #[.int 2 s.toks, .none, .none] }).get? b = some o := fun b o e => Heap.get?_push_of_some _ e
  have ht' := ht.keeps k1
  refine tail_any (ops := [.ref s.heap.objs.size, .ref t]) ht'.typeIs PyProof.Rows.slot_tuple_getitem.lookup (getItem_tuple_from (a := 2) ht' (Heap.IsSliceOf.new ..) (by decide) h2 ?_ hz) (by with_unfolding_all rfl)
  exact h _ _ _ (fun b o e => Heap.get?_push_of_some _ (k1 b o e)) (IsTup.new _ _)
theorem lam_bind {x : Str} {p0 : Pos} {v : Value} {fd : FuncData} (h : fd.params = lamPar x p0) (hd : fd.defaults = .none) (hk : fd.kwdefaults = .none) : bindArgs fd ⟨[v], []⟩ = pure [(x, v)] := by
  cases fd
  simp only at h hd hk
  subst h hd hk
  simp [bindArgs, seqItems?]
  rfl
theorem lam_call (hroom : A.depth < recursionLimit) (hlim : s.heap.NoLimit) (hf : s.heap.get? f = some (kla_obj "<lambda>" q (lamPar x p0) (lamBody x j p1 p2 p3 p4) (lamSc x) [] pm c' ctv)) (hc : s.heap.CodeRec (.ref c') q) (hd : (x == ("__debug__" : Str)) = false)
    (ht : IsTup s.heap t items) (h2 : 2 ≤ items.size) (hz : items.size ≤ sizeLine)
    (h : ∀ h' tk a, (∀ b o, s.heap.get? b = some o → h'.get? b = some o) → IsTup h' a (items.toList.drop 2).toArray → Q (.ref a) { s with heap := h', toks := tk }) :
    wpAny (model prog w) A (call (.ref f) [.ref t]) Q E s := by
  refine wpAny_call (kla_callFunE hroom hf rfl rfl rfl rfl hc ?_)
  rw [lam_bind (x := x) (p0 := p0) rfl rfl rfl]
  refine wpAny_pure (wpAny_newFunctionEnv (fun y hy => ?_) (fun y hy => ?_) (fun h₁ hns hsb => ⟨hlim.fresh _ hsb, ?_⟩) rfl)
  · have : y = (x, NameKind.local) := by simpa using hy
    rw [this]; simp
  · have : y = (x, Value.ref t) := by simpa using hy
    rw [this]; simp [lamSc]
  · have kp : ∀ b o, s.heap.get? b = some o → h₁.get? b = some o := fun b o e => hsb.extBut b o (Nat.ne_of_lt (Heap.lt_size e)) (Heap.get?_push_of_some _ e)
    refine kla_codeExpr ?_
    refine lam_body (t := t) (items := items) rfl ?_ hns ?_ hd (ht.keeps kp) h2 hz fun h' tk a k r => h h' tk a (fun b o e => k b o (kp b o e)) r
    · show List.lookup x [(x, NameKind.local)] = some NameKind.local
      simp
    · simp
end

/-! sorted of a list, of a tuple, by keys that a call gives -/
section
variable {prog : Program} {w : World} {A : Around} {E : Value → Shared → Prop} {s : Shared} {β : Type} {vs : List Value} {bs : List β} {R : Value → β → Prop}
theorem sorted_kwT {l : Addr} {kw : List (Str × Value)} {Q : Value → Shared → Prop} (hl : IsTup s.heap l vs.toArray) (hL : vs.length ≤ sizeLine) (ha1 : argsOk "sorted" ⟨[.ref l], kw⟩) (ha2 : ∀ x, argsOk "list.sort" ⟨[.ref x], kw⟩)
    (body : ∀ E' : Value → Shared → Prop, wpAny (model prog w) A.in1.in1 (Builtin.«list.sort» ⟨[.ref (s.heap.objs.size + 1)], kw⟩) (fun f s' => f = .done (.ret .none) ∧ Q (.ref (s.heap.objs.size + 1)) s') E' { s with heap := copyHeap s.heap vs }) :
    wpAny (model prog w) A (call (.builtin "sorted") [.ref l] kw) Q E s := by
  have hsz : ((s.heap.push (seqObj "list" #[] 0)).update s.heap.objs.size (Obj.mapSeq (· ++ vs.toArray))).objs.size = s.heap.objs.size + 1 := by rw [Heap.size_update, size_push']
  refine call_function_entry_kw kind_sorted plain_sorted entry_sorted ha1 ?_
  unfold Builtin.«sorted»
  refine wpAny_bind (m := checkCount "sorted" 1 1 _) (wpAny_pure (wpAny_bind (SrtO.collect_tup hl (wpAny_bind (wpAny_newList ?_ hL)) hL)))
  show wpAny (model prog w) _ _ _ _ { s with heap := copyHeap s.heap vs }
  rw [hsz]
  refine wpAny_bind (wpAny_holding (wpAny_call_entry_kw slot_list_sort ⟨_, copyHeap_at s.heap vs, rfl⟩ entry_list_sort (wpAny_mono (body _) (fun f s' hf => ?_) fun _ _ e => e) (ha2 _)))
  obtain ⟨rfl, hq⟩ := hf
  exact ⟨_, rfl, wpAny_pure ⟨_, rfl, hq⟩⟩
theorem sorted_keyT {l f : Addr} {Q : Value → Shared → Prop} (k : β → PyData) (hl : IsTup s.heap l vs.toArray) (e : EachIs R vs bs) (hal : AllAlike (bs.map k)) (hk : Sortable (bs.map k)) (hL : bs.length ≤ sizeLine) (hu : ∀ x, x ∈ bs → A.units + 2 + (k x).depth < cLine)
    (turn : ∀ (v : Value) (x : β), R v x → x ∈ bs → ∀ (h : Heap) (tk : Nat), (∀ b o, s.heap.get? b = some o → h.get? b = some o) →
      wpAny (model prog w) A.in1.in1 (call (.ref f) [v]) (KeyPure (k x) { s with heap := h, toks := tk }) (fun _ _ => False) { s with heap := h, toks := tk })
    (h : ∀ out c h' tk, (∀ b o, s.heap.get? b = some o → h'.get? b = some o) → s.heap.get? (s.heap.objs.size + 1) = none → h'.get? (s.heap.objs.size + 1) = some (seqObj "list" (List.toArray out) c) → out.length = bs.length → EachIs R out (bs.mergeSort (dataLe false k)) →
      Q (.ref (s.heap.objs.size + 1)) { s with heap := h', toks := tk }) :
    wpAny (model prog w) A (call (.builtin "sorted") [.ref l] [(Str.ofString "key", .ref f)]) Q E s := by
  have hv : vs.length ≤ sizeLine := by rw [e.length]; exact hL
  have nw : s.heap.get? (s.heap.objs.size + 1) = none := Heap.get?_none_of_le (Nat.le_succ _)
  have old : ∀ {g : Heap}, KeepsBut (s.heap.objs.size + 1) (copyHeap s.heap vs) g → ∀ b o, s.heap.get? b = some o → g.get? b = some o := fun kp b o q =>
    kp b o (fun z => by rw [z, nw] at q; cases q) (copyHeap_old q)
  have len : (bs.map k).length = vs.length := by rw [List.length_map]; exact e.length.symm
  refine sorted_kwT hl hv (ksk_s1 _ _) (fun _ => ksk_l1 _ _) fun E' => ?_
  rw [ksk_t1]
  refine keyH_tree (s := { s with heap := copyHeap s.heap vs }) (kz := bs.map k) (copyHeap_at s.heap vs) len hv hal hk (bound_map (A := A.in1.in1) hu) (keyH_turns (s := { s with heap := copyHeap s.heap vs }) e fun v x r m g tk kp => turn v x r m g tk (old kp)) fun g tk out c kp at_ ko => ⟨rfl, ?_⟩
  exact h out c g tk (old kp) nw at_ ((ko.length len).trans e.length) (keyedOut_each k ko e)
end

/-! the rule, by values -/
def kyD (b : V × (Int × Int)) : PyData := pd (plD b.2)
theorem kyD_eq (b : V × (Int × Int)) : kyD b = .tuple [.int b.2.1, .int b.2.2] := by
  unfold kyD plD
  simp [pd, pdL]
def leK {α : Type} (x y : α × (Int × Int)) : Bool := !dLt (plD y.2) (plD x.2)
def rLam (K : PySem.W.Frag) (P : Addr) (q : Str) : V → Hp → VK → Prop := fun v H1 Q => LamX.Tabs [(P, q)] H1 ∧ ∃ (a : Addr) (bs : List (V × (Int × Int))), v = .ref a ∧ (SqL K H1 a (bs.map (·.1)) ∨ SqT K H1 a (bs.map (·.1))) ∧ bs.length ≤ sizeLine ∧
  (∀ b ∈ bs, ∃ t xs, b.1 = .ref t ∧ SqT K H1 t xs ∧ xs.drop 2 = [.int b.2.1, .int b.2.2]) ∧ ∀ H2, LamX.ExtN H1 H2 → LamX.Tabs [(P, q)] H2 → ∀ p, H2 p = none → Q (.ref p) (upd H2 p (.lst ((bs.mergeSort leK).map (·.1))))
theorem sqL_ext {K : PySem.W.Frag} {H H' : Hp} {a : Addr} {xs : List V} (e : LamX.ExtN H H') (h : SqL K H a xs) : SqL K H' a xs := by
  rcases h with (h | ⟨o, h⟩) | h
  · exact .inl (.inl (e _ _ h (fun ps z => by cases z)))
  · exact .inl (.inr ⟨o, e _ _ h (fun ps z => by cases z)⟩)
  · exact .inr h
theorem sqT_ext {K : PySem.W.Frag} {H H' : Hp} {a : Addr} {xs : List V} (e : LamX.ExtN H H') (h : SqT K H a xs) : SqT K H' a xs := by
  rcases h with (h | ⟨o, h⟩) | h
  · exact .inl (.inl (e _ _ h (fun ps z => by cases z)))
  · exact .inl (.inr ⟨o, e _ _ h (fun ps z => by cases z)⟩)
  · exact .inr h
theorem each_valsA {α : Type} : ∀ {bs : List (V × α)} {us : List Value}, Vals (bs.map (·.1)) us → EachIs (fun u b => RelV b.1 u) us bs
  | [], _, h => by cases h; exact .nil
  | b :: bs, _, h => by
    cases h with
    | cons r t => exact .cons r (each_valsA t)
theorem vals_eachA {α : Type} : ∀ {bs : List (V × α)} {us : List Value}, EachIs (fun u b => RelV b.1 u) us bs → Vals (bs.map (·.1)) us
  | [], _, h => by cases h; exact .nil
  | b :: bs, _, h => by
    cases h with
    | cons r t => exact .cons r (vals_eachA t)
section
variable {X : Cx} {e : Expr} {te : TE} {x : Str} {j k : Nat} {c P : Addr} {p pos q0 p1 p2 p3 p4 lp kp : Pos}
theorem pe_sortLam (he : PE X e te) (hr : Room k X.A) (hu : X.A.units + 100 < cLine) (hg : Gl X "sorted") (hm : X.mg "sorted" = none) (hv : bootBuiltins "sorted" = some (.builtin "sorted")) (TB : LamX.TabB X.base X.mg c P) (hcode : X.env.code = .ref c)
    (hd : (x == ("__debug__" : Str)) = false) (hdef : defaultsOf (lamPar x q0) X.env = ([], []) := by rfl)
    (hs : backTo pos (starEach [e] X.env) = (false, eval e X.env) :: backTo pos (starEach [] X.env) := by rfl) :
    PE X (.Call (.Name "sorted" p) [e] [⟨some "key", .Lambda (lamPar x q0) (lamBody x j p1 p2 p3 p4) (lamSc x) lp, kp⟩] pos) (fun σ H Q => te σ H fun v H1 => rLam X.K P (X.env.qual ++ "<lambda>") v H1 Q) := by
  refine ⟨fun pins s σ H Q I h => ?_⟩
  refine wpAny_Call_Name_kw (ld_blt I hg hm hv ?_)
  refine callWith_kw ?_ hs (by rw [hs]; rfl)
  rw [hs]
  show wpAny _ _ (spliced ((false, eval e X.env) :: backTo pos (starEach [] X.env))) _ _ s
  refine Calls.spliced_cons (thn (he.run pins s σ H _ I h) fun u s1 ⟨v, H1, I1, r1, hT, a, bs, ev, hsq, hz, hbs, q⟩ => ?_)
  subst ev
  obtain rfl : u = Value.ref a := r1
  refine Calls.spliced_nil ?_
  refine kws_cons (LamX.lam_make2 I1 TB hcode (by simp) (fun z hz _ => by rw [List.mem_singleton.mp hz]) hT hdef (fun y hy hf => ?_) fun f c' pm ctv H2 s2 I2 eN T2 hf hfn hfr hco => ?_)
  · have : y = (x, NameKind.local) := by simpa using hy
    rw [this] at hf; cases hf
  refine kws_nil ?_
  show wpAny _ _ (call (.builtin "sorted") [.ref a] [(Str.ofString "key", .ref f)]) _ _ s2
  -- the calls of the lambda
  have turn : ∀ (v : Value) (b : V × (Int × Int)), RelV b.1 v → b ∈ bs → ∀ (h : Heap) (tk : Nat), (∀ b o, s2.heap.get? b = some o → h.get? b = some o) →
      wpAny (model X.prog X.w) X.A.in1.in1 (call (.ref f) [v]) (KeyPure (kyD b) { s2 with heap := h, toks := tk }) (fun _ _ => False) { s2 with heap := h, toks := tk } := fun v b rb hb' h tk kp => by
    obtain ⟨t, xs, e1, ht, e2⟩ := hbs b hb'
    rw [e1] at rb
    obtain rfl : v = Value.ref t := rb
    have Ik : Inv X pins σ H2 { s2 with heap := h, toks := tk } := I2.kept kp
    obtain ⟨its, r, pt, hz'⟩ := Ik.tuple (sqT_ext eN ht)
    obtain ⟨⟨oc, vs, t0, hoc, hdc, hvc⟩, _, _⟩ := Ik.hok c' _ hco
    have rd : Vals [V.int b.2.1, V.int b.2.2] (its.drop 2) := by rw [← e2]; exact r.drop 2
    obtain ⟨u1, u2, ed, ⟨t1, rfl⟩, ⟨t2, rfl⟩⟩ := vals2 rd
    have l2 : 2 ≤ its.toArray.size := by
      have := congrArg List.length ed
      rw [List.length_drop] at this
      simp only [List.length_cons, List.length_nil] at this
      rw [List.size_toArray]; omega
    refine lam_call (items := its.toArray) hr.depth Ik.nolimit (kp _ _ hf) ⟨c', oc, vs, t0, rfl, hoc, hdc, hvc⟩ hd pt l2 (by rw [List.size_toArray]; rw [r.length] at hz'; exact hz') fun h' tk' a' k' ia => ?_
    refine ⟨h', tk', rfl, k', ?_⟩
    rw [kyD_eq]
    obtain ⟨o, ho, hcl, n, hdat⟩ := ia
    refine .tuple ho hcl hdat ?_
    show ReadsAll h' (its.toArray.toList.drop 2).toArray.toList _ _
    rw [show (its.toArray.toList.drop 2).toArray.toList = its.drop 2 by simp, ed]
    exact .cons (as := []) (.int _ _) (.cons (as := []) (.int _ _) .nil)
  have al : AllAlike (bs.map kyD) := fun d hd' d' hd2 => by
    obtain ⟨b, _, rfl⟩ := List.mem_map.mp hd'
    obtain ⟨b', _, rfl⟩ := List.mem_map.mp hd2
    rw [kyD_eq, kyD_eq]
    rfl
  have so : Sortable (bs.map kyD) := .inl fun d hd' => by
    obtain ⟨b, _, rfl⟩ := List.mem_map.mp hd'
    exact ⟨_, _, kyD_eq b⟩
  have un : ∀ b, b ∈ bs → X.A.units + 2 + (kyD b).depth < cLine := fun b _ => by
    rw [kyD_eq]
    have : (PyData.tuple [.int b.2.1, .int b.2.2]).depth ≤ 4 := by simp [PyData.depth, PyData.depthAll]
    omega
  have fin : ∀ (out : List Value) (c : Nat) (h' : Heap) (tk : Nat), (∀ b o, s2.heap.get? b = some o → h'.get? b = some o) → s2.heap.get? (s2.heap.objs.size + 1) = none → h'.get? (s2.heap.objs.size + 1) = some (seqObj "list" (List.toArray out) c) → out.length = bs.length → EachIs (fun u (b : V × (Int × Int)) => RelV b.1 u) out (bs.mergeSort (dataLe false kyD)) →
      EP X pins σ Q (.ref (s2.heap.objs.size + 1)) { s2 with heap := h', toks := tk } := fun out c h' tk k' nw at_ lo each => by
    have each2 : EachIs (fun u (b : V × (Int × Int)) => RelV b.1 u) out (bs.mergeSort leK) := each
    refine ⟨.ref _, _, I2.laid (o := .lst ((bs.mergeSort leK).map (·.1))) (t' := tk) k' (Nat.le_succ _) ⟨?_, out, c, vals_eachA each2, at_⟩, rfl, q H2 eN T2 _ (I2.hok.fresh (Nat.le_succ _))⟩
    rw [List.length_map, List.length_mergeSort]
    exact hz
  rcases hsq with hsq | hsq
  · obtain ⟨its, rv, hl, _⟩ := I2.list (sqL_ext eN hsq)
    exact sorted_key_data (b := false) (R := fun u (b : V × (Int × Int)) => RelV b.1 u) kyD hl.isList (each_valsA rv) al so hz un (ksk_s1 _ _) (fun _ => ksk_l1 _ _) (fun _ => ksk_t1 _ _) turn fin
  · obtain ⟨its, rv, hl, _⟩ := I2.tuple (sqT_ext eN hsq)
    exact sorted_keyT (R := fun u (b : V × (Int × Int)) => RelV b.1 u) kyD hl (each_valsA rv) al so hz un turn fin
end

/-! over the store -/
/-- rows whose key is what stands behind the second item -/
def wSortLam (w : WE) : WE := fun ρ S Q E => w ρ S (fun d S1 => (∃ P, S1 P = some .tab) ∧ ∃ (bs : List (D × (Int × Int))), (match d with
    | .tup xs => xs = bs.map (·.1)
    | .ref a => S1 a = some (.lst (bs.map (·.1)))
    | _ => False) ∧ bs.length ≤ sizeLine ∧ (∀ b ∈ bs, ∃ ys, b.1 = .tup ys ∧ ys.drop 2 = [.int b.2.1, .int b.2.2]) ∧
  ∀ p, S1 p = none → Q (.ref p) (put S1 p (.lst ((bs.mergeSort leK).map (·.1))))) E
theorem repL_pairs {K : PySem.W.Frag} {H : Hp} {α : Type} : ∀ {bs : List (D × α)} {vs : List V}, RepL K H (bs.map (·.1)) vs → ∃ cs : List (D × (V × α)), bs = cs.map (fun c => (c.1, c.2.2)) ∧ vs = cs.map (fun c => c.2.1) ∧ ∀ c ∈ cs, RepV K H c.1 c.2.1
  | [], _, h => ⟨[], rfl, h.nil_inv, fun _ z => by cases z⟩
  | b :: bs, _, h => by
    obtain ⟨v, r, rfl, p, t⟩ := h.inv
    obtain ⟨cs, e1, e2, e3⟩ := repL_pairs t
    refine ⟨(b.1, v, b.2) :: cs, by rw [e1]; rfl, by rw [e2]; rfl, fun c hc => ?_⟩
    rcases List.mem_cons.mp hc with z | z
    · rw [z]; exact p
    · exact e3 c z
theorem map_sort {α β : Type} (f : α → β) (le : β → β → Bool) (l : List α) : (l.map f).mergeSort le = (l.mergeSort fun x y => le (f x) (f y)).map f := (List.map_mergeSort (r := fun x y => le (f x) (f y)) (s := le) (f := f) (l := l) fun a _ b _ => rfl).symm
theorem Rep.lam {K : PySem.W.Frag} {H H1 : Hp} {S : Sto} (r : Rep K H S) (e : LamX.ExtN H H1) (t : LamX.Tabs [(lamP K, lamQ K)] H1) : Le H H1 ∧ Rep K H1 S := by
  have L : Le H H1 := fun a u m h => e a u h fun ps z => by rw [z] at m; exact m
  have nt : ∀ {a : Addr} {u : HO}, H a = some u → (∀ ps, u ≠ .tbl ps) → H1 a = H a := fun h n => by rw [h]; exact e _ _ h n
  refine ⟨L, fun a o h => ?_⟩
  have ok := r a o h
  cases o with
  | lst xs => obtain ⟨vs, h1, _⟩ := id ok; exact ok.le L (nt h1 fun _ z => by cases z)
  | dK xs => obtain ⟨vs, h1, _⟩ := id ok; exact ok.le L (nt h1 fun _ z => by cases z)
  | dT xs => obtain ⟨vs, h1, _⟩ := id ok; exact ok.le L (nt h1 fun _ z => by cases z)
  | ins C fs => obtain ⟨dx, vs, h1, _⟩ := id ok; exact ok.le L (nt h1 fun _ z => by cases z)
  | lok o us kvs => exact ok.le L (nt ok.1 fun _ z => by cases z)
  | lokT o us kvs => exact ok.le L (nt ok.1 fun _ z => by cases z)
  | ctup xs => obtain ⟨o, vs, h1, _⟩ := id ok; exact ok.le L (nt h1 fun _ z => by cases z)
  | tab =>
    obtain ⟨ha, _⟩ := ok
    subst ha
    exact ⟨rfl, t _ (List.mem_singleton.mpr rfl)⟩
section
variable {X : Cx} {W : WX} {e : Expr} {w : WE} {x : Str} {j : Nat} {p pos q0 p1 p2 p3 p4 lp kp : Pos} {k : Nat} {d : Str × Option Str}
theorem re_sortLam (hr : Room k X.A) (hu : X.A.units + 100 < cLine) (hg : Gl X "sorted") (hm : X.mg "sorted" = none) (hl : lamDefn X.K = d) (TB : LamX.TabB X.base X.mg (He.cT X.K d).1 (He.cT X.K d).2) (hcode : X.env.code = .ref (He.cT X.K d).1) (hq : X.env.qual = d.1 ++ (".<locals>." : Str))
    (he : RE X W e w) (hd : (x == ("__debug__" : Str)) = false := by decide) (hdef : defaultsOf (lamPar x q0) X.env = ([], []) := by rfl)
    (hs : backTo pos (starEach [e] X.env) = (false, eval e X.env) :: backTo pos (starEach [] X.env) := by rfl) :
    RE X W (.Call (.Name "sorted" p) [e] [⟨some "key", .Lambda (lamPar x q0) (lamBody x j p1 p2 p3 p4) (lamSc x) lp, kp⟩] pos) (wSortLam w) := by
  have eQ : X.env.qual ++ ("<lambda>" : Str) = lamQ X.K := by unfold lamQ; rw [hl, hq]
  have eP : (He.cT X.K d).2 = lamP X.K := by unfold lamP; rw [hl]
  refine pe_imp (pe_sortLam he hr hu hg hm (by decide +kernel) TB hcode hd hdef hs) fun σ H Q ⟨ρ, S, QA, EA, rs, rp, h, k, xx⟩ => ⟨ρ, S, _, EA, rs, rp, h, fun d1 S1 v H1 h1 l1 r1 p1 => ?_, xx⟩
  rw [eQ, eP]
  obtain ⟨⟨P, hP⟩, bs, hb1, hz, hbs, q⟩ := h1
  obtain ⟨ha, ht⟩ := r1 P _ hP
  have T1 : LamX.Tabs [(lamP X.K, lamQ X.K)] H1 := fun y hy => by rw [List.mem_singleton.mp hy, ← ha]; exact ha ▸ ht
  have main : ∀ (a : Addr) (vs : List V), v = .ref a → (SqL X.K H1 a vs ∨ SqT X.K H1 a vs) → RepL X.K H1 (bs.map (·.1)) vs → rLam X.K (lamP X.K) (lamQ X.K) v H1 Q := fun a vs ev hsq rl => by
    obtain ⟨cs, rfl, rfl, hc⟩ := repL_pairs rl
    refine ⟨T1, a, cs.map (·.2), ev, ?_, by rw [List.length_map] at hz ⊢; exact hz, fun b hb => ?_, fun H2 eN T2 y hy => ?_⟩
    · rw [List.map_map]; exact hsq
    · obtain ⟨c, hc', rfl⟩ := List.mem_map.mp hb
      obtain ⟨ys, e1, e2⟩ := hbs (c.1, c.2.2) (List.mem_map.mpr ⟨c, hc', rfl⟩)
      have r := hc c hc'
      have e1' : c.1 = .tup ys := e1
      rw [e1'] at r
      unfold RepV at r
      obtain ⟨t, us, e3, tp, rl2⟩ := r
      refine ⟨t, us, e3, tp.sq, ?_⟩
      have rd := rl2.drop 2
      rw [e2] at rd
      have e4 : [D.int c.2.2.1, D.int c.2.2.2] = [c.2.2.1, c.2.2.2].map D.int := rfl
      rw [show [D.int (c.1, c.2.2).2.1, D.int (c.1, c.2.2).2.2] = [c.2.2.1, c.2.2.2].map D.int from rfl] at rd
      exact rd.ints
    · obtain ⟨L, r2⟩ := r1.lam eN T2
      have L2 : Le H2 (upd H2 y (.lst (((cs.map (·.2)).mergeSort leK).map (·.1)))) := Le.new hy
      refine k _ _ _ _ (q y (r2.free hy)) ((l1.trans L).trans L2) (r2.newP (o := .lst (((cs.map fun c => (c.1, c.2.2)).mergeSort leK).map (·.1))) hy ⟨_, upd_same, ?_⟩) (rep_ref _)
      rw [map_sort, map_sort, List.map_map, List.map_map]
      have es : (cs.mergeSort fun x y => leK ((fun c : D × (V × (Int × Int)) => (c.1, c.2.2)) x) ((fun c : D × (V × (Int × Int)) => (c.1, c.2.2)) y)) = cs.mergeSort fun x y => leK x.2 y.2 := rfl
      rw [es]
      have all : ∀ l : List (D × (V × (Int × Int))), (∀ c ∈ l, RepV X.K H1 c.1 c.2.1) → RepL X.K (upd H2 y (.lst ((cs.mergeSort fun x y => leK x.2 y.2).map ((fun x => x.1) ∘ fun x => x.2)))) (l.map fun c => c.1) (l.map fun c => c.2.1) := by
        intro l
        induction l with
        | nil => intro _; exact repL_nil
        | cons c l ih => intro hc; exact repL_cons ((hc c (by simp)).le (L.trans (Le.new hy))) (ih fun z hz => hc z (by simp [hz]))
      exact all _ fun c hc' => hc c ((List.mergeSort_perm cs _).mem_iff.mp hc')
  cases d1 with
  | tup xs =>
    simp only at hb1
    subst hb1
    unfold RepV at p1
    obtain ⟨a, vs, rfl, tp, rl⟩ := p1
    exact main a vs rfl (.inr tp.sq) rl
  | ref a =>
    simp only at hb1
    unfold RepV at p1
    subst p1
    obtain ⟨vs, g1, g2⟩ := r1 a _ hb1
    exact main a vs rfl (.inl (.inl (.inl g1))) g2
  | _ => exact hb1.elim
end
end Ab
set_option Elab.async false
set_option linter.all false
set_option maxRecDepth 100000
set_option maxHeartbeats 4000000
/-! ### a law with a table of code objects: the end -/
namespace Ab
open PySem PySem.Spec PyProof.Rows L2 PySem.W
/-- what the law promises of a script, frozen or not -/
def spT (K : PySem.W.Frag) : Sp := fun vs H Q E => ∃ (a : Addr) (ns : List Int), vs = [.ref a] ∧ ns.length ≤ 63 ∧ SqL K H a (ns.map V.int) ∧ H (lamP K) = some (.tbl #[]) ∧ ∀ H', Q (.bl true) H'
theorem sqL_H0 {K : PySem.W.Frag} {H : Hp} {a : Addr} {vs : List V} (h : (∃ o, K.lookup a = some o) ∧ SqL K H a vs) (n : H a = none) : SqL K H0 a vs := by
  obtain ⟨_, (h | ⟨o, h⟩) | h⟩ := h
  · rw [n] at h; cases h
  · rw [n] at h; cases h
  · exact .inr h
section
variable {P : Program} {w : World} {K : PySem.W.Frag} {mg : Str → Option Value} {base : Heap} {k : Nat} {fa : Addr} {fd : FuncData} {x : Str} {wl : WF}
theorem fnT (F : FnOk P w K mg base (L2.CX P w) k fa fd [x] (spA K 1 wl)) (hw : ∀ (ns : List Int) (S : Sto), ns.length ≤ 63 → S (lamP K) = some .tab → wl [.scr ns] S (fun d _ => d = .bl true) fun _ _ => False) :
    FnOk P w K mg base (L2.CX P w) k fa fd [x] (spT K) := by
  refine ⟨fun vs H Q E ⟨a, ns, e, _⟩ => by rw [e]; rfl, fun A outer s H args us vs Q E hr he hb hv ⟨a, ns, ev, hn, hS, hT, q⟩ => ?_⟩
  subst ev
  -- once the script cannot change
  have go : ∀ H2 : Hp, Env0 P w K mg base A outer s H2 → LstP K H2 a (ns.map V.int) → H2 (lamP K) = some (.tbl #[]) → (∀ H' h', Un (frs outer) [] H2 H' s.heap h' → Un (frs outer) [] H H' s.heap h') → codeAny (model P w) A (.call (.ref fa) args) (CR (L2.CX P w) outer P w H s Q E) s := by
    intro H2 e2 hL hT2 un2
    have st : spA K 1 wl [.ref a] H2 (fun v _ => v = .bl true) fun _ _ _ => False := by
      refine ⟨rfl, [.scr ns], put (fun _ => none) (lamP K) .tab, fun d _ => d = .bl true, fun _ _ => False, repL_cons ?_ repL_nil, fun b o e => ?_, hw ns _ hn put_same, (fun d S v H' e _ _ p => ?_), (fun _ _ _ z => False.elim z)⟩
      · unfold RepV; exact ⟨a, rfl, hL⟩
      · by_cases hb : b = lamP K
        · subst hb
          rw [put_same] at e
          cases e
          exact ⟨rfl, LamX.TabS.nil hT2⟩
        · rw [put_ne hb] at e
          cases e
      · subst e
        unfold RepV at p
        exact p
    refine codeAny_mono (F.run A outer s H2 args us [.ref a] _ _ hr e2 hb hv st) fun r s' h => ?_
    cases r with
    | error e =>
      obtain ⟨_, _, _, _, _, _, _, _, _, _, _, _, z⟩ := h
      exact z.elim
    | ok fl =>
      cases fl with
      | next => exact False.elim h
      | brk => exact False.elim h
      | cont => exact False.elim h
      | ret u =>
        obtain ⟨v, H', os, bare, un, hok', r', q'⟩ := h
        have q' : v = .bl true := q'
        subst q'
        exact ⟨_, H', os, bare, un2 _ _ un, hok', r', q H'⟩
  rcases hS with (h | ⟨o, h⟩) | h
  · -- a list that may change: it is frozen
    have hok := he.hok
    obtain ⟨hz, its, n, r, hg⟩ := hok a _ h
    have at_ : ∀ b, b ≠ a → upd H a (.frz { cls := .type "list", data := .seq its.toArray n } (.lst (ns.map V.int))) b = H b := fun b hb => upd_ne hb
    have nA : ∀ b, H b = none → b ≠ a := fun b e z => by rw [z, h] at e; cases e
    have nU : ∀ b u, H b = some u → u ≠ .lst (ns.map V.int) → b ≠ a := fun b u e d z => by rw [z, h] at e; cases e; exact d rfl
    refine go (upd H a (.frz { cls := .type "list", data := .seq its.toArray n } (.lst (ns.map V.int)))) ⟨he.frames, he.mod, fun b o e => ?_, he.bsz, he.funs, fun b hb => ?_, fun b u e => ?_, he.bare⟩ (.inl ⟨_, upd_same⟩) ?_ fun H' h' un => ⟨fun b o e n hb hx => un.keep b o e ?_ hb hx, fun b o e n hb hx => un.slot b o e ?_ hb hx, fun b o e n hx => un.free b o e ?_ hx, un.there, fun b xs e => un.tups b xs ?_, fun b o u e => un.frzs b o u ?_, fun b ps e => un.tbls b ps ?_⟩
    · obtain ⟨e1, e2⟩ := he.bs b o e
      exact ⟨e1, by rw [at_ b (nA b e2)]; exact e2⟩
    · have e2 := he.frf b hb
      rw [at_ b (nA b e2)]; exact e2
    · by_cases hb : b = a
      · subst hb
        rw [upd_same] at e
        cases e
        exact ⟨hg, hz, its, n, r, hg⟩
      · rw [at_ b hb] at e
        exact (hok b u e).stay (fun d v _ q => q) (fun d q => by rw [at_ d (nU d _ q (fun z => by cases z))]; exact q) fun d xs q => by rw [at_ d (nU d _ q (fun z => by cases z))]; exact q
    · rw [at_ _ (nU _ _ hT (fun z => by cases z))]; exact hT
    · rw [at_ b (nA b n)]; exact n
    · rw [at_ b (nA b n)]; exact n
    · rw [at_ b (nA b n)]; exact n
    · rw [at_ b (nU b _ e (fun z => by cases z))]; exact e
    · rw [at_ b (nU b _ e (fun z => by cases z))]; exact e
    · rw [at_ b (nU b _ e (fun z => by cases z))]; exact e
  · exact go H he (.inl ⟨o, h⟩) hT fun _ _ u => u
  · exact go H he (.inr (.inr h)) hT fun _ _ u => u
end
section
variable {P : Program} {w : World} {K : PySem.W.Frag} {mg : Str → Option Value} {base : Heap} {N : List Str} {qual : Str} {scope : Scope} {d : Str × Option Str}
/-- fn_ok where the def's code object is asked for (a def with a lambda) -/
theorem fn_okL {x : Str} {params : Arguments} {body : List Stmt} {dvs : List V} {kws : List (Str × V)} {fd : FuncData} {ps : List Str} {k : Nat} {b : WS}
    (F : FunD K x qual params body scope dvs kws (He.fAd K d) fd) (S : FnScope N ps scope)
    (h : ∀ (cdv : Value) (hc : cdv = .ref (He.cT K d).1) (A : Around) (outer : List Env) (s : Shared) (H : Hp) (E : XK), Room k (A.deeper (envOfC qual scope s.heap.objs.size (He.fAd K d) cdv)) → RSs (cxOf (L2.CX P w) P w K mg base N qual scope (He.fAd K d) cdv A outer s H E) (WD E) body b) :
    FnOk P w K mg base (L2.CX P w) (k + 1) (He.fAd K d) fd ps (spA K ps.length (wFn N.length b)) := by
  obtain ⟨oc, od, dV, kV, doc, pm, an, cdv, ct, osl, rfl, lk, hcd, _, _⟩ := F.ex
  obtain ⟨c, e⟩ := He.codeIn_ref hcd
  have ec : (He.cT K d).1 = c := He.codeOf_eq lk (show (PySem.W.fnOf x qual params body scope dV kV doc pm an cdv ct).code = .ref c from e)
  refine L2.fn_of lk hcd S (fun vs H Q E h => h.1) fun A outer s H vs Q E hr hs => ⟨_, h cdv (by rw [ec]; exact e) A outer s H E hr, ?_⟩
  obtain ⟨hl, ds, S, QA, EA, rl, rp, hw, k, x⟩ := hs
  exact ⟨_, S, _, repS_start rl, rp, hw, ⟨fun ρ S' σ H' q l _ r => k .non S' .non H' q l r (by unfold RepV; rfl), k, fun _ _ _ _ z => z.elim, fun _ _ _ _ z => z.elim, fun c ρ S' σ H' q l _ r => x c S' H' q l r⟩⟩
end
theorem law_endT {l : PySem.W.OpenLaw} {k : Nat} {q : Program} {loose : List Str} {XP : (Str → Option Value) → Heap → Prop} {YP : World → Heap → Prop} {d : DefRec} {x : Str}
    (hn : l.most = some 63) (hdf : d.params.defaults = []) (hr : Room k callerA)
    (F : ∀ (w : World) (mg : Str → Option Value) (fa : Addr) (h : Heap), YP w h → h.Ns mainGlobals mg → mg d.name = some (.ref fa) →
      ∃ (K : PySem.W.Frag) (fd : FuncData) (wl : WF), K.In h ∧ (∀ (s : Shared) (u : Value), BindsTo s fd ⟨[u], []⟩ [(x, u)]) ∧
        (h.get? (He.cT K (lamDefn K)).2 = some { cls := .none, data := .fields #[] } ∧ K.lookup (He.cT K (lamDefn K)).2 = none ∧ PySem.W.codeHdIn K (He.cT K (lamDefn K)).1 (He.cT K (lamDefn K)).2 = true) ∧
        (∀ (ns : List Int) (S : Sto), ns.length ≤ 63 → S (lamP K) = some .tab → wl [.scr ns] S (fun d _ => d = .bl true) fun _ _ => False) ∧
        ∀ base : Heap, K.In base → base.Ns mainGlobals mg → LamX.TabB base mg (He.cT K (lamDefn K)).1 (He.cT K (lamDefn K)).2 → FnOk l.prog w K mg base (L2.CX l.prog w) k fa fd [x] (spA K 1 wl)) :
    PySem.W.WalkO q loose XP YP l.row.toRowW d [] (fun f vs => PySem.call f vs) := by
  refine LamX.walk_ofTsE (CX := fun w => L2.CX l.prog w) (k := k) (x := x) hn (by decide) hdf hr (fun w mg fa h Y G hm => ?_) fun w H s e s' hx => ?_
  · obtain ⟨K, fd, wl, KX, hb, ⟨t1, t2, t3⟩, hsp, hF⟩ := F w mg fa h Y G hm
    have eP : (He.cT K (lamDefn K)).2 = lamP K := by unfold lamP; rfl
    refine ⟨K, KX, fd, [He.cT K (lamDefn K)], spT K, fun p hp => ?_, fun p hp => ?_, fun p hp => ?_, hb, fun H a ns hl _ hT hS => ?_, fun base hK hg hTB => ?_⟩
    · rw [List.mem_singleton.mp hp]; exact t1
    · rw [List.mem_singleton.mp hp]; exact t2
    · rw [List.mem_singleton.mp hp]; exact PySem.W.codeHd_of_K KX t3
    · exact ⟨a, ns, rfl, hl, hS, by rw [← eP]; exact hT _ (List.mem_singleton.mpr rfl), fun _ => rfl⟩
    · exact fnT (hF base hK hg (hTB _ (List.mem_singleton.mpr rfl))) hsp
  · obtain ⟨_, _, _, _, _, _, _, _, _, _, _, _, z⟩ := hx
    exact z
end Ab
set_option Elab.async false
set_option linter.all false
set_option maxRecDepth 100000
set_option maxHeartbeats 4000000
/-! ### texts: str(..), int(text), f-strings, split, join, signs one by one -/
namespace Ab
open PySem PySem.Spec PyProof.Rows L2
/-- str(i), str(x) -/
def aStr : WRL := fun ds S Q => (match ds with
  | [.int i] => i.natAbs.log2 < 1920 ∧ Q (.str (toString i)) S
  | [.str x] => Q (.str x) S
  | _ => False)
def rStr : List V → Hp → VK → Prop := fun xs H Q => (∃ i : Int, xs = [.int i] ∧ i.natAbs.log2 < 1920 ∧ Q (.str (toString i)) H) ∨ ∃ a, xs = [.str a] ∧ Q (.str a) H
theorem cr_str {X : Cx} : CallR X (.type "str") rStr := call_str_int.or SkE.call_str_str
theorem sim_str {K : PySem.W.Frag} : SimL K rStr aStr := fun xs ds H S QA Q p r a k => by
  match ds, a, p with
  | [.int i], a, p =>
    obtain ⟨v, rfl, pv⟩ := repL1 p
    unfold RepV at pv
    subst pv
    exact .inl ⟨i, rfl, a.1, k _ S _ H a.2 (Le.refl H) r (rep_str _)⟩
  | [.str x], a, p =>
    obtain ⟨v, rfl, pv⟩ := repL1 p
    unfold RepV at pv
    subst pv
    exact .inr ⟨x, rfl, k _ S _ H a (Le.refl H) r (rep_str _)⟩
/-- int(i), int(b), int(text) -/
def aIntT : WRL := fun ds S Q => (match ds with
  | [.int i] => Q (.int i) S
  | [.bl b] => Q (.int (if b then 1 else 0)) S
  | [.str a] => ∃ n, PySem.intText? a = some n ∧ a.length ≤ 640 ∧ Q (.int n) S
  | _ => False)
def rIntT : List V → Hp → VK → Prop := fun xs H Q => ((∃ i, xs = [.int i] ∧ Q (.int i) H) ∨ ∃ k, xs = [.bl k] ∧ Q (.int (if k then 1 else 0)) H) ∨ ∃ a n, xs = [.str a] ∧ PySem.intText? a = some n ∧ a.length ≤ 640 ∧ Q (.int n) H
theorem cr_intT {X : Cx} : CallR X (.type "int") rIntT := call_int1.or call_int_str
theorem sim_intT {K : PySem.W.Frag} : SimL K rIntT aIntT := fun xs ds H S QA Q p r a k => by
  match ds, a, p with
  | [.int i], a, p =>
    obtain ⟨v, rfl, pv⟩ := repL1 p
    unfold RepV at pv
    subst pv
    exact .inl (.inl ⟨i, rfl, k _ S _ H a (Le.refl H) r (rep_int _)⟩)
  | [.bl b], a, p =>
    obtain ⟨v, rfl, pv⟩ := repL1 p
    unfold RepV at pv
    subst pv
    exact .inl (.inr ⟨b, rfl, k _ S _ H a (Le.refl H) r (rep_int _)⟩)
  | [.str x], a, p =>
    obtain ⟨v, rfl, pv⟩ := repL1 p
    unfold RepV at pv
    subst pv
    obtain ⟨n, h1, h2, h3⟩ := a
    exact .inr ⟨x, n, rfl, h1, h2, k _ S _ H h3 (Le.refl H) r (rep_int _)⟩
theorem repL_strs {K : PySem.W.Frag} {H : Hp} : ∀ (ys : List Str), RepL K H (ys.map D.str) (ys.map V.str)
  | [] => repL_nil
  | y :: ys => repL_cons (rep_str y) (repL_strs ys)
theorem RepL.strs {K : PySem.W.Frag} {H : Hp} : ∀ {ys : List Str} {vs : List V}, RepL K H (ys.map D.str) vs → vs = ys.map V.str
  | [], _, h => h.nil_inv
  | n :: ns, _, h => by
    obtain ⟨v, r, rfl, p, h'⟩ := h.inv
    unfold RepV at p
    rw [p, RepL.strs h']
    rfl
section
variable {X : Cx} {W : WX} {o e : Expr} {wo we : WE} {apos pos : Pos}
def wSplit (wo we : WE) : WE := fun ρ S Q E => wo ρ S (fun x S1 => (∃ a, x = .str a) ∧ we ρ S1 (fun y S2 => ∃ a b, x = .str a ∧ y = .str b ∧ (b.length == 0) = false ∧ a.length + 2 ≤ sizeLine ∧ ∀ p, S2 p = none → Q (.ref p) (put S2 p (.lst ((Txt.split a b).map D.str)))) E) E
theorem re_split (ho : RE X W o wo) (he : RE X W e we) (hs : starEach [e] X.env = [(false, eval e X.env)] := by rfl) (hbase : attributeBase o "split" X.env (eval o X.env) = eval o X.env := by rfl) (hline : (apos.endLine == pos.line) = true := by rfl) :
    RE X W (.Call (.Attribute o "split" apos) [e] [] pos) (wSplit wo we) := pe_imp (pe_split ho he hs hbase hline) fun σ H Q ⟨ρ, S, QA, EA, rs, rp, h, k, x⟩ => ⟨ρ, S, _, EA, rs, rp, h, fun d S1 v H1 ⟨⟨a, ea⟩, h1⟩ l1 r1 p1 => by
  subst ea
  unfold RepV at p1
  subst p1
  refine ⟨⟨a, rfl⟩, ρ, S1, _, EA, rs.le l1, r1, h1, fun d2 S2 v2 H2 ⟨a', b, e1, e2, hb, hz, q⟩ l2 r2 p2 => ?_, x.le l1⟩
  cases e1
  subst e2
  unfold RepV at p2
  subst p2
  exact ⟨a, b, rfl, rfl, hb, hz, fun p hp => k _ _ _ _ (q p (r2.free hp)) ((l1.trans l2).trans (Le.new hp)) (r2.newP (o := .lst ((Txt.split a b).map D.str)) hp ⟨_, upd_same, repL_strs _⟩) (rep_ref _)⟩, x⟩
def aJoin (a : Str) : D → Sto → AK → Prop := fun y S Q => ∃ ys : List Str, (match y with
    | .tup ds => ds = ys.map D.str
    | .ref p => S p = some (.lst (ys.map D.str))
    | _ => False) ∧ (ys.map (·.length)).sum + ys.length * a.length ≤ 16777216 ∧ Q (.str (Txt.join a ys)) S
def wJoin (wo we : WE) : WE := fun ρ S Q E => wo ρ S (fun x S1 => (match x with
  | .str a => we ρ S1 (fun y S2 => aJoin a y S2 Q) E
  | _ => False)) E
theorem re_join (ho : RE X W o wo) (he : RE X W e we) (hs : starEach [e] X.env = [(false, eval e X.env)] := by rfl) (hbase : attributeBase o "join" X.env (eval o X.env) = eval o X.env := by rfl) (hline : (apos.endLine == pos.line) = true := by rfl) :
    RE X W (.Call (.Attribute o "join" apos) [e] [] pos) (wJoin wo we) := pe_imp (pe_join ho he hs hbase hline) fun σ H Q ⟨ρ, S, QA, EA, rs, rp, h, k, x⟩ => ⟨ρ, S, _, EA, rs, rp, h, fun d S1 v H1 h1 l1 r1 p1 => by
  cases d with
  | str a =>
    unfold RepV at p1
    subst p1
    refine ⟨⟨a, rfl⟩, ρ, S1, _, EA, rs.le l1, r1, h1, fun d2 S2 v2 H2 ⟨ys, hy, hz, q⟩ l2 r2 p2 => ?_, x.le l1⟩
    have kk : Q (.str (Txt.join a ys)) H2 := k _ _ _ _ q (l1.trans l2) r2 (rep_str _)
    cases d2 with
    | tup ds =>
      simp only at hy
      subst hy
      unfold RepV at p2
      obtain ⟨p, vs, rfl, tp, rl⟩ := p2
      have := rl.strs
      subst this
      exact ⟨a, p, ys, rfl, rfl, .inr tp.sq, hz, kk⟩
    | ref p =>
      simp only at hy
      unfold RepV at p2
      subst p2
      obtain ⟨vs, g1, g2⟩ := r2 p _ hy
      have := g2.strs
      subst this
      exact ⟨a, p, ys, rfl, rfl, .inl (.inl (.inl g1)), hz, kk⟩
    | _ => exact hy.elim
  | _ => exact h1.elim, x⟩
/-! f-strings -/
def wFmt (w : WE) : WE := fun ρ S Q E => w ρ S (fun x S1 => (match x with
  | .str y => y.length ≤ sizeLine ∧ Q (.str y) S1
  | .int i => i.natAbs.log2 < 1920 ∧ Q (.str (toString i)) S1
  | _ => False)) E
theorem re_fmt (he : RE X W e we) : RE X W (.FormattedValue e (-1) none pos) (wFmt we) := pe_imp (pe_fmt he) fun σ H Q ⟨ρ, S, QA, EA, rs, rp, h, k, x⟩ => ⟨ρ, S, _, EA, rs, rp, h, fun d S1 v H1 h1 l1 r1 p1 => by
  cases d with
  | str y =>
    unfold RepV at p1
    subst p1
    exact .inl ⟨y, rfl, h1.1, k _ _ _ _ h1.2 l1 r1 (rep_str _)⟩
  | int i =>
    unfold RepV at p1
    subst p1
    exact .inr ⟨i, rfl, h1.1, k _ _ _ _ h1.2 l1 r1 (rep_str _)⟩
  | _ => exact h1.elim, x⟩
def wJs : List WE → Str → DEnv → Sto → (Str → Sto → Prop) → XA → Prop
  | [], acc, _, S, Q, _ => Q acc S
  | w :: ws, acc, ρ, S, Q, E => w ρ S (fun x S1 => ∃ y : Str, x = .str y ∧ (acc ++ y).length ≤ sizeLine ∧ wJs ws (acc ++ y) ρ S1 Q E) E
def wJoined (ws : List WE) : WE := fun ρ S Q E => wJs ws Str.empty ρ S (fun out S1 => Q (.str out) S1) E
inductive RJ (X : Cx) (W : WX) : List Expr → List WE → Prop where
  | nil : RJ X W [] []
  | cons {e : Expr} {w : WE} {es : List Expr} {ws : List WE} (h : RE X W e w) (r : RJ X W es ws) : RJ X W (e :: es) (w :: ws)
theorem RJ.pj {es : List Expr} {ws : List WE} (h : RJ X W es ws) : PJ X es (ws.map (cE X.K W)) := by
  induction h with
  | nil => exact .nil
  | cons h r ih => exact .cons h ih
theorem js_ok {K : PySem.W.Frag} : ∀ {ws : List WE} {acc : Str} {ρ : DEnv} {S : Sto} {σ : L2.St} {H : Hp} {QS : Str → Sto → Prop} {Q : Str → Hp → Prop} {EA : XA}, RepS K H ρ σ → Rep K H S → wJs ws acc ρ S QS EA → (∀ out S' H', QS out S' → Le H H' → Rep K H' S' → Q out H') → XOk K W H σ EA → tJs (ws.map (cE K W)) acc σ H Q
  | [], acc, ρ, S, σ, H, QS, Q, EA, rs, rp, h, k, x => k _ _ _ h (Le.refl H) rp
  | w :: ws, acc, ρ, S, σ, H, QS, Q, EA, rs, rp, h, k, x => ⟨ρ, S, _, EA, rs, rp, h, fun d S1 v H1 ⟨y, ey, hz, h1⟩ l1 r1 p1 => by
    subst ey
    unfold RepV at p1
    subst p1
    exact ⟨y, rfl, hz, js_ok (rs.le l1) r1 h1 (fun out S' H' q l r => k out S' H' q (l1.trans l) r) (x.le l1)⟩, x⟩
theorem re_joined {v1 v2 : Expr} {rest : List Expr} {ws : List WE} (h : RJ X W (v1 :: v2 :: rest) ws) : RE X W (.JoinedStr (v1 :: v2 :: rest) pos) (wJoined ws) :=
  pe_imp (pe_joined h.pj) fun σ H Q ⟨ρ, S, QA, EA, rs, rp, h, k, x⟩ => js_ok rs rp h (fun out S' H' q l r => k _ _ _ _ q l r (rep_str _)) x
/-! signs one by one -/
def signs (x : Str) : List D := x.cps.toList.map fun c => .str ⟨#[c]⟩
def wSigns (w : WE) : WI := fun ρ S Q E => w ρ S (fun d S1 => (match d with
  | .str x => Q ⟨signs x, fun _ => True⟩ S1
  | _ => False)) E
theorem isim_str {K : PySem.W.Frag} {H : Hp} {x : Str} : ISim K H (Its x) ⟨signs x, fun _ => True⟩ := fun i H' S' l' r' _ => by
  refine ⟨fun d e => ?_, fun hl => by
    show x.cps.size ≤ i
    simpa [signs] using hl⟩
  unfold signs at e
  rw [List.getElem?_map, Option.map_eq_some_iff] at e
  obtain ⟨c, ec, rfl⟩ := e
  have ec' : x.cps[i]? = some c := by rw [← ec]; simp
  have hi : i < x.cps.size := (Array.getElem?_eq_some_iff.mp ec').1
  refine ⟨hi, fun v H2 ⟨e3, c2, e4, e5⟩ => ?_⟩
  subst e3 e5
  rw [ec'] at e4
  cases e4
  exact ⟨Le.refl _, r', rep_str _⟩
theorem ri_signs {tg : Expr} (he : RE X W e we) : RI X W tg e (wSigns we) := pi_imp (pi_str he) fun σ H R ⟨ρ, S, QA, EA, rs, rp, h, k, x⟩ => ⟨ρ, S, _, EA, rs, rp, h, fun d S1 v H1 h1 l1 r1 p1 => by
  cases d with
  | str z =>
    unfold RepV at p1
    subst p1
    exact ⟨z, rfl, k _ S1 _ H1 h1 l1 r1 isim_str⟩
  | _ => exact h1.elim, x⟩
end
end Ab
set_option Elab.async false
set_option linter.all false
set_option maxRecDepth 100000
set_option maxHeartbeats 4000000
/-! ### texts, plainly: cut at a sign, put together -/
namespace Ab
open PySem PySem.Spec PyProof.Rows L2
abbrev LL (s : Str) : List Nat := s.cps.toList
theorem str_ext {a b : Str} (h : LL a = LL b) : a = b := by
  cases a
  cases b
  simp only [LL] at h
  congr 1
  exact Array.toList_inj.mp h
theorem LL_app (a b : Str) : LL (a ++ b) = LL a ++ LL b := by
  show (a.cps ++ b.cps).toList = _
  exact Array.toList_append ..
theorem LL_len (a : Str) : a.length = (LL a).length := by unfold Str.length; simp
theorem LL_empty : LL Str.empty = [] := rfl
def jn (c : Nat) : List (List Nat) → List Nat
  | [] => []
  | [x] => x
  | x :: y :: r => x ++ c :: jn c (y :: r)
theorem LL_join (c : Nat) : ∀ ps : List Str, LL (Str.join ⟨#[c]⟩ ps) = jn c (ps.map LL)
  | [] => rfl
  | [x] => rfl
  | x :: y :: r => by
    have ih := LL_join c (y :: r)
    show LL (x ++ ⟨#[c]⟩ ++ Str.join ⟨#[c]⟩ (y :: r)) = LL x ++ c :: jn c ((y :: r).map LL)
    rw [LL_app, LL_app, ih, List.append_assoc]
    rfl
theorem cut_inj {c : Nat} : ∀ {x y u v : List Nat}, c ∉ x → c ∉ y → x ++ c :: u = y ++ c :: v → x = y ∧ u = v
  | [], [], u, v, _, _, h => ⟨rfl, (List.cons.inj h).2⟩
  | [], b :: y, u, v, _, hy, h => by
    have := (List.cons.inj h).1
    exact absurd (by rw [this]; simp) hy
  | a :: x, [], u, v, hx, _, h => by
    have := (List.cons.inj h).1
    exact absurd (by rw [← this]; simp) hx
  | a :: x, b :: y, u, v, hx, hy, h => by
    obtain ⟨e1, e2⟩ := List.cons.inj h
    obtain ⟨e3, e4⟩ := cut_inj (fun z => hx (by simp [z])) (fun z => hy (by simp [z])) e2
    exact ⟨by rw [e1, e3], e4⟩
theorem jn_inj {c : Nat} : ∀ {ps qs : List (List Nat)}, ps ≠ [] → qs ≠ [] → (∀ p ∈ ps, c ∉ p) → (∀ q ∈ qs, c ∉ q) → jn c ps = jn c qs → ps = qs
  | [], _, h, _, _, _, _ => absurd rfl h
  | _ :: _, [], _, h, _, _, _ => absurd rfl h
  | [x], [y], _, _, _, _, h => by rw [show x = y from h]
  | [x], y :: z :: r, _, _, hx, _, h => by
    have h : x = y ++ c :: jn c (z :: r) := h
    exact absurd (by rw [h]; simp) (hx x (by simp))
  | x :: z :: r, [y], _, _, _, hy, h => by
    have h : x ++ c :: jn c (z :: r) = y := h
    exact absurd (by rw [← h]; simp) (hy y (by simp))
  | x :: x2 :: r, y :: y2 :: s, _, _, hx, hy, h => by
    have h : x ++ c :: jn c (x2 :: r) = y ++ c :: jn c (y2 :: s) := h
    obtain ⟨e1, e2⟩ := cut_inj (hx x (by simp)) (hy y (by simp)) h
    rw [e1, jn_inj (by simp) (by simp) (fun p hp => hx p (by simp [hp])) (fun q hq => hy q (by simp [hq])) e2]
/-- cut at c: the pieces without c that give the text -/
theorem split_eq {c : Nat} {x : Str} {ps : List Str} (ne : ps ≠ []) (free : ∀ p ∈ ps, c ∉ LL p) (h : Str.join ⟨#[c]⟩ ps = x) : Txt.split x ⟨#[c]⟩ = ps := by
  have e : (Txt.split x ⟨#[c]⟩).map LL = ps.map LL := by
    refine jn_inj (c := c) ?_ ?_ ?_ ?_ ?_
    · intro z
      have h1 := split_pos x ⟨#[c]⟩
      have h2 := congrArg List.length z
      rw [List.length_map] at h2
      simp at h2
      rw [h2] at h1
      simp at h1
    · intro z
      exact ne (List.map_eq_nil_iff.mp z)
    · intro p hp
      obtain ⟨q, hq, rfl⟩ := List.mem_map.mp hp
      exact StrLaws.split_free x c q hq
    · intro p hp
      obtain ⟨q, hq, rfl⟩ := List.mem_map.mp hp
      exact free q hq
    · rw [← LL_join, ← LL_join, StrLaws.join_split, h]
  have inj : ∀ {a b : List Str}, a.map LL = b.map LL → a = b := by
    intro a
    induction a with
    | nil =>
      intro b h
      cases b with
      | nil => rfl
      | cons y b => cases h
    | cons x a ih =>
      intro b h
      cases b with
      | nil => cases h
      | cons y b =>
        obtain ⟨e1, e2⟩ := List.cons.inj h
        rw [str_ext e1, ih e2]
  exact inj e
/-- lines, each with its end -/
def endL (c : Nat) (ls : List (List Nat)) : List Nat := ls.flatMap fun l => l ++ [c]
theorem jn_end (c : Nat) : ∀ ls : List (List Nat), jn c (ls ++ [[]]) = endL c ls
  | [] => rfl
  | [x] => by show x ++ c :: [] = _; simp [endL]
  | x :: y :: r => by
    have ih := jn_end c (y :: r)
    show x ++ c :: jn c (y :: (r ++ [[]])) = _
    have : jn c (y :: (r ++ [[]])) = endL c (y :: r) := ih
    rw [this]
    simp [endL]
theorem LL_join0 : ∀ ps : List Str, LL (Str.join Str.empty ps) = (ps.map LL).flatten
  | [] => rfl
  | [x] => by show LL x = _; simp
  | x :: y :: r => by
    have ih := LL_join0 (y :: r)
    show LL (x ++ Str.empty ++ Str.join Str.empty (y :: r)) = _
    rw [LL_app, LL_app, ih, LL_empty]
    simp
/-! ### numbers as texts -/
abbrev nS (i : Int) : Str := (toString i : String)
theorem num200 : ∀ n : Fin 200, ((nS (n.val : Int)).length ≤ 3 ∧ (nS (n.val : Int)).length ≠ 0 ∧ PySem.intText? (nS (n.val : Int)) = some (n.val : Int)) ∧ ((LL (nS (n.val : Int))).all fun c => decide (48 ≤ c ∧ c ≤ 57)) = true ∧ ((LL (nS (n.val : Int))).head? = some 48 → n.val = 0) := by decide +kernel
theorem num_of {i : Int} (h : 0 ≤ i ∧ i < 200) : ((nS i).length ≤ 3 ∧ (nS i).length ≠ 0 ∧ PySem.intText? (nS i) = some i) ∧ ((LL (nS i)).all fun c => decide (48 ≤ c ∧ c ≤ 57)) = true ∧ ((LL (nS i)).head? = some 48 → i = 0) := by
  have := num200 ⟨i.toNat, by omega⟩
  have e : ((i.toNat : Nat) : Int) = i := by omega
  simp only [e] at this
  exact ⟨this.1, this.2.1, fun z => by have := this.2.2 z; omega⟩
theorem num_log {i : Int} (h : 0 ≤ i ∧ i < 200) : i.natAbs.log2 < 1920 := by
  have : i.natAbs.log2 ≤ i.natAbs := Nat.log2_le_self _
  omega
end Ab
set_option Elab.async false
set_option linter.all false
set_option maxRecDepth 100000
set_option maxHeartbeats 4000000
/-! ### a comprehension out of which an exception may come -/
namespace Ab
open PySem PySem.Spec PyProof.Rows L2

section
variable {M : Model} {A : Around} {E : Value → Shared → Prop} {s : Shared} {Z : Obj → Prop} {base : Heap} {env cenv : Env} {outer l : List Env} {L e : Addr}
/-- an exception in flight, marked by another frame, is noted by this one -/
theorem notesZ {fl : Value} {Q : Unit → Shared → Prop} (hZ : HandSPX.Steady Z) (hfr : A.frames = some (env :: outer)) (hf : env.frame = some L)
    (hkb : base.StaysIn s.heap) (hen : base.get? e = none) (hl : s.heap.FunFrames base (env :: outer)) (ht : HandSPX.TracedZ s.heap base e Z fl) (hne : (fl == rawInt L) = false)
    (hQ : ∀ h', HandSPX.HeldZ base (env :: outer) e Z L h' → s.heap.UpToSlots h' → Q () { s with heap := h' }) : wpAny M A (noteFrame (.ref e) env) Q E s := by
  obtain ⟨oe, vs, T, oT, ts, he, hz, hd, h1, hnT, hTe, hT, hdT, h3⟩ := ht
  unfold noteFrame
  simp only [hf]
  refine wpAny_bind (wpAny_field he hd h1 ?_)
  rw [if_pos (show (Value.ref T != Value.none) = true from by simp)]
  refine wpAny_bind (wpAny_field hT hdT h3 ?_)
  rw [if_neg (show ¬ ((fl == rawInt L) = true) from by rw [hne]; decide)]
  refine wpAny_bind (wpAny_setField hT hdT (Array.getElem?_eq_some_iff.mp h3).1 ?_)
  have other : ∀ b, b ≠ T → (s.heap.update T (Obj.mapFields (·.setIfInBounds 3 Value.none))).get? b = s.heap.get? b := fun b hb => Heap.get?_update_other _ _ (Ne.symm hb)
  have noRecord : ∀ b o, s.heap.get? b = some o → (∀ vs, o.data ≠ .fields vs) → b ≠ T := fun b o hb hnf q => by
    rw [q, hT] at hb; injection hb with hb; subst hb; exact hnf ts hdT
  refine HandSPX.wpAny_entryZ hZ hfr (hl.of_keeps fun b o hb hnf => ⟨o, (other b (noRecord b o hb hnf)).trans hb, rfl⟩) hf ((other e (Ne.symm hTe)).trans he)
    (fun b o hbo => (other b fun q => by rw [q, hnT] at hbo; cases hbo).trans (hkb b o hbo)) hen hd (Array.getElem?_eq_some_iff.mp h1).1 hz fun h' hN => ?_
  obtain ⟨x1, x2, x3, x4⟩ := hN
  exact hQ h' ⟨x1, hen, x2, x3⟩ fun b o hb hnf => x4 b o ((other b (noRecord b o hb hnf)).trans hb) hnf
/-- the block is let go, the exception goes on in the def's frame -/
theorem compFailsZ {m : Str → Option Value} (hf : cenv.frame = some L) (hbC : base.get? cenv.locals = none) (hn : s.heap.Ns cenv.locals m) (hh : HandSPX.HeldZ base l e Z L s.heap)
    (hQ : ∀ h', HandSPX.HeldZ base l e Z L h' → (∀ b o, s.heap.get? b = some o → b ≠ cenv.locals → (∀ vs, o.data ≠ .fields vs) → ∃ sl, h'.get? b = some { o with slots := sl }) → E (.ref e) { s with heap := h' }) :
    CompFails M A E cenv (.ref e) s := by
  refine ⟨m, hn, fun h₂ m₂ hn₂ hs₂ => ?_⟩
  obtain ⟨b1, b0, f1, oe, vs, T, oT, ts, he, hz, hd, h1, hnT, hTe, hT, hdT, h3⟩ := hh
  have neC : ∀ b o, s.heap.get? b = some o → (∃ vs, o.data = .fields vs) → b ≠ cenv.locals := fun b o q ⟨vs, hv⟩ z => by
    obtain ⟨oL, es, ep, hoL, hdL, r⟩ := hn
    rw [z, hoL] at q
    cases q
    rw [hdL] at hv
    cases hv
  have b2 : base.StaysIn h₂ := fun b o hb => (hs₂.2 b fun q => by rw [q, hbC] at hb; cases hb).trans (b1 b o hb)
  have f2 : h₂.FunFrames base l := Heap.FunFrames.sameBut hs₂ hn₂ f1
  have he2 : h₂.get? e = some oe := (hs₂.2 e (neC e oe he ⟨vs, hd⟩)).trans he
  have t2 : HandSPX.TracedZ h₂ base e Z (rawInt L) := ⟨oe, vs, T, oT, ts, he2, hz, hd, h1, hnT, hTe, (hs₂.2 T (neC T oT hT ⟨ts, hdT⟩)).trans hT, hdT, h3⟩
  unfold PySem.passOn
  refine wpAny_bind (wpAny_field (s := { s with heap := h₂ }) he2 hd h1 ?_)
  rw [if_neg (show ¬ ((Value.ref T == Value.none) = true) from by simp)]
  rw [hf]
  refine wpAny_bind (HandSPX.setFlight_anyZ (s := { s with heap := h₂ }) (l := l) (fr := some L) b2 f2 t2 fun h₃ b3 f3 t3 k3 => ?_)
  exact wpAny_throw (hQ h₃ ⟨b3, b0, f3, t3⟩ fun b o hb hbL hnf => k3 b o ((hs₂.2 b hbL).trans hb) hnf)
end

/-- what the exceptions of a comprehension's block owe -/
def xeB (X : Cx) (use : Option (Value → Sem Unit)) (Qf : Value → Shared → Prop) (acc : Value) (ce : Env) : Value → Shared → Prop :=
  notedBy (model X.prog X.w) X.A ce fun e s' => compEnds (model X.prog X.w) X.A X.xe use Qf acc ce (.error e) s'
theorem takes_blk {X : Cx} {W : WX} {pins : List (Addr × Obj)} {σ : L2.St} {H3 : Hp} {s3 : Shared} {scope : Scope} {fp : List Addr} {ce : Env} {use : Option (Value → Sem Unit)} {Qf : Value → Shared → Prop} {acc : Value}
    (tk : Takes X W) (hs : X.stack = X.env :: X.outer) (hf : X.env.frame = some X.env.locals) (I3 : Inv X pins σ H3 s3) (hcf : ce.frame = X.env.frame) (hC : s3.heap.objs.size ≤ ce.locals)
    (hch : ∀ b ∈ fp, (b ∈ X.ex ∨ X.s_0.heap.objs.size ≤ b) ∧ b ≠ X.env.locals ∧ (∀ x c, X.env.cells.lookup x = some c → c ≠ b) ∧ ∀ p ∈ X.pn ++ pins, p.1 ≠ b) :
    Takes ((X.blk s3 H3 scope ce fp).tr [] (xeB X use Qf acc ce)) (fun c d _ H' => W c d σ H') := by
  rintro u s' ⟨a, B, sI, pinsB, σB, H', cls, d, rfl, IB, nb, up, sky, na, os, ag, w⟩
  have hfr : X.A.frames = some (X.env :: X.outer) := by rw [I3.ok.frames, hs]
  have lL : X.env.locals < s3.heap.objs.size := I3.lt
  have neL : ce.locals ≠ X.env.locals := fun z => Nat.lt_irrefl _ (Nat.lt_of_lt_of_le lL (by rw [← z]; exact hC))
  have neS : ∀ b o, s3.heap.get? b = some o → b ≠ ce.locals := fun b o q z => Nat.lt_irrefl _ (Nat.lt_of_lt_of_le (Heap.lt_size q) (by rw [z]; exact hC))
  have hHC : H' ce.locals = none := IB.free
  show wpAny (model X.prog X.w) X.A (noteFrame (.ref a) ce) _ _ s'
  rw [noteFrame_env _ hcf]
  -- the grounds without the block
  obtain ⟨B', gB1, gB2⟩ := restrict B fun b => !decide (b = ce.locals)
  obtain ⟨G, gG1, gG2⟩ := restrict sI.heap fun b => !decide (b = ce.locals)
  have B'of : ∀ b o, B'.get? b = some o → B.get? b = some o ∧ b ≠ ce.locals := fun b o q => by
    by_cases e : b = ce.locals
    · rw [gB2 b (by simp [e])] at q; cases q
    · exact ⟨by rw [← gB1 b (by simp [e])]; exact q, e⟩
  have Gof : ∀ b o, G.get? b = some o → sI.heap.get? b = some o ∧ b ≠ ce.locals := fun b o q => by
    by_cases e : b = ce.locals
    · rw [gG2 b (by simp [e])] at q; cases q
    · exact ⟨by rw [← gG1 b (by simp [e])]; exact q, e⟩
  have toG : ∀ b o, b ≠ ce.locals → sI.heap.get? b = some o → G.get? b = some o := fun b o e q => by rw [gG1 b (by simp [e])]; exact q
  have none' : ∀ b, B.get? b = none → B'.get? b = none := fun b q => by
    cases e : B'.get? b with
    | none => rfl
    | some o => rw [(B'of b o e).1] at q; cases q
  have IX : Inv X pins σ H' { sI with heap := G } := by
    refine I3.call' (ch := fp) IB.os ⟨fun b o q n h1 h2 => toG b o (neS b _ q) (IB.base.keep b o q n h1 h2), fun b o q n h1 h2 => ?_, fun b o q n h => IB.base.free b o q n h, fun b o q h => ?_, IB.base.tups, IB.base.frzs, IB.base.tbls⟩ ?_ IB.bare hch
    · obtain ⟨sl, e⟩ := IB.base.slot b o q n h1 h2
      exact ⟨sl, toG b _ (neS b _ q) e⟩
    · obtain ⟨o', e⟩ := IB.base.there b o q h
      exact ⟨o', toG b _ (neS b _ q) e⟩
    · exact fun b o q => (IB.hok b o q).stay (fun c u hc e => toG c u (fun z => by
        rcases hc with hc | hc
        · rw [← hc, z, hHC] at q; cases q
        · rw [z, hHC] at hc; cases hc) e) (fun _ z => z) fun _ _ z => z
  have key : ∀ h1, HandSPX.HeldZ B (X.env :: X.outer) a (Zc cls d) X.env.locals h1 → s'.heap.UpToSlots h1 → compEnds (model X.prog X.w) X.A X.xe use Qf acc ce (.error (.ref a)) { s' with heap := h1 } := fun h1 hh up1 => by
    obtain ⟨x1, x2, x3, oe, vs, T, oT, ts, he, hz, hd, y1, hnT, hTe, hT, hdT, y3⟩ := hh
    obtain ⟨m, hn, _⟩ := IB.loc
    have hn1 : h1.Ns ce.locals m := Heap.Ns.upToSlots (Heap.Ns.upToSlots hn up) up1
    have cf : CompFails (model X.prog X.w) X.A X.xe ce (.ref a) { s' with heap := h1 } := by
      refine compFailsZ (base := B') (l := X.env :: X.outer) (Z := Zc cls d) (L := X.env.locals) (hcf.trans hf) (gB2 _ (by simp)) hn1
        ⟨fun b o q => x1 b o (B'of b o q).1, none' a x2, funFrames_none x3 fun L hL => none' L (x3.mem hL).1, oe, vs, T, oT, ts, he, hz, hd, y1, none' T hnT, hTe, hT, hdT, y3⟩ fun h3 hH hk => ?_
      refine tk _ _ ⟨a, B', { sI with heap := G }, pins, σ, H', cls, d, rfl, IX, fun b o q hb => ?_, fun b o q hnf => ?_, .inr (.inr (by rw [hs]; exact hH)), na, os, ag, w⟩
      · obtain ⟨q1, q2⟩ := Gof b o q
        rw [gB1 b (by simp [q2])]
        exact nb b o q1 hb
      · obtain ⟨q1, q2⟩ := Gof b o q
        obtain ⟨sl, e1⟩ := up b o q1 hnf
        obtain ⟨sl2, e2⟩ := up1 b _ e1 hnf
        obtain ⟨sl3, e3⟩ := hk b _ e2 q2 hnf
        exact ⟨sl3, e3⟩
    cases use <;> exact cf
  have sky' : Sky B (X.env :: X.outer) a (Zc cls d) ce.locals s'.heap := by
    have z : Sky B X.stack a (Zc cls d) ce.locals s'.heap := sky
    rw [hs] at z
    exact z
  rcases sky' with ⟨hB, hn, hl, oe, vs, he, hz, hd, h1⟩ | fl | hd
  · exact HandSPX.look_newZ Zc.steady hfr hl hf he hB hn hd h1 hz fun h' a1 a2 => key h' a1 a2
  · exact HandSPX.looks_onZ Zc.steady hfr hf fl fun h' a1 a2 => key h' a1 a2
  · obtain ⟨x1, x2, x3, x4⟩ := hd
    refine notesZ Zc.steady hfr hf x1 x2 x3 x4 ?_ fun h' a1 a2 => key h' a1 a2
    have z : (ce.locals : Int) ≠ (X.env.locals : Int) := fun e => neL (Int.ofNat.inj e)
    simp [rawInt, z]

/-! ### iterators, in whatever context is good for them -/
structure TurnG (good : Cx → Prop) (P : Program) (w : World) (K : PySem.W.Frag) (tg : Expr) (J : It) (fp : List Addr) (it : Addr) (tn : Nat → Heap → Prop) : Prop where
  obj : ∀ i h, tn i h → ∀ b ∈ fp, ∃ o, h.get? b = some o ∧ ∀ v, o.data ≠ .cell v
  keep : ∀ i h h', tn i h → (∀ b ∈ fp, ∀ o, h.get? b = some o → h'.get? b = some o) → tn i h'
  item : ∀ (X : Cx), X.prog = P → X.w = w → X.K = K → good X → ∀ (i : Nat) (pins : List (Addr × Obj)) (s : Shared) (σ : L2.St) (H : Hp) (E : Value → Shared → Prop), Inv X pins σ H s → (∀ b ∈ fp, FpOk X pins H b) → tn i s.heap → J.go i H →
    wpAny (model P w) X.A (pyNext (.ref it)) (fun r s1 => ∃ u, r = some u ∧
      wpAny (model P w) X.A (letOwnedTupleGo tg (.ref it) u) (fun _ s2 => ∃ x H', Inv X pins σ H' s2 ∧ RelV x u ∧ J.yld i H x H' ∧ tn (i + 1) s2.heap ∧ ∀ b ∈ fp, H' b = none) E s1) E s
  done : ∀ (X : Cx), X.prog = P → X.w = w → X.K = K → good X → ∀ (i : Nat) (pins : List (Addr × Obj)) (s : Shared) (σ : L2.St) (H : Hp) (E : Value → Shared → Prop), Inv X pins σ H s → (∀ b ∈ fp, FpOk X pins H b) → tn i s.heap → J.stop i H →
    wpAny (model P w) X.A (pyNext (.ref it)) (fun r s1 => r = none ∧ Inv X pins σ H s1) E s
  self : ∀ (A : Around) (i : Nat) (s : Shared) (Q : Value → Shared → Prop) (E : Value → Shared → Prop), tn i s.heap → Q (.ref it) s → wpAny (model P w) A (pyIter (.ref it)) Q E s
def PIG (good : Cx → Prop) (X : Cx) (tg iter : Expr) (wi : TI) : Prop :=
  ∀ (pins : List (Addr × Obj)) (s : Shared) (σ : L2.St) (H : Hp) (R : It → Hp → Prop), Inv X pins σ H s → wi σ H R →
    wpAny (model X.prog X.w) X.A (eval iter X.env) (fun v s1 => wpAny (model X.prog X.w) X.A (pyIter v) (fun itv s2 =>
      ∃ (it : Addr) (fp : List Addr) (tn : Nat → Heap → Prop) (J : It) (H' : Hp), itv = .ref it ∧ Inv X pins σ H' s2 ∧ TurnG good X.prog X.w X.K tg J fp it tn ∧ tn 0 s2.heap ∧ (∀ b ∈ fp, FpOk X pins H' b) ∧ R J H') X.xe s1) X.xe s
abbrev Calm (X : Cx) : Prop := X.calm = true
theorem TurnG.of {P : Program} {w : World} {K : PySem.W.Frag} {tg : Expr} {J : It} {fp : List Addr} {it : Addr} {tn : Nat → Heap → Prop} (T : Turn P w K tg J fp it tn) : TurnG Calm P w K tg J fp it tn := ⟨T.obj, T.keep, T.item, T.done, T.self⟩
theorem PIG.of {X : Cx} {tg iter : Expr} {wi : TI} (h : PI X tg iter wi) : PIG Calm X tg iter wi := fun pins s σ H R I q => thn (h.run pins s σ H R I q) fun _ _ h1 => thn h1 fun _ _ ⟨it, fp, tn, J, H', e, I', T, a, b, c⟩ => ⟨it, fp, tn, J, H', e, I', .of T, a, b, c⟩

/-! ### the comprehension -/
def lcxA (g : WG) (tt : WT) (te : WE) (js : List Nat) (still : Sto → Prop) (ρ : DEnv) (p : Addr) (E : XA) : List D → List D → Sto → (List D → Sto → Prop) → Prop
  | [], acc, S, Q => still S ∧ S p = some (.lst acc) ∧ Q acc S
  | x :: xs, acc, S, Q => still S ∧ g x (wipeA ρ js) S fun ρ2 S2 => tt ρ2 S2 (fun b S3 =>
      if b = true then te ρ2 S3 (fun y S4 => S4 p = some (.lst acc) ∧ acc.length < sizeLine ∧ lcxA g tt te js still ρ p E xs (acc ++ [y]) (put S4 p (.lst (acc ++ [y]))) Q) E
      else lcxA g tt te js still ρ p E xs acc S3 Q) E
def wLcX (wi : WI) (g : WG) (tt : WT) (te : WE) (js : List Nat) : WE := fun ρ S Q E => wi ρ S (fun it S1 => ∀ p, S1 p = none → lcxA g tt te js it.still ρ p E it.items [] (put S1 p (.lst [])) (fun _ S2 => Q (.ref p) S2)) E
theorem lcxA_still {g : WG} {tt : WT} {te : WE} {js : List Nat} {still : Sto → Prop} {ρ : DEnv} {p : Addr} {E : XA} {xs acc : List D} {S : Sto} {Q : List D → Sto → Prop} (h : lcxA g tt te js still ρ p E xs acc S Q) : still S := by
  cases xs with
  | nil => exact h.1
  | cons x xs => exact h.1

/-- the block of a comprehension, what is wanted of its exceptions -/
abbrev Cx.blx (X : Cx) (s : Shared) (H : Hp) (scope : Scope) (ce : Env) (fp : List Addr) (xe : Value → Shared → Prop) : Cx := (X.blk s H scope ce fp).tr X.pn xe
theorem blx_start {X : Cx} {pins : List (Addr × Obj)} {σ : L2.St} {H : Hp} {s : Shared} {scope : Scope} {own : List (Str × Nat)} {fp : List Addr} {xe : Value → Shared → Prop} (I : Inv X pins σ H s) (ok : BlkOk X.N X.env.scope scope own) (hN : X.N.Nodup) (hfp : ∀ b ∈ fp, FpOk X pins H b ∧ b < s.heap.objs.size) :
    Inv (Cx.blx X s H scope (compEnvC scope (cellsFrom (s.heap.objs.size + 1) scope.names (cloFrom X.env.cells scope.names [])) s.heap.objs.size X.env) fp xe) [] (L2.wipe σ (own.map (·.2))) H { s with heap := pushCells (s.heap.push { cls := .type "dict", data := .dict #[] }) scope.names } := by
  have J := block_start I ok hN hfp
  refine ⟨⟨J.ok.mod, J.ok.kind, J.ok.glob, J.ok.blt, J.ok.above, J.ok.inj, J.ok.has, J.ok.cab, J.ok.hd, J.ok.frames, J.ok.stk, J.ok.exf, J.ok.bs, J.ok.bsz, J.ok.noex, J.ok.exfs, J.ok.funs, J.ok.frf⟩, J.os, J.bare, J.base, J.loc, J.cell, J.free, J.freeC, fun p hp => ?_, J.hok, J.len⟩
  have hp' : p ∈ X.pn ++ pins := List.mem_append_left _ (by simpa using hp)
  obtain ⟨a1, a2, a3, a4, a5⟩ := I.pin p hp'
  refine ⟨pushCells_keeps _ _ _ _ (Heap.get?_push_of_some _ a1), a2, fun z => ?_, fun z => ?_, a5⟩
  · have z : p.1 = s.heap.objs.size := z
    exact Nat.lt_irrefl _ (Nat.lt_of_lt_of_le (Heap.lt_size a1) (Nat.le_of_eq z.symm))
  · rcases List.mem_cons.mp (I.stkSub p.1 z) with z | z
    · exact a3 z
    · exact a4 z
theorem takes_blx {X : Cx} {W : WX} {pins : List (Addr × Obj)} {σ : L2.St} {H3 : Hp} {s3 : Shared} {scope : Scope} {fp : List Addr} {ce : Env} {use : Option (Value → Sem Unit)} {Qf : Value → Shared → Prop} {acc : Value}
    (tk : Takes X W) (hs : X.stack = X.env :: X.outer) (hf : X.env.frame = some X.env.locals) (I3 : Inv X pins σ H3 s3) (hcf : ce.frame = X.env.frame) (hC : s3.heap.objs.size ≤ ce.locals)
    (hch : ∀ b ∈ fp, (b ∈ X.ex ∨ X.s_0.heap.objs.size ≤ b) ∧ b ≠ X.env.locals ∧ (∀ x c, X.env.cells.lookup x = some c → c ≠ b) ∧ ∀ p ∈ X.pn ++ pins, p.1 ≠ b) :
    Takes (Cx.blx X s3 H3 scope ce fp (xeB X use Qf acc ce)) (fun c d _ H' => W c d σ H') := fun u s' ⟨a, B, sI, pinsB, σB, H', cls, d, e, IB, r⟩ =>
  takes_blk tk hs hf I3 hcf hC hch u s' ⟨a, B, sI, pinsB, σB, H', cls, d, e, ⟨⟨IB.ok.mod, IB.ok.kind, IB.ok.glob, IB.ok.blt, IB.ok.above, IB.ok.inj, IB.ok.has, IB.ok.cab, IB.ok.hd, IB.ok.frames, IB.ok.stk, IB.ok.exf, IB.ok.bs, IB.ok.bsz, IB.ok.noex, IB.ok.exfs, IB.ok.funs, IB.ok.frf⟩, IB.os, IB.bare, IB.base, IB.loc, IB.cell, IB.free, IB.freeC, fun p hp => IB.pin p (List.mem_append_right _ (by simpa using hp)), IB.hok, IB.len⟩, r⟩

section
variable {X : Cx} {W : WX} {good : Cx → Prop} {elt tg iter : Expr} {ifs : List Expr} {scope : Scope} {own : List (Str × Nat)} {pos pos' : Pos} {wi : WI} {g : WG} {tt : WT} {te : WE}
theorem lcx_core {pins : List (Addr × Obj)} {s : Shared} {σ : L2.St} {H : Hp} {Q : VK} {use : Option (Value → Sem Unit)} {Qf : Value → Shared → Prop}
    (gb : ∀ s H ce fp xe, good (Cx.blx X s H scope ce fp xe)) (tk : Takes X W) (hst : X.stack = X.env :: X.outer) (hf : X.env.frame = some X.env.locals) (hN : X.N.Nodup) (I : Inv X pins σ H s) (hi : PIG good X tg iter (cI X.K W wi)) (ok : BlkOk X.N X.env.scope scope own)
    (hg : ∀ (s : Shared) (H : Hp) (C : Addr) (cl : List (Str × Addr)) (fp : List Addr) (xe : Value → Shared → Prop), RG (Cx.blx X s H scope (compEnvC scope cl C X.env) fp xe) (own.map (·.2)) tg g)
    (ht : ∀ (s : Shared) (H : Hp) (C : Addr) (cl : List (Str × Addr)) (fp : List Addr) (xe : Value → Shared → Prop) (W' : WX), Takes (Cx.blx X s H scope (compEnvC scope cl C X.env) fp xe) W' → RTs (Cx.blx X s H scope (compEnvC scope cl C X.env) fp xe) W' ifs tt)
    (he : ∀ (s : Shared) (H : Hp) (C : Addr) (cl : List (Str × Addr)) (fp : List Addr) (xe : Value → Shared → Prop) (W' : WX), Takes (Cx.blx X s H scope (compEnvC scope cl C X.env) fp xe) W' → RE (Cx.blx X s H scope (compEnvC scope cl C X.env) fp xe) W' elt te)
    (hs : ∀ x, foldedSetIterable iter X.env x = pure x) (h : cE X.K W (wLcX wi g tt te (own.map (·.2))) σ H Q)
    (hRR : ∀ D C s' m H', Inv X pins σ H' s' → Q (.ref D) H' → s'.heap.Ns C m → FpOk X pins H' C → compPost (model X.prog X.w) X.A X.xe use Qf (.ref D) C (.ok .next) s') :
    wpAny (model X.prog X.w) X.A (comprehension (.ListComp elt [⟨tg, iter, ifs, 0⟩] scope pos) scope X.env pos' (newList []) false (eval iter X.env) use) Qf X.xe s := by
  obtain ⟨ρ, S, QA, EA, rs, rp, hw, k, x⟩ := h
  have hcl : ∀ y ∈ scope.names, y.2 = .free → ∃ c, X.env.cells.lookup y.1 = some c := fun y hy e => (ok.free y hy e).elim (fun z => I.ok.has _ (.inl z)) fun z => I.ok.has _ (.inr z)
  refine comprehension_at (use := use) rfl hs (closure_ok hcl) ok.kind (fun y hy e => by rw [ok.uniq y hy, e])
    (thn (hi pins s σ H (fun J H1 => ∃ ai S1, Le H H1 ∧ Rep X.K H1 S1 ∧ ISim X.K H1 J ai ∧ ∀ p, S1 p = none → lcxA g tt te (own.map (·.2)) ai.still ρ p EA ai.items [] (put S1 p (.lst [])) fun _ S2 => QA (.ref p) S2) I
      ⟨ρ, S, _, EA, rs, rp, hw, fun ai S1 J H1 q l r sim => ⟨ai, S1, l, r, sim, q⟩, x⟩) fun xv s1 hx => thn hx fun itv s2 h2 => ?_)
  obtain ⟨it, fp, tn, J, H2, rfl, I2, T, st2, f2, ai, S2, l2, r2, sim, q2⟩ := h2
  refine wpAny_newObj_type (newEnv_comp ?_) (by show 0 ≤ sizeLine; decide)
  obtain ⟨Dl, hD⟩ : ∃ Dl, s2.heap.objs.size = Dl := ⟨_, rfl⟩
  have nD : H2 Dl = none := I2.hok.fresh (Nat.le_of_eq hD)
  have l3 : Le H2 (upd H2 Dl (.lst [])) := Le.new nD
  have r3 : Rep X.K (upd H2 Dl (.lst [])) (put S2 Dl (.lst [])) := r2.newP nD ⟨[], upd_same, repL_nil⟩
  have q3 := q2 Dl (r2.free nD)
  obtain ⟨s3, e3⟩ : ∃ s3 : Shared, s3 = { s2 with heap := s2.heap.push { cls := .type "list", data := .seq ([] : List Value).toArray } } := ⟨_, rfl⟩
  have h3 : s3.heap = s2.heap.push { cls := .type "list", data := .seq ([] : List Value).toArray } := by rw [e3]
  have I3 : Inv X pins σ (upd H2 Dl (.lst [])) s3 := by
    rw [e3]
    exact I2.laid (t' := s2.toks) (fun b o e => Heap.get?_push_of_some _ e) (Nat.le_of_eq hD) ⟨Nat.zero_le _, [], 0, .nil, by rw [← hD]; exact Heap.get?_push_size _ rfl⟩
  have f3 : ∀ b ∈ fp, FpOk X pins (upd H2 Dl (.lst [])) b ∧ b < s3.heap.objs.size := fun b hb => by
    obtain ⟨o, e, _⟩ := T.obj _ _ st2 b hb
    have lt := Heap.lt_size e
    refine ⟨⟨?_, (f2 b hb).2⟩, by rw [h3, Heap.size_push]; exact Nat.lt_succ_of_lt lt⟩
    rw [upd_ne (fun z => Nat.lt_irrefl _ (by rw [z, ← hD] at lt; exact lt))]
    exact (f2 b hb).1
  obtain ⟨cl, hcle⟩ : ∃ cl, cl = cellsFrom (s3.heap.objs.size + 1) scope.names (cloFrom X.env.cells scope.names []) := ⟨_, rfl⟩
  obtain ⟨ce, hce⟩ : ∃ ce, ce = compEnvC scope cl s3.heap.objs.size X.env := ⟨_, rfl⟩
  have cL : ce.locals = s3.heap.objs.size := by rw [hce]; rfl
  obtain ⟨xe, hxe⟩ : ∃ xe, xe = xeB X use Qf (.ref Dl) ce := ⟨_, rfl⟩
  obtain ⟨H3, hH3⟩ : ∃ H3, H3 = upd H2 Dl (.lst []) := ⟨_, rfl⟩
  obtain ⟨Y, hY⟩ : ∃ Y, Y = Cx.blx X s3 H3 scope ce fp xe := ⟨_, rfl⟩
  obtain ⟨s4, e4⟩ : ∃ s4 : Shared, s4 = { s3 with heap := pushCells (s3.heap.push { cls := .type "dict", data := .dict #[] }) scope.names } := ⟨_, rfl⟩
  have I4 : Inv Y [] (L2.wipe σ (own.map (·.2))) H3 s4 := by
    rw [hY, e4, hH3, hce, hcle]
    exact blx_start I3 ok hN f3
  rw [← hH3] at I3 f3 l3 r3
  have st4 : tn 0 s4.heap := T.keep _ _ _ st2 fun b _ o e => by
    rw [e4]
    exact pushCells_keeps _ _ _ _ (Heap.get?_push_of_some _ (by rw [h3]; exact Heap.get?_push_of_some _ e))
  have tkY : Takes Y fun c d _ H' => W c d σ H' := by
    rw [hY, hxe]
    exact takes_blx tk hst hf I3 (by rw [hce]; rfl) (Nat.le_of_eq cL.symm) fun b hb => ⟨(f3 b hb).1.2.2.2.1, (f3 b hb).1.2.1, (f3 b hb).1.2.2.2.2.1, (f3 b hb).1.2.2.2.2.2⟩
  have gY : good Y := by rw [hY]; exact gb _ _ _ _ _
  have pY : Y.prog = X.prog ∧ Y.w = X.w ∧ Y.K = X.K ∧ Y.A = X.A ∧ Y.env = ce ∧ Y.pn = X.pn ∧ Y.ex = fp := by rw [hY]; exact ⟨rfl, rfl, rfl, rfl, rfl, rfl, rfl⟩
  obtain ⟨y1, y2, y3, y4, y5, y6, y7⟩ := pY
  have pg : RG Y (own.map (·.2)) tg g := by rw [hY, hce]; exact hg _ _ _ _ _ _
  have pt : RTs Y (fun c d _ H' => W c d σ H') ifs tt := by
    rw [hY, hce] at tkY ⊢
    exact ht _ _ _ _ _ _ _ tkY
  have pe : RE Y (fun c d _ H' => W c d σ H') elt te := by
    rw [hY, hce] at tkY ⊢
    exact he _ _ _ _ _ _ _ tkY
  -- the iterator's objects stay its own
  have own' : ∀ {σ' : L2.St} {H' : Hp} {s' : Shared}, Inv Y [] σ' H' s' → (∀ b ∈ fp, H' b = none) → ∀ b ∈ fp, FpOk Y [] H' b := fun {σ' H' s'} I' hn b hb =>
    ⟨hn b hb, (I'.ok.exf b (by rw [y7]; exact hb)).1, I'.ok.exfs b (by rw [y7]; exact hb), .inl (by rw [y7]; exact hb), fun x c e => (I'.ok.exf b (by rw [y7]; exact hb)).2 x c e, fun p hp => by
      have hp' : p ∈ X.pn := by rw [y6] at hp; simpa using hp
      exact (f3 b hb).1.2.2.2.2.2 p (List.mem_append_left _ hp')⟩
  let T1 (i : Nat) (s' : Shared) (H' : Hp) (S' : Sto) (acc : List D) : Prop := Inv Y [] (L2.wipe σ (own.map (·.2))) H' s' ∧ tn i s'.heap ∧ (∀ b ∈ fp, H' b = none) ∧ i ≤ ai.items.length ∧ Le H2 H' ∧ Rep X.K H' S' ∧
    lcxA g tt te (own.map (·.2)) ai.still ρ Dl EA (ai.items.drop i) acc S' fun _ S2 => QA (.ref Dl) S2
  show codeAny (model X.prog X.w) X.A (.compStart (.ListComp elt [⟨tg, iter, ifs, 0⟩] scope pos) 0 (.ref it) (.ref s2.heap.objs.size) _) (compEnds (model X.prog X.w) X.A X.xe use Qf (.ref s2.heap.objs.size) _) _
  rw [hD]
  have loop : codeAny (model X.prog X.w) X.A (.compLoop (.ListComp elt [⟨tg, iter, ifs, 0⟩] scope pos) 0 (.ref it) (.ref Dl) ce) (compEnds (model X.prog X.w) X.A X.xe use Qf (.ref Dl) ce) s4 := by
    refine compLoop_any (fun n s' => ∃ i H' S' acc, n = ai.items.length - i ∧ T1 i s' H' S' acc) ?_ _ ⟨0, H3, _, [], rfl, I4, st4, fun b hb => (f3 b hb).1.1, Nat.zero_le _, l3, r3, q3⟩
    rintro n s5 ⟨i, H5, S5, acc, rfl, I5, st5, n5, hi5, l5, r5, q5⟩
    obtain ⟨sg, ss⟩ := sim i H5 S5 l5 r5 (lcxA_still q5)
    have xeq : ∀ {u : Value} {s' : Shared}, Y.xe u s' → notedBy (model X.prog X.w) X.A ce (fun e s' => compEnds (model X.prog X.w) X.A X.xe use Qf (.ref Dl) ce (.error e) s') u s' := fun {u s'} z => by
      rw [hY, hxe] at z
      exact z
    cases hd : ai.items.drop i with
    | nil =>
      rw [hd] at q5
      have hle : ai.items.length ≤ i := by
        have := congrArg List.length hd
        simp only [List.length_drop, List.length_nil] at this
        omega
      have td := T.done Y y1 y2 y3 gY i [] s5 _ H5 (fun _ _ => False) I5 (own' I5 n5) st5 (ss hle)
      rw [y4] at td
      refine thnF td fun r s6 ⟨hr, I6⟩ => ?_
      subst hr
      have I6' : Inv (Cx.blx X s3 H3 scope ce fp xe) [] (L2.wipe σ (own.map (·.2))) H5 s6 := by rw [← hY]; exact I6
      have I7 : Inv X pins σ H5 s6 := I3.call' (ch := fp) I6'.os I6'.base I6'.hok I6'.bare fun b hb => ⟨(f3 b hb).1.2.2.2.1, (f3 b hb).1.2.1, (f3 b hb).1.2.2.2.2.1, (f3 b hb).1.2.2.2.2.2⟩
      have nC : H5 s3.heap.objs.size = none := by
        have z : H5 ce.locals = none := I6'.free
        rw [cL] at z
        exact z
      obtain ⟨m, hn, _⟩ := I6'.loc
      have hn : s6.heap.Ns ce.locals m := hn
      have z := hRR Dl s3.heap.objs.size s6 m H5 I7 (k _ _ _ _ q5.2.2 (l2.trans l5) r5 (by unfold RepV; rfl)) (by rw [← cL]; exact hn) (I3.fpOk (Nat.le_refl _) nC)
      rw [← cL] at z
      cases use <;> exact z
    | cons d r =>
      rw [hd] at q5
      obtain ⟨e1, e2⟩ := drop_cons hd
      have hlt : i < ai.items.length := (List.getElem?_eq_some_iff.mp e1).1
      obtain ⟨go, yl⟩ := sg d e1
      have ti := T.item Y y1 y2 y3 gY i [] s5 _ H5 (fun _ _ => False) I5 (own' I5 n5) st5 go
      rw [y4] at ti
      refine thnF ti fun u s6 ⟨v, hv, h6⟩ => ?_
      subst hv
      refine thnF h6 fun _ s7 ⟨xv, H7, I7, r7, y8, st7, n7⟩ => ?_
      obtain ⟨l7, rp7, p7⟩ := yl xv H7 y8
      have I7' := I7.pinned (own' I7 n7) (T.obj _ _ st7)
      have rsw : RepS X.K H7 (wipeA ρ (own.map (·.2))) (L2.wipe σ (own.map (·.2))) := (rs.le ((l2.trans l5).trans l7)).wipe _
      have ag0 : ∀ {H' : Hp}, Le H7 H' → Le H H' := fun l => ((l2.trans l5).trans l7).trans l
      -- the turn's end
      have fin : ∀ {σ8 : L2.St} {s' : Shared} {H' : Hp} {S' : Sto} {acc' : List D}, Agr (own.map (·.2)) (L2.wipe σ (own.map (·.2))) σ8 → Inv Y ([] ++ pinsAt fp s7.heap) σ8 H' s' → Le H7 H' → Rep X.K H' S' →
          (lcxA g tt te (own.map (·.2)) ai.still ρ Dl EA r acc' S' fun _ S2 => QA (.ref Dl) S2) → ∃ m, m < ai.items.length - i ∧ ∃ i H' S' acc, m = ai.items.length - i ∧ T1 i s' H' S' acc := fun {σ8 s' H' S' acc'} ag I' l' rp' q' => by
        have pin' : ∀ b ∈ fp, ∀ o, s7.heap.get? b = some o → s'.heap.get? b = some o ∧ H' b = none := fun b hb o e =>
          have z := I'.pin (b, o) (List.mem_append_right _ (List.mem_append_right _ (mem_pinsAt hb e)))
          ⟨z.1, z.2.1⟩
        have hw8 : L2.wipe σ8 (own.map (·.2)) = L2.wipe σ (own.map (·.2)) := wipe_agr ag
        refine ⟨ai.items.length - (i + 1), by omega, i + 1, H', S', acc', rfl, (I'.unpinned (pins := [])).weak (by rw [← hw8, wipe_length]) (fun j v e => by rw [← hw8] at e; exact (wipe_some e).1),
          T.keep _ _ _ st7 fun b hb o e => (pin' b hb o e).1, fun b hb => ?_, hlt, (l5.trans l7).trans l', rp', by rw [e2]; exact q'⟩
        obtain ⟨o, e, _⟩ := T.obj _ _ st7 b hb
        exact (pin' b hb o e).2
      have agX : ∀ {H' : Hp} {σ' : L2.St}, Le H7 H' → XOk X.K (fun c d _ H' => W c d σ H') H' σ' EA := fun l c S' H' e l' r' => x c S' H' e ((ag0 l).trans l') r'
      have run1 := pg.run _ s7 _ H7 xv v (fun σ8 H8 => ∃ ρ8 S8, Le H7 H8 ∧ RepS X.K H8 ρ8 σ8 ∧ Rep X.K H8 S8 ∧ Agr (own.map (·.2)) (L2.wipe σ (own.map (·.2))) σ8 ∧ tt ρ8 S8 (fun b S3 =>
        if b = true then te ρ8 S3 (fun y S4 => S4 Dl = some (.lst acc) ∧ acc.length < sizeLine ∧ lcxA g tt te (own.map (·.2)) ai.still ρ Dl EA r (acc ++ [y]) (put S4 Dl (.lst (acc ++ [y]))) fun _ S2 => QA (.ref Dl) S2) EA
        else lcxA g tt te (own.map (·.2)) ai.still ρ Dl EA r acc S3 fun _ S2 => QA (.ref Dl) S2) EA) I7' r7
        ⟨d, wipeA ρ (own.map (·.2)), S5, _, by rw [y3]; exact p7, by rw [y3]; exact rsw, by rw [y3]; exact rp7, q5.2, fun ρ8 S8 σ8 H8 q8 l8 rs8 rp8 ag => ⟨ρ8, S8, l8, by rw [y3] at rs8; exact rs8, by rw [y3] at rp8; exact rp8, ag, q8⟩⟩
      rw [y1, y2, y4, y5] at run1
      refine wpAny_mono run1 (fun _ s8 ⟨σ8, H8, I8, ρ8, S8, l8, rs8, rp8, ag, q8⟩ => ?_) fun u s' z => xeq z
      have run2 := pt.run _ s8 σ8 H8 (fun b H9 => ∃ S9, Le H8 H9 ∧ Rep X.K H9 S9 ∧ if b = true then te ρ8 S9 (fun y S4 => S4 Dl = some (.lst acc) ∧ acc.length < sizeLine ∧ lcxA g tt te (own.map (·.2)) ai.still ρ Dl EA r (acc ++ [y]) (put S4 Dl (.lst (acc ++ [y]))) fun _ S2 => QA (.ref Dl) S2) EA
        else lcxA g tt te (own.map (·.2)) ai.still ρ Dl EA r acc S9 fun _ S2 => QA (.ref Dl) S2) I8
        ⟨ρ8, S8, _, EA, by rw [y3]; exact rs8, by rw [y3]; exact rp8, q8, fun b S9 H9 q9 l9 r9 => ⟨S9, l9, by rw [y3] at r9; exact r9, q9⟩, by rw [y3]; exact agX l8⟩
      rw [y1, y2, y4, y5] at run2
      refine wpAny_mono run2 (fun b s9 ⟨H9, I9, S9, l9, rp9, q9⟩ => ?_) fun u s' z => xeq z
      cases b with
      | false =>
        simp only [Bool.false_eq_true, if_false] at q9 ⊢
        exact fin ag I9 (l8.trans l9) rp9 q9
      | true =>
        simp only [if_true] at q9 ⊢
        have run3 := pe.run _ s9 σ8 H9 (fun yv H10 => ∃ y S10, Le H9 H10 ∧ Rep X.K H10 S10 ∧ RepV X.K H10 y yv ∧ S10 Dl = some (.lst acc) ∧ acc.length < sizeLine ∧ lcxA g tt te (own.map (·.2)) ai.still ρ Dl EA r (acc ++ [y]) (put S10 Dl (.lst (acc ++ [y]))) fun _ S2 => QA (.ref Dl) S2) I9
          ⟨ρ8, S9, _, EA, by rw [y3]; exact rs8.le l9, by rw [y3]; exact rp9, q9, fun y S10 yv H10 q10 l10 r10 p10 => ⟨y, S10, l10, by rw [y3] at r10; exact r10, by rw [y3] at p10; exact p10, q10⟩, by rw [y3]; exact agX (l8.trans l9)⟩
        rw [y1, y2, y4, y5] at run3
        refine wpAny_mono run3 (fun z s10 ⟨yv, H10, I10, r10, y, S10, l10, rp10, p10, hD10, hz10, q10⟩ => ?_) fun u s' z => xeq z
        obtain ⟨vs, g1, g2⟩ := rp10 Dl _ hD10
        have ap := app_ok (X := Y) (E := fun _ _ => False) (Q := fun _ s' => Inv Y ([] ++ pinsAt fp s7.heap) σ8 (upd H10 Dl (.lst (vs ++ [yv]))) s') I10 g1 (by rw [g2.length]; exact hz10) r10 fun s11 I11 => I11
        rw [y1, y2, y4] at ap
        refine thnF ap fun _ s11 I11 => fin ag I11 (((l8.trans l9).trans l10).trans (rp10.le_put hD10)) (rp10.put (o := .lst (acc ++ [y])) hD10 ⟨_, upd_same, ?_⟩) q10
        exact (g2.append (repL_cons p10 repL_nil)).le (rp10.le_put hD10)
  have e4' : ce = compEnvC scope (cellsFrom (s3.heap.objs.size + 1) scope.names (cloFrom X.env.cells scope.names [])) s3.heap.objs.size X.env := by rw [hce, hcle]
  have fin2 := codeAny_compStart_list loop (T.self X.A 0 _ _ _ st4 loop)
  rw [e4', e4, e3] at fin2
  exact fin2

theorem pe_lcG (gb : ∀ s H ce fp xe, good (Cx.blx X s H scope ce fp xe)) (tk : Takes X W) (hst : X.stack = X.env :: X.outer) (hf : X.env.frame = some X.env.locals) (hN : X.N.Nodup) (hi : PIG good X tg iter (cI X.K W wi)) (ok : BlkOk X.N X.env.scope scope own)
    (hg : ∀ (s : Shared) (H : Hp) (C : Addr) (cl : List (Str × Addr)) (fp : List Addr) (xe : Value → Shared → Prop), RG (Cx.blx X s H scope (compEnvC scope cl C X.env) fp xe) (own.map (·.2)) tg g)
    (ht : ∀ (s : Shared) (H : Hp) (C : Addr) (cl : List (Str × Addr)) (fp : List Addr) (xe : Value → Shared → Prop) (W' : WX), Takes (Cx.blx X s H scope (compEnvC scope cl C X.env) fp xe) W' → RTs (Cx.blx X s H scope (compEnvC scope cl C X.env) fp xe) W' ifs tt)
    (he : ∀ (s : Shared) (H : Hp) (C : Addr) (cl : List (Str × Addr)) (fp : List Addr) (xe : Value → Shared → Prop) (W' : WX), Takes (Cx.blx X s H scope (compEnvC scope cl C X.env) fp xe) W' → RE (Cx.blx X s H scope (compEnvC scope cl C X.env) fp xe) W' elt te)
    (hs : ∀ x, foldedSetIterable iter X.env x = pure x := by intro _; rfl) : RE X W (.ListComp elt [⟨tg, iter, ifs, 0⟩] scope pos) (wLcX wi g tt te (own.map (·.2))) := by
  refine ⟨fun pins s σ H Q I h => ?_⟩
  rw [eval_ListComp]
  refine lcx_core gb tk hst hf hN I hi ok hg ht he hs h fun Dl C s' m H' I' q hn ⟨f0, f1, f2, f3, f4, f5⟩ => ⟨m, hn, fun h'' sb => ⟨.ref Dl, H', I'.turned (t' := s'.toks) (fun b o hb e => (sb.2 b hb).trans e) f0 f1 f3 f4 f5, rfl, q⟩⟩
/-- .. where nothing is handled -/
theorem re_lcX (hc : X.calm = true) (tk : Takes X W) (hst : X.stack = X.env :: X.outer) (hf : X.env.frame = some X.env.locals) (hN : X.N.Nodup) (hi : RI X W tg iter wi) (ok : BlkOk X.N X.env.scope scope own)
    (hg : ∀ (s : Shared) (H : Hp) (C : Addr) (cl : List (Str × Addr)) (fp : List Addr) (xe : Value → Shared → Prop), RG (Cx.blx X s H scope (compEnvC scope cl C X.env) fp xe) (own.map (·.2)) tg g)
    (ht : ∀ (s : Shared) (H : Hp) (C : Addr) (cl : List (Str × Addr)) (fp : List Addr) (xe : Value → Shared → Prop) (W' : WX), Takes (Cx.blx X s H scope (compEnvC scope cl C X.env) fp xe) W' → RTs (Cx.blx X s H scope (compEnvC scope cl C X.env) fp xe) W' ifs tt)
    (he : ∀ (s : Shared) (H : Hp) (C : Addr) (cl : List (Str × Addr)) (fp : List Addr) (xe : Value → Shared → Prop) (W' : WX), Takes (Cx.blx X s H scope (compEnvC scope cl C X.env) fp xe) W' → RE (Cx.blx X s H scope (compEnvC scope cl C X.env) fp xe) W' elt te)
    (hs : ∀ x, foldedSetIterable iter X.env x = pure x := by intro _; rfl) : RE X W (.ListComp elt [⟨tg, iter, ifs, 0⟩] scope pos) (wLcX wi g tt te (own.map (·.2))) :=
  pe_lcG (good := Calm) (fun _ _ _ _ _ => hc) tk hst hf hN (.of hi) ok hg ht he hs
theorem rs_setLcX {i : Nat} {y : Str} {py spos : Pos} (hc : X.calm = true) (tk : Takes X W) (hst : X.stack = X.env :: X.outer) (hf : X.env.frame = some X.env.locals) (hN : X.N.Nodup) (hy : X.N[i]? = some y) (hyl : X.env.scope.names.lookup y = some .local)
    (hsw : swapsWith (.ListComp elt [⟨tg, iter, ifs, 0⟩] scope pos) (some (.Name y py)) spos.line X.env = pure true) (hi : RI X W tg iter wi) (ok : BlkOk X.N X.env.scope scope own)
    (hg : ∀ (s : Shared) (H : Hp) (C : Addr) (cl : List (Str × Addr)) (fp : List Addr) (xe : Value → Shared → Prop), RG (Cx.blx X s H scope (compEnvC scope cl C X.env) fp xe) (own.map (·.2)) tg g)
    (ht : ∀ (s : Shared) (H : Hp) (C : Addr) (cl : List (Str × Addr)) (fp : List Addr) (xe : Value → Shared → Prop) (W' : WX), Takes (Cx.blx X s H scope (compEnvC scope cl C X.env) fp xe) W' → RTs (Cx.blx X s H scope (compEnvC scope cl C X.env) fp xe) W' ifs tt)
    (he : ∀ (s : Shared) (H : Hp) (C : Addr) (cl : List (Str × Addr)) (fp : List Addr) (xe : Value → Shared → Prop) (W' : WX), Takes (Cx.blx X s H scope (compEnvC scope cl C X.env) fp xe) W' → RE (Cx.blx X s H scope (compEnvC scope cl C X.env) fp xe) W' elt te)
    (hs : ∀ x, foldedSetIterable iter X.env x = pure x := by intro _; rfl) :
    RS X W (.Assign [.Name y py] (.ListComp elt [⟨tg, iter, ifs, 0⟩] scope pos) spos) (wAsg (wLcX wi g tt te (own.map (·.2))) (gN i)) := by
  refine ⟨fun pins s σ H Dn I ⟨ρ, S, AE, rs, rp, h, k⟩ => ?_⟩
  rw [exec_Assign_Name_used _ _ _ _ hsw]
  refine wpAny_bind (wpAny_standAt (wpAny_bind ?_))
  show wpAny _ X.A (do let _ ← comprehension (.ListComp elt [⟨tg, iter, ifs, 0⟩] scope pos) scope X.env (firstIterPos [⟨tg, iter, ifs, 0⟩] pos) (newList []) false (eval iter X.env) (some (assign (.Name y py) X.env))) _ _ s
  have hw : cE X.K W (wLcX wi g tt te (own.map (·.2))) σ H fun v H1 => Dn.nx (σ.set i (some v)) H1 := ⟨ρ, S, _, _, rs, rp, h, fun d S1 v H1 q l r p => k.nx _ S1 _ H1 q l ((rs.le l).set p i) r, k.x rs⟩
  refine wpAny_bind (thn (lcx_core (good := Calm) (Qf := fun _ s' => SP X pins Dn .next s') (fun _ _ _ _ _ => hc) tk hst hf hN I (.of hi) ok hg ht he hs hw fun Dl C s' m H' I' q hn ⟨f0, f1, f2, f3, f4, f5⟩ => ?_) fun _ s' hq => wpAny_pure (wpAny_pure hq))
  show wpAny _ _ (assign (.Name y py) X.env (.ref Dl)) _ _ _
  refine wpAny_assign_Name (store_ok2 (v := V.ref Dl) I' hN hy (.inl hyl) rfl (fun s2 I2 ⟨a, sb, ha⟩ => ?_) (.inr hyl))
  have ne : C ≠ a := by
    rcases ha with z | z
    · rw [z]; exact f1
    · exact fun e => f4 y a z e.symm
  exact ⟨m, hn.sameBut sb ne, fun h3 sb3 => ⟨_, H', I2.turned (t' := s2.toks) (fun b o hb e => (sb3.2 b hb).trans e) f0 f1 f3 f4 f5, q⟩⟩
end

/-! ### by an invariant; over the images of a list -/
theorem lcxA_inv {g : WG} {tt : WT} {te : WE} {js : List Nat} {still : Sto → Prop} {ρ : DEnv} {p : Addr} {E : XA} {Q : List D → Sto → Prop} : ∀ {xs acc : List D} {S : Sto} (I : Nat → List D → Sto → Prop), I 0 acc S → (∀ i acc S, I i acc S → still S ∧ S p = some (.lst acc)) →
    (∀ i x acc S (N : List D → Sto → Prop), xs[i]? = some x → (∀ acc' S', I (i + 1) acc' S' → N acc' S') → I i acc S → g x (wipeA ρ js) S fun ρ2 S2 => tt ρ2 S2 (fun b S3 =>
      if b = true then te ρ2 S3 (fun y S4 => S4 p = some (.lst acc) ∧ acc.length < sizeLine ∧ N (acc ++ [y]) (put S4 p (.lst (acc ++ [y])))) E else N acc S3) E) →
    (∀ acc S, I xs.length acc S → Q acc S) → lcxA g tt te js still ρ p E xs acc S Q
  | [], acc, S, I, h0, hs, _, hd => ⟨(hs _ _ _ h0).1, (hs _ _ _ h0).2, hd acc S h0⟩
  | x :: xs, acc, S, I, h0, hs, ht, hd => ⟨(hs _ _ _ h0).1, ht 0 x acc S (fun acc' S' => lcxA g tt te js still ρ p E xs acc' S' Q) rfl (fun acc' S' h => lcxA_inv (xs := xs) (fun i => I (i + 1)) h (fun i acc S => hs (i + 1) acc S) (fun i y acc S N e => ht (i + 1) y acc S N (by simpa using e)) hd) h0⟩
/-- each image gives an element, till one may raise (then no more is asked): f says what is had of it -/
theorem lcx_map {α : Type} {g : WG} {tt : WT} {te : WE} {js : List Nat} {still : Sto → Prop} {ρ : DEnv} {S : Sto} {E : XA} {Q : Addr → Sto → Prop} {ys : List α} {e : α → D} (f : α → D → Prop) (hz : ys.length ≤ 100000) (hs : ∀ S1, Kp [] S S1 → still S1)
    (step : ∀ x ∈ ys, ∀ S1, Kp [] S S1 → ∀ (N1 : D → Sto → Prop) (N2 : Sto → Prop), (∀ y S2, f x y → Kp [] S1 S2 → N1 y S2) → 
      g (e x) (wipeA ρ js) S1 fun ρ2 S2 => tt ρ2 S2 (fun b S3 => if b = true then te ρ2 S3 N1 E else N2 S3) E)
    (hq : ∀ p S2 zs, S p = none → Kp [] S S2 → Paired f ys zs → S2 p = some (.lst zs) → Q p S2) : ∀ p, S p = none → lcxA g tt te js still ρ p E (ys.map e) [] (put S p (.lst [])) (fun _ S2 => Q p S2) := fun p hp => by
  refine lcxA_inv (fun i acc S1 => Kp [] S S1 ∧ S1 p = some (.lst acc) ∧ Paired f (ys.take i) acc) ⟨Kp.new hp, put_same, by rw [List.take_zero]; exact .nil⟩ (fun i acc S1 h => ⟨hs S1 h.1, h.2.1⟩) ?_ ?_
  · rintro i x acc S1 N hx hN ⟨h1, h2, h3⟩
    rw [List.getElem?_map, Option.map_eq_some_iff] at hx
    obtain ⟨y, hy, rfl⟩ := hx
    have h4 : i < ys.length := (List.getElem?_eq_some_iff.mp hy).1
    have hl : acc.length < sizeLine := by
      rw [← h3.length, List.length_take]
      exact Nat.lt_of_lt_of_le (show min i ys.length < 100001 by omega) (by decide)
    have ht : ys.take (i + 1) = ys.take i ++ [y] := by rw [List.take_add_one, hy]; rfl
    refine step y (List.mem_of_getElem? hy) S1 h1 _ _ fun z S2 e k => ⟨k p _ h2 (by simp), hl, hN _ _ ⟨(h1.trans k).put (.inl hp), put_same, ?_⟩⟩
    rw [ht]
    have app : ∀ {l1 : List α} {l2 : List D}, Paired f l1 l2 → Paired f (l1 ++ [y]) (l2 ++ [z]) := fun h => by
      induction h with
      | nil => exact .cons e .nil
      | cons r _ ih => exact .cons r ih
    exact app h3
  · rintro acc S1 ⟨h1, h2, h3⟩
    rw [List.length_map, List.take_length] at h3
    exact hq p S1 acc hp h1 h3 h2
/-- .. where all give what a function says -/
theorem lcx_all {α : Type} {g : WG} {tt : WT} {te : WE} {js : List Nat} {still : Sto → Prop} {ρ : DEnv} {S : Sto} {E : XA} {Q : Addr → Sto → Prop} {ys : List α} {e : α → D} (f : α → D) (hz : ys.length ≤ 100000) (hs : ∀ S1, Kp [] S S1 → still S1)
    (step : ∀ x ∈ ys, ∀ S1, Kp [] S S1 → ∀ (N1 : D → Sto → Prop) (N2 : Sto → Prop), (∀ S2, Kp [] S1 S2 → N1 (f x) S2) →
      g (e x) (wipeA ρ js) S1 fun ρ2 S2 => tt ρ2 S2 (fun b S3 => if b = true then te ρ2 S3 N1 E else N2 S3) E)
    (hq : ∀ p S2, S p = none → Kp [] S S2 → S2 p = some (.lst (ys.map f)) → Q p S2) : ∀ p, S p = none → lcxA g tt te js still ρ p E (ys.map e) [] (put S p (.lst [])) (fun _ S2 => Q p S2) :=
  lcx_map (fun x y => y = f x) hz hs (fun x hx S1 k N1 N2 h1 => step x hx S1 k N1 N2 fun S2 k2 => h1 _ S2 rfl k2) fun p S2 zs hp k hp2 e => hq p S2 hp k (by
    rw [e]
    congr 2
    clear e k hp hq step hz
    induction hp2 with
    | nil => rfl
    | cons r _ ih => rw [List.map_cons, ih, r])
end Ab
set_option Elab.async false
set_option linter.all false
set_option maxRecDepth 100000
set_option maxHeartbeats 4000000
/-! ### slices of texts, texts in order -/
namespace Ab
open PySem PySem.Spec PyProof.Rows L2
def aSlS : D → Option Int → Option Int → Sto → AK → Prop := fun x lo hi S Q => (match x with
  | .str z => z.length ≤ sizeLine ∧ Q (.str (cutS z lo hi)) S
  | _ => False)
def wSlS (w : WE) (lo hi : WO) : WE := fun ρ S Q E => w ρ S (fun x S1 => lo ρ S1 (fun l S2 => hi ρ S2 (fun h S3 => aSlS x l h S3 Q) E) E) E
theorem re_sliceS {X : Cx} {W : WX} {e : Expr} {lo hi : Option Expr} {we : WE} {wl wh : WO} {pos p2 : Pos} (he : RE X W e we) (hl : RO X W lo wl) (hu : RO X W hi wh) : RE X W (.Subscript e (.Slice lo hi none p2) pos) (wSlS we wl wh) :=
  pe_imp (pe_slice sl_str he hl hu) fun σ H Q ⟨ρ, S, QA, EA, rs, rp, h, k, x⟩ => ⟨ρ, S, _, EA, rs, rp, h, fun d S1 v H1 h1 l1 r1 p1 => ⟨ρ, S1, _, EA, rs.le l1, r1, h1, fun l S2 H2 h2 l2 r2 => ⟨ρ, S2, _, EA, rs.le (l1.trans l2), r2, h2, fun u S3 H3 h3 l3 r3 => by
    cases d with
    | str z =>
      unfold RepV at p1
      exact ⟨z, p1, h3.1, k _ S3 _ H3 h3.2 ((l1.trans l2).trans l3) r3 (rep_str _)⟩
    | _ => exact (show False from h3).elim, x.le (l1.trans l2)⟩, x.le l1⟩, x⟩
theorem LL_cut (z : Str) (lo hi : Option Int) : LL (cutS z lo hi) = ((LL z).drop (HT.sIx (LL z).length 0 lo)).take (HT.sIx (LL z).length (LL z).length hi - HT.sIx (LL z).length 0 lo) := by
  unfold cutS
  rw [LL_len]
theorem LL_cutTo {z : Str} {n : Nat} : LL (cutS z none (some (n : Int))) = (LL z).take n := by
  rw [LL_cut, HT.sIx_none, HT.sIx_nat]
  simp only [List.drop_zero, Nat.sub_zero]
  by_cases hn : n ≤ (LL z).length
  · rw [Nat.min_eq_left hn]
  · rw [Nat.min_eq_right (by omega), List.take_length, List.take_of_length_le (by omega)]
theorem LL_cutFrom {z : Str} {n : Nat} : LL (cutS z (some (n : Int)) none) = (LL z).drop n := by
  rw [LL_cut, HT.sIx_none, HT.sIx_nat]
  by_cases hn : n ≤ (LL z).length
  · rw [Nat.min_eq_left hn]
    exact List.take_of_length_le (by rw [List.length_drop]; omega)
  · rw [Nat.min_eq_right (by omega), List.drop_length, List.drop_of_length_le (by omega)]
    simp
theorem LL_cutLast {z : Str} : LL (cutS z none (some (-1))) = (LL z).dropLast := by
  rw [LL_cut, HT.sIx_none]
  simp only [List.drop_zero, Nat.sub_zero]
  have e : HT.sIx (LL z).length (LL z).length (some (-1)) = (LL z).length - 1 := by
    unfold HT.sIx
    simp only
    split <;> omega
  rw [e, List.dropLast_eq_take]
/-- a <= b of texts -/
def aLeS : WR2 := fun x y S Q => (match x, y with
  | .str i, .str j => Q (.bl (!decide (j.cps.toList < i.cps.toList))) S
  | _, _ => False)
theorem sim_leS {K : PySem.W.Frag} : Sim2 K (fun x y H Q => ∃ i j, x = .str i ∧ y = .str j ∧ Q (.bl (!decide (j.cps.toList < i.cps.toList))) H) aLeS := fun x y dx dy H S QA Q p q r a k => by
  cases dx with
  | str i =>
    cases dy with
    | str j =>
      unfold RepV at p q
      exact ⟨i, j, p, q, k _ S _ H a (Le.refl H) r (rep_bl _)⟩
    | _ => exact (show False from a).elim
  | _ => cases dy <;> exact (show False from a).elim
end Ab
set_option Elab.async false
set_option linter.all false
set_option maxRecDepth 100000
set_option maxHeartbeats 4000000
namespace L
open PySem PySem.Spec PyProof.Rows L2 Ab
def top (i : Nat) : Stmt := PySem.Challenge.pw_neartold_k29_whole_lines_of_boards.main.body.getD i (.Pass ⟨0, 0, 0, 0⟩)
abbrev s_is_whole : Stmt := top 5
abbrev s_is_place : Stmt := top 6
abbrev s_is_thing : Stmt := top 7
abbrev s_is_board : Stmt := top 8
abbrev s_written : Stmt := top 14
abbrev s_number_in : Stmt := top 15
abbrev s_thing_in : Stmt := top 16
abbrev s_read : Stmt := top 17
abbrev s__law_draw : Stmt := top 19
abbrev s__law_pick : Stmt := top 20
abbrev s__law_place : Stmt := top 21
abbrev s__law_thing : Stmt := top 22
abbrev s__law_board : Stmt := top 23
abbrev s__law_apart : Stmt := top 24
abbrev s__law_read : Stmt := top 25
abbrev s__law_line : Stmt := top 26
abbrev s_law : Stmt := top 27
def fn_0 : List He.DefD := [⟨("is_whole", none), "is_whole", "is_whole", defArgs s_is_whole, defBody s_is_whole, defScope s_is_whole, [], []⟩,
  ⟨("is_place", none), "is_place", "is_place", defArgs s_is_place, defBody s_is_place, defScope s_is_place, [], []⟩,
  ⟨("is_thing", none), "is_thing", "is_thing", defArgs s_is_thing, defBody s_is_thing, defScope s_is_thing, [], []⟩,
  ⟨("is_board", none), "is_board", "is_board", defArgs s_is_board, defBody s_is_board, defScope s_is_board, [], []⟩,
  ⟨("written", none), "written", "written", defArgs s_written, defBody s_written, defScope s_written, [], []⟩,
  ⟨("number_in", none), "number_in", "number_in", defArgs s_number_in, defBody s_number_in, defScope s_number_in, [], []⟩,
  ⟨("thing_in", none), "thing_in", "thing_in", defArgs s_thing_in, defBody s_thing_in, defScope s_thing_in, [], []⟩,
  ⟨("read", none), "read", "read", defArgs s_read, defBody s_read, defScope s_read, [], []⟩,
  ⟨("_law_draw", none), "_law_draw", "_law_draw", defArgs s__law_draw, defBody s__law_draw, defScope s__law_draw, [], []⟩,
  ⟨("_law_pick", none), "_law_pick", "_law_pick", defArgs s__law_pick, defBody s__law_pick, defScope s__law_pick, [], []⟩,
  ⟨("_law_place", none), "_law_place", "_law_place", defArgs s__law_place, defBody s__law_place, defScope s__law_place, [], []⟩,
  ⟨("_law_thing", none), "_law_thing", "_law_thing", defArgs s__law_thing, defBody s__law_thing, defScope s__law_thing, [], []⟩,
  ⟨("_law_board", none), "_law_board", "_law_board", defArgs s__law_board, defBody s__law_board, defScope s__law_board, [], []⟩,
  ⟨("_law_apart", none), "_law_apart", "_law_apart", defArgs s__law_apart, defBody s__law_apart, defScope s__law_apart, [], []⟩,
  ⟨("_law_read", none), "_law_read", "_law_read", defArgs s__law_read, defBody s__law_read, defScope s__law_read, [], []⟩,
  ⟨("_law_line", none), "_law_line", "_law_line", defArgs s__law_line, defBody s__law_line, defScope s__law_line, [], []⟩,
  ⟨("law", none), "law", "law", defArgs s_law, defBody s_law, defScope s_law, [], []⟩]
def fn : List He.DefD := fn_0
def fa_0 : List He.Fa := [.free "bool",
  .free "isinstance",
  .free "int",
  .glo "is_whole",
  .int "SIDE_MOST" 199,
  .free "all",
  .free "len",
  .free "tuple",
  .int "ID_MOST" 99,
  .free "START",
  .int "ROOM_MOST" 9,
  .glo "is_place",
  .int "GROUP_MOST" 9,
  .glo "is_thing",
  .free "zip",
  .free "str",
  .str "FIGURES" "0123456789",
  .exc "NoText",
  .glo "NoText",
  .glo "number_in"]
def fa_1 : List He.Fa := [.glo "thing_in",
  .glo "written",
  .glo "is_board",
  .glo "_law_draw",
  .glo "_law_pick",
  .glo "_law_place",
  .free "range",
  .glo "_law_thing",
  .free "sorted",
  .free "max",
  .glo "read",
  .exm "NoText" "NoText" true,
  .glo "_law_board",
  .glo "_law_line",
  .glo "_law_read",
  .glo "law"]
def fa : List He.Fa := fa_0 ++ fa_1
structure Tx (K : PySem.W.Frag) (mg : Str → Option Value) : Prop where
  h : ∃ h : Heap, K.In h ∧ h.Ns mainGlobals mg
  c : He.SaysD fa fn K
section
variable {K : PySem.W.Frag} {mg : Str → Option Value}
theorem Tx.free_bool (T : Tx K mg) : mg "bool" = none := by
  obtain ⟨h, X, Z⟩ := T.h
  exact He.free_ok X Z (T.c.fact 0 (f := .free "bool") rfl)
theorem Tx.free_isinstance (T : Tx K mg) : mg "isinstance" = none := by
  obtain ⟨h, X, Z⟩ := T.h
  exact He.free_ok X Z (T.c.fact 1 (f := .free "isinstance") rfl)
theorem Tx.free_int (T : Tx K mg) : mg "int" = none := by
  obtain ⟨h, X, Z⟩ := T.h
  exact He.free_ok X Z (T.c.fact 2 (f := .free "int") rfl)
theorem Tx.glo_is_whole (T : Tx K mg) : mg "is_whole" = some (.ref (He.ga K "is_whole")) := by
  obtain ⟨h, X, Z⟩ := T.h
  exact He.glo_ok X Z (T.c.fact 3 (f := .glo "is_whole") rfl)
theorem Tx.int_SIDE_MOST (T : Tx K mg) : ∃ t, mg "SIDE_MOST" = some (.int 199 t) := by
  obtain ⟨h, X, Z⟩ := T.h
  exact He.int_ok X Z (T.c.fact 4 (f := .int "SIDE_MOST" 199) rfl)
theorem Tx.free_all (T : Tx K mg) : mg "all" = none := by
  obtain ⟨h, X, Z⟩ := T.h
  exact He.free_ok X Z (T.c.fact 5 (f := .free "all") rfl)
theorem Tx.free_len (T : Tx K mg) : mg "len" = none := by
  obtain ⟨h, X, Z⟩ := T.h
  exact He.free_ok X Z (T.c.fact 6 (f := .free "len") rfl)
theorem Tx.free_tuple (T : Tx K mg) : mg "tuple" = none := by
  obtain ⟨h, X, Z⟩ := T.h
  exact He.free_ok X Z (T.c.fact 7 (f := .free "tuple") rfl)
theorem Tx.int_ID_MOST (T : Tx K mg) : ∃ t, mg "ID_MOST" = some (.int 99 t) := by
  obtain ⟨h, X, Z⟩ := T.h
  exact He.int_ok X Z (T.c.fact 8 (f := .int "ID_MOST" 99) rfl)
theorem Tx.free_START (T : Tx K mg) : mg "START" = none := by
  obtain ⟨h, X, Z⟩ := T.h
  exact He.free_ok X Z (T.c.fact 9 (f := .free "START") rfl)
theorem Tx.nost (T : Tx K mg) : NoSt K := He.eqO_ok (T.c.fact 9 (f := .free "START") rfl)
theorem Tx.int_ROOM_MOST (T : Tx K mg) : ∃ t, mg "ROOM_MOST" = some (.int 9 t) := by
  obtain ⟨h, X, Z⟩ := T.h
  exact He.int_ok X Z (T.c.fact 10 (f := .int "ROOM_MOST" 9) rfl)
theorem Tx.glo_is_place (T : Tx K mg) : mg "is_place" = some (.ref (He.ga K "is_place")) := by
  obtain ⟨h, X, Z⟩ := T.h
  exact He.glo_ok X Z (T.c.fact 11 (f := .glo "is_place") rfl)
theorem Tx.int_GROUP_MOST (T : Tx K mg) : ∃ t, mg "GROUP_MOST" = some (.int 9 t) := by
  obtain ⟨h, X, Z⟩ := T.h
  exact He.int_ok X Z (T.c.fact 12 (f := .int "GROUP_MOST" 9) rfl)
theorem Tx.glo_is_thing (T : Tx K mg) : mg "is_thing" = some (.ref (He.ga K "is_thing")) := by
  obtain ⟨h, X, Z⟩ := T.h
  exact He.glo_ok X Z (T.c.fact 13 (f := .glo "is_thing") rfl)
theorem Tx.free_zip (T : Tx K mg) : mg "zip" = none := by
  obtain ⟨h, X, Z⟩ := T.h
  exact He.free_ok X Z (T.c.fact 14 (f := .free "zip") rfl)
theorem Tx.free_str (T : Tx K mg) : mg "str" = none := by
  obtain ⟨h, X, Z⟩ := T.h
  exact He.free_ok X Z (T.c.fact 15 (f := .free "str") rfl)
theorem Tx.str_FIGURES (T : Tx K mg) : ∃ t, mg "FIGURES" = some (.str "0123456789" t) := by
  obtain ⟨h, X, Z⟩ := T.h
  exact He.str_ok X Z (T.c.fact 16 (f := .str "FIGURES" "0123456789") rfl)
theorem Tx.exc_NoText (T : Tx K mg) : PySem.W.excIn K (He.ga K "NoText") He.veBase "ValueError.__new__" = true ∧ PySem.W.keepIn K (.ref (He.ga K "NoText")) = true ∧ PySem.W.subIn K (.ref (He.ga K "NoText")) (.type "BaseException") = some true ∧ PySem.W.typeIn K (.ref (He.ga K "NoText")) = some (.type "type") := He.exc_ok (T.c.fact 17 (f := .exc "NoText") rfl)
theorem Tx.glo_NoText (T : Tx K mg) : mg "NoText" = some (.ref (He.ga K "NoText")) := by
  obtain ⟨h, X, Z⟩ := T.h
  exact He.glo_ok X Z (T.c.fact 18 (f := .glo "NoText") rfl)
theorem Tx.glo_number_in (T : Tx K mg) : mg "number_in" = some (.ref (He.ga K "number_in")) := by
  obtain ⟨h, X, Z⟩ := T.h
  exact He.glo_ok X Z (T.c.fact 19 (f := .glo "number_in") rfl)
theorem Tx.glo_thing_in (T : Tx K mg) : mg "thing_in" = some (.ref (He.ga K "thing_in")) := by
  obtain ⟨h, X, Z⟩ := T.h
  exact He.glo_ok X Z (T.c.fact 20 (f := .glo "thing_in") rfl)
theorem Tx.glo_written (T : Tx K mg) : mg "written" = some (.ref (He.ga K "written")) := by
  obtain ⟨h, X, Z⟩ := T.h
  exact He.glo_ok X Z (T.c.fact 21 (f := .glo "written") rfl)
theorem Tx.glo_is_board (T : Tx K mg) : mg "is_board" = some (.ref (He.ga K "is_board")) := by
  obtain ⟨h, X, Z⟩ := T.h
  exact He.glo_ok X Z (T.c.fact 22 (f := .glo "is_board") rfl)
theorem Tx.glo__law_draw (T : Tx K mg) : mg "_law_draw" = some (.ref (He.ga K "_law_draw")) := by
  obtain ⟨h, X, Z⟩ := T.h
  exact He.glo_ok X Z (T.c.fact 23 (f := .glo "_law_draw") rfl)
theorem Tx.glo__law_pick (T : Tx K mg) : mg "_law_pick" = some (.ref (He.ga K "_law_pick")) := by
  obtain ⟨h, X, Z⟩ := T.h
  exact He.glo_ok X Z (T.c.fact 24 (f := .glo "_law_pick") rfl)
theorem Tx.glo__law_place (T : Tx K mg) : mg "_law_place" = some (.ref (He.ga K "_law_place")) := by
  obtain ⟨h, X, Z⟩ := T.h
  exact He.glo_ok X Z (T.c.fact 25 (f := .glo "_law_place") rfl)
theorem Tx.free_range (T : Tx K mg) : mg "range" = none := by
  obtain ⟨h, X, Z⟩ := T.h
  exact He.free_ok X Z (T.c.fact 26 (f := .free "range") rfl)
theorem Tx.glo__law_thing (T : Tx K mg) : mg "_law_thing" = some (.ref (He.ga K "_law_thing")) := by
  obtain ⟨h, X, Z⟩ := T.h
  exact He.glo_ok X Z (T.c.fact 27 (f := .glo "_law_thing") rfl)
theorem Tx.free_sorted (T : Tx K mg) : mg "sorted" = none := by
  obtain ⟨h, X, Z⟩ := T.h
  exact He.free_ok X Z (T.c.fact 28 (f := .free "sorted") rfl)
theorem Tx.free_max (T : Tx K mg) : mg "max" = none := by
  obtain ⟨h, X, Z⟩ := T.h
  exact He.free_ok X Z (T.c.fact 29 (f := .free "max") rfl)
theorem Tx.glo_read (T : Tx K mg) : mg "read" = some (.ref (He.ga K "read")) := by
  obtain ⟨h, X, Z⟩ := T.h
  exact He.glo_ok X Z (T.c.fact 30 (f := .glo "read") rfl)
theorem Tx.exm_NoText_NoText (T : Tx K mg) : PySem.W.exmOne K (.ref (He.ga K "NoText")) (.ref (He.ga K "NoText")) = some true := He.exm_ok (T.c.fact 31 (f := .exm "NoText" "NoText" true) rfl)
theorem Tx.glo__law_board (T : Tx K mg) : mg "_law_board" = some (.ref (He.ga K "_law_board")) := by
  obtain ⟨h, X, Z⟩ := T.h
  exact He.glo_ok X Z (T.c.fact 32 (f := .glo "_law_board") rfl)
theorem Tx.glo__law_line (T : Tx K mg) : mg "_law_line" = some (.ref (He.ga K "_law_line")) := by
  obtain ⟨h, X, Z⟩ := T.h
  exact He.glo_ok X Z (T.c.fact 33 (f := .glo "_law_line") rfl)
theorem Tx.glo__law_read (T : Tx K mg) : mg "_law_read" = some (.ref (He.ga K "_law_read")) := by
  obtain ⟨h, X, Z⟩ := T.h
  exact He.glo_ok X Z (T.c.fact 34 (f := .glo "_law_read") rfl)
theorem Tx.glo_law (T : Tx K mg) : mg "law" = some (.ref (He.ga K "law")) := by
  obtain ⟨h, X, Z⟩ := T.h
  exact He.glo_ok X Z (T.c.fact 35 (f := .glo "law") rfl)
end
def N_is_whole : List Str := ["thing", "low", "high"]
def b_is_whole : WS := (wRet (wAndV (wCB aIsi (wCons (wV 0) (wCons (wC (.ty "int")) wNil))) (wAndV (wNotV (wCB aIsi (wCons (wV 0) (wCons (wC (.ty "bool")) wNil)))) (wChain aLe aLe (wV 1) (wV 0) (wV 2)))))
def w_is_whole : WF := wFn 3 (b_is_whole)
def N_is_place : List Str := ["thing", "one"]
def b_is_place : WS := (wRet (wAndV (wCB aIsi (wCons (wV 0) (wCons (wC (.ty "tuple")) wNil))) (wAndV (wOp aEq (wCB aLen (wCons (wV 0) wNil)) (wC (.int 2))) (wCB aAll (wCons (wLc (wSeqI (wV 0)) (gN 1) wYes (wCall 3 (w_is_whole) (wCons (wV 1) (wCons (wC (.int 0)) (wCons (wC (.int 199)) wNil)))) [1]) wNil)))))
def w_is_place : WF := wFn 2 (b_is_place)
def N_is_thing : List Str := ["thing"]
def b_is_thing_4 : WS := (wRet (wOrV (wOp aIsN (wOp (aIx true) (wV 0) (wC (.int 3))) (wC .non)) (wCall 3 (w_is_whole) (wCons (wOp (aIx true) (wV 0) (wC (.int 3))) (wCons (wC (.int 0)) (wCons (wC (.int 9)) wNil))))))
def b_is_thing_3 : WS := (wRet (wC (.bl false)))
def b_is_thing_2 : WS := (wSeq (wIfS (wOr (wNot (wTru (wCall 1 (w_is_place) (wCons (wOp (aIx true) (wV 0) (wC (.int 1))) wNil)))) (wNot (wTru (wCall 3 (w_is_whole) (wCons (wOp (aIx true) (wV 0) (wC (.int 2))) (wCons (wC (.int 0)) (wCons (wC (.int 9)) wNil))))))) (b_is_thing_3) wNext)
    (b_is_thing_4))
def b_is_thing_1 : WS := (wRet (wC (.bl false)))
def b_is_thing : WS := (wSeq (wIfS (wOr (wNot (wTru (wCB aIsi (wCons (wV 0) (wCons (wC (.ty "tuple")) wNil))))) (wOr (wB (wOp aNe (wCB aLen (wCons (wV 0) wNil)) (wC (.int 4)))) (wNot (wTru (wCall 3 (w_is_whole) (wCons (wOp (aIx true) (wV 0) (wC (.int 0))) (wCons (wC (.int 0)) (wCons (wC (.int 99)) wNil)))))))) (b_is_thing_1) wNext)
    (b_is_thing_2))
def w_is_thing : WF := wFn 1 (b_is_thing)
def N_is_board : List Str := ["thing", "one", "two"]
def b_is_board_2 : WS := (wRet (wCB aAll (wCons (wLc (wZip (wCons (wSl (wV 0) wON (wOS (wUn aNeg (wC (.int 1))))) (wCons (wSl (wV 0) (wOS (wC (.int 1))) wON) wNil))) (gT 2 (gsCons (gN 1) (gsCons (gN 2) gsNil))) wYes (wOp aLt (wOp (aIx true) (wV 1) (wC (.int 0))) (wOp (aIx true) (wV 2) (wC (.int 0)))) [1, 2]) wNil)))
def b_is_board_1 : WS := (wRet (wC (.bl false)))
def b_is_board : WS := (wSeq (wIfS (wOr (wNot (wTru (wCB aIsi (wCons (wV 0) (wCons (wC (.ty "tuple")) wNil))))) (wNot (wTru (wCB aAll (wCons (wLc (wSeqI (wV 0)) (gN 1) wYes (wCall 1 (w_is_thing) (wCons (wV 1) wNil)) [1]) wNil))))) (b_is_board_1) wNext)
    (b_is_board_2))
def w_is_board : WF := wFn 3 (b_is_board)
def N_written : List Str := ["board", "found", "number", "place", "room", "group", "mark"]
def b_written_6 : WS := (wRet (wV 1))
def b_written_5 : WS := (wAsg (wOp aAdd (wV 1) (wJoined [(wFmt (wV 2)), (wC (.str " ")), (wFmt (wOp (aIx true) (wV 3) (wC (.int 0)))), (wC (.str ",")), (wFmt (wOp (aIx true) (wV 3) (wC (.int 1)))), (wC (.str " ")), (wFmt (wV 4)), (wC (.str " ")), (wFmt (wV 6)), (wC (.str "\n"))])) (gN 1))
def b_written_4 : WS := (wAsg (wCB aStr (wCons (wV 5) wNil)) (gN 6))
def b_written_3 : WS := (wSeq (wIfS (wB (wOp aNotN (wV 5) (wC .non))) (b_written_4) wNext)
    (b_written_5))
def b_written_2 : WS := (wSeq (wAsg (wC (.str "-")) (gN 6))
    (b_written_3))
def b_written_1 : WS := (wSeq (wFor (wSeqI (wV 0)) (gT 4 (gsCons (gN 2) (gsCons (gN 3) (gsCons (gN 4) (gsCons (gN 5) gsNil))))) (b_written_2))
    (b_written_6))
def b_written : WS := (wSeq (wAsg (wC (.str "")) (gN 1))
    (b_written_1))
def w_written : WF := wFn 7 (b_written)
def N_number_in : List Str := ["word", "sign"]
def b_number_in_2 (K : PySem.W.Frag) : WS := (wRet (wCB aIntT (wCons (wV 0) wNil)))
def b_number_in_1 (K : PySem.W.Frag) : WS := (wRaise (.ref (He.ga K "NoText")))
def b_number_in (K : PySem.W.Frag) : WS := (wSeq (wIfS (wOr (wB (wOp aEq (wV 0) (wC (.str "")))) (wOr (wB (wOp aGt (wCB aLen (wCons (wV 0) wNil)) (wC (.int 3)))) (wOr (wNot (wTru (wCB aAll (wCons (wLc (wSigns (wV 0)) (gN 1) wYes (wOp (aIn true false) (wV 1) (wC (.str "0123456789"))) [1]) wNil)))) (wAnd (wB (wOp aNe (wV 0) (wC (.str "0")))) (wB (wOp aEq (wOp (aIx true) (wV 0) (wC (.int 0))) (wC (.str "0")))))))) (b_number_in_1 K) wNext)
    (b_number_in_2 K))
def w_number_in (K : PySem.W.Frag) : WF := wFn 2 (b_number_in K)
def N_thing_in : List Str := ["line", "words", "place", "group", "word"]
def b_thing_in_7 (K : PySem.W.Frag) : WS := (wRet (wTup (wCons (wCall 1 (w_number_in K) (wCons (wOp (aIx true) (wV 1) (wC (.int 0))) wNil)) (wCons (wV 2) (wCons (wCall 1 (w_number_in K) (wCons (wOp (aIx true) (wV 1) (wC (.int 2))) wNil)) (wCons (wV 3) wNil))))))
def b_thing_in_6 (K : PySem.W.Frag) : WS := (wAsg (wCall 1 (w_number_in K) (wCons (wOp (aIx true) (wV 1) (wC (.int 3))) wNil)) (gN 3))
def b_thing_in_5 (K : PySem.W.Frag) : WS := (wSeq (wIfS (wB (wOp aNe (wOp (aIx true) (wV 1) (wC (.int 3))) (wC (.str "-")))) (b_thing_in_6 K) wNext)
    (b_thing_in_7 K))
def b_thing_in_4 (K : PySem.W.Frag) : WS := (wSeq (wAsg (wC .non) (gN 3))
    (b_thing_in_5 K))
def b_thing_in_3 (K : PySem.W.Frag) : WS := (wSeq (wAsg (wCB aTuple (wCons (wLcX (wSeqI (wSplit (wOp (aIx true) (wV 1) (wC (.int 1))) (wC (.str ",")))) (gN 4) wYes (wCall 1 (w_number_in K) (wCons (wV 4) wNil)) [4]) wNil)) (gN 2))
    (b_thing_in_4 K))
def b_thing_in_2 (K : PySem.W.Frag) : WS := (wRaise (.ref (He.ga K "NoText")))
def b_thing_in_1 (K : PySem.W.Frag) : WS := (wSeq (wIfS (wB (wOp aNe (wCB aLen (wCons (wV 1) wNil)) (wC (.int 4)))) (b_thing_in_2 K) wNext)
    (b_thing_in_3 K))
def b_thing_in (K : PySem.W.Frag) : WS := (wSeq (wAsg (wSplit (wV 0) (wC (.str " "))) (gN 1))
    (b_thing_in_1 K))
def w_thing_in (K : PySem.W.Frag) : WF := wFn 5 (b_thing_in K)
def N_read : List Str := ["text", "board", "line"]
def b_read_3 (K : PySem.W.Frag) : WS := (wRet (wV 1))
def b_read_2 (K : PySem.W.Frag) : WS := (wRaise (.ref (He.ga K "NoText")))
def b_read_1 (K : PySem.W.Frag) : WS := (wSeq (wIfS (wOr (wNot (wTru (wCall 1 (w_is_board) (wCons (wV 1) wNil)))) (wB (wOp aNe (wCall 1 (w_written) (wCons (wV 1) wNil)) (wV 0)))) (b_read_2 K) wNext)
    (b_read_3 K))
def b_read (K : PySem.W.Frag) : WS := (wSeq (wAsg (wCB aTuple (wCons (wLcX (wSeqI (wSl (wSplit (wV 0) (wC (.str "\n"))) wON (wOS (wUn aNeg (wC (.int 1)))))) (gN 2) wYes (wCall 1 (w_thing_in K) (wCons (wV 2) wNil)) [2]) wNil)) (gN 1))
    (b_read_1 K))
def w_read (K : PySem.W.Frag) : WF := wFn 3 (b_read K)
def N__law_draw : List Str := ["script", "town", "many", "k", "cell", "number", "more"]
def b__law_draw_8 : WS := (wRet (wOp aMod (wOp aAdd (wOp aMulB (wOp aDiv (wV 5) (wC (.int 64))) (wC (.int 67108864))) (wOp aDiv (wV 6) (wC (.int 64)))) (wV 2)))
def b__law_draw_7 : WS := (wSeq (wAsg (wOp aMod (wOp aMulB (wOp aMod (wOp aMulB (wV 5) (wV 5)) (wC (.int 4294967279))) (wC (.int 69621))) (wC (.int 4294967291))) (gN 6))
    (b__law_draw_8))
def b__law_draw_6 : WS := (wSeq (wAsg (wOp aMod (wOp aMulB (wOp aMod (wOp aMulB (wV 5) (wV 5)) (wC (.int 4294967279))) (wC (.int 48271))) (wC (.int 4294967291))) (gN 5))
    (b__law_draw_7))
def b__law_draw_5 : WS := (wSeq (wAsg (wOp aMod (wOp aAdd (wV 4) (wOp aMulB (wC (.int 104729)) (wV 3))) (wC (.int 4294967291))) (gN 5))
    (b__law_draw_6))
def b__law_draw_4 : WS := (wAsg (wOp (aIx true) (wV 0) (wOp aMod (wV 3) (wCB aLen (wCons (wV 0) wNil)))) (gN 4))
def b__law_draw_3 : WS := (wSeq (wIfS (wTru (wV 0)) (b__law_draw_4) wNext)
    (b__law_draw_5))
def b__law_draw_2 : WS := (wSeq (wAsg (wC (.int 0)) (gN 4))
    (b__law_draw_3))
def b__law_draw_1 : WS := (wSeq (wAsg (wCB aLen (wCons (wV 1) wNil)) (gN 3))
    (b__law_draw_2))
def b__law_draw : WS := (wSeq (wDrop (wBM aApp (wV 1) (wCons (wC (.int 0)) wNil)))
    (b__law_draw_1))
def w__law_draw : WF := wFn 7 (b__law_draw)
def N__law_pick : List Str := ["script", "town", "some"]
def b__law_pick : WS := (wRet (wOp (aIx true) (wV 2) (wCall 3 (w__law_draw) (wCons (wV 0) (wCons (wV 1) (wCons (wCB aLen (wCons (wV 2) wNil)) wNil))))))
def w__law_pick : WF := wFn 3 (b__law_pick)
def N__law_place : List Str := ["script", "town", "top", "low"]
def b__law_place_2 : WS := (wRet (wTup (wCons (wOp aAdd (wV 3) (wCall 3 (w__law_draw) (wCons (wV 0) (wCons (wV 1) (wCons (wV 2) wNil))))) (wCons (wOp aAdd (wV 3) (wCall 3 (w__law_draw) (wCons (wV 0) (wCons (wV 1) (wCons (wV 2) wNil))))) wNil))))
def b__law_place_1 : WS := (wSeq (wAsg (wCall 3 (w__law_pick) (wCons (wV 0) (wCons (wV 1) (wCons (wLst (wCons (wC (.int 0)) (wCons (wC (.int 0)) (wCons (wOp aSub (wC (.int 200)) (wV 2)) wNil)))) wNil)))) (gN 3))
    (b__law_place_2))
def b__law_place : WS := (wSeq (wAsg (wCall 3 (w__law_pick) (wCons (wV 0) (wCons (wV 1) (wCons (wLst (wCons (wC (.int 6)) (wCons (wC (.int 30)) (wCons (wC (.int 200)) wNil)))) wNil)))) (gN 2))
    (b__law_place_1))
def w__law_place : WF := wFn 4 (b__law_place)
def N__law_thing : List Str := ["script", "town", "number", "group"]
def b__law_thing_1 : WS := (wRet (wTup (wCons (wV 2) (wCons (wCall 2 (w__law_place) (wCons (wV 0) (wCons (wV 1) wNil))) (wCons (wCall 3 (w__law_draw) (wCons (wV 0) (wCons (wV 1) (wCons (wC (.int 4)) wNil)))) (wCons (wV 3) wNil))))))
def b__law_thing : WS := (wSeq (wAsg (wCall 3 (w__law_pick) (wCons (wV 0) (wCons (wV 1) (wCons (wLst (wCons (wC .non) (wCons (wC .non) (wCons (wC .non) (wCons (wC (.int 0)) (wCons (wC (.int 1)) (wCons (wC (.int 9)) wNil))))))) wNil)))) (gN 3))
    (b__law_thing_1))
def w__law_thing : WF := wFn 4 (b__law_thing)
def N__law_board : List Str := ["script", "town", "most", "got", "top", "k", "number"]
def b__law_board_4 : WS := (wRet (wCB aTuple (wCons (wLc (wSeqI (wCB aSrtB (wCons (wV 3) wNil))) (gN 6) wYes (wOp (aIx true) (wV 3) (wV 6)) [6]) wNil)))
def b__law_board_3 : WS := (wAsg (wCall 3 (w__law_thing) (wCons (wV 0) (wCons (wV 1) (wCons (wV 6) wNil)))) (gIx true (wV 3) (wV 6)))
def b__law_board_2 : WS := (wSeq (wAsg (wCall 3 (w__law_draw) (wCons (wV 0) (wCons (wV 1) (wCons (wV 4) wNil)))) (gN 6))
    (b__law_board_3))
def b__law_board_1 : WS := (wSeq (wFor (wRng1 (wCons (wCall 3 (w__law_draw) (wCons (wV 0) (wCons (wV 1) (wCons (wOp aAdd (wV 2) (wC (.int 1))) wNil)))) wNil)) (gN 5) (b__law_board_2))
    (b__law_board_4))
def b__law_board : WS := (wSeq (wAsg (wTup (wCons wDK (wCons (wCall 3 (w__law_pick) (wCons (wV 0) (wCons (wV 1) (wCons (wLst (wCons (wC (.int 9)) (wCons (wC (.int 100)) wNil))) wNil)))) wNil))) (gT 2 (gsCons (gN 3) (gsCons (gN 4) gsNil))))
    (b__law_board_1))
def w__law_board : WF := wFn 7 (b__law_board)
def N__law_apart : List Str := ["one", "other", "across", "down"]
def b__law_apart_1 : WS := (wRet (wCB aMax (wCons (wV 2) (wCons (wUn aNeg (wV 2)) (wCons (wV 3) (wCons (wUn aNeg (wV 3)) wNil))))))
def b__law_apart : WS := (wSeq (wPar 2 3 (wCons (wOp aSub (wOp (aIx true) (wV 0) (wC (.int 0))) (wOp (aIx true) (wV 1) (wC (.int 0)))) (wCons (wOp aSub (wOp (aIx true) (wV 0) (wC (.int 1))) (wOp (aIx true) (wV 1) (wC (.int 1)))) wNil)))
    (b__law_apart_1))
def w__law_apart : WF := wFn 4 (b__law_apart)
def N__law_read : List Str := ["text"]
def b__law_read_2 (K : PySem.W.Frag) : WS := (wRet (wC .non))
def b__law_read_1 (K : PySem.W.Frag) : WS := (wRet (wCall 1 (w_read K) (wCons (wV 0) wNil)))
def b__law_read (K : PySem.W.Frag) : WS := (wTry K (b__law_read_1 K) [(.ref (He.ga K "NoText"), (b__law_read_2 K))])
def w__law_read (K : PySem.W.Frag) : WF := wFn 1 (b__law_read K)
def N__law_line : List Str := ["thing", "number", "place", "room", "group", "words"]
def b__law_line_2 : WS := (wRet (wOp aAdd (wJoin (wC (.str " ")) (wV 5)) (wC (.str "\n"))))
def b__law_line_1 : WS := (wSeq (wAsg (wLst (wCons (wCB aStr (wCons (wV 1) wNil)) (wCons (wOp aAdd (wOp aAdd (wCB aStr (wCons (wOp (aIx true) (wV 2) (wC (.int 0))) wNil)) (wC (.str ","))) (wCB aStr (wCons (wOp (aIx true) (wV 2) (wC (.int 1))) wNil))) (wCons (wCB aStr (wCons (wV 3) wNil)) (wCons (wIf (wB (wOp aIsN (wV 4) (wC .non))) (wC (.str "-")) (wCB aStr (wCons (wV 4) wNil))) wNil))))) (gN 5))
    (b__law_line_2))
def b__law_line : WS := (wSeq (wAsg (wV 0) (gT 4 (gsCons (gN 1) (gsCons (gN 2) (gsCons (gN 3) (gsCons (gN 4) gsNil))))))
    (b__law_line_1))
def w__law_line : WF := wFn 6 (b__law_line)
def N_law : List Str := ["script", "town", "k", "board", "lines", "text", "at", "turned", "other", "bad", "some", "thing"]
def b_law_30 (K : PySem.W.Frag) : WS := (wRet (wC (.bl true)))
def b_law_29 (K : PySem.W.Frag) : WS := (wRet (wC (.bl false)))
def b_law_28 (K : PySem.W.Frag) : WS := (wIfS (wOr (wB (wOp aNe (wCall 1 (w__law_read K) (wCons (wC (.str "")) wNil)) (wTup wNil))) (wB (wOp aNotN (wCall 1 (w__law_read K) (wCons (wC (.str "\n")) wNil)) (wC .non)))) (b_law_29 K) wNext)
def b_law_27 (K : PySem.W.Frag) : WS := (wRet (wC (.bl false)))
def b_law_26 (K : PySem.W.Frag) : WS := (wSeq (wIfS (wB (wOp aNe (wCall 1 (w__law_read K) (wCons (wC (.str "0 0,0 0 -\n")) wNil)) (wTup (wCons (wTup (wCons (wC (.int 0)) (wCons (wTup (wCons (wC (.int 0)) (wCons (wC (.int 0)) wNil))) (wCons (wC (.int 0)) (wCons (wC .non) wNil))))) wNil)))) (b_law_27 K) wNext)
    (b_law_28 K))
def b_law_25 (K : PySem.W.Frag) : WS := (wRet (wC (.bl false)))
def b_law_24 (K : PySem.W.Frag) : WS := (wSeq (wIfS (wB (wOp aNe (wCall 1 (w__law_read K) (wCons (wC (.str "99 199,0 9 9\n")) wNil)) (wTup (wCons (wTup (wCons (wC (.int 99)) (wCons (wTup (wCons (wC (.int 199)) (wCons (wC (.int 0)) wNil))) (wCons (wC (.int 9)) (wCons (wC (.int 9)) wNil))))) wNil)))) (b_law_25 K) wNext)
    (b_law_26 K))
def b_law_23 (K : PySem.W.Frag) : WS := (wRet (wC (.bl false)))
def b_law_22 (K : PySem.W.Frag) : WS := (wIfS (wB (wOp aNotN (wCall 1 (w__law_read K) (wCons (wOp aAdd (wV 9) (wC (.str "\n"))) wNil)) (wC .non))) (b_law_23 K) wNext)
def b_law_21 (K : PySem.W.Frag) : WS := (wSeq (wFor (wSeqI (wOp aAdd (wV 10) (wLst (wCons (wC (.str " 1 1,1 1 1")) (wCons (wC (.str "1 1,1 1 1 ")) (wCons (wC (.str "-1 1,1 1 1")) (wCons (wC (.str "1 1,1 - 1")) wNil))))))) (gN 9) (b_law_22 K))
    (b_law_24 K))
def b_law_20 (K : PySem.W.Frag) : WS := (wSeq (wAsg (wLst (wCons (wC (.str "1 1,1 1 --")) (wCons (wC (.str "1 1 1 1")) (wCons (wC (.str "1 1,1,1 1 1")) (wCons (wC (.str "1  1,1 1 1")) wNil))))) (gN 10))
    (b_law_21 K))
def b_law_19 (K : PySem.W.Frag) : WS := (wRet (wC (.bl false)))
def b_law_18 (K : PySem.W.Frag) : WS := (wIfS (wB (wOp aNotN (wCall 1 (w__law_read K) (wCons (wOp aAdd (wV 9) (wC (.str "\n"))) wNil)) (wC .non))) (b_law_19 K) wNext)
def b_law_17 (K : PySem.W.Frag) : WS := (wSeq (wFor (wSeqI (wTup (wCons (wC (.str "100 1,1 1 1")) (wCons (wC (.str "1 200,1 1 1")) (wCons (wC (.str "1 1,200 1 1")) (wCons (wC (.str "1 1,1 10 1")) (wCons (wC (.str "1 1,1 1 10")) (wCons (wC (.str "1 1,1 1 ")) (wCons (wC (.str "01 1,1 1 1")) wNil))))))))) (gN 9) (b_law_18 K))
    (b_law_20 K))
def b_law_16 (K : PySem.W.Frag) : WS := (wRet (wC (.bl false)))
def b_law_15 (K : PySem.W.Frag) : WS := (wSeq (wIfS (wB (wOp aNe (wCall 1 (w__law_read K) (wCons (wV 8) wNil)) (wIf (wB (wOp (aIn true false) (wV 6) (wTup (wCons (wC (.int 0)) (wCons (wCB aLen (wCons (wV 3) wNil)) wNil))))) (wV 3) (wC .non)))) (b_law_16 K) wNext)
    (b_law_17 K))
def b_law_14 (K : PySem.W.Frag) : WS := (wSeq (wAsg (wOp aAdd (wCall 1 (w_written) (wCons (wSl (wV 3) (wOS (wV 6)) wON) wNil)) (wCall 1 (w_written) (wCons (wSl (wV 3) wON (wOS (wV 6))) wNil))) (gN 8))
    (b_law_15 K))
def b_law_13 (K : PySem.W.Frag) : WS := (wRet (wC (.bl false)))
def b_law_12 (K : PySem.W.Frag) : WS := (wSeq (wIfS (wAnd (wTru (wV 3)) (wOr (wB (wOp aNotN (wCall 1 (w__law_read K) (wCons (wOp aAdd (wV 5) (wOp (aIx true) (wV 4) (wUn aNeg (wC (.int 1))))) wNil)) (wC .non))) (wB (wOp aNotN (wCall 1 (w__law_read K) (wCons (wSlS (wV 5) wON (wOS (wUn aNeg (wC (.int 1))))) wNil)) (wC .non))))) (b_law_13 K) wNext)
    (b_law_14 K))
def b_law_11 (K : PySem.W.Frag) : WS := (wRet (wC (.bl false)))
def b_law_10 (K : PySem.W.Frag) : WS := (wSeq (wIfS (wB (wOp aNe (wV 7) (wIf (wB (wOp aLt (wCB aLen (wCons (wV 3) wNil)) (wC (.int 2)))) (wV 3) (wC .non)))) (b_law_11 K) wNext)
    (b_law_12 K))
def b_law_9 (K : PySem.W.Frag) : WS := (wSeq (wAsg (wCall 1 (w__law_read K) (wCons (wJoin (wC (.str "")) (wRevL (wV 4))) wNil)) (gN 7))
    (b_law_10 K))
def b_law_8 (K : PySem.W.Frag) : WS := (wRet (wC (.bl false)))
def b_law_7 (K : PySem.W.Frag) : WS := (wSeq (wIfS (wOr (wB (wOp aNe (wCall 1 (w__law_read K) (wCons (wCall 1 (w_written) (wCons (wSl (wV 3) wON (wOS (wV 6))) wNil)) wNil)) (wSl (wV 3) wON (wOS (wV 6))))) (wB (wOp aNe (wOp aAdd (wCall 1 (w_written) (wCons (wSl (wV 3) wON (wOS (wV 6))) wNil)) (wCall 1 (w_written) (wCons (wSl (wV 3) (wOS (wV 6)) wON) wNil))) (wV 5)))) (b_law_8 K) wNext)
    (b_law_9 K))
def b_law_6 (K : PySem.W.Frag) : WS := (wRet (wC (.bl false)))
def b_law_5 (K : PySem.W.Frag) : WS := (wSeq (wIfS (wOr (wB (wOp aNe (wV 5) (wJoin (wC (.str "")) (wV 4)))) (wB (wOp aNe (wCall 1 (w__law_read K) (wCons (wV 5) wNil)) (wV 3)))) (b_law_6 K) wNext)
    (b_law_7 K))
def b_law_4 (K : PySem.W.Frag) : WS := (wSeq (wPar 5 6 (wCons (wCall 1 (w_written) (wCons (wV 3) wNil)) (wCons (wCall 3 (w__law_draw) (wCons (wV 0) (wCons (wV 1) (wCons (wOp aAdd (wCB aLen (wCons (wV 3) wNil)) (wC (.int 1))) wNil)))) wNil)))
    (b_law_5 K))
def b_law_3 (K : PySem.W.Frag) : WS := (wSeq (wAsg (wLc (wSeqI (wV 3)) (gN 11) wYes (wCall 1 (w__law_line) (wCons (wV 11) wNil)) [11]) (gN 4))
    (b_law_4 K))
def b_law_2 (K : PySem.W.Frag) : WS := (wSeq (wAsg (wCall 3 (w__law_board) (wCons (wV 0) (wCons (wV 1) (wCons (wC (.int 12)) wNil)))) (gN 3))
    (b_law_3 K))
def b_law_1 (K : PySem.W.Frag) : WS := (wSeq (wFor (wRng1 (wCons (wC (.int 8)) wNil)) (gN 2) (b_law_2 K))
    (b_law_30 K))
def b_law (K : PySem.W.Frag) : WS := (wSeq (wAsg (wLst wNil) (gN 1))
    (b_law_1 K))
def w_law (K : PySem.W.Frag) : WF := wFn 12 (b_law K)
end L
set_option Elab.async false
set_option linter.all false
set_option maxRecDepth 100000
set_option maxHeartbeats 4000000
namespace L
open PySem PySem.Spec PyProof.Rows L2 Ab
def names_0 : List PySem.Str := ["SIDE_MOST",
  "ROOM_MOST",
  "GROUP_MOST",
  "ID_MOST",
  "is_whole",
  "is_place",
  "is_thing",
  "is_board",
  "NearError",
  "NoText",
  "FIGURES",
  "written",
  "number_in",
  "thing_in",
  "read",
  "_law_draw",
  "_law_pick",
  "_law_place",
  "_law_thing",
  "_law_board"]
def names_1 : List PySem.Str := ["_law_apart",
  "_law_read",
  "_law_line"]
def names : List PySem.Str := names_0 ++ names_1
abbrev R : PySem.W.OpenRow := PySem.W.OpenLaw.row PySem.Challenge.rw_neartold_k29_whole_lines_of_boards
abbrev hk : PySem.W.Hook := He.hookD 5 fa fn
def ob (s : PySem.W.SharedT) : He.AlD := He.obsDG 5 fa fn (HandSHeadRun.getT s)
theorem ob_eq (s : PySem.W.SharedT) : ob s = hk.obs s.abs := He.obsDG_eq (HandSHeadRun.getT_eq s)
theorem run (w : World) : HandSHeadRun.RunEq R (PySem.W.view R.prog [27]) hk ob 4000 names w := by
  intro os
  kernel_rfl
end L
set_option Elab.async false
set_option linter.all false
set_option maxRecDepth 100000
set_option maxHeartbeats 4000000
namespace L
open PySem PySem.Spec PyProof.Rows L2 Ab
section
variable {P : Program} {w : World} {K : PySem.W.Frag} {mg : Str → Option Value} {base : Heap}
theorem hul {A : Around} (h : A.units + 100 < cLine) : A.units < cLine := by omega
theorem tk0 {X : Cx} : Takes X W0 := takes0
theorem sc_is_whole : FnScope N_is_whole ["thing", "low", "high"] (defScope s_is_whole) := ⟨rfl, rfl, rfl, by decide +kernel, rfl, by decide +kernel, by decide +kernel⟩
abbrev Fn_is_whole (K : PySem.W.Frag) (fd : FuncData) : Prop := FunD K "is_whole" "is_whole" (defArgs s_is_whole) (defBody s_is_whole) (defScope s_is_whole) [] [] (He.fAd K ("is_whole", none)) fd
theorem bi_is_whole {fd : FuncData} (F : Fn_is_whole K fd) : Binds K fd ["thing", "low", "high"] [] := F.bindsN fun _ _ _ _ _ _ us hl => match us, hl with | [_, _, _], _ => rfl
theorem ok_is_whole (T : Tx K mg) {fd : FuncData} (F : Fn_is_whole K fd) : FnOk P w K mg base (L2.CX P w) 1 (He.fAd K ("is_whole", none)) fd ["thing", "low", "high"] (spA K 3 (w_is_whole)) := by
  refine fn_ok (N := N_is_whole) F sc_is_whole (fun cdv A outer s H E hr => ?_)
  have hu := hu_room hr
  have hp := hp_of (P := P) (w := w) (K := K) (mg := mg) (base := base) (qual := "is_whole") (scope := defScope s_is_whole) (f := He.fAd K ("is_whole", none)) (N := N_is_whole) (cdv := cdv) (A := A) (outer := outer) (s := s) (H := H) (E := E)
  have tk := tk_of (P := P) (w := w) (K := K) (mg := mg) (base := base) (qual := "is_whole") (scope := defScope s_is_whole) (f := He.fAd K ("is_whole", none)) (N := N_is_whole) (cdv := cdv) (A := A) (outer := outer) (s := s) (H := H) (E := E)
  exact (rss_one (rs_ret (re_and (re_cb call_isi sim_isi rfl (T.free_isinstance) (by decide +kernel) (ra_cons (re_v 0) (ra_cons (re_ty rfl (T.free_int) (by decide +kernel)) ra_nil))) (re_and (re_not (re_cb call_isi sim_isi rfl (T.free_isinstance) (by decide +kernel) (ra_cons (re_v 0) (ra_cons (re_ty rfl (T.free_bool) (by decide +kernel)) ra_nil)))) (re_one (re_chain op_le op_le sim_le sim_le (re_v 1) (re_v 0) (re_v 2)))))))
theorem sc_is_place : FnScope N_is_place ["thing"] (defScope s_is_place) := ⟨rfl, rfl, rfl, by decide +kernel, rfl, by decide +kernel, by decide +kernel⟩
abbrev Fn_is_place (K : PySem.W.Frag) (fd : FuncData) : Prop := FunD K "is_place" "is_place" (defArgs s_is_place) (defBody s_is_place) (defScope s_is_place) [] [] (He.fAd K ("is_place", none)) fd
theorem bi_is_place {fd : FuncData} (F : Fn_is_place K fd) : Binds K fd ["thing"] [] := F.bindsN fun _ _ _ _ _ _ us hl => match us, hl with | [_], _ => rfl
theorem ok_is_place (T : Tx K mg) {fd : FuncData} (F : Fn_is_place K fd) : FnOk P w K mg base (L2.CX P w) 2 (He.fAd K ("is_place", none)) fd ["thing"] (spA K 1 (w_is_place)) := by
  obtain ⟨fd_is_whole, F_is_whole⟩ : ∃ fd, Fn_is_whole K fd := T.c.def_ 0 (d := ⟨("is_whole", none), "is_whole", "is_whole", defArgs s_is_whole, defBody s_is_whole, defScope s_is_whole, [], []⟩) rfl
  have G_is_whole := ok_is_whole (P := P) (w := w) (base := base) T F_is_whole
  have b_is_whole := bi_is_whole F_is_whole
  refine fn_ok (N := N_is_place) F sc_is_place (fun cdv A outer s H E hr => ?_)
  have hu := hu_room hr
  have hp := hp_of (P := P) (w := w) (K := K) (mg := mg) (base := base) (qual := "is_place") (scope := defScope s_is_place) (f := He.fAd K ("is_place", none)) (N := N_is_place) (cdv := cdv) (A := A) (outer := outer) (s := s) (H := H) (E := E)
  have tk := tk_of (P := P) (w := w) (K := K) (mg := mg) (base := base) (qual := "is_place") (scope := defScope s_is_place) (f := He.fAd K ("is_place", none)) (N := N_is_place) (cdv := cdv) (A := A) (outer := outer) (s := s) (H := H) (E := E)
  exact (rss_one (rs_ret (re_and (re_cb call_isi sim_isi rfl (T.free_isinstance) (by decide +kernel) (ra_cons (re_v 0) (ra_cons (re_ty rfl (T.free_tuple) (by decide +kernel)) ra_nil))) (re_and (re_eq hu (re_cb call_lenA sim_len rfl (T.free_len) (by decide +kernel) (ra_cons (re_v 0) ra_nil)) re_int) (re_one (re_cb (cr_all rfl) sim_all rfl (T.free_all) (by decide +kernel) (ra_cons (re_lc (own := [("one", 1)]) rfl sc_is_place.nd (ri_seq (re_v 0)) (blkOk_by (own := [("one", 1)]) (N := N_is_place) (sc := defScope s_is_place) (by decide +kernel)) (fun _ _ _ _ _ => (rg_n (i := 1) sc_is_place.nd rfl (by first | exact Or.inl rfl | exact Or.inr rfl))) (fun _ _ _ _ _ => rts_nil) (fun _ _ _ _ _ => (re_call G_is_whole (hr.mono (by omega)) rfl T.glo_is_whole F_is_whole.kp b_is_whole tk0 (ra_cons (re_v 1) (ra_cons re_int (ra_cons (re_gint rfl T.int_SIDE_MOST) ra_nil)))))) ra_nil)))))))
theorem sc_is_thing : FnScope N_is_thing ["thing"] (defScope s_is_thing) := ⟨rfl, rfl, rfl, by decide +kernel, rfl, by decide +kernel, by decide +kernel⟩
abbrev Fn_is_thing (K : PySem.W.Frag) (fd : FuncData) : Prop := FunD K "is_thing" "is_thing" (defArgs s_is_thing) (defBody s_is_thing) (defScope s_is_thing) [] [] (He.fAd K ("is_thing", none)) fd
theorem bi_is_thing {fd : FuncData} (F : Fn_is_thing K fd) : Binds K fd ["thing"] [] := F.bindsN fun _ _ _ _ _ _ us hl => match us, hl with | [_], _ => rfl
theorem ok_is_thing (T : Tx K mg) {fd : FuncData} (F : Fn_is_thing K fd) : FnOk P w K mg base (L2.CX P w) 3 (He.fAd K ("is_thing", none)) fd ["thing"] (spA K 1 (w_is_thing)) := by
  obtain ⟨fd_is_whole, F_is_whole⟩ : ∃ fd, Fn_is_whole K fd := T.c.def_ 0 (d := ⟨("is_whole", none), "is_whole", "is_whole", defArgs s_is_whole, defBody s_is_whole, defScope s_is_whole, [], []⟩) rfl
  have G_is_whole := ok_is_whole (P := P) (w := w) (base := base) T F_is_whole
  have b_is_whole := bi_is_whole F_is_whole
  obtain ⟨fd_is_place, F_is_place⟩ : ∃ fd, Fn_is_place K fd := T.c.def_ 1 (d := ⟨("is_place", none), "is_place", "is_place", defArgs s_is_place, defBody s_is_place, defScope s_is_place, [], []⟩) rfl
  have G_is_place := ok_is_place (P := P) (w := w) (base := base) T F_is_place
  have b_is_place := bi_is_place F_is_place
  refine fn_ok (N := N_is_thing) F sc_is_thing (fun cdv A outer s H E hr => ?_)
  have hu := hu_room hr
  have hp := hp_of (P := P) (w := w) (K := K) (mg := mg) (base := base) (qual := "is_thing") (scope := defScope s_is_thing) (f := He.fAd K ("is_thing", none)) (N := N_is_thing) (cdv := cdv) (A := A) (outer := outer) (s := s) (H := H) (E := E)
  have tk := tk_of (P := P) (w := w) (K := K) (mg := mg) (base := base) (qual := "is_thing") (scope := defScope s_is_thing) (f := He.fAd K ("is_thing", none)) (N := N_is_thing) (cdv := cdv) (A := A) (outer := outer) (s := s) (H := H) (E := E)
  exact (rss_cons (rs_if (rt_w (rw_or (rt_not (rt_tru (re_cb call_isi sim_isi rfl (T.free_isinstance) (by decide +kernel) (ra_cons (re_v 0) (ra_cons (re_ty rfl (T.free_tuple) (by decide +kernel)) ra_nil))))) (rw_or (rt_ne hu (re_cb call_lenA sim_len rfl (T.free_len) (by decide +kernel) (ra_cons (re_v 0) ra_nil)) re_int) (rw_or1 (rt_not (rt_tru (re_call G_is_whole (hr.mono (by omega)) rfl T.glo_is_whole F_is_whole.kp b_is_whole tk (ra_cons (re_sub_ (t := true) hu (fun _ => T.nost) (re_v 0) re_int) (ra_cons re_int (ra_cons (re_gint rfl T.int_ID_MOST) ra_nil)))))))))) (rss_one (rs_ret re_bl)) rss_nil)
    (rss_cons (rs_if (rt_w (rw_or (rt_not (rt_tru (re_call G_is_place (hr.mono (by omega)) rfl T.glo_is_place F_is_place.kp b_is_place tk (ra_cons (re_sub_ (t := true) hu (fun _ => T.nost) (re_v 0) re_int) ra_nil)))) (rw_or1 (rt_not (rt_tru (re_call G_is_whole (hr.mono (by omega)) rfl T.glo_is_whole F_is_whole.kp b_is_whole tk (ra_cons (re_sub_ (t := true) hu (fun _ => T.nost) (re_v 0) re_int) (ra_cons re_int (ra_cons (re_gint rfl T.int_ROOM_MOST) ra_nil))))))))) (rss_one (rs_ret re_bl)) rss_nil)
    (rss_one (rs_ret (re_or (re_isN (re_sub_ (t := true) hu (fun _ => T.nost) (re_v 0) re_int) re_non) (re_one (re_call G_is_whole (hr.mono (by omega)) rfl T.glo_is_whole F_is_whole.kp b_is_whole tk (ra_cons (re_sub_ (t := true) hu (fun _ => T.nost) (re_v 0) re_int) (ra_cons re_int (ra_cons (re_gint rfl T.int_GROUP_MOST) ra_nil))))))))))
theorem sc_is_board : FnScope N_is_board ["thing"] (defScope s_is_board) := ⟨rfl, rfl, rfl, by decide +kernel, rfl, by decide +kernel, by decide +kernel⟩
abbrev Fn_is_board (K : PySem.W.Frag) (fd : FuncData) : Prop := FunD K "is_board" "is_board" (defArgs s_is_board) (defBody s_is_board) (defScope s_is_board) [] [] (He.fAd K ("is_board", none)) fd
theorem bi_is_board {fd : FuncData} (F : Fn_is_board K fd) : Binds K fd ["thing"] [] := F.bindsN fun _ _ _ _ _ _ us hl => match us, hl with | [_], _ => rfl
theorem ok_is_board (T : Tx K mg) {fd : FuncData} (F : Fn_is_board K fd) : FnOk P w K mg base (L2.CX P w) 4 (He.fAd K ("is_board", none)) fd ["thing"] (spA K 1 (w_is_board)) := by
  obtain ⟨fd_is_thing, F_is_thing⟩ : ∃ fd, Fn_is_thing K fd := T.c.def_ 2 (d := ⟨("is_thing", none), "is_thing", "is_thing", defArgs s_is_thing, defBody s_is_thing, defScope s_is_thing, [], []⟩) rfl
  have G_is_thing := ok_is_thing (P := P) (w := w) (base := base) T F_is_thing
  have b_is_thing := bi_is_thing F_is_thing
  refine fn_ok (N := N_is_board) F sc_is_board (fun cdv A outer s H E hr => ?_)
  have hu := hu_room hr
  have hp := hp_of (P := P) (w := w) (K := K) (mg := mg) (base := base) (qual := "is_board") (scope := defScope s_is_board) (f := He.fAd K ("is_board", none)) (N := N_is_board) (cdv := cdv) (A := A) (outer := outer) (s := s) (H := H) (E := E)
  have tk := tk_of (P := P) (w := w) (K := K) (mg := mg) (base := base) (qual := "is_board") (scope := defScope s_is_board) (f := He.fAd K ("is_board", none)) (N := N_is_board) (cdv := cdv) (A := A) (outer := outer) (s := s) (H := H) (E := E)
  exact (rss_cons (rs_if (rt_w (rw_or (rt_not (rt_tru (re_cb call_isi sim_isi rfl (T.free_isinstance) (by decide +kernel) (ra_cons (re_v 0) (ra_cons (re_ty rfl (T.free_tuple) (by decide +kernel)) ra_nil))))) (rw_or1 (rt_not (rt_tru (re_cb (cr_all rfl) sim_all rfl (T.free_all) (by decide +kernel) (ra_cons (re_lc (own := [("one", 1)]) rfl sc_is_board.nd (ri_seq (re_v 0)) (blkOk_by (own := [("one", 1)]) (N := N_is_board) (sc := defScope s_is_board) (by decide +kernel)) (fun _ _ _ _ _ => (rg_n (i := 1) sc_is_board.nd rfl (by first | exact Or.inl rfl | exact Or.inr rfl))) (fun _ _ _ _ _ => rts_nil) (fun _ _ _ _ _ => (re_call G_is_thing (hr.mono (by omega)) rfl T.glo_is_thing F_is_thing.kp b_is_thing tk0 (ra_cons (re_v 1) ra_nil)))) ra_nil))))))) (rss_one (rs_ret re_bl)) rss_nil)
    (rss_one (rs_ret (re_cb (cr_all rfl) sim_all rfl (T.free_all) (by decide +kernel) (ra_cons (re_lc (own := [("one", 1), ("two", 2)]) rfl sc_is_board.nd (ri_zip rfl (T.free_zip) (ra_cons (re_slice (re_v 0) ro_none (ro_some (re_neg re_int))) (ra_cons (re_slice (re_v 0) (ro_some re_int) ro_none) ra_nil))) (blkOk_by (own := [("one", 1), ("two", 2)]) (N := N_is_board) (sc := defScope s_is_board) (by decide +kernel)) (fun _ _ _ _ _ => (rg_tup rfl (rgs_cons (rg_n (i := 1) sc_is_board.nd rfl (by first | exact Or.inl rfl | exact Or.inr rfl)) (rgs_cons (rg_n (i := 2) sc_is_board.nd rfl (by first | exact Or.inl rfl | exact Or.inr rfl)) rgs_nil)))) (fun _ _ _ _ _ => rts_nil) (fun _ _ _ _ _ => (re_lt (hul hu) (re_sub_ (t := true) hu (fun _ => T.nost) (re_v 1) re_int) (re_sub_ (t := true) hu (fun _ => T.nost) (re_v 2) re_int)))) ra_nil)))))
theorem sc_written : FnScope N_written ["board"] (defScope s_written) := ⟨rfl, rfl, rfl, by decide +kernel, rfl, by decide +kernel, by decide +kernel⟩
abbrev Fn_written (K : PySem.W.Frag) (fd : FuncData) : Prop := FunD K "written" "written" (defArgs s_written) (defBody s_written) (defScope s_written) [] [] (He.fAd K ("written", none)) fd
theorem bi_written {fd : FuncData} (F : Fn_written K fd) : Binds K fd ["board"] [] := F.bindsN fun _ _ _ _ _ _ us hl => match us, hl with | [_], _ => rfl
theorem ok_written (T : Tx K mg) {fd : FuncData} (F : Fn_written K fd) : FnOk P w K mg base (L2.CX P w) 1 (He.fAd K ("written", none)) fd ["board"] (spA K 1 (w_written)) := by
  refine fn_ok (N := N_written) F sc_written (fun cdv A outer s H E hr => ?_)
  have hu := hu_room hr
  have hp := hp_of (P := P) (w := w) (K := K) (mg := mg) (base := base) (qual := "written") (scope := defScope s_written) (f := He.fAd K ("written", none)) (N := N_written) (cdv := cdv) (A := A) (outer := outer) (s := s) (H := H) (E := E)
  have tk := tk_of (P := P) (w := w) (K := K) (mg := mg) (base := base) (qual := "written") (scope := defScope s_written) (f := He.fAd K ("written", none)) (N := N_written) (cdv := cdv) (A := A) (outer := outer) (s := s) (H := H) (E := E)
  exact (rss_cons (rs_set (i := 1) sc_written.nd rfl (Or.inl rfl) re_str)
    (rss_cons (rs_for hp rfl (ri_seq (re_v 0)) (rg_tup rfl (rgs_cons (rg_n (i := 2) sc_written.nd rfl (Or.inl rfl)) (rgs_cons (rg_n (i := 3) sc_written.nd rfl (Or.inl rfl)) (rgs_cons (rg_n (i := 4) sc_written.nd rfl (Or.inl rfl)) (rgs_cons (rg_n (i := 5) sc_written.nd rfl (Or.inl rfl)) rgs_nil))))) (rss_cons (rs_set (i := 6) sc_written.nd rfl (Or.inl rfl) re_str)
    (rss_cons (rs_if (rt_notN (re_v 5) re_non) (rss_one (rs_set (i := 6) sc_written.nd rfl (Or.inl rfl) (re_cty cr_str sim_str rfl (T.free_str) (by decide +kernel) (ra_cons (re_v 5) ra_nil)))) rss_nil)
    (rss_one (rs_set (i := 1) sc_written.nd rfl (Or.inl rfl) (re_add (re_v 1) (re_joined (.cons (re_fmt (re_v 2)) (.cons re_str (.cons (re_fmt (re_sub_ (t := true) hu (fun _ => T.nost) (re_v 3) re_int)) (.cons re_str (.cons (re_fmt (re_sub_ (t := true) hu (fun _ => T.nost) (re_v 3) re_int)) (.cons re_str (.cons (re_fmt (re_v 4)) (.cons re_str (.cons (re_fmt (re_v 6)) (.cons re_str .nil)))))))))))))))))
    (rss_one (rs_ret (re_v 1)))))
theorem sc_number_in : FnScope N_number_in ["word"] (defScope s_number_in) := ⟨rfl, rfl, rfl, by decide +kernel, rfl, by decide +kernel, by decide +kernel⟩
abbrev Fn_number_in (K : PySem.W.Frag) (fd : FuncData) : Prop := FunD K "number_in" "number_in" (defArgs s_number_in) (defBody s_number_in) (defScope s_number_in) [] [] (He.fAd K ("number_in", none)) fd
theorem bi_number_in {fd : FuncData} (F : Fn_number_in K fd) : Binds K fd ["word"] [] := F.bindsN fun _ _ _ _ _ _ us hl => match us, hl with | [_], _ => rfl
theorem ok_number_in (T : Tx K mg) {fd : FuncData} (F : Fn_number_in K fd) : FnOk P w K mg base (L2.CX P w) 1 (He.fAd K ("number_in", none)) fd ["word"] (spA K 1 (w_number_in K)) := by
  refine fn_ok (N := N_number_in) F sc_number_in (fun cdv A outer s H E hr => ?_)
  have hu := hu_room hr
  have hp := hp_of (P := P) (w := w) (K := K) (mg := mg) (base := base) (qual := "number_in") (scope := defScope s_number_in) (f := He.fAd K ("number_in", none)) (N := N_number_in) (cdv := cdv) (A := A) (outer := outer) (s := s) (H := H) (E := E)
  have tk := tk_of (P := P) (w := w) (K := K) (mg := mg) (base := base) (qual := "number_in") (scope := defScope s_number_in) (f := He.fAd K ("number_in", none)) (N := N_number_in) (cdv := cdv) (A := A) (outer := outer) (s := s) (H := H) (E := E)
  exact (rss_cons (rs_if (rt_w (rw_or (rt_eq hu (re_v 0) re_str) (rw_or (rt_gt (re_cb call_lenA sim_len rfl (T.free_len) (by decide +kernel) (ra_cons (re_v 0) ra_nil)) re_int) (rw_or (rt_not (rt_tru (re_cb (cr_all rfl) sim_all rfl (T.free_all) (by decide +kernel) (ra_cons (re_lc (own := [("sign", 1)]) rfl sc_number_in.nd (ri_signs (re_v 0)) (blkOk_by (own := [("sign", 1)]) (N := N_number_in) (sc := defScope s_number_in) (by decide +kernel)) (fun _ _ _ _ _ => (rg_n (i := 1) sc_number_in.nd rfl (by first | exact Or.inl rfl | exact Or.inr rfl))) (fun _ _ _ _ _ => rts_nil) (fun _ _ _ _ _ => (re_in (t := true) hu (fun _ => T.nost) (re_v 1) (re_gstr rfl T.str_FIGURES)))) ra_nil)))) (rw_or1 (rt_w (rw_and (rt_ne hu (re_v 0) re_str) (rw_and1 (rt_eq hu (re_sub_ (t := true) hu (fun _ => T.nost) (re_v 0) re_int) re_str))))))))) (rss_one (rs_raise rfl tk (pmk_own0 PySem.F.excBase_ValueError T.exc_NoText.1 T.glo_NoText T.exc_NoText.2.1 (raises_own T.exc_NoText.2.2.1 T.exc_NoText.2.2.2) rfl))) rss_nil)
    (rss_one (rs_ret (re_cty cr_intT sim_intT rfl (T.free_int) (by decide +kernel) (ra_cons (re_v 0) ra_nil)))))
theorem sc_thing_in : FnScope N_thing_in ["line"] (defScope s_thing_in) := ⟨rfl, rfl, rfl, by decide +kernel, rfl, by decide +kernel, by decide +kernel⟩
abbrev Fn_thing_in (K : PySem.W.Frag) (fd : FuncData) : Prop := FunD K "thing_in" "thing_in" (defArgs s_thing_in) (defBody s_thing_in) (defScope s_thing_in) [] [] (He.fAd K ("thing_in", none)) fd
theorem bi_thing_in {fd : FuncData} (F : Fn_thing_in K fd) : Binds K fd ["line"] [] := F.bindsN fun _ _ _ _ _ _ us hl => match us, hl with | [_], _ => rfl
theorem ok_thing_in (T : Tx K mg) {fd : FuncData} (F : Fn_thing_in K fd) : FnOk P w K mg base (L2.CX P w) 2 (He.fAd K ("thing_in", none)) fd ["line"] (spA K 1 (w_thing_in K)) := by
  obtain ⟨fd_number_in, F_number_in⟩ : ∃ fd, Fn_number_in K fd := T.c.def_ 5 (d := ⟨("number_in", none), "number_in", "number_in", defArgs s_number_in, defBody s_number_in, defScope s_number_in, [], []⟩) rfl
  have G_number_in := ok_number_in (P := P) (w := w) (base := base) T F_number_in
  have b_number_in := bi_number_in F_number_in
  refine fn_ok (N := N_thing_in) F sc_thing_in (fun cdv A outer s H E hr => ?_)
  have hu := hu_room hr
  have hp := hp_of (P := P) (w := w) (K := K) (mg := mg) (base := base) (qual := "thing_in") (scope := defScope s_thing_in) (f := He.fAd K ("thing_in", none)) (N := N_thing_in) (cdv := cdv) (A := A) (outer := outer) (s := s) (H := H) (E := E)
  have tk := tk_of (P := P) (w := w) (K := K) (mg := mg) (base := base) (qual := "thing_in") (scope := defScope s_thing_in) (f := He.fAd K ("thing_in", none)) (N := N_thing_in) (cdv := cdv) (A := A) (outer := outer) (s := s) (H := H) (E := E)
  exact (rss_cons (rs_set (i := 1) sc_thing_in.nd rfl (Or.inl rfl) (re_split (re_v 0) re_str))
    (rss_cons (rs_if (rt_ne hu (re_cb call_lenA sim_len rfl (T.free_len) (by decide +kernel) (ra_cons (re_v 1) ra_nil)) re_int) (rss_one (rs_raise rfl tk (pmk_own0 PySem.F.excBase_ValueError T.exc_NoText.1 T.glo_NoText T.exc_NoText.2.1 (raises_own T.exc_NoText.2.2.1 T.exc_NoText.2.2.2) rfl))) rss_nil)
    (rss_cons (rs_set (i := 2) sc_thing_in.nd rfl (Or.inl rfl) (re_cty call_tuple_of sim_tuple rfl (T.free_tuple) (by decide +kernel) (ra_cons (re_lcX (own := [("word", 4)]) rfl tk rfl rfl sc_thing_in.nd (ri_seq (re_split (re_sub_ (t := true) hu (fun _ => T.nost) (re_v 1) re_int) re_str)) (blkOk_by (own := [("word", 4)]) (N := N_thing_in) (sc := defScope s_thing_in) (by decide +kernel)) (fun _ _ _ _ _ _ => (rg_n (i := 4) sc_thing_in.nd rfl (by first | exact Or.inl rfl | exact Or.inr rfl))) (fun _ _ _ _ _ _ _ tkb => rts_nil) (fun _ _ _ _ _ _ _ tkb => (re_call G_number_in (hr.mono (by omega)) rfl T.glo_number_in F_number_in.kp b_number_in tkb (ra_cons (re_v 4) ra_nil)))) ra_nil)))
    (rss_cons (rs_set (i := 3) sc_thing_in.nd rfl (Or.inl rfl) re_non)
    (rss_cons (rs_if (rt_ne hu (re_sub_ (t := true) hu (fun _ => T.nost) (re_v 1) re_int) re_str) (rss_one (rs_set (i := 3) sc_thing_in.nd rfl (Or.inl rfl) (re_call G_number_in (hr.mono (by omega)) rfl T.glo_number_in F_number_in.kp b_number_in tk (ra_cons (re_sub_ (t := true) hu (fun _ => T.nost) (re_v 1) re_int) ra_nil)))) rss_nil)
    (rss_one (rs_ret (re_tup (ra_cons (re_call G_number_in (hr.mono (by omega)) rfl T.glo_number_in F_number_in.kp b_number_in tk (ra_cons (re_sub_ (t := true) hu (fun _ => T.nost) (re_v 1) re_int) ra_nil)) (ra_cons (re_v 2) (ra_cons (re_call G_number_in (hr.mono (by omega)) rfl T.glo_number_in F_number_in.kp b_number_in tk (ra_cons (re_sub_ (t := true) hu (fun _ => T.nost) (re_v 1) re_int) ra_nil)) (ra_cons (re_v 3) ra_nil))))))))))))
theorem sc_read : FnScope N_read ["text"] (defScope s_read) := ⟨rfl, rfl, rfl, by decide +kernel, rfl, by decide +kernel, by decide +kernel⟩
abbrev Fn_read (K : PySem.W.Frag) (fd : FuncData) : Prop := FunD K "read" "read" (defArgs s_read) (defBody s_read) (defScope s_read) [] [] (He.fAd K ("read", none)) fd
theorem bi_read {fd : FuncData} (F : Fn_read K fd) : Binds K fd ["text"] [] := F.bindsN fun _ _ _ _ _ _ us hl => match us, hl with | [_], _ => rfl
theorem ok_read (T : Tx K mg) {fd : FuncData} (F : Fn_read K fd) : FnOk P w K mg base (L2.CX P w) 5 (He.fAd K ("read", none)) fd ["text"] (spA K 1 (w_read K)) := by
  obtain ⟨fd_is_board, F_is_board⟩ : ∃ fd, Fn_is_board K fd := T.c.def_ 3 (d := ⟨("is_board", none), "is_board", "is_board", defArgs s_is_board, defBody s_is_board, defScope s_is_board, [], []⟩) rfl
  have G_is_board := ok_is_board (P := P) (w := w) (base := base) T F_is_board
  have b_is_board := bi_is_board F_is_board
  obtain ⟨fd_written, F_written⟩ : ∃ fd, Fn_written K fd := T.c.def_ 4 (d := ⟨("written", none), "written", "written", defArgs s_written, defBody s_written, defScope s_written, [], []⟩) rfl
  have G_written := ok_written (P := P) (w := w) (base := base) T F_written
  have b_written := bi_written F_written
  obtain ⟨fd_thing_in, F_thing_in⟩ : ∃ fd, Fn_thing_in K fd := T.c.def_ 6 (d := ⟨("thing_in", none), "thing_in", "thing_in", defArgs s_thing_in, defBody s_thing_in, defScope s_thing_in, [], []⟩) rfl
  have G_thing_in := ok_thing_in (P := P) (w := w) (base := base) T F_thing_in
  have b_thing_in := bi_thing_in F_thing_in
  refine fn_ok (N := N_read) F sc_read (fun cdv A outer s H E hr => ?_)
  have hu := hu_room hr
  have hp := hp_of (P := P) (w := w) (K := K) (mg := mg) (base := base) (qual := "read") (scope := defScope s_read) (f := He.fAd K ("read", none)) (N := N_read) (cdv := cdv) (A := A) (outer := outer) (s := s) (H := H) (E := E)
  have tk := tk_of (P := P) (w := w) (K := K) (mg := mg) (base := base) (qual := "read") (scope := defScope s_read) (f := He.fAd K ("read", none)) (N := N_read) (cdv := cdv) (A := A) (outer := outer) (s := s) (H := H) (E := E)
  exact (rss_cons (rs_set (i := 1) sc_read.nd rfl (Or.inl rfl) (re_cty call_tuple_of sim_tuple rfl (T.free_tuple) (by decide +kernel) (ra_cons (re_lcX (own := [("line", 2)]) rfl tk rfl rfl sc_read.nd (ri_seq (re_slice (re_split (re_v 0) re_str) ro_none (ro_some (re_neg re_int)))) (blkOk_by (own := [("line", 2)]) (N := N_read) (sc := defScope s_read) (by decide +kernel)) (fun _ _ _ _ _ _ => (rg_n (i := 2) sc_read.nd rfl (by first | exact Or.inl rfl | exact Or.inr rfl))) (fun _ _ _ _ _ _ _ tkb => rts_nil) (fun _ _ _ _ _ _ _ tkb => (re_call G_thing_in (hr.mono (by omega)) rfl T.glo_thing_in F_thing_in.kp b_thing_in tkb (ra_cons (re_v 2) ra_nil)))) ra_nil)))
    (rss_cons (rs_if (rt_w (rw_or (rt_not (rt_tru (re_call G_is_board (hr.mono (by omega)) rfl T.glo_is_board F_is_board.kp b_is_board tk (ra_cons (re_v 1) ra_nil)))) (rw_or1 (rt_ne hu (re_call G_written (hr.mono (by omega)) rfl T.glo_written F_written.kp b_written tk (ra_cons (re_v 1) ra_nil)) (re_v 0))))) (rss_one (rs_raise rfl tk (pmk_own0 PySem.F.excBase_ValueError T.exc_NoText.1 T.glo_NoText T.exc_NoText.2.1 (raises_own T.exc_NoText.2.2.1 T.exc_NoText.2.2.2) rfl))) rss_nil)
    (rss_one (rs_ret (re_v 1)))))
theorem sc__law_draw : FnScope N__law_draw ["script", "town", "many"] (defScope s__law_draw) := ⟨rfl, rfl, rfl, by decide +kernel, rfl, by decide +kernel, by decide +kernel⟩
abbrev Fn__law_draw (K : PySem.W.Frag) (fd : FuncData) : Prop := FunD K "_law_draw" "_law_draw" (defArgs s__law_draw) (defBody s__law_draw) (defScope s__law_draw) [] [] (He.fAd K ("_law_draw", none)) fd
theorem bi__law_draw {fd : FuncData} (F : Fn__law_draw K fd) : Binds K fd ["script", "town", "many"] [] := F.bindsN fun _ _ _ _ _ _ us hl => match us, hl with | [_, _, _], _ => rfl
theorem ok__law_draw (T : Tx K mg) {fd : FuncData} (F : Fn__law_draw K fd) : FnOk P w K mg base (L2.CX P w) 1 (He.fAd K ("_law_draw", none)) fd ["script", "town", "many"] (spA K 3 (w__law_draw)) := by
  refine fn_ok (N := N__law_draw) F sc__law_draw (fun cdv A outer s H E hr => ?_)
  have hu := hu_room hr
  have hp := hp_of (P := P) (w := w) (K := K) (mg := mg) (base := base) (qual := "_law_draw") (scope := defScope s__law_draw) (f := He.fAd K ("_law_draw", none)) (N := N__law_draw) (cdv := cdv) (A := A) (outer := outer) (s := s) (H := H) (E := E)
  have tk := tk_of (P := P) (w := w) (K := K) (mg := mg) (base := base) (qual := "_law_draw") (scope := defScope s__law_draw) (f := He.fAd K ("_law_draw", none)) (N := N__law_draw) (cdv := cdv) (A := A) (outer := outer) (s := s) (H := H) (E := E)
  exact (rss_cons (rs_expr (re_bm PySem.F.slot_list_append PySem.F.type_list_append mt_append sim_app (re_v 1) (ra_cons re_int ra_nil)))
    (rss_cons (rs_set (i := 3) sc__law_draw.nd rfl (Or.inl rfl) (re_cb call_lenA sim_len rfl (T.free_len) (by decide +kernel) (ra_cons (re_v 1) ra_nil)))
    (rss_cons (rs_set (i := 4) sc__law_draw.nd rfl (Or.inl rfl) re_int)
    (rss_cons (rs_if (rt_tru (re_v 0)) (rss_one (rs_set (i := 4) sc__law_draw.nd rfl (Or.inl rfl) (re_sub_ (t := true) hu (fun _ => T.nost) (re_v 0) (re_mod (re_v 3) (re_cb call_lenA sim_len rfl (T.free_len) (by decide +kernel) (ra_cons (re_v 0) ra_nil)))))) rss_nil)
    (rss_cons (rs_set (i := 5) sc__law_draw.nd rfl (Or.inl rfl) (re_mod (re_add (re_v 4) (re_mulB re_int (re_v 3))) re_int))
    (rss_cons (rs_set (i := 5) sc__law_draw.nd rfl (Or.inl rfl) (re_mod (re_mulB (re_mod (re_mulB (re_v 5) (re_v 5)) re_int) re_int) re_int))
    (rss_cons (rs_set (i := 6) sc__law_draw.nd rfl (Or.inl rfl) (re_mod (re_mulB (re_mod (re_mulB (re_v 5) (re_v 5)) re_int) re_int) re_int))
    (rss_one (rs_ret (re_mod (re_add (re_mulB (re_div (re_v 5) re_int) re_int) (re_div (re_v 6) re_int)) (re_v 2)))))))))))
theorem sc__law_pick : FnScope N__law_pick ["script", "town", "some"] (defScope s__law_pick) := ⟨rfl, rfl, rfl, by decide +kernel, rfl, by decide +kernel, by decide +kernel⟩
abbrev Fn__law_pick (K : PySem.W.Frag) (fd : FuncData) : Prop := FunD K "_law_pick" "_law_pick" (defArgs s__law_pick) (defBody s__law_pick) (defScope s__law_pick) [] [] (He.fAd K ("_law_pick", none)) fd
theorem bi__law_pick {fd : FuncData} (F : Fn__law_pick K fd) : Binds K fd ["script", "town", "some"] [] := F.bindsN fun _ _ _ _ _ _ us hl => match us, hl with | [_, _, _], _ => rfl
theorem ok__law_pick (T : Tx K mg) {fd : FuncData} (F : Fn__law_pick K fd) : FnOk P w K mg base (L2.CX P w) 2 (He.fAd K ("_law_pick", none)) fd ["script", "town", "some"] (spA K 3 (w__law_pick)) := by
  obtain ⟨fd__law_draw, F__law_draw⟩ : ∃ fd, Fn__law_draw K fd := T.c.def_ 8 (d := ⟨("_law_draw", none), "_law_draw", "_law_draw", defArgs s__law_draw, defBody s__law_draw, defScope s__law_draw, [], []⟩) rfl
  have G__law_draw := ok__law_draw (P := P) (w := w) (base := base) T F__law_draw
  have b__law_draw := bi__law_draw F__law_draw
  refine fn_ok (N := N__law_pick) F sc__law_pick (fun cdv A outer s H E hr => ?_)
  have hu := hu_room hr
  have hp := hp_of (P := P) (w := w) (K := K) (mg := mg) (base := base) (qual := "_law_pick") (scope := defScope s__law_pick) (f := He.fAd K ("_law_pick", none)) (N := N__law_pick) (cdv := cdv) (A := A) (outer := outer) (s := s) (H := H) (E := E)
  have tk := tk_of (P := P) (w := w) (K := K) (mg := mg) (base := base) (qual := "_law_pick") (scope := defScope s__law_pick) (f := He.fAd K ("_law_pick", none)) (N := N__law_pick) (cdv := cdv) (A := A) (outer := outer) (s := s) (H := H) (E := E)
  exact (rss_one (rs_ret (re_sub_ (t := true) hu (fun _ => T.nost) (re_v 2) (re_call G__law_draw (hr.mono (by omega)) rfl T.glo__law_draw F__law_draw.kp b__law_draw tk (ra_cons (re_v 0) (ra_cons (re_v 1) (ra_cons (re_cb call_lenA sim_len rfl (T.free_len) (by decide +kernel) (ra_cons (re_v 2) ra_nil)) ra_nil)))))))
theorem sc__law_place : FnScope N__law_place ["script", "town"] (defScope s__law_place) := ⟨rfl, rfl, rfl, by decide +kernel, rfl, by decide +kernel, by decide +kernel⟩
abbrev Fn__law_place (K : PySem.W.Frag) (fd : FuncData) : Prop := FunD K "_law_place" "_law_place" (defArgs s__law_place) (defBody s__law_place) (defScope s__law_place) [] [] (He.fAd K ("_law_place", none)) fd
theorem bi__law_place {fd : FuncData} (F : Fn__law_place K fd) : Binds K fd ["script", "town"] [] := F.bindsN fun _ _ _ _ _ _ us hl => match us, hl with | [_, _], _ => rfl
theorem ok__law_place (T : Tx K mg) {fd : FuncData} (F : Fn__law_place K fd) : FnOk P w K mg base (L2.CX P w) 3 (He.fAd K ("_law_place", none)) fd ["script", "town"] (spA K 2 (w__law_place)) := by
  obtain ⟨fd__law_draw, F__law_draw⟩ : ∃ fd, Fn__law_draw K fd := T.c.def_ 8 (d := ⟨("_law_draw", none), "_law_draw", "_law_draw", defArgs s__law_draw, defBody s__law_draw, defScope s__law_draw, [], []⟩) rfl
  have G__law_draw := ok__law_draw (P := P) (w := w) (base := base) T F__law_draw
  have b__law_draw := bi__law_draw F__law_draw
  obtain ⟨fd__law_pick, F__law_pick⟩ : ∃ fd, Fn__law_pick K fd := T.c.def_ 9 (d := ⟨("_law_pick", none), "_law_pick", "_law_pick", defArgs s__law_pick, defBody s__law_pick, defScope s__law_pick, [], []⟩) rfl
  have G__law_pick := ok__law_pick (P := P) (w := w) (base := base) T F__law_pick
  have b__law_pick := bi__law_pick F__law_pick
  refine fn_ok (N := N__law_place) F sc__law_place (fun cdv A outer s H E hr => ?_)
  have hu := hu_room hr
  have hp := hp_of (P := P) (w := w) (K := K) (mg := mg) (base := base) (qual := "_law_place") (scope := defScope s__law_place) (f := He.fAd K ("_law_place", none)) (N := N__law_place) (cdv := cdv) (A := A) (outer := outer) (s := s) (H := H) (E := E)
  have tk := tk_of (P := P) (w := w) (K := K) (mg := mg) (base := base) (qual := "_law_place") (scope := defScope s__law_place) (f := He.fAd K ("_law_place", none)) (N := N__law_place) (cdv := cdv) (A := A) (outer := outer) (s := s) (H := H) (E := E)
  exact (rss_cons (rs_set (i := 2) sc__law_place.nd rfl (Or.inl rfl) (re_call G__law_pick (hr.mono (by omega)) rfl T.glo__law_pick F__law_pick.kp b__law_pick tk (ra_cons (re_v 0) (ra_cons (re_v 1) (ra_cons (re_lst (ra_cons re_int (ra_cons re_int (ra_cons re_int ra_nil)))) ra_nil)))))
    (rss_cons (rs_set (i := 3) sc__law_place.nd rfl (Or.inl rfl) (re_call G__law_pick (hr.mono (by omega)) rfl T.glo__law_pick F__law_pick.kp b__law_pick tk (ra_cons (re_v 0) (ra_cons (re_v 1) (ra_cons (re_lst (ra_cons re_int (ra_cons re_int (ra_cons (re_sub re_int (re_v 2)) ra_nil)))) ra_nil)))))
    (rss_one (rs_ret (re_tup (ra_cons (re_add (re_v 3) (re_call G__law_draw (hr.mono (by omega)) rfl T.glo__law_draw F__law_draw.kp b__law_draw tk (ra_cons (re_v 0) (ra_cons (re_v 1) (ra_cons (re_v 2) ra_nil))))) (ra_cons (re_add (re_v 3) (re_call G__law_draw (hr.mono (by omega)) rfl T.glo__law_draw F__law_draw.kp b__law_draw tk (ra_cons (re_v 0) (ra_cons (re_v 1) (ra_cons (re_v 2) ra_nil))))) ra_nil)))))))
theorem sc__law_thing : FnScope N__law_thing ["script", "town", "number"] (defScope s__law_thing) := ⟨rfl, rfl, rfl, by decide +kernel, rfl, by decide +kernel, by decide +kernel⟩
abbrev Fn__law_thing (K : PySem.W.Frag) (fd : FuncData) : Prop := FunD K "_law_thing" "_law_thing" (defArgs s__law_thing) (defBody s__law_thing) (defScope s__law_thing) [] [] (He.fAd K ("_law_thing", none)) fd
theorem bi__law_thing {fd : FuncData} (F : Fn__law_thing K fd) : Binds K fd ["script", "town", "number"] [] := F.bindsN fun _ _ _ _ _ _ us hl => match us, hl with | [_, _, _], _ => rfl
theorem ok__law_thing (T : Tx K mg) {fd : FuncData} (F : Fn__law_thing K fd) : FnOk P w K mg base (L2.CX P w) 4 (He.fAd K ("_law_thing", none)) fd ["script", "town", "number"] (spA K 3 (w__law_thing)) := by
  obtain ⟨fd__law_draw, F__law_draw⟩ : ∃ fd, Fn__law_draw K fd := T.c.def_ 8 (d := ⟨("_law_draw", none), "_law_draw", "_law_draw", defArgs s__law_draw, defBody s__law_draw, defScope s__law_draw, [], []⟩) rfl
  have G__law_draw := ok__law_draw (P := P) (w := w) (base := base) T F__law_draw
  have b__law_draw := bi__law_draw F__law_draw
  obtain ⟨fd__law_pick, F__law_pick⟩ : ∃ fd, Fn__law_pick K fd := T.c.def_ 9 (d := ⟨("_law_pick", none), "_law_pick", "_law_pick", defArgs s__law_pick, defBody s__law_pick, defScope s__law_pick, [], []⟩) rfl
  have G__law_pick := ok__law_pick (P := P) (w := w) (base := base) T F__law_pick
  have b__law_pick := bi__law_pick F__law_pick
  obtain ⟨fd__law_place, F__law_place⟩ : ∃ fd, Fn__law_place K fd := T.c.def_ 10 (d := ⟨("_law_place", none), "_law_place", "_law_place", defArgs s__law_place, defBody s__law_place, defScope s__law_place, [], []⟩) rfl
  have G__law_place := ok__law_place (P := P) (w := w) (base := base) T F__law_place
  have b__law_place := bi__law_place F__law_place
  refine fn_ok (N := N__law_thing) F sc__law_thing (fun cdv A outer s H E hr => ?_)
  have hu := hu_room hr
  have hp := hp_of (P := P) (w := w) (K := K) (mg := mg) (base := base) (qual := "_law_thing") (scope := defScope s__law_thing) (f := He.fAd K ("_law_thing", none)) (N := N__law_thing) (cdv := cdv) (A := A) (outer := outer) (s := s) (H := H) (E := E)
  have tk := tk_of (P := P) (w := w) (K := K) (mg := mg) (base := base) (qual := "_law_thing") (scope := defScope s__law_thing) (f := He.fAd K ("_law_thing", none)) (N := N__law_thing) (cdv := cdv) (A := A) (outer := outer) (s := s) (H := H) (E := E)
  exact (rss_cons (rs_set (i := 3) sc__law_thing.nd rfl (Or.inl rfl) (re_call G__law_pick (hr.mono (by omega)) rfl T.glo__law_pick F__law_pick.kp b__law_pick tk (ra_cons (re_v 0) (ra_cons (re_v 1) (ra_cons (re_lst (ra_cons re_non (ra_cons re_non (ra_cons re_non (ra_cons re_int (ra_cons re_int (ra_cons re_int ra_nil))))))) ra_nil)))))
    (rss_one (rs_ret (re_tup (ra_cons (re_v 2) (ra_cons (re_call G__law_place (hr.mono (by omega)) rfl T.glo__law_place F__law_place.kp b__law_place tk (ra_cons (re_v 0) (ra_cons (re_v 1) ra_nil))) (ra_cons (re_call G__law_draw (hr.mono (by omega)) rfl T.glo__law_draw F__law_draw.kp b__law_draw tk (ra_cons (re_v 0) (ra_cons (re_v 1) (ra_cons re_int ra_nil)))) (ra_cons (re_v 3) ra_nil))))))))
theorem sc__law_board : FnScope N__law_board ["script", "town", "most"] (defScope s__law_board) := ⟨rfl, rfl, rfl, by decide +kernel, rfl, by decide +kernel, by decide +kernel⟩
abbrev Fn__law_board (K : PySem.W.Frag) (fd : FuncData) : Prop := FunD K "_law_board" "_law_board" (defArgs s__law_board) (defBody s__law_board) (defScope s__law_board) [] [] (He.fAd K ("_law_board", none)) fd
theorem bi__law_board {fd : FuncData} (F : Fn__law_board K fd) : Binds K fd ["script", "town", "most"] [] := F.bindsN fun _ _ _ _ _ _ us hl => match us, hl with | [_, _, _], _ => rfl
theorem ok__law_board (T : Tx K mg) {fd : FuncData} (F : Fn__law_board K fd) : FnOk P w K mg base (L2.CX P w) 5 (He.fAd K ("_law_board", none)) fd ["script", "town", "most"] (spA K 3 (w__law_board)) := by
  obtain ⟨fd__law_draw, F__law_draw⟩ : ∃ fd, Fn__law_draw K fd := T.c.def_ 8 (d := ⟨("_law_draw", none), "_law_draw", "_law_draw", defArgs s__law_draw, defBody s__law_draw, defScope s__law_draw, [], []⟩) rfl
  have G__law_draw := ok__law_draw (P := P) (w := w) (base := base) T F__law_draw
  have b__law_draw := bi__law_draw F__law_draw
  obtain ⟨fd__law_pick, F__law_pick⟩ : ∃ fd, Fn__law_pick K fd := T.c.def_ 9 (d := ⟨("_law_pick", none), "_law_pick", "_law_pick", defArgs s__law_pick, defBody s__law_pick, defScope s__law_pick, [], []⟩) rfl
  have G__law_pick := ok__law_pick (P := P) (w := w) (base := base) T F__law_pick
  have b__law_pick := bi__law_pick F__law_pick
  obtain ⟨fd__law_thing, F__law_thing⟩ : ∃ fd, Fn__law_thing K fd := T.c.def_ 11 (d := ⟨("_law_thing", none), "_law_thing", "_law_thing", defArgs s__law_thing, defBody s__law_thing, defScope s__law_thing, [], []⟩) rfl
  have G__law_thing := ok__law_thing (P := P) (w := w) (base := base) T F__law_thing
  have b__law_thing := bi__law_thing F__law_thing
  refine fn_ok (N := N__law_board) F sc__law_board (fun cdv A outer s H E hr => ?_)
  have hu := hu_room hr
  have hp := hp_of (P := P) (w := w) (K := K) (mg := mg) (base := base) (qual := "_law_board") (scope := defScope s__law_board) (f := He.fAd K ("_law_board", none)) (N := N__law_board) (cdv := cdv) (A := A) (outer := outer) (s := s) (H := H) (E := E)
  have tk := tk_of (P := P) (w := w) (K := K) (mg := mg) (base := base) (qual := "_law_board") (scope := defScope s__law_board) (f := He.fAd K ("_law_board", none)) (N := N__law_board) (cdv := cdv) (A := A) (outer := outer) (s := s) (H := H) (E := E)
  exact (rss_cons (rs_asg (re_tup (ra_cons re_dK (ra_cons (re_call G__law_pick (hr.mono (by omega)) rfl T.glo__law_pick F__law_pick.kp b__law_pick tk (ra_cons (re_v 0) (ra_cons (re_v 1) (ra_cons (re_lst (ra_cons re_int (ra_cons re_int ra_nil))) ra_nil)))) ra_nil))) (rg_tup rfl (rgs_cons (rg_n (i := 3) sc__law_board.nd rfl (Or.inr rfl)) (rgs_cons (rg_n (i := 4) sc__law_board.nd rfl (Or.inl rfl)) rgs_nil))))
    (rss_cons (rs_for hp rfl (ri_rng1 rfl (T.free_range) (ra_cons (re_call G__law_draw (hr.mono (by omega)) rfl T.glo__law_draw F__law_draw.kp b__law_draw tk (ra_cons (re_v 0) (ra_cons (re_v 1) (ra_cons (re_add (re_v 2) re_int) ra_nil)))) ra_nil)) (rg_n (i := 5) sc__law_board.nd rfl (Or.inl rfl)) (rss_cons (rs_set (i := 6) sc__law_board.nd rfl (Or.inl rfl) (re_call G__law_draw (hr.mono (by omega)) rfl T.glo__law_draw F__law_draw.kp b__law_draw tk (ra_cons (re_v 0) (ra_cons (re_v 1) (ra_cons (re_v 4) ra_nil)))))
    (rss_one (rs_asg (re_call G__law_thing (hr.mono (by omega)) rfl T.glo__law_thing F__law_thing.kp b__law_thing tk (ra_cons (re_v 0) (ra_cons (re_v 1) (ra_cons (re_v 6) ra_nil)))) (rg_ix (t := true) hu (fun _ => T.nost) (re_v 3) (re_v 6))))))
    (rss_one (rs_ret (re_cty call_tuple_of sim_tuple rfl (T.free_tuple) (by decide +kernel) (ra_cons (re_lc (own := [("number", 6)]) rfl sc__law_board.nd (ri_seq (re_cb (cr_srtB rfl) sim_srtB rfl (T.free_sorted) (by decide +kernel) (ra_cons (re_v 3) ra_nil))) (blkOk_by (own := [("number", 6)]) (N := N__law_board) (sc := defScope s__law_board) (by decide +kernel)) (fun _ _ _ _ _ => (rg_n (i := 6) sc__law_board.nd rfl (by first | exact Or.inl rfl | exact Or.inr rfl))) (fun _ _ _ _ _ => rts_nil) (fun _ _ _ _ _ => (re_sub_ (t := true) hu (fun _ => T.nost) (re_v 3) (re_v 6)))) ra_nil))))))
theorem sc__law_apart : FnScope N__law_apart ["one", "other"] (defScope s__law_apart) := ⟨rfl, rfl, rfl, by decide +kernel, rfl, by decide +kernel, by decide +kernel⟩
abbrev Fn__law_apart (K : PySem.W.Frag) (fd : FuncData) : Prop := FunD K "_law_apart" "_law_apart" (defArgs s__law_apart) (defBody s__law_apart) (defScope s__law_apart) [] [] (He.fAd K ("_law_apart", none)) fd
theorem bi__law_apart {fd : FuncData} (F : Fn__law_apart K fd) : Binds K fd ["one", "other"] [] := F.bindsN fun _ _ _ _ _ _ us hl => match us, hl with | [_, _], _ => rfl
theorem ok__law_apart (T : Tx K mg) {fd : FuncData} (F : Fn__law_apart K fd) : FnOk P w K mg base (L2.CX P w) 1 (He.fAd K ("_law_apart", none)) fd ["one", "other"] (spA K 2 (w__law_apart)) := by
  refine fn_ok (N := N__law_apart) F sc__law_apart (fun cdv A outer s H E hr => ?_)
  have hu := hu_room hr
  have hp := hp_of (P := P) (w := w) (K := K) (mg := mg) (base := base) (qual := "_law_apart") (scope := defScope s__law_apart) (f := He.fAd K ("_law_apart", none)) (N := N__law_apart) (cdv := cdv) (A := A) (outer := outer) (s := s) (H := H) (E := E)
  have tk := tk_of (P := P) (w := w) (K := K) (mg := mg) (base := base) (qual := "_law_apart") (scope := defScope s__law_apart) (f := He.fAd K ("_law_apart", none)) (N := N__law_apart) (cdv := cdv) (A := A) (outer := outer) (s := s) (H := H) (E := E)
  exact (rss_cons (rs_par (i := 2) (j := 3) rfl sc__law_apart.nd rfl rfl (by decide) rfl rfl (ra_cons (re_sub (re_sub_ (t := true) hu (fun _ => T.nost) (re_v 0) re_int) (re_sub_ (t := true) hu (fun _ => T.nost) (re_v 1) re_int)) (ra_cons (re_sub (re_sub_ (t := true) hu (fun _ => T.nost) (re_v 0) re_int) (re_sub_ (t := true) hu (fun _ => T.nost) (re_v 1) re_int)) ra_nil)) (by rfl))
    (rss_one (rs_ret (re_cb (call_maxA rfl) sim_max rfl (T.free_max) (by decide +kernel) (ra_cons (re_v 2) (ra_cons (re_neg (re_v 2)) (ra_cons (re_v 3) (ra_cons (re_neg (re_v 3)) ra_nil))))))))
theorem sc__law_read : FnScope N__law_read ["text"] (defScope s__law_read) := ⟨rfl, rfl, rfl, by decide +kernel, rfl, by decide +kernel, by decide +kernel⟩
abbrev Fn__law_read (K : PySem.W.Frag) (fd : FuncData) : Prop := FunD K "_law_read" "_law_read" (defArgs s__law_read) (defBody s__law_read) (defScope s__law_read) [] [] (He.fAd K ("_law_read", none)) fd
theorem bi__law_read {fd : FuncData} (F : Fn__law_read K fd) : Binds K fd ["text"] [] := F.bindsN fun _ _ _ _ _ _ us hl => match us, hl with | [_], _ => rfl
theorem ok__law_read (T : Tx K mg) {fd : FuncData} (F : Fn__law_read K fd) : FnOk P w K mg base (L2.CX P w) 6 (He.fAd K ("_law_read", none)) fd ["text"] (spA K 1 (w__law_read K)) := by
  obtain ⟨fd_read, F_read⟩ : ∃ fd, Fn_read K fd := T.c.def_ 7 (d := ⟨("read", none), "read", "read", defArgs s_read, defBody s_read, defScope s_read, [], []⟩) rfl
  have G_read := ok_read (P := P) (w := w) (base := base) T F_read
  have b_read := bi_read F_read
  refine fn_ok (N := N__law_read) F sc__law_read (fun cdv A outer s H E hr => ?_)
  have hu := hu_room hr
  have hp := hp_of (P := P) (w := w) (K := K) (mg := mg) (base := base) (qual := "_law_read") (scope := defScope s__law_read) (f := He.fAd K ("_law_read", none)) (N := N__law_read) (cdv := cdv) (A := A) (outer := outer) (s := s) (H := H) (E := E)
  have tk := tk_of (P := P) (w := w) (K := K) (mg := mg) (base := base) (qual := "_law_read") (scope := defScope s__law_read) (f := He.fAd K ("_law_read", none)) (N := N__law_read) (cdv := cdv) (A := A) (outer := outer) (s := s) (H := H) (E := E)
  exact (rss_one (rs_try rfl rfl tk (fun _ _ _ tk hp => (rss_one (rs_ret (re_call G_read (hr.mono (by omega)) rfl T.glo_read F_read.kp b_read tk (ra_cons (re_v 0) ra_nil))))) (.cons ⟨rfl, by decide, .inl T.glo_NoText⟩ (fun _ _ => (rss_one (rs_ret re_non))) .nil)))
theorem sc__law_line : FnScope N__law_line ["thing"] (defScope s__law_line) := ⟨rfl, rfl, rfl, by decide +kernel, rfl, by decide +kernel, by decide +kernel⟩
abbrev Fn__law_line (K : PySem.W.Frag) (fd : FuncData) : Prop := FunD K "_law_line" "_law_line" (defArgs s__law_line) (defBody s__law_line) (defScope s__law_line) [] [] (He.fAd K ("_law_line", none)) fd
theorem bi__law_line {fd : FuncData} (F : Fn__law_line K fd) : Binds K fd ["thing"] [] := F.bindsN fun _ _ _ _ _ _ us hl => match us, hl with | [_], _ => rfl
theorem ok__law_line (T : Tx K mg) {fd : FuncData} (F : Fn__law_line K fd) : FnOk P w K mg base (L2.CX P w) 1 (He.fAd K ("_law_line", none)) fd ["thing"] (spA K 1 (w__law_line)) := by
  refine fn_ok (N := N__law_line) F sc__law_line (fun cdv A outer s H E hr => ?_)
  have hu := hu_room hr
  have hp := hp_of (P := P) (w := w) (K := K) (mg := mg) (base := base) (qual := "_law_line") (scope := defScope s__law_line) (f := He.fAd K ("_law_line", none)) (N := N__law_line) (cdv := cdv) (A := A) (outer := outer) (s := s) (H := H) (E := E)
  have tk := tk_of (P := P) (w := w) (K := K) (mg := mg) (base := base) (qual := "_law_line") (scope := defScope s__law_line) (f := He.fAd K ("_law_line", none)) (N := N__law_line) (cdv := cdv) (A := A) (outer := outer) (s := s) (H := H) (E := E)
  exact (rss_cons (rs_asg (re_v 0) (rg_tup rfl (rgs_cons (rg_n (i := 1) sc__law_line.nd rfl (Or.inl rfl)) (rgs_cons (rg_n (i := 2) sc__law_line.nd rfl (Or.inl rfl)) (rgs_cons (rg_n (i := 3) sc__law_line.nd rfl (Or.inl rfl)) (rgs_cons (rg_n (i := 4) sc__law_line.nd rfl (Or.inl rfl)) rgs_nil))))))
    (rss_cons (rs_set (i := 5) sc__law_line.nd rfl (Or.inl rfl) (re_lst (ra_cons (re_cty cr_str sim_str rfl (T.free_str) (by decide +kernel) (ra_cons (re_v 1) ra_nil)) (ra_cons (re_add (re_add (re_cty cr_str sim_str rfl (T.free_str) (by decide +kernel) (ra_cons (re_sub_ (t := true) hu (fun _ => T.nost) (re_v 2) re_int) ra_nil)) re_str) (re_cty cr_str sim_str rfl (T.free_str) (by decide +kernel) (ra_cons (re_sub_ (t := true) hu (fun _ => T.nost) (re_v 2) re_int) ra_nil))) (ra_cons (re_cty cr_str sim_str rfl (T.free_str) (by decide +kernel) (ra_cons (re_v 3) ra_nil)) (ra_cons (re_ifx (rt_isN (re_v 4) re_non) re_str (re_cty cr_str sim_str rfl (T.free_str) (by decide +kernel) (ra_cons (re_v 4) ra_nil))) ra_nil))))))
    (rss_one (rs_ret (re_add (re_join re_str (re_v 5)) re_str)))))
theorem sc_law : FnScope N_law ["script"] (defScope s_law) := ⟨rfl, rfl, rfl, by decide +kernel, rfl, by decide +kernel, by decide +kernel⟩
abbrev Fn_law (K : PySem.W.Frag) (fd : FuncData) : Prop := FunD K "law" "law" (defArgs s_law) (defBody s_law) (defScope s_law) [] [] (He.fAd K ("law", none)) fd
theorem bi_law {fd : FuncData} (F : Fn_law K fd) : Binds K fd ["script"] [] := F.bindsN fun _ _ _ _ _ _ us hl => match us, hl with | [_], _ => rfl
theorem ok_law (T : Tx K mg) {fd : FuncData} (F : Fn_law K fd) : FnOk P w K mg base (L2.CX P w) 7 (He.fAd K ("law", none)) fd ["script"] (spA K 1 (w_law K)) := by
  obtain ⟨fd_written, F_written⟩ : ∃ fd, Fn_written K fd := T.c.def_ 4 (d := ⟨("written", none), "written", "written", defArgs s_written, defBody s_written, defScope s_written, [], []⟩) rfl
  have G_written := ok_written (P := P) (w := w) (base := base) T F_written
  have b_written := bi_written F_written
  obtain ⟨fd__law_draw, F__law_draw⟩ : ∃ fd, Fn__law_draw K fd := T.c.def_ 8 (d := ⟨("_law_draw", none), "_law_draw", "_law_draw", defArgs s__law_draw, defBody s__law_draw, defScope s__law_draw, [], []⟩) rfl
  have G__law_draw := ok__law_draw (P := P) (w := w) (base := base) T F__law_draw
  have b__law_draw := bi__law_draw F__law_draw
  obtain ⟨fd__law_board, F__law_board⟩ : ∃ fd, Fn__law_board K fd := T.c.def_ 12 (d := ⟨("_law_board", none), "_law_board", "_law_board", defArgs s__law_board, defBody s__law_board, defScope s__law_board, [], []⟩) rfl
  have G__law_board := ok__law_board (P := P) (w := w) (base := base) T F__law_board
  have b__law_board := bi__law_board F__law_board
  obtain ⟨fd__law_read, F__law_read⟩ : ∃ fd, Fn__law_read K fd := T.c.def_ 14 (d := ⟨("_law_read", none), "_law_read", "_law_read", defArgs s__law_read, defBody s__law_read, defScope s__law_read, [], []⟩) rfl
  have G__law_read := ok__law_read (P := P) (w := w) (base := base) T F__law_read
  have b__law_read := bi__law_read F__law_read
  obtain ⟨fd__law_line, F__law_line⟩ : ∃ fd, Fn__law_line K fd := T.c.def_ 15 (d := ⟨("_law_line", none), "_law_line", "_law_line", defArgs s__law_line, defBody s__law_line, defScope s__law_line, [], []⟩) rfl
  have G__law_line := ok__law_line (P := P) (w := w) (base := base) T F__law_line
  have b__law_line := bi__law_line F__law_line
  refine fn_ok (N := N_law) F sc_law (fun cdv A outer s H E hr => ?_)
  have hu := hu_room hr
  have hp := hp_of (P := P) (w := w) (K := K) (mg := mg) (base := base) (qual := "law") (scope := defScope s_law) (f := He.fAd K ("law", none)) (N := N_law) (cdv := cdv) (A := A) (outer := outer) (s := s) (H := H) (E := E)
  have tk := tk_of (P := P) (w := w) (K := K) (mg := mg) (base := base) (qual := "law") (scope := defScope s_law) (f := He.fAd K ("law", none)) (N := N_law) (cdv := cdv) (A := A) (outer := outer) (s := s) (H := H) (E := E)
  exact (rss_cons (rs_set (i := 1) sc_law.nd rfl (Or.inl rfl) (re_lst ra_nil))
    (rss_cons (rs_for hp rfl (ri_rng1 rfl (T.free_range) (ra_cons re_int ra_nil)) (rg_n (i := 2) sc_law.nd rfl (Or.inl rfl)) (rss_cons (rs_set (i := 3) sc_law.nd rfl (Or.inl rfl) (re_call G__law_board (hr.mono (by omega)) rfl T.glo__law_board F__law_board.kp b__law_board tk (ra_cons (re_v 0) (ra_cons (re_v 1) (ra_cons re_int ra_nil)))))
    (rss_cons (rs_setLc (i := 4) (own := [("thing", 11)]) rfl sc_law.nd rfl rfl (sw_true rfl rfl rfl (by decide +kernel)) (ri_seq (re_v 3)) (blkOk_by (own := [("thing", 11)]) (N := N_law) (sc := defScope s_law) (by decide +kernel)) (fun _ _ _ _ _ => (rg_n (i := 11) sc_law.nd rfl (by first | exact Or.inl rfl | exact Or.inr rfl))) (fun _ _ _ _ _ => rts_nil) (fun _ _ _ _ _ => (re_call G__law_line (hr.mono (by omega)) rfl T.glo__law_line F__law_line.kp b__law_line tk0 (ra_cons (re_v 11) ra_nil))))
    (rss_cons (rs_par (i := 5) (j := 6) rfl sc_law.nd rfl rfl (by decide) rfl rfl (ra_cons (re_call G_written (hr.mono (by omega)) rfl T.glo_written F_written.kp b_written tk (ra_cons (re_v 3) ra_nil)) (ra_cons (re_call G__law_draw (hr.mono (by omega)) rfl T.glo__law_draw F__law_draw.kp b__law_draw tk (ra_cons (re_v 0) (ra_cons (re_v 1) (ra_cons (re_add (re_cb call_lenA sim_len rfl (T.free_len) (by decide +kernel) (ra_cons (re_v 3) ra_nil)) re_int) ra_nil)))) ra_nil)) (by rfl))
    (rss_cons (rs_if (rt_w (rw_or (rt_ne hu (re_v 5) (re_join re_str (re_v 4))) (rw_or1 (rt_ne hu (re_call G__law_read (hr.mono (by omega)) rfl T.glo__law_read F__law_read.kp b__law_read tk (ra_cons (re_v 5) ra_nil)) (re_v 3))))) (rss_one (rs_ret re_bl)) rss_nil)
    (rss_cons (rs_if (rt_w (rw_or (rt_ne hu (re_call G__law_read (hr.mono (by omega)) rfl T.glo__law_read F__law_read.kp b__law_read tk (ra_cons (re_call G_written (hr.mono (by omega)) rfl T.glo_written F_written.kp b_written tk (ra_cons (re_slice (re_v 3) ro_none (ro_some (re_v 6))) ra_nil)) ra_nil)) (re_slice (re_v 3) ro_none (ro_some (re_v 6)))) (rw_or1 (rt_ne hu (re_add (re_call G_written (hr.mono (by omega)) rfl T.glo_written F_written.kp b_written tk (ra_cons (re_slice (re_v 3) ro_none (ro_some (re_v 6))) ra_nil)) (re_call G_written (hr.mono (by omega)) rfl T.glo_written F_written.kp b_written tk (ra_cons (re_slice (re_v 3) (ro_some (re_v 6)) ro_none) ra_nil))) (re_v 5))))) (rss_one (rs_ret re_bl)) rss_nil)
    (rss_cons (rs_set (i := 7) sc_law.nd rfl (Or.inl rfl) (re_call G__law_read (hr.mono (by omega)) rfl T.glo__law_read F__law_read.kp b__law_read tk (ra_cons (re_join re_str (re_revL (re_v 4))) ra_nil)))
    (rss_cons (rs_if (rt_ne hu (re_v 7) (re_ifx (rt_lt (hul hu) (re_cb call_lenA sim_len rfl (T.free_len) (by decide +kernel) (ra_cons (re_v 3) ra_nil)) re_int) (re_v 3) re_non)) (rss_one (rs_ret re_bl)) rss_nil)
    (rss_cons (rs_if (rt_w (rw_and (rt_tru (re_v 3)) (rw_and1 (rt_w (rw_or (rt_notN (re_call G__law_read (hr.mono (by omega)) rfl T.glo__law_read F__law_read.kp b__law_read tk (ra_cons (re_add (re_v 5) (re_sub_ (t := true) hu (fun _ => T.nost) (re_v 4) (re_neg re_int))) ra_nil)) re_non) (rw_or1 (rt_notN (re_call G__law_read (hr.mono (by omega)) rfl T.glo__law_read F__law_read.kp b__law_read tk (ra_cons (re_sliceS (re_v 5) ro_none (ro_some (re_neg re_int))) ra_nil)) re_non))))))) (rss_one (rs_ret re_bl)) rss_nil)
    (rss_cons (rs_set (i := 8) sc_law.nd rfl (Or.inl rfl) (re_add (re_call G_written (hr.mono (by omega)) rfl T.glo_written F_written.kp b_written tk (ra_cons (re_slice (re_v 3) (ro_some (re_v 6)) ro_none) ra_nil)) (re_call G_written (hr.mono (by omega)) rfl T.glo_written F_written.kp b_written tk (ra_cons (re_slice (re_v 3) ro_none (ro_some (re_v 6))) ra_nil))))
    (rss_cons (rs_if (rt_ne hu (re_call G__law_read (hr.mono (by omega)) rfl T.glo__law_read F__law_read.kp b__law_read tk (ra_cons (re_v 8) ra_nil)) (re_ifx (rt_in (t := true) hu (fun _ => T.nost) (re_v 6) (re_tup (ra_cons re_int (ra_cons (re_cb call_lenA sim_len rfl (T.free_len) (by decide +kernel) (ra_cons (re_v 3) ra_nil)) ra_nil)))) (re_v 3) re_non)) (rss_one (rs_ret re_bl)) rss_nil)
    (rss_cons (rs_for hp rfl (ri_seq (re_tup (ra_cons re_str (ra_cons re_str (ra_cons re_str (ra_cons re_str (ra_cons re_str (ra_cons re_str (ra_cons re_str ra_nil))))))))) (rg_n (i := 9) sc_law.nd rfl (Or.inl rfl)) (rss_one (rs_if (rt_notN (re_call G__law_read (hr.mono (by omega)) rfl T.glo__law_read F__law_read.kp b__law_read tk (ra_cons (re_add (re_v 9) re_str) ra_nil)) re_non) (rss_one (rs_ret re_bl)) rss_nil)))
    (rss_cons (rs_set (i := 10) sc_law.nd rfl (Or.inl rfl) (re_lst (ra_cons re_str (ra_cons re_str (ra_cons re_str (ra_cons re_str ra_nil))))))
    (rss_cons (rs_for hp rfl (ri_seq (re_add (re_v 10) (re_lst (ra_cons re_str (ra_cons re_str (ra_cons re_str (ra_cons re_str ra_nil))))))) (rg_n (i := 9) sc_law.nd rfl (Or.inl rfl)) (rss_one (rs_if (rt_notN (re_call G__law_read (hr.mono (by omega)) rfl T.glo__law_read F__law_read.kp b__law_read tk (ra_cons (re_add (re_v 9) re_str) ra_nil)) re_non) (rss_one (rs_ret re_bl)) rss_nil)))
    (rss_cons (rs_if (rt_ne hu (re_call G__law_read (hr.mono (by omega)) rfl T.glo__law_read F__law_read.kp b__law_read tk (ra_cons re_str ra_nil)) (re_tup (ra_cons (re_tup (ra_cons re_int (ra_cons (re_tup (ra_cons re_int (ra_cons re_int ra_nil))) (ra_cons re_int (ra_cons re_int ra_nil))))) ra_nil))) (rss_one (rs_ret re_bl)) rss_nil)
    (rss_cons (rs_if (rt_ne hu (re_call G__law_read (hr.mono (by omega)) rfl T.glo__law_read F__law_read.kp b__law_read tk (ra_cons re_str ra_nil)) (re_tup (ra_cons (re_tup (ra_cons re_int (ra_cons (re_tup (ra_cons re_int (ra_cons re_int ra_nil))) (ra_cons re_int (ra_cons re_non ra_nil))))) ra_nil))) (rss_one (rs_ret re_bl)) rss_nil)
    (rss_one (rs_if (rt_w (rw_or (rt_ne hu (re_call G__law_read (hr.mono (by omega)) rfl T.glo__law_read F__law_read.kp b__law_read tk (ra_cons re_str ra_nil)) (re_tup ra_nil)) (rw_or1 (rt_notN (re_call G__law_read (hr.mono (by omega)) rfl T.glo__law_read F__law_read.kp b__law_read tk (ra_cons re_str ra_nil)) re_non)))) (rss_one (rs_ret re_bl)) rss_nil))))))))))))))))))
    (rss_one (rs_ret re_bl))))
end
end L
set_option Elab.async false
set_option linter.all false
set_option maxRecDepth 100000
set_option maxHeartbeats 4000000
namespace L
open PySem PySem.Spec PyProof.Rows L2 Ab
local macro_rules | `(tactic| walk_at "sx") => `(tactic| try simp only [wZipM, aSrtB_ref, aMulB_int, aMulB_ref, wChain, wRev, wPar3, wSeq, wRet, wRetN, wAsg, wDrop, wIfS, wNext, wPar, wCB, wBM, wCons, wNil, wOp, wUn, wV, wC, wTup, wLst, wCall, wB, Ab.wTru, Ab.wNot, wAnd, wOr, wAndV, wOrV, wNotV, wIf, wFor, wSeqI, wRng1, wRng2, wZip, wLc, wLcX, wSl, wON, wOS, gN, gT, gsCons, gsNil, wYes, wDK, wDT, List.map_cons, List.map_nil, List.length_cons, List.length_nil, List.cons_append, List.nil_append, List.replicate_succ, List.replicate_zero, List.append_nil, List.set_cons_zero, List.set_cons_succ, get0, getS, ex_some2, ex_some, ex_bl, aIx, aSub, aI, aIC, aAdd, aMod, aDiv, aMul, aNeg, atI0, atI1, atI2, atI3, aAbs, aMax, aMin, aLen, aLe, aLt, aGt, aGe, aIs, aOrd, aIsN, aNotN, isNonD, aTuple, aList, aInt, aIsi, aAll, aAny, aBls, aSum, aSl, truA, itemsA, aApp, aEq, aNe, wipeA, Nat.reduceAdd, Nat.reduceSub, if_true, if_false, Bool.false_eq_true, true_and, and_true])
local macro_rules | `(tactic| walk_at "sy") => `(tactic| try simp only [Bool.true_xor, Bool.false_xor, Bool.xor_false, Bool.xor_true, tyD, isiB, String.reduceBEq, String.reduceEq, reduceCtorEq, Bool.or_false, Bool.false_or, Bool.true_or, Bool.or_true, Bool.false_and, Bool.and_false, Bool.true_and, Bool.and_true, or_true, true_or, or_false, false_or, true_and, and_true, Bool.not_true, Bool.not_false, if_true, if_false, Bool.false_eq_true, eqD, okD])
local macro_rules | `(tactic| walk_at "sw") => `(tactic| try simp only [wZipM, aSrtB_ref, aMulB_int, aMulB_ref, wChain, wRev, wPar3, wSeq, wRet, wRetN, wAsg, wDrop, wIfS, wNext, wPar, wCB, wBM, wCons, wNil, wOp, wUn, wV, wC, wTup, wLst, wCall, wB, Ab.wTru, Ab.wNot, wAnd, wOr, wAndV, wOrV, wNotV, wIf, wFor, wSeqI, wRng1, wRng2, wZip, wLc, wLcX, wSl, wON, wOS, gN, gT, gsCons, gsNil, wYes, wDK, wDT, List.map_cons, List.map_nil, List.length_cons, List.length_nil, List.cons_append, List.nil_append, List.replicate_succ, List.replicate_zero, List.append_nil, List.set_cons_zero, List.set_cons_succ, get0, getS, ex_some2, ex_some, ex_bl, aIx, aSub, aI, aIC, aAdd, aMod, aDiv, aMul, aNeg, atI0, atI1, atI2, atI3, aAbs, aMax, aMin, aLen, aLe, aLt, aGt, aGe, aIs, aOrd, aIsN, aNotN, isNonD, aTuple, aList, aInt, aAll, aAny, aBls, aSum, aSl, truA, itemsA, aApp, aEq, aNe, wipeA, Nat.reduceAdd, Nat.reduceSub, if_true, if_false, Bool.false_eq_true, true_and, and_true])
local macro_rules | `(tactic| walk_at "st") => `(tactic| try simp only [wZipM, aSrtB_ref, aMulB_int, aMulB_ref, wChain, wRev, wPar3, wSeq, wRet, wRetN, wAsg, wDrop, wIfS, wNext, wPar, wCB, wBM, wCons, wNil, wOp, wUn, wV, wC, wTup, wLst, wCall, wB, Ab.wTru, Ab.wNot, wAnd, wOr, wAndV, wOrV, wNotV, wIf, wFor, wSeqI, wRng1, wRng2, wZip, wLc, wLcX, wSl, wON, wOS, gN, gT, gsCons, gsNil, wYes, wDK, wDT, List.map_cons, List.map_nil, List.length_cons, List.length_nil, List.cons_append, List.nil_append, List.replicate_succ, List.replicate_zero, List.append_nil, List.set_cons_zero, List.set_cons_succ, get0, getS, ex_some2, ex_some, ex_bl, aIx_tup, aIx_scr, aSub, aI, aIC, aAdd, aMod, aDiv, aMul, aNeg, atI0, atI1, atI2, atI3, aAbs, aMax, aMin, aLen, aLe, aLt, aGt, aGe, aIs, aOrd, aIsN, aNotN, isNonD, aTuple, aList, aInt, aIsi, aAll, aAny, aBls, aSum, aSl, truA, itemsA, aApp, aEq, aNe, wipeA, Nat.reduceAdd, Nat.reduceSub, if_true, if_false, Bool.false_eq_true, true_and, and_true])
theorem ite_no {c : Prop} {dc : Decidable c} {a b : Prop} (hc : ¬c) (h : b) : @ite Prop c dc a b := by rw [if_neg hc]; exact h
theorem ite_yes {c : Prop} {dc : Decidable c} {a b : Prop} (hc : c) (h : a) : @ite Prop c dc a b := by rw [if_pos hc]; exact h
theorem not_t {b : Bool} (h : b = true) : ¬((!b) = true) := by rw [h]; decide
theorem not_f {b : Bool} (h : b = false) : ¬(b = true) := by rw [h]; decide
theorem fmod_rng {a m : Int} (h : 0 < m) : 0 ≤ a.fmod m ∧ a.fmod m < m := ⟨Int.fmod_nonneg_of_pos a h, Int.fmod_lt_of_pos a h⟩
theorem draw_ok {S : Sto} {Q : AK} {E : XA} {tw : Addr} {ns : List Int} {zs : List D} {many : Int} (ht : S tw = some (.lst zs)) (hz : zs.length < 100000) (hm : 0 < many)
    (h : ∀ d, 0 ≤ d → d < many → Q (.int d) (put S tw (.lst (zs ++ [.int 0])))) : w__law_draw [.scr ns, .ref tw, .int many] S Q E := by
  unfold w__law_draw wFn b__law_draw
  walk_at "sx"
  simp only [ht]
  refine ⟨⟨tw, zs, rfl, ht⟩, szl hz, ?_⟩
  unfold b__law_draw_1
  walk_at "sx"
  simp only [put_same, List.length_append, List.length_cons, List.length_nil]
  unfold b__law_draw_2
  walk_at "sx"
  unfold b__law_draw_3
  walk_at "sx"
  have key : ∀ (A : AEnds) (c : Int) (k : Nat) , A.rt = Q → b__law_draw_5 A [some (D.scr ns), some (D.ref tw), some (D.int many), some (D.int (k : Int)), some (D.int c), none, none] (put S tw (AO.lst (zs ++ [D.int 0]))) := fun A c k hA => by
    unfold b__law_draw_5
    walk_at "sx"
    refine ⟨.inl ⟨by decide, by decide⟩, by decide, ?_⟩
    obtain ⟨m1, m2⟩ := fmod_rng (a := c + 104729 * (k : Int)) (m := 4294967291) (by decide)
    generalize Int.fmod (c + 104729 * (k : Int)) 4294967291 = n at m1 m2
    unfold b__law_draw_6
    walk_at "sx"
    refine ⟨.inl ⟨by omega, by omega⟩, by decide, .inr ⟨by decide, by decide⟩, by decide, ?_⟩
    obtain ⟨m3, m4⟩ := fmod_rng (a := Int.fmod (n * n) 4294967279 * 48271) (m := 4294967291) (by decide)
    generalize Int.fmod (Int.fmod (n * n) 4294967279 * 48271) 4294967291 = n2 at m3 m4
    unfold b__law_draw_7
    walk_at "sx"
    refine ⟨.inl ⟨by omega, by omega⟩, by decide, .inr ⟨by decide, by decide⟩, by decide, ?_⟩
    unfold b__law_draw_8
    walk_at "sx"
    refine ⟨⟨by decide, by decide⟩, .inr ⟨by decide, by decide⟩, ⟨by decide, by decide⟩, by omega, ?_⟩
    rw [hA]
    obtain ⟨m5, m6⟩ := fmod_rng (a := Int.fdiv n2 64 * 67108864 + Int.fdiv (Int.fmod (Int.fmod (n2 * n2) 4294967279 * 69621) 4294967291) 64) hm
    exact h _ m5 m6
  cases ns with
  | nil => exact key _ 0 (zs.length + 1) rfl
  | cons n r =>
    simp only [List.isEmpty_cons, Bool.not_false, if_true]
    unfold b__law_draw_4
    walk_at "sx"
    have hl : 0 < (((n :: r).length : Nat) : Int) := by rw [List.length_cons]; omega
    obtain ⟨m1, m2⟩ := fmod_rng (a := ((zs.length + 1 : Nat) : Int)) hl
    refine ⟨by omega, ?_⟩
    have e : ∃ c, atI (n :: r) (Int.fmod ((zs.length + 1 : Nat) : Int) (((n :: r).length : Nat) : Int)) = some c := by
      have h2 : (Int.fmod ((zs.length + 1 : Nat) : Int) (((n :: r).length : Nat) : Int)).toNat < (n :: r).length := by omega
      refine ⟨(n :: r)[(Int.fmod ((zs.length + 1 : Nat) : Int) (((n :: r).length : Nat) : Int)).toNat], ?_⟩
      have h3 := atI_nat (List.getElem?_eq_getElem h2)
      rw [Int.toNat_of_nonneg m1] at h3
      exact h3
    obtain ⟨c, hc⟩ := e
    exact ⟨c, hc, key _ c (zs.length + 1) rfl⟩

/-- the town's length -/
def Tn (S : Sto) (tw : Addr) (n : Nat) : Prop := ∃ zs, S tw = some (.lst zs) ∧ zs.length ≤ n
theorem Tn.mono {S : Sto} {tw : Addr} {n m : Nat} (h : Tn S tw n) (l : n ≤ m) : Tn S tw m := let ⟨zs, e, h⟩ := h; ⟨zs, e, Nat.le_trans h l⟩
theorem Tn.put {S : Sto} {tw p : Addr} {n : Nat} {o : AO} (h : Tn S tw n) (e : S p = none) : Tn (put S p o) tw n := let ⟨zs, e1, h⟩ := h; ⟨zs, by rw [put_ne (ne_some e1 e)]; exact e1, h⟩
theorem Tn.put' {S : Sto} {tw p : Addr} {n : Nat} {o : AO} (h : Tn S tw n) (e : tw ≠ p) : Tn (Ab.put S p o) tw n := let ⟨zs, e1, h⟩ := h; ⟨zs, by rw [put_ne e]; exact e1, h⟩
theorem Tn.ne {S : Sto} {tw p : Addr} {n : Nat} (h : Tn S tw n) (e : S p = none) : tw ≠ p := let ⟨zs, e1, h⟩ := h; ne_some e1 e
theorem draw_ok' {S : Sto} {Q : AK} {E : XA} {tw : Addr} {ns : List Int} {n : Nat} {many : Int} (ht : Tn S tw n) (hn : n < 100000) (hm : 0 < many)
    (h : ∀ d S', 0 ≤ d → d < many → Kp [tw] S S' → Tn S' tw (n + 1) → Q (.int d) S') : w__law_draw [.scr ns, .ref tw, .int many] S Q E := by
  obtain ⟨zs, e, hl⟩ := ht
  exact draw_ok e (by omega) hm fun d h1 h2 => h d _ h1 h2 (Kp.mem (by simp)) ⟨_, put_same, by simp; omega⟩
theorem pick_ok {S : Sto} {Q : AK} {E : XA} {tw l : Addr} {ns : List Int} {n : Nat} {xs : List D} (ht : Tn S tw n) (hn : n < 100000) (hx : S l = some (.lst xs)) (hl : l ≠ tw) (h0 : xs ≠ [])
    (h : ∀ x S', x ∈ xs → Kp [tw] S S' → Tn S' tw (n + 1) → Q x S') : w__law_pick [.scr ns, .ref tw, .ref l] S Q E := by
  unfold w__law_pick wFn b__law_pick
  walk_at "sx"
  simp only [hx]
  have h1 : 0 < xs.length := List.length_pos_iff.mpr h0
  refine draw_ok' ht hn (by omega) fun d S' d1 d2 k t => ?_
  have e := k l _ hx (by simpa using hl)
  simp only [e]
  have h2 : d.toNat < xs.length := by omega
  refine ⟨xs[d.toNat], ?_, h _ _ (List.getElem_mem h2) k t⟩
  have h3 := atI_nat (List.getElem?_eq_getElem h2)
  rw [Int.toNat_of_nonneg d1] at h3
  exact h3
/-- a pick out of a list that is written there -/
theorem pickL_ok {S : Sto} {Q : AK} {E : XA} {tw : Addr} {ns : List Int} {n : Nat} {xs : List D} (ht : Tn S tw n) (hn : n < 100000) (h0 : xs ≠ [])
    (h : ∀ x S', x ∈ xs → Kp [tw] S S' → Tn S' tw (n + 1) → Q x S') : ∀ p, S p = none → w__law_pick [.scr ns, .ref tw, .ref p] (put S p (.lst xs)) Q E := fun p hp =>
  pick_ok (ht.put hp) hn put_same (ht.ne hp).symm h0 fun x S' hx k t => h x S' hx ((Kp.new hp).trans k) t
def InB (p : Int × Int) : Prop := 0 ≤ p.1 ∧ p.1 < 200 ∧ 0 ≤ p.2 ∧ p.2 < 200
theorem place_ok {S : Sto} {Q : AK} {E : XA} {tw : Addr} {ns : List Int} {n : Nat} (ht : Tn S tw n) (hn : n + 4 < 100000)
    (h : ∀ p S', InB p → Kp [tw] S S' → Tn S' tw (n + 4) → Q (plD p) S') : w__law_place [.scr ns, .ref tw] S Q E := by
  unfold w__law_place wFn b__law_place
  walk_at "sx"
  refine ⟨sz (by omega), pickL_ok ht (by omega) (by simp) fun top S1 h1 k1 t1 => ?_⟩
  obtain ⟨t, rfl, ht1⟩ : ∃ t, top = .int t ∧ (t = 6 ∨ t = 30 ∨ t = 200) := by
    simp only [List.mem_cons, List.not_mem_nil, or_false] at h1
    rcases h1 with rfl | rfl | rfl
    · exact ⟨_, rfl, .inl rfl⟩
    · exact ⟨_, rfl, .inr (.inl rfl)⟩
    · exact ⟨_, rfl, .inr (.inr rfl)⟩
  unfold b__law_place_1
  walk_at "sx"
  refine ⟨sz (by omega), pickL_ok t1 (by omega) (by simp) fun low S2 h2 k2 t2 => ?_⟩
  obtain ⟨lo, rfl, hlo⟩ : ∃ lo, low = .int lo ∧ (lo = 0 ∨ lo = 200 - t) := by
    simp only [List.mem_cons, List.not_mem_nil, or_false] at h2
    rcases h2 with rfl | rfl | rfl
    · exact ⟨_, rfl, .inl rfl⟩
    · exact ⟨_, rfl, .inl rfl⟩
    · exact ⟨_, rfl, .inr rfl⟩
  unfold b__law_place_2
  walk_at "sx"
  refine draw_ok' t2 (by omega) (by omega) fun d S3 d1 d2 k3 t3 => draw_ok' t3 (by omega) (by omega) fun d' S4 d3 d4 k4 t4 => ⟨sz (by omega), ?_⟩
  refine h (lo + d, lo + d') S4 ⟨?_, ?_, ?_, ?_⟩ (((k1.trans k2).trans k3).trans k4) t4 <;> (simp only; omega)
structure Th where
  id : Int
  pl : Int × Int
  room : Int
  grp : Option Int
def grD : Option Int → D
  | none => .non
  | some g => .int g
def thD (t : Th) : D := .tup [.int t.id, plD t.pl, .int t.room, grD t.grp]
structure Th.Ok (t : Th) : Prop where
  pl : InB t.pl
  room : 0 ≤ t.room ∧ t.room < 4
  grp : ∀ g, t.grp = some g → g = 0 ∨ g = 1 ∨ g = 9
theorem thing_ok {S : Sto} {Q : AK} {E : XA} {tw : Addr} {ns : List Int} {n : Nat} {i : Int} (ht : Tn S tw n) (hn : n + 6 < 100000)
    (h : ∀ t S', t.id = i → t.Ok → Kp [tw] S S' → Tn S' tw (n + 6) → Q (thD t) S') : w__law_thing [.scr ns, .ref tw, .int i] S Q E := by
  unfold w__law_thing wFn b__law_thing
  walk_at "sx"
  refine ⟨sz (by omega), pickL_ok ht (by omega) (by simp) fun g S1 h1 k1 t1 => ?_⟩
  obtain ⟨g, rfl, hg⟩ : ∃ g', g = grD g' ∧ (∀ z, g' = some z → z = 0 ∨ z = 1 ∨ z = 9) := by
    simp only [List.mem_cons, List.not_mem_nil, or_false] at h1
    rcases h1 with rfl | rfl | rfl | rfl | rfl | rfl
    · exact ⟨none, rfl, by simp⟩
    · exact ⟨none, rfl, by simp⟩
    · exact ⟨none, rfl, by simp⟩
    · exact ⟨some 0, rfl, by simp⟩
    · exact ⟨some 1, rfl, by simp⟩
    · exact ⟨some 9, rfl, by simp⟩
  unfold b__law_thing_1
  walk_at "sx"
  refine place_ok t1 (by omega) fun p S2 hp k2 t2 => draw_ok' t2 (by omega) (by omega) fun r S3 r1 r2 k3 t3 => ⟨sz (by omega), ?_⟩
  exact h ⟨i, p, r, g⟩ S3 rfl ⟨hp, ⟨r1, r2⟩, hg⟩ ((k1.trans k2).trans k3) t3
def tkv (t : Th) : Key × D := (Sum.inl t.id, thD t)
def putT (ts : List Th) (t : Th) : List Th := if (ts.any fun u => decide (u.id = t.id)) = true then ts.map (fun u => if u.id = t.id then t else u) else ts ++ [t]
theorem any_tkv (ts : List Th) (i : Int) : ((ts.map tkv).any fun kv => decide (kv.1 = Sum.inl i)) = ts.any fun u => decide (u.id = i) := by
  rw [List.any_map]
  congr 1
  funext u
  simp [tkv]
theorem putA_tkv (ts : List Th) (t : Th) : putA (ts.map tkv) (Sum.inl t.id) (thD t) = (putT ts t).map tkv := by
  unfold putA putT
  rw [any_tkv]
  split
  · rw [List.map_map, List.map_map]
    refine List.map_congr_left fun u _ => ?_
    simp only [Function.comp, tkv]
    by_cases h : u.id = t.id <;> simp [h, tkv]
  · rw [List.map_append]
    rfl
theorem putT_ids (ts : List Th) (t : Th) (h : (ts.map Th.id).Nodup) : ((putT ts t).map Th.id).Nodup ∧ (putT ts t).length ≤ ts.length + 1 ∧ ∀ u ∈ putT ts t, u ∈ ts ∨ u = t := by
  unfold putT
  split
  · rename_i ha
    refine ⟨?_, by simp, fun u hu => ?_⟩
    · have e : (ts.map fun u => if u.id = t.id then t else u).map Th.id = ts.map Th.id := by
        rw [List.map_map]
        refine List.map_congr_left fun u _ => ?_
        simp only [Function.comp]
        split
        · rename_i hh; exact hh.symm
        · rfl
      rw [e]
      exact h
    · obtain ⟨v, hv, rfl⟩ := List.mem_map.mp hu
      split
      · exact .inr rfl
      · exact .inl hv
  · rename_i ha
    refine ⟨?_, by simp, fun u hu => by simpa using hu⟩
    rw [List.map_append, List.nodup_append]
    refine ⟨h, by simp, fun a ha' b hb e => ?_⟩
    obtain ⟨u, hu, rfl⟩ := List.mem_map.mp ha'
    have hb' : b = t.id := by simpa using hb
    subst hb'
    exact ha (List.any_eq_true.mpr ⟨u, hu, decide_eq_true e⟩)
theorem getA_tkv {ts : List Th} {i : Int} : getA (ts.map tkv) (Sum.inl i) = (ts.find? fun u => decide (u.id = i)).map thD := by
  unfold getA
  rw [List.find?_map]
  have e : ((fun kv : Key × D => decide (kv.1 = Sum.inl i)) ∘ tkv) = fun u : Th => decide (u.id = i) := by
    funext u
    simp [tkv]
  rw [e]
  cases ts.find? fun u => decide (u.id = i) <;> rfl
structure IsBd (b : List Th) (m : Nat) (top : Int) : Prop where
  up : b.Pairwise fun s t => s.id < t.id
  ok : ∀ t ∈ b, t.Ok ∧ 0 ≤ t.id ∧ t.id < top
  len : b.length ≤ m
def bdD (b : List Th) : D := .tup (b.map thD)
theorem sorted_ids {ts : List Th} {ms : List Int} (hn : (ts.map Th.id).Nodup) (hp : ms.Perm (ts.map Th.id)) (hs : ms.Pairwise (· ≤ ·)) :
    ∃ b : List Th, (ms.map D.int).filterMap (fun d => match d with | .int i => (ts.find? fun u => decide (u.id = i)).map thD | _ => none) = b.map thD ∧ b.map Th.id = ms ∧ (∀ t ∈ b, t ∈ ts) ∧ b.length = ts.length := by
  have all : ∀ l : List Int, (∀ i ∈ l, i ∈ ts.map Th.id) → ∃ b : List Th, (l.map D.int).filterMap (fun d => match d with | .int i => (ts.find? fun u => decide (u.id = i)).map thD | _ => none) = b.map thD ∧ b.map Th.id = l ∧ (∀ t ∈ b, t ∈ ts) := by
    intro l
    induction l with
    | nil => intro _; exact ⟨[], rfl, rfl, by simp⟩
    | cons i r ih =>
      intro h
      obtain ⟨b, e1, e2, e3⟩ := ih fun j hj => h j (by simp [hj])
      obtain ⟨u, hu, hi⟩ := List.mem_map.mp (h i (by simp))
      cases hf : ts.find? fun u => decide (u.id = i) with
      | none =>
        have := List.find?_eq_none.mp hf u hu
        simp [hi] at this
      | some v =>
        have hv : v.id = i := by simpa using List.find?_some hf
        refine ⟨v :: b, ?_, by simp [hv, e2], fun t ht => ?_⟩
        · simp only [List.map_cons, List.filterMap_cons, hf, Option.map_some]
          rw [e1]
        · rcases List.mem_cons.mp ht with rfl | ht
          · exact List.mem_of_find?_eq_some hf
          · exact e3 t ht
  obtain ⟨b, e1, e2, e3⟩ := all ms fun i hi => hp.mem_iff.mp hi
  refine ⟨b, e1, e2, e3, ?_⟩
  have h1 := congrArg List.length e2
  have h2 := hp.length_eq
  simp at h1 h2
  omega
theorem lt_of_le_nodup {ms : List Int} (hs : ms.Pairwise (· ≤ ·)) (hn : ms.Nodup) : ms.Pairwise (· < ·) := by
  have := List.Pairwise.and hs hn
  exact this.imp fun {a b} h => by have := h.1; have := h.2; omega
theorem board_ok {S : Sto} {Q : AK} {E : XA} {tw : Addr} {ns : List Int} {n m : Nat} (ht : Tn S tw n) (hn : n + 3 + 7 * m < 100000) (hm : m < 60)
    (h : ∀ b S', IsBd b m 100 → Kp [tw] S S' → Tn S' tw (n + 3 + 7 * m) → Q (bdD b) S') : w__law_board [.scr ns, .ref tw, .int m] S Q E := by
  unfold w__law_board wFn b__law_board
  walk_at "sx"
  intro g hg
  refine ⟨sz (by omega), pickL_ok (ht.put hg) (by omega) (by simp) fun top S1 h1 k1 t1 => ⟨sz (by omega), ?_⟩⟩
  obtain ⟨top, rfl, htop⟩ : ∃ t, top = .int t ∧ (0 < t ∧ t ≤ 100) := by
    simp only [List.mem_cons, List.not_mem_nil, or_false] at h1
    rcases h1 with rfl | rfl
    · exact ⟨_, rfl, by decide, by decide⟩
    · exact ⟨_, rfl, by decide, by decide⟩
  have hgt : g ≠ tw := (ht.ne hg).symm
  have K1 : Kp [tw] S S1 := (Kp.new hg).trans k1
  have e1 : S1 g = some (.dK []) := k1 g _ put_same (by simpa using hgt)
  unfold b__law_board_1
  walk_at "sx"
  refine draw_ok' t1 (by omega) (by omega) fun c S2 c1 c2 k2 t2 => ⟨by omega, by omega, ?_⟩
  refine loopA_inv (fun i ρ S' => ∃ (ts : List Th) (x y : Option D), ρ = [some (.scr ns), some (.ref tw), some (.int m), some (.ref g), some (.int top), x, y] ∧ S' g = some (.dK (ts.map tkv)) ∧ Kp [tw, g] S S' ∧ Tn S' tw (n + 2 + 7 * i) ∧ (ts.map Th.id).Nodup ∧ ts.length ≤ i ∧ ∀ t ∈ ts, t.Ok ∧ 0 ≤ t.id ∧ t.id < 100) ?_ (fun _ _ _ _ => trivial) ?_ ?_
  · exact ⟨[], none, none, rfl, k2 g _ e1 (by simpa using hgt), (K1.trans k2).weak (by simp), t2.mono (by omega), by simp, by simp, by simp⟩
  · rintro i x ρ S3 N hx hN ⟨ts, x1, y1, rfl, e3, k3, t3, nd, hl, ok⟩
    have hi : i < c.toNat := by
      have := (List.getElem?_eq_some_iff.mp hx).1
      simpa [rangeD] using this
    walk_at "sx"
    unfold b__law_board_2
    walk_at "sx"
    refine draw_ok' t3 (by omega) (by omega) fun d S4 d1 d2 k4 t4 => ?_
    unfold b__law_board_3
    walk_at "sx"
    refine thing_ok t4 (by omega) fun t S5 ti tok k5 t5 => ?_
    have e5 : S5 g = some (.dK (ts.map tkv)) := k5 g _ (k4 g _ e3 (by simpa using hgt)) (by simpa using hgt)
    simp only [gIx, wV, get0, getS, ex_some2, e5, dputA, keyA]
    obtain ⟨q1, q2, q3⟩ := putT_ids ts t nd
    refine ⟨szl (by simp; omega), hN _ _ ⟨putT ts t, some x, some (.int d), rfl, ?_, ?_, ?_, q1, by omega, fun u hu => ?_⟩⟩
    · rw [put_same, ← ti, putA_tkv]
    · exact (k3.trans ((k4.trans k5).weak (by simp))).put (.inr (by simp))
    · exact (t5.put' (Ne.symm hgt)).mono (by omega)
    · rcases q3 u hu with hu | rfl
      · exact ok u hu
      · exact ⟨tok, by omega, by omega⟩
  · rintro ρ S3 ⟨ts, x1, y1, rfl, e3, k3, t3, nd, hl, ok⟩
    have hlen : (rangeD 0 c.toNat).length = c.toNat := by simp [rangeD]
    rw [hlen] at t3 hl
    unfold b__law_board_4
    walk_at "sx"
    simp only [aSrt, e3]
    refine ⟨ts.map Th.id, by rw [List.map_map, List.map_map]; rfl, by simp; omega, fun ms p1 p2 p hp => ?_⟩
    simp only [put_same]
    obtain ⟨b, b1, b2, b3, b4⟩ := sorted_ids nd p1 p2
    have hgp : g ≠ p := ne_some e3 hp
    refine lc_ext (fun d => match d with | .int i => (ts.find? fun u => decide (u.id = i)).map thD | _ => none) ?_ (fun S4 k4 => k4 p _ put_same (by simp)) ?_ ?_
    · have := p1.length_eq
      simp at this ⊢
      omega
    · rintro x hx S4 k4 N1 N2 h1 h2
      obtain ⟨i, hi, rfl⟩ := List.mem_map.mp hx
      have e4 : S4 g = some (.dK (ts.map tkv)) := k4 g _ (by rw [put_ne hgp]; exact e3) (by simp)
      walk_at "sx"
      simp only [e4, dgetA, keyA, getA_tkv]
      cases hf : ts.find? fun u => decide (u.id = i) with
      | none =>
        obtain ⟨u, hu, he⟩ := List.mem_map.mp (p1.mem_iff.mp hi)
        have := List.find?_eq_none.mp hf u hu
        simp [he] at this
      | some v => exact ⟨thD v, rfl, h1 _ _ (by simp [hf]) Kp.refl⟩
    · intro p' S4 hp' k4 e4
      simp only [e4]
      rw [b1]
      have kk : Kp [tw, g] S S4 := (k3.trans (Kp.new hp)).trans k4.of0
      have up : (b.map Th.id).Pairwise (· < ·) := by rw [b2]; exact lt_of_le_nodup p2 (p1.nodup_iff.mpr nd)
      refine h b S4 ⟨List.pairwise_map.mp up, fun t ht => ok t (b3 t ht), by omega⟩ (fun a o ha hna => kk a o ha fun hm => ?_) ?_
      · rcases List.mem_cons.mp hm with z | z
        · exact hna (by simp [z])
        · have : a = g := by simpa using z
          rw [this, hg] at ha
          cases ha
      · have t4 : Tn S4 tw (n + 2 + 7 * c.toNat) := by
          obtain ⟨zs, z1, z2⟩ := t3
          exact ⟨zs, k4 tw _ (by rw [put_ne (ne_some z1 hp)]; exact z1) (by simp), z2⟩
        exact t4.mono (by omega)
theorem any_int (l : List Int) (i : Int) : ((l.map D.int).any fun z => eqD z (.int i)) = decide (i ∈ l) := by
  rw [List.any_map]
  induction l with
  | nil => rfl
  | cons a r ih =>
    rw [List.any_cons, ih]
    simp only [Function.comp, eqD, List.mem_cons]
    by_cases h : a = i
    · subst h; simp
    · have : (a == i) = false := beq_eq_false_iff_ne.mpr h
      rw [this, Bool.false_or]
      simp [Ne.symm h]
theorem all_okI (l : List Int) (n : Nat) : (l.map D.int).all (okD n) = true := by
  rw [List.all_map, List.all_eq_true]
  intro x _
  cases n <;> rfl
theorem in_ints {b neg : Bool} {i : Int} {l : List Int} {S : Sto} {Q : AK} (h : Q (.bl (xor neg (decide (i ∈ l)))) S) : aIn b neg (.int i) (.tup (l.map D.int)) S Q := by
  simp only [aIn, any_int, all_okI]
  refine ⟨rfl, trivial, ?_⟩
  cases neg <;> simpa using h
end L
set_option Elab.async false
set_option linter.all false
set_option maxRecDepth 100000
set_option maxHeartbeats 4000000
namespace L
open PySem PySem.Spec PyProof.Rows L2 Ab
local macro_rules | `(tactic| walk_at "sx") => `(tactic| try simp only [wZipM, aSrtB_ref, aMulB_int, aMulB_ref, wChain, wRev, wPar3, wSeq, wRet, wRetN, wAsg, wDrop, wIfS, wNext, wPar, wCB, wBM, wCons, wNil, wOp, wUn, wV, wC, wTup, wLst, wCall, wB, Ab.wTru, Ab.wNot, wAnd, wOr, wAndV, wOrV, wNotV, wIf, wFor, wSeqI, wRng1, wRng2, wZip, wLc, wLcX, wSl, wON, wOS, gN, gT, gsCons, gsNil, wYes, wDK, wDT, List.map_cons, List.map_nil, List.length_cons, List.length_nil, List.cons_append, List.nil_append, List.replicate_succ, List.replicate_zero, List.append_nil, List.set_cons_zero, List.set_cons_succ, get0, getS, ex_some2, ex_some, ex_bl, aIx, aSub, aI, aIC, aAdd, aMod, aDiv, aMul, aNeg, atI0, atI1, atI2, atI3, aAbs, aMax, aMin, aLen, aLe, aLt, aGt, aGe, aIs, aOrd, aIsN, aNotN, isNonD, aTuple, aList, aInt, aIsi, aAll, aAny, aBls, aSum, aSl, truA, itemsA, aApp, aEq, aNe, wipeA, Nat.reduceAdd, Nat.reduceSub, if_true, if_false, Bool.false_eq_true, true_and, and_true])
local macro_rules | `(tactic| walk_at "sy") => `(tactic| try simp only [Bool.true_xor, Bool.false_xor, Bool.xor_false, Bool.xor_true, tyD, isiB, String.reduceBEq, String.reduceEq, reduceCtorEq, Bool.or_false, Bool.false_or, Bool.true_or, Bool.or_true, Bool.false_and, Bool.and_false, Bool.true_and, Bool.and_true, or_true, true_or, or_false, false_or, true_and, and_true, Bool.not_true, Bool.not_false, if_true, if_false, Bool.false_eq_true, eqD, okD])
local macro_rules | `(tactic| walk_at "sw") => `(tactic| try simp only [wZipM, aSrtB_ref, aMulB_int, aMulB_ref, wChain, wRev, wPar3, wSeq, wRet, wRetN, wAsg, wDrop, wIfS, wNext, wPar, wCB, wBM, wCons, wNil, wOp, wUn, wV, wC, wTup, wLst, wCall, wB, Ab.wTru, Ab.wNot, wAnd, wOr, wAndV, wOrV, wNotV, wIf, wFor, wSeqI, wRng1, wRng2, wZip, wLc, wLcX, wSl, wON, wOS, gN, gT, gsCons, gsNil, wYes, wDK, wDT, List.map_cons, List.map_nil, List.length_cons, List.length_nil, List.cons_append, List.nil_append, List.replicate_succ, List.replicate_zero, List.append_nil, List.set_cons_zero, List.set_cons_succ, get0, getS, ex_some2, ex_some, ex_bl, aIx, aSub, aI, aIC, aAdd, aMod, aDiv, aMul, aNeg, atI0, atI1, atI2, atI3, aAbs, aMax, aMin, aLen, aLe, aLt, aGt, aGe, aIs, aOrd, aIsN, aNotN, isNonD, aTuple, aList, aInt, aAll, aAny, aBls, aSum, aSl, truA, itemsA, aApp, aEq, aNe, wipeA, Nat.reduceAdd, Nat.reduceSub, if_true, if_false, Bool.false_eq_true, true_and, and_true])
local macro_rules | `(tactic| walk_at "st") => `(tactic| try simp only [wZipM, aSrtB_ref, aMulB_int, aMulB_ref, wChain, wRev, wPar3, wSeq, wRet, wRetN, wAsg, wDrop, wIfS, wNext, wPar, wCB, wBM, wCons, wNil, wOp, wUn, wV, wC, wTup, wLst, wCall, wB, Ab.wTru, Ab.wNot, wAnd, wOr, wAndV, wOrV, wNotV, wIf, wFor, wSeqI, wRng1, wRng2, wZip, wLc, wLcX, wSl, wON, wOS, gN, gT, gsCons, gsNil, wYes, wDK, wDT, List.map_cons, List.map_nil, List.length_cons, List.length_nil, List.cons_append, List.nil_append, List.replicate_succ, List.replicate_zero, List.append_nil, List.set_cons_zero, List.set_cons_succ, get0, getS, ex_some2, ex_some, ex_bl, aIx_tup, aIx_scr, aSub, aI, aIC, aAdd, aMod, aDiv, aMul, aNeg, atI0, atI1, atI2, atI3, aAbs, aMax, aMin, aLen, aLe, aLt, aGt, aGe, aIs, aOrd, aIsN, aNotN, isNonD, aTuple, aList, aInt, aIsi, aAll, aAny, aBls, aSum, aSl, truA, itemsA, aApp, aEq, aNe, wipeA, Nat.reduceAdd, Nat.reduceSub, if_true, if_false, Bool.false_eq_true, true_and, and_true])
/-! all of a list of one Bool -/
theorem bls_const {α : Type} {l : List α} {b : Bool} : blsOf (l.filterMap fun _ => some (D.bl b)) = some (l.map fun _ => b) := by
  have := blsOf_map (l.map fun _ => b)
  rw [List.map_map] at this
  rw [show (l.filterMap fun _ => some (D.bl b)) = l.map fun _ => D.bl b from by simp]
  exact this
theorem any_no {α : Type} {l : List α} {p : Addr} {S : Sto} {Q : AK} (e : S p = some (.lst (l.filterMap fun _ => some (D.bl false)))) (h : Q (.bl false) S) : aAny [.ref p] S Q := by
  unfold aAny aBls
  simp only [e, bls_const]
  have : ((l.map fun _ => false).any id) = false := by
    rw [List.any_map, List.any_eq_false]
    simp
  rw [this]
  exact h
theorem all_yes {α : Type} {l : List α} {p : Addr} {S : Sto} {Q : AK} (e : S p = some (.lst (l.filterMap fun _ => some (D.bl true)))) (h : Q (.bl true) S) : aAll [.ref p] S Q := by
  unfold aAll aBls
  simp only [e, bls_const]
  have : ((l.map fun _ => true).all id) = true := by
    rw [List.all_map, List.all_eq_true]
    simp
  rw [this]
  exact h
theorem all_true' {α : Type} (l : List α) : ((l.map fun _ => true).all id) = true := by
  rw [List.all_map, List.all_eq_true]
  simp
theorem any_false' {α : Type} (l : List α) : ((l.map fun _ => false).any id) = false := by
  rw [List.any_map, List.any_eq_false]
  simp
/-! ### lines of things, plainly -/
def VTh (t : Th) : Prop := (0 ≤ t.id ∧ t.id < 100) ∧ ((0 ≤ t.pl.1 ∧ t.pl.1 < 200) ∧ 0 ≤ t.pl.2 ∧ t.pl.2 < 200) ∧ (0 ≤ t.room ∧ t.room < 10) ∧ ∀ g, t.grp = some g → 0 ≤ g ∧ g < 10
def mkS (g : Option Int) : Str := match g with
  | none => "-"
  | some i => nS i
def lnL (t : Th) : List Nat := LL (nS t.id) ++ 32 :: (LL (nS t.pl.1) ++ 44 :: LL (nS t.pl.2)) ++ 32 :: LL (nS t.room) ++ 32 :: LL (mkS t.grp)
def txS (b : List Th) : Str := ⟨(endL 10 (b.map lnL)).toArray⟩
theorem LL_tx (b : List Th) : LL (txS b) = endL 10 (b.map lnL) := rfl
theorem LL_mk (l : List Nat) : LL ⟨l.toArray⟩ = l := rfl
theorem num_dig {i : Int} (h : 0 ≤ i ∧ i < 200) {c : Nat} (hc : c ∈ LL (nS i)) : 48 ≤ c ∧ c ≤ 57 := of_decide_eq_true (List.all_eq_true.mp (num_of h).2.1 c hc)
theorem mk_dig {g : Option Int} (h : ∀ i, g = some i → 0 ≤ i ∧ i < 10) {c : Nat} (hc : c ∈ LL (mkS g)) : c = 45 ∨ (48 ≤ c ∧ c ≤ 57) := by
  cases g with
  | none =>
    have e : LL (mkS none) = [45] := by decide +kernel
    rw [e] at hc
    exact .inl (List.mem_singleton.mp hc)
  | some i =>
    have := h i rfl
    exact .inr (num_dig (by omega) hc)
theorem ln_free {t : Th} (v : VTh t) {c : Nat} (h : c ∈ lnL t) : c = 32 ∨ c = 44 ∨ c = 45 ∨ (48 ≤ c ∧ c ≤ 57) := by
  obtain ⟨h1, ⟨h2, h3⟩, h4, h5⟩ := v
  unfold lnL at h
  simp only [List.mem_append, List.mem_cons] at h
  rcases h with ((h | h | h | h | h) | h | h) | h | h
  · exact .inr (.inr (.inr (num_dig (by omega) h)))
  · exact .inl h
  · exact .inr (.inr (.inr (num_dig (by omega) h)))
  · exact .inr (.inl h)
  · exact .inr (.inr (.inr (num_dig (by omega) h)))
  · exact .inl h
  · exact .inr (.inr (.inr (num_dig (by omega) h)))
  · exact .inl h
  · rcases mk_dig h5 h with z | z
    · exact .inr (.inr (.inl z))
    · exact .inr (.inr (.inr z))
def lnS (t : Th) : Str := ⟨(lnL t).toArray⟩
/-- the lines of a text -/
theorem split_lines {b : List Th} (v : ∀ t ∈ b, VTh t) : Txt.split (txS b) ⟨#[10]⟩ = b.map lnS ++ [Str.empty] := by
  refine split_eq (by simp) (fun p hp => ?_) (str_ext ?_)
  · rcases List.mem_append.mp hp with z | z
    · obtain ⟨t, ht, rfl⟩ := List.mem_map.mp z
      intro hc
      have := ln_free (v t ht) (show 10 ∈ lnL t from hc)
      omega
    · rw [List.mem_singleton.mp z]
      intro hc
      cases hc
  · rw [LL_join, LL_tx, List.map_append, List.map_map]
    show jn 10 (b.map (LL ∘ lnS) ++ [[]]) = _
    rw [jn_end]
    rfl
def wdsS (t : Th) : List Str := [nS t.id, ⟨(LL (nS t.pl.1) ++ 44 :: LL (nS t.pl.2)).toArray⟩, nS t.room, mkS t.grp]
/-- the words of a line -/
theorem split_words {t : Th} (v : VTh t) : Txt.split (lnS t) ⟨#[32]⟩ = wdsS t := by
  obtain ⟨h1, ⟨h2, h3⟩, h4, h5⟩ := v
  refine split_eq (by unfold wdsS; simp) (fun p hp hc => ?_) (str_ext ?_)
  · unfold wdsS at hp
    simp only [List.mem_cons, List.not_mem_nil, or_false] at hp
    rcases hp with rfl | rfl | rfl | rfl
    · have := num_dig (by omega) hc; omega
    · have hc : 32 ∈ LL (nS t.pl.1) ++ 44 :: LL (nS t.pl.2) := hc
      simp only [List.mem_append, List.mem_cons] at hc
      rcases hc with z | z | z
      · have := num_dig (by omega) z; omega
      · cases z
      · have := num_dig (by omega) z; omega
    · have := num_dig (by omega) hc; omega
    · have := mk_dig h5 hc; omega
  · rw [LL_join]
    show jn 32 [LL (nS t.id), LL (nS t.pl.1) ++ 44 :: LL (nS t.pl.2), LL (nS t.room), LL (mkS t.grp)] = lnL t
    unfold lnL jn jn jn jn
    simp
/-- the two numbers of a place -/
theorem split_place {x y : Int} (hx : 0 ≤ x ∧ x < 200) (hy : 0 ≤ y ∧ y < 200) : Txt.split ⟨(LL (nS x) ++ 44 :: LL (nS y)).toArray⟩ ⟨#[44]⟩ = [nS x, nS y] := by
  refine split_eq (by simp) (fun p hp hc => ?_) (str_ext ?_)
  · simp only [List.mem_cons, List.not_mem_nil, or_false] at hp
    rcases hp with rfl | rfl
    · have := num_dig hx hc; omega
    · have := num_dig hy hc; omega
  · rw [LL_join]
    rfl
/-! ### lines of things, walked -/
theorem strOk_of {x : Str} (h : ∀ c ∈ LL x, c < 1000) : PyData.strOk x = true := by
  unfold PyData.strOk
  rw [← Array.all_toList, List.all_eq_true]
  intro c hc
  have := h c hc
  exact decide_eq_true (by omega)
theorem okStr {n : Nat} {x : Str} (h : ∀ c ∈ LL x, c < 1000) : okD n (.str x) = true := by
  have := strOk_of h
  cases n <;> exact this
theorem num_small {i : Int} (h : 0 ≤ i ∧ i < 200) : ∀ c ∈ LL (nS i), c < 1000 := fun c hc => by have := num_dig h hc; omega
theorem mk_small {g : Option Int} (h : ∀ i, g = some i → 0 ≤ i ∧ i < 10) : ∀ c ∈ LL (mkS g), c < 1000 := fun c hc => by have := mk_dig h hc; omega
theorem eqStr (x y : Str) : eqD (.str x) (.str y) = decide (x = y) := by
  show (x == y) = _
  by_cases h : x = y <;> simp [h]
theorem LL_nil : LL (Str.ofString "") = [] := by decide +kernel
theorem LL_nul : LL (Str.ofString "0") = [48] := by decide +kernel
theorem LL_fig : LL (Str.ofString "0123456789") = [48, 49, 50, 51, 52, 53, 54, 55, 56, 57] := by decide +kernel
theorem S_lf : Str.ofString "\n" = ⟨#[10]⟩ := by decide +kernel
theorem S_sp : Str.ofString " " = ⟨#[32]⟩ := by decide +kernel
theorem S_co : Str.ofString "," = ⟨#[44]⟩ := by decide +kernel
theorem S_da : Str.ofString "-" = ⟨#[45]⟩ := by decide +kernel
section
variable {K : PySem.W.Frag} {S S' : Sto} {Q : AK} {E : XA}
theorem number_in_ok {i : Int} (h : 0 ≤ i ∧ i < 200) (q : ∀ S', Kp [] S S' → Q (.int i) S') : w_number_in K [.str (nS i)] S Q E := by
  obtain ⟨⟨h3, h0, hi⟩, hd, hh⟩ := num_of h
  have ok := okStr (n := 8) (num_small h)
  have fin : ∀ S1, Kp [] S S1 → b_number_in_2 K { nx := fun x S' => Q D.non S', rt := Q, bk := fun x x_1 => False, ct := fun x x_1 => False, xe := fun c x S' => E c S' } [some (.str (nS i)), none] S1 := fun S1 k1 => by
    unfold b_number_in_2
    walk_at "st"
    exact ⟨i, hi, by omega, q S1 k1⟩
  unfold w_number_in wFn b_number_in
  walk_at "st"
  refine ⟨ok, by decide +kernel, ite_no ?_ ?_⟩
  · rw [eqStr, decide_eq_true_eq]
    intro z
    have h1 : LL (nS i) = [] := by rw [z]; exact LL_nil
    rw [LL_len, h1] at h0
    exact h0 rfl
  refine ⟨Nat.le_trans h3 (by decide), ite_no (by rw [decide_eq_true_eq]; omega) ?_⟩
  simp only [wSigns]
  walk_at "st"
  unfold Ab.signs
  have hlen : (LL (nS i)).length ≤ 3 := by rw [← LL_len]; exact h3
  refine lc_map (ys := LL (nS i)) (e := fun c => D.str ⟨#[c]⟩) (fun _ => some (.bl true)) (by omega) (fun _ _ => trivial) ?_ ?_
  · intro c hc S1 k1 N1 N2 h1 _
    walk_at "st"
    simp only [aIn]
    refine ⟨c, rfl, ?_⟩
    have d := num_dig h hc
    have e : decide (c ∈ LL (Str.ofString "0123456789")) = true := by
      rw [LL_fig, decide_eq_true_eq]
      simp only [List.mem_cons, List.not_mem_nil, or_false]
      omega
    have e : decide (c ∈ (Str.ofString "0123456789").cps.toList) = true := e
    rw [e]
    exact h1 _ S1 rfl Kp.refl
  intro p S1 hp k1 e1
  simp only [e1, bls_const, all_true']
  refine ite_no (by decide) ?_
  refine ⟨ok, by decide +kernel, ?_⟩
  rw [eqStr]
  by_cases z : nS i = Str.ofString "0"
  · refine ite_no (by simp [z]) ?_
    exact fin S1 k1
  · refine ite_yes (by simpa using z) ?_
    cases hl : LL (nS i) with
    | nil =>
      rw [LL_len, hl] at h0
      exact absurd rfl h0
    | cons c r =>
      simp only [aIx]
      refine ⟨Nat.le_trans h3 (by decide), c, by rw [show (nS i).cps.toList = c :: r from hl]; exact atI0 c r, ?_⟩
      have hc : c ∈ LL (nS i) := by rw [hl]; simp
      have dc := num_dig h hc
      refine ⟨okStr fun y hy => by
        have hy : y ∈ [c] := hy
        rw [List.mem_singleton.mp hy]; omega, by decide +kernel, ite_no ?_ (fin S1 k1)⟩
      rw [eqStr, decide_eq_true_eq]
      intro y
      have h1 : LL ⟨#[c]⟩ = [48] := by rw [y]; exact LL_nul
      have h2 : c = 48 := by
        have h1 : [c] = [48] := h1
        exact (List.cons.inj h1).1
      have h4 := hh (by rw [hl, h2]; rfl)
      subst h4
      exact z (by decide +kernel)
theorem ix_lst {g : Addr} {xs : List D} {j : Nat} {i : Int} {d : D} {b : Bool} (e : S g = some (.lst xs)) (hd : xs[j]? = some d) (hi : i = (j : Int)) (q : Q d S) : aIx b (.ref g) (.int i) S Q := by
  subst hi
  simp only [aIx, e]
  exact ⟨d, atI_nat hd, q⟩
theorem num_len {i : Int} (h : 0 ≤ i ∧ i < 200) : (LL (nS i)).length ≤ 3 := by rw [← LL_len]; exact (num_of h).1.1
theorem mk_len {g : Option Int} (h : ∀ i, g = some i → 0 ≤ i ∧ i < 10) : (LL (mkS g)).length ≤ 3 := by
  cases g with
  | none =>
    have e : LL (mkS none) = [45] := by decide +kernel
    rw [e]; decide
  | some i => have := h i rfl; exact num_len (by omega)
theorem ln_len {t : Th} (v : VTh t) : (lnL t).length ≤ 24 := by
  obtain ⟨h1, ⟨h2, h3⟩, h4, h5⟩ := v
  have a := num_len (i := t.id) (by omega)
  have b := num_len (i := t.pl.1) (by omega)
  have c := num_len (i := t.pl.2) (by omega)
  have d := num_len (i := t.room) (by omega)
  have e := mk_len h5
  unfold lnL
  simp only [List.length_append, List.length_cons]
  omega
theorem pl_small {x y : Int} (hx : 0 ≤ x ∧ x < 200) (hy : 0 ≤ y ∧ y < 200) : ∀ c ∈ LL (nS x) ++ 44 :: LL (nS y), c < 1000 := fun c hc => by
  simp only [List.mem_append, List.mem_cons] at hc
  rcases hc with z | z | z
  · exact num_small hx c z
  · omega
  · exact num_small hy c z
theorem mk_da {g : Option Int} (h : ∀ i, g = some i → 0 ≤ i ∧ i < 10) : (mkS g = Str.ofString "-") ↔ g = none := by
  constructor
  · intro e
    cases g with
    | none => rfl
    | some i =>
      have := h i rfl
      have h2 := num_of (i := i) (by omega)
      have e : nS i = Str.ofString "-" := e
      have e3 : LL (nS i) = [45] := by rw [e]; decide +kernel
      have := num_dig (i := i) (by omega) (c := 45) (by rw [e3]; simp)
      omega
  · rintro rfl
    rfl
theorem thing_in_ok {t : Th} (v : VTh t) (q : ∀ S', Kp [] S S' → Q (thD t) S') : w_thing_in K [.str (lnS t)] S Q E := by
  have sw := split_words v
  obtain ⟨h1, ⟨h2, h3⟩, h4, h5⟩ := id v
  have hll := ln_len v
  unfold w_thing_in wFn b_thing_in
  walk_at "st"
  simp only [wSplit]
  walk_at "st"
  refine ⟨⟨_, rfl⟩, _, _, rfl, rfl, by decide +kernel, Nat.le_trans (m := 100) (by rw [LL_len]; show (lnL t).length + 2 ≤ 100; omega) (by decide), fun p hp => ?_⟩
  rw [S_sp, sw]
  have ep : put S p (.lst ((wdsS t).map D.str)) p = some (.lst ((wdsS t).map D.str)) := put_same
  have k0 : Kp [] S (put S p (.lst ((wdsS t).map D.str))) := Kp.new hp
  generalize put S p (.lst ((wdsS t).map D.str)) = S0 at ep k0 ⊢
  have d0 : ((wdsS t).map D.str)[0]? = some (.str (nS t.id)) := rfl
  have d1 : ((wdsS t).map D.str)[1]? = some (.str ⟨(LL (nS t.pl.1) ++ 44 :: LL (nS t.pl.2)).toArray⟩) := rfl
  have d2 : ((wdsS t).map D.str)[2]? = some (.str (nS t.room)) := rfl
  have d3 : ((wdsS t).map D.str)[3]? = some (.str (mkS t.grp)) := rfl
  have dl : ((wdsS t).map D.str).length = 4 := rfl
  unfold b_thing_in_1
  walk_at "st"
  simp only [ep, dl]
  refine ⟨rfl, rfl, ite_no (by decide) ?_⟩
  unfold b_thing_in_3
  walk_at "st"
  simp only [wSplit]
  walk_at "st"
  refine ix_lst (j := 1) ep d1 rfl ?_
  refine ⟨⟨_, rfl⟩, _, _, rfl, rfl, by decide +kernel, ?_, fun p1 hp1 => ?_⟩
  · have a := num_len (i := t.pl.1) (by omega)
    have b := num_len (i := t.pl.2) (by omega)
    refine Nat.le_trans (m := 100) ?_ (by decide)
    rw [LL_len]
    show (LL (nS t.pl.1) ++ 44 :: LL (nS t.pl.2)).length + 2 ≤ 100
    simp only [List.length_append, List.length_cons]
    omega
  rw [S_co, split_place (by omega) (by omega)]
  have ep1 := (Kp.new (ex := []) hp1 (o := .lst ([nS t.pl.1, nS t.pl.2].map D.str))) _ _ ep (by simp)
  have kk1 := k0.trans (Kp.new hp1 (o := .lst ([nS t.pl.1, nS t.pl.2].map D.str)))
  have e1 : put S0 p1 (.lst ([nS t.pl.1, nS t.pl.2].map D.str)) p1 = some (.lst ([t.pl.1, t.pl.2].map fun i => D.str (nS i))) := put_same
  generalize put S0 p1 (.lst ([nS t.pl.1, nS t.pl.2].map D.str)) = S1 at ep1 kk1 e1 ⊢
  walk_at "st"
  simp only [e1]
  refine lcx_all (ys := [t.pl.1, t.pl.2]) (e := fun i => D.str (nS i)) (fun i => .int i) (by simp) (fun S2 k2 => k2 p1 _ e1 (by simp)) ?_ ?_
  · intro i hi S2 k2 N1 N2 g1
    have hir : 0 ≤ i ∧ i < 200 := by
      simp only [List.mem_cons, List.not_mem_nil, or_false] at hi
      rcases hi with rfl | rfl <;> omega
    walk_at "st"
    exact number_in_ok hir fun S3 k3 => g1 S3 k3
  intro p2 S2 hp2 k2 e2
  have ep2 := k2 _ _ ep1 (by simp)
  have kk2 := kk1.trans k2
  have e2 : S2 p2 = some (.lst [.int t.pl.1, .int t.pl.2]) := e2
  simp only [e2]
  unfold b_thing_in_4
  walk_at "st"
  unfold b_thing_in_5
  walk_at "st"
  refine ix_lst (j := 3) ep2 d3 rfl ?_
  refine ⟨okStr (mk_small h5), by decide +kernel, ?_⟩
  rw [eqStr]
  have fin : ∀ S3, Kp [] S2 S3 → b_thing_in_7 K { nx := fun x S' => Q D.non S', rt := Q, bk := fun x x_1 => False, ct := fun x x_1 => False, xe := fun c x S' => E c S' } [some (.str (lnS t)), some (.ref p), some (.tup [.int t.pl.1, .int t.pl.2]), some (grD t.grp), none] S3 := fun S3 k3 => by
    unfold b_thing_in_7
    walk_at "st"
    refine ix_lst (j := 0) (k3 _ _ ep2 (by simp)) d0 rfl ?_
    refine number_in_ok (by omega) fun S4 k4 => ?_
    refine ix_lst (j := 2) (k4 _ _ (k3 _ _ ep2 (by simp)) (by simp)) d2 rfl ?_
    refine number_in_ok (by omega) fun S5 k5 => ?_
    exact ⟨sz (by decide), q S5 (((kk2.trans k3).trans k4).trans k5)⟩
  cases hg : t.grp with
  | none =>
    have e : decide (mkS none = Str.ofString "-") = true := decide_eq_true rfl
    rw [e]
    refine ite_no (by decide) ?_
    have := fin S2 Kp.refl
    rw [hg] at this
    exact this
  | some g =>
    have hgr := h5 g hg
    have e : decide (mkS (some g) = Str.ofString "-") = false := by
      rw [decide_eq_false_iff_not]
      intro z
      have := (mk_da (g := some g) (fun i hi => by cases hi; exact hgr)).mp z
      cases this
    rw [e]
    refine ite_yes (by rfl) ?_
    unfold b_thing_in_6
    walk_at "st"
    rw [hg] at d3
    refine ix_lst (j := 3) ep2 d3 rfl ?_
    refine number_in_ok (i := g) (by omega) fun S3 k3 => ?_
    have := fin S3 k3
    rw [hg] at this
    exact this
end
/-! ### the text of a board, read again -/
section
variable {K : PySem.W.Frag} {S S' : Sto} {Q : AK} {E : XA}
theorem tx_len {b : List Th} (v : ∀ t ∈ b, VTh t) : (LL (txS b)).length ≤ 25 * b.length := by
  rw [LL_tx]
  unfold endL
  induction b with
  | nil => exact Nat.le_refl _
  | cons t b ih =>
    have h1 := ln_len (v t (by simp))
    have h2 := ih fun x hx => v x (by simp [hx])
    rw [List.map_cons, List.flatMap_cons, List.length_append, List.length_append, List.length_cons]
    simp only [List.length_cons, List.length_nil]
    omega
theorem tx_snoc (b : List Th) (t : Th) : LL (txS (b ++ [t])) = LL (txS b) ++ (lnL t ++ [10]) := by
  rw [LL_tx, LL_tx]
  unfold endL
  simp
theorem written_ok {b : List Th} (v : ∀ t ∈ b, VTh t) (hb : b.length ≤ 1000) (q : Q (.str (txS b)) S) : w_written [bdD b] S Q E := by
  unfold w_written wFn b_written bdD
  walk_at "st"
  unfold b_written_1
  walk_at "st"
  refine loopA_inv (fun j ρ S' => S' = S ∧ ∃ y2 y3 y4 y5 y6, ρ = [some (.tup (b.map thD)), some (.str (txS (b.take j))), y2, y3, y4, y5, y6]) ?_ (fun _ _ _ _ => trivial) ?_ ?_
  · refine ⟨rfl, none, none, none, none, none, ?_⟩
    have : Str.ofString "" = txS (b.take 0) := str_ext LL_nil
    rw [this]
  · rintro j d ρ S1 N hd hN ⟨rfl, y2, y3, y4, y5, y6, rfl⟩
    rw [List.getElem?_map, Option.map_eq_some_iff] at hd
    obtain ⟨t, ht, rfl⟩ := hd
    have htm := List.mem_of_getElem? ht
    have etk : b.take (j + 1) = b.take j ++ [t] := by rw [List.take_add_one, ht]; rfl
    obtain ⟨h1, ⟨h2, h3⟩, h4, h5⟩ := v t htm
    have hlen := tx_len (b := b.take j) fun x hx => v x (List.mem_of_mem_take hx)
    have hj : (b.take j).length ≤ 1000 := by rw [List.length_take]; omega
    have l1 : (LL (Str.ofString (toString t.id))).length ≤ 3 := num_len (i := t.id) (by omega)
    have l2 : (LL (Str.ofString (toString t.pl.1))).length ≤ 3 := num_len (i := t.pl.1) (by omega)
    have l3 : (LL (Str.ofString (toString t.pl.2))).length ≤ 3 := num_len (i := t.pl.2) (by omega)
    have l4 : (LL (Str.ofString (toString t.room))).length ≤ 3 := num_len (i := t.room) (by omega)
    have l5 := mk_len h5
    have fin : ∀ y6, y6 = some (.str (mkS t.grp)) → b_written_5 { nx := N, rt := Q, bk := fun ρ' S' => b_written_6 { nx := fun x S' => Q D.non S', rt := Q, bk := fun x x_1 => False, ct := fun x x_1 => False, xe := fun c x S' => E c S' } ρ' S', ct := N, xe := fun c x S' => E c S' }
        [some (.tup (b.map thD)), some (.str (txS (b.take j))), some (.int t.id), some (plD t.pl), some (.int t.room), some (grD t.grp), y6] S1 := fun y6 e => by
      subst e
      unfold b_written_5 plD
      walk_at "st"
      simp only [wJoined, wJs, wFmt]
      walk_at "st"
      have c1 : (LL (Str.ofString " ")).length = 1 := by decide +kernel
      have c2 : (LL (Str.ofString ",")).length = 1 := by decide +kernel
      have c3 : (LL (Str.ofString "\n")).length = 1 := by decide +kernel
      have le : ∀ x : Str, (LL x).length ≤ 1000 → x.length ≤ sizeLine := fun x hx => Nat.le_trans (by rw [LL_len]; exact hx) (show 1000 ≤ sizeLine by decide)
      refine ⟨num_log (by omega), _, rfl, le _ (by simp only [LL_app, List.length_append, LL_empty, List.length_nil]; omega), _, rfl, le _ (by simp only [LL_app, List.length_append, LL_empty, List.length_nil]; omega),
        num_log (by omega), _, rfl, le _ (by simp only [LL_app, List.length_append, LL_empty, List.length_nil]; omega), _, rfl, le _ (by simp only [LL_app, List.length_append, LL_empty, List.length_nil]; omega),
        num_log (by omega), _, rfl, le _ (by simp only [LL_app, List.length_append, LL_empty, List.length_nil]; omega), _, rfl, le _ (by simp only [LL_app, List.length_append, LL_empty, List.length_nil]; omega),
        num_log (by omega), _, rfl, le _ (by simp only [LL_app, List.length_append, LL_empty, List.length_nil]; omega), _, rfl, le _ (by simp only [LL_app, List.length_append, LL_empty, List.length_nil]; omega),
        le _ (by omega), _, rfl, le _ (by simp only [LL_app, List.length_append, LL_empty, List.length_nil]; omega), _, rfl, le _ (by simp only [LL_app, List.length_append, LL_empty, List.length_nil]; omega), ?_, ?_⟩
      · refine Nat.le_trans (m := 100000) ?_ (by decide)
        rw [LL_len, LL_len]
        simp only [LL_app, List.length_append, LL_empty, List.length_nil]
        omega
      · refine hN _ _ ⟨rfl, some (.int t.id), some (plD t.pl), some (.int t.room), some (grD t.grp), some (.str (mkS t.grp)), ?_⟩
        rw [etk]
        have e : ∀ out : Str, LL out = lnL t ++ [10] → txS (b.take j) ++ out = txS (b.take j ++ [t]) := fun out ho => str_ext (by rw [LL_app, tx_snoc, ho])
        rw [e _ (by
          have q1 : LL (Str.ofString " ") = [32] := by decide +kernel
          have q2 : LL (Str.ofString ",") = [44] := by decide +kernel
          have q3 : LL (Str.ofString "\n") = [10] := by decide +kernel
          unfold lnL
          simp only [LL_app, LL_empty, q1, q2, q3, List.append_assoc, List.cons_append, List.nil_append])]
        rfl
    rw [show thD t = .tup [.int t.id, plD t.pl, .int t.room, grD t.grp] from rfl]
    walk_at "st"
    unfold b_written_2
    walk_at "st"
    unfold b_written_3
    walk_at "st"
    cases hg : t.grp with
    | none =>
      change (if (false : Bool) = true then _ else _)
      rw [if_neg (by decide)]
      rw [hg] at fin
      exact fin _ rfl
    | some g =>
      change (if (true : Bool) = true then _ else _)
      rw [if_pos rfl]
      have hgr := h5 g hg
      rw [hg] at fin
      unfold b_written_4
      walk_at "st"
      exact ⟨num_log (i := g) (by omega), fin _ rfl⟩
  · rintro ρ S1 ⟨rfl, y2, y3, y4, y5, y6, rfl⟩
    unfold b_written_6
    walk_at "st"
    rw [List.length_map, List.take_length]
    exact q
def VBd (b : List Th) : Prop := (∀ t ∈ b, VTh t) ∧ b.Pairwise (fun a c => a.id < c.id) ∧ b.length ≤ 100
theorem is_whole_ok {i lo hi : Int} (h : lo ≤ i ∧ i ≤ hi) (q : Q (.bl true) S) : w_is_whole [.int i, .int lo, .int hi] S Q E := by
  unfold w_is_whole wFn b_is_whole
  walk_at "st"
  walk_at "sy"
  rw [decide_eq_true h.1, decide_eq_true h.2]
  exact q
theorem is_place_ok {p : Int × Int} (h : (0 ≤ p.1 ∧ p.1 < 200) ∧ 0 ≤ p.2 ∧ p.2 < 200) (q : ∀ S', Kp [] S S' → Q (.bl true) S') : w_is_place [plD p] S Q E := by
  unfold w_is_place wFn b_is_place plD
  walk_at "st"
  walk_at "sy"
  refine lc_map (ys := [p.1, p.2]) (e := D.int) (fun _ => some (.bl true)) (by simp) (fun _ _ => trivial) ?_ ?_
  · intro i hi S1 k1 N1 N2 g1 _
    have hir : 0 ≤ i ∧ i ≤ 199 := by
      simp only [List.mem_cons, List.not_mem_nil, or_false] at hi
      rcases hi with rfl | rfl <;> omega
    walk_at "st"
    exact is_whole_ok hir (g1 _ S1 rfl Kp.refl)
  intro p1 S1 hp k1 e1
  simp only [e1, bls_const, all_true']
  exact q S1 k1
theorem is_thing_ok {t : Th} (v : VTh t) (q : ∀ S', Kp [] S S' → Q (.bl true) S') : w_is_thing [thD t] S Q E := by
  obtain ⟨h1, h2, h4, h5⟩ := v
  unfold w_is_thing wFn b_is_thing
  rw [show thD t = .tup [.int t.id, plD t.pl, .int t.room, grD t.grp] from rfl]
  walk_at "st"
  walk_at "sy"
  refine is_whole_ok (by omega) ?_
  walk_at "st"
  walk_at "sy"
  unfold b_is_thing_2
  walk_at "st"
  refine is_place_ok h2 fun S1 k1 => ?_
  walk_at "st"
  walk_at "sy"
  refine is_whole_ok (by omega) ?_
  walk_at "st"
  walk_at "sy"
  unfold b_is_thing_4
  walk_at "st"
  cases hg : t.grp with
  | none =>
    change (if (true : Bool) = true then _ else _)
    rw [if_pos rfl]
    exact q S1 k1
  | some g =>
    have := h5 g hg
    change (if (false : Bool) = true then _ else _)
    rw [if_neg (by decide)]
    exact is_whole_ok (i := g) (by omega) (q S1 k1)
theorem is_board_ok {b : List Th} (v : VBd b) (q : ∀ S', Kp [] S S' → Q (.bl true) S') : w_is_board [bdD b] S Q E := by
  obtain ⟨v1, v2, v3⟩ := v
  unfold w_is_board wFn b_is_board bdD
  walk_at "st"
  walk_at "sy"
  refine lc_map (ys := b) (e := thD) (fun _ => some (.bl true)) (by omega) (fun _ _ => trivial) ?_ ?_
  · intro t ht S1 k1 N1 N2 g1 _
    walk_at "st"
    exact is_thing_ok (v1 t ht) fun S2 k2 => g1 _ S2 rfl k2
  intro p S1 hp k1 e1
  simp only [e1, bls_const, all_true']
  walk_at "st"
  walk_at "sy"
  unfold b_is_board_2
  walk_at "st"
  rw [cutA_last, cutA_from (by decide)]
  refine lc_ext (fun _ => some (D.bl true)) ?_ (fun _ _ => trivial) ?_ ?_
  · unfold zipD
    rw [List.length_zipWith, List.length_dropLast, List.length_map]
    omega
  · intro x hx S3 k3 N1 N2 h1 h2
    obtain ⟨i, hi⟩ := List.getElem?_of_mem hx
    obtain ⟨c, d, hc, hd, rfl⟩ := zipD_get hi
    rw [List.getElem?_drop] at hd
    have hc' : (b.map thD)[i]? = some c := by
      rw [List.dropLast_eq_take] at hc
      rw [List.getElem?_take] at hc
      split at hc
      · exact hc
      · cases hc
    have e1 : (Int.toNat 1) + i = i + 1 := by show 1 + i = i + 1; omega
    rw [e1] at hd
    rw [List.getElem?_map, Option.map_eq_some_iff] at hc' hd
    obtain ⟨p, hp, rfl⟩ := hc'
    obtain ⟨p', hp', rfl⟩ := hd
    obtain ⟨b1, b2⟩ := List.getElem?_eq_some_iff.mp hp
    obtain ⟨b3, b4⟩ := List.getElem?_eq_some_iff.mp hp'
    have hle := (List.pairwise_iff_getElem.mp v2) i (i + 1) b1 b3 (by omega)
    rw [b2, b4] at hle
    rw [show thD p = .tup [.int p.id, plD p.pl, .int p.room, grD p.grp] from rfl, show thD p' = .tup [.int p'.id, plD p'.pl, .int p'.room, grD p'.grp] from rfl]
    walk_at "st"
    rw [decide_eq_true hle]
    exact h1 _ S3 rfl Kp.refl
  intro c S3 hb k3 e3
  simp only [e3, bls_const, all_true']
  exact q S3 (k1.trans k3)
theorem okTh {t : Th} (v : VTh t) : okD 8 (thD t) = true := by
  show okD 8 (.tup [.int t.id, plD t.pl, .int t.room, grD t.grp]) = true
  cases t.grp <;> rfl
theorem read_ok {b : List Th} (v : VBd b) (q : ∀ S', Kp [] S S' → Q (bdD b) S') : w_read K [.str (txS b)] S Q E := by
  obtain ⟨v1, v2, v3⟩ := id v
  have hlen := tx_len v1
  have hsm : ∀ c ∈ LL (txS b), c < 1000 := fun c hc => by
    rw [LL_tx] at hc
    unfold endL at hc
    obtain ⟨l, hl, hc⟩ := List.mem_flatMap.mp hc
    obtain ⟨t, ht, rfl⟩ := List.mem_map.mp hl
    rcases List.mem_append.mp hc with z | z
    · have := ln_free (v1 t ht) z; omega
    · rw [List.mem_singleton.mp z]; omega
  unfold w_read wFn b_read
  walk_at "st"
  simp only [wSplit]
  walk_at "st"
  refine ⟨⟨_, rfl⟩, _, _, rfl, rfl, by decide +kernel, Nat.le_trans (m := 10000) (by rw [LL_len]; omega) (by decide), fun p hp => ?_⟩
  rw [S_lf, split_lines v1]
  have ep : put S p (.lst ((b.map lnS ++ [Str.empty]).map D.str)) p = some (.lst ((b.map lnS ++ [Str.empty]).map D.str)) := put_same
  have k0 : Kp [] S (put S p (.lst ((b.map lnS ++ [Str.empty]).map D.str))) := Kp.new hp
  generalize put S p (.lst ((b.map lnS ++ [Str.empty]).map D.str)) = S0 at ep k0 ⊢
  walk_at "st"
  simp only [ep]
  intro p1 hp1
  have ec : cutA ((b.map lnS ++ [Str.empty]).map D.str) none (some (-1)) = b.map fun t => D.str (lnS t) := by
    rw [cutA_last, List.map_append, List.map_cons, List.map_nil, List.dropLast_concat, List.map_map]
    rfl
  rw [ec]
  have k1 := k0.trans (Kp.new hp1 (o := .lst (b.map fun t => D.str (lnS t))))
  have e1 : put S0 p1 (.lst (b.map fun t => D.str (lnS t))) p1 = some (.lst (b.map fun t => D.str (lnS t))) := put_same
  generalize put S0 p1 (.lst (b.map fun t => D.str (lnS t))) = S1 at e1 k1 ⊢
  simp only [e1]
  refine lcx_all (ys := b) (e := fun t => D.str (lnS t)) (fun t => thD t) (by omega) (fun S2 k2 => k2 p1 _ e1 (by simp)) ?_ ?_
  · intro t ht S2 k2 N1 N2 g1
    walk_at "st"
    exact thing_in_ok (v1 t ht) fun S3 k3 => g1 S3 k3
  intro p2 S2 hp2 k2 e2
  simp only [e2]
  have kk := k1.trans k2
  unfold b_read_1
  walk_at "st"
  rw [show D.tup (b.map thD) = bdD b from rfl]
  refine is_board_ok v fun S3 k3 => ?_
  walk_at "st"
  walk_at "sy"
  refine written_ok v1 (by omega) ?_
  refine ⟨strOk_of hsm, strOk_of hsm, ?_⟩
  rw [eqStr, decide_eq_true rfl]
  refine ite_no (by decide) ?_
  unfold b_read_3
  walk_at "st"
  exact q S3 (kk.trans k3)
end
end L
set_option Elab.async false
set_option linter.all false
set_option maxRecDepth 100000
set_option maxHeartbeats 4000000
namespace L
open PySem PySem.Spec PyProof.Rows L2 Ab
local macro_rules | `(tactic| walk_at "sx") => `(tactic| try simp only [wZipM, aSrtB_ref, aMulB_int, aMulB_ref, wChain, wRev, wPar3, wSeq, wRet, wRetN, wAsg, wDrop, wIfS, wNext, wPar, wCB, wBM, wCons, wNil, wOp, wUn, wV, wC, wTup, wLst, wCall, wB, Ab.wTru, Ab.wNot, wAnd, wOr, wAndV, wOrV, wNotV, wIf, wFor, wSeqI, wRng1, wRng2, wZip, wLc, wLcX, wSl, wON, wOS, gN, gT, gsCons, gsNil, wYes, wDK, wDT, List.map_cons, List.map_nil, List.length_cons, List.length_nil, List.cons_append, List.nil_append, List.replicate_succ, List.replicate_zero, List.append_nil, List.set_cons_zero, List.set_cons_succ, get0, getS, ex_some2, ex_some, ex_bl, aIx, aSub, aI, aIC, aAdd, aMod, aDiv, aMul, aNeg, atI0, atI1, atI2, atI3, aAbs, aMax, aMin, aLen, aLe, aLt, aGt, aGe, aIs, aOrd, aIsN, aNotN, isNonD, aTuple, aList, aInt, aIsi, aAll, aAny, aBls, aSum, aSl, truA, itemsA, aApp, aEq, aNe, wipeA, Nat.reduceAdd, Nat.reduceSub, if_true, if_false, Bool.false_eq_true, true_and, and_true])
local macro_rules | `(tactic| walk_at "sy") => `(tactic| try simp only [Bool.true_xor, Bool.false_xor, Bool.xor_false, Bool.xor_true, tyD, isiB, String.reduceBEq, String.reduceEq, reduceCtorEq, Bool.or_false, Bool.false_or, Bool.true_or, Bool.or_true, Bool.false_and, Bool.and_false, Bool.true_and, Bool.and_true, or_true, true_or, or_false, false_or, true_and, and_true, Bool.not_true, Bool.not_false, if_true, if_false, Bool.false_eq_true, eqD, okD])
local macro_rules | `(tactic| walk_at "sw") => `(tactic| try simp only [wZipM, aSrtB_ref, aMulB_int, aMulB_ref, wChain, wRev, wPar3, wSeq, wRet, wRetN, wAsg, wDrop, wIfS, wNext, wPar, wCB, wBM, wCons, wNil, wOp, wUn, wV, wC, wTup, wLst, wCall, wB, Ab.wTru, Ab.wNot, wAnd, wOr, wAndV, wOrV, wNotV, wIf, wFor, wSeqI, wRng1, wRng2, wZip, wLc, wLcX, wSl, wON, wOS, gN, gT, gsCons, gsNil, wYes, wDK, wDT, List.map_cons, List.map_nil, List.length_cons, List.length_nil, List.cons_append, List.nil_append, List.replicate_succ, List.replicate_zero, List.append_nil, List.set_cons_zero, List.set_cons_succ, get0, getS, ex_some2, ex_some, ex_bl, aIx, aSub, aI, aIC, aAdd, aMod, aDiv, aMul, aNeg, atI0, atI1, atI2, atI3, aAbs, aMax, aMin, aLen, aLe, aLt, aGt, aGe, aIs, aOrd, aIsN, aNotN, isNonD, aTuple, aList, aInt, aAll, aAny, aBls, aSum, aSl, truA, itemsA, aApp, aEq, aNe, wipeA, Nat.reduceAdd, Nat.reduceSub, if_true, if_false, Bool.false_eq_true, true_and, and_true])
local macro_rules | `(tactic| walk_at "st") => `(tactic| try simp only [wZipM, aSrtB_ref, aMulB_int, aMulB_ref, wChain, wRev, wPar3, wSeq, wRet, wRetN, wAsg, wDrop, wIfS, wNext, wPar, wCB, wBM, wCons, wNil, wOp, wUn, wV, wC, wTup, wLst, wCall, wB, Ab.wTru, Ab.wNot, wAnd, wOr, wAndV, wOrV, wNotV, wIf, wFor, wSeqI, wRng1, wRng2, wZip, wLc, wLcX, wSl, wON, wOS, gN, gT, gsCons, gsNil, wYes, wDK, wDT, List.map_cons, List.map_nil, List.length_cons, List.length_nil, List.cons_append, List.nil_append, List.replicate_succ, List.replicate_zero, List.append_nil, List.set_cons_zero, List.set_cons_succ, get0, getS, ex_some2, ex_some, ex_bl, aIx_tup, aIx_scr, aSub, aI, aIC, aAdd, aMod, aDiv, aMul, aNeg, atI0, atI1, atI2, atI3, aAbs, aMax, aMin, aLen, aLe, aLt, aGt, aGe, aIs, aOrd, aIsN, aNotN, isNonD, aTuple, aList, aInt, aIsi, aAll, aAny, aBls, aSum, aSl, truA, itemsA, aApp, aEq, aNe, wipeA, Nat.reduceAdd, Nat.reduceSub, if_true, if_false, Bool.false_eq_true, true_and, and_true])
/-! ### texts that are no board's are refused -/
theorem dig3 : ∀ a b c : Fin 10, PySem.intText? ⟨#[48 + a.val, 48 + b.val, 48 + c.val]⟩ = some ((100 * a.val + 10 * b.val + c.val : Nat) : Int) := by decide +kernel
theorem dig2 : ∀ a b : Fin 10, PySem.intText? ⟨#[48 + a.val, 48 + b.val]⟩ = some ((10 * a.val + b.val : Nat) : Int) := by decide +kernel
theorem dig1 : ∀ a : Fin 10, PySem.intText? ⟨#[48 + a.val]⟩ = some ((a.val : Nat) : Int) := by decide +kernel
theorem digs_of {w : Str} (h0 : LL w ≠ []) (h3 : (LL w).length ≤ 3) (hd : ∀ c ∈ LL w, 48 ≤ c ∧ c ≤ 57) : ∃ n, PySem.intText? w = some n := by
  have fin : ∀ c : Nat, 48 ≤ c ∧ c ≤ 57 → ∃ a : Fin 10, c = 48 + a.val := fun c h => ⟨⟨c - 48, by omega⟩, by show c = 48 + (c - 48); omega⟩
  match hl : LL w, h0, h3, hd with
  | [a], _, _, hd =>
    obtain ⟨x, rfl⟩ := fin a (hd a (by simp))
    have e : w = ⟨#[48 + x.val]⟩ := str_ext hl
    rw [e]
    exact ⟨_, dig1 x⟩
  | [a, b], _, _, hd =>
    obtain ⟨x, rfl⟩ := fin a (hd a (by simp))
    obtain ⟨y, rfl⟩ := fin b (hd b (by simp))
    have e : w = ⟨#[48 + x.val, 48 + y.val]⟩ := str_ext hl
    rw [e]
    exact ⟨_, dig2 x y⟩
  | [a, b, c], _, _, hd =>
    obtain ⟨x, rfl⟩ := fin a (hd a (by simp))
    obtain ⟨y, rfl⟩ := fin b (hd b (by simp))
    obtain ⟨z, rfl⟩ := fin c (hd c (by simp))
    have e : w = ⟨#[48 + x.val, 48 + y.val, 48 + z.val]⟩ := str_ext hl
    rw [e]
    exact ⟨_, dig3 x y z⟩
/-- the pieces of a cut text -/
theorem jn_mem {k : Nat} : ∀ {ps : List (List Nat)} {p : List Nat}, p ∈ ps → (∀ c ∈ p, c ∈ jn k ps) ∧ p.length ≤ (jn k ps).length
  | [x], p, h => by
    rw [List.mem_singleton.mp h]
    exact ⟨fun c hc => hc, Nat.le_refl _⟩
  | x :: y :: r, p, h => by
    have e : jn k (x :: y :: r) = x ++ k :: jn k (y :: r) := rfl
    rw [e]
    rcases List.mem_cons.mp h with rfl | h
    · exact ⟨fun c hc => by simp [hc], by simp⟩
    · obtain ⟨h1, h2⟩ := jn_mem (k := k) h
      exact ⟨fun c hc => by simp [h1 c hc], by simp only [List.length_append, List.length_cons]; omega⟩
theorem jn_cnt {k : Nat} : ∀ {ps : List (List Nat)}, ps.length ≤ (jn k ps).length + 1
  | [] => by simp
  | [x] => by simp
  | x :: y :: r => by
    have ih := jn_cnt (k := k) (ps := y :: r)
    have e : jn k (x :: y :: r) = x ++ k :: jn k (y :: r) := rfl
    rw [e]
    simp only [List.length_append, List.length_cons] at ih ⊢
    omega
structure Sm (n : Nat) (x : Str) : Prop where
  c : ∀ c ∈ LL x, c < 1000
  l : (LL x).length ≤ n
theorem Sm.mono {n m : Nat} {x : Str} (h : Sm n x) (l : n ≤ m) : Sm m x := ⟨h.c, Nat.le_trans h.l l⟩
theorem Sm.ok {n k : Nat} {x : Str} (h : Sm n x) : okD k (.str x) = true := okStr h.c
theorem split_sm {n k : Nat} {x : Str} (h : Sm n x) : (∀ p ∈ Txt.split x ⟨#[k]⟩, Sm n p) ∧ (Txt.split x ⟨#[k]⟩).length ≤ n + 1 := by
  have e : jn k ((Txt.split x ⟨#[k]⟩).map LL) = LL x := by rw [← LL_join, StrLaws.join_split]
  refine ⟨fun p hp => ?_, ?_⟩
  · obtain ⟨h1, h2⟩ := jn_mem (k := k) (List.mem_map_of_mem (f := LL) hp)
    rw [e] at h1 h2
    exact ⟨fun c hc => h.c c (h1 c hc), Nat.le_trans h2 h.l⟩
  · have := jn_cnt (k := k) (ps := (Txt.split x ⟨#[k]⟩).map LL)
    rw [e, List.length_map] at this
    have := h.l
    omega
abbrev nTx (K : PySem.W.Frag) : Value := .ref (He.ga K "NoText")
structure GT where
  id : Int
  ps : List Int
  room : Int
  grp : Option Int
def gtD (t : GT) : D := .tup [.int t.id, .tup (t.ps.map .int), .int t.room, grD t.grp]
section
variable {K : PySem.W.Frag} {S S' : Sto} {Q : AK} {E : XA}
theorem number_in_any {w : Str} {m : Nat} (h : Sm m w) (hm : m ≤ 10000) (q : ∀ n S', Kp [] S S' → Q (.int n) S') (e : ∀ S', Kp [] S S' → E (nTx K) S') : w_number_in K [.str w] S Q E := by
  have hl := h.l
  have ref : ∀ (B : DEnv → Sto → Prop) (y : Option D) S1, Kp [] S S1 → b_number_in_1 K { nx := B, rt := Q, bk := fun x x_1 => False, ct := fun x x_1 => False, xe := fun c x S' => E c S' } [some (.str w), y] S1 := fun B y S1 k1 => by
    unfold b_number_in_1 wRaise
    exact e S1 k1
  unfold w_number_in wFn b_number_in
  walk_at "st"
  refine ⟨h.ok, by decide +kernel, ?_⟩
  rw [eqStr]
  by_cases h0 : w = Str.ofString ""
  · rw [decide_eq_true h0]
    exact ref _ _ S Kp.refl
  rw [decide_eq_false h0]
  refine ite_no (by decide) ?_
  refine ⟨Nat.le_trans (by rw [LL_len]; exact Nat.le_trans hl hm) (show 10000 ≤ sizeLine by decide), ?_⟩
  by_cases h3 : 3 < ((w.length : Nat) : Int)
  · rw [decide_eq_true h3]
    exact ref _ _ S Kp.refl
  rw [decide_eq_false h3]
  refine ite_no (by decide) ?_
  have h3' : (LL w).length ≤ 3 := by rw [LL_len] at h3; omega
  simp only [wSigns]
  walk_at "st"
  unfold Ab.signs
  refine lc_all (ys := LL w) (e := fun c => D.str ⟨#[c]⟩) (fun c => .bl (decide (48 ≤ c ∧ c ≤ 57))) (by omega) (fun _ _ => trivial) ?_ ?_
  · intro c hc S1 k1 N1 N2 g1
    walk_at "st"
    simp only [aIn]
    refine ⟨c, rfl, ?_⟩
    have e1 : decide (c ∈ (Str.ofString "0123456789").cps.toList) = decide (48 ≤ c ∧ c ≤ 57) := by
      rw [show (Str.ofString "0123456789").cps.toList = [48, 49, 50, 51, 52, 53, 54, 55, 56, 57] from LL_fig]
      apply decide_eq_decide.mpr
      simp only [List.mem_cons, List.not_mem_nil, or_false]
      omega
    rw [e1]
    exact g1 S1 Kp.refl
  intro p S1 hp k1 e1
  have e1 : S1 p = some (.lst (((LL w).map fun c => decide (48 ≤ c ∧ c ≤ 57)).map .bl)) := by rw [e1, List.map_map]; rfl
  simp only [e1, blsOf_map]
  rcases Classical.em (¬∀ c ∈ LL w, 48 ≤ c ∧ c ≤ 57) with hd | hd0
  · have : ((LL w).map fun c => decide (48 ≤ c ∧ c ≤ 57)).all id = false := by
      rw [List.all_map, Bool.eq_false_iff]
      intro z
      exact hd fun c hc => of_decide_eq_true (List.all_eq_true.mp z c hc)
    exact ite_yes (by rw [this]; rfl) (ref _ _ S1 k1)
  have hd : ∀ c ∈ LL w, 48 ≤ c ∧ c ≤ 57 := Classical.not_not.mp hd0
  have : ((LL w).map fun c => decide (48 ≤ c ∧ c ≤ 57)).all id = true := by
    rw [List.all_map, List.all_eq_true]
    exact fun c hc => decide_eq_true (hd c hc)
  refine ite_no (by rw [this]; decide) ?_
  have ne : LL w ≠ [] := fun z => h0 (str_ext (z.trans LL_nil.symm))
  have fin : b_number_in_2 K { nx := fun x S' => Q D.non S', rt := Q, bk := fun x x_1 => False, ct := fun x x_1 => False, xe := fun c x S' => E c S' } [some (.str w), none] S1 := by
    unfold b_number_in_2
    walk_at "st"
    obtain ⟨n, hn⟩ := digs_of ne h3' hd
    exact ⟨n, hn, by rw [LL_len]; omega, q n S1 k1⟩
  refine ⟨h.ok, by decide +kernel, ?_⟩
  rw [eqStr]
  by_cases z : w = Str.ofString "0"
  · refine ite_no (by simp [z]) ?_
    exact fin
  · refine ite_yes (by simpa using z) ?_
    cases hl : LL w with
    | nil => exact absurd hl ne
    | cons c r =>
      simp only [aIx]
      refine ⟨Nat.le_trans (m := 10) (by rw [LL_len]; omega) (by decide), c, by rw [show w.cps.toList = c :: r from hl]; exact atI0 c r, ?_⟩
      have hc : c < 1000 := h.c c (by rw [hl]; simp)
      refine ⟨okStr fun y hy => by
        have hy : y ∈ [c] := hy
        rw [List.mem_singleton.mp hy]; exact hc, by decide +kernel, ?_⟩
      rw [eqStr]
      by_cases y : (⟨#[c]⟩ : Str) = Str.ofString "0"
      · rw [decide_eq_true y]
        exact ref _ _ S1 k1
      · rw [decide_eq_false y]
        exact ite_no (by decide) fin
theorem ref_read {w : Str} {m : Nat} (h : Sm m w) {n : Nat} : okD n (.str w) = true := h.ok
theorem thing_in_any {x : Str} {m : Nat} (h : Sm m x) (hm : m ≤ 10000) (q : ∀ t S', t.ps.length ≤ 20000 → Kp [] S S' → Q (gtD t) S') (e : ∀ S', Kp [] S S' → E (nTx K) S') : w_thing_in K [.str x] S Q E := by
  have big : ∀ {y : Str}, Sm m y → y.length + 2 ≤ sizeLine := fun {y} h => Nat.le_trans (m := 10002) (by rw [LL_len]; have := h.l; omega) (by decide)
  unfold w_thing_in wFn b_thing_in
  walk_at "st"
  simp only [wSplit]
  walk_at "st"
  refine ⟨⟨_, rfl⟩, _, _, rfl, rfl, by decide +kernel, big h, fun p hp => ?_⟩
  rw [S_sp]
  obtain ⟨sm, sl⟩ := split_sm (k := 32) h
  generalize Txt.split x ⟨#[32]⟩ = ys at sm sl ⊢
  have ep : put S p (.lst (ys.map D.str)) p = some (.lst (ys.map D.str)) := put_same
  have k0 : Kp [] S (put S p (.lst (ys.map D.str))) := Kp.new hp
  generalize put S p (.lst (ys.map D.str)) = S0 at ep k0 ⊢
  unfold b_thing_in_1
  walk_at "st"
  simp only [ep, List.length_map]
  refine ⟨rfl, rfl, ?_⟩
  rcases Nat.decEq ys.length 4 with hl | hl
  · refine ite_yes ?_ ?_
    · show (!(((ys.length : Nat) : Int) == 4)) = true
      rw [Bool.not_eq_true', beq_eq_false_iff_ne]
      omega
    · unfold b_thing_in_2 wRaise
      exact e S0 k0
  match ys, hl, sm, ep with
  | [a, b, c, g], _, sm, ep =>
  have sa := sm a (by simp)
  have sb := sm b (by simp)
  have sc := sm c (by simp)
  have sg := sm g (by simp)
  refine ite_no (show ¬(!((4 : Int) == 4)) = true by decide) ?_
  unfold b_thing_in_3
  walk_at "st"
  simp only [wSplit]
  walk_at "st"
  refine ix_lst (j := 1) (d := .str b) ep rfl rfl ?_
  refine ⟨⟨_, rfl⟩, _, _, rfl, rfl, by decide +kernel, big sb, fun p1 hp1 => ?_⟩
  rw [S_co]
  obtain ⟨sm2, sl2⟩ := split_sm (k := 44) sb
  generalize Txt.split b ⟨#[44]⟩ = zs at sm2 sl2 ⊢
  have ep1 := (Kp.new (ex := []) hp1 (o := .lst (zs.map D.str))) _ _ ep (by simp)
  have kk1 := k0.trans (Kp.new hp1 (o := .lst (zs.map D.str)))
  have e1 : put S0 p1 (.lst (zs.map D.str)) p1 = some (.lst (zs.map D.str)) := put_same
  generalize put S0 p1 (.lst (zs.map D.str)) = S1 at ep1 kk1 e1 ⊢
  walk_at "st"
  simp only [e1]
  refine lcx_map (ys := zs) (e := D.str) (fun _ d => ∃ i, d = .int i) (by omega) (fun S2 k2 => k2 p1 _ e1 (by simp)) ?_ ?_
  · intro z hz S2 k2 N1 N2 g1
    walk_at "st"
    exact number_in_any (sm2 z hz) hm (fun n S3 k3 => g1 _ S3 ⟨n, rfl⟩ k3) fun S3 k3 => e S3 ((kk1.trans k2).trans k3)
  intro p2 S2 ds hp2 k2 pr e2
  have lds := pr.length
  obtain ⟨ns, rfl⟩ : ∃ ns : List Int, ds = ns.map D.int := by
    clear lds e2 e1 ep1 sm2 sl2
    induction pr with
    | nil => exact ⟨[], rfl⟩
    | cons r _ ih =>
      obtain ⟨i, rfl⟩ := r
      obtain ⟨ns, rfl⟩ := ih
      exact ⟨i :: ns, rfl⟩
  have ep2 := k2 _ _ ep1 (by simp)
  have kk2 := kk1.trans k2
  simp only [e2]
  unfold b_thing_in_4
  walk_at "st"
  unfold b_thing_in_5
  walk_at "st"
  refine ix_lst (j := 3) (d := .str g) ep2 rfl rfl ?_
  refine ⟨sg.ok, by decide +kernel, ?_⟩
  rw [eqStr]
  have fin : ∀ (gr : Option Int) S3, Kp [] S2 S3 → b_thing_in_7 K { nx := fun x S' => Q D.non S', rt := Q, bk := fun x x_1 => False, ct := fun x x_1 => False, xe := fun c x S' => E c S' } [some (.str x), some (.ref p), some (.tup (ns.map D.int)), some (grD gr), none] S3 := fun gr S3 k3 => by
    unfold b_thing_in_7
    walk_at "st"
    refine ix_lst (j := 0) (d := .str a) (k3 _ _ ep2 (by simp)) rfl rfl ?_
    refine number_in_any sa hm (fun i S4 k4 => ?_) fun S4 k4 => e S4 ((kk2.trans k3).trans k4)
    refine ix_lst (j := 2) (d := .str c) (k4 _ _ (k3 _ _ ep2 (by simp)) (by simp)) rfl rfl ?_
    refine number_in_any sc hm (fun r S5 k5 => ?_) fun S5 k5 => e S5 (((kk2.trans k3).trans k4).trans k5)
    exact ⟨sz (by decide), q ⟨i, ns, r, gr⟩ S5 (by rw [List.length_map] at lds; show ns.length ≤ 20000; omega) (((kk2.trans k3).trans k4).trans k5)⟩
  rcases Classical.em (g = Str.ofString "-") with hg | hg
  · rw [decide_eq_true hg]
    refine ite_no (by decide) ?_
    exact fin none S2 Kp.refl
  · rw [decide_eq_false hg]
    refine ite_yes (by rfl) ?_
    unfold b_thing_in_6
    walk_at "st"
    refine ix_lst (j := 3) (d := .str g) ep2 rfl rfl ?_
    exact number_in_any sg hm (fun n S3 k3 => fin (some n) S3 k3) fun S3 k3 => e S3 (kk2.trans k3)
end
end L
set_option Elab.async false
set_option linter.all false
set_option maxRecDepth 100000
set_option maxHeartbeats 4000000
namespace L
open PySem PySem.Spec PyProof.Rows L2 Ab
local macro_rules | `(tactic| walk_at "sx") => `(tactic| try simp only [wZipM, aSrtB_ref, aMulB_int, aMulB_ref, wChain, wRev, wPar3, wSeq, wRet, wRetN, wAsg, wDrop, wIfS, wNext, wPar, wCB, wBM, wCons, wNil, wOp, wUn, wV, wC, wTup, wLst, wCall, wB, Ab.wTru, Ab.wNot, wAnd, wOr, wAndV, wOrV, wNotV, wIf, wFor, wSeqI, wRng1, wRng2, wZip, wLc, wLcX, wSl, wON, wOS, gN, gT, gsCons, gsNil, wYes, wDK, wDT, List.map_cons, List.map_nil, List.length_cons, List.length_nil, List.cons_append, List.nil_append, List.replicate_succ, List.replicate_zero, List.append_nil, List.set_cons_zero, List.set_cons_succ, get0, getS, ex_some2, ex_some, ex_bl, aIx, aSub, aI, aIC, aAdd, aMod, aDiv, aMul, aNeg, atI0, atI1, atI2, atI3, aAbs, aMax, aMin, aLen, aLe, aLt, aGt, aGe, aIs, aOrd, aIsN, aNotN, isNonD, aTuple, aList, aInt, aIsi, aAll, aAny, aBls, aSum, aSl, truA, itemsA, aApp, aEq, aNe, wipeA, Nat.reduceAdd, Nat.reduceSub, if_true, if_false, Bool.false_eq_true, true_and, and_true])
local macro_rules | `(tactic| walk_at "sy") => `(tactic| try simp only [Bool.true_xor, Bool.false_xor, Bool.xor_false, Bool.xor_true, tyD, isiB, String.reduceBEq, String.reduceEq, reduceCtorEq, Bool.or_false, Bool.false_or, Bool.true_or, Bool.or_true, Bool.false_and, Bool.and_false, Bool.true_and, Bool.and_true, or_true, true_or, or_false, false_or, true_and, and_true, Bool.not_true, Bool.not_false, if_true, if_false, Bool.false_eq_true, eqD, okD])
local macro_rules | `(tactic| walk_at "sw") => `(tactic| try simp only [wZipM, aSrtB_ref, aMulB_int, aMulB_ref, wChain, wRev, wPar3, wSeq, wRet, wRetN, wAsg, wDrop, wIfS, wNext, wPar, wCB, wBM, wCons, wNil, wOp, wUn, wV, wC, wTup, wLst, wCall, wB, Ab.wTru, Ab.wNot, wAnd, wOr, wAndV, wOrV, wNotV, wIf, wFor, wSeqI, wRng1, wRng2, wZip, wLc, wLcX, wSl, wON, wOS, gN, gT, gsCons, gsNil, wYes, wDK, wDT, List.map_cons, List.map_nil, List.length_cons, List.length_nil, List.cons_append, List.nil_append, List.replicate_succ, List.replicate_zero, List.append_nil, List.set_cons_zero, List.set_cons_succ, get0, getS, ex_some2, ex_some, ex_bl, aIx, aSub, aI, aIC, aAdd, aMod, aDiv, aMul, aNeg, atI0, atI1, atI2, atI3, aAbs, aMax, aMin, aLen, aLe, aLt, aGt, aGe, aIs, aOrd, aIsN, aNotN, isNonD, aTuple, aList, aInt, aAll, aAny, aBls, aSum, aSl, truA, itemsA, aApp, aEq, aNe, wipeA, Nat.reduceAdd, Nat.reduceSub, if_true, if_false, Bool.false_eq_true, true_and, and_true])
local macro_rules | `(tactic| walk_at "st") => `(tactic| try simp only [wZipM, aSrtB_ref, aMulB_int, aMulB_ref, wChain, wRev, wPar3, wSeq, wRet, wRetN, wAsg, wDrop, wIfS, wNext, wPar, wCB, wBM, wCons, wNil, wOp, wUn, wV, wC, wTup, wLst, wCall, wB, Ab.wTru, Ab.wNot, wAnd, wOr, wAndV, wOrV, wNotV, wIf, wFor, wSeqI, wRng1, wRng2, wZip, wLc, wLcX, wSl, wON, wOS, gN, gT, gsCons, gsNil, wYes, wDK, wDT, List.map_cons, List.map_nil, List.length_cons, List.length_nil, List.cons_append, List.nil_append, List.replicate_succ, List.replicate_zero, List.append_nil, List.set_cons_zero, List.set_cons_succ, get0, getS, ex_some2, ex_some, ex_bl, aIx_tup, aIx_scr, aSub, aI, aIC, aAdd, aMod, aDiv, aMul, aNeg, atI0, atI1, atI2, atI3, aAbs, aMax, aMin, aLen, aLe, aLt, aGt, aGe, aIs, aOrd, aIsN, aNotN, isNonD, aTuple, aList, aInt, aIsi, aAll, aAny, aBls, aSum, aSl, truA, itemsA, aApp, aEq, aNe, wipeA, Nat.reduceAdd, Nat.reduceSub, if_true, if_false, Bool.false_eq_true, true_and, and_true])
/-! ### whether things are a board's, of any numbers -/
def whB (i lo hi : Int) : Bool := decide (lo ≤ i) && decide (i ≤ hi)
def pB : List Int → Bool
  | [x, y] => whB x 0 199 && whB y 0 199
  | _ => false
def tB (t : GT) : Bool := whB t.id 0 99 && (pB t.ps && whB t.room 0 9) && (match t.grp with
  | none => true
  | some g => whB g 0 9)
theorem tB_th {t : GT} (h : tB t = true) : ∃ u : Th, VTh u ∧ gtD t = thD u := by
  obtain ⟨i, ps, r, g⟩ := t
  unfold tB at h
  simp only [Bool.and_eq_true] at h
  obtain ⟨⟨h1, h2, h3⟩, h4⟩ := h
  match ps, h2 with
  | [x, y], h2 =>
    unfold pB at h2
    simp only [whB, Bool.and_eq_true, decide_eq_true_eq] at h1 h2 h3
    refine ⟨⟨i, (x, y), r, g⟩, ⟨show 0 ≤ i ∧ i < 100 by omega, show (0 ≤ x ∧ x < 200) ∧ 0 ≤ y ∧ y < 200 by omega, show 0 ≤ r ∧ r < 10 by omega, fun z hz => ?_⟩, rfl⟩
    have hz : g = some z := hz
    subst hz
    simp only [whB, Bool.and_eq_true, decide_eq_true_eq] at h4
    omega
theorem all_th : ∀ {ts : List GT}, (∀ x ∈ ts, tB x = true) → ∃ b : List Th, (∀ t ∈ b, VTh t) ∧ ts.map gtD = b.map thD
  | [], _ => ⟨[], by simp, rfl⟩
  | t :: r, h => by
    obtain ⟨b, h1, h2⟩ := all_th (ts := r) fun x hx => h x (by simp [hx])
    obtain ⟨u, h3, h4⟩ := tB_th (h t (by simp))
    refine ⟨u :: b, fun x hx => ?_, by rw [List.map_cons, List.map_cons, h2, h4]⟩
    rcases List.mem_cons.mp hx with rfl | hx
    · exact h3
    · exact h1 x hx
theorem zip_adj {α : Type} (f : α → D) : ∀ l : List α, zipD (l.map f).dropLast ((l.map f).drop 1) = (l.zip l.tail).map fun p => .tup [f p.1, f p.2]
  | [] => rfl
  | [a] => rfl
  | a :: b :: r => by
    have ih := zip_adj f (b :: r)
    have e1 : ((a :: b :: r).map f).dropLast = f a :: ((b :: r).map f).dropLast := rfl
    have e2 : ((a :: b :: r).map f).drop 1 = f b :: r.map f := rfl
    have e3 : ((b :: r).map f).drop 1 = r.map f := rfl
    rw [e3] at ih
    have e4 : (a :: b :: r).zip (a :: b :: r).tail = (a, b) :: (b :: r).zip r := rfl
    rw [e1, e2, e4, List.map_cons]
    exact congrArg (D.tup [f a, f b] :: ·) ih
theorem adj_up : ∀ {b : List Th}, (∀ p ∈ b.zip b.tail, p.1.id < p.2.id) → b.Pairwise fun a c => a.id < c.id
  | [], _ => .nil
  | [a], _ => by simp
  | a :: b :: r, h => by
    have ih : (b :: r).Pairwise fun a c => a.id < c.id := adj_up (b := b :: r) fun p hp => h p (List.mem_cons_of_mem _ hp)
    have h1 : a.id < b.id := h (a, b) (by show (a, b) ∈ (a, b) :: (b :: r).zip r; simp)
    refine List.pairwise_cons.mpr ⟨fun c hc => ?_, ih⟩
    rcases List.mem_cons.mp hc with rfl | hc
    · exact h1
    · have := (List.pairwise_cons.mp ih).1 c hc
      omega
theorem up_len : ∀ {b : List Th} {lo : Int}, (b.Pairwise fun a c => a.id < c.id) → (∀ t ∈ b, lo ≤ t.id ∧ t.id < 100) → (b.length : Int) ≤ max 0 (100 - lo)
  | [], _, _, _ => by simp; omega
  | a :: r, lo, h, k => by
    have h1 := List.pairwise_cons.mp h
    have ka := k a (by simp)
    have ih := up_len (b := r) (lo := a.id + 1) h1.2 fun t ht => ⟨by have := h1.1 t ht; omega, (k t (by simp [ht])).2⟩
    rw [List.length_cons]
    omega
theorem up_vbd {b : List Th} (v : ∀ t ∈ b, VTh t) (h : b.Pairwise fun a c => a.id < c.id) : VBd b := by
  have := up_len (lo := 0) h fun t ht => (v t ht).1
  exact ⟨v, h, by omega⟩
section
variable {K : PySem.W.Frag} {S S' : Sto} {Q : AK} {E : XA}
theorem is_whole_any {i lo hi : Int} (q : Q (.bl (whB i lo hi)) S) : w_is_whole [.int i, .int lo, .int hi] S Q E := by
  unfold whB at q
  unfold w_is_whole wFn b_is_whole
  walk_at "st"
  walk_at "sy"
  by_cases h1 : lo ≤ i
  · rw [decide_eq_true h1] at q ⊢
    exact q
  · rw [decide_eq_false h1] at q ⊢
    exact q
theorem is_place_any {ps : List Int} (hl : ps.length ≤ 20000) (q : ∀ S', Kp [] S S' → Q (.bl (pB ps)) S') : w_is_place [.tup (ps.map .int)] S Q E := by
  unfold w_is_place wFn b_is_place
  walk_at "st"
  walk_at "sy"
  rcases Nat.decEq ps.length 2 with h2 | h2
  · refine ite_no ?_ ?_
    · show ¬((((ps.map D.int).length : Nat) : Int) == 2) = true
      rw [List.length_map, Bool.not_eq_true, beq_eq_false_iff_ne]
      omega
    · have e : pB ps = false := by
        match ps, h2 with
        | [], _ => rfl
        | [_], _ => rfl
        | [_, _], h => exact absurd rfl h
        | _ :: _ :: _ :: _, _ => rfl
      have := q S Kp.refl
      rw [e] at this
      have e2 : ((((ps.map D.int).length : Nat) : Int) == 2) = false := by
        rw [List.length_map, beq_eq_false_iff_ne]
        omega
      rw [e2]
      exact this
  match ps, h2 with
  | [x, y], _ =>
    refine ite_yes (by show (((2 : Nat) : Int) == 2) = true; decide) ?_
    refine lc_all (ys := [x, y]) (e := D.int) (fun i => .bl (whB i 0 199)) (by simp) (fun _ _ => trivial) ?_ ?_
    · intro i hi S1 k1 N1 N2 g1
      walk_at "st"
      exact is_whole_any (g1 S1 Kp.refl)
    intro p1 S1 hp k1 e1
    have e1 : S1 p1 = some (.lst ([whB x 0 199, whB y 0 199].map .bl)) := e1
    simp only [e1, blsOf_map]
    have e2 : [whB x 0 199, whB y 0 199].all id = pB [x, y] := by unfold pB; simp
    rw [e2]
    exact q S1 k1
theorem is_thing_any {t : GT} (hl : t.ps.length ≤ 20000) (q : ∀ S', Kp [] S S' → Q (.bl (tB t)) S') : w_is_thing [gtD t] S Q E := by
  obtain ⟨i, ps, r, g⟩ := t
  unfold tB at q
  simp only at q
  unfold w_is_thing wFn b_is_thing
  rw [show gtD ⟨i, ps, r, g⟩ = .tup [.int i, .tup (ps.map .int), .int r, grD g] from rfl]
  walk_at "st"
  walk_at "sy"
  refine is_whole_any ?_
  walk_at "st"
  walk_at "sy"
  cases h1 : whB i 0 99 with
  | false =>
    rw [h1] at q
    exact q S Kp.refl
  | true =>
  rw [h1] at q
  refine ite_no (by decide) ?_
  unfold b_is_thing_2
  walk_at "st"
  refine is_place_any hl fun S1 k1 => ?_
  walk_at "st"
  cases h2 : pB ps with
  | false =>
    rw [h2] at q
    exact q S1 k1
  | true =>
  rw [h2] at q
  refine ite_no (by decide) ?_
  refine is_whole_any ?_
  cases h3 : whB r 0 9 with
  | false =>
    rw [h3] at q
    exact q S1 k1
  | true =>
  rw [h3] at q
  refine ite_no (by decide) ?_
  unfold b_is_thing_4
  walk_at "st"
  cases g with
  | none =>
    change (if (true : Bool) = true then _ else _)
    rw [if_pos rfl]
    exact q S1 k1
  | some g =>
    change (if (false : Bool) = true then _ else _)
    rw [if_neg (by decide)]
    exact is_whole_any (i := g) (q S1 k1)
theorem is_board_any {ts : List GT} (hn : ts.length ≤ 20000) (hl : ∀ t ∈ ts, t.ps.length ≤ 20000) (qt : ∀ b S', VBd b → ts.map gtD = b.map thD → Kp [] S S' → Q (.bl true) S') (qf : ∀ S', Kp [] S S' → Q (.bl false) S') : w_is_board [.tup (ts.map gtD)] S Q E := by
  unfold w_is_board wFn b_is_board
  walk_at "st"
  walk_at "sy"
  refine lc_all (ys := ts) (e := gtD) (fun t => .bl (tB t)) (by omega) (fun _ _ => trivial) ?_ ?_
  · intro t ht S1 k1 N1 N2 g1
    walk_at "st"
    exact is_thing_any (hl t ht) fun S2 k2 => g1 S2 k2
  intro p S1 hp k1 e1
  have e1 : S1 p = some (.lst ((ts.map tB).map .bl)) := by rw [e1, List.map_map]; rfl
  simp only [e1, blsOf_map]
  rcases (Bool.eq_false_or_eq_true ((ts.map tB).all id)).symm with ha | ha
  · refine ite_yes (by rw [ha]; rfl) ?_
    unfold b_is_board_1
    walk_at "st"
    exact qf S1 k1
  refine ite_no (by rw [ha]; decide) ?_
  have hb := all_th (ts := ts) fun x hx => by
    rw [List.all_map, List.all_eq_true] at ha
    exact ha x hx
  obtain ⟨b, v, eb⟩ := hb
  have lb : b.length = ts.length := by
    have := congrArg List.length eb
    simpa using this.symm
  rw [eb]
  unfold b_is_board_2
  walk_at "st"
  rw [cutA_last, cutA_from (by decide), show (1 : Int).toNat = 1 from rfl, zip_adj]
  refine lc_all (ys := b.zip b.tail) (e := fun p => .tup [thD p.1, thD p.2]) (fun p => .bl (decide (p.1.id < p.2.id))) (by rw [List.length_zip]; omega) (fun _ _ => trivial) ?_ ?_
  · intro p hp S3 k3 N1 N2 g1
    obtain ⟨x, y⟩ := p
    rw [show thD x = .tup [.int x.id, plD x.pl, .int x.room, grD x.grp] from rfl, show thD y = .tup [.int y.id, plD y.pl, .int y.room, grD y.grp] from rfl]
    walk_at "st"
    exact g1 S3 Kp.refl
  intro c S3 hc k3 e3
  have e3 : S3 c = some (.lst (((b.zip b.tail).map fun p => decide (p.1.id < p.2.id)).map .bl)) := by rw [e3, List.map_map]; rfl
  simp only [e3, blsOf_map]
  cases hu : ((b.zip b.tail).map fun p => decide (p.1.id < p.2.id)).all id with
  | false => exact qf S3 (k1.trans k3)
  | true =>
    rw [List.all_map, List.all_eq_true] at hu
    exact qt b S3 (up_vbd v (adj_up fun p hp => of_decide_eq_true (hu p hp))) eb (k1.trans k3)
/-- a text that is no board's is refused -/
theorem read_no {x : Str} (h : Sm 10000 x) (hb : ∀ b, VBd b → x ≠ txS b) (e : ∀ S', Kp [] S S' → E (nTx K) S') : w_read K [.str x] S Q E := by
  unfold w_read wFn b_read
  walk_at "st"
  simp only [wSplit]
  walk_at "st"
  refine ⟨⟨_, rfl⟩, _, _, rfl, rfl, by decide +kernel, Nat.le_trans (m := 10002) (by rw [LL_len]; have := h.l; omega) (by decide), fun p hp => ?_⟩
  rw [S_lf]
  obtain ⟨sm, sl⟩ := split_sm (k := 10) h
  generalize Txt.split x ⟨#[10]⟩ = ys at sm sl ⊢
  have ep : put S p (.lst (ys.map D.str)) p = some (.lst (ys.map D.str)) := put_same
  have k0 : Kp [] S (put S p (.lst (ys.map D.str))) := Kp.new hp
  generalize put S p (.lst (ys.map D.str)) = S0 at ep k0 ⊢
  walk_at "st"
  simp only [ep]
  intro p1 hp1
  rw [cutA_last, ← List.map_dropLast]
  have sm2 : ∀ y ∈ ys.dropLast, Sm 10000 y := fun y hy => sm y (List.dropLast_subset _ hy)
  have sl2 : ys.dropLast.length ≤ 10001 := by rw [List.length_dropLast]; omega
  generalize ys.dropLast = zs at sm2 sl2 ⊢
  have k1 := k0.trans (Kp.new hp1 (o := .lst (zs.map D.str)))
  have e1 : put S0 p1 (.lst (zs.map D.str)) p1 = some (.lst (zs.map D.str)) := put_same
  generalize put S0 p1 (.lst (zs.map D.str)) = S1 at e1 k1 ⊢
  simp only [e1]
  refine lcx_map (ys := zs) (e := D.str) (fun _ d => ∃ t : GT, t.ps.length ≤ 20000 ∧ d = gtD t) (by omega) (fun S2 k2 => k2 p1 _ e1 (by simp)) ?_ ?_
  · intro z hz S2 k2 N1 N2 g1
    walk_at "st"
    exact thing_in_any (sm2 z hz) (Nat.le_refl _) (fun t S3 ht k3 => g1 _ S3 ⟨t, ht, rfl⟩ k3) fun S3 k3 => e S3 ((k1.trans k2).trans k3)
  intro p2 S2 ds hp2 k2 pr e2
  obtain ⟨ts, ht, hl, rfl⟩ : ∃ ts : List GT, (∀ t ∈ ts, t.ps.length ≤ 20000) ∧ ts.length = zs.length ∧ ds = ts.map gtD := by
    clear e2 e1 sm2 sl2
    induction pr with
    | nil => exact ⟨[], by simp, rfl, rfl⟩
    | cons r _ ih =>
      obtain ⟨t, ht, rfl⟩ := r
      obtain ⟨ts, h1, h2, rfl⟩ := ih
      refine ⟨t :: ts, fun u hu => ?_, by simp [h2], rfl⟩
      rcases List.mem_cons.mp hu with rfl | hu
      · exact ht
      · exact h1 u hu
  simp only [e2]
  have kk := k1.trans k2
  unfold b_read_1
  walk_at "st"
  refine is_board_any (by omega) ht (fun b S3 v eb k3 => ?_) fun S3 k3 => ?_
  · walk_at "st"
    rw [eb, show D.tup (b.map thD) = bdD b from rfl]
    refine written_ok v.1 (by have := v.2.2; omega) ?_
    have hsm : ∀ c ∈ LL (txS b), c < 1000 := fun c hc => by
      rw [LL_tx] at hc
      unfold endL at hc
      obtain ⟨l, hl, hc⟩ := List.mem_flatMap.mp hc
      obtain ⟨t, ht, rfl⟩ := List.mem_map.mp hl
      rcases List.mem_append.mp hc with z | z
      · have := ln_free (v.1 t ht) z; omega
      · rw [List.mem_singleton.mp z]; omega
    refine ⟨strOk_of hsm, strOk_of h.c, ?_⟩
    rw [eqStr, decide_eq_false fun z => hb b v z.symm]
    refine ite_yes (by decide) ?_
    unfold b_read_2 wRaise
    exact e S3 (kk.trans k3)
  · walk_at "st"
    unfold b_read_2 wRaise
    exact e S3 (kk.trans k3)
end
end L
set_option Elab.async false
set_option linter.all false
set_option maxRecDepth 100000
set_option maxHeartbeats 4000000
namespace L
open PySem PySem.Spec PyProof.Rows L2 Ab
local macro_rules | `(tactic| walk_at "sx") => `(tactic| try simp only [wZipM, aSrtB_ref, aMulB_int, aMulB_ref, wChain, wRev, wPar3, wSeq, wRet, wRetN, wAsg, wDrop, wIfS, wNext, wPar, wCB, wBM, wCons, wNil, wOp, wUn, wV, wC, wTup, wLst, wCall, wB, Ab.wTru, Ab.wNot, wAnd, wOr, wAndV, wOrV, wNotV, wIf, wFor, wSeqI, wRng1, wRng2, wZip, wLc, wLcX, wSl, wON, wOS, gN, gT, gsCons, gsNil, wYes, wDK, wDT, List.map_cons, List.map_nil, List.length_cons, List.length_nil, List.cons_append, List.nil_append, List.replicate_succ, List.replicate_zero, List.append_nil, List.set_cons_zero, List.set_cons_succ, get0, getS, ex_some2, ex_some, ex_bl, aIx, aSub, aI, aIC, aAdd, aMod, aDiv, aMul, aNeg, atI0, atI1, atI2, atI3, aAbs, aMax, aMin, aLen, aLe, aLt, aGt, aGe, aIs, aOrd, aIsN, aNotN, isNonD, aTuple, aList, aInt, aIsi, aAll, aAny, aBls, aSum, aSl, truA, itemsA, aApp, aEq, aNe, wipeA, Nat.reduceAdd, Nat.reduceSub, if_true, if_false, Bool.false_eq_true, true_and, and_true])
local macro_rules | `(tactic| walk_at "sy") => `(tactic| try simp only [Bool.true_xor, Bool.false_xor, Bool.xor_false, Bool.xor_true, tyD, isiB, String.reduceBEq, String.reduceEq, reduceCtorEq, Bool.or_false, Bool.false_or, Bool.true_or, Bool.or_true, Bool.false_and, Bool.and_false, Bool.true_and, Bool.and_true, or_true, true_or, or_false, false_or, true_and, and_true, Bool.not_true, Bool.not_false, if_true, if_false, Bool.false_eq_true, eqD, okD])
local macro_rules | `(tactic| walk_at "sw") => `(tactic| try simp only [wZipM, aSrtB_ref, aMulB_int, aMulB_ref, wChain, wRev, wPar3, wSeq, wRet, wRetN, wAsg, wDrop, wIfS, wNext, wPar, wCB, wBM, wCons, wNil, wOp, wUn, wV, wC, wTup, wLst, wCall, wB, Ab.wTru, Ab.wNot, wAnd, wOr, wAndV, wOrV, wNotV, wIf, wFor, wSeqI, wRng1, wRng2, wZip, wLc, wLcX, wSl, wON, wOS, gN, gT, gsCons, gsNil, wYes, wDK, wDT, List.map_cons, List.map_nil, List.length_cons, List.length_nil, List.cons_append, List.nil_append, List.replicate_succ, List.replicate_zero, List.append_nil, List.set_cons_zero, List.set_cons_succ, get0, getS, ex_some2, ex_some, ex_bl, aIx, aSub, aI, aIC, aAdd, aMod, aDiv, aMul, aNeg, atI0, atI1, atI2, atI3, aAbs, aMax, aMin, aLen, aLe, aLt, aGt, aGe, aIs, aOrd, aIsN, aNotN, isNonD, aTuple, aList, aInt, aAll, aAny, aBls, aSum, aSl, truA, itemsA, aApp, aEq, aNe, wipeA, Nat.reduceAdd, Nat.reduceSub, if_true, if_false, Bool.false_eq_true, true_and, and_true])
local macro_rules | `(tactic| walk_at "st") => `(tactic| try simp only [wZipM, aSrtB_ref, aMulB_int, aMulB_ref, wChain, wRev, wPar3, wSeq, wRet, wRetN, wAsg, wDrop, wIfS, wNext, wPar, wCB, wBM, wCons, wNil, wOp, wUn, wV, wC, wTup, wLst, wCall, wB, Ab.wTru, Ab.wNot, wAnd, wOr, wAndV, wOrV, wNotV, wIf, wFor, wSeqI, wRng1, wRng2, wZip, wLc, wLcX, wSl, wON, wOS, gN, gT, gsCons, gsNil, wYes, wDK, wDT, List.map_cons, List.map_nil, List.length_cons, List.length_nil, List.cons_append, List.nil_append, List.replicate_succ, List.replicate_zero, List.append_nil, List.set_cons_zero, List.set_cons_succ, get0, getS, ex_some2, ex_some, ex_bl, aIx_tup, aIx_scr, aSub, aI, aIC, aAdd, aMod, aDiv, aMul, aNeg, atI0, atI1, atI2, atI3, aAbs, aMax, aMin, aLen, aLe, aLt, aGt, aGe, aIs, aOrd, aIsN, aNotN, isNonD, aTuple, aList, aInt, aIsi, aAll, aAny, aBls, aSum, aSl, truA, itemsA, aApp, aEq, aNe, wipeA, Nat.reduceAdd, Nat.reduceSub, if_true, if_false, Bool.false_eq_true, true_and, and_true])
/-! ### what is read of a text -/
theorem num_inj {i j : Int} (hi : 0 ≤ i ∧ i < 200) (hj : 0 ≤ j ∧ j < 200) (h : nS i = nS j) : i = j := by
  have a := (num_of hi).1.2.2
  have b := (num_of hj).1.2.2
  rw [h, b] at a
  exact (Option.some.inj a).symm
theorem mk_inj {g k : Option Int} (hg : ∀ i, g = some i → 0 ≤ i ∧ i < 10) (hk : ∀ i, k = some i → 0 ≤ i ∧ i < 10) (h : mkS g = mkS k) : g = k := by
  cases g with
  | none => exact ((mk_da hk).mp (h.symm.trans rfl)).symm
  | some i =>
    cases k with
    | none => exact (mk_da hg).mp (h.trans rfl)
    | some j =>
      have a := hg i rfl
      have b := hk j rfl
      rw [num_inj (i := i) (j := j) (by omega) (by omega) h]
theorem ln_inj {t u : Th} (v : VTh t) (w : VTh u) (h : lnS t = lnS u) : t = u := by
  have e := split_words v
  rw [h, split_words w] at e
  obtain ⟨h1, ⟨h2, h3⟩, h4, h5⟩ := v
  obtain ⟨w1, ⟨w2, w3⟩, w4, w5⟩ := w
  unfold wdsS at e
  simp only [List.cons.injEq, and_true] at e
  obtain ⟨e1, e2, e3, e4⟩ := e
  have p1 := split_place h2 h3
  rw [← e2, split_place w2 w3] at p1
  simp only [List.cons.injEq, and_true] at p1
  have a1 := num_inj (i := u.id) (j := t.id) (by omega) (by omega) e1
  have a2 := num_inj (i := u.pl.1) (j := t.pl.1) (by omega) (by omega) p1.1
  have a3 := num_inj (i := u.pl.2) (j := t.pl.2) (by omega) (by omega) p1.2
  have a4 := num_inj (i := u.room) (j := t.room) (by omega) (by omega) e3
  have a5 := mk_inj w5 h5 e4
  obtain ⟨i, p, r, g⟩ := t
  obtain ⟨i', p', r', g'⟩ := u
  simp only at a1 a2 a3 a4 a5
  subst a1 a4 a5
  rw [show p = p' from Prod.ext a2.symm a3.symm]
theorem lns_inj : ∀ {b c : List Th}, (∀ t ∈ b, VTh t) → (∀ t ∈ c, VTh t) → b.map lnS = c.map lnS → b = c
  | [], [], _, _, _ => rfl
  | [], _ :: _, _, _, h => by cases h
  | _ :: _, [], _, _, h => by cases h
  | t :: b, u :: c, v, w, h => by
    obtain ⟨e1, e2⟩ := List.cons.inj h
    rw [ln_inj (v t (by simp)) (w u (by simp)) e1, lns_inj (fun x hx => v x (by simp [hx])) (fun x hx => w x (by simp [hx])) e2]
theorem tx_inj {b c : List Th} (v : ∀ t ∈ b, VTh t) (w : ∀ t ∈ c, VTh t) (h : txS b = txS c) : b = c := by
  have e := split_lines v
  rw [h, split_lines w] at e
  exact (lns_inj w v (List.append_cancel_right e)).symm
open Classical in
noncomputable def rdF (x : Str) : Option (List Th) := if h : ∃ b, VBd b ∧ x = txS b then some h.choose else none
theorem rd_tx {b : List Th} (v : VBd b) : rdF (txS b) = some b := by
  have h : ∃ c, VBd c ∧ txS b = txS c := ⟨b, v, rfl⟩
  unfold rdF
  rw [dif_pos h]
  have e := h.choose_spec
  exact congrArg some (tx_inj v.1 e.1.1 e.2).symm
theorem rd_no {x : Str} (h : ∀ b, VBd b → x ≠ txS b) : rdF x = none := by
  unfold rdF
  rw [dif_neg (fun ⟨b, v, e⟩ => h b v e)]
theorem rd_some {x : Str} {b : List Th} (h : rdF x = some b) : VBd b ∧ x = txS b := by
  unfold rdF at h
  by_cases k : ∃ b, VBd b ∧ x = txS b
  · rw [dif_pos k] at h
    cases h
    exact k.choose_spec
  · rw [dif_neg k] at h
    cases h
theorem rd_none {x : Str} (h : rdF x = none) : ∀ b, VBd b → x ≠ txS b := fun b v e => by
  rw [e, rd_tx v] at h
  cases h
/-! a look at a text that tells some that are no board's -/
def spl (c : Nat) : List Nat → List (List Nat)
  | [] => [[]]
  | x :: r => if x = c then [] :: spl c r else match spl c r with
    | [] => [[x]]
    | p :: ps => (x :: p) :: ps
theorem spl_one {c : Nat} : ∀ {p : List Nat}, c ∉ p → spl c p = [p]
  | [], _ => rfl
  | x :: r, h => by
    have ih := spl_one (c := c) (p := r) fun z => h (by simp [z])
    unfold spl
    rw [if_neg (fun z => h (by simp [z])), ih]
theorem spl_app {c : Nat} {r : List Nat} : ∀ {p : List Nat}, c ∉ p → spl c (p ++ c :: r) = p :: spl c r
  | [], _ => by
    show (if c = c then [] :: spl c r else _) = _
    rw [if_pos rfl]
  | x :: p, h => by
    have ih := spl_app (c := c) (r := r) (p := p) fun z => h (by simp [z])
    show (if x = c then [] :: spl c (p ++ c :: r) else match spl c (p ++ c :: r) with
      | [] => [[x]]
      | p :: ps => (x :: p) :: ps) = _
    rw [if_neg (fun z => h (by simp [z])), ih]
def isN (m : Nat) (w : List Nat) : Bool := (List.range m).any fun n => LL (nS (n : Int)) == w
theorem isN_of {m : Nat} {i : Int} (h : 0 ≤ i ∧ i < m) : isN m (LL (nS i)) = true := by
  unfold isN
  rw [List.any_eq_true]
  refine ⟨i.toNat, List.mem_range.mpr (by omega), ?_⟩
  rw [show ((i.toNat : Nat) : Int) = i by omega]
  exact beq_self_eq_true _
def chkL (l : List Nat) : Bool := match spl 32 l with
  | [a, p, r, g] => isN 100 a && (match spl 44 p with
    | [x, y] => isN 200 x && isN 200 y
    | _ => false) && isN 10 r && (g == [45] || isN 10 g)
  | _ => false
def chk (l : List Nat) : Bool := match (spl 10 l).reverse with
  | [] :: ls => ls.all chkL
  | _ => false
theorem chkL_of {t : Th} (v : VTh t) : chkL (lnL t) = true := by
  obtain ⟨h1, ⟨h2, h3⟩, h4, h5⟩ := v
  have f : ∀ {i : Int} {c : Nat}, 0 ≤ i ∧ i < 200 → c < 48 → c ∉ LL (nS i) := fun h hc z => by have := num_dig h z; omega
  have e : spl 32 (lnL t) = [LL (nS t.id), LL (nS t.pl.1) ++ 44 :: LL (nS t.pl.2), LL (nS t.room), LL (mkS t.grp)] := by
    have e1 : lnL t = LL (nS t.id) ++ 32 :: ((LL (nS t.pl.1) ++ 44 :: LL (nS t.pl.2)) ++ 32 :: (LL (nS t.room) ++ 32 :: LL (mkS t.grp))) := by unfold lnL; simp
    rw [e1, spl_app (f (by omega) (by decide)), spl_app (fun z => ?_), spl_app (f (by omega) (by decide)), spl_one fun z => ?_]
    · have := mk_dig h5 z; omega
    · rcases List.mem_append.mp z with z | z
      · exact f (by omega) (by decide) z
      · rcases List.mem_cons.mp z with z | z
        · cases z
        · exact f (by omega) (by decide) z
  have e2 : spl 44 (LL (nS t.pl.1) ++ 44 :: LL (nS t.pl.2)) = [LL (nS t.pl.1), LL (nS t.pl.2)] := by
    rw [spl_app (f h2 (by decide)), spl_one (f h3 (by decide))]
  unfold chkL
  rw [e]
  simp only [e2]
  rw [isN_of (m := 100) h1, isN_of (m := 200) h2, isN_of (m := 200) h3, isN_of (m := 10) h4]
  cases hg : t.grp with
  | none =>
    have : LL (mkS none) = [45] := by decide +kernel
    rw [this]
    decide
  | some g =>
    have e3 : LL (mkS (some g)) = LL (nS g) := rfl
    rw [e3, isN_of (m := 10) (h5 g hg), Bool.or_true]
    rfl
theorem chk_tx {b : List Th} (v : ∀ t ∈ b, VTh t) : chk (LL (txS b)) = true := by
  have e : spl 10 (LL (txS b)) = b.map lnL ++ [[]] := by
    rw [LL_tx]
    unfold endL
    induction b with
    | nil => rfl
    | cons t b ih =>
      rw [List.map_cons, List.flatMap_cons, List.append_assoc]
      show spl 10 (lnL t ++ 10 :: List.flatMap (fun l => l ++ [10]) (List.map lnL b)) = _
      rw [spl_app (fun z => by have := ln_free (v t (by simp)) z; omega), ih fun x hx => v x (by simp [hx])]
      rfl
  unfold chk
  rw [e, List.reverse_append]
  show ((b.map lnL).reverse.all chkL) = true
  rw [List.all_eq_true]
  intro l hl
  obtain ⟨t, ht, rfl⟩ := List.mem_map.mp (List.mem_reverse.mp hl)
  exact chkL_of (v t ht)
theorem rd_bad {x : Str} (h : chk (LL x) = false) : rdF x = none := rd_no fun b v e => by
  rw [e, chk_tx v.1] at h
  cases h
def bdO : Option (List Th) → D
  | none => .non
  | some b => bdD b
abbrev ExT (K : PySem.W.Frag) : Prop := PySem.W.exmOne K (nTx K) (nTx K) = some true
section
variable {K : PySem.W.Frag} {S S' : Sto} {Q : AK} {E : XA}
/-- read, of any text -/
theorem read_any {x : Str} (h : Sm 10000 x) (q : ∀ b S', rdF x = some b → Kp [] S S' → Q (bdD b) S') (e : rdF x = none → ∀ S', Kp [] S S' → E (nTx K) S') : w_read K [.str x] S Q E := by
  cases hr : rdF x with
  | none => exact read_no h (rd_none hr) (e hr)
  | some b =>
    obtain ⟨v, rfl⟩ := rd_some hr
    exact read_ok v fun S1 k1 => q b S1 hr k1
end
end L
set_option Elab.async false
set_option linter.all false
set_option maxRecDepth 100000
set_option maxHeartbeats 4000000
namespace L
open PySem PySem.Spec PyProof.Rows L2 Ab
local macro_rules | `(tactic| walk_at "sx") => `(tactic| try simp only [wZipM, aSrtB_ref, aMulB_int, aMulB_ref, wChain, wRev, wPar3, wSeq, wRet, wRetN, wAsg, wDrop, wIfS, wNext, wPar, wCB, wBM, wCons, wNil, wOp, wUn, wV, wC, wTup, wLst, wCall, wB, Ab.wTru, Ab.wNot, wAnd, wOr, wAndV, wOrV, wNotV, wIf, wFor, wSeqI, wRng1, wRng2, wZip, wLc, wLcX, wSl, wON, wOS, gN, gT, gsCons, gsNil, wYes, wDK, wDT, List.map_cons, List.map_nil, List.length_cons, List.length_nil, List.cons_append, List.nil_append, List.replicate_succ, List.replicate_zero, List.append_nil, List.set_cons_zero, List.set_cons_succ, get0, getS, ex_some2, ex_some, ex_bl, aIx, aSub, aI, aIC, aAdd, aMod, aDiv, aMul, aNeg, atI0, atI1, atI2, atI3, aAbs, aMax, aMin, aLen, aLe, aLt, aGt, aGe, aIs, aOrd, aIsN, aNotN, isNonD, aTuple, aList, aInt, aIsi, aAll, aAny, aBls, aSum, aSl, truA, itemsA, aApp, aEq, aNe, wipeA, Nat.reduceAdd, Nat.reduceSub, if_true, if_false, Bool.false_eq_true, true_and, and_true])
local macro_rules | `(tactic| walk_at "sy") => `(tactic| try simp only [Bool.true_xor, Bool.false_xor, Bool.xor_false, Bool.xor_true, tyD, isiB, String.reduceBEq, String.reduceEq, reduceCtorEq, Bool.or_false, Bool.false_or, Bool.true_or, Bool.or_true, Bool.false_and, Bool.and_false, Bool.true_and, Bool.and_true, or_true, true_or, or_false, false_or, true_and, and_true, Bool.not_true, Bool.not_false, if_true, if_false, Bool.false_eq_true, eqD, okD])
local macro_rules | `(tactic| walk_at "sw") => `(tactic| try simp only [wZipM, aSrtB_ref, aMulB_int, aMulB_ref, wChain, wRev, wPar3, wSeq, wRet, wRetN, wAsg, wDrop, wIfS, wNext, wPar, wCB, wBM, wCons, wNil, wOp, wUn, wV, wC, wTup, wLst, wCall, wB, Ab.wTru, Ab.wNot, wAnd, wOr, wAndV, wOrV, wNotV, wIf, wFor, wSeqI, wRng1, wRng2, wZip, wLc, wLcX, wSl, wON, wOS, gN, gT, gsCons, gsNil, wYes, wDK, wDT, List.map_cons, List.map_nil, List.length_cons, List.length_nil, List.cons_append, List.nil_append, List.replicate_succ, List.replicate_zero, List.append_nil, List.set_cons_zero, List.set_cons_succ, get0, getS, ex_some2, ex_some, ex_bl, aIx, aSub, aI, aIC, aAdd, aMod, aDiv, aMul, aNeg, atI0, atI1, atI2, atI3, aAbs, aMax, aMin, aLen, aLe, aLt, aGt, aGe, aIs, aOrd, aIsN, aNotN, isNonD, aTuple, aList, aInt, aAll, aAny, aBls, aSum, aSl, truA, itemsA, aApp, aEq, aNe, wipeA, Nat.reduceAdd, Nat.reduceSub, if_true, if_false, Bool.false_eq_true, true_and, and_true])
local macro_rules | `(tactic| walk_at "st") => `(tactic| try simp only [wZipM, aSrtB_ref, aMulB_int, aMulB_ref, wChain, wRev, wPar3, wSeq, wRet, wRetN, wAsg, wDrop, wIfS, wNext, wPar, wCB, wBM, wCons, wNil, wOp, wUn, wV, wC, wTup, wLst, wCall, wB, Ab.wTru, Ab.wNot, wAnd, wOr, wAndV, wOrV, wNotV, wIf, wFor, wSeqI, wRng1, wRng2, wZip, wLc, wLcX, wSl, wON, wOS, gN, gT, gsCons, gsNil, wYes, wDK, wDT, List.map_cons, List.map_nil, List.length_cons, List.length_nil, List.cons_append, List.nil_append, List.replicate_succ, List.replicate_zero, List.append_nil, List.set_cons_zero, List.set_cons_succ, get0, getS, ex_some2, ex_some, ex_bl, aIx_tup, aIx_scr, aSub, aI, aIC, aAdd, aMod, aDiv, aMul, aNeg, atI0, atI1, atI2, atI3, aAbs, aMax, aMin, aLen, aLe, aLt, aGt, aGe, aIs, aOrd, aIsN, aNotN, isNonD, aTuple, aList, aInt, aIsi, aAll, aAny, aBls, aSum, aSl, truA, itemsA, aApp, aEq, aNe, wipeA, Nat.reduceAdd, Nat.reduceSub, if_true, if_false, Bool.false_eq_true, true_and, and_true])
/-! ### the law -/
theorem okBd {b : List Th} (v : ∀ t ∈ b, VTh t) : okD 8 (bdD b) = true := by
  unfold bdD okD
  rw [List.all_map, List.all_eq_true]
  intro t _
  show okD 7 (.tup [.int t.id, plD t.pl, .int t.room, grD t.grp]) = true
  cases t.grp <;> rfl
theorem VBd.sub {b c : List Th} (v : VBd b) (h : c.Sublist b) : VBd c := ⟨fun t ht => v.1 t (h.subset ht), v.2.1.sublist h, Nat.le_trans h.length_le v.2.2⟩
def rwS (t : Th) : Str := lnS t ++ ⟨#[10]⟩
theorem join_rows (c : List Th) : Txt.join (Str.ofString "") (c.map rwS) = txS c := by
  rw [show Str.ofString "" = Str.empty from by decide +kernel, TL.join_eq]
  refine str_ext ?_
  rw [LL_join0, LL_tx, List.map_map]
  induction c with
  | nil => rfl
  | cons t r ih =>
    rw [List.map_cons, List.flatten_cons, ih]
    show LL (lnS t ++ ⟨#[10]⟩) ++ endL 10 (List.map lnL r) = _
    rw [LL_app]
    unfold endL
    rw [List.map_cons, List.flatMap_cons]
    rfl
theorem rows_sum : ∀ {c : List Th}, (∀ t ∈ c, VTh t) → ((c.map rwS).map fun x => x.length).sum ≤ c.length * 100
  | [], _ => by simp
  | t :: r, h => by
    have ih := rows_sum (c := r) fun x hx => h x (List.mem_cons_of_mem _ hx)
    have hl := ln_len (h t List.mem_cons_self)
    have e : (rwS t).length ≤ 100 := by
      rw [LL_len]
      unfold rwS
      rw [LL_app, List.length_append]
      show (lnL t).length + 1 ≤ 100
      omega
    simp only [List.map_cons, List.sum_cons, List.length_cons]
    omega
theorem tx_sm {b : List Th} (v : ∀ t ∈ b, VTh t) (h : b.length ≤ 100) : Sm 2500 (txS b) := by
  refine ⟨fun c hc => ?_, ?_⟩
  · rw [LL_tx] at hc
    unfold endL at hc
    obtain ⟨l, hl, hc⟩ := List.mem_flatMap.mp hc
    obtain ⟨t, ht, rfl⟩ := List.mem_map.mp hl
    rcases List.mem_append.mp hc with z | z
    · have := ln_free (v t ht) z; omega
    · rw [List.mem_singleton.mp z]; omega
  · have := tx_len v
    omega
theorem tx_app (a b : List Th) : txS a ++ txS b = txS (a ++ b) := str_ext (by
  rw [LL_app, LL_tx, LL_tx, LL_tx]
  unfold endL
  simp)
theorem rd_tx' {b : List Th} (v : ∀ t ∈ b, VTh t) (h : ¬b.Pairwise fun a c => a.id < c.id) : rdF (txS b) = none := rd_no fun c w e => by
  have := tx_inj v w.1 e
  subst this
  exact h w.2.1
section
variable {K : PySem.W.Frag} {S S' : Sto} {Q : AK} {E : XA}
theorem law_read_ok (X : ExT K) {x : Str} (h : Sm 10000 x) (q : ∀ S', Kp [] S S' → Q (bdO (rdF x)) S') : w__law_read K [.str x] S Q E := by
  unfold w__law_read wFn b__law_read
  simp only [wTry]
  unfold b__law_read_1
  walk_at "st"
  refine read_any h (fun b S1 hr k1 => ?_) fun hr S1 k1 => ?_
  · have := q S1 k1
    rw [hr] at this
    exact this
  · simp only [tryH]
    refine ⟨true, X, fun _ => ?_, fun z => by cases z⟩
    unfold b__law_read_2 noX
    walk_at "st"
    have := q S1 k1
    rw [hr] at this
    exact this
theorem join_words {t : Th} : Txt.join (Str.ofString " ") (wdsS t) = lnS t := by
  rw [S_sp, TL.join_eq]
  refine str_ext ?_
  rw [LL_join]
  show jn 32 [LL (nS t.id), LL (nS t.pl.1) ++ 44 :: LL (nS t.pl.2), LL (nS t.room), LL (mkS t.grp)] = lnL t
  unfold lnL jn jn jn jn
  simp
theorem law_line_ok {t : Th} (v : VTh t) (q : ∀ S', Kp [] S S' → Q (.str (rwS t)) S') : w__law_line [thD t] S Q E := by
  obtain ⟨h1, ⟨h2, h3⟩, h4, h5⟩ := id v
  have l1 := num_len (i := t.id) (by omega)
  have l2 := num_len (i := t.pl.1) (by omega)
  have l3 := num_len (i := t.pl.2) (by omega)
  have l4 := num_len (i := t.room) (by omega)
  have l5 := mk_len h5
  unfold w__law_line wFn b__law_line
  rw [show thD t = .tup [.int t.id, plD t.pl, .int t.room, grD t.grp] from rfl]
  walk_at "st"
  unfold b__law_line_1 plD
  walk_at "st"
  have c2 : LL (Str.ofString ",") = [44] := by decide +kernel
  have le : ∀ x : Str, (LL x).length ≤ 1000 → x.length ≤ sizeLine := fun x hx => Nat.le_trans (by rw [LL_len]; exact hx) (show 1000 ≤ sizeLine by decide)
  have fin : ∀ g : Str, g = mkS t.grp → ∀ p, S p = none → b__law_line_2 { nx := fun x S' => Q D.non S', rt := Q, bk := fun x x_1 => False, ct := fun x x_1 => False, xe := fun c x S' => E c S' }
      [some (thD t), some (.int t.id), some (plD t.pl), some (.int t.room), some (grD t.grp), some (.ref p)] (put S p (.lst [.str (nS t.id), .str (nS t.pl.1 ++ Str.ofString "," ++ nS t.pl.2), .str (nS t.room), .str g])) := fun g hg p hp => by
    subst hg
    have ep : nS t.pl.1 ++ Str.ofString "," ++ nS t.pl.2 = ⟨(LL (nS t.pl.1) ++ 44 :: LL (nS t.pl.2)).toArray⟩ := str_ext (by
      rw [LL_app, LL_app, c2, List.append_assoc]
      rfl)
    rw [ep]
    unfold b__law_line_2
    walk_at "st"
    simp only [wJoin]
    walk_at "st"
    unfold aJoin
    refine ⟨wdsS t, put_same, ?_, ?_⟩
    · unfold wdsS
      have e2 : (Str.ofString " ").length = 1 := by decide +kernel
      simp only [List.map_cons, List.map_nil, List.sum_cons, List.sum_nil, List.length_cons, List.length_nil, LL_len, LL_mk, List.length_append] at *
      omega
    · rw [join_words, S_lf]
      refine ⟨?_, q _ (Kp.new hp)⟩
      have hl := ln_len v
      refine Nat.le_trans (m := 100) ?_ (by decide)
      rw [LL_len, LL_len]
      show (lnL t).length + 1 ≤ 100
      omega
  refine ⟨num_log (by omega), num_log (by omega), ?_, num_log (by omega), ?_, num_log (by omega), ?_⟩
  · refine Nat.le_trans (m := 100) ?_ (by decide)
    rw [LL_len, LL_len, c2]
    show (LL (nS t.pl.1)).length + 1 ≤ 100
    omega
  · refine Nat.le_trans (m := 100) ?_ (by decide)
    rw [LL_len, LL_len, LL_app, c2, List.length_append]
    show (LL (nS t.pl.1)).length + 1 + (LL (nS t.pl.2)).length ≤ 100
    omega
  walk_at "st"
  cases hg : t.grp with
  | none =>
    rw [hg] at fin
    refine ite_yes (by rfl) ?_
    exact ⟨by decide, fun p hp => fin _ rfl p hp⟩
  | some g =>
    rw [hg] at fin
    have := h5 g hg
    refine ite_no (show ¬((false : Bool) = true) by decide) ?_
    exact ⟨num_log (by omega), by decide, fun p hp => fin _ rfl p hp⟩
end
end L
set_option Elab.async false
set_option linter.all false
set_option maxRecDepth 100000
set_option maxHeartbeats 4000000
namespace L
open PySem PySem.Spec PyProof.Rows L2 Ab
local macro_rules | `(tactic| walk_at "sx") => `(tactic| try simp only [wZipM, aSrtB_ref, aMulB_int, aMulB_ref, wChain, wRev, wPar3, wSeq, wRet, wRetN, wAsg, wDrop, wIfS, wNext, wPar, wCB, wBM, wCons, wNil, wOp, wUn, wV, wC, wTup, wLst, wCall, wB, Ab.wTru, Ab.wNot, wAnd, wOr, wAndV, wOrV, wNotV, wIf, wFor, wSeqI, wRng1, wRng2, wZip, wLc, wLcX, wSl, wON, wOS, gN, gT, gsCons, gsNil, wYes, wDK, wDT, List.map_cons, List.map_nil, List.length_cons, List.length_nil, List.cons_append, List.nil_append, List.replicate_succ, List.replicate_zero, List.append_nil, List.set_cons_zero, List.set_cons_succ, get0, getS, ex_some2, ex_some, ex_bl, aIx, aSub, aI, aIC, aAdd, aMod, aDiv, aMul, aNeg, atI0, atI1, atI2, atI3, aAbs, aMax, aMin, aLen, aLe, aLt, aGt, aGe, aIs, aOrd, aIsN, aNotN, isNonD, aTuple, aList, aInt, aIsi, aAll, aAny, aBls, aSum, aSl, truA, itemsA, aApp, aEq, aNe, wipeA, Nat.reduceAdd, Nat.reduceSub, if_true, if_false, Bool.false_eq_true, true_and, and_true])
local macro_rules | `(tactic| walk_at "sy") => `(tactic| try simp only [Bool.true_xor, Bool.false_xor, Bool.xor_false, Bool.xor_true, tyD, isiB, String.reduceBEq, String.reduceEq, reduceCtorEq, Bool.or_false, Bool.false_or, Bool.true_or, Bool.or_true, Bool.false_and, Bool.and_false, Bool.true_and, Bool.and_true, or_true, true_or, or_false, false_or, true_and, and_true, Bool.not_true, Bool.not_false, if_true, if_false, Bool.false_eq_true, eqD, okD])
local macro_rules | `(tactic| walk_at "sw") => `(tactic| try simp only [wZipM, aSrtB_ref, aMulB_int, aMulB_ref, wChain, wRev, wPar3, wSeq, wRet, wRetN, wAsg, wDrop, wIfS, wNext, wPar, wCB, wBM, wCons, wNil, wOp, wUn, wV, wC, wTup, wLst, wCall, wB, Ab.wTru, Ab.wNot, wAnd, wOr, wAndV, wOrV, wNotV, wIf, wFor, wSeqI, wRng1, wRng2, wZip, wLc, wLcX, wSl, wON, wOS, gN, gT, gsCons, gsNil, wYes, wDK, wDT, List.map_cons, List.map_nil, List.length_cons, List.length_nil, List.cons_append, List.nil_append, List.replicate_succ, List.replicate_zero, List.append_nil, List.set_cons_zero, List.set_cons_succ, get0, getS, ex_some2, ex_some, ex_bl, aIx, aSub, aI, aIC, aAdd, aMod, aDiv, aMul, aNeg, atI0, atI1, atI2, atI3, aAbs, aMax, aMin, aLen, aLe, aLt, aGt, aGe, aIs, aOrd, aIsN, aNotN, isNonD, aTuple, aList, aInt, aAll, aAny, aBls, aSum, aSl, truA, itemsA, aApp, aEq, aNe, wipeA, Nat.reduceAdd, Nat.reduceSub, if_true, if_false, Bool.false_eq_true, true_and, and_true])
local macro_rules | `(tactic| walk_at "st") => `(tactic| try simp only [wZipM, aSrtB_ref, aMulB_int, aMulB_ref, wChain, wRev, wPar3, wSeq, wRet, wRetN, wAsg, wDrop, wIfS, wNext, wPar, wCB, wBM, wCons, wNil, wOp, wUn, wV, wC, wTup, wLst, wCall, wB, Ab.wTru, Ab.wNot, wAnd, wOr, wAndV, wOrV, wNotV, wIf, wFor, wSeqI, wRng1, wRng2, wZip, wLc, wLcX, wSl, wON, wOS, gN, gT, gsCons, gsNil, wYes, wDK, wDT, List.map_cons, List.map_nil, List.length_cons, List.length_nil, List.cons_append, List.nil_append, List.replicate_succ, List.replicate_zero, List.append_nil, List.set_cons_zero, List.set_cons_succ, get0, getS, ex_some2, ex_some, ex_bl, aIx_tup, aIx_scr, aSub, aI, aIC, aAdd, aMod, aDiv, aMul, aNeg, atI0, atI1, atI2, atI3, aAbs, aMax, aMin, aLen, aLe, aLt, aGt, aGe, aIs, aOrd, aIsN, aNotN, isNonD, aTuple, aList, aInt, aIsi, aAll, aAny, aBls, aSum, aSl, truA, itemsA, aApp, aEq, aNe, wipeA, Nat.reduceAdd, Nat.reduceSub, if_true, if_false, Bool.false_eq_true, true_and, and_true])
def bads1 : List Str := ["100 1,1 1 1", "1 200,1 1 1", "1 1,200 1 1", "1 1,1 10 1", "1 1,1 1 10", "1 1,1 1 ", "01 1,1 1 1"]
def bads2 : List Str := ["1 1,1 1 --", "1 1 1 1", "1 1,1,1 1 1", "1  1,1 1 1", " 1 1,1 1 1", "1 1,1 1 1 ", "-1 1,1 1 1", "1 1,1 - 1"]
theorem bads_ok : ((bads1 ++ bads2).all fun x => !chk (LL (x ++ Str.ofString "\n")) && decide ((LL x).length ≤ 20) && (LL x).all fun c => decide (c < 1000)) = true := by decide +kernel
theorem bad_of {x : Str} (h : x ∈ bads1 ∨ x ∈ bads2) : rdF (x ++ Str.ofString "\n") = none ∧ Sm 10000 (x ++ Str.ofString "\n") ∧ x.length + (Str.ofString "\n").length ≤ sizeLine := by
  have k := List.all_eq_true.mp bads_ok x (List.mem_append.mpr h)
  simp only [Bool.and_eq_true, Bool.not_eq_true'] at k
  obtain ⟨⟨k1, k2⟩, k3⟩ := k
  have k2 := of_decide_eq_true k2
  have e : LL (Str.ofString "\n") = [10] := by decide +kernel
  refine ⟨rd_bad k1, ⟨fun c hc => ?_, ?_⟩, ?_⟩
  · rw [LL_app, e] at hc
    rcases List.mem_append.mp hc with z | z
    · exact of_decide_eq_true (List.all_eq_true.mp k3 c z)
    · rw [List.mem_singleton.mp z]; decide
  · rw [LL_app, e, List.length_append]
    show _ + 1 ≤ 10000
    omega
  · refine Nat.le_trans (m := 100) ?_ (by decide)
    rw [LL_len, LL_len, e]
    show _ + 1 ≤ 100
    omega
section
variable {K : PySem.W.Frag} {S S' : Sto} {Q : AK} {E : XA}
theorem bad_loop1 (X : ExT K) {A : AEnds} {tw : Addr} {r : List (Option D)} {y0 y1 y2 y3 y4 y5 y6 y7 y8 y9 y10 y11 : Option D} (nx : ∀ y9 S', Kp [] S S' → b_law_20 K A [y0, y1, y2, y3, y4, y5, y6, y7, y8, y9, y10, y11] S') : b_law_17 K A [y0, y1, y2, y3, y4, y5, y6, y7, y8, y9, y10, y11] S := by
  unfold b_law_17
  walk_at "st"
  refine ⟨sz (by decide), ?_⟩
  refine loopA_inv (xs := bads1.map D.str) (fun j ρ S' => ∃ y9, ρ = [y0, y1, y2, y3, y4, y5, y6, y7, y8, y9, y10, y11] ∧ Kp [] S S') ⟨_, rfl, Kp.refl⟩ (fun _ _ _ _ => trivial) ?_ ?_
  · rintro j d ρ S1 N hd hN ⟨y9, rfl, k1⟩
    rw [List.getElem?_map, Option.map_eq_some_iff] at hd
    obtain ⟨x, hx, rfl⟩ := hd
    obtain ⟨b1, b2, b3⟩ := bad_of (.inl (List.mem_of_getElem? hx))
    walk_at "st"
    unfold b_law_18
    walk_at "st"
    refine ⟨b3, law_read_ok X b2 fun S2 k2 => ?_⟩
    rw [b1]
    refine ite_no (by decide) ?_
    exact hN _ _ ⟨_, rfl, k1.trans k2⟩
  · rintro ρ S1 ⟨y9, rfl, k1⟩
    exact nx y9 S1 k1
theorem vT {t : Th} (h : VTh t) : VBd [t] := ⟨fun x hx => by rw [List.mem_singleton.mp hx]; exact h, by simp, by simp⟩
theorem sm_lit {x : Str} (h : (decide ((LL x).length ≤ 100) && (LL x).all fun c => decide (c < 1000)) = true) : Sm 10000 x := by
  rw [Bool.and_eq_true] at h
  have h1 := of_decide_eq_true h.1
  exact ⟨fun c hc => of_decide_eq_true (List.all_eq_true.mp h.2 c hc), by omega⟩
theorem lits_ok (X : ExT K) {A : AEnds} {ρ : DEnv} (nx : ∀ S', Kp [] S S' → A.nx ρ S') : b_law_24 K A ρ S := by
  have r1 : rdF (Str.ofString "99 199,0 9 9\n") = some [⟨99, (199, 0), 9, some 9⟩] := by
    rw [show Str.ofString "99 199,0 9 9\n" = txS [⟨99, (199, 0), 9, some 9⟩] from str_ext (by decide +kernel)]
    exact rd_tx (vT ⟨by decide, by decide, by decide, fun g hg => by cases hg; decide⟩)
  have r2 : rdF (Str.ofString "0 0,0 0 -\n") = some [⟨0, (0, 0), 0, none⟩] := by
    rw [show Str.ofString "0 0,0 0 -\n" = txS [⟨0, (0, 0), 0, none⟩] from str_ext (by decide +kernel)]
    exact rd_tx (vT ⟨by decide, by decide, by decide, fun g hg => by cases hg⟩)
  have r3 : rdF (Str.ofString "") = some [] := by
    rw [show Str.ofString "" = txS [] from str_ext (by decide +kernel)]
    exact rd_tx ⟨by simp, by simp, by simp⟩
  have r4 : rdF (Str.ofString "\n") = none := rd_bad (by decide +kernel)
  unfold b_law_24
  walk_at "st"
  refine law_read_ok X (sm_lit (by decide +kernel)) fun S1 k1 => ?_
  rw [r1]
  refine ⟨by decide, by decide, by decide, rfl, rfl, ite_no (by decide +kernel) ?_⟩
  unfold b_law_26
  walk_at "st"
  refine law_read_ok X (sm_lit (by decide +kernel)) fun S2 k2 => ?_
  rw [r2]
  refine ⟨by decide, by decide, by decide, rfl, rfl, ite_no (by decide +kernel) ?_⟩
  unfold b_law_28
  walk_at "st"
  refine law_read_ok X (sm_lit (by decide +kernel)) fun S3 k3 => ?_
  rw [r3]
  refine ⟨by decide, rfl, rfl, ite_no (by decide +kernel) ?_⟩
  refine law_read_ok X (sm_lit (by decide +kernel)) fun S4 k4 => ?_
  rw [r4]
  refine ite_no (by decide) ?_
  exact nx S4 (((k1.trans k2).trans k3).trans k4)
theorem bad_loop2 (X : ExT K) {A : AEnds} {y0 y1 y2 y3 y4 y5 y6 y7 y8 y9 y10 y11 : Option D} (nx : ∀ y9 y10 S', Kp [] S S' → A.nx [y0, y1, y2, y3, y4, y5, y6, y7, y8, y9, y10, y11] S') : b_law_20 K A [y0, y1, y2, y3, y4, y5, y6, y7, y8, y9, y10, y11] S := by
  unfold b_law_20
  walk_at "st"
  refine ⟨sz (by decide), fun p hp => ?_⟩
  have k0 : Kp [] S _ := Kp.new hp (o := .lst [.str "1 1,1 1 --", .str "1 1 1 1", .str "1 1,1,1 1 1", .str "1  1,1 1 1"])
  have e0 : put S p (.lst [.str "1 1,1 1 --", .str "1 1 1 1", .str "1 1,1,1 1 1", .str "1  1,1 1 1"]) p = _ := put_same
  generalize put S p (.lst [.str "1 1,1 1 --", .str "1 1 1 1", .str "1 1,1,1 1 1", .str "1  1,1 1 1"]) = S0 at k0 e0 ⊢
  unfold b_law_21
  walk_at "st"
  refine ⟨sz (by decide), fun p1 hp1 => ?_⟩
  have k1 := k0.trans (Kp.new hp1 (o := .lst [.str " 1 1,1 1 1", .str "1 1,1 1 1 ", .str "-1 1,1 1 1", .str "1 1,1 - 1"]))
  have e1 : put S0 p1 (.lst [.str " 1 1,1 1 1", .str "1 1,1 1 1 ", .str "-1 1,1 1 1", .str "1 1,1 - 1"]) p = _ := (Kp.new hp1 : Kp [] _ _) p _ e0 (by simp)
  have e2 : put S0 p1 (.lst [.str " 1 1,1 1 1", .str "1 1,1 1 1 ", .str "-1 1,1 1 1", .str "1 1,1 - 1"]) p1 = _ := put_same
  generalize put S0 p1 (.lst [.str " 1 1,1 1 1", .str "1 1,1 1 1 ", .str "-1 1,1 1 1", .str "1 1,1 - 1"]) = S1 at k1 e1 e2 ⊢
  simp only [e1, e2]
  refine ⟨sz (by decide), fun p2 hp2 => ?_⟩
  have k2 := k1.trans (Kp.new hp2 (o := .lst (bads2.map D.str)))
  have e3 : put S1 p2 (.lst (bads2.map D.str)) p2 = some (.lst (bads2.map D.str)) := put_same
  simp only [put_same]
  refine loopA_inv (xs := bads2.map D.str) (fun j ρ S' => ∃ y9, ρ = [y0, y1, y2, y3, y4, y5, y6, y7, y8, y9, some (.ref p), y11] ∧ Kp [] (put S1 p2 (.lst (bads2.map D.str))) S') ⟨_, rfl, Kp.refl⟩ (fun _ _ S' ⟨_, _, k⟩ => k p2 _ e3 (by simp)) ?_ ?_
  · rintro j d ρ S3 N hd hN ⟨y9, rfl, k3⟩
    rw [List.getElem?_map, Option.map_eq_some_iff] at hd
    obtain ⟨x, hx, rfl⟩ := hd
    obtain ⟨b1, b2, b3⟩ := bad_of (.inr (List.mem_of_getElem? hx))
    walk_at "st"
    unfold b_law_22
    walk_at "st"
    refine ⟨b3, law_read_ok X b2 fun S4 k4 => ?_⟩
    rw [b1]
    refine ite_no (by decide) ?_
    exact hN _ _ ⟨_, rfl, k3.trans k4⟩
  · rintro ρ S3 ⟨y9, rfl, k3⟩
    exact lits_ok X fun S4 k4 => nx y9 _ S4 ((k2.trans k3).trans k4)
end
end L
set_option Elab.async false
set_option linter.all false
set_option maxRecDepth 100000
set_option maxHeartbeats 4000000
namespace L
open PySem PySem.Spec PyProof.Rows L2 Ab
local macro_rules | `(tactic| walk_at "sx") => `(tactic| try simp only [wZipM, aSrtB_ref, aMulB_int, aMulB_ref, wChain, wRev, wPar3, wSeq, wRet, wRetN, wAsg, wDrop, wIfS, wNext, wPar, wCB, wBM, wCons, wNil, wOp, wUn, wV, wC, wTup, wLst, wCall, wB, Ab.wTru, Ab.wNot, wAnd, wOr, wAndV, wOrV, wNotV, wIf, wFor, wSeqI, wRng1, wRng2, wZip, wLc, wLcX, wSl, wON, wOS, gN, gT, gsCons, gsNil, wYes, wDK, wDT, List.map_cons, List.map_nil, List.length_cons, List.length_nil, List.cons_append, List.nil_append, List.replicate_succ, List.replicate_zero, List.append_nil, List.set_cons_zero, List.set_cons_succ, get0, getS, ex_some2, ex_some, ex_bl, aIx, aSub, aI, aIC, aAdd, aMod, aDiv, aMul, aNeg, atI0, atI1, atI2, atI3, aAbs, aMax, aMin, aLen, aLe, aLt, aGt, aGe, aIs, aOrd, aIsN, aNotN, isNonD, aTuple, aList, aInt, aIsi, aAll, aAny, aBls, aSum, aSl, truA, itemsA, aApp, aEq, aNe, wipeA, Nat.reduceAdd, Nat.reduceSub, if_true, if_false, Bool.false_eq_true, true_and, and_true])
local macro_rules | `(tactic| walk_at "sy") => `(tactic| try simp only [Bool.true_xor, Bool.false_xor, Bool.xor_false, Bool.xor_true, tyD, isiB, String.reduceBEq, String.reduceEq, reduceCtorEq, Bool.or_false, Bool.false_or, Bool.true_or, Bool.or_true, Bool.false_and, Bool.and_false, Bool.true_and, Bool.and_true, or_true, true_or, or_false, false_or, true_and, and_true, Bool.not_true, Bool.not_false, if_true, if_false, Bool.false_eq_true, eqD, okD])
local macro_rules | `(tactic| walk_at "sw") => `(tactic| try simp only [wZipM, aSrtB_ref, aMulB_int, aMulB_ref, wChain, wRev, wPar3, wSeq, wRet, wRetN, wAsg, wDrop, wIfS, wNext, wPar, wCB, wBM, wCons, wNil, wOp, wUn, wV, wC, wTup, wLst, wCall, wB, Ab.wTru, Ab.wNot, wAnd, wOr, wAndV, wOrV, wNotV, wIf, wFor, wSeqI, wRng1, wRng2, wZip, wLc, wLcX, wSl, wON, wOS, gN, gT, gsCons, gsNil, wYes, wDK, wDT, List.map_cons, List.map_nil, List.length_cons, List.length_nil, List.cons_append, List.nil_append, List.replicate_succ, List.replicate_zero, List.append_nil, List.set_cons_zero, List.set_cons_succ, get0, getS, ex_some2, ex_some, ex_bl, aIx, aSub, aI, aIC, aAdd, aMod, aDiv, aMul, aNeg, atI0, atI1, atI2, atI3, aAbs, aMax, aMin, aLen, aLe, aLt, aGt, aGe, aIs, aOrd, aIsN, aNotN, isNonD, aTuple, aList, aInt, aAll, aAny, aBls, aSum, aSl, truA, itemsA, aApp, aEq, aNe, wipeA, Nat.reduceAdd, Nat.reduceSub, if_true, if_false, Bool.false_eq_true, true_and, and_true])
local macro_rules | `(tactic| walk_at "st") => `(tactic| try simp only [wZipM, aSrtB_ref, aMulB_int, aMulB_ref, wChain, wRev, wPar3, wSeq, wRet, wRetN, wAsg, wDrop, wIfS, wNext, wPar, wCB, wBM, wCons, wNil, wOp, wUn, wV, wC, wTup, wLst, wCall, wB, Ab.wTru, Ab.wNot, wAnd, wOr, wAndV, wOrV, wNotV, wIf, wFor, wSeqI, wRng1, wRng2, wZip, wLc, wLcX, wSl, wON, wOS, gN, gT, gsCons, gsNil, wYes, wDK, wDT, List.map_cons, List.map_nil, List.length_cons, List.length_nil, List.cons_append, List.nil_append, List.replicate_succ, List.replicate_zero, List.append_nil, List.set_cons_zero, List.set_cons_succ, get0, getS, ex_some2, ex_some, ex_bl, aIx_tup, aIx_scr, aSub, aI, aIC, aAdd, aMod, aDiv, aMul, aNeg, atI0, atI1, atI2, atI3, aAbs, aMax, aMin, aLen, aLe, aLt, aGt, aGe, aIs, aOrd, aIsN, aNotN, isNonD, aTuple, aList, aInt, aIsi, aAll, aAny, aBls, aSum, aSl, truA, itemsA, aApp, aEq, aNe, wipeA, Nat.reduceAdd, Nat.reduceSub, if_true, if_false, Bool.false_eq_true, true_and, and_true])
/-! plain facts of texts put together -/
theorem spl_end {b : List Th} (v : ∀ t ∈ b, VTh t) (r : List Nat) : spl 10 (LL (txS b) ++ r) = b.map lnL ++ spl 10 r := by
  rw [LL_tx]
  unfold endL
  induction b with
  | nil => rfl
  | cons t b ih =>
    rw [List.map_cons, List.flatMap_cons, List.append_assoc, List.append_assoc]
    show spl 10 (lnL t ++ 10 :: (List.flatMap (fun l => l ++ [10]) (List.map lnL b) ++ r)) = _
    rw [spl_app (fun z => by have := ln_free (v t (by simp)) z; omega), ih fun x hx => v x (by simp [hx])]
    rfl
theorem rd_cut {b : List Th} {t : Th} (v : ∀ x ∈ b ++ [t], VTh x) {x : Str} (e : LL x = LL (txS b) ++ lnL t) : rdF x = none := by
  refine rd_bad ?_
  have vt := v t (by simp)
  have e1 : spl 10 (LL x) = b.map lnL ++ [lnL t] := by
    rw [e, spl_end (fun x hx => v x (by simp [hx])), spl_one fun z => ?_]
    have := ln_free vt z; omega
  unfold chk
  rw [e1, List.reverse_append]
  have ne : lnL t ≠ [] := by unfold lnL; simp
  show (match lnL t :: (b.map lnL).reverse with
    | [] :: ls => ls.all chkL
    | _ => false) = false
  cases h : lnL t with
  | nil => exact absurd h ne
  | cons a r => rfl
theorem rd_rev {b : List Th} (v : VBd b) : rdF (txS b.reverse) = if b.length < 2 then some b else none := by
  match b, v with
  | [], v => exact rd_tx v
  | [t], v => exact rd_tx v
  | x :: y :: r, v =>
    rw [if_neg (by simp)]
    refine rd_tx' (fun t ht => v.1 t (List.mem_reverse.mp ht)) fun h => ?_
    have h1 := (List.pairwise_cons.mp (List.pairwise_reverse.mp h)).1 y (by simp)
    have h2 := (List.pairwise_cons.mp v.2.1).1 y (by simp)
    omega
theorem rd_twice {b : List Th} {t : Th} (v : VBd b) (h : t ∈ b) : rdF (txS (b ++ [t])) = none := by
  refine rd_tx' (fun x hx => ?_) fun p => ?_
  · rcases List.mem_append.mp hx with z | z
    · exact v.1 x z
    · rw [List.mem_singleton.mp z]; exact v.1 t h
  · have := (List.pairwise_append.mp p).2.2 t h t (by simp)
    omega
theorem rd_swap {b : List Th} (v : VBd b) (n : Nat) (hn : n ≤ b.length) : rdF (txS (b.drop n ++ b.take n)) = if n = 0 ∨ n = b.length then some b else none := by
  by_cases h : n = 0 ∨ n = b.length
  · rw [if_pos h]
    have e : b.drop n ++ b.take n = b := by
      rcases h with h | h
      · subst h; simp
      · subst h; simp
    rw [e]
    exact rd_tx v
  · rw [if_neg h]
    refine rd_tx' (fun x hx => ?_) fun p => ?_
    · rcases List.mem_append.mp hx with z | z
      · exact v.1 x (List.mem_of_mem_drop z)
      · exact v.1 x (List.mem_of_mem_take z)
    · have h1 : n < b.length := by omega
      have h0 : 0 < n := by omega
      have a := (List.pairwise_append.mp p).2.2 (b[n]'h1) (List.mem_drop_iff_getElem.mpr ⟨0, by omega, by simp⟩) (b[0]'(by omega)) (List.mem_take_iff_getElem.mpr ⟨0, by omega, rfl⟩)
      have c := (List.pairwise_iff_getElem.mp v.2.1) 0 n (by omega) h1 h0
      omega
theorem okO {o : Option (List Th)} (h : ∀ b, o = some b → VBd b) : okD 8 (bdO o) = true := by
  cases o with
  | none => rfl
  | some b => exact okBd (h b rfl).1
theorem okR {x : Str} : okD 8 (bdO (rdF x)) = true := okO fun b h => (rd_some h).1
end L
set_option Elab.async false
set_option linter.all false
set_option maxRecDepth 100000
set_option maxHeartbeats 4000000
namespace L
open PySem PySem.Spec PyProof.Rows L2 Ab
local macro_rules | `(tactic| walk_at "sx") => `(tactic| try simp only [wZipM, aSrtB_ref, aMulB_int, aMulB_ref, wChain, wRev, wPar3, wSeq, wRet, wRetN, wAsg, wDrop, wIfS, wNext, wPar, wCB, wBM, wCons, wNil, wOp, wUn, wV, wC, wTup, wLst, wCall, wB, Ab.wTru, Ab.wNot, wAnd, wOr, wAndV, wOrV, wNotV, wIf, wFor, wSeqI, wRng1, wRng2, wZip, wLc, wLcX, wSl, wON, wOS, gN, gT, gsCons, gsNil, wYes, wDK, wDT, List.map_cons, List.map_nil, List.length_cons, List.length_nil, List.cons_append, List.nil_append, List.replicate_succ, List.replicate_zero, List.append_nil, List.set_cons_zero, List.set_cons_succ, get0, getS, ex_some2, ex_some, ex_bl, aIx, aSub, aI, aIC, aAdd, aMod, aDiv, aMul, aNeg, atI0, atI1, atI2, atI3, aAbs, aMax, aMin, aLen, aLe, aLt, aGt, aGe, aIs, aOrd, aIsN, aNotN, isNonD, aTuple, aList, aInt, aIsi, aAll, aAny, aBls, aSum, aSl, truA, itemsA, aApp, aEq, aNe, wipeA, Nat.reduceAdd, Nat.reduceSub, if_true, if_false, Bool.false_eq_true, true_and, and_true])
local macro_rules | `(tactic| walk_at "sy") => `(tactic| try simp only [Bool.true_xor, Bool.false_xor, Bool.xor_false, Bool.xor_true, tyD, isiB, String.reduceBEq, String.reduceEq, reduceCtorEq, Bool.or_false, Bool.false_or, Bool.true_or, Bool.or_true, Bool.false_and, Bool.and_false, Bool.true_and, Bool.and_true, or_true, true_or, or_false, false_or, true_and, and_true, Bool.not_true, Bool.not_false, if_true, if_false, Bool.false_eq_true, eqD, okD])
local macro_rules | `(tactic| walk_at "sw") => `(tactic| try simp only [wZipM, aSrtB_ref, aMulB_int, aMulB_ref, wChain, wRev, wPar3, wSeq, wRet, wRetN, wAsg, wDrop, wIfS, wNext, wPar, wCB, wBM, wCons, wNil, wOp, wUn, wV, wC, wTup, wLst, wCall, wB, Ab.wTru, Ab.wNot, wAnd, wOr, wAndV, wOrV, wNotV, wIf, wFor, wSeqI, wRng1, wRng2, wZip, wLc, wLcX, wSl, wON, wOS, gN, gT, gsCons, gsNil, wYes, wDK, wDT, List.map_cons, List.map_nil, List.length_cons, List.length_nil, List.cons_append, List.nil_append, List.replicate_succ, List.replicate_zero, List.append_nil, List.set_cons_zero, List.set_cons_succ, get0, getS, ex_some2, ex_some, ex_bl, aIx, aSub, aI, aIC, aAdd, aMod, aDiv, aMul, aNeg, atI0, atI1, atI2, atI3, aAbs, aMax, aMin, aLen, aLe, aLt, aGt, aGe, aIs, aOrd, aIsN, aNotN, isNonD, aTuple, aList, aInt, aAll, aAny, aBls, aSum, aSl, truA, itemsA, aApp, aEq, aNe, wipeA, Nat.reduceAdd, Nat.reduceSub, if_true, if_false, Bool.false_eq_true, true_and, and_true])
local macro_rules | `(tactic| walk_at "st") => `(tactic| try simp only [wZipM, aSrtB_ref, aMulB_int, aMulB_ref, wChain, wRev, wPar3, wSeq, wRet, wRetN, wAsg, wDrop, wIfS, wNext, wPar, wCB, wBM, wCons, wNil, wOp, wUn, wV, wC, wTup, wLst, wCall, wB, Ab.wTru, Ab.wNot, wAnd, wOr, wAndV, wOrV, wNotV, wIf, wFor, wSeqI, wRng1, wRng2, wZip, wLc, wLcX, wSl, wON, wOS, gN, gT, gsCons, gsNil, wYes, wDK, wDT, List.map_cons, List.map_nil, List.length_cons, List.length_nil, List.cons_append, List.nil_append, List.replicate_succ, List.replicate_zero, List.append_nil, List.set_cons_zero, List.set_cons_succ, get0, getS, ex_some2, ex_some, ex_bl, aIx_tup, aIx_scr, aSub, aI, aIC, aAdd, aMod, aDiv, aMul, aNeg, atI0, atI1, atI2, atI3, aAbs, aMax, aMin, aLen, aLe, aLt, aGt, aGe, aIs, aOrd, aIsN, aNotN, isNonD, aTuple, aList, aInt, aIsi, aAll, aAny, aBls, aSum, aSl, truA, itemsA, aApp, aEq, aNe, wipeA, Nat.reduceAdd, Nat.reduceSub, if_true, if_false, Bool.false_eq_true, true_and, and_true])
theorem at_last {α : Type} (l : List α) (a : α) : atI (l ++ [a]) (-1) = some a := by
  unfold atI ixN
  rw [if_neg (by decide), List.length_append, List.length_singleton, if_pos (by omega)]
  have e : (-1 + ((l.length + 1 : Nat) : Int)).toNat = l.length := by omega
  rw [e]
  simp
section
variable {K : PySem.W.Frag} {S S' : Sto} {Q : AK} {E : XA}
theorem big_of {x : Str} {n : Nat} (h : Sm n x) (hn : n ≤ 10000) : x.length ≤ sizeLine := Nat.le_trans (by rw [LL_len]; exact Nat.le_trans h.l hn) (show 10000 ≤ sizeLine by decide)
theorem cut_tk {b : List Th} {n : Nat} : cutA (b.map thD) none (some (n : Int)) = (b.take n).map thD := by rw [cutA_to (by omega), Int.toNat_natCast, List.map_take]
theorem cut_dr {b : List Th} {n : Nat} : cutA (b.map thD) (some (n : Int)) none = (b.drop n).map thD := by rw [cutA_from (by omega), Int.toNat_natCast, List.map_drop]
theorem sm_of {b : List Th} (v : ∀ t ∈ b, VTh t) (hl : b.length ≤ 100) : Sm 10000 (txS b) := (tx_sm v hl).mono (by decide)
theorem two_big {x y : Str} (h : Sm 2500 x) (k : Sm 2500 y) : x.length + y.length ≤ sizeLine := Nat.le_trans (by rw [LL_len, LL_len]; have := h.l; have := k.l; omega) (show 10000 ≤ sizeLine by decide)
/-- both parts, exchanged -/
theorem blk14 (X : ExT K) {A : AEnds} {b : List Th} (v : VBd b) {n : Nat} (hn : n ≤ b.length) {y0 y1 y2 y4 y5 y7 y8 y9 y10 y11 : Option D} (nx : ∀ y8 y9 y10 S', Kp [] S S' → A.nx [y0, y1, y2, some (bdD b), y4, y5, some (.int n), y7, y8, y9, y10, y11] S') :
    b_law_14 K A [y0, y1, y2, some (bdD b), y4, y5, some (.int n), y7, y8, y9, y10, y11] S := by
  have vd := v.sub (List.drop_sublist n b)
  have vt := v.sub (List.take_sublist n b)
  unfold b_law_14 bdD
  walk_at "st"
  rw [cut_dr, cut_tk]
  refine written_ok vd.1 (by have := vd.2.2; omega) ?_
  refine written_ok vt.1 (by have := vt.2.2; omega) ?_
  refine ⟨two_big (tx_sm vd.1 vd.2.2) (tx_sm vt.1 vt.2.2), ?_⟩
  rw [tx_app]
  have vv : ∀ t ∈ b.drop n ++ b.take n, VTh t := fun t ht => by
    rcases List.mem_append.mp ht with z | z
    · exact vd.1 t z
    · exact vt.1 t z
  have ll : (b.drop n ++ b.take n).length ≤ 100 := by
    have := v.2.2
    rw [List.length_append, List.length_drop, List.length_take]
    omega
  unfold b_law_15
  walk_at "st"
  refine law_read_ok X (sm_of vv ll) fun S1 k1 => ?_
  rw [rd_swap v n hn]
  simp only [aIn]
  refine ⟨by decide, rfl, rfl, ?_⟩
  have fin : b_law_17 K A [y0, y1, y2, some (.tup (b.map thD)), y4, y5, some (.int n), y7, some (.str (txS (b.drop n ++ b.take n))), y9, y10, y11] S1 := bad_loop1 X (tw := 0) (r := []) fun y9 S2 k2 => bad_loop2 X fun y9 y10 S3 k3 => nx _ _ _ S3 ((k1.trans k2).trans k3)
  by_cases h : n = 0 ∨ n = b.length
  · refine ⟨_, rfl, ite_yes ?_ ?_⟩
    · simp only [Bool.false_eq_true, if_false, List.any_cons, List.any_nil, eqD, List.length_map, Bool.or_false, Bool.or_eq_true, beq_iff_eq]
      omega
    · rw [if_pos h]
      refine ⟨okBd v.1, okBd v.1, ite_no ?_ fin⟩
      have := eqD_refl (okBd v.1)
      show ¬(!eqD (bdD b) (bdD b)) = true
      rw [this]; decide
  · refine ⟨_, rfl, ite_no ?_ ?_⟩
    · simp only [Bool.false_eq_true, if_false, List.any_cons, List.any_nil, eqD, List.length_map, Bool.or_false, Bool.or_eq_true, beq_iff_eq]
      omega
    · rw [if_neg h]
      exact ⟨rfl, rfl, ite_no (by decide) fin⟩
/-- the last line twice, a line without its end -/
theorem blk12 (X : ExT K) {A : AEnds} {b : List Th} (v : VBd b) {n : Nat} (hn : n ≤ b.length) {rl : Addr} (er : S rl = some (.lst ((b.map rwS).map D.str))) {y0 y1 y2 y7 y8 y9 y10 y11 : Option D} (nx : ∀ y8 y9 y10 S', Kp [] S S' → A.nx [y0, y1, y2, some (bdD b), some (.ref rl), some (.str (txS b)), some (.int n), y7, y8, y9, y10, y11] S') :
    b_law_12 K A [y0, y1, y2, some (bdD b), some (.ref rl), some (.str (txS b)), some (.int n), y7, y8, y9, y10, y11] S := by
  have fin : ∀ S1, Kp [] S S1 → b_law_14 K A [y0, y1, y2, some (bdD b), some (.ref rl), some (.str (txS b)), some (.int n), y7, y8, y9, y10, y11] S1 := fun S1 k1 => blk14 X v hn fun y8 y9 y10 S2 k2 => nx _ _ _ S2 (k1.trans k2)
  unfold b_law_12
  rcases List.eq_nil_or_concat b with rfl | ⟨c, t, rfl⟩
  · walk_at "st"
    exact fin S Kp.refl
  rw [List.concat_eq_append] at *
  have vt := v.1 t (by simp)
  have hl := v.2.2
  have ht : t ∈ c ++ [t] := by simp
  have e1 : ((c ++ [t]).map rwS).map D.str = (c.map rwS).map D.str ++ [.str (rwS t)] := by simp
  have e2 : txS (c ++ [t]) ++ rwS t = txS ((c ++ [t]) ++ [t]) := str_ext (by
    rw [LL_app, tx_snoc (c ++ [t]) t]
    unfold rwS
    rw [LL_app]
    rfl)
  have s1 := tx_sm v.1 hl
  have s2 : Sm 10000 (txS ((c ++ [t]) ++ [t])) := by
    rw [← e2]
    refine ⟨fun x hx => ?_, ?_⟩
    · rw [LL_app] at hx
      rcases List.mem_append.mp hx with z | z
      · exact s1.c x z
      · unfold rwS at z
        rw [LL_app] at z
        rcases List.mem_append.mp z with z | z
        · have := ln_free vt z; omega
        · have z : x ∈ [10] := z
          rw [List.mem_singleton.mp z]; decide
    · have := ln_len vt
      have e3 : (LL (rwS t)).length = (lnL t).length + 1 := by
        unfold rwS
        rw [LL_app, List.length_append]
        rfl
      rw [LL_app, List.length_append, e3]
      have := s1.l
      omega
  have lt : (rwS t).length ≤ 100 := by
    rw [LL_len]
    unfold rwS
    rw [LL_app, List.length_append]
    show (lnL t).length + 1 ≤ 100
    have := ln_len vt
    omega
  unfold bdD at *
  walk_at "st"
  refine ite_yes (by cases c <;> rfl) ?_
  simp only [aIx, er]
  refine ⟨.str (rwS t), ?_, ?_, ?_⟩
  · rw [e1]
    exact at_last _ _
  · refine Nat.le_trans (m := 10000) ?_ (by decide)
    rw [LL_len (txS (c ++ [t]))]
    have := s1.l
    omega
  rw [e2]
  refine law_read_ok X s2 fun S1 k1 => ?_
  rw [rd_twice v ht]
  refine ite_no (by decide) ?_
  simp only [wSlS]
  walk_at "st"
  simp only [aSlS]
  refine ⟨big_of s1 (by decide), ?_⟩
  have e4 : LL (cutS (txS (c ++ [t])) none (some (-1))) = LL (txS c) ++ lnL t := by
    rw [LL_cutLast, tx_snoc, ← List.append_assoc, List.dropLast_concat]
  have s3 : Sm 10000 (cutS (txS (c ++ [t])) none (some (-1))) := by
    have e5 : LL (txS (c ++ [t])) = (LL (txS c) ++ lnL t) ++ [10] := by rw [tx_snoc, List.append_assoc]
    refine ⟨fun x hx => s1.c x ?_, ?_⟩
    · rw [e5, List.mem_append]
      rw [e4] at hx
      exact .inl hx
    · have := s1.l
      rw [e5, List.length_append] at this
      rw [e4]
      omega
  refine law_read_ok X s3 fun S2 k2 => ?_
  rw [rd_cut v.1 e4]
  refine ite_no (by decide) ?_
  exact fin S2 (k1.trans k2)
end
end L
set_option Elab.async false
set_option linter.all false
set_option maxRecDepth 100000
set_option maxHeartbeats 4000000
namespace L
open PySem PySem.Spec PyProof.Rows L2 Ab
local macro_rules | `(tactic| walk_at "sx") => `(tactic| try simp only [wZipM, aSrtB_ref, aMulB_int, aMulB_ref, wChain, wRev, wPar3, wSeq, wRet, wRetN, wAsg, wDrop, wIfS, wNext, wPar, wCB, wBM, wCons, wNil, wOp, wUn, wV, wC, wTup, wLst, wCall, wB, Ab.wTru, Ab.wNot, wAnd, wOr, wAndV, wOrV, wNotV, wIf, wFor, wSeqI, wRng1, wRng2, wZip, wLc, wLcX, wSl, wON, wOS, gN, gT, gsCons, gsNil, wYes, wDK, wDT, List.map_cons, List.map_nil, List.length_cons, List.length_nil, List.cons_append, List.nil_append, List.replicate_succ, List.replicate_zero, List.append_nil, List.set_cons_zero, List.set_cons_succ, get0, getS, ex_some2, ex_some, ex_bl, aIx, aSub, aI, aIC, aAdd, aMod, aDiv, aMul, aNeg, atI0, atI1, atI2, atI3, aAbs, aMax, aMin, aLen, aLe, aLt, aGt, aGe, aIs, aOrd, aIsN, aNotN, isNonD, aTuple, aList, aInt, aIsi, aAll, aAny, aBls, aSum, aSl, truA, itemsA, aApp, aEq, aNe, wipeA, Nat.reduceAdd, Nat.reduceSub, if_true, if_false, Bool.false_eq_true, true_and, and_true])
local macro_rules | `(tactic| walk_at "sy") => `(tactic| try simp only [Bool.true_xor, Bool.false_xor, Bool.xor_false, Bool.xor_true, tyD, isiB, String.reduceBEq, String.reduceEq, reduceCtorEq, Bool.or_false, Bool.false_or, Bool.true_or, Bool.or_true, Bool.false_and, Bool.and_false, Bool.true_and, Bool.and_true, or_true, true_or, or_false, false_or, true_and, and_true, Bool.not_true, Bool.not_false, if_true, if_false, Bool.false_eq_true, eqD, okD])
local macro_rules | `(tactic| walk_at "sw") => `(tactic| try simp only [wZipM, aSrtB_ref, aMulB_int, aMulB_ref, wChain, wRev, wPar3, wSeq, wRet, wRetN, wAsg, wDrop, wIfS, wNext, wPar, wCB, wBM, wCons, wNil, wOp, wUn, wV, wC, wTup, wLst, wCall, wB, Ab.wTru, Ab.wNot, wAnd, wOr, wAndV, wOrV, wNotV, wIf, wFor, wSeqI, wRng1, wRng2, wZip, wLc, wLcX, wSl, wON, wOS, gN, gT, gsCons, gsNil, wYes, wDK, wDT, List.map_cons, List.map_nil, List.length_cons, List.length_nil, List.cons_append, List.nil_append, List.replicate_succ, List.replicate_zero, List.append_nil, List.set_cons_zero, List.set_cons_succ, get0, getS, ex_some2, ex_some, ex_bl, aIx, aSub, aI, aIC, aAdd, aMod, aDiv, aMul, aNeg, atI0, atI1, atI2, atI3, aAbs, aMax, aMin, aLen, aLe, aLt, aGt, aGe, aIs, aOrd, aIsN, aNotN, isNonD, aTuple, aList, aInt, aAll, aAny, aBls, aSum, aSl, truA, itemsA, aApp, aEq, aNe, wipeA, Nat.reduceAdd, Nat.reduceSub, if_true, if_false, Bool.false_eq_true, true_and, and_true])
local macro_rules | `(tactic| walk_at "st") => `(tactic| try simp only [wZipM, aSrtB_ref, aMulB_int, aMulB_ref, wChain, wRev, wPar3, wSeq, wRet, wRetN, wAsg, wDrop, wIfS, wNext, wPar, wCB, wBM, wCons, wNil, wOp, wUn, wV, wC, wTup, wLst, wCall, wB, Ab.wTru, Ab.wNot, wAnd, wOr, wAndV, wOrV, wNotV, wIf, wFor, wSeqI, wRng1, wRng2, wZip, wLc, wLcX, wSl, wON, wOS, gN, gT, gsCons, gsNil, wYes, wDK, wDT, List.map_cons, List.map_nil, List.length_cons, List.length_nil, List.cons_append, List.nil_append, List.replicate_succ, List.replicate_zero, List.append_nil, List.set_cons_zero, List.set_cons_succ, get0, getS, ex_some2, ex_some, ex_bl, aIx_tup, aIx_scr, aSub, aI, aIC, aAdd, aMod, aDiv, aMul, aNeg, atI0, atI1, atI2, atI3, aAbs, aMax, aMin, aLen, aLe, aLt, aGt, aGe, aIs, aOrd, aIsN, aNotN, isNonD, aTuple, aList, aInt, aIsi, aAll, aAny, aBls, aSum, aSl, truA, itemsA, aApp, aEq, aNe, wipeA, Nat.reduceAdd, Nat.reduceSub, if_true, if_false, Bool.false_eq_true, true_and, and_true])
section
variable {K : PySem.W.Frag} {S S' : Sto} {Q : AK} {E : XA}
theorem eqStrs (x : Str) : eqD (.str x) (.str x) = true := by rw [eqStr]; exact decide_eq_true rfl
/-- the lines turned about -/
theorem blk9 (X : ExT K) {A : AEnds} {b : List Th} (v : VBd b) {n : Nat} (hn : n ≤ b.length) {rl : Addr} (er : S rl = some (.lst ((b.map rwS).map D.str))) {y0 y1 y2 y7 y8 y9 y10 y11 : Option D} (nx : ∀ y7 y8 y9 y10 S', Kp [] S S' → A.nx [y0, y1, y2, some (bdD b), some (.ref rl), some (.str (txS b)), some (.int n), y7, y8, y9, y10, y11] S') :
    b_law_9 K A [y0, y1, y2, some (bdD b), some (.ref rl), some (.str (txS b)), some (.int n), y7, y8, y9, y10, y11] S := by
  have vr : ∀ t ∈ b.reverse, VTh t := fun t ht => v.1 t (List.mem_reverse.mp ht)
  have e1 : ((b.map rwS).map D.str).reverse = (b.reverse.map rwS).map D.str := by rw [List.map_reverse, List.map_reverse]
  unfold b_law_9
  walk_at "st"
  simp only [wJoin]
  walk_at "st"
  simp only [wRevL]
  walk_at "st"
  simp only [er]
  intro p hp
  unfold aJoin
  refine ⟨b.reverse.map rwS, by show put S p _ p = _; rw [put_same, e1], ?_, ?_⟩
  · have := rows_sum vr
    have e0 : (Str.ofString "").length = 0 := by decide +kernel
    have := v.2.2
    rw [List.length_reverse] at *
    rw [e0]
    omega
  rw [join_rows]
  refine law_read_ok X (sm_of vr (by rw [List.length_reverse]; exact v.2.2)) fun S1 k1 => ?_
  rw [rd_rev v]
  have kk := (Kp.new hp : Kp [] S _).trans k1
  have fin : ∀ y7, b_law_12 K A [y0, y1, y2, some (bdD b), some (.ref rl), some (.str (txS b)), some (.int n), y7, y8, y9, y10, y11] S1 := fun y7 => blk12 X v hn (kk _ _ er (by simp)) fun y8 y9 y10 S2 k2 => nx _ _ _ _ S2 (kk.trans k2)
  unfold b_law_10
  unfold bdD at *
  walk_at "st"
  by_cases h : b.length < 2
  · rw [if_pos h]
    refine ite_yes ?_ ?_
    · rw [List.length_map]
      exact decide_eq_true (by omega)
    refine ⟨okBd v.1, okBd v.1, ite_no ?_ (fin _)⟩
    have := eqD_refl (okBd v.1)
    show ¬(!eqD (bdD b) (bdD b)) = true
    rw [this]; decide
  · rw [if_neg h]
    refine ite_no ?_ ?_
    · rw [List.length_map, decide_eq_true_eq]
      omega
    exact ⟨rfl, rfl, ite_no (by decide) (fin _)⟩
/-- parts -/
theorem blk7 (X : ExT K) {A : AEnds} {b : List Th} (v : VBd b) {n : Nat} (hn : n ≤ b.length) {rl : Addr} (er : S rl = some (.lst ((b.map rwS).map D.str))) {y0 y1 y2 y7 y8 y9 y10 y11 : Option D} (nx : ∀ y7 y8 y9 y10 S', Kp [] S S' → A.nx [y0, y1, y2, some (bdD b), some (.ref rl), some (.str (txS b)), some (.int n), y7, y8, y9, y10, y11] S') :
    b_law_7 K A [y0, y1, y2, some (bdD b), some (.ref rl), some (.str (txS b)), some (.int n), y7, y8, y9, y10, y11] S := by
  have vd := v.sub (List.drop_sublist n b)
  have vt := v.sub (List.take_sublist n b)
  have ok1 := okBd vt.1
  have okt : ∀ {c : List Th} {k : Nat}, (∀ t ∈ c, VTh t) → c.length ≤ 100 → okD k (.str (txS c)) = true := fun w l => (tx_sm w l).ok
  have fin : ∀ S1, Kp [] S S1 → b_law_9 K A [y0, y1, y2, some (bdD b), some (.ref rl), some (.str (txS b)), some (.int n), y7, y8, y9, y10, y11] S1 := fun S1 k1 => blk9 X v hn (k1 _ _ er (by simp)) fun y7 y8 y9 y10 S2 k2 => nx _ _ _ _ S2 (k1.trans k2)
  unfold b_law_7
  unfold bdD at *
  walk_at "st"
  rw [cut_tk, cut_dr]
  refine written_ok (S := S) vt.1 (by have := vt.2.2; omega) ?_
  refine law_read_ok X (sm_of vt.1 vt.2.2) fun S1 k1 => ?_
  rw [rd_tx vt]
  refine ⟨ok1, ok1, ite_no ?_ ?_⟩
  · have := eqD_refl ok1
    show ¬(!eqD (bdD (b.take n)) (.tup ((b.take n).map thD))) = true
    unfold bdD
    rw [this]; decide
  refine written_ok vt.1 (by have := vt.2.2; omega) ?_
  refine written_ok vd.1 (by have := vd.2.2; omega) ?_
  refine ⟨two_big (tx_sm vt.1 vt.2.2) (tx_sm vd.1 vd.2.2), ?_⟩
  rw [tx_app, List.take_append_drop]
  refine ⟨okt v.1 v.2.2, okt v.1 v.2.2, ite_no ?_ (fin S1 k1)⟩
  rw [eqStrs]
  decide
theorem blk5 (X : ExT K) {A : AEnds} {b : List Th} (v : VBd b) {n : Nat} (hn : n ≤ b.length) {rl : Addr} (er : S rl = some (.lst ((b.map rwS).map D.str))) {y0 y1 y2 y7 y8 y9 y10 y11 : Option D} (nx : ∀ y7 y8 y9 y10 S', Kp [] S S' → A.nx [y0, y1, y2, some (bdD b), some (.ref rl), some (.str (txS b)), some (.int n), y7, y8, y9, y10, y11] S') :
    b_law_5 K A [y0, y1, y2, some (bdD b), some (.ref rl), some (.str (txS b)), some (.int n), y7, y8, y9, y10, y11] S := by
  have okt : ∀ {k : Nat}, okD k (.str (txS b)) = true := (tx_sm v.1 v.2.2).ok
  unfold b_law_5
  walk_at "st"
  simp only [wJoin]
  walk_at "st"
  unfold aJoin
  refine ⟨b.map rwS, er, ?_, ?_⟩
  · have := rows_sum v.1
    have e0 : (Str.ofString "").length = 0 := by decide +kernel
    have := v.2.2
    rw [e0]
    omega
  rw [join_rows]
  refine ⟨okt, okt, ite_no (by rw [eqStrs]; decide) ?_⟩
  refine law_read_ok X (sm_of v.1 v.2.2) fun S1 k1 => ?_
  rw [rd_tx v]
  have ok1 := okBd v.1
  refine ⟨ok1, ok1, ite_no ?_ ?_⟩
  · have := eqD_refl ok1
    show ¬(!eqD (bdD b) (bdD b)) = true
    rw [this]; decide
  exact blk7 X v hn (k1 _ _ er (by simp)) fun y7 y8 y9 y10 S2 k2 => nx _ _ _ _ S2 (k1.trans k2)
theorem isbd_v {b : List Th} {m : Nat} {top : Int} (h : IsBd b m top) (ht : top ≤ 100) (hm : m ≤ 100) : VBd b :=
  ⟨fun t htm => by
    obtain ⟨o, i1, i2⟩ := h.ok t htm
    obtain ⟨⟨p1, p2, p3, p4⟩, ⟨r1, r2⟩, g⟩ := o
    refine ⟨by omega, ⟨by omega, by omega⟩, by omega, fun z hz => ?_⟩
    rcases g z hz with h | h | h <;> omega, h.up, by have := h.len; omega⟩
theorem law_ok (X : ExT K) {ns : List Int} {S : Sto} : w_law K [.scr ns] S (fun d _ => d = .bl true) (fun _ _ => False) := by
  unfold w_law wFn b_law
  walk_at "st"
  refine ⟨sz (by decide), fun tw htw => ?_⟩
  have t0 : Tn (put S tw (.lst [])) tw 0 := ⟨[], put_same, by simp⟩
  generalize put S tw (.lst []) = S0 at t0
  unfold b_law_1
  walk_at "st"
  refine ⟨by decide, by decide, ?_⟩
  refine loopA_inv (fun i ρ S' => ∃ y2 y3 y4 y5 y6 y7 y8 y9 y10 y11, ρ = [some (.scr ns), some (.ref tw), y2, y3, y4, y5, y6, y7, y8, y9, y10, y11] ∧ Tn S' tw (100 * i)) ⟨none, none, none, none, none, none, none, none, none, none, rfl, t0⟩ (fun _ _ _ _ => trivial) ?_ ?_
  · rintro i d ρ S1 N hd hN ⟨y2, y3, y4, y5, y6, y7, y8, y9, y10, y11, rfl, t1⟩
    have hi : i < 8 := by
      have := (List.getElem?_eq_some_iff.mp hd).1
      simpa [rangeD] using this
    walk_at "st"
    unfold b_law_2
    walk_at "st"
    refine board_ok (m := 12) t1 (by omega) (by decide) fun b S2 hb k2 t2 => ?_
    have v := isbd_v hb (by decide) (by decide)
    have hl := hb.len
    unfold b_law_3 bdD
    walk_at "st"
    refine lc_all (ys := b) (e := thD) (fun t => .str (rwS t)) (by omega) (fun _ _ => trivial) ?_ ?_
    · intro t ht S3 k3 M1 M2 g1
      walk_at "st"
      exact law_line_ok (v.1 t ht) fun S4 k4 => g1 S4 k4
    intro rl S3 hrl k3 e3
    have e3 : S3 rl = some (.lst ((b.map rwS).map D.str)) := by rw [e3, List.map_map]; rfl
    have t3 : Tn S3 tw (100 * i + 3 + 7 * 12) := by
      obtain ⟨zs, z1, z2⟩ := t2
      exact ⟨zs, k3 _ _ z1 (by simp), z2⟩
    have nrt : rl ≠ tw := by
      obtain ⟨zs, z1, z2⟩ := t2
      exact fun z => by rw [z, z1] at hrl; cases hrl
    unfold b_law_4
    walk_at "st"
    rw [show D.tup (b.map thD) = bdD b from rfl]
    refine written_ok v.1 (by omega) ?_
    refine draw_ok' t3 (by omega) (by rw [List.length_map]; omega) fun at' S4 a1 a2 k4 t4 => ?_
    obtain ⟨n, rfl⟩ := Int.eq_ofNat_of_zero_le a1
    rw [List.length_map] at a2
    refine blk5 X v (n := n) (by omega) (k4 _ _ e3 (by simpa using nrt)) fun z7 z8 z9 z10 S5 k5 => hN _ _ ⟨_, _, _, _, _, _, _, _, _, _, rfl, ?_⟩
    obtain ⟨zs, z1, z2⟩ := t4
    exact ⟨zs, k5 _ _ z1 (by simp), by omega⟩
  · rintro ρ S1 ⟨y2, y3, y4, y5, y6, y7, y8, y9, y10, y11, rfl, t1⟩
    unfold b_law_30
    walk_at "st"
end
end L
set_option Elab.async false
set_option linter.all false
set_option maxRecDepth 100000
set_option maxHeartbeats 4000000
namespace L
open PySem PySem.Spec PyProof.Rows L2 Ab
theorem facts {P : Program} {w : World} {K : PySem.W.Frag} {h : Heap} {mg : Str → Option Value} {f : Addr} (X : K.In h) (G : h.Ns mainGlobals mg) (hfa : mg ("law" : Str) = some (.ref f)) (c : He.SaysD fa fn K) :
    ∃ fd : FuncData, (∀ (s : Shared) (v : Value), BindsTo s fd ⟨[v], []⟩ [("script", v)]) ∧ ∀ base : Heap, K.In base → base.Ns mainGlobals mg → FnOk P w K mg base (L2.CX P w) 7 f fd ["script"] (spA K 1 (w_law K)) := by
  have T : Tx K mg := ⟨⟨h, X, G⟩, c⟩
  obtain ⟨fd, F⟩ : ∃ fd, Fn_law K fd := c.def_ 16 (d := ⟨("law", none), "law", "law", defArgs s_law, defBody s_law, defScope s_law, [], []⟩) rfl
  have e := hfa.symm.trans T.glo_law
  cases e
  have b := FunD.bindsA (ps := ["script"]) F fun _ _ _ _ _ _ us hl => match us, hl with | [_], _ => rfl
  exact ⟨fd, fun s v => b s [v] rfl, fun base _ _ => ok_law T F⟩
end L
open PySem PySem.W PySem.Calls PyProof.Rows
set_option maxRecDepth 100000 in
set_option maxHeartbeats 0 in
theorem PySem.Challenge.cw_neartold_k29_whole_lines_of_boards_holds : PySem.Challenge.rw_neartold_k29_whole_lines_of_boards.Holds := by
  w_on; o_law
  refine HandSHeadRun.head_any (r := OpenLaw.row PySem.Challenge.rw_neartold_k29_whole_lines_of_boards) (q := view (OpenLaw.row PySem.Challenge.rw_neartold_k29_whole_lines_of_boards).prog [27]) (H := L.hk) (ob := L.ob) (M := 4000) (loose := L.names) (d := HandSHeadRun.topDef (OpenLaw.row PySem.Challenge.rw_neartold_k29_whole_lines_of_boards).prog 27) (kwd := []) L.ob_eq
    (by kernel_rfl) (fun s => by kernel_rfl) L.run (by kernel_rfl) (by kernel_rfl) (by kernel_rfl) (by rfl) (by first | assumption | decide +kernel) (by decide +kernel) ⟨rfl, rfl, rfl, rfl, rfl, by decide +kernel⟩ ?hw ?hc
  case hw => w_witness2
  case hc =>
    refine Ab.law_end (l := PySem.Challenge.rw_neartold_k29_whole_lines_of_boards) (k := 7) (x := "script") rfl (by kernel_rfl) ⟨rfl, by decide, by decide⟩ ?F
    intro w mg fa h Y G hmg0
    obtain ⟨K, KX, c⟩ := Y
    have hmg : mg ("law" : PySem.Str) = some (.ref fa) := by
      have e : (HandSHeadRun.topDef (OpenLaw.row PySem.Challenge.rw_neartold_k29_whole_lines_of_boards).prog 27).name = ("law" : PySem.Str) := by kernel_rfl
      rw [← e]
      exact hmg0
    obtain ⟨fd, hb, hF⟩ := L.facts (P := (PySem.Challenge.rw_neartold_k29_whole_lines_of_boards).prog) (w := w) KX G hmg c
    exact ⟨K, fd, _, KX, hb, fun ns hl => L.law_ok (L.Tx.exm_NoText_NoText (⟨⟨_, KX, G⟩, c⟩ : L.Tx K mg)), hF⟩
