import PyProof.Rows.All
import Wide.All
import OpenK.AllK
import Wide.FinOn
import HandS.ForMost
import HandS.ForExc
import HandS.TupAny
import HandS.Style
import HandS.Flow
import HandS.Deep
import HandS.Defaults
import HandS.WordsDict
import HandS.IsInst
import HandS.Conv
import KE.SortKeyHeap
import HandS.MakeKwOnly
import HandS.More
import HandS.ListItems
import HandS.Zip
import KE.GoesEnumKw
import HandS.Head0
import HandS.Head1
import HandS.Head2
import HandS.HeadEnd
import HandS.HeadHook1
import HandS.HeadHook2
import HandS.HeadHook3
import HandS.HeadHook4
import HandS.NamedTupGet
import PyProof.FactsLen
import HandS.TupMul
import KE.GoesEnum
import HandS.Zip0
import HandS.Ends
import PySem.Challenge.RW_onemaster_k12_first_states
import KE.KStateDown
set_option Elab.async false
set_option linter.all false
set_option maxRecDepth 100000
set_option maxHeartbeats 4000000
set_option autoImplicit false
/-! Pc, part A: deep values, the heap of mutable objects, results; what stands for what. -/
namespace Pc
open PySem PySem.Spec PyProof.Rows L2

/-- a Python value as a tree; ref: a mutable object by its place in the heap -/
inductive D where
  | non | bl (b : Bool) | int (i : Int) | str (x : Str) | ty (n : String) | con (a : Addr)
  | tup (xs : List D) | lst (xs : List D) | scr (xs : List D) | ktp (xs : List D) | dct (ks vs : List D) | ref (i : Nat)
/-- a mutable object -/
inductive MO where
  | lst (xs : List D) | dK (kvs : List (Key × D)) | dT (kvs : List (List Key × D)) | dF (kvs : List (Key × D)) | ins (C : Addr) (fs : List (Str × D))
/-- one that never changes any more -/
def MO.fz : MO → Bool
  | .dF _ => true
  | _ => false
abbrev W := List MO
/-- an exception: its class, its fields -/
structure XD where
  cls : Value
  fs : Option (List (Str × D))
inductive Res (α : Type) where
  | ok (a : α) (w : W)
  | exn (x : XD) (w : W)
  | bad
def Res.bind {α β : Type} (r : Res α) (f : α → W → Res β) : Res β := match r with
  | .ok a w => f a w
  | .exn x w => .exn x w
  | .bad => .bad
@[simp] theorem Res.bind_ok {α β : Type} (a : α) (w : W) (f : α → W → Res β) : (Res.ok a w).bind f = f a w := rfl
@[simp] theorem Res.bind_exn {α β : Type} (x : XD) (w : W) (f : α → W → Res β) : (Res.exn x w : Res α).bind f = .exn x w := rfl
@[simp] theorem Res.bind_bad {α β : Type} (f : α → W → Res β) : (Res.bad : Res α).bind f = .bad := rfl
theorem Res.bind_assoc {α β γ : Type} (r : Res α) (f : α → W → Res β) (g : β → W → Res γ) : (r.bind f).bind g = r.bind fun a w => (f a w).bind g := by
  cases r <;> rfl

/-! ### what stands for what -/
mutual
def RepV (K : PySem.W.Frag) (I : List Addr) (F : Hp) : D → V → Prop
  | .non, v => v = .non
  | .bl b, v => v = .bl b
  | .int i, v => v = .int i
  | .str x, v => v = .str x
  | .ty n, v => v = .ty n
  | .con a, v => v = .ref a
  | .tup xs, v => ∃ a vs, v = .ref a ∧ F a = some (.tup vs) ∧ RepL K I F xs vs
  | .lst xs, v => ∃ a vs, v = .ref a ∧ F a = some (.lst vs) ∧ RepL K I F xs vs
  | .scr xs, v => ∃ a vs, v = .ref a ∧ SqL K F a vs ∧ RepL K I F xs vs
  | .ktp xs, v => ∃ a vs, v = .ref a ∧ SqT K F a vs ∧ RepL K I F xs vs
  | .dct ks xs, v => ∃ a kvs, v = .ref a ∧ Rd F a (.dK kvs) ∧ RepL K I F ks (kvs.map fun p => kV p.1) ∧ RepL K I F xs (kvs.map fun p => p.2)
  | .ref i, v => ∃ a, v = .ref a ∧ I[i]? = some a
def RepL (K : PySem.W.Frag) (I : List Addr) (F : Hp) : List D → List V → Prop
  | [], vs => vs = []
  | d :: ds, vs => ∃ v r, vs = v :: r ∧ RepV K I F d v ∧ RepL K I F ds r
end
def RepKs {κ : Type} (K : PySem.W.Frag) (I : List Addr) (F : Hp) : List (κ × D) → List (κ × V) → Prop
  | [], vs => vs = []
  | (k, d) :: ds, vs => ∃ v r, vs = (k, v) :: r ∧ RepV K I F d v ∧ RepKs K I F ds r
def RepO (K : PySem.W.Frag) (I : List Addr) (F : Hp) : MO → HO → Prop
  | .lst xs, u => ∃ vs, u = .lst vs ∧ RepL K I F xs vs
  | .dK kvs, u => ∃ r, u = .dK r ∧ RepKs K I F kvs r
  | .dT kvs, u => ∃ r, u = .dT r ∧ RepKs K I F kvs r
  | .dF kvs, u => ∃ o r, u = .frz o (.dK r) ∧ RepKs K I F kvs r
  | .ins C fs, u => ∃ dx r, u = .ins C dx r ∧ RepKs K I F fs r
/-- the heap of mutable objects w lies in H by the addresses I; F: what never changes any more -/
structure Rel (K : PySem.W.Frag) (I : List Addr) (F : Hp) (G : Hp) (w : W) (H : Hp) : Prop where
  len : I.length = w.length
  nd : I.Nodup
  ob : ∀ (i : Nat) (a : Addr) (o : MO), I[i]? = some a → w[i]? = some o → ∃ u, H a = some u ∧ RepO K I F o u
  fz : ∀ a u, F a = some u → H a = some u
  ap : ∀ (i : Nat) (a : Addr) (o : MO), I[i]? = some a → w[i]? = some o → o.fz = false → F a = none
  gz : ∀ a u, G a = some u → H a = some u
  gf : ∀ a u, G a = some u → F a = none ∧ a ∉ I
structure Ext (I : List Addr) (F : Hp) (I' : List Addr) (F' : Hp) : Prop where
  i : I <+: I'
  f : ∀ a u, F a = some u → F' a = some u
theorem Ext.refl {I : List Addr} {F : Hp} : Ext I F I F := ⟨List.prefix_refl _, fun _ _ h => h⟩
theorem Ext.trans {I I1 I2 : List Addr} {F F1 F2 : Hp} (a : Ext I F I1 F1) (b : Ext I1 F1 I2 F2) : Ext I F I2 F2 := ⟨a.i.trans b.i, fun x u h => b.f x u (a.f x u h)⟩
theorem Ext.get {I I1 : List Addr} {F F1 : Hp} (e : Ext I F I1 F1) {i : Nat} {a : Addr} (h : I[i]? = some a) : I1[i]? = some a := by
  obtain ⟨t, rfl⟩ := e.i
  have hi : i < I.length := (List.getElem?_eq_some_iff.mp h).1
  rw [List.getElem?_append_left hi]; exact h
section
variable {K : PySem.W.Frag} {I I1 I2 : List Addr} {F F1 F2 : Hp}
theorem rd_ext (e : Ext I F I1 F1) {a : Addr} {u : HO} (h : Rd F a u) : Rd F1 a u := by
  rcases h with h | ⟨o, h⟩
  · exact .inl (e.f _ _ h)
  · exact .inr ⟨o, e.f _ _ h⟩
theorem sqT_ext (e : Ext I F I1 F1) {a : Addr} {vs : List V} (h : SqT K F a vs) : SqT K F1 a vs := by
  rcases h with h | h
  · exact .inl (rd_ext e h)
  · exact .inr h
theorem sqL_ext (e : Ext I F I1 F1) {a : Addr} {vs : List V} (h : SqL K F a vs) : SqL K F1 a vs := by
  rcases h with h | h
  · exact .inl (rd_ext e h)
  · exact .inr h
mutual
theorem RepV.ext (e : Ext I F I1 F1) : ∀ (d : D) (v : V), RepV K I F d v → RepV K I1 F1 d v
  | .non, _, h => h
  | .bl _, _, h => h
  | .int _, _, h => h
  | .str _, _, h => h
  | .ty _, _, h => h
  | .con _, _, h => h
  | .tup xs, v, h => by
    simp only [RepV] at h ⊢
    obtain ⟨a, vs, h1, h2, h3⟩ := h
    exact ⟨a, vs, h1, e.f _ _ h2, RepL.ext e xs vs h3⟩
  | .ktp xs, v, h => by
    simp only [RepV] at h ⊢
    obtain ⟨a, vs, h1, h2, h3⟩ := h
    exact ⟨a, vs, h1, sqT_ext e h2, RepL.ext e xs vs h3⟩
  | .lst xs, v, h => by
    simp only [RepV] at h ⊢
    obtain ⟨a, vs, h1, h2, h3⟩ := h
    exact ⟨a, vs, h1, e.f _ _ h2, RepL.ext e xs vs h3⟩
  | .scr xs, v, h => by
    simp only [RepV] at h ⊢
    obtain ⟨a, vs, h1, h2, h3⟩ := h
    exact ⟨a, vs, h1, sqL_ext e h2, RepL.ext e xs vs h3⟩
  | .dct ks xs, v, h => by
    simp only [RepV] at h ⊢
    obtain ⟨a, kvs, h1, h2, h3, h4⟩ := h
    exact ⟨a, kvs, h1, rd_ext e h2, RepL.ext e ks _ h3, RepL.ext e xs _ h4⟩
  | .ref i, v, h => by
    simp only [RepV] at h ⊢
    obtain ⟨a, h1, h2⟩ := h
    exact ⟨a, h1, e.get h2⟩
theorem RepL.ext (e : Ext I F I1 F1) : ∀ (ds : List D) (vs : List V), RepL K I F ds vs → RepL K I1 F1 ds vs
  | [], _, h => h
  | d :: ds, vs, h => by
    simp only [RepL] at h ⊢
    obtain ⟨v, r, h1, h2, h3⟩ := h
    exact ⟨v, r, h1, RepV.ext e d v h2, RepL.ext e ds r h3⟩
end
theorem RepKs.ext {κ : Type} (e : Ext I F I1 F1) : ∀ (ds : List (κ × D)) (vs : List (κ × V)), RepKs K I F ds vs → RepKs K I1 F1 ds vs
  | [], _, h => h
  | (k, d) :: ds, vs, h => by
    simp only [RepKs] at h ⊢
    obtain ⟨v, r, h1, h2, h3⟩ := h
    exact ⟨v, r, h1, RepV.ext e d v h2, RepKs.ext e ds r h3⟩
theorem RepO.ext (e : Ext I F I1 F1) {o : MO} {u : HO} (h : RepO K I F o u) : RepO K I1 F1 o u := by
  cases o with
  | lst xs => obtain ⟨vs, h1, h2⟩ := h; exact ⟨vs, h1, RepL.ext e _ _ h2⟩
  | dK xs => obtain ⟨vs, h1, h2⟩ := h; exact ⟨vs, h1, RepKs.ext e _ _ h2⟩
  | dT xs => obtain ⟨vs, h1, h2⟩ := h; exact ⟨vs, h1, RepKs.ext e _ _ h2⟩
  | dF xs => obtain ⟨o, vs, h1, h2⟩ := h; exact ⟨o, vs, h1, RepKs.ext e _ _ h2⟩
  | ins C xs => obtain ⟨dx, vs, h1, h2⟩ := h; exact ⟨dx, vs, h1, RepKs.ext e _ _ h2⟩
theorem RepL.length : ∀ {ds : List D} {vs : List V}, RepL K I F ds vs → ds.length = vs.length
  | [], vs, h => by simp only [RepL] at h; subst h; rfl
  | d :: ds, vs, h => by
    simp only [RepL] at h
    obtain ⟨v, r, rfl, _, h3⟩ := h
    simp [RepL.length h3]
theorem RepL.nil_iff {vs : List V} : RepL K I F [] vs ↔ vs = [] := by simp only [RepL]
theorem RepL.cons {d : D} {ds : List D} {v : V} {vs : List V} (h : RepV K I F d v) (t : RepL K I F ds vs) : RepL K I F (d :: ds) (v :: vs) := by
  simp only [RepL]; exact ⟨v, vs, rfl, h, t⟩
theorem RepL.append : ∀ {ds es : List D} {vs us : List V}, RepL K I F ds vs → RepL K I F es us → RepL K I F (ds ++ es) (vs ++ us)
  | [], _, _, _, h, t => by simp only [RepL] at h; subst h; exact t
  | d :: ds, es, vs, us, h, t => by
    simp only [RepL] at h
    obtain ⟨v, r, rfl, h2, h3⟩ := h
    exact RepL.cons h2 (RepL.append h3 t)
theorem RepL.get : ∀ {ds : List D} {vs : List V} {i : Nat} {d : D}, RepL K I F ds vs → ds[i]? = some d → ∃ v, vs[i]? = some v ∧ RepV K I F d v
  | [], _, _, _, _, e => by simp at e
  | d :: ds, vs, 0, x, h, e => by
    simp only [RepL] at h
    obtain ⟨v, r, rfl, h2, _⟩ := h
    simp at e; subst e
    exact ⟨v, rfl, h2⟩
  | d :: ds, vs, i + 1, x, h, e => by
    simp only [RepL] at h
    obtain ⟨v, r, rfl, _, h3⟩ := h
    obtain ⟨u, h4, h5⟩ := RepL.get (i := i) h3 (by simpa using e)
    exact ⟨u, by simpa using h4, h5⟩
/-- the other way: what stands there is told -/
theorem RepL.got {ds : List D} {vs : List V} {i : Nat} {v : V} (h : RepL K I F ds vs) (e : vs[i]? = some v) : ∃ d, ds[i]? = some d ∧ RepV K I F d v := by
  have hl := h.length
  have hi : i < ds.length := by rw [hl]; exact (List.getElem?_eq_some_iff.mp e).1
  obtain ⟨u, h1, h2⟩ := h.get (List.getElem?_eq_getElem hi)
  rw [e] at h1; cases h1
  exact ⟨_, List.getElem?_eq_getElem hi, h2⟩
theorem RepL.set : ∀ {ds : List D} {vs : List V} (i : Nat) {d : D} {v : V}, RepL K I F ds vs → RepV K I F d v → RepL K I F (ds.set i d) (vs.set i v)
  | [], vs, _, _, _, h, _ => by simp only [RepL] at h; subst h; simp [RepL]
  | d :: ds, vs, 0, x, u, h, hv => by
    simp only [RepL] at h
    obtain ⟨v, r, rfl, _, h3⟩ := h
    exact RepL.cons hv h3
  | d :: ds, vs, i + 1, x, u, h, hv => by
    simp only [RepL] at h
    obtain ⟨v, r, rfl, h2, h3⟩ := h
    exact RepL.cons h2 (RepL.set i h3 hv)
theorem RepL.take : ∀ {ds : List D} {vs : List V} (n : Nat), RepL K I F ds vs → RepL K I F (ds.take n) (vs.take n)
  | _, _, 0, _ => by simp [RepL]
  | [], vs, n + 1, h => by simp only [RepL] at h; subst h; simp [RepL]
  | d :: ds, vs, n + 1, h => by
    simp only [RepL] at h
    obtain ⟨v, r, rfl, h2, h3⟩ := h
    exact RepL.cons h2 (RepL.take n h3)
theorem RepL.drop : ∀ {ds : List D} {vs : List V} (n : Nat), RepL K I F ds vs → RepL K I F (ds.drop n) (vs.drop n)
  | _, _, 0, h => h
  | [], vs, n + 1, h => by simp only [RepL] at h; subst h; simp [RepL]
  | d :: ds, vs, n + 1, h => by
    simp only [RepL] at h
    obtain ⟨v, r, rfl, h2, h3⟩ := h
    exact RepL.drop n h3
theorem RepL.ints (ns : List Int) : RepL K I F (ns.map D.int) (ns.map V.int) := by
  induction ns with
  | nil => simp [RepL]
  | cons n ns ih => exact RepL.cons (by simp [RepV]) ih
end

/-! ### slots -/
abbrev Sg := List (Option D)
def RepS (K : PySem.W.Frag) (I : List Addr) (F : Hp) (ds : Sg) (s : L2.St) : Prop := ds.length = s.length ∧ ∀ (i : Nat) (d : D), ds[i]? = some (some d) → ∃ v, s[i]? = some (some v) ∧ RepV K I F d v
theorem RepS.ext {K : PySem.W.Frag} {I I1 : List Addr} {F F1 : Hp} {ds : Sg} {s : L2.St} (h : RepS K I F ds s) (e : Ext I F I1 F1) : RepS K I1 F1 ds s :=
  ⟨h.1, fun i d q => let ⟨v, h1, h2⟩ := h.2 i d q; ⟨v, h1, RepV.ext e d v h2⟩⟩
theorem RepS.set {K : PySem.W.Frag} {I : List Addr} {F : Hp} {ds : Sg} {s : L2.St} (h : RepS K I F ds s) (i : Nat) {d : D} {v : V} (hv : RepV K I F d v) : RepS K I F (ds.set i (some d)) (s.set i (some v)) := by
  refine ⟨by simp [h.1], fun j e q => ?_⟩
  by_cases hj : i = j
  · subst hj
    by_cases hl : i < ds.length
    · rw [List.getElem?_set_self hl] at q
      cases q
      exact ⟨v, List.getElem?_set_self (by rw [← h.1]; exact hl), hv⟩
    · rw [List.getElem?_eq_none (by simpa using hl)] at q; cases q
  · rw [List.getElem?_set_ne hj] at q
    rw [List.getElem?_set_ne hj]
    exact h.2 j e q
theorem RepS.unset {K : PySem.W.Frag} {I : List Addr} {F : Hp} {ds : Sg} {s : L2.St} (h : RepS K I F ds s) (i : Nat) (x : Option V) : RepS K I F (ds.set i none) (s.set i x) := by
  refine ⟨by simp [h.1], fun j e q => ?_⟩
  by_cases hj : i = j
  · subst hj
    by_cases hl : i < ds.length
    · rw [List.getElem?_set_self hl] at q; cases q
    · rw [List.getElem?_eq_none (by simpa using hl)] at q; cases q
  · rw [List.getElem?_set_ne hj] at q
    rw [List.getElem?_set_ne hj]
    exact h.2 j e q

/-! ### what is wanted behind -/
def RepX (K : PySem.W.Frag) (I : List Addr) (F H : Hp) (x : XD) (c : Value) (d : Option Addr) : Prop :=
  c = x.cls ∧ match x.fs with
    | none => d = none
    | some fs => ∃ a r, d = some a ∧ H a = some (.xd r) ∧ RepKs K I F fs r
def Post {α : Type} (K : PySem.W.Frag) (I : List Addr) (F G : Hp) (E : XK) (R : List Addr → Hp → Hp → α → W → Prop) : Res α → Prop
  | .ok a w => ∀ I' F' H', Ext I F I' F' → Rel K I' F' G w H' → R I' F' H' a w
  | .exn x w => ∀ I' F' H' c d, Ext I F I' F' → Rel K I' F' G w H' → RepX K I' F' H' x c d → E c d H'
  | .bad => False
section
variable {α β : Type} {K : PySem.W.Frag} {I I1 : List Addr} {F F1 G : Hp} {E : XK} {R R' : List Addr → Hp → Hp → α → W → Prop} {r : Res α}
theorem Post.ext (h : Post K I F G E R r) (e : Ext I F I1 F1) : Post K I1 F1 G E R r := by
  cases r with
  | ok a w => exact fun I' F' H' e' q => h I' F' H' (e.trans e') q
  | exn x w => exact fun I' F' H' c d e' q y => h I' F' H' c d (e.trans e') q y
  | bad => exact h
theorem Post.mono (h : Post K I F G E R r) (k : ∀ I' F' H' a w, r = .ok a w → Ext I F I' F' → Rel K I' F' G w H' → R I' F' H' a w → R' I' F' H' a w) : Post K I F G E R' r := by
  cases r with
  | ok a w => exact fun I' F' H' e' q => k I' F' H' a w rfl e' q (h I' F' H' e' q)
  | exn x w => exact h
  | bad => exact h
theorem Post.bind {f : α → W → Res β} {R2 : List Addr → Hp → Hp → β → W → Prop} (h : Post K I F G E R2 (r.bind f)) : Post K I F G E (fun I' F' _ a w => Post K I' F' G E R2 (f a w)) r := by
  cases r with
  | ok a w => exact fun I' F' H' e' q => Post.ext (K := K) (R := R2) h e'
  | exn x w => exact h
  | bad => exact h
end
def RV (K : PySem.W.Frag) (Q : VK) : List Addr → Hp → Hp → D → W → Prop := fun I' F' H' d _ => ∀ v, RepV K I' F' d v → Q v H'
end Pc

set_option Elab.async false
set_option linter.all false
set_option maxRecDepth 100000
set_option maxHeartbeats 4000000
set_option autoImplicit false
/-! Pc, part B: the place where code stands, judgements over deep values, names, constants, operators. -/
namespace Pc
open PySem PySem.Spec PyProof.Rows L2

/-- what is known of the place: program, world, written part, module's names, base, levels left, the names by slot, the scope -/
structure Stat where
  P : Program
  w : World
  K : PySem.W.Frag
  mg : Str → Option Value
  base : Heap
  k : Nat
  N : List Str
  sc : Scope
  fn : Str → Bool
structure Ctx (S : Stat) (X : Cx) : Prop where
  P : X.prog = S.P
  w : X.w = S.w
  K : X.K = S.K
  mg : X.mg = S.mg
  base : X.base = S.base
  N : X.N = S.N
  sc : X.env.scope = S.sc
  fn : ∀ x, S.fn x = true → X.fn x = true
  calm : X.calm = true
  room : Room S.k X.A
  gds : X.A.guards = some []
  nd : X.N.Nodup
structure XOk (X : Cx) (E : XK) : Prop where
  tk : Takes X (fun cls d _ H => E cls d H)
  own : PassesOwn (model X.prog X.w) X.A X.env X.xe

abbrev ME := Sg → W → Res D
abbrev MT := Sg → W → Res Bool
abbrev MA := Sg → W → Res (List D)
inductive Fl where
  | nx (s : Sg) | rt (d : D) | bk (s : Sg) | ct (s : Sg)
abbrev MS := Sg → W → Res Fl

def RL (K : PySem.W.Frag) (Q : List V → Hp → Prop) : List Addr → Hp → Hp → List D → W → Prop := fun I' F' H' ds _ => ∀ vs, RepL K I' F' ds vs → Q vs H'
def RB (Q : Bool → Hp → Prop) : List Addr → Hp → Hp → Bool → W → Prop := fun _ _ H' b _ => Q b H'
def RFl (K : PySem.W.Frag) (Z : Ends) : List Addr → Hp → Hp → Fl → W → Prop := fun I' F' H' f _ => match f with
  | .nx s => ∀ s', RepS K I' F' s s' → Z.nx s' H'
  | .rt d => ∀ v, RepV K I' F' d v → Z.rt v H'
  | .bk s => ∀ s', RepS K I' F' s s' → Z.bk s' H'
  | .ct s => ∀ s', RepS K I' F' s s' → Z.ct s' H'

def lowE (K : PySem.W.Frag) (E : XK) (m : ME) : TE := fun σ H Q => ∃ I F G ds w, Rel K I F G w H ∧ RepS K I F ds σ ∧ Post K I F G E (RV K Q) (m ds w)
def lowT (K : PySem.W.Frag) (E : XK) (m : MT) : TT := fun σ H Q => ∃ I F G ds w, Rel K I F G w H ∧ RepS K I F ds σ ∧ Post K I F G E (RB Q) (m ds w)
def lowA (K : PySem.W.Frag) (E : XK) (m : MA) : TA := fun σ H Q => ∃ I F G ds w, Rel K I F G w H ∧ RepS K I F ds σ ∧ Post K I F G E (RL K Q) (m ds w)
def lowS (K : PySem.W.Frag) (E : XK) (m : MS) : TS := fun Z σ H => ∃ I F G ds w, Rel K I F G w H ∧ RepS K I F ds σ ∧ Post K I F G E (RFl K Z) (m ds w)

def JE (S : Stat) (e : Expr) (m : ME) : Prop := ∀ X E, Ctx S X → XOk X E → PE X e (lowE X.K E m)
def JT (S : Stat) (e : Expr) (m : MT) : Prop := ∀ X E, Ctx S X → XOk X E → PT X e (lowT X.K E m)
def JW (S : Stat) (e : Expr) (m : MT) : Prop := ∀ X E, Ctx S X → XOk X E → PW X e (lowT X.K E m)
def JA (S : Stat) (es : List Expr) (m : MA) : Prop := ∀ X E, Ctx S X → XOk X E → PA X es (lowA X.K E m)
def JS (S : Stat) (st : Stmt) (m : MS) : Prop := ∀ X E, Ctx S X → XOk X E → PS X st (lowS X.K E m)
def JSs (S : Stat) (st : List Stmt) (m : MS) : Prop := ∀ X E, Ctx S X → XOk X E → PSs X st (lowS X.K E m)

section
variable {X : Cx} {e : Expr} {es : List Expr} {st : Stmt} {sts : List Stmt}
theorem pe_weak {t t' : TE} (h : PE X e t) (k : ∀ σ H Q, t' σ H Q → t σ H Q) : PE X e t' := ⟨fun pins s σ H Q I q => h.run pins s σ H Q I (k σ H Q q)⟩
theorem pt_weak {t t' : TT} (h : PT X e t) (k : ∀ σ H Q, t' σ H Q → t σ H Q) : PT X e t' := ⟨fun pins s σ H Q I q => h.run pins s σ H Q I (k σ H Q q)⟩
theorem pw_weak {t t' : TT} (h : PW X e t) (k : ∀ σ H Q, t' σ H Q → t σ H Q) : PW X e t' := ⟨fun wh pins s σ H Q I q => h.run wh pins s σ H Q I (k σ H Q q)⟩
theorem pa_weak {t t' : TA} (h : PA X es t) (k : ∀ σ H Q, t' σ H Q → t σ H Q) : PA X es t' := ⟨fun pos pins s σ H Q I q => h.run pos pins s σ H Q I (k σ H Q q)⟩
theorem ps_weak {t t' : TS} (h : PS X st t) (k : ∀ D σ H, t' D σ H → t D σ H) : PS X st t' := ⟨fun pins s σ H D I q => h.run pins s σ H D I (k D σ H q)⟩
theorem pss_weak {t t' : TS} (h : PSs X sts t) (k : ∀ D σ H, t' D σ H → t D σ H) : PSs X sts t' := ⟨fun pins s σ H D I q => h.run pins s σ H D I (k D σ H q)⟩
end

/-! ### names, constants -/
def eVar (i : Nat) : ME := fun σ w => match σ[i]? with
  | some (some d) => .ok d w
  | _ => .bad
def eC (d : D) : ME := fun _ w => .ok d w
section
variable {S : Stat} {pos : Pos}
theorem je_var (i : Nat) {x : Str} (hN : S.N[i]? = some x) (hv : Vis S.sc x) (hd : (x == ("__debug__" : Str)) = false := by decide) (hcd : (x == ("__classdict__" : Str)) = false := by decide) : JE S (.Name x pos) (eVar i) := by
  intro X E c xo
  refine pe_weak (pe_var (i := i) (by rw [c.N]; exact hN) (by rw [c.sc]; exact hv) hd hcd) fun σ H Q h => ?_
  obtain ⟨I, F, G, ds, w, rel, rs, p⟩ := h
  unfold eVar at p
  split at p
  · rename_i d hi
    obtain ⟨v, hv, hr⟩ := rs.2 i d hi
    exact ⟨v, hv, p I F H .refl rel v hr⟩
  · exact p.elim
/-- a constant, by its own rule -/
theorem je_c {e : Expr} {d : D} {v : V} (h : ∀ X, PE X e (tC v)) (hr : ∀ K I F, RepV K I F d v) : JE S e (eC d) := by
  intro X E c xo
  refine pe_weak (h X) fun σ H Q h => ?_
  obtain ⟨I, F, G, ds, w, rel, rs, p⟩ := h
  exact p I F H .refl rel v (hr _ _ _)
theorem je_int {i : Int} {j : Nat} : JE S (.Constant (.int i) j pos) (eC (.int i)) := je_c (fun _ => pe_int) fun _ _ _ => by simp [RepV]
theorem je_bl {b : Bool} {j : Nat} : JE S (.Constant (.bool b) j pos) (eC (.bl b)) := je_c (fun _ => pe_bl) fun _ _ _ => by simp [RepV]
theorem je_non {j : Nat} : JE S (.Constant .none j pos) (eC .non) := je_c (fun _ => pe_non) fun _ _ _ => by simp [RepV]
theorem je_str {x : Str} {j : Nat} : JE S (.Constant (.str x) j pos) (eC (.str x)) := je_c (fun _ => pe_str) fun _ _ _ => by simp [RepV]
/-- a module's name: what it stands for -/
theorem je_glob {x : Str} {d : D} {v : V} {u : Value} (hg : S.sc.names.lookup x = some .globalImplicit) (hm : S.mg x = some u) (r : RelV v u) (hr : ∀ I F, RepV S.K I F d v) (hd : (x == ("__debug__" : Str)) = false := by decide) : JE S (.Name x pos) (eC d) := by
  intro X E c xo
  refine pe_weak (pe_glob (x := x) (v := v) (u := u) (by show X.env.scope.names.lookup x = _; rw [c.sc]; exact hg) (by rw [c.mg]; exact hm) r hd) fun σ H Q h => ?_
  obtain ⟨I, F, G, ds, w, rel, rs, p⟩ := h
  exact p I F H .refl rel v (by rw [c.K]; exact hr _ _)
end

/-! ### two expressions, an operation on the values -/
def eBin (f : D → D → W → Res D) (a b : ME) : ME := fun σ w => (a σ w).bind fun x w1 => (b σ w1).bind fun y w2 => f x y w2
def eUn (f : D → W → Res D) (a : ME) : ME := fun σ w => (a σ w).bind fun x w1 => f x w1
def low2 (K : PySem.W.Frag) (E : XK) (f : D → D → W → Res D) : R2 := fun x y H Q => ∃ I F G d e w, Rel K I F G w H ∧ RepV K I F d x ∧ RepV K I F e y ∧ Post K I F G E (RV K Q) (f d e w)
def low1 (K : PySem.W.Frag) (E : XK) (f : D → W → Res D) : V → Hp → VK → Prop := fun x H Q => ∃ I F G d w, Rel K I F G w H ∧ RepV K I F d x ∧ Post K I F G E (RV K Q) (f d w)
/-- f is the operation o, at this place -/
def O2 (S : Stat) (o : Value → Value → Sem Value) (f : D → D → W → Res D) : Prop := ∀ X E, Ctx S X → XOk X E → OpR X o (low2 X.K E f)
def O1 (S : Stat) (o : Value → Sem Value) (f : D → W → Res D) : Prop := ∀ X E, Ctx S X → XOk X E → UnR X o (low1 X.K E f)
section
variable {S : Stat} {pos : Pos} {a b : Expr} {ma mb : ME}
theorem low_bin {K : PySem.W.Frag} {E : XK} {f : D → D → W → Res D} {σ : L2.St} {H : Hp} {Q : VK} (h : lowE K E (eBin f ma mb) σ H Q) : tOp (low2 K E f) (lowE K E ma) (lowE K E mb) σ H Q := by
  obtain ⟨I, F, G, ds, w, rel, rs, p⟩ := h
  refine ⟨I, F, G, ds, w, rel, rs, (Post.bind p).mono fun I1 F1 H1 x w1 _ e1 rel1 p1 v rv => ?_⟩
  refine ⟨I1, F1, G, ds, w1, rel1, rs.ext e1, (Post.bind p1).mono fun I2 F2 H2 y w2 _ e2 rel2 p2 u ru => ?_⟩
  exact ⟨I2, F2, G, x, y, w2, rel2, RepV.ext e2 _ _ rv, ru, p2⟩
theorem je_bin {op : Operator} {f : D → D → W → Res D} (ho : O2 S (binaryOp op) f) (ha : JE S a ma) (hb : JE S b mb) : JE S (.BinOp a op b pos) (eBin f ma mb) := fun X E c xo =>
  pe_weak (pe_op (ho X E c xo) (ha X E c xo) (hb X E c xo)) fun _ _ _ h => low_bin h
theorem je_cmp {op : CmpOp} {f : D → D → W → Res D} (ho : O2 S (compareOp op) f) (ha : JE S a ma) (hb : JE S b mb) (hm : behindInMarks op b = false := by first | exact nobehind _ (by decide) (by decide) | rfl) : JE S (.Compare a [op] [b] pos) (eBin f ma mb) := fun X E c xo =>
  pe_weak (pe_cmpR (ho X E c xo) (ha X E c xo) (hb X E c xo) hm) fun _ _ _ h => low_bin h
theorem je_un {op : UnaryOp} {f : D → W → Res D} (ho : O1 S (unaryOp op) f) (ha : JE S a ma) : JE S (.UnaryOp op a pos) (eUn f ma) := fun X E c xo =>
  pe_weak (pe_un (ho X E c xo) (ha X E c xo)) fun σ H Q h => by
    obtain ⟨I, F, G, ds, w, rel, rs, p⟩ := h
    refine ⟨I, F, G, ds, w, rel, rs, (Post.bind p).mono fun I1 F1 H1 x w1 _ e1 rel1 p1 v rv => ?_⟩
    exact ⟨I1, F1, G, x, w1, rel1, rv, p1⟩
/-- a bool's value as a test -/
def bool1 (d : D) (w : W) : Res Bool := match d with
  | .bl b => .ok b w
  | _ => .bad
def tVal (m : ME) : MT := fun σ w => (m σ w).bind bool1
theorem jt_cmp {op : CmpOp} {f : D → D → W → Res D} (ho : O2 S (compareOp op) f) (ha : JE S a ma) (hb : JE S b mb) (hm : behindInMarks op b = false := by first | exact nobehind _ (by decide) (by decide) | rfl) : JT S (.Compare a [op] [b] pos) (tVal (eBin f ma mb)) := fun X E c xo =>
  pt_weak (pt_cmpR (ho X E c xo) (ha X E c xo) (hb X E c xo) hm) fun σ H Q h => by
    obtain ⟨I, F, G, ds, w, rel, rs, p⟩ := h
    show tOp _ _ _ σ H fun x H' => ∃ k, x = .bl k ∧ Q k H'
    refine low_bin ⟨I, F, G, ds, w, rel, rs, (Post.bind p).mono fun I1 F1 H1 x w1 _ e1 rel1 p1 v rv => ?_⟩
    cases x <;> first | exact p1.elim | skip
    simp only [RepV] at rv
    exact ⟨_, rv, p1 I1 F1 H1 .refl rel1⟩
end
end Pc

set_option Elab.async false
set_option linter.all false
set_option maxRecDepth 100000
set_option maxHeartbeats 4000000
set_option autoImplicit false
/-! Pc, part C: data as the library tells it, the operators. -/
namespace Pc
open PySem PySem.Spec PyProof.Rows L2

/-! ### a value as the library's data -/
mutual
def D.pyR (f : Nat → Option PyData) : D → Option PyData
  | .non => some .none
  | .bl b => some (.bool b)
  | .int i => some (.int i)
  | .str x => some (.str x)
  | .ty _ => none
  | .con _ => none
  | .tup xs => (D.pysR f xs).map .tuple
  | .lst xs => (D.pysR f xs).map .list
  | .scr xs => (D.pysR f xs).map .list
  | .ktp xs => (D.pysR f xs).map .tuple
  | .dct _ _ => none
  | .ref i => f i
def D.pysR (f : Nat → Option PyData) : List D → Option (List PyData)
  | [] => some []
  | d :: ds => match D.pyR f d, D.pysR f ds with
    | some p, some ps => some (p :: ps)
    | _, _ => none
end
def pyAt : Nat → W → Nat → Option PyData
  | 0, _, _ => none
  | n + 1, w, i => match w[i]? with
    | some (.lst xs) => (D.pysR (pyAt n w) xs).map .list
    | _ => none
/-- nested mutable lists to depth 8 -/
def D.py (w : W) (d : D) : Option PyData := d.pyR (pyAt 8 w)
section
variable {K : PySem.W.Frag} {I : List Addr} {F G H : Hp} {w : W}
theorem Rel.sqL (rel : Rel K I F G w H) {a : Addr} {vs : List V} (h : SqL K F a vs) : SqL K H a vs := by
  rcases h with (h | ⟨o, h⟩) | h
  · exact .inl (.inl (rel.fz _ _ h))
  · exact .inl (.inr ⟨o, rel.fz _ _ h⟩)
  · exact .inr h
theorem Rel.sqT (rel : Rel K I F G w H) {a : Addr} {vs : List V} (h : SqT K F a vs) : SqT K H a vs := by
  rcases h with (h | ⟨o, h⟩) | h
  · exact .inl (.inl (rel.fz _ _ h))
  · exact .inl (.inr ⟨o, rel.fz _ _ h⟩)
  · exact .inr h
mutual
theorem dp_pyR (rel : Rel K I F G w H) {f : Nat → Option PyData} (hf : ∀ i a p, I[i]? = some a → f i = some p → Dp K H (.ref a) p) : ∀ (d : D) (v : V) (p : PyData), RepV K I F d v → d.pyR f = some p → Dp K H v p
  | .non, v, p, h, e => by simp only [RepV] at h; simp only [D.pyR, Option.some.injEq] at e; subst h; subst e; exact .non
  | .bl b, v, p, h, e => by simp only [RepV] at h; simp only [D.pyR, Option.some.injEq] at e; subst h; subst e; exact .bl b
  | .int i, v, p, h, e => by simp only [RepV] at h; simp only [D.pyR, Option.some.injEq] at e; subst h; subst e; exact .int i
  | .str x, v, p, h, e => by simp only [RepV] at h; simp only [D.pyR, Option.some.injEq] at e; subst h; subst e; exact .str x
  | .ty _, v, p, h, e => by simp [D.pyR] at e
  | .con _, v, p, h, e => by simp [D.pyR] at e
  | .dct _ _, v, p, h, e => by simp [D.pyR] at e
  | .tup xs, v, p, h, e => by
    simp only [RepV] at h
    obtain ⟨a, vs, rfl, h2, h3⟩ := h
    simp only [D.pyR, Option.map_eq_some_iff] at e
    obtain ⟨ps, e1, rfl⟩ := e
    exact .tup (.of (rel.fz _ _ h2)) (dp_pysR rel hf xs vs ps h3 e1)
  | .ktp xs, v, p, h, e => by
    simp only [RepV] at h
    obtain ⟨a, vs, rfl, h2, h3⟩ := h
    simp only [D.pyR, Option.map_eq_some_iff] at e
    obtain ⟨ps, e1, rfl⟩ := e
    exact .tup (rel.sqT h2) (dp_pysR rel hf xs vs ps h3 e1)
  | .lst xs, v, p, h, e => by
    simp only [RepV] at h
    obtain ⟨a, vs, rfl, h2, h3⟩ := h
    simp only [D.pyR, Option.map_eq_some_iff] at e
    obtain ⟨ps, e1, rfl⟩ := e
    exact .lst (.of (rel.fz _ _ h2)) (dp_pysR rel hf xs vs ps h3 e1)
  | .scr xs, v, p, h, e => by
    simp only [RepV] at h
    obtain ⟨a, vs, rfl, h2, h3⟩ := h
    simp only [D.pyR, Option.map_eq_some_iff] at e
    obtain ⟨ps, e1, rfl⟩ := e
    exact .lst (rel.sqL h2) (dp_pysR rel hf xs vs ps h3 e1)
  | .ref i, v, p, h, e => by
    simp only [RepV] at h
    obtain ⟨a, rfl, h2⟩ := h
    simp only [D.pyR] at e
    exact hf i a p h2 e
theorem dp_pysR (rel : Rel K I F G w H) {f : Nat → Option PyData} (hf : ∀ i a p, I[i]? = some a → f i = some p → Dp K H (.ref a) p) : ∀ (ds : List D) (vs : List V) (ps : List PyData), RepL K I F ds vs → D.pysR f ds = some ps → DpAll K H vs ps
  | [], vs, ps, h, e => by simp only [RepL] at h; simp only [D.pysR, Option.some.injEq] at e; subst h; subst e; exact .nil
  | d :: ds, vs, ps, h, e => by
    simp only [RepL] at h
    obtain ⟨v, r, rfl, h2, h3⟩ := h
    simp only [D.pysR] at e
    split at e
    · rename_i p ps' e1 e2
      cases e
      exact .cons (dp_pyR rel hf d v p h2 e1) (dp_pysR rel hf ds r ps' h3 e2)
    · cases e
end
theorem dp_at (rel : Rel K I F G w H) : ∀ (n : Nat) (i : Nat) (a : Addr) (p : PyData), I[i]? = some a → pyAt n w i = some p → Dp K H (.ref a) p
  | 0, i, a, p, _, e => by simp [pyAt] at e
  | n + 1, i, a, p, h, e => by
    simp only [pyAt] at e
    split at e
    · rename_i xs hw
      simp only [Option.map_eq_some_iff] at e
      obtain ⟨ps, e1, rfl⟩ := e
      obtain ⟨u, hu, ho⟩ := rel.ob i a _ h hw
      obtain ⟨vs, rfl, h3⟩ := ho
      exact .lst (.of hu) (dp_pysR rel (fun i a p => dp_at rel n i a p) xs vs ps h3 e1)
    · cases e
theorem dp_py (rel : Rel K I F G w H) {d : D} {v : V} {p : PyData} (h : RepV K I F d v) (e : d.py w = some p) : Dp K H v p :=
  dp_pyR rel (fun i a p => dp_at rel 8 i a p) d v p h e
end

/-! ### operators -/
def addM (x y : D) (w : W) : Res D := match x, y with
  | .int a, .int b => .ok (.int (a + b)) w
  | .str a, .str b => if a.length + b.length ≤ sizeLine then .ok (.str (a ++ b)) w else .bad
  | .tup a, .tup b => if a.length + b.length ≤ sizeLine then .ok (.tup (a ++ b)) w else .bad
  | .lst a, .lst b => if a.length + b.length ≤ sizeLine then .ok (.lst (a ++ b)) w else .bad
  | _, _ => .bad
def subM (x y : D) (w : W) : Res D := match x, y with
  | .int a, .int b => .ok (.int (a - b)) w
  | _, _ => .bad
def mulOk (a b : Int) : Bool := (decide (-(2 ^ 64) < a) && decide (a < 2 ^ 64)) || (decide (-(2 ^ 64) < b) && decide (b < 2 ^ 64))
def mulM (x y : D) (w : W) : Res D := match x, y with
  | .int a, .int b => if mulOk a b then .ok (.int (a * b)) w else .bad
  | .lst a, .int k => if -(2 ^ 63) ≤ k ∧ k < 2 ^ 63 ∧ a.length * k.toNat ≤ sizeLine then .ok (.lst (List.replicate k.toNat a).flatten) w else .bad
  | _, _ => .bad
def fdivM (x y : D) (w : W) : Res D := match x, y with
  | .int a, .int b => if 0 < b ∧ b < 1073741824 then .ok (.int (a / b)) w else .bad
  | _, _ => .bad
def modM (x y : D) (w : W) : Res D := match x, y with
  | .int a, .int b => if 0 < b then .ok (.int (a % b)) w else .bad
  | _, _ => .bad
def powM (x y : D) (w : W) : Res D := match x, y with
  | .int a, .int b => if 0 ≤ b ∧ b ≤ 1000000 ∧ a.natAbs < 2 ^ 64 then .ok (.int (a ^ b.toNat)) w else .bad
  | _, _ => .bad
def negM (x : D) (w : W) : Res D := match x with
  | .int a => .ok (.int (-a)) w
  | _ => .bad
def eqD (x y : D) (w : W) : Option Bool := match x.py w, y.py w with
  | some p, some q => if SeqAt.shaped p = true ∧ SeqAt.shaped q = true then some (PyData.eqv p q) else none
  | _, _ => none
def eqM (x y : D) (w : W) : Res D := match eqD x y w with
  | some b => .ok (.bl b) w
  | none => .bad
def neM (x y : D) (w : W) : Res D := match eqD x y w with
  | some b => .ok (.bl (!b)) w
  | none => .bad
def ltM (x y : D) (w : W) : Res D := match x, y with
  | .int a, .int b => .ok (.bl (decide (a < b))) w
  | _, _ => .bad
def leM (x y : D) (w : W) : Res D := match x, y with
  | .int a, .int b => .ok (.bl (decide (a ≤ b))) w
  | _, _ => .bad
def gtM (x y : D) (w : W) : Res D := match x, y with
  | .int a, .int b => .ok (.bl (decide (b < a))) w
  | _, _ => .bad
def geM (x y : D) (w : W) : Res D := match x, y with
  | .int a, .int b => .ok (.bl (decide (b ≤ a))) w
  | _, _ => .bad
def D.isNon : D → Bool
  | .non => true
  | _ => false
def isM (x y : D) (w : W) : Res D := match x, y with
  | x, .non => .ok (.bl x.isNon) w
  | .bl a, .bl b => .ok (.bl (decide (a = b))) w
  | _, _ => .bad
def isNotM (x y : D) (w : W) : Res D := match x, y with
  | x, .non => .ok (.bl (!x.isNon)) w
  | .bl a, .bl b => .ok (.bl (!decide (a = b))) w
  | _, _ => .bad
/-- the items of a list or a tuple -/
def D.items (w : W) : D → Option (List D)
  | .tup xs => some xs
  | .lst xs => some xs
  | .scr xs => some xs
  | .ktp xs => some xs
  | .ref i => match w[i]? with
    | some (.lst xs) => some xs
    | _ => none
  | _ => none

section
variable {S : Stat}
theorem low2_of {o : Value → Value → Sem Value} {f : D → D → W → Res D}
    (h : ∀ (X : Cx) (E : XK), Ctx S X → XOk X E → ∀ (I : List Addr) (F G : Hp) (d e : D) (w : W) (H : Hp) (x y : V) (Q : VK), Rel X.K I F G w H → RepV X.K I F d x → RepV X.K I F e y → Post X.K I F G E (RV X.K Q) (f d e w) →
      ∃ r : R2, OpR X o r ∧ r x y H Q) : O2 S o f := fun X E c xo pins s σ H x y v u Q I rx ry ⟨J, F, G, d, e, w, rel, rd, re, p⟩ => by
  obtain ⟨r, ho, hr⟩ := h X E c xo J F G d e w H x y Q rel rd re p
  exact ho pins s σ H x y v u Q I rx ry hr
/-- an operation on two ints -/
theorem o2_int {o : Value → Value → Sem Value} {f : D → D → W → Res D} {C : Int → Int → Prop} {g : Int → Int → V} {gd : Int → Int → D} (ho : ∀ X : Cx, OpR X o (rI C g))
    (hg : ∀ K I F a b, RepV K I F (gd a b) (g a b)) (hf : ∀ d e w r, f d e w = r → r = .bad ∨ ∃ a b, d = .int a ∧ e = .int b ∧ C a b ∧ r = .ok (gd a b) w) : O2 S o f :=
  low2_of fun X E c xo I F G d e w H x y Q rel rd re p => by
    rcases hf d e w _ rfl with h | ⟨a, b, rfl, rfl, hc, h⟩
    · rw [h] at p; exact p.elim
    · rw [h] at p
      simp only [RepV] at rd re
      exact ⟨_, ho X, a, b, rd, re, hc, p I F H .refl rel _ (hg _ _ _ _ _)⟩
theorem rI_of {o : Value → Value → Sem Value} {X : Cx} {g : Int → Int → V} (h : OpR X o (rI0 g)) : OpR X o (rI (fun _ _ => True) g) := fun pins s σ H x y v u Q I rx ry ⟨i, j, e1, e2, _, q⟩ => h pins s σ H x y v u Q I rx ry ⟨i, j, e1, e2, q⟩
theorem o2_sub : O2 S (binaryOp .Sub) subM := o2_int (gd := fun a b => .int (a - b)) (fun _ => rI_of op_sub) (fun _ _ _ _ _ => by simp [RepV]) fun d e w r h => by
  subst h; cases d <;> cases e <;> simp [subM]
theorem o2_lt_int : O2 S (compareOp .Lt) ltM := o2_int (gd := fun a b => .bl (decide (a < b))) (fun _ => rI_of op_lt) (fun _ _ _ _ _ => by simp [RepV]) fun d e w r h => by
  subst h; cases d <;> cases e <;> simp [ltM]
theorem o2_le : O2 S (compareOp .LtE) leM := o2_int (gd := fun a b => .bl (decide (a ≤ b))) (fun _ => rI_of op_le) (fun _ _ _ _ _ => by simp [RepV]) fun d e w r h => by
  subst h; cases d <;> cases e <;> simp [leM]
theorem o2_gt : O2 S (compareOp .Gt) gtM := o2_int (gd := fun a b => .bl (decide (b < a))) (fun _ => rI_of op_gt) (fun _ _ _ _ _ => by simp [RepV]) fun d e w r h => by
  subst h; cases d <;> cases e <;> simp [gtM]
theorem o2_ge : O2 S (compareOp .GtE) geM := o2_int (gd := fun a b => .bl (decide (b ≤ a))) (fun _ => rI_of op_ge) (fun _ _ _ _ _ => by simp [RepV]) fun d e w r h => by
  subst h; cases d <;> cases e <;> simp [geM]
theorem o2_fdiv : O2 S (binaryOp .FloorDiv) fdivM := o2_int (gd := fun a b => .int (a / b)) (fun _ => op_fdiv) (fun _ _ _ _ _ => by simp [RepV]) fun d e w r h => by
  subst h; cases d <;> cases e <;> simp only [fdivM, true_or, reduceCtorEq, false_and, and_false, exists_const, or_false]
  rename_i a b
  by_cases hc : 0 < b ∧ b < 1073741824
  · rw [if_pos hc]; exact .inr ⟨a, b, rfl, rfl, hc, rfl⟩
  · rw [if_neg hc]; exact .inl rfl
theorem o2_mod : O2 S (binaryOp .Mod) modM := o2_int (gd := fun a b => .int (a % b)) (fun _ => op_mod) (fun _ _ _ _ _ => by simp [RepV]) fun d e w r h => by
  subst h; cases d <;> cases e <;> simp only [modM, true_or, reduceCtorEq, false_and, and_false, exists_const, or_false]
  rename_i a b
  by_cases hc : 0 < b
  · rw [if_pos hc]; exact .inr ⟨a, b, rfl, rfl, hc, rfl⟩
  · rw [if_neg hc]; exact .inl rfl
theorem o2_pow : O2 S (binaryOp .Pow) powM := o2_int (gd := fun a b => .int (a ^ b.toNat)) (fun _ => op_pow) (fun _ _ _ _ _ => by simp [RepV]) fun d e w r h => by
  subst h; cases d <;> cases e <;> simp only [powM, true_or, reduceCtorEq, false_and, and_false, exists_const, or_false]
  rename_i a b
  by_cases hc : 0 ≤ b ∧ b ≤ 1000000 ∧ a.natAbs < 2 ^ 64
  · rw [if_pos hc]; exact .inr ⟨a, b, rfl, rfl, hc, rfl⟩
  · rw [if_neg hc]; exact .inl rfl
/-- a new list, told as one that never changes -/
theorem new_lst {K : PySem.W.Frag} {I : List Addr} {F G H : Hp} {E : XK} {w : W} {ds : List D} {vs : List V} {Q : VK} (rel : Rel K I F G w H) (r : RepL K I F ds vs) (p : Post K I F G E (RV K Q) (.ok (.lst ds) w)) : ∀ q, H q = none → Q (.ref q) (upd H q (.lst vs)) := fun q hq => by
  have hF : F q = none := by
    cases h : F q with
    | none => rfl
    | some u => rw [rel.fz _ _ h] at hq; cases hq
  have e : Ext I F I (upd F q (.lst vs)) := ⟨List.prefix_refl _, fun a u h => by rw [upd_ne (ne_of_none h hF)]; exact h⟩
  refine p I (upd F q (.lst vs)) (upd H q (.lst vs)) e ⟨rel.len, rel.nd, fun i a o h1 h2 => ?_, fun a u h => ?_, fun i a o h h0 hf => ?_, fun a u h => ?_, fun a u h => ?_⟩ _ ?_
  · obtain ⟨u, h3, h4⟩ := rel.ob i a o h1 h2
    exact ⟨u, by rw [upd_ne (ne_of_none h3 hq)]; exact h3, RepO.ext e h4⟩
  · by_cases ha : a = q
    · subst ha; rw [upd_same] at h ⊢; exact h
    · rw [upd_ne ha] at h ⊢; exact rel.fz a u h
  · obtain ⟨u, h3, _⟩ := rel.ob i a o h h0
    rw [upd_ne (ne_of_none h3 hq)]; exact rel.ap i a o h h0 hf
  · rw [upd_ne (ne_of_none (rel.gz a u h) hq)]; exact rel.gz a u h
  · rw [upd_ne (ne_of_none (rel.gz a u h) hq)]; exact rel.gf a u h
  · simp only [RepV]
    exact ⟨q, vs, rfl, upd_same, RepL.ext e _ _ r⟩
theorem new_tup {K : PySem.W.Frag} {I : List Addr} {F G H : Hp} {E : XK} {w : W} {ds : List D} {vs : List V} {Q : VK} (rel : Rel K I F G w H) (r : RepL K I F ds vs) (p : Post K I F G E (RV K Q) (.ok (.tup ds) w)) : ∀ q, H q = none → Q (.ref q) (upd H q (.tup vs)) := fun q hq => by
  have hF : F q = none := by
    cases h : F q with
    | none => rfl
    | some u => rw [rel.fz _ _ h] at hq; cases hq
  have e : Ext I F I (upd F q (.tup vs)) := ⟨List.prefix_refl _, fun a u h => by rw [upd_ne (ne_of_none h hF)]; exact h⟩
  refine p I (upd F q (.tup vs)) (upd H q (.tup vs)) e ⟨rel.len, rel.nd, fun i a o h1 h2 => ?_, fun a u h => ?_, fun i a o h h0 hf => ?_, fun a u h => ?_, fun a u h => ?_⟩ _ ?_
  · obtain ⟨u, h3, h4⟩ := rel.ob i a o h1 h2
    exact ⟨u, by rw [upd_ne (ne_of_none h3 hq)]; exact h3, RepO.ext e h4⟩
  · by_cases ha : a = q
    · subst ha; rw [upd_same] at h ⊢; exact h
    · rw [upd_ne ha] at h ⊢; exact rel.fz a u h
  · obtain ⟨u, h3, _⟩ := rel.ob i a o h h0
    rw [upd_ne (ne_of_none h3 hq)]; exact rel.ap i a o h h0 hf
  · rw [upd_ne (ne_of_none (rel.gz a u h) hq)]; exact rel.gz a u h
  · rw [upd_ne (ne_of_none (rel.gz a u h) hq)]; exact rel.gf a u h
  · simp only [RepV]
    exact ⟨q, vs, rfl, upd_same, RepL.ext e _ _ r⟩
theorem RepL.eq_nil {K : PySem.W.Frag} {I : List Addr} {F : Hp} {ds : List D} (r : RepL K I F ds []) : ds = [] := by
  have := r.length
  exact List.eq_nil_of_length_eq_zero (by simpa using this)
theorem o2_add : O2 S (binaryOp .Add) addM := low2_of fun X E c xo I F G d e w H x y Q rel rd re p => by
  cases d <;> cases e <;> first | exact p.elim | skip
  · simp only [RepV] at rd re
    exact ⟨_, op_add, _, _, rd, re, p I F H .refl rel _ (by simp [RepV])⟩
  · rename_i a b
    simp only [RepV] at rd re
    simp only [addM] at p
    split at p
    · rename_i hl
      exact ⟨_, op_add_str, _, _, rd, re, hl, p I F H .refl rel _ (by simp [RepV])⟩
    · exact p.elim
  · rename_i a b
    simp only [RepV] at rd re
    obtain ⟨q, vs, rfl, h1, h2⟩ := rd
    obtain ⟨q', vs', rfl, h1', h2'⟩ := re
    simp only [addM] at p
    split at p
    · rename_i hl
      refine ⟨_, op_catA, q, q', vs, vs', rfl, rfl, .of (rel.fz _ _ h1), .of (rel.fz _ _ h1'), by rw [← h2.length, ← h2'.length]; exact hl, fun hn => ?_, fun _ hn => ?_, fun _ _ => ?_⟩
      · subst hn
        obtain rfl := h2.eq_nil
        exact p I F H .refl rel _ (by simp only [RepV, List.nil_append]; exact ⟨_, _, rfl, h1', h2'⟩)
      · subst hn
        obtain rfl := h2'.eq_nil
        exact p I F H .refl rel _ (by simp only [RepV, List.append_nil]; exact ⟨_, _, rfl, h1, h2⟩)
      · exact new_tup rel (h2.append h2') p
    · exact p.elim
  · rename_i a b
    simp only [RepV] at rd re
    obtain ⟨q, vs, rfl, h1, h2⟩ := rd
    obtain ⟨q', vs', rfl, h1', h2'⟩ := re
    simp only [addM] at p
    split at p
    · rename_i hl
      exact ⟨_, op_cat, q, q', vs, vs', rfl, rfl, rel.fz _ _ h1, rel.fz _ _ h1', by rw [← h2.length, ← h2'.length]; exact hl, new_lst rel (h2.append h2') p⟩
    · exact p.elim
theorem RepL.rep {K : PySem.W.Frag} {I : List Addr} {F : Hp} {ds : List D} {vs : List V} (r : RepL K I F ds vs) : ∀ n : Nat, RepL K I F (List.replicate n ds).flatten (List.replicate n vs).flatten
  | 0 => by simp [RepL]
  | n + 1 => by
    rw [List.replicate_succ, List.replicate_succ, List.flatten_cons, List.flatten_cons]
    exact r.append (r.rep n)
theorem o2_mul : O2 S (binaryOp .Mult) mulM := low2_of fun X E c xo I F G d e w H x y Q rel rd re p => by
  cases d <;> cases e <;> first | exact p.elim | skip
  · rename_i a b
    simp only [RepV] at rd re
    simp only [mulM] at p
    split at p
    · rename_i hl
      refine ⟨_, op_mul, _, _, rd, re, ?_, p I F H .refl rel _ (by simp [RepV])⟩
      simpa [mulOk, CMul] using hl
    · exact p.elim
  · rename_i a b
    simp only [RepV] at rd re
    obtain ⟨q, vs, rfl, h1, h2⟩ := rd
    simp only [mulM] at p
    split at p
    · rename_i hl
      exact ⟨_, op_rep, q, b, vs, rfl, re, rel.fz _ _ h1, hl.1, hl.2.1, by rw [← h2.length]; exact hl.2.2, new_lst rel (h2.rep _) p⟩
    · exact p.elim
theorem o2_eq : O2 S (compareOp .Eq) eqM := low2_of fun X E c xo I F G d e w H x y Q rel rd re p => by
  unfold eqM eqD at p
  split at p
  · rename_i b hb
    split at hb
    · rename_i p1 q1 e1 e2
      split at hb
      · rename_i hs
        cases hb
        exact ⟨_, op_eqD c.room.units, p1, q1, dp_py rel rd e1, dp_py rel re e2, hs.1, hs.2, p I F H .refl rel _ (by simp [RepV])⟩
      · cases hb
    · cases hb
  · exact p.elim
theorem o2_ne : O2 S (compareOp .NotEq) neM := low2_of fun X E c xo I F G d e w H x y Q rel rd re p => by
  unfold neM eqD at p
  split at p
  · rename_i b hb
    split at hb
    · rename_i p1 q1 e1 e2
      split at hb
      · rename_i hs
        cases hb
        exact ⟨_, op_neD c.room.units, p1, q1, dp_py rel rd e1, dp_py rel re e2, hs.1, hs.2, p I F H .refl rel _ (by simp [RepV])⟩
      · cases hb
    · cases hb
  · exact p.elim
theorem isNon_rep {K : PySem.W.Frag} {I : List Addr} {F : Hp} {d : D} {v : V} (h : RepV K I F d v) : decide (v = .non) = d.isNon := by
  cases d <;> simp only [RepV] at h
  case non => subst h; rfl
  case bl => subst h; rfl
  case int => subst h; rfl
  case str => subst h; rfl
  case ty => subst h; rfl
  case con => subst h; rfl
  case tup => obtain ⟨a, vs, rfl, _⟩ := h; rfl
  case lst => obtain ⟨a, vs, rfl, _⟩ := h; rfl
  case scr => obtain ⟨a, vs, rfl, _⟩ := h; rfl
  case ktp => obtain ⟨a, vs, rfl, _⟩ := h; rfl
  case dct => obtain ⟨a, vs, rfl, _⟩ := h; rfl
  case ref => obtain ⟨a, rfl, _⟩ := h; rfl
theorem isM_non {x : D} {w : W} : isM x .non w = .ok (.bl x.isNon) w := by cases x <;> rfl
theorem isNotM_non {x : D} {w : W} : isNotM x .non w = .ok (.bl (!x.isNon)) w := by cases x <;> rfl
theorem o2_is : O2 S (compareOp .Is) isM := low2_of fun X E c xo I F G d e w H x y Q rel rd re p => by
  cases e
  case non =>
    simp only [isM_non] at p
    simp only [RepV] at re
    exact ⟨_, op_isN, re, p I F H .refl rel _ (by simp [RepV, isNon_rep rd])⟩
  case bl b =>
    cases d <;> first | exact p.elim | skip
    simp only [RepV] at rd re
    exact ⟨_, op_isBl, _, _, rd, re, p I F H .refl rel _ (by simp [RepV])⟩
  all_goals (cases d <;> exact p.elim)
theorem o2_isNot : O2 S (compareOp .IsNot) isNotM := low2_of fun X E c xo I F G d e w H x y Q rel rd re p => by
  cases e
  case non =>
    simp only [isNotM_non] at p
    simp only [RepV] at re
    exact ⟨_, op_notN, re, p I F H .refl rel _ (by simp [RepV, isNon_rep rd])⟩
  case bl b =>
    cases d <;> first | exact p.elim | skip
    simp only [RepV] at rd re
    exact ⟨_, op_notBl, _, _, rd, re, p I F H .refl rel _ (by simp [RepV])⟩
  all_goals (cases d <;> exact p.elim)
theorem o1_neg : O1 S (unaryOp .USub) negM := fun X E c xo pins s σ H x v Q I rx ⟨J, F, G, d, w, rel, rd, p⟩ => by
  cases d <;> first | exact p.elim | skip
  simp only [RepV] at rd
  exact un_neg pins s σ H x v Q I rx ⟨_, rd, p J F H .refl rel _ (by simp [RepV])⟩
end
end Pc

set_option Elab.async false
set_option linter.all false
set_option maxRecDepth 100000
set_option maxHeartbeats 4000000
set_option autoImplicit false
/-! Pc, part D: truth, and, or, not, if; arguments, displays; statements. -/
namespace Pc
open PySem PySem.Spec PyProof.Rows L2

def truthD (d : D) (w : W) : Option Bool := match d with
  | .non => some false
  | .bl b => some b
  | .int i => some (i != 0)
  | .str x => if x.length ≤ sizeLine then some ((x.length : Int) != 0) else none
  | .tup xs => some (!xs.isEmpty)
  | .lst xs => some (!xs.isEmpty)
  | .scr xs => some (!xs.isEmpty)
  | .ktp xs => some (!xs.isEmpty)
  | .ref i => (match w[i]? with
    | some (.lst xs) => some (!xs.isEmpty)
    | some (.dK kvs) => some (!kvs.isEmpty)
    | _ => none)
  | _ => none
theorem RepL.isEmpty {K : PySem.W.Frag} {I : List Addr} {F : Hp} {ds : List D} {vs : List V} (r : RepL K I F ds vs) : vs.isEmpty = ds.isEmpty := by
  cases ds with
  | nil => simp only [RepL] at r; subst r; rfl
  | cons d ds => simp only [RepL] at r; obtain ⟨v, t, rfl, _⟩ := r; rfl
theorem RepKs.isEmpty {κ : Type} {K : PySem.W.Frag} {I : List Addr} {F : Hp} {ds : List (κ × D)} {vs : List (κ × V)} (r : RepKs K I F ds vs) : vs.isEmpty = ds.isEmpty := by
  cases ds with
  | nil => simp only [RepKs] at r; subst r; rfl
  | cons d ds => obtain ⟨k, d⟩ := d; simp only [RepKs] at r; obtain ⟨v, t, rfl, _⟩ := r; rfl
theorem truV_of {K : PySem.W.Frag} {I : List Addr} {F G H : Hp} {w : W} (rel : Rel K I F G w H) {d : D} {v : V} (h : RepV K I F d v) {b : Bool} (e : truthD d w = some b) : TruV K v H b := by
  cases d <;> simp only [RepV] at h
  case non => subst h; simp only [truthD, Option.some.injEq] at e; exact e.symm
  case bl => subst h; simp only [truthD, Option.some.injEq] at e; exact e.symm
  case int => subst h; simp only [truthD, Option.some.injEq] at e; exact e.symm
  case str x =>
    subst h
    simp only [truthD] at e
    split at e
    · rename_i hl
      cases e; exact ⟨hl, rfl⟩
    · cases e
  case ty => cases e
  case con => cases e
  case dct => cases e
  case tup xs =>
    obtain ⟨a, vs, rfl, h1, h2⟩ := h
    simp only [truthD, Option.some.injEq] at e
    exact .inr (.inl ⟨vs, .of (rel.fz _ _ h1), by rw [h2.isEmpty]; exact e.symm⟩)
  case ktp xs =>
    obtain ⟨a, vs, rfl, h1, h2⟩ := h
    simp only [truthD, Option.some.injEq] at e
    exact .inr (.inl ⟨vs, rel.sqT h1, by rw [h2.isEmpty]; exact e.symm⟩)
  case lst xs =>
    obtain ⟨a, vs, rfl, h1, h2⟩ := h
    simp only [truthD, Option.some.injEq] at e
    exact .inl ⟨vs, .of (rel.fz _ _ h1), by rw [h2.isEmpty]; exact e.symm⟩
  case scr xs =>
    obtain ⟨a, vs, rfl, h1, h2⟩ := h
    simp only [truthD, Option.some.injEq] at e
    exact .inl ⟨vs, rel.sqL h1, by rw [h2.isEmpty]; exact e.symm⟩
  case ref i =>
    obtain ⟨a, rfl, h1⟩ := h
    simp only [truthD] at e
    split at e
    · rename_i xs hw
      cases e
      obtain ⟨u, hu, vs, rfl, h2⟩ := rel.ob i a _ h1 hw
      exact .inl ⟨vs, .of hu, by rw [h2.isEmpty]⟩
    · rename_i kvs hw
      cases e
      obtain ⟨u, hu, vs, rfl, h2⟩ := rel.ob i a _ h1 hw
      exact .inr (.inr ⟨vs, hu, by rw [h2.isEmpty]⟩)
    · cases e
def truthM (d : D) (w : W) : Res Bool := match truthD d w with
  | some b => .ok b w
  | none => .bad
def tTru (m : ME) : MT := fun σ w => (m σ w).bind truthM
def tAndM (a b : MT) : MT := fun σ w => (a σ w).bind fun c w1 => if c = true then b σ w1 else .ok false w1
def tOrM (a b : MT) : MT := fun σ w => (a σ w).bind fun c w1 => if c = true then .ok true w1 else b σ w1
def tNotM (a : MT) : MT := fun σ w => (a σ w).bind fun c w1 => .ok (!c) w1
def eAnd (a b : ME) : ME := fun σ w => (a σ w).bind fun x w1 => (truthM x w1).bind fun c _ => if c = true then b σ w1 else .ok x w1
def eOr (a b : ME) : ME := fun σ w => (a σ w).bind fun x w1 => (truthM x w1).bind fun c _ => if c = true then .ok x w1 else b σ w1
def notM (x : D) (w : W) : Res D := (truthM x w).bind fun c _ => .ok (.bl (!c)) w
def eIf (t : MT) (a b : ME) : ME := fun σ w => (t σ w).bind fun c w1 => if c = true then a σ w1 else b σ w1
section
variable {S : Stat} {pos : Pos} {a b c : Expr} {ma mb : ME} {ta tb : MT} {rest : List Expr}
/-- the pattern of all these: a part, then the rest -/
theorem lowE_bind {α : Type} {K : PySem.W.Frag} {E : XK} {m : ME} {f : Sg → D → W → Res α} {I : List Addr} {F G H : Hp} {ds : Sg} {w : W} {σ : L2.St} {R : List Addr → Hp → Hp → α → W → Prop} (rel : Rel K I F G w H) (rs : RepS K I F ds σ)
    (p : Post K I F G E R ((m ds w).bind (f ds))) {Q : VK} (k : ∀ I1 F1 H1 x w1 v, Ext I F I1 F1 → Rel K I1 F1 G w1 H1 → RepS K I1 F1 ds σ → RepV K I1 F1 x v → Post K I1 F1 G E R (f ds x w1) → Q v H1) : lowE K E m σ H Q :=
  ⟨I, F, G, ds, w, rel, rs, (Post.bind p).mono fun I1 F1 H1 x w1 _ e1 rel1 p1 v rv => k I1 F1 H1 x w1 v e1 rel1 (rs.ext e1) rv p1⟩
theorem lowT_bind {α : Type} {K : PySem.W.Frag} {E : XK} {m : MT} {f : Sg → Bool → W → Res α} {I : List Addr} {F G H : Hp} {ds : Sg} {w : W} {σ : L2.St} {R : List Addr → Hp → Hp → α → W → Prop} (rel : Rel K I F G w H) (rs : RepS K I F ds σ)
    (p : Post K I F G E R ((m ds w).bind (f ds))) {Q : Bool → Hp → Prop} (k : ∀ I1 F1 H1 c w1, Ext I F I1 F1 → Rel K I1 F1 G w1 H1 → RepS K I1 F1 ds σ → Post K I1 F1 G E R (f ds c w1) → Q c H1) : lowT K E m σ H Q :=
  ⟨I, F, G, ds, w, rel, rs, (Post.bind p).mono fun I1 F1 H1 x w1 _ e1 rel1 p1 => k I1 F1 H1 x w1 e1 rel1 (rs.ext e1) p1⟩
theorem lowA_bind {α : Type} {K : PySem.W.Frag} {E : XK} {m : MA} {f : Sg → List D → W → Res α} {I : List Addr} {F G H : Hp} {ds : Sg} {w : W} {σ : L2.St} {R : List Addr → Hp → Hp → α → W → Prop} (rel : Rel K I F G w H) (rs : RepS K I F ds σ)
    (p : Post K I F G E R ((m ds w).bind (f ds))) {Q : List V → Hp → Prop} (k : ∀ I1 F1 H1 xs w1 vs, Ext I F I1 F1 → Rel K I1 F1 G w1 H1 → RepS K I1 F1 ds σ → RepL K I1 F1 xs vs → Post K I1 F1 G E R (f ds xs w1) → Q vs H1) : lowA K E m σ H Q :=
  ⟨I, F, G, ds, w, rel, rs, (Post.bind p).mono fun I1 F1 H1 x w1 _ e1 rel1 p1 v rv => k I1 F1 H1 x w1 v e1 rel1 (rs.ext e1) rv p1⟩
theorem Post.okE {K : PySem.W.Frag} {I : List Addr} {F G H : Hp} {E : XK} {Q : VK} {d : D} {w : W} (p : Post K I F G E (RV K Q) (.ok d w)) (rel : Rel K I F G w H) {v : V} (h : RepV K I F d v) : Q v H := p I F H .refl rel v h
theorem Post.okB {K : PySem.W.Frag} {I : List Addr} {F G H : Hp} {E : XK} {Q : Bool → Hp → Prop} {b : Bool} {w : W} (p : Post K I F G E (RB Q) (.ok b w)) (rel : Rel K I F G w H) : Q b H := p I F H .refl rel
theorem Post.truth {α : Type} {K : PySem.W.Frag} {I : List Addr} {F G H : Hp} {E : XK} {R : List Addr → Hp → Hp → α → W → Prop} {d : D} {w : W} {v : V} {f : Bool → W → Res α} (p : Post K I F G E R ((truthM d w).bind f)) (rel : Rel K I F G w H) (h : RepV K I F d v) :
    ∃ b, TruV K v H b ∧ Post K I F G E R (f b w) := by
  unfold truthM at p
  split at p
  · rename_i b e
    exact ⟨b, truV_of rel h e, p⟩
  · exact p.elim
/-- any expression as a test, by its truth -/
theorem jt_truth (ha : JE S a ma) (he : ∀ (env : Env) (whole : Sem Value), isTrue a env whole = (do let v ← whole; standAt a.pos; holding [v] (truthy v)) := by intro _ _; rfl) : JT S a (tTru ma) := fun X E cx xo =>
  pt_weak (pt_truth (ha X E cx xo) (he X.env)) fun σ H Q ⟨I, F, G, ds, w, rel, rs, p⟩ => lowE_bind (f := fun _ => truthM) rel rs p fun I1 F1 H1 x w1 v e1 rel1 rs1 rv p1 => by
    have p2 : Post X.K I1 F1 G E (RB Q) ((truthM x w1).bind fun b w => .ok b w) := by
      cases h : truthM x w1 <;> rw [h] at p1 <;> exact p1
    obtain ⟨b, hb, p3⟩ := p2.truth rel1 rv
    exact ⟨b, hb, p3.okB rel1⟩
theorem jt_w (h : JW S a ta) : JT S a ta := fun X E cx xo => (h X E cx xo).pt
theorem jw_and1 (ha : JT S a ta) : JW S (.BoolOp .And [a] pos) ta := fun X E cx xo => pw_and1 (ha X E cx xo)
theorem jw_or1 (ha : JT S a ta) : JW S (.BoolOp .Or [a] pos) ta := fun X E cx xo => pw_or1 (ha X E cx xo)
theorem jw_and (ha : JT S a ta) (hb : JW S (.BoolOp .And (b :: rest) pos) tb) : JW S (.BoolOp .And (a :: b :: rest) pos) (tAndM ta tb) := fun X E cx xo =>
  pw_weak (pw_and (ha X E cx xo) (hb X E cx xo)) fun σ H Q ⟨I, F, G, ds, w, rel, rs, p⟩ => lowT_bind (f := fun ds c w1 => if c = true then tb ds w1 else .ok false w1) rel rs p fun I1 F1 H1 c w1 e1 rel1 rs1 p1 => by
    cases c with
    | true => exact ⟨I1, F1, G, ds, w1, rel1, rs1, p1⟩
    | false => exact p1.okB rel1
theorem jw_or (ha : JT S a ta) (hb : JW S (.BoolOp .Or (b :: rest) pos) tb) : JW S (.BoolOp .Or (a :: b :: rest) pos) (tOrM ta tb) := fun X E cx xo =>
  pw_weak (pw_or (ha X E cx xo) (hb X E cx xo)) fun σ H Q ⟨I, F, G, ds, w, rel, rs, p⟩ => lowT_bind (f := fun ds c w1 => if c = true then .ok true w1 else tb ds w1) rel rs p fun I1 F1 H1 c w1 e1 rel1 rs1 p1 => by
    cases c with
    | true => exact p1.okB rel1
    | false => exact ⟨I1, F1, G, ds, w1, rel1, rs1, p1⟩
theorem jt_not (ha : JT S a ta) : JT S (.UnaryOp .Not a pos) (tNotM ta) := fun X E cx xo =>
  pt_weak (pt_not (ha X E cx xo)) fun σ H Q ⟨I, F, G, ds, w, rel, rs, p⟩ => lowT_bind (f := fun _ c w1 => .ok (!c) w1) rel rs p fun I1 F1 H1 c w1 e1 rel1 rs1 p1 => p1.okB rel1
theorem je_one {op : BoolOp} (h : JE S a ma) : JE S (.BoolOp op [a] pos) ma := fun X E cx xo => pe_one (h X E cx xo)
theorem je_and (ha : JE S a ma) (hb : JE S (.BoolOp .And (b :: rest) pos) mb) : JE S (.BoolOp .And (a :: b :: rest) pos) (eAnd ma mb) := fun X E cx xo =>
  pe_weak (pe_andT (ha X E cx xo) (hb X E cx xo)) fun σ H Q ⟨I, F, G, ds, w, rel, rs, p⟩ => lowE_bind (f := fun ds x w1 => (truthM x w1).bind fun c _ => if c = true then mb ds w1 else .ok x w1) rel rs p fun I1 F1 H1 x w1 v e1 rel1 rs1 rv p1 => by
    obtain ⟨k, hk, p2⟩ := p1.truth rel1 rv
    refine ⟨k, hk, ?_⟩
    cases k with
    | true => exact ⟨I1, F1, G, ds, w1, rel1, rs1, p2⟩
    | false => exact p2.okE rel1 rv
theorem je_or (ha : JE S a ma) (hb : JE S (.BoolOp .Or (b :: rest) pos) mb) : JE S (.BoolOp .Or (a :: b :: rest) pos) (eOr ma mb) := fun X E cx xo =>
  pe_weak (pe_orT (ha X E cx xo) (hb X E cx xo)) fun σ H Q ⟨I, F, G, ds, w, rel, rs, p⟩ => lowE_bind (f := fun ds x w1 => (truthM x w1).bind fun c _ => if c = true then .ok x w1 else mb ds w1) rel rs p fun I1 F1 H1 x w1 v e1 rel1 rs1 rv p1 => by
    obtain ⟨k, hk, p2⟩ := p1.truth rel1 rv
    refine ⟨k, hk, ?_⟩
    cases k with
    | true => exact p2.okE rel1 rv
    | false => exact ⟨I1, F1, G, ds, w1, rel1, rs1, p2⟩
theorem je_not (ha : JE S a ma) : JE S (.UnaryOp .Not a pos) (eUn notM ma) := fun X E cx xo =>
  pe_weak (pe_notT (ha X E cx xo)) fun σ H Q ⟨I, F, G, ds, w, rel, rs, p⟩ => lowE_bind (f := fun _ => notM) rel rs p fun I1 F1 H1 x w1 v e1 rel1 rs1 rv p1 => by
    obtain ⟨k, hk, p2⟩ := Post.truth p1 rel1 rv
    exact ⟨k, hk, p2.okE rel1 (by simp [RepV])⟩
theorem je_if (ht : JT S c ta) (ha : JE S a ma) (hb : JE S b mb) : JE S (.IfExp c a b pos) (eIf ta ma mb) := fun X E cx xo =>
  pe_weak (pe_ifExp (ht X E cx xo) (ha X E cx xo) (hb X E cx xo)) fun σ H Q ⟨I, F, G, ds, w, rel, rs, p⟩ => lowT_bind (f := fun ds c w1 => if c = true then ma ds w1 else mb ds w1) rel rs p fun I1 F1 H1 c w1 e1 rel1 rs1 p1 => by
    cases c with
    | true => exact ⟨I1, F1, G, ds, w1, rel1, rs1, p1⟩
    | false => exact ⟨I1, F1, G, ds, w1, rel1, rs1, p1⟩
end

/-! ### arguments, displays -/
def aNil : MA := fun _ w => .ok [] w
def aCons (a : ME) (r : MA) : MA := fun σ w => (a σ w).bind fun x w1 => (r σ w1).bind fun xs w2 => .ok (x :: xs) w2
def eTup (a : MA) : ME := fun σ w => (a σ w).bind fun xs w1 => if xs.length ≤ sizeLine then .ok (.tup xs) w1 else .bad
/-- a list that is never changed -/
def eLst (a : MA) : ME := fun σ w => (a σ w).bind fun xs w1 => if xs.length ≤ sizeLine then .ok (.lst xs) w1 else .bad
/-- a list that may be changed -/
def eNew (a : MA) : ME := fun σ w => (a σ w).bind fun xs w1 => if xs.length ≤ sizeLine then .ok (.ref w1.length) (w1 ++ [.lst xs]) else .bad
/-- a new mutable object -/
theorem new_obj {K : PySem.W.Frag} {I : List Addr} {F G H : Hp} {E : XK} {w : W} {o : MO} {u : HO} {Q : VK} (rel : Rel K I F G w H) (r : RepO K I F o u) (p : Post K I F G E (RV K Q) (.ok (.ref w.length) (w ++ [o]))) : ∀ q, H q = none → Q (.ref q) (upd H q u) := fun q hq => by
  have hF : F q = none := by
    cases h : F q with
    | none => rfl
    | some u => rw [rel.fz _ _ h] at hq; cases hq
  have hI : q ∉ I := fun z => by
    obtain ⟨i, hi⟩ := List.mem_iff_getElem?.mp z
    have hl : i < w.length := by rw [← rel.len]; exact (List.getElem?_eq_some_iff.mp hi).1
    obtain ⟨u, h3, _⟩ := rel.ob i q _ hi (List.getElem?_eq_getElem hl)
    rw [h3] at hq; cases hq
  have e : Ext I F (I ++ [q]) F := ⟨List.prefix_append _ _, fun _ _ h => h⟩
  refine p (I ++ [q]) F (upd H q u) e ⟨by simp [rel.len], ?_, fun i a o' h1 h2 => ?_, fun a u' h => ?_, fun i a o' h h0 hf => ?_, fun a u' h => ?_, fun a u' h => ?_⟩ _ ?_
  · rw [List.nodup_append]
    exact ⟨rel.nd, by simp, fun a ha b hb => by simp at hb; subst hb; exact fun z => hI (z ▸ ha)⟩
  · by_cases hi : i < I.length
    · rw [List.getElem?_append_left hi] at h1
      rw [List.getElem?_append_left (by rw [← rel.len]; exact hi)] at h2
      obtain ⟨u', h3, h4⟩ := rel.ob i a o' h1 h2
      exact ⟨u', by rw [upd_ne (ne_of_none h3 hq)]; exact h3, RepO.ext e h4⟩
    · have hi2 : i = I.length := by
        have := (List.getElem?_eq_some_iff.mp h1).1
        simp at this; omega
      subst hi2
      rw [List.getElem?_append_right (Nat.le_refl _)] at h1
      simp at h1
      rw [rel.len, List.getElem?_append_right (Nat.le_refl _)] at h2
      simp at h2
      subst h1 h2
      exact ⟨u, upd_same, RepO.ext e r⟩
  · rw [upd_ne (ne_of_none h hF)]; exact rel.fz a u' h
  · by_cases hi : i < I.length
    · rw [List.getElem?_append_left hi] at h
      rw [List.getElem?_append_left (by rw [← rel.len]; exact hi)] at h0
      exact rel.ap i a o' h h0 hf
    · have hi2 : i = I.length := by
        have := (List.getElem?_eq_some_iff.mp h).1
        simp at this; omega
      subst hi2
      rw [List.getElem?_append_right (Nat.le_refl _)] at h
      simp at h
      subst h; exact hF
  · rw [upd_ne (ne_of_none (rel.gz a u' h) hq)]; exact rel.gz a u' h
  · refine ⟨(rel.gf a u' h).1, fun z => ?_⟩
    rcases List.mem_append.mp z with z | z
    · exact (rel.gf a u' h).2 z
    · simp at z; subst z; rw [rel.gz a u' h] at hq; cases hq
  · simp only [RepV]
    refine ⟨q, rfl, ?_⟩
    rw [← rel.len, List.getElem?_append_right (Nat.le_refl _)]
    simp
section
variable {S : Stat} {pos : Pos} {e : Expr} {es : List Expr} {m : ME} {ma : MA}
theorem ja_nil : JA S [] aNil := fun X E cx xo => pa_weak pa_nil fun σ H Q ⟨I, F, G, ds, w, rel, rs, p⟩ => p I F H .refl rel [] (by simp [RepL])
theorem ja_cons (he : JE S e m) (hr : JA S es ma) (hs : ∀ env : Env, starEach (e :: es) env = (false, eval e env) :: starEach es env := by intro _; rfl) : JA S (e :: es) (aCons m ma) := fun X E cx xo =>
  pa_weak (pa_cons (he X E cx xo) (hr X E cx xo) (hs X.env)) fun σ H Q ⟨I, F, G, ds, w, rel, rs, p⟩ =>
    lowE_bind (f := fun ds x w1 => (ma ds w1).bind fun xs w2 => .ok (x :: xs) w2) rel rs p fun I1 F1 H1 x w1 v e1 rel1 rs1 rv p1 =>
      lowA_bind (f := fun _ xs w2 => .ok (x :: xs) w2) rel1 rs1 p1 fun I2 F2 H2 xs w2 vs e2 rel2 rs2 rvs p2 => p2 I2 F2 H2 .refl rel2 _ (RepL.cons (RepV.ext e2 _ _ rv) rvs)
theorem je_tup {k : Nat} (h : JA S es ma) : JE S (.Tuple es k pos) (eTup ma) := fun X E cx xo =>
  pe_weak (pe_tup (h X E cx xo)) fun σ H Q ⟨I, F, G, ds, w, rel, rs, p⟩ =>
    lowA_bind (f := fun _ xs w1 => if xs.length ≤ sizeLine then Res.ok (D.tup xs) w1 else .bad) rel rs p fun I1 F1 H1 xs w1 vs e1 rel1 rs1 rvs p1 => by
      split at p1
      · rename_i hl
        exact ⟨by rw [← rvs.length]; exact hl, new_tup rel1 rvs p1⟩
      · exact p1.elim
theorem je_lst (h : JA S es ma) : JE S (.List es pos) (eLst ma) := fun X E cx xo =>
  pe_weak (pe_lst (h X E cx xo)) fun σ H Q ⟨I, F, G, ds, w, rel, rs, p⟩ =>
    lowA_bind (f := fun _ xs w1 => if xs.length ≤ sizeLine then Res.ok (D.lst xs) w1 else .bad) rel rs p fun I1 F1 H1 xs w1 vs e1 rel1 rs1 rvs p1 => by
      split at p1
      · rename_i hl
        exact ⟨by rw [← rvs.length]; exact hl, new_lst rel1 rvs p1⟩
      · exact p1.elim
theorem je_new (h : JA S es ma) : JE S (.List es pos) (eNew ma) := fun X E cx xo =>
  pe_weak (pe_lst (h X E cx xo)) fun σ H Q ⟨I, F, G, ds, w, rel, rs, p⟩ =>
    lowA_bind (f := fun _ xs w1 => if xs.length ≤ sizeLine then Res.ok (D.ref w1.length) (w1 ++ [.lst xs]) else .bad) rel rs p fun I1 F1 H1 xs w1 vs e1 rel1 rs1 rvs p1 => by
      split at p1
      · rename_i hl
        exact ⟨by rw [← rvs.length]; exact hl, new_obj (o := .lst xs) rel1 ⟨vs, rfl, rvs⟩ p1⟩
      · exact p1.elim
end

/-! ### statements -/
def sNext : MS := fun σ w => .ok (.nx σ) w
def sSeq (a b : MS) : MS := fun σ w => (a σ w).bind fun f w1 => match f with
  | .nx σ1 => b σ1 w1
  | f => .ok f w1
def sRet (e : ME) : MS := fun σ w => (e σ w).bind fun d w1 => .ok (.rt d) w1
def sDrop (e : ME) : MS := fun σ w => (e σ w).bind fun _ w1 => .ok (.nx σ) w1
def sIf (t : MT) (a b : MS) : MS := fun σ w => (t σ w).bind fun c w1 => if c = true then a σ w1 else b σ w1
/-- targets: what a value does to the slots and the heap -/
abbrev MG := D → Sg → W → Res Sg
def gNm (i : Nat) : MG := fun d σ w => .ok (σ.set i (some d)) w
def sAsg (e : ME) (g : MG) : MS := fun σ w => (e σ w).bind fun d w1 => (g d σ w1).bind fun σ2 w2 => .ok (.nx σ2) w2
def sBrk : MS := fun σ w => .ok (.bk σ) w
def sCont : MS := fun σ w => .ok (.ct σ) w
def sBad : MS := fun _ _ => .bad
def RSg (K : PySem.W.Frag) (Q : L2.St → Hp → Prop) : List Addr → Hp → Hp → Sg → W → Prop := fun I' F' H' s _ => ∀ s', RepS K I' F' s s' → Q s' H'
def lowG (K : PySem.W.Frag) (E : XK) (g : MG) : TG := fun v σ H Q => ∃ I F G d ds w, Rel K I F G w H ∧ RepS K I F ds σ ∧ RepV K I F d v ∧ Post K I F G E (RSg K Q) (g d ds w)
def JG (S : Stat) (t : Expr) (g : MG) : Prop := ∀ X E, Ctx S X → XOk X E → PG X t (lowG X.K E g)
theorem pg_weak {X : Cx} {e : Expr} {t t' : TG} (h : PG X e t) (k : ∀ v σ H Q, t' v σ H Q → t v σ H Q) : PG X e t' := ⟨fun pins s σ H v u Q I r q => h.run pins s σ H v u Q I r (k v σ H Q q)⟩
section
variable {S : Stat} {pos pos' : Pos} {e : Expr} {st : Stmt} {sts : List Stmt} {m : ME} {a b : MS} {g : MG} {t : MT}
theorem jss_nil : JSs S [] sNext := fun X E cx xo => pss_weak pss_nil fun Z σ H ⟨I, F, G, ds, w, rel, rs, p⟩ => p I F H .refl rel _ rs
/-- behind a statement that goes on -/
theorem lowS_seq {K : PySem.W.Frag} {E : XK} {Z : Ends} {σ : L2.St} {H : Hp} (h : lowS K E (sSeq a b) Z σ H) : lowS K E a { Z with nx := lowS K E b Z } σ H := by
  obtain ⟨I, F, G, ds, w, rel, rs, p⟩ := h
  refine ⟨I, F, G, ds, w, rel, rs, (Post.bind p).mono fun I1 F1 H1 f w1 _ e1 rel1 p1 => ?_⟩
  cases f with
  | nx s => exact fun s' rs' => ⟨I1, F1, G, s, w1, rel1, rs', p1⟩
  | rt d => exact fun v rv => p1 I1 F1 H1 .refl rel1 v rv
  | bk s => exact fun s' rs' => p1 I1 F1 H1 .refl rel1 s' rs'
  | ct s => exact fun s' rs' => p1 I1 F1 H1 .refl rel1 s' rs'
theorem jss_cons (h1 : JS S st a) (h2 : JSs S sts b) : JSs S (st :: sts) (sSeq a b) := fun X E cx xo =>
  pss_weak (pss_cons (h1 X E cx xo) (h2 X E cx xo)) fun Z σ H h => lowS_seq h
theorem jss_one (h1 : JS S st a) : JSs S [st] a := fun X E cx xo => pss_one (h1 X E cx xo)
theorem js_ret (he : JE S e m) : JS S (.Return (some e) pos) (sRet m) := fun X E cx xo =>
  ps_weak (ps_ret (he X E cx xo)) fun Z σ H ⟨I, F, G, ds, w, rel, rs, p⟩ => lowE_bind (f := fun _ d w1 => Res.ok (Fl.rt d) w1) rel rs p fun I1 F1 H1 x w1 v e1 rel1 rs1 rv p1 => p1 I1 F1 H1 .refl rel1 v rv
theorem js_retN : JS S (.Return none pos) (sRet (eC .non)) := fun X E cx xo =>
  ps_weak ps_retN fun Z σ H ⟨I, F, G, ds, w, rel, rs, p⟩ => p I F H .refl rel .non (by simp [RepV])
theorem js_drop (he : JE S e m) (hs : ∀ env : Env, swapsWith e none pos.line env = pure false := by intro _; rfl) : JS S (.Expr e pos) (sDrop m) := fun X E cx xo =>
  ps_weak (ps_expr (he X E cx xo) (hs X.env)) fun Z σ H ⟨I, F, G, ds, w, rel, rs, p⟩ => lowE_bind (f := fun ds _ w1 => Res.ok (Fl.nx ds) w1) rel rs p fun I1 F1 H1 x w1 v e1 rel1 rs1 rv p1 => p1 I1 F1 H1 .refl rel1 σ rs1
theorem js_if {x : Expr} {sa sb : List Stmt} (ht : JT S x t) (ha : JSs S sa a) (hb : JSs S sb b) : JS S (.If x sa sb pos) (sIf t a b) := fun X E cx xo =>
  ps_weak (ps_if (ht X E cx xo) (ha X E cx xo) (hb X E cx xo)) fun Z σ H ⟨I, F, G, ds, w, rel, rs, p⟩ => lowT_bind (f := fun ds c w1 => if c = true then a ds w1 else b ds w1) rel rs p fun I1 F1 H1 c w1 e1 rel1 rs1 p1 => by
    cases c with
    | true => exact ⟨I1, F1, G, ds, w1, rel1, rs1, p1⟩
    | false => exact ⟨I1, F1, G, ds, w1, rel1, rs1, p1⟩
theorem js_pass : JS S (.Pass pos) sNext := fun X E cx xo => ps_weak ps_pass fun Z σ H ⟨I, F, G, ds, w, rel, rs, p⟩ => p I F H .refl rel _ rs
theorem js_brk : JS S (.Break pos) sBrk := fun X E cx xo => ps_weak ps_break fun Z σ H ⟨I, F, G, ds, w, rel, rs, p⟩ => p I F H .refl rel _ rs
theorem js_cont : JS S (.Continue pos) sCont := fun X E cx xo => ps_weak ps_continue fun Z σ H ⟨I, F, G, ds, w, rel, rs, p⟩ => p I F H .refl rel _ rs
theorem js_bad : JS S st sBad := fun X E cx xo => ps_weak ps_never fun Z σ H ⟨I, F, G, ds, w, rel, rs, p⟩ => p.elim
theorem js_doc {x : Str} {j : Nat} : JS S (.Expr (.Constant (.str x) j pos) pos') sNext := fun X E cx xo => ps_weak ps_doc fun Z σ H ⟨I, F, G, ds, w, rel, rs, p⟩ => p I F H .refl rel _ rs
/-- a name that may be stored -/
def Sto (S : Stat) (x : Str) : Prop := Loc S.sc x ∧ (S.fn x = true ∨ S.sc.names.lookup x = some .local)
theorem jg_name {i : Nat} {x : Str} (hi : S.N[i]? = some x) (hx : Sto S x) : JG S (.Name x pos) (gNm i) := fun X E cx xo =>
  pg_weak (pg_name (i := i) (x := x) cx.nd (by rw [cx.N]; exact hi) (by rw [cx.sc]; exact hx.1) (by rw [cx.sc]; exact hx.2.imp (cx.fn x) id)) fun v σ H Q ⟨I, F, G, d, ds, w, rel, rs, rv, p⟩ => p I F H .refl rel _ (rs.set i rv)
theorem low_asg {K : PySem.W.Frag} {E : XK} {Z : Ends} {σ : L2.St} {H : Hp} (h : lowS K E (sAsg m g) Z σ H) : lowE K E m σ H fun v H1 => lowG K E g v σ H1 Z.nx := by
  obtain ⟨I, F, G, ds, w, rel, rs, p⟩ := h
  exact lowE_bind (f := fun ds d w1 => (g d ds w1).bind fun σ2 w2 => Res.ok (Fl.nx σ2) w2) rel rs p fun I1 F1 H1 x w1 v e1 rel1 rs1 rv p1 =>
    ⟨I1, F1, G, x, ds, w1, rel1, rs1, rv, (Post.bind p1).mono fun I2 F2 H2 s w2 _ e2 rel2 p2 s' rs2 => p2 I2 F2 H2 .refl rel2 s' rs2⟩
/-- name = value -/
theorem js_set {i : Nat} {x : Str} (hi : S.N[i]? = some x) (hx : Sto S x) (he : JE S e m) (hs : ∀ env : Env, swapsWith e (some (.Name x pos')) pos.line env = pure false := by intro _; rfl) : JS S (.Assign [.Name x pos'] e pos) (sAsg m (gNm i)) := fun X E cx xo =>
  ps_weak (ps_set (i := i) (x := x) cx.nd (by rw [cx.N]; exact hi) (by rw [cx.sc]; exact hx.1) (he X E cx xo) (hs X.env) (by rw [cx.sc]; exact hx.2.imp (cx.fn x) id)) fun Z σ H ⟨I, F, G, ds, w, rel, rs, p⟩ =>
    lowE_bind (f := fun ds d w1 => (gNm i d ds w1).bind fun σ2 w2 => Res.ok (Fl.nx σ2) w2) rel rs p fun I1 F1 H1 x w1 v e1 rel1 rs1 rv p1 => p1 I1 F1 H1 .refl rel1 _ (rs1.set i rv)
/-- target = value -/
theorem js_asg {tg : Expr} (he : JE S e m) (hg : JG S tg g) (hs : ∀ env : Env, swapsWithSole [tg] e pos.line env = pure false := by intro _; rfl) (hw : ∀ env : Env, swappedStores [tg] e env = pure none := by intro _; rfl)
    (h1 : ∀ env : Env, (assignEach [tg] env).map (·.2) = [assign tg env] := by intro _; rfl) : JS S (.Assign [tg] e pos) (sAsg m g) := fun X E cx xo =>
  ps_weak (ps_asg (he X E cx xo) (hg X E cx xo) (hs X.env) (hw X.env) (h1 X.env)) fun Z σ H h => low_asg h
end
/-- targets of a tuple, one after another -/
abbrev MGs := List D → Sg → W → Res Sg
def gsNil : MGs := fun ds σ w => match ds with
  | [] => .ok σ w
  | _ => .bad
def gsCons (g : MG) (r : MGs) : MGs := fun ds σ w => match ds with
  | d :: ds => (g d σ w).bind fun σ1 w1 => r ds σ1 w1
  | [] => .bad
/-- (a, b, ..) = a tuple of that length -/
def gTupM (n : Nat) (r : MGs) : MG := fun d σ w => match d with
  | .tup xs => if xs.length = n then r xs σ w else .bad
  | .ktp xs => if xs.length = n then r xs σ w else .bad
  | _ => .bad
def lowGs (K : PySem.W.Frag) (E : XK) (g : MGs) : TGs := fun vs σ H Q => ∃ I F G xs ds w, Rel K I F G w H ∧ RepS K I F ds σ ∧ RepL K I F xs vs ∧ Post K I F G E (RSg K Q) (g xs ds w)
def JGs (S : Stat) (ts : List Expr) (g : MGs) : Prop := ∀ X E, Ctx S X → XOk X E → PGs X ts (lowGs X.K E g)
theorem pgs_weak {X : Cx} {e : List Expr} {t t' : TGs} (h : PGs X e t) (k : ∀ v σ H Q, t' v σ H Q → t v σ H Q) : PGs X e t' := ⟨fun pins s σ H v u Q I r q => h.run pins s σ H v u Q I r (k v σ H Q q)⟩
section
variable {S : Stat} {pos pos' : Pos} {e : Expr} {es : List Expr} {g : MG} {r : MGs}
theorem jgs_nil : JGs S [] gsNil := fun X E cx xo => pgs_weak pgs_nil fun vs σ H Q ⟨I, F, G, xs, ds, w, rel, rs, rv, p⟩ => by
  cases xs with
  | nil =>
    simp only [RepL] at rv
    exact ⟨rv, p I F H .refl rel _ rs⟩
  | cons => exact p.elim
theorem jgs_cons (h1 : JG S e g) (h2 : JGs S es r) (hs : ∀ env : Env, (assignEach (e :: es) env).map (·.2) = assign e env :: (assignEach es env).map (·.2) := by intro _; rfl) : JGs S (e :: es) (gsCons g r) := fun X E cx xo =>
  pgs_weak (pgs_cons (h1 X E cx xo) (h2 X E cx xo) (hs X.env)) fun vs σ H Q ⟨I, F, G, xs, ds, w, rel, rs, rv, p⟩ => by
    cases xs with
    | nil => exact p.elim
    | cons x xs =>
      simp only [RepL] at rv
      obtain ⟨v, t, rfl, rv1, rvs⟩ := rv
      exact ⟨v, t, rfl, I, F, G, x, ds, w, rel, rs, rv1, (Post.bind p).mono fun I1 F1 H1 s w1 _ e1 rel1 p1 s' rs1 => ⟨I1, F1, G, xs, s, w1, rel1, rs1, RepL.ext e1 _ _ rvs, p1⟩⟩
theorem jg_tup {k n : Nat} (h : JGs S es r) (hn : ∀ env : Env, (assignEach es env).length = n := by intro _; rfl) (hst : ∀ env : Env, (assignEach es env).findIdx? (·.1) = none := by intro _; rfl) : JG S (.Tuple es k pos) (gTupM n r) := fun X E cx xo =>
  pg_weak (pg_tup cx.calm (h X E cx xo) (hn X.env) (hst X.env)) fun v σ H Q ⟨I, F, G, d, ds, w, rel, rs, rv, p⟩ => by
    cases d <;> first | exact p.elim | skip
    all_goals
      rename_i xs
      simp only [RepV] at rv
      obtain ⟨a, vs, rfl, h1, h2⟩ := rv
      simp only [gTupM] at p
      split at p
      · rename_i hl
        exact ⟨a, vs, rfl, (by first | exact .of (rel.fz _ _ h1) | exact rel.sqT h1), by rw [← h2.length]; exact hl, I, F, G, xs, ds, w, rel, rs, h2, p⟩
      · exact p.elim
end
end Pc

set_option Elab.async false
set_option linter.all false
set_option maxRecDepth 100000
set_option maxHeartbeats 4000000
set_option autoImplicit false
/-! Pc, part E: defs and their calls. -/
namespace Pc
open PySem PySem.Spec PyProof.Rows L2

/-! ### what hangs on no object from n on -/
mutual
def D.cl (n : Nat) : D → Bool
  | .tup xs => D.cls n xs
  | .lst xs => D.cls n xs
  | .scr xs => D.cls n xs
  | .ktp xs => D.cls n xs
  | .dct ks xs => D.cls n ks && D.cls n xs
  | .ref i => decide (i < n)
  | .non => true
  | .bl _ => true
  | .int _ => true
  | .str _ => true
  | .ty _ => true
  | .con _ => true
def D.cls (n : Nat) : List D → Bool
  | [] => true
  | d :: ds => D.cl n d && D.cls n ds
end
def MO.cl (n : Nat) : MO → Bool
  | .lst xs => D.cls n xs
  | .dK kvs => D.cls n (kvs.map (·.2))
  | .dT kvs => D.cls n (kvs.map (·.2))
  | .dF kvs => D.cls n (kvs.map (·.2))
  | .ins _ fs => D.cls n (fs.map (·.2))
section
variable {K : PySem.W.Frag} {I : List Addr} {F : Hp} {n : Nat}
theorem take_get {n i : Nat} {a : Addr} (h : I[i]? = some a) (hi : i < n) : (I.take n)[i]? = some a := by
  rw [List.getElem?_take_of_lt hi]; exact h
mutual
theorem RepV.cut : ∀ (d : D) (v : V), RepV K I F d v → d.cl n = true → RepV K (I.take n) F d v
  | .non, _, h, _ => by simpa only [RepV] using h
  | .bl _, _, h, _ => by simpa only [RepV] using h
  | .int _, _, h, _ => by simpa only [RepV] using h
  | .str _, _, h, _ => by simpa only [RepV] using h
  | .ty _, _, h, _ => by simpa only [RepV] using h
  | .con _, _, h, _ => by simpa only [RepV] using h
  | .tup xs, v, h, c => by
    simp only [RepV, D.cl] at h c ⊢
    obtain ⟨a, vs, h1, h2, h3⟩ := h
    exact ⟨a, vs, h1, h2, RepL.cut xs vs h3 c⟩
  | .lst xs, v, h, c => by
    simp only [RepV, D.cl] at h c ⊢
    obtain ⟨a, vs, h1, h2, h3⟩ := h
    exact ⟨a, vs, h1, h2, RepL.cut xs vs h3 c⟩
  | .scr xs, v, h, c => by
    simp only [RepV, D.cl] at h c ⊢
    obtain ⟨a, vs, h1, h2, h3⟩ := h
    exact ⟨a, vs, h1, h2, RepL.cut xs vs h3 c⟩
  | .ktp xs, v, h, c => by
    simp only [RepV, D.cl] at h c ⊢
    obtain ⟨a, vs, h1, h2, h3⟩ := h
    exact ⟨a, vs, h1, h2, RepL.cut xs vs h3 c⟩
  | .dct ks xs, v, h, c => by
    simp only [RepV, D.cl, Bool.and_eq_true] at h c ⊢
    obtain ⟨a, kvs, h1, h2, h3, h4⟩ := h
    exact ⟨a, kvs, h1, h2, RepL.cut ks _ h3 c.1, RepL.cut xs _ h4 c.2⟩
  | .ref i, v, h, c => by
    simp only [RepV, D.cl, decide_eq_true_eq] at h c ⊢
    obtain ⟨a, h1, h2⟩ := h
    exact ⟨a, h1, take_get h2 c⟩
theorem RepL.cut : ∀ (ds : List D) (vs : List V), RepL K I F ds vs → D.cls n ds = true → RepL K (I.take n) F ds vs
  | [], _, h, _ => by simpa only [RepL] using h
  | d :: ds, vs, h, c => by
    simp only [RepL, D.cls, Bool.and_eq_true] at h c ⊢
    obtain ⟨v, r, h1, h2, h3⟩ := h
    exact ⟨v, r, h1, RepV.cut d v h2 c.1, RepL.cut ds r h3 c.2⟩
end
theorem RepKs.cut {κ : Type} : ∀ (ds : List (κ × D)) (vs : List (κ × V)), RepKs K I F ds vs → D.cls n (ds.map (·.2)) = true → RepKs K (I.take n) F ds vs
  | [], _, h, _ => by simpa only [RepKs] using h
  | (k, d) :: ds, vs, h, c => by
    simp only [RepKs, List.map_cons, D.cls, Bool.and_eq_true] at h c ⊢
    obtain ⟨v, r, h1, h2, h3⟩ := h
    exact ⟨v, r, h1, RepV.cut d v h2 c.1, RepKs.cut ds r h3 c.2⟩
theorem RepO.cut {o : MO} {u : HO} (h : RepO K I F o u) (c : o.cl n = true) : RepO K (I.take n) F o u := by
  cases o with
  | lst xs => obtain ⟨vs, h1, h2⟩ := h; exact ⟨vs, h1, RepL.cut _ _ h2 c⟩
  | dK xs => obtain ⟨vs, h1, h2⟩ := h; exact ⟨vs, h1, RepKs.cut _ _ h2 c⟩
  | dT xs => obtain ⟨vs, h1, h2⟩ := h; exact ⟨vs, h1, RepKs.cut _ _ h2 c⟩
  | dF xs => obtain ⟨o, vs, h1, h2⟩ := h; exact ⟨o, vs, h1, RepKs.cut _ _ h2 c⟩
  | ins C xs => obtain ⟨dx, vs, h1, h2⟩ := h; exact ⟨dx, vs, h1, RepKs.cut _ _ h2 c⟩
mutual
theorem RepV.cl : ∀ (d : D) (v : V), RepV K I F d v → I.length ≤ n → d.cl n = true
  | .non, _, _, _ => by simp [D.cl]
  | .bl _, _, _, _ => by simp [D.cl]
  | .int _, _, _, _ => by simp [D.cl]
  | .str _, _, _, _ => by simp [D.cl]
  | .ty _, _, _, _ => by simp [D.cl]
  | .con _, _, _, _ => by simp [D.cl]
  | .tup xs, v, h, l => by
    simp only [RepV, D.cl] at h ⊢
    obtain ⟨a, vs, h1, h2, h3⟩ := h
    exact RepL.cl xs vs h3 l
  | .lst xs, v, h, l => by
    simp only [RepV, D.cl] at h ⊢
    obtain ⟨a, vs, h1, h2, h3⟩ := h
    exact RepL.cl xs vs h3 l
  | .scr xs, v, h, l => by
    simp only [RepV, D.cl] at h ⊢
    obtain ⟨a, vs, h1, h2, h3⟩ := h
    exact RepL.cl xs vs h3 l
  | .ktp xs, v, h, l => by
    simp only [RepV, D.cl] at h ⊢
    obtain ⟨a, vs, h1, h2, h3⟩ := h
    exact RepL.cl xs vs h3 l
  | .dct ks xs, v, h, l => by
    simp only [RepV, D.cl, Bool.and_eq_true] at h ⊢
    obtain ⟨a, kvs, h1, h2, h3, h4⟩ := h
    exact ⟨RepL.cl ks _ h3 l, RepL.cl xs _ h4 l⟩
  | .ref i, v, h, l => by
    simp only [RepV, D.cl, decide_eq_true_eq] at h ⊢
    obtain ⟨a, h1, h2⟩ := h
    have := (List.getElem?_eq_some_iff.mp h2).1
    omega
theorem RepL.cl : ∀ (ds : List D) (vs : List V), RepL K I F ds vs → I.length ≤ n → D.cls n ds = true
  | [], _, _, _ => by simp [D.cls]
  | d :: ds, vs, h, l => by
    simp only [RepL, D.cls, Bool.and_eq_true] at h ⊢
    obtain ⟨v, r, h1, h2, h3⟩ := h
    exact ⟨RepV.cl d v h2 l, RepL.cl ds r h3 l⟩
end
theorem RepKs.cl {κ : Type} : ∀ (ds : List (κ × D)) (vs : List (κ × V)), RepKs K I F ds vs → I.length ≤ n → D.cls n (ds.map (·.2)) = true
  | [], _, _, _ => by simp [D.cls]
  | (k, d) :: ds, vs, h, l => by
    simp only [RepKs, List.map_cons, D.cls, Bool.and_eq_true] at h ⊢
    obtain ⟨v, r, h1, h2, h3⟩ := h
    exact ⟨RepV.cl d v h2 l, RepKs.cl ds r h3 l⟩
theorem RepO.cl {o : MO} {u : HO} (h : RepO K I F o u) (l : I.length ≤ n) : o.cl n = true := by
  cases o with
  | lst xs => obtain ⟨vs, h1, h2⟩ := h; exact RepL.cl _ _ h2 l
  | dK xs => obtain ⟨vs, h1, h2⟩ := h; exact RepKs.cl _ _ h2 l
  | dT xs => obtain ⟨vs, h1, h2⟩ := h; exact RepKs.cl _ _ h2 l
  | dF xs => obtain ⟨o, vs, h1, h2⟩ := h; exact RepKs.cl _ _ h2 l
  | ins C xs => obtain ⟨dx, vs, h1, h2⟩ := h; exact RepKs.cl _ _ h2 l
end
/-- what is told: the end r' is r's, and some objects more that nothing told hangs on; w0: the heap ahead -/
def Shut (w0 w : W) : Prop := w0.length ≤ w.length ∧ ∀ (i : Nat) (o : MO), w[i]? = some o → w0[i]? = some o ∨ o.cl w.length = true
def XD.cl (n : Nat) (x : XD) : Bool := match x.fs with
  | none => true
  | some fs => D.cls n (fs.map (·.2))
def Fits (w0 : W) (r r' : Res D) : Prop := match r with
  | .bad => True
  | .ok d w => ∃ g, r' = .ok d (w ++ g) ∧ (g = [] ∨ (d.cl w.length = true ∧ Shut w0 w))
  | .exn x w => ∃ g, r' = .exn x (w ++ g) ∧ (g = [] ∨ (x.cl w.length = true ∧ Shut w0 w))
theorem Fits.rfl' {w0 : W} {r : Res D} : Fits w0 r r := by
  cases r with
  | ok d w => exact ⟨[], by simp, .inl rfl⟩
  | exn x w => exact ⟨[], by simp, .inl rfl⟩
  | bad => trivial
theorem Fits.of_eq {w0 : W} {r r' : Res D} (h : r' = r) : Fits w0 r r' := h ▸ Fits.rfl'
theorem Shut.same {w0 : W} : Shut w0 w0 := ⟨Nat.le_refl _, fun _ _ h => .inl h⟩
/-- the objects that are told alone -/
theorem rel_cut {K : PySem.W.Frag} {I I' : List Addr} {F F' G H H' : Hp} {w0 w g : W} (rel0 : Rel K I F G w0 H) (e : Ext I F I' F') (rel : Rel K I' F' G (w ++ g) H') (s : Shut w0 w) : Ext I F (I'.take w.length) F' ∧ Rel K (I'.take w.length) F' G w H' := by
  have hl : I'.length = w.length + g.length := by rw [rel.len, List.length_append]
  have e2 : Ext I F (I'.take w.length) F' := ⟨by
    obtain ⟨t, rfl⟩ := e.i
    rw [List.take_append, List.take_of_length_le (by rw [rel0.len]; exact s.1)]
    exact List.prefix_append _ _, e.f⟩
  refine ⟨e2, ⟨by simp [hl], rel.nd.sublist (List.take_sublist _ _), fun i a o h1 h2 => ?_, rel.fz, fun i a o h h0 hf => rel.ap i a o (List.getElem?_take_of_lt (List.getElem?_eq_some_iff.mp h0).1 ▸ h) (by rw [List.getElem?_append_left (List.getElem?_eq_some_iff.mp h0).1]; exact h0) hf, rel.gz, fun a u h => ⟨(rel.gf a u h).1, fun z => (rel.gf a u h).2 (List.mem_of_mem_take z)⟩⟩⟩
  have hi : i < w.length := (List.getElem?_eq_some_iff.mp h2).1
  rw [List.getElem?_take_of_lt hi] at h1
  obtain ⟨u, h3, h4⟩ := rel.ob i a o h1 (by rw [List.getElem?_append_left hi]; exact h2)
  refine ⟨u, h3, ?_⟩
  rcases s.2 i o h2 with q | q
  · refine RepO.cut h4 ?_
    have hi0 : i < w0.length := (List.getElem?_eq_some_iff.mp q).1
    obtain ⟨u0, _, h6⟩ := rel0.ob i _ o (List.getElem?_eq_getElem (by rw [rel0.len]; exact hi0)) q
    exact h6.cl (by rw [rel0.len]; exact s.1)
  · exact RepO.cut h4 q
theorem RepX.cut {K : PySem.W.Frag} {I : List Addr} {F H : Hp} {x : XD} {c : Value} {d : Option Addr} {n : Nat} (h : RepX K (I.take n) F H x c d) (hn : n ≤ I.length) : RepX K I F H x c d := by
  have e : Ext (I.take n) F I F := ⟨List.take_prefix _ _, fun _ _ h => h⟩
  obtain ⟨h1, h2⟩ := h
  refine ⟨h1, ?_⟩
  cases hf : x.fs with
  | none => rw [hf] at h2; exact h2
  | some fs =>
    rw [hf] at h2
    obtain ⟨a, r, q1, q2, q3⟩ := h2
    exact ⟨a, r, q1, q2, RepKs.ext e _ _ q3⟩
theorem RepX.cut' {K : PySem.W.Frag} {I : List Addr} {F H : Hp} {x : XD} {c : Value} {d : Option Addr} {n : Nat} (h : RepX K I F H x c d) (hx : x.cl n = true) : RepX K (I.take n) F H x c d := by
  obtain ⟨h1, h2⟩ := h
  refine ⟨h1, ?_⟩
  unfold XD.cl at hx
  cases hf : x.fs with
  | none => rw [hf] at h2; exact h2
  | some fs =>
    rw [hf] at h2 hx
    obtain ⟨a, r, q1, q2, q3⟩ := h2
    exact ⟨a, r, q1, q2, RepKs.cut _ _ q3 hx⟩
theorem Post.fits {K : PySem.W.Frag} {I : List Addr} {F G H : Hp} {E : XK} {Q : VK} {w0 : W} {r r' : Res D} (rel0 : Rel K I F G w0 H) (p : Post K I F G E (RV K Q) r) (f : Fits w0 r r') : Post K I F G E (RV K Q) r' := by
  cases r with
  | bad => exact p.elim
  | ok d w =>
    obtain ⟨g, rfl, hg⟩ := f
    rcases hg with rfl | ⟨hd, hs⟩
    · rw [List.append_nil]; exact p
    · intro I' F' H' e rel v rv
      obtain ⟨e2, rel2⟩ := rel_cut rel0 e rel hs
      exact p _ F' H' e2 rel2 v (RepV.cut d v rv hd)
  | exn x w =>
    obtain ⟨g, rfl, hg⟩ := f
    rcases hg with rfl | ⟨hd, hs⟩
    · rw [List.append_nil]; exact p
    · intro I' F' H' c d e rel rx
      obtain ⟨e2, rel2⟩ := rel_cut rel0 e rel hs
      exact p _ F' H' c d e2 rel2 (RepX.cut' rx hd)

/-! ### a def's promise -/
abbrev MF := List D → W → Res D
def spM (K : PySem.W.Frag) (m : MF) : Sp := fun vs H Q E => ∃ I F G ds w, Rel K I F G w H ∧ RepL K I F ds vs ∧ Post K I F G E (RV K Q) (m ds w)
structure FnG (P : Program) (w : World) (K : PySem.W.Frag) (mg : Str → Option Value) (base : Heap) (k : Nat) (f : Addr) (fd : FuncData) (ps : List Str) (m : MF) : Prop where
  run : ∀ (A : Around) (outer : List Env) (s : Shared) (H : Hp) (args : Args) (us : List Value) (vs : List V) (Q : VK) (E : XK), Room k A → A.guards = some [] → Env0 P w K mg base A outer s H → BindsTo s fd args (ps.zip us) → Vals vs us →
    vs.length = ps.length → spM K m vs H Q E → codeAny (model P w) A (.call (.ref f) args) (CR (L2.CX P w) outer P w H s Q E) s
theorem FnG.mono {P : Program} {w : World} {K : PySem.W.Frag} {mg : Str → Option Value} {base : Heap} {j k : Nat} {f : Addr} {fd : FuncData} {ps : List Str} {m : MF} (G : FnG P w K mg base j f fd ps m) (h : j ≤ k) : FnG P w K mg base k f fd ps m :=
  ⟨fun A outer s H args us vs Q E hr => G.run A outer s H args us vs Q E (hr.mono h)⟩
def begin (N : List Str) (ds : List D) : Sg := ds.map some ++ List.replicate (N.length - ds.length) none
def runB (mb : MS) (N : List Str) (ds : List D) (w : W) : Res D := (mb (begin N ds) w).bind fun f w1 => match f with
  | .nx _ => .ok .non w1
  | .rt d => .ok d w1
  | _ => .bad
theorem RepL.begins {K : PySem.W.Frag} {I : List Addr} {F : Hp} {ds : List D} {vs : List V} (r : RepL K I F ds vs) (N : List Str) : RepS K I F (begin N ds) (L2.start N vs) := by
  unfold begin L2.start
  refine ⟨by simp [r.length], fun i d h => ?_⟩
  by_cases hi : i < ds.length
  · rw [List.getElem?_append_left (by simpa using hi), List.getElem?_map] at h
    cases q : ds[i]? with
    | none => rw [q] at h; cases h
    | some x =>
      rw [q] at h; cases h
      obtain ⟨v, h1, h2⟩ := r.get q
      exact ⟨v, by rw [List.getElem?_append_left (by simpa [← r.length] using hi), List.getElem?_map, h1]; rfl, h2⟩
  · rw [List.getElem?_append_right (by simpa using hi), List.getElem?_replicate] at h
    split at h <;> cases h
/-- the place of a def's body -/
abbrev Stat.body (S : Stat) (k : Nat) (N : List Str) (sc : Scope) : Stat := { S with k := k, N := N, sc := sc, fn := fun _ => true }
theorem FnG.of {S : Stat} {x qual : Str} {params : Arguments} {body : List Stmt} {scope : Scope} {dvs : List V} {kws : List (Str × V)} {f : Addr} {fd : FuncData} {N ps : List Str} {k : Nat} {mb : MS} {m : MF}
    (F : FunD S.K x qual params body scope dvs kws f fd) (Sc : FnScope N ps scope) (hb : JSs (S.body k N scope) body mb) (hm : ∀ ds w, ds.length = ps.length → Fits w (m ds w) (runB mb N ds w)) : FnG S.P S.w S.K S.mg S.base (k + 1) f fd ps m := by
  refine ⟨fun A outer s H args us vs Q E hr hg e0 hbt r hl hsp => ?_⟩
  obtain ⟨oc, od, dV, kV, doc, pm, an, cdv, ct, osl, rfl, lk, hcd, _, _⟩ := F.ex
  have KX : S.K.In s.heap := e0.mod.kin.keeps fun b o e => (e0.bs b o e).1
  have lim : s.heap.NoLimit := e0.mod.nolimit.keeps fun b o e => (e0.bs b o e).1
  have kinds : ∀ y ∈ ps.zip us, scope.names.lookup y.1 = some .local ∨ (scope.names.lookup y.1 = some .cell ∧ ((cellsFrom (s.heap.objs.size + 1) scope.names []).lookup y.1).isSome = true) := by
    rintro ⟨n, v⟩ hy
    have hn : n ∈ ps := (List.of_mem_zip hy).1
    rcases Sc.par n hn with q | q
    · exact Or.inl q
    · exact Or.inr ⟨q, PySem.W.cellsFrom_some _ _ _ (.inl q)⟩
  refine codeAny_call_function hr.depth (KX _ _ lk) rfl Sc.co Sc.gen rfl (PySem.W.codeRec_of KX hcd) (hbt _ _ _ _ ?_)
  refine wpAny_newFunctionEnv_cells Sc.kind kinds fun env he s1 y => ?_
  subst he
  refine ⟨lim.keeps y.toInCall.keep, codeAny_func ?_⟩
  obtain ⟨I, F0, G, ds, w, rel, rl, p⟩ := hsp
  have J : Inv (cxOf (L2.CX S.P S.w) S.P S.w S.K S.mg S.base N qual scope f cdv A outer s H E) [] (start N vs) H s1 := inv_start Sc hr.hd e0 hl r y
  have cx : Ctx (S.body k N scope) (cxOf (L2.CX S.P S.w) S.P S.w S.K S.mg S.base N qual scope f cdv A outer s H E) := ⟨rfl, rfl, rfl, rfl, rfl, rfl, rfl, fun _ _ => rfl, rfl, hr.deeper _, hg, Sc.nd⟩
  have xo : XOk (cxOf (L2.CX S.P S.w) S.P S.w S.K S.mg S.base N qual scope f cdv A outer s H E) E := ⟨takes_of rfl rfl rfl rfl, passes_of rfl⟩
  have p' : Post S.K I F0 G E (RV S.K Q) (runB mb N ds w) := p.fits rel (hm ds w (by rw [rl.length]; exact hl))
  have go := (hb _ E cx xo).run [] s1 (start N vs) H { nx := fun _ H' => Q .non H', rt := Q } J ⟨I, F0, G, begin N ds, w, rel, rl.begins N, (Post.bind p').mono fun I1 F1 H1 fl w1 _ e1 rel1 p1 => ?_⟩
  · refine wpAny_mono go (fun fl s' hs => ?_) fun e s' hs => hs
    cases fl with
    | ret u =>
      obtain ⟨v, σ', H', J', rv, q⟩ := hs
      exact ⟨v, H', J'.os, J'.bare, J'.base, J'.hok, rv, q⟩
    | next =>
      obtain ⟨σ', H', J', q⟩ := hs
      exact ⟨V.non, H', J'.os, J'.bare, J'.base, J'.hok, rfl, q⟩
    | brk =>
      obtain ⟨_, _, _, q⟩ := hs
      exact q.elim
    | cont =>
      obtain ⟨_, _, _, q⟩ := hs
      exact q.elim
  · cases fl with
    | nx z => exact fun s' _ => p1.okE rel1 (by simp [RepV])
    | rt d => exact fun v rv => p1.okE rel1 rv
    | bk z => exact p1.elim
    | ct z => exact p1.elim

/-! ### calls -/
/-- how a call with n values and the keywords ks puts the parameters' values -/
structure BindG (K : PySem.W.Frag) (fd : FuncData) (ps : List Str) (n : Nat) (ks : List Str) (gd : List D → List D → List D) : Prop where
  ex : ∃ (g : List Value → List Value → List Value) (gV : List V → List V → List V), KBn K fd ps n ks g gV ∧
    ∀ I F xs vs zs us, RepL K I F xs vs → RepL K I F zs us → RepL K I F (gd xs zs) (gV vs us)
  len : ∀ xs zs, xs.length = n → zs.length = ks.length → (gd xs zs).length = ps.length
def eCall (m : MF) (n : Nat) (gd : List D → List D → List D) (ma : MA) : ME := fun σ w => (ma σ w).bind fun xs w1 => if xs.length = n then m (gd xs []) w1 else .bad
def eCallK (m : MF) (n j : Nat) (gd : List D → List D → List D) (ma mk : MA) : ME := fun σ w => (ma σ w).bind fun xs w1 => (mk σ w1).bind fun zs w2 => if xs.length = n ∧ zs.length = j then m (gd xs zs) w2 else .bad
def lowK (K : PySem.W.Frag) (E : XK) (m : MA) : TA := lowA K E m
def JK (S : Stat) (kws : List Keyword) (m : MA) : Prop := ∀ X E, Ctx S X → XOk X E → PK X kws (lowA X.K E m)
/-- the callee runs -/
theorem run_G {X : Cx} {pins : List (Addr × Obj)} {σ : L2.St} {H : Hp} {s : Shared} {Q : VK} {E : XK} {k : Nat} {f : Addr} {fd : FuncData} {ps ks : List Str} {m : MF} {n : Nat} {gd : List D → List D → List D} {I : List Addr} {F G : Hp} {xs zs : List D} {w : W} {us ws : List Value} {vs ys : List V}
    (xo : XOk X E) (Gf : FnG X.prog X.w X.K X.mg X.base k f fd ps m) (B : BindG X.K fd ps n ks gd) (hr : Room k X.A) (hg : X.A.guards = some []) (J : Inv X pins σ H s) (rel : Rel X.K I F G w H) (rx : RepL X.K I F xs vs) (rz : RepL X.K I F zs ys)
    (r : Vals vs us) (q : Vals ys ws) (h1 : xs.length = n) (h2 : zs.length = ks.length) (p : Post X.K I F G E (RV X.K Q) (m (gd xs zs) w)) : wpAny (model X.prog X.w) X.A (call (.ref f) us (ks.zip ws)) (EP X pins σ Q) X.xe s := by
  obtain ⟨g, gV, kb, rep⟩ := B.ex
  have r2 := kb.rel r q
  have r3 := rep I F xs vs zs ys rx rz
  have hl : (gV vs ys).length = ps.length := by rw [← r3.length]; exact B.len xs zs h1 h2
  refine wpAny_call (codeAny_mono (Gf.run X.A X.stack s H ⟨us, ks.zip ws⟩ (g us ws) (gV vs ys) Q E hr hg J.env0 (kb.to s us ws J.kIn (by rw [← r.length, ← rx.length]; exact h1) (by rw [← q.length, ← rz.length]; exact h2)) r2 hl ⟨I, F, G, _, w, rel, r3, p⟩) fun fl s' hq => ?_)
  cases fl with
  | error e => exact passes_call xo.tk (fun _ _ _ _ h => h) pins σ H s e s' J hq
  | ok fl =>
    cases fl with
    | ret u => exact J.after hq
    | next => exact hq.elim
    | brk => exact hq.elim
    | cont => exact hq.elim
section
variable {S : Stat} {k n : Nat} {f : Addr} {fd : FuncData} {ps ks : List Str} {m : MF} {gd : List D → List D → List D} {x : Str} {p pos kpos : Pos} {e : Expr} {es : List Expr} {kws : List Keyword} {ma mk : MA} {me : ME} {nm : Option Str}
theorem jk_nil : JK S [] aNil := fun X E cx xo => ⟨fun pos pins s σ H Q J ⟨I, F, G, ds, w, rel, rs, p⟩ => pk_nil.run pos pins s σ H Q J (p I F H .refl rel [] (by simp [RepL]))⟩
theorem jk_cons (he : JE S e me) (hr : JK S kws mk) : JK S (⟨nm, e, kpos⟩ :: kws) (aCons me mk) := fun X E cx xo =>
  ⟨fun pos pins s σ H Q J ⟨I, F, G, ds, w, rel, rs, p⟩ => (pk_cons (he X E cx xo) (hr X E cx xo)).run pos pins s σ H Q J
    (lowE_bind (f := fun ds x w1 => (mk ds w1).bind fun xs w2 => Res.ok (x :: xs) w2) rel rs p fun I1 F1 H1 x w1 v e1 rel1 rs1 rv p1 =>
      lowA_bind (f := fun _ xs w2 => Res.ok (x :: xs) w2) rel1 rs1 p1 fun I2 F2 H2 xs w2 vs e2 rel2 rs2 rvs p2 => p2 I2 F2 H2 .refl rel2 _ (RepL.cons (RepV.ext e2 _ _ rv) rvs))⟩
/-- f(e, ..) -/
theorem je_call (hk : k ≤ S.k) (Gf : FnG S.P S.w S.K S.mg S.base k f fd ps m) (B : BindG S.K fd ps n [] gd) (hg : S.sc.names.lookup x = some .globalImplicit) (hm : S.mg x = some (.ref f)) (kp : PySem.W.keepIn S.K (.ref f) = true) (ha : JA S (e :: es) ma)
    (hdb : (x == ("__debug__" : Str)) = false := by decide) (he : ∀ env : Env, starEach (e :: es) env = (false, eval e env) :: starEach es env := by intro _; rfl) (hpl : ∀ env : Env, (backTo pos (starEach es env)).any (·.1) = false := by intro _; rfl) :
    JE S (.Call (.Name x p) (e :: es) [] pos) (eCall m n gd ma) := fun X E cx xo => by
  refine ⟨fun pins s σ H Q J ⟨I, F, G, ds, w, rel, rs, p⟩ => ?_⟩
  refine wpAny_Call_Name_kw (ld_glob J (by show X.env.scope.names.lookup x = _; rw [cx.sc]; exact hg) (by rw [cx.mg]; exact hm) ?_ hdb)
  refine PySem.W.callWith_K (h₀ := X.base) J.ok.mod.kin (by rw [cx.K]; exact kp) (thn ((ha X E cx xo).run pos pins s σ H _ J (lowA_bind (f := fun _ xs w1 => if xs.length = n then m (gd xs []) w1 else .bad) (Q := fun vs H1 => ∃ I1 F1 xs w1, Rel X.K I1 F1 G w1 H1 ∧ RepL X.K I1 F1 xs vs ∧ xs.length = n ∧ Post X.K I1 F1 G E (RV X.K Q) (m (gd xs []) w1)) rel rs p fun I1 F1 H1 xs w1 vs e1 rel1 rs1 rvs p1 => ?_)) fun us s1 hq => ?_) (he X.env) (hpl X.env)
  · split at p1
    · rename_i hl
      exact ⟨I1, F1, xs, w1, rel1, rvs, hl, p1⟩
    · exact p1.elim
  · obtain ⟨vs, H1, J1, r, I1, F1, xs, w1, rel1, rvs, hl, p1⟩ := hq
    refine ⟨J1.kIn, ?_⟩
    have Gf' : FnG X.prog X.w X.K X.mg X.base k f fd ps m := by rw [cx.P, cx.w, cx.K, cx.mg, cx.base]; exact Gf
    have B' : BindG X.K fd ps n [] gd := by rw [cx.K]; exact B
    exact run_G (ks := []) (ws := []) (zs := []) (ys := []) xo Gf' B' (cx.room.mono hk) cx.gds J1 rel1 rvs (by simp [RepL]) r .nil hl rfl p1
/-- f() -/
theorem je_call0 (hk : k ≤ S.k) (Gf : FnG S.P S.w S.K S.mg S.base k f fd ps m) (B : BindG S.K fd ps 0 [] gd) (hg : S.sc.names.lookup x = some .globalImplicit) (hm : S.mg x = some (.ref f)) (kp : PySem.W.keepIn S.K (.ref f) = true)
    (hdb : (x == ("__debug__" : Str)) = false := by decide) : JE S (.Call (.Name x p) [] [] pos) (eCall m 0 gd aNil) := fun X E cx xo => by
  refine ⟨fun pins s σ H Q J ⟨I, F, G, ds, w, rel, rs, p⟩ => ?_⟩
  refine wpAny_Call_Name_kw (ld_glob J (by show X.env.scope.names.lookup x = _; rw [cx.sc]; exact hg) (by rw [cx.mg]; exact hm) ?_ hdb)
  have Gf' : FnG X.prog X.w X.K X.mg X.base k f fd ps m := by rw [cx.P, cx.w, cx.K, cx.mg, cx.base]; exact Gf
  have B' : BindG X.K fd ps 0 [] gd := by rw [cx.K]; exact B
  exact PySem.W.callWith_K0 J.kIn (by rw [cx.K]; exact kp) (run_G (ks := []) (ws := []) (zs := []) (ys := []) (us := []) (vs := []) (xs := []) xo Gf' B' (cx.room.mono hk) cx.gds J rel (by simp [RepL]) (by simp [RepL]) .nil .nil rfl rfl p)
/-- f(e, .., k = v, ..) -/
theorem je_callK (hk : k ≤ S.k) (Gf : FnG S.P S.w S.K S.mg S.base k f fd ps m) (B : BindG S.K fd ps n ks gd) (hg : S.sc.names.lookup x = some .globalImplicit) (hm : S.mg x = some (.ref f)) (kp : PySem.W.keepIn S.K (.ref f) = true) (ha : JA S (e :: es) ma) (hkw : JK S kws mk)
    (hall : ∀ env : Env, (backToKw pos (keywordEach kws env)).all (·.1.isSome) = true := by intro _; rfl) (hks : ∀ env : Env, (backToKw pos (keywordEach kws env)).filterMap (·.1) = ks := by intro _; rfl)
    (hdb : (x == ("__debug__" : Str)) = false := by decide) (he : ∀ env : Env, starEach (e :: es) env = (false, eval e env) :: starEach es env := by intro _; rfl)
    (hpl : ∀ env : Env, ((backTo pos (starEach (e :: es) env)).any (·.1) || (backToKw pos (keywordEach kws env)).any (·.1.isNone)) = false := by intro _; rfl) :
    JE S (.Call (.Name x p) (e :: es) kws pos) (eCallK m n ks.length gd ma mk) := fun X E cx xo => by
  refine ⟨fun pins s σ H Q J ⟨I, F, G, ds, w, rel, rs, p⟩ => ?_⟩
  refine wpAny_Call_Name_kw (ld_glob J (by show X.env.scope.names.lookup x = _; rw [cx.sc]; exact hg) (by rw [cx.mg]; exact hm) ?_ hdb)
  refine PySem.W.callWith_KW (h₀ := X.base) J.ok.mod.kin (by rw [cx.K]; exact kp) (hall X.env) (thn ((ha X E cx xo).run pos pins s σ H _ J (lowA_bind (f := fun ds xs w1 => (mk ds w1).bind fun zs w2 => if xs.length = n ∧ zs.length = ks.length then m (gd xs zs) w2 else .bad)
    (Q := fun vs H1 => ∃ I1 F1 xs w1, Rel X.K I1 F1 G w1 H1 ∧ RepS X.K I1 F1 ds σ ∧ RepL X.K I1 F1 xs vs ∧ Post X.K I1 F1 G E (RV X.K Q) ((mk ds w1).bind fun zs w2 => if xs.length = n ∧ zs.length = ks.length then m (gd xs zs) w2 else .bad)) rel rs p fun I1 F1 H1 xs w1 vs e1 rel1 rs1 rvs p1 => ⟨I1, F1, xs, w1, rel1, rs1, rvs, p1⟩)) fun us s1 hq => ?_) (hpl X.env) (he X.env)
  obtain ⟨vs, H1, J1, r, I1, F1, xs, w1, rel1, rs1, rvs, p1⟩ := hq
  refine thn ((hkw X E cx xo).run pos pins s1 σ H1 _ J1 (lowA_bind (f := fun _ zs w2 => if xs.length = n ∧ zs.length = ks.length then m (gd xs zs) w2 else .bad)
    (Q := fun ys H2 => ∃ I2 F2 zs w2, Rel X.K I2 F2 G w2 H2 ∧ RepL X.K I2 F2 xs vs ∧ RepL X.K I2 F2 zs ys ∧ (xs.length = n ∧ zs.length = ks.length) ∧ Post X.K I2 F2 G E (RV X.K Q) (m (gd xs zs) w2)) rel1 rs1 p1 fun I2 F2 H2 zs w2 ys e2 rel2 rs2 rvs2 p2 => ?_)) fun ws s2 hq2 => ?_
  · split at p2
    · rename_i hl
      exact ⟨I2, F2, zs, w2, rel2, RepL.ext e2 _ _ rvs, rvs2, hl, p2⟩
    · exact p2.elim
  · obtain ⟨ys, H2, J2, r2, I2, F2, zs, w2, rel2, rvs', rvs2, hl, p2⟩ := hq2
    refine ⟨J2.kIn, ?_⟩
    have Gf' : FnG X.prog X.w X.K X.mg X.base k f fd ps m := by rw [cx.P, cx.w, cx.K, cx.mg, cx.base]; exact Gf
    have B' : BindG X.K fd ps n ks gd := by rw [cx.K]; exact B
    rw [hks X.env]
    exact run_G (ks := ks) xo Gf' B' (cx.room.mono hk) cx.gds J2 rel2 rvs' rvs2 r r2 hl.1 hl.2 p2
end
/-- every parameter is written, in order -/
theorem bindG_all {K : PySem.W.Frag} {x qual : Str} {params : Arguments} {body : List Stmt} {scope : Scope} {kws : List (Str × V)} {f : Addr} {fd : FuncData} {ps : List Str} (F : FunD K x qual params body scope [] kws f fd)
    (h : ∀ (kV doc pm : Value) (an : Option Addr) (cdv ct : Value) (us : List Value), us.length = ps.length → bindArgs (PySem.W.fnOf x qual params body scope .none kV doc pm an cdv ct) ⟨us, []⟩ = pure (ps.zip us)) : BindG K fd ps ps.length [] fun xs _ => xs := by
  refine ⟨⟨fun us _ => us, fun vs _ => vs, ⟨fun s us ws KX h1 h2 => ?_, fun r _ => r⟩, fun _ _ _ _ _ _ r _ => r⟩, fun xs zs h1 _ => h1⟩
  have e : ws = [] := List.eq_nil_of_length_eq_zero (by simpa using h2)
  subst e
  exact F.bindsA h s us h1
/-- parameters by keywords, all of them told -/
theorem bindG_kw {K : PySem.W.Frag} {x qual : Str} {params : Arguments} {body : List Stmt} {scope : Scope} {kws : List (Str × V)} {f : Addr} {fd : FuncData} {ps : List Str} (F : FunD K x qual params body scope [] kws f fd) (n : Nat) (ks : List Str) (g : {α : Type} → List α → List α → List α)
    (h : ∀ (kV doc pm : Value) (an : Option Addr) (cdv ct : Value) (us ws : List Value), us.length = n → ws.length = ks.length → bindArgs (PySem.W.fnOf x qual params body scope .none kV doc pm an cdv ct) ⟨us, ks.zip ws⟩ = pure (ps.zip (g us ws)))
    (hrel : ∀ {vs zs : List V} {us ws : List Value}, Vals vs us → Vals zs ws → Vals (g vs zs) (g us ws)) (hrep : ∀ I F' xs vs zs us, RepL K I F' xs vs → RepL K I F' zs us → RepL K I F' (g xs zs) (g vs us))
    (hlen : ∀ xs zs : List D, xs.length = n → zs.length = ks.length → (g xs zs).length = ps.length) : BindG K fd ps n ks g := by
  refine ⟨⟨fun us ws => g us ws, fun vs zs => g vs zs, ⟨fun s us ws KX h1 h2 => ?_, hrel⟩, hrep⟩, hlen⟩
  obtain ⟨oc, od, dV, kV, doc, pm, an, cdv, ct, osl, rfl, lk, hcd, hD, hK⟩ := F.ex
  rcases hD with ⟨_, rfl⟩ | ⟨e, _⟩
  · exact .of_eq (h kV doc pm an cdv ct us ws h1 h2)
  · exact absurd rfl e
end Pc

set_option Elab.async false
set_option linter.all false
set_option maxRecDepth 100000
set_option maxHeartbeats 4000000
set_option autoImplicit false
/-! Pc, part F: what a for walks, loops, list comprehensions. -/
namespace Pc
open PySem PySem.Spec PyProof.Rows L2

/-- what is walked: the items; src: the mutable list that they are read off, with its content -/
structure ItD where
  xs : List D
  okp : W → Prop
def ItD.ok (it : ItD) (w : W) : Prop := it.okp w
def always : W → Prop := fun _ => True
def holds (i : Nat) (o : MO) : W → Prop := fun w => w[i]? = some o
def IterOk (K : PySem.W.Frag) (I : List Addr) (F : Hp) (J : It) (it : ItD) : Prop :=
  ∀ I' F' G w H j, Ext I F I' F' → Rel K I' F' G w H → it.ok w →
    (∀ x, it.xs[j]? = some x → J.go j H ∧ ∀ v H', J.yld j H v H' → ∃ F2, Ext I' F' I' F2 ∧ Rel K I' F2 G w H' ∧ RepV K I' F2 x v) ∧ (it.xs.length = j → J.stop j H)
abbrev MI := Sg → W → Res ItD
def RI (K : PySem.W.Frag) (R : It → Hp → Prop) : List Addr → Hp → Hp → ItD → W → Prop := fun I' F' H' it w' => it.ok w' → ∀ J, IterOk K I' F' J it → R J H'
def lowI (K : PySem.W.Frag) (E : XK) (m : MI) : TI := fun σ H R => ∃ I F G ds w, Rel K I F G w H ∧ RepS K I F ds σ ∧ Post K I F G E (RI K R) (m ds w)
def JI (S : Stat) (tg iter : Expr) (m : MI) : Prop := ∀ X E, Ctx S X → XOk X E → PI X tg iter (lowI X.K E m)
theorem pi_weak {X : Cx} {tg e : Expr} {t t' : TI} (h : PI X tg e t) (k : ∀ σ H R, t' σ H R → t σ H R) : PI X tg e t' := ⟨fun pins s σ H R I q => h.run pins s σ H R I (k σ H R q)⟩

/-- a list or a tuple, walked -/
def iSeqA (K : PySem.W.Frag) (tl : TE) : TI := fun σ H R => tl σ H fun x H1 => ∃ a, x = .ref a ∧ (((∃ xs, SqL K H1 a xs) ∧ R (Itl K a) H1) ∨ ((∃ xs, SqT K H1 a xs) ∧ R (Itt K a) H1))
theorem pi_seqA {X : Cx} {tg l : Expr} {tl : TE} (hl : PE X l tl) : PI X tg l (iSeqA X.K tl) := by
  constructor
  intro pins s σ H R J h
  apply thn (hl.run pins s σ H _ J h)
  rintro v s1 ⟨x, H1, J1, r1, a, ex, q⟩
  subst ex
  cases r1
  have fp : ∀ b ∈ [s1.heap.objs.size], FpOk X pins H1 b := fun b hb => by
    rw [List.mem_singleton.mp hb]
    exact J1.fpOk (Nat.le_refl _) (J1.hok.fresh (Nat.le_refl _))
  rcases q with ⟨⟨xs, hq⟩, q⟩ | ⟨⟨xs, hq⟩, q⟩
  · obtain ⟨its, rv, p, hz⟩ := J1.list hq
    apply wpAny_pyIter_list p.isList
    exact ⟨s1.heap.objs.size, [s1.heap.objs.size], _, _, H1, rfl, J1.kept (t' := s1.toks) fun b o e => Heap.get?_push_of_some _ e, turn_list a _, ⟨_, Heap.get?_push_size _ rfl, rfl, rfl⟩, fp, q⟩
  · obtain ⟨its, rv, p, hz⟩ := J1.tuple hq
    apply wpAny_pyIter_tuple (show s1.heap.IsTuple a its.toArray from p)
    exact ⟨s1.heap.objs.size, [s1.heap.objs.size], _, _, H1, rfl, J1.kept (t' := s1.toks) fun b o e => Heap.get?_push_of_some _ e, turn_tuple a _, ⟨_, Heap.get?_push_size _ rfl, rfl, rfl⟩, fp, q⟩
def iterM (d : D) (w : W) : Res ItD := match d with
  | .tup xs => .ok ⟨xs, always⟩ w
  | .ktp xs => .ok ⟨xs, always⟩ w
  | .lst xs => .ok ⟨xs, always⟩ w
  | .scr xs => .ok ⟨xs, always⟩ w
  | .ref i => (match w[i]? with
    | some (.lst xs) => .ok ⟨xs, holds i (.lst xs)⟩ w
    | _ => .bad)
  | _ => .bad
def iSeq (m : ME) : MI := fun σ w => (m σ w).bind iterM
section
variable {K : PySem.W.Frag} {I : List Addr} {F : Hp} {a : Addr} {it : ItD}
theorem itl_ok (h : ∀ I' F' G w H, Ext I F I' F' → Rel K I' F' G w H → it.ok w → ∃ vs, SqL K H a vs ∧ RepL K I' F' it.xs vs) : IterOk K I F (Itl K a) it := fun I' F' G w H j e rel ok => by
  obtain ⟨vs, hq, r⟩ := h I' F' G w H e rel ok
  refine ⟨fun x hx => ?_, fun hl => ⟨vs, hq, by rw [← r.length, hl]; exact Nat.le_refl _⟩⟩
  obtain ⟨v, hv, rv⟩ := r.get hx
  refine ⟨⟨vs, v, hq, hv⟩, fun u H' y => ?_⟩
  obtain ⟨rfl, y⟩ := y
  have := y vs hq
  rw [hv] at this; cases this
  exact ⟨F', .refl, rel, rv⟩
theorem itt_ok (h : ∀ I' F' G w H, Ext I F I' F' → Rel K I' F' G w H → it.ok w → ∃ vs, SqT K H a vs ∧ RepL K I' F' it.xs vs) : IterOk K I F (Itt K a) it := fun I' F' G w H j e rel ok => by
  obtain ⟨vs, hq, r⟩ := h I' F' G w H e rel ok
  refine ⟨fun x hx => ?_, fun hl => ⟨vs, hq, by rw [← r.length, hl]; exact Nat.le_refl _⟩⟩
  obtain ⟨v, hv, rv⟩ := r.get hx
  refine ⟨⟨vs, v, hq, hv⟩, fun u H' y => ?_⟩
  obtain ⟨rfl, y⟩ := y
  have := y vs hq
  rw [hv] at this; cases this
  exact ⟨F', .refl, rel, rv⟩
theorem itr_ok {lo : Int} {n : Nat} (hx : it.xs = (List.range n).map fun k : Nat => D.int (lo + (k : Int))) : IterOk K I F (Itr lo n) it := fun I' F' G w H j e rel ok => by
  refine ⟨fun x h => ?_, fun hl => ?_⟩
  · rw [hx, List.getElem?_map] at h
    by_cases hj : j < n
    · rw [List.getElem?_range hj] at h
      cases h
      refine ⟨hj, fun v H' y => ?_⟩
      obtain ⟨rfl, rfl⟩ := y
      exact ⟨F', .refl, rel, by simp [RepV]⟩
    · rw [List.getElem?_eq_none (by simpa using hj)] at h; cases h
  · rw [hx] at hl
    simp at hl
    show n ≤ j
    omega
end
section
variable {S : Stat} {pos p : Pos} {tg l e e2 : Expr} {m : ME} {ma : MA} {x : Str}
theorem ji_seq (hl : JE S l m) : JI S tg l (iSeq m) := fun X E cx xo =>
  pi_weak (pi_seqA (hl X E cx xo)) fun σ H R ⟨I, F, G, ds, w, rel, rs, p⟩ => lowE_bind (f := fun _ => iterM) rel rs p fun I1 F1 H1 d w1 v e1 rel1 rs1 rv p1 => by
    cases d <;> first | exact p1.elim | skip
    case tup xs =>
      simp only [RepV] at rv
      obtain ⟨a, vs, rfl, h1, h2⟩ := rv
      exact ⟨a, rfl, .inr ⟨⟨vs, .of (rel1.fz _ _ h1)⟩, p1 I1 F1 H1 .refl rel1 trivial _ (itt_ok fun I' F' G w H e rel ok => ⟨vs, .of (rel.fz _ _ (e.f _ _ h1)), RepL.ext e _ _ h2⟩)⟩⟩
    case ktp xs =>
      simp only [RepV] at rv
      obtain ⟨a, vs, rfl, h1, h2⟩ := rv
      exact ⟨a, rfl, .inr ⟨⟨vs, rel1.sqT h1⟩, p1 I1 F1 H1 .refl rel1 trivial _ (itt_ok fun I' F' G w H e rel ok => ⟨vs, rel.sqT (sqT_ext e h1), RepL.ext e _ _ h2⟩)⟩⟩
    case lst xs =>
      simp only [RepV] at rv
      obtain ⟨a, vs, rfl, h1, h2⟩ := rv
      exact ⟨a, rfl, .inl ⟨⟨vs, .of (rel1.fz _ _ h1)⟩, p1 I1 F1 H1 .refl rel1 trivial _ (itl_ok fun I' F' G w H e rel ok => ⟨vs, .of (rel.fz _ _ (e.f _ _ h1)), RepL.ext e _ _ h2⟩)⟩⟩
    case scr xs =>
      simp only [RepV] at rv
      obtain ⟨a, vs, rfl, h1, h2⟩ := rv
      exact ⟨a, rfl, .inl ⟨⟨vs, rel1.sqL h1⟩, p1 I1 F1 H1 .refl rel1 trivial _ (itl_ok fun I' F' G w H e rel ok => ⟨vs, rel.sqL (sqL_ext e h1), RepL.ext e _ _ h2⟩)⟩⟩
    case ref i =>
      simp only [RepV] at rv
      obtain ⟨a, rfl, h1⟩ := rv
      simp only [iterM] at p1
      split at p1
      · rename_i xs hw
        obtain ⟨u, hu, vs, rfl, h2⟩ := rel1.ob i a _ h1 hw
        refine ⟨a, rfl, .inl ⟨⟨vs, .of hu⟩, p1 I1 F1 H1 .refl rel1 hw _ (itl_ok fun I' F' G w H e rel ok => ?_)⟩⟩
        obtain ⟨u', hu', vs', rfl, h2'⟩ := rel.ob i a _ (e.get h1) ok
        exact ⟨vs', .of hu', h2'⟩
      · exact p1.elim
/-- range(n), range(a, b) -/
def rangeD (lo : Int) (n : Nat) : ItD := ⟨(List.range n).map fun k : Nat => D.int (lo + (k : Int)), always⟩
def rng1 (ds : List D) (w : W) : Res ItD := match ds with
  | [.int n] => if -(2 ^ 62) ≤ n ∧ n < 2 ^ 62 then .ok (rangeD 0 n.toNat) w else .bad
  | _ => .bad
def rng2 (ds : List D) (w : W) : Res ItD := match ds with
  | [.int a, .int b] => if -(2 ^ 62) ≤ a ∧ a < 2 ^ 62 ∧ -(2 ^ 62) ≤ b ∧ b < 2 ^ 62 then .ok (rangeD a (b - a).toNat) w else .bad
  | _ => .bad
def iArg (f : List D → W → Res ItD) (ma : MA) : MI := fun σ w => (ma σ w).bind f
theorem ji_range1 (hg : S.sc.names.lookup ("range" : Str) = some .globalImplicit) (hm : S.mg "range" = none) (ha : JA S [e] ma) (hs : ∀ env : Env, starEach [e] env = [(false, eval e env)] := by intro _; rfl) : JI S tg (.Call (.Name "range" p) [e] [] pos) (iArg rng1 ma) := fun X E cx xo =>
  pi_weak (pi_range1 (by show X.env.scope.names.lookup _ = _; rw [cx.sc]; exact hg) (by rw [cx.mg]; exact hm) (ha X E cx xo) (hs X.env)) fun σ H R ⟨I, F, G, ds, w, rel, rs, p⟩ => lowA_bind (f := fun _ => rng1) rel rs p fun I1 F1 H1 xs w1 vs e1 rel1 rs1 rv p1 => by
    unfold rng1 at p1
    split at p1
    · rename_i n
      split at p1
      · rename_i hn
        simp only [RepL, RepV] at rv
        obtain ⟨v, r, rfl, rfl, rfl⟩ := rv
        exact ⟨n, rfl, hn.1, hn.2, p1 I1 F1 H1 .refl rel1 trivial _ (itr_ok rfl)⟩
      · exact p1.elim
    · exact p1.elim
theorem ji_range2 (hg : S.sc.names.lookup ("range" : Str) = some .globalImplicit) (hm : S.mg "range" = none) (ha : JA S [e, e2] ma) (hs : ∀ env : Env, starEach [e, e2] env = [(false, eval e env), (false, eval e2 env)] := by intro _; rfl)
    (hs2 : ∀ env : Env, starEach [e2] env = [(false, eval e2 env)] := by intro _; rfl) : JI S tg (.Call (.Name "range" p) [e, e2] [] pos) (iArg rng2 ma) := fun X E cx xo =>
  pi_weak (pi_range2 (by show X.env.scope.names.lookup _ = _; rw [cx.sc]; exact hg) (by rw [cx.mg]; exact hm) (ha X E cx xo) (hs X.env) (hs2 X.env)) fun σ H R ⟨I, F, G, ds, w, rel, rs, p⟩ => lowA_bind (f := fun _ => rng2) rel rs p fun I1 F1 H1 xs w1 vs e1 rel1 rs1 rv p1 => by
    unfold rng2 at p1
    split at p1
    · rename_i a b
      split at p1
      · rename_i hn
        simp only [RepL, RepV] at rv
        obtain ⟨v, r, rfl, rfl, v2, r2, rfl, rfl, rfl⟩ := rv
        exact ⟨a, b, rfl, hn, p1 I1 F1 H1 .refl rel1 trivial _ (itr_ok rfl)⟩
      · exact p1.elim
    · exact p1.elim
end

/-! ### for -/
open Classical in
noncomputable def forL (it : ItD) (g : MG) (body : MS) : List D → Sg → W → Res Fl
  | [], σ, w => if it.ok w then .ok (.nx σ) w else .bad
  | x :: xs, σ, w => if it.ok w then (g x σ w).bind fun σ1 w1 => (body σ1 w1).bind fun f w2 => match f with
      | .nx s => forL it g body xs s w2
      | .ct s => forL it g body xs s w2
      | .bk s => .ok (.nx s) w2
      | .rt d => .ok (.rt d) w2
    else .bad
noncomputable def sFor (m : MI) (g : MG) (body : MS) : MS := fun σ w => (m σ w).bind fun it w1 => forL it g body it.xs σ w1
section
variable {S : Stat} {pos : Pos} {tg iter : Expr} {body : List Stmt} {m : MI} {g : MG} {b : MS}
theorem js_for (hi : JI S tg iter m) (hg : JG S tg g) (hb : JSs S body b) (hs : ∀ (env : Env) x, foldedSetIterable iter env x = pure x := by intro _ _; rfl) : JS S (.For tg iter body [] pos) (sFor m g b) := fun X E cx xo =>
  ps_weak (ps_for xo.own cx.calm (hi X E cx xo) (hg X E cx xo) (hb X E cx xo) (hs X.env)) fun Z σ H ⟨I, F, G, ds, w, rel, rs, p⟩ => by
    refine ⟨I, F, G, ds, w, rel, rs, (Post.bind p).mono fun I1 F1 H1 it w1 _ e1 rel1 p1 hok J hJ => ?_⟩
    refine ⟨fun i n σ' H' => n = it.xs.length - i ∧ i ≤ it.xs.length ∧ ∃ I' F' ds' w', Ext I1 F1 I' F' ∧ Rel X.K I' F' G w' H' ∧ RepS X.K I' F' ds' σ' ∧ Post X.K I' F' G E (RFl X.K Z) (forL it g b (it.xs.drop i) ds' w'),
      ⟨it.xs.length, by simp, Nat.zero_le _, I1, F1, ds, w1, .refl, rel1, rs.ext e1, p1⟩, ?_⟩
    rintro i n σ' H' ⟨rfl, hi, I', F', ds', w', e', rel', rs', p'⟩
    by_cases hlt : i < it.xs.length
    · rw [List.drop_eq_getElem_cons hlt] at p'
      unfold forL at p'
      split at p'
      · rename_i hw
        obtain ⟨h1, _⟩ := hJ I' F' G w' H' i e' rel' hw
        obtain ⟨hgo, hy⟩ := h1 _ (List.getElem?_eq_getElem hlt)
        refine .inr ⟨hgo, fun σ2 H2 => ∃ I2 F2 ds2 w2, Ext I1 F1 I2 F2 ∧ Rel X.K I2 F2 G w2 H2 ∧ RepS X.K I2 F2 ds2 σ2 ∧ Post X.K I2 F2 G E (RFl X.K Z) (forL it g b (it.xs.drop (i + 1)) ds2 w2), fun σ2 H2 q => ⟨it.xs.length - (i + 1), by omega, rfl, hlt, q⟩, fun v H2 y => ?_⟩
        obtain ⟨F2, e2, rel2, rv⟩ := hy v H2 y
        refine ⟨I', F2, G, _, ds', w', rel2, rs'.ext e2, rv, (Post.bind (p'.ext e2)).mono fun I3 F3 H3 s3 w3 _ e3 rel3 p3 σ3 rs3 => ?_⟩
        refine ⟨I3, F3, G, s3, w3, rel3, rs3, (Post.bind p3).mono fun I4 F4 H4 f w4 _ e4 rel4 p4 => ?_⟩
        have ee : Ext I1 F1 I4 F4 := ((e'.trans e2).trans e3).trans e4
        cases f with
        | nx s => exact fun s' rs4 => ⟨I4, F4, s, w4, ee, rel4, rs4, p4⟩
        | ct s => exact fun s' rs4 => ⟨I4, F4, s, w4, ee, rel4, rs4, p4⟩
        | bk s => exact fun s' rs4 => p4 I4 F4 H4 .refl rel4 s' rs4
        | rt d => exact fun v rv => p4 I4 F4 H4 .refl rel4 v rv
      · exact p'.elim
    · have hl : i = it.xs.length := by omega
      subst hl
      rw [List.drop_length] at p'
      unfold forL at p'
      split at p'
      · rename_i hw
        exact .inl ⟨(hJ I' F' G w' H' _ e' rel' hw).2 rfl, p' I' F' H' .refl rel' σ' rs'⟩
      · exact p'.elim
end

/-! ### while -/
def whileL (t : MT) (body : MS) : Nat → Sg → W → Res Fl
  | 0, _, _ => .bad
  | n + 1, σ, w => (t σ w).bind fun c w1 => if c = true then (body σ w1).bind fun f w2 => match f with
      | .nx s => whileL t body n s w2
      | .ct s => whileL t body n s w2
      | .bk s => .ok (.nx s) w2
      | .rt d => .ok (.rt d) w2
    else .ok (.nx σ) w1
/-- more turns than any program here makes -/
def manyTurns : Nat := 2 ^ 60
def sWhile (t : MT) (body : MS) : MS := fun σ w => whileL t body manyTurns σ w
end Pc

set_option Elab.async false
set_option linter.all false
set_option maxRecDepth 100000
set_option maxHeartbeats 4000000
set_option autoImplicit false
/-! Pc, part G: list comprehensions. -/
namespace Pc
open PySem PySem.Spec PyProof.Rows L2

/-- no exception leaves a comprehension's element -/
def Res.noX {α : Type} (r : Res α) : Res α := match r with
  | .exn _ _ => .bad
  | r => r
@[simp] theorem Res.noX_ok {α : Type} (a : α) (w : W) : (Res.ok a w).noX = .ok a w := rfl
@[simp] theorem Res.noX_exn {α : Type} (x : XD) (w : W) : (Res.exn x w : Res α).noX = .bad := rfl
@[simp] theorem Res.noX_bad {α : Type} : (Res.bad : Res α).noX = .bad := rfl
abbrev E0 : XK := fun _ _ _ => False
theorem Post.bindX {α β : Type} {K : PySem.W.Frag} {I : List Addr} {F G : Hp} {E : XK} {r : Res α} {f : α → W → Res β} {R2 : List Addr → Hp → Hp → β → W → Prop} (h : Post K I F G E R2 (r.noX.bind f)) :
    Post K I F G E0 (fun I' F' _ a w => Post K I' F' G E R2 (f a w)) r := by
  cases r with
  | ok a w => exact fun I' F' H' e' q => Post.ext (K := K) (R := R2) h e'
  | exn x w => exact h.elim
  | bad => exact h
/-- a list lies at D for a while -/
theorem Rel.keep {K : PySem.W.Frag} {I : List Addr} {F G H : Hp} {w : W} (rel : Rel K I F G w H) {q : Addr} {u : HO} (hq : H q = none) : Rel K I F (upd G q u) w (upd H q u) := by
  have hI : q ∉ I := fun z => by
    obtain ⟨i, hi⟩ := List.mem_iff_getElem?.mp z
    have hl : i < w.length := by rw [← rel.len]; exact (List.getElem?_eq_some_iff.mp hi).1
    obtain ⟨u, h3, _⟩ := rel.ob i q _ hi (List.getElem?_eq_getElem hl)
    rw [h3] at hq; cases hq
  have hF : F q = none := by
    cases h : F q with
    | none => rfl
    | some u => rw [rel.fz _ _ h] at hq; cases hq
  refine ⟨rel.len, rel.nd, fun i a o h1 h2 => ?_, fun a u' h => ?_, rel.ap, fun a u' h => ?_, fun a u' h => ?_⟩
  · obtain ⟨u', h3, h4⟩ := rel.ob i a o h1 h2
    exact ⟨u', by rw [upd_ne (ne_of_none h3 hq)]; exact h3, h4⟩
  · rw [upd_ne (ne_of_none h hF)]; exact rel.fz a u' h
  · by_cases ha : a = q
    · subst ha; rw [upd_same] at h ⊢; exact h
    · rw [upd_ne ha] at h ⊢; exact rel.gz a u' h
  · by_cases ha : a = q
    · subst ha; exact ⟨hF, hI⟩
    · rw [upd_ne ha] at h; exact rel.gf a u' h
/-- .. and is changed -/
theorem Rel.rekeep {K : PySem.W.Frag} {I : List Addr} {F G H : Hp} {w : W} {q : Addr} {u u' : HO} (rel : Rel K I F (upd G q u) w H) : Rel K I F (upd G q u') w (upd H q u') := by
  obtain ⟨hF, hI⟩ := rel.gf q u upd_same
  refine ⟨rel.len, rel.nd, fun i a o h1 h2 => ?_, fun a v h => ?_, rel.ap, fun a v h => ?_, fun a v h => ?_⟩
  · obtain ⟨v, h3, h4⟩ := rel.ob i a o h1 h2
    have ha : a ≠ q := fun z => hI (by rw [← z]; exact List.mem_of_getElem? h1)
    exact ⟨v, by rw [upd_ne ha]; exact h3, h4⟩
  · rw [upd_ne (ne_of_none h hF)]; exact rel.fz a v h
  · by_cases ha : a = q
    · subst ha; rw [upd_same] at h ⊢; exact h
    · rw [upd_ne ha] at h ⊢; exact rel.gz a v (by rw [upd_ne ha]; exact h)
  · by_cases ha : a = q
    · subst ha; exact ⟨hF, hI⟩
    · rw [upd_ne ha] at h; exact rel.gf a v (by rw [upd_ne ha]; exact h)
/-- .. and is let go: from then on it never changes -/
theorem Rel.froze {K : PySem.W.Frag} {I : List Addr} {F G H : Hp} {w : W} {q : Addr} {u : HO} (rel : Rel K I F (upd G q u) w H) (hG : G q = none) : Ext I F I (upd F q u) ∧ Rel K I (upd F q u) G w H := by
  obtain ⟨hF, hI⟩ := rel.gf q u upd_same
  have e : Ext I F I (upd F q u) := ⟨List.prefix_refl _, fun a v h => by rw [upd_ne (ne_of_none h hF)]; exact h⟩
  refine ⟨e, rel.len, rel.nd, fun i a o h1 h2 => ?_, fun a v h => ?_, fun i a o h h0 hf => ?_, fun a v h => ?_, fun a v h => ?_⟩
  · obtain ⟨v, h3, h4⟩ := rel.ob i a o h1 h2
    exact ⟨v, h3, RepO.ext e h4⟩
  · by_cases ha : a = q
    · subst ha; rw [upd_same] at h; cases h; exact rel.gz a u upd_same
    · rw [upd_ne ha] at h; exact rel.fz a v h
  · have ha : a ≠ q := fun z => hI (by rw [← z]; exact List.mem_of_getElem? h)
    rw [upd_ne ha]; exact rel.ap i a o h h0 hf
  · have ha : a ≠ q := ne_of_none h hG
    exact rel.gz a v (by rw [upd_ne ha]; exact h)
  · have ha : a ≠ q := ne_of_none h hG
    rw [upd_ne ha]
    exact rel.gf a v (by rw [upd_ne ha]; exact h)
/-- .. or becomes a mutable object -/
theorem Rel.owned {K : PySem.W.Frag} {I : List Addr} {F G H : Hp} {w : W} {q : Addr} {u : HO} {o : MO} (rel : Rel K I F (upd G q u) w H) (hG : G q = none) (r : RepO K I F o u) : Ext I F (I ++ [q]) F ∧ Rel K (I ++ [q]) F G (w ++ [o]) H := by
  obtain ⟨hF, hI⟩ := rel.gf q u upd_same
  have e : Ext I F (I ++ [q]) F := ⟨List.prefix_append _ _, fun _ _ h => h⟩
  refine ⟨e, by simp [rel.len], ?_, fun i a o' h1 h2 => ?_, rel.fz, fun i a o' h h0 hf => ?_, fun a v h => ?_, fun a v h => ?_⟩
  · rw [List.nodup_append]
    exact ⟨rel.nd, by simp, fun a ha b hb => by simp at hb; subst hb; exact fun z => hI (z ▸ ha)⟩
  · by_cases hi : i < I.length
    · rw [List.getElem?_append_left hi] at h1
      rw [List.getElem?_append_left (by rw [← rel.len]; exact hi)] at h2
      obtain ⟨v, h3, h4⟩ := rel.ob i a o' h1 h2
      exact ⟨v, h3, RepO.ext e h4⟩
    · have hi2 : i = I.length := by
        have := (List.getElem?_eq_some_iff.mp h1).1
        simp at this; omega
      subst hi2
      rw [List.getElem?_append_right (Nat.le_refl _)] at h1
      simp at h1
      rw [rel.len, List.getElem?_append_right (Nat.le_refl _)] at h2
      simp at h2
      subst h1 h2
      exact ⟨u, rel.gz _ _ upd_same, RepO.ext e r⟩
  · by_cases hi : i < I.length
    · rw [List.getElem?_append_left hi] at h
      rw [List.getElem?_append_left (by rw [← rel.len]; exact hi)] at h0
      exact rel.ap i a o' h h0 hf
    · have hi2 : i = I.length := by
        have := (List.getElem?_eq_some_iff.mp h).1
        simp at this; omega
      subst hi2
      rw [List.getElem?_append_right (Nat.le_refl _)] at h
      simp at h
      subst h; exact hF
  · have ha : a ≠ q := ne_of_none h hG
    exact rel.gz a v (by rw [upd_ne ha]; exact h)
  · have ha : a ≠ q := ne_of_none h hG
    have := rel.gf a v (by rw [upd_ne ha]; exact h)
    refine ⟨this.1, fun z => ?_⟩
    rcases List.mem_append.mp z with z | z
    · exact this.2 z
    · simp at z; exact ha z

/-! ### the block's own names -/
def wipeD (σ : Sg) : List Nat → Sg
  | [] => σ
  | v :: vs => (wipeD σ vs).set v none
theorem RepS.wipe {K : PySem.W.Frag} {I : List Addr} {F : Hp} {ds : Sg} {s : L2.St} (h : RepS K I F ds s) : ∀ vs : List Nat, RepS K I F (wipeD ds vs) (L2.wipe s vs)
  | [] => h
  | v :: vs => (h.wipe vs).unset v none
theorem wipe_set {s : L2.St} {i : Nat} {x : Option V} : ∀ {vs : List Nat}, i ∈ vs → L2.wipe (s.set i x) vs = L2.wipe s vs
  | [], h => by cases h
  | v :: vs, h => by
    show (L2.wipe (s.set i x) vs).set v none = (L2.wipe s vs).set v none
    by_cases hi : i ∈ vs
    · rw [wipe_set hi]
    · have hv : i = v := by
        rcases List.mem_cons.mp h with e | e
        · exact e
        · exact absurd e hi
      subst hv
      have key : ∀ ws : List Nat, i ∉ ws → L2.wipe (s.set i x) ws = (L2.wipe s ws).set i x := by
        intro ws
        induction ws with
        | nil => intro _; rfl
        | cons b bs ih =>
          intro hn
          show (L2.wipe (s.set i x) bs).set b none = ((L2.wipe s bs).set b none).set i x
          rw [ih (fun z => hn (List.mem_cons_of_mem _ z))]
          rw [List.set_comm _ _ (fun z => hn (by rw [z]; exact List.mem_cons_self ..))]
      rw [key vs hi, List.set_set]
theorem wipe_wipe {s : L2.St} : ∀ {vs : List Nat}, L2.wipe (L2.wipe s vs) vs = L2.wipe s vs := by
  intro vs
  have key : ∀ ws : List Nat, (∀ v ∈ ws, v ∈ vs) → L2.wipe (L2.wipe s ws) vs = L2.wipe s vs := by
    intro ws
    induction ws with
    | nil => intro _; rfl
    | cons b bs ih =>
      intro h
      show L2.wipe ((L2.wipe s bs).set b none) vs = _
      rw [wipe_set (h b (List.mem_cons_self ..)), ih fun v hv => h v (List.mem_cons_of_mem _ hv)]
  exact key vs fun _ h => h

def RSw (K : PySem.W.Frag) (vs : List Nat) (σ : L2.St) (Q : L2.St → Hp → Prop) : List Addr → Hp → Hp → Sg → W → Prop := fun I' F' H' s _ => ∀ s', RepS K I' F' s s' → L2.wipe s' vs = L2.wipe σ vs → Q s' H'
def lowC (K : PySem.W.Frag) (E : XK) (vs : List Nat) (g : MG) : TG := fun v σ H Q => ∃ I F G d ds w, Rel K I F G w H ∧ RepS K I F ds σ ∧ RepV K I F d v ∧ Post K I F G E (RSw K vs σ Q) (g d ds w)
def lowCs (K : PySem.W.Frag) (E : XK) (vs : List Nat) (g : MGs) : TGs := fun v σ H Q => ∃ I F G d ds w, Rel K I F G w H ∧ RepS K I F ds σ ∧ RepL K I F d v ∧ Post K I F G E (RSw K vs σ Q) (g d ds w)
def JC (S : Stat) (vs : List Nat) (t : Expr) (g : MG) : Prop := ∀ X E, Ctx S X → XOk X E → PG X t (lowC X.K E vs g)
def JCs (S : Stat) (vs : List Nat) (t : List Expr) (g : MGs) : Prop := ∀ X E, Ctx S X → XOk X E → PGs X t (lowCs X.K E vs g)
section
variable {S : Stat} {pos : Pos} {vs : List Nat} {e : Expr} {es : List Expr} {g : MG} {r : MGs}
theorem jc_name {i : Nat} {x : Str} (hi : S.N[i]? = some x) (hx : Sto S x) (hv : i ∈ vs) : JC S vs (.Name x pos) (gNm i) := fun X E cx xo =>
  pg_weak (pg_name (i := i) (x := x) cx.nd (by rw [cx.N]; exact hi) (by rw [cx.sc]; exact hx.1) (by rw [cx.sc]; exact hx.2.imp (cx.fn x) id)) fun v σ H Q ⟨I, F, G, d, ds, w, rel, rs, rv, p⟩ => p I F H .refl rel _ (rs.set i rv) (wipe_set hv)
theorem jcs_nil : JCs S vs [] gsNil := fun X E cx xo => pgs_weak pgs_nil fun v σ H Q ⟨I, F, G, xs, ds, w, rel, rs, rv, p⟩ => by
  cases xs with
  | nil =>
    simp only [RepL] at rv
    exact ⟨rv, p I F H .refl rel _ rs rfl⟩
  | cons => exact p.elim
theorem jcs_cons (h1 : JC S vs e g) (h2 : JCs S vs es r) (hs : ∀ env : Env, (assignEach (e :: es) env).map (·.2) = assign e env :: (assignEach es env).map (·.2) := by intro _; rfl) : JCs S vs (e :: es) (gsCons g r) := fun X E cx xo =>
  pgs_weak (pgs_cons (h1 X E cx xo) (h2 X E cx xo) (hs X.env)) fun v σ H Q ⟨I, F, G, xs, ds, w, rel, rs, rv, p⟩ => by
    cases xs with
    | nil => exact p.elim
    | cons x xs =>
      simp only [RepL] at rv
      obtain ⟨v, t, rfl, rv1, rvs⟩ := rv
      refine ⟨v, t, rfl, I, F, G, x, ds, w, rel, rs, rv1, (Post.bind p).mono fun I1 F1 H1 s w1 _ e1 rel1 p1 s' rs1 ew => ⟨I1, F1, G, xs, s, w1, rel1, rs1, RepL.ext e1 _ _ rvs, p1.mono fun I2 F2 H2 s2 w2 _ e2 rel2 p2 s3 rs3 ew3 => p2 s3 rs3 (ew3.trans ew)⟩⟩
theorem jc_tup {k n : Nat} (h : JCs S vs es r) (hn : ∀ env : Env, (assignEach es env).length = n := by intro _; rfl) (hst : ∀ env : Env, (assignEach es env).findIdx? (·.1) = none := by intro _; rfl) : JC S vs (.Tuple es k pos) (gTupM n r) := fun X E cx xo =>
  pg_weak (pg_tup cx.calm (h X E cx xo) (hn X.env) (hst X.env)) fun v σ H Q ⟨I, F, G, d, ds, w, rel, rs, rv, p⟩ => by
    cases d <;> first | exact p.elim | skip
    all_goals
      rename_i xs
      simp only [RepV] at rv
      obtain ⟨a, us, rfl, h1, h2⟩ := rv
      simp only [gTupM] at p
      split at p
      · rename_i hl
        exact ⟨a, us, rfl, (by first | exact .of (rel.fz _ _ h1) | exact rel.sqT h1), by rw [← h2.length]; exact hl, I, F, G, xs, ds, w, rel, rs, h2, p⟩
      · exact p.elim
end

/-! ### the comprehension -/
open Classical in
noncomputable def compL (it : ItD) (vs : List Nat) (g : MG) (t : MT) (e : ME) : List D → Sg → W → Res (List D)
  | [], σ, w => if it.ok w then .ok [] w else .bad
  | x :: xs, σ, w => if it.ok w then (g x (wipeD σ vs) w).noX.bind fun σ1 w1 => (t σ1 w1).noX.bind fun b w2 =>
      if b = true then (e σ1 w2).noX.bind fun y w3 => (compL it vs g t e xs σ w3).bind fun ys w4 => .ok (y :: ys) w4 else compL it vs g t e xs σ w2
    else .bad
noncomputable def compA (m : MI) (vs : List Nat) (g : MG) (t : MT) (e : ME) : MA := fun σ w => (m σ w).bind fun it w1 => if it.xs.length ≤ sizeLine then compL it vs g t e it.xs σ w1 else .bad
noncomputable def eComp (m : MI) (vs : List Nat) (g : MG) (t : MT) (e : ME) : ME := fun σ w => (compA m vs g t e σ w).bind fun ys w1 => .ok (.lst ys) w1
noncomputable def eCompN (m : MI) (vs : List Nat) (g : MG) (t : MT) (e : ME) : ME := fun σ w => (compA m vs g t e σ w).bind fun ys w1 => .ok (.ref w1.length) (w1 ++ [.lst ys])
def JTs (S : Stat) (ifs : List Expr) (t : MT) : Prop := ∀ X E, Ctx S X → XOk X E → PTs X ifs (lowT X.K E t)
def tTrue : MT := fun _ w => .ok true w
abbrev Stat.blk (S : Stat) (scope : Scope) : Stat := { S with sc := relS scope S.sc, fn := fun x => scope.names.lookup x == some .cell }
theorem ctx_blk {S : Stat} {X : Cx} (c : Ctx S X) (s : Shared) (H : Hp) (scope : Scope) (C : Addr) (cl : List (Str × Addr)) (fp : List Addr) : Ctx (S.blk scope) (X.blk s H scope (compEnvC scope cl C X.env) fp) :=
  ⟨c.P, c.w, c.K, c.mg, c.base, c.N, by show relS scope X.env.scope = relS scope S.sc; rw [c.sc], fun _ h => h, c.calm, c.room, c.gds, c.nd⟩
theorem xok_blk {X : Cx} (s : Shared) (H : Hp) (scope : Scope) (cenv : Env) (fp : List Addr) : XOk (X.blk s H scope cenv fp) E0 :=
  ⟨fun _ _ ⟨_, _, _, _, _, _, _, _, _, _, _, _, _, _, _, _, h⟩ => h.elim, PassesOwn.never⟩
section
variable {S : Stat} {pos : Pos} {elt tg iter c : Expr} {ifs : List Expr} {scope : Scope} {own : List (Str × Nat)} {mi : MI} {g : MG} {t : MT} {me : ME}
theorem jts_nil : JTs S [] tTrue := fun X E cx xo => ⟨fun pins s σ H Q J ⟨I, F, G, ds, w, rel, rs, p⟩ => pts_nil.run pins s σ H Q J (p I F H .refl rel)⟩
theorem jts_one (h : JT S c t) : JTs S [c] t := fun X E cx xo => pts_one (h X E cx xo)
/-- how the items are gathered -/
theorem low_comp {K : PySem.W.Frag} {E : XK} {vs : List Nat} {f : List D → W → Res D} {σ : L2.St} {H : Hp} {Q : VK} (h : lowE K E (fun σ w => (compA mi vs g t me σ w).bind f) σ H Q)
    (fin : ∀ I F G w H q xs us, Rel K I F (upd G q (.lst us)) w H → G q = none → RepL K I F xs us → Post K I F G E (RV K Q) (f xs w) → Q (.ref q) H) :
    tLc (lowI K E mi) (lowC K E0 vs g) (lowT K E0 t) (lowE K E0 me) vs σ H Q := by
  obtain ⟨I, F, G, ds, w, rel, rs, p⟩ := h
  have p0 : Post K I F G E (RV K Q) ((mi ds w).bind fun it w1 => (if it.xs.length ≤ sizeLine then compL it vs g t me it.xs ds w1 else .bad).bind f) := by
    rw [← Res.bind_assoc]; exact p
  refine ⟨I, F, G, ds, w, rel, rs, (Post.bind p0).mono fun I1 F1 H1 it w1 _ e1 rel1 p1 hok J hJ q hq => ?_⟩
  have hG : G q = none := by
    cases h : G q with
    | none => rfl
    | some u => rw [rel1.gz _ _ h] at hq; cases hq
  split at p1
  · rename_i hz
    refine ⟨fun i n H' => n = it.xs.length - i ∧ i ≤ it.xs.length ∧ ∃ I' F' w' xs us, Ext I1 F1 I' F' ∧ Rel K I' F' (upd G q (.lst us)) w' H' ∧ RepL K I' F' xs us ∧ xs.length ≤ i ∧
        Post K I' F' G E (RV K Q) ((compL it vs g t me (it.xs.drop i) ds w').bind fun ys w2 => f (xs ++ ys) w2),
      ⟨it.xs.length, by simp, Nat.zero_le _, I1, F1, w1, [], [], .refl, rel1.keep hq, by simp [RepL], Nat.le_refl _, by simpa using p1⟩, ?_⟩
    rintro i n H' ⟨rfl, hi, I', F', w', xs, us, e', rel', rx, hxi, p'⟩
    by_cases hlt : i < it.xs.length
    · rw [List.drop_eq_getElem_cons hlt] at p'
      unfold compL at p'
      split at p'
      · rename_i hw
        obtain ⟨h1, _⟩ := hJ I' F' _ w' H' i e' rel' hw
        obtain ⟨hgo, hy⟩ := h1 _ (List.getElem?_eq_getElem hlt)
        refine .inr ⟨hgo, fun H2 => ∃ I2 F2 w2 xs2 us2, Ext I1 F1 I2 F2 ∧ Rel K I2 F2 (upd G q (.lst us2)) w2 H2 ∧ RepL K I2 F2 xs2 us2 ∧ xs2.length ≤ i + 1 ∧ Post K I2 F2 G E (RV K Q) ((compL it vs g t me (it.xs.drop (i + 1)) ds w2).bind fun ys w2 => f (xs2 ++ ys) w2),
          fun H2 q => ⟨it.xs.length - (i + 1), by omega, rfl, hlt, q⟩, fun v H2 y => ?_⟩
        obtain ⟨F2, e2, rel2, rv⟩ := hy v H2 y
        have p2 := p'.ext e2
        rw [Res.bind_assoc] at p2
        -- from here on the list at q lies still
        have still : ∀ {α : Type} {R : List Addr → Hp → Hp → α → W → Prop} {r : Res α} {I3 : List Addr} {F3 : Hp}, Post K I3 F3 G E0 R r → Post K I3 F3 (upd G q (.lst us)) E0 (fun I' F' H' a w => Rel K I' F' (upd G q (.lst us)) w H' ∧ ∀ H'', Rel K I' F' G w H'' → R I' F' H'' a w) r := by
          intro α R r I3 F3 hp
          cases r with
          | ok a w => exact fun I' F' H' e q => ⟨q, fun H'' q' => hp I' F' H'' e q'⟩
          | exn x w =>
            intro I' F' H' c d e q rx
            exact hp I' F' H' c d e ⟨q.len, q.nd, q.ob, q.fz, q.ap, fun a u h => q.gz a u (by rw [upd_ne (ne_of_none h hG)]; exact h), fun a u h => q.gf a u (by rw [upd_ne (ne_of_none h hG)]; exact h)⟩ rx
          | bad => exact hp
        have less : ∀ {I3 : List Addr} {F3 : Hp} {w3 : W} {H3 : Hp}, Rel K I3 F3 (upd G q (.lst us)) w3 H3 → Rel K I3 F3 G w3 H3 := fun {I3 F3 w3 H3} q => ⟨q.len, q.nd, q.ob, q.fz, q.ap, fun a u h => q.gz a u (by rw [upd_ne (ne_of_none h hG)]; exact h), fun a u h => q.gf a u (by rw [upd_ne (ne_of_none h hG)]; exact h)⟩
        refine ⟨I', F2, upd G q (.lst us), _, wipeD ds vs, w', rel2, (((rs.ext e1).ext e').ext e2).wipe vs, rv, (still (Post.bindX p2)).mono fun I3 F3 H3 s3 w3 _ e3 rel3 p3 σ3 rs3 ew => ⟨ew.trans wipe_wipe, ?_⟩⟩
        have p3' := p3.2 H3 (less rel3)
        rw [Res.bind_assoc] at p3'
        refine ⟨I3, F3, upd G q (.lst us), s3, w3, rel3, rs3, (still (Post.bindX p3')).mono fun I4 F4 H4 b w4 _ e4 rel4 p4 => ?_⟩
        have p4' := p4.2 H4 (less rel4)
        cases b with
        | true =>
          simp only [if_true] at p4' ⊢
          rw [Res.bind_assoc] at p4'
          refine ⟨I4, F4, upd G q (.lst us), s3, w4, rel4, rs3.ext e4, (still (Post.bindX p4')).mono fun I5 F5 H5 y w5 _ e5 rel5 p5 u ru => ?_⟩
          have p5' := p5.2 H5 (less rel5)
          rw [Res.bind_assoc] at p5'
          have ee : Ext I' F' I5 F5 := ((e2.trans e3).trans e4).trans e5
          refine ⟨us, rel5.gz _ _ upd_same, by rw [← rx.length]; omega, I5, F5, w5, xs ++ [y], us ++ [u], e'.trans ee, rel5.rekeep, (RepL.ext ee _ _ rx).append (RepL.cons ru (by simp [RepL])), by simp; omega, ?_⟩
          simpa using p5'
        | false =>
          simp only [Bool.false_eq_true, if_false] at p4' ⊢
          exact ⟨I4, F4, w4, xs, us, (e'.trans e2).trans (e3.trans e4), rel4, RepL.ext ((e2.trans e3).trans e4) _ _ rx, by omega, p4'⟩
      · exact p'.elim
    · have hl : i = it.xs.length := by omega
      subst hl
      rw [List.drop_length] at p'
      unfold compL at p'
      split at p'
      · rename_i hw
        refine .inl ⟨(hJ I' F' _ w' H' _ e' rel' hw).2 rfl, fin I' F' G w' H' q xs us rel' hG rx ?_⟩
        simpa using p'
      · exact p'.elim
  · exact p1.elim
theorem fin_lst {K : PySem.W.Frag} {E : XK} {Q : VK} (I : List Addr) (F G : Hp) (w : W) (H : Hp) (q : Addr) (xs : List D) (us : List V) (rel : Rel K I F (upd G q (.lst us)) w H) (hG : G q = none) (rx : RepL K I F xs us)
    (p : Post K I F G E (RV K Q) (.ok (.lst xs) w)) : Q (.ref q) H := by
  obtain ⟨e, rel2⟩ := rel.froze hG
  exact p _ _ H e rel2 _ (by simp only [RepV]; exact ⟨q, us, rfl, upd_same, RepL.ext e _ _ rx⟩)
theorem fin_new {K : PySem.W.Frag} {E : XK} {Q : VK} (I : List Addr) (F G : Hp) (w : W) (H : Hp) (q : Addr) (xs : List D) (us : List V) (rel : Rel K I F (upd G q (.lst us)) w H) (hG : G q = none) (rx : RepL K I F xs us)
    (p : Post K I F G E (RV K Q) (.ok (.ref w.length) (w ++ [.lst xs]))) : Q (.ref q) H := by
  obtain ⟨e, rel2⟩ := rel.owned (o := .lst xs) hG ⟨us, rfl, rx⟩
  refine p _ _ H e rel2 _ ?_
  simp only [RepV]
  refine ⟨q, rfl, ?_⟩
  rw [← rel.len, List.getElem?_append_right (Nat.le_refl _)]
  simp
theorem je_comp (hi : JI S tg iter mi) (hb : blkC S.N S.sc scope own = true) (hg : JC (S.blk scope) (own.map (·.2)) tg g) (ht : JTs (S.blk scope) ifs t) (he : JE (S.blk scope) elt me)
    (hs : ∀ (env : Env) x, foldedSetIterable iter env x = pure x := by intro _ _; rfl) : JE S (.ListComp elt [⟨tg, iter, ifs, 0⟩] scope pos) (eComp mi (own.map (·.2)) g t me) := fun X E cx xo =>
  pe_weak (pe_lc (own := own) cx.calm cx.nd (hi X E cx xo) (blkOk_by (by rw [cx.N, cx.sc]; exact hb)) (fun s H C cl fp => hg _ E0 (ctx_blk cx s H scope C cl fp) (xok_blk ..)) (fun s H C cl fp => ht _ E0 (ctx_blk cx s H scope C cl fp) (xok_blk ..))
    (fun s H C cl fp => he _ E0 (ctx_blk cx s H scope C cl fp) (xok_blk ..)) (hs X.env)) fun σ H Q h => low_comp h fin_lst
theorem je_compN (hi : JI S tg iter mi) (hb : blkC S.N S.sc scope own = true) (hg : JC (S.blk scope) (own.map (·.2)) tg g) (ht : JTs (S.blk scope) ifs t) (he : JE (S.blk scope) elt me)
    (hs : ∀ (env : Env) x, foldedSetIterable iter env x = pure x := by intro _ _; rfl) : JE S (.ListComp elt [⟨tg, iter, ifs, 0⟩] scope pos) (eCompN mi (own.map (·.2)) g t me) := fun X E cx xo =>
  pe_weak (pe_lc (own := own) cx.calm cx.nd (hi X E cx xo) (blkOk_by (by rw [cx.N, cx.sc]; exact hb)) (fun s H C cl fp => hg _ E0 (ctx_blk cx s H scope C cl fp) (xok_blk ..)) (fun s H C cl fp => ht _ E0 (ctx_blk cx s H scope C cl fp) (xok_blk ..))
    (fun s H C cl fp => he _ E0 (ctx_blk cx s H scope C cl fp) (xok_blk ..)) (hs X.env)) fun σ H Q h => low_comp h fin_new
/-- y = [.. for ..], on one line -/
theorem js_setComp {i : Nat} {y : Str} {py spos : Pos} (hy : S.N[i]? = some y) (hyl : S.sc.names.lookup y = some .local) (hsw : ∀ env : Env, env.scope = S.sc → env.scope.kind = .function → swapsWith (.ListComp elt [⟨tg, iter, ifs, 0⟩] scope pos) (some (.Name y py)) spos.line env = pure true)
    (hi : JI S tg iter mi) (hb : blkC S.N S.sc scope own = true) (hg : JC (S.blk scope) (own.map (·.2)) tg g) (ht : JTs (S.blk scope) ifs t) (he : JE (S.blk scope) elt me)
    (hk : S.sc.kind = .function) (hs : ∀ (env : Env) x, foldedSetIterable iter env x = pure x := by intro _ _; rfl) : JS S (.Assign [.Name y py] (.ListComp elt [⟨tg, iter, ifs, 0⟩] scope pos) spos) (sAsg (eComp mi (own.map (·.2)) g t me) (gNm i)) := fun X E cx xo =>
  ps_weak (ps_setLc (i := i) (own := own) cx.calm cx.nd (by rw [cx.N]; exact hy) (by rw [cx.sc]; exact hyl) (hsw X.env cx.sc (by rw [cx.sc]; exact hk)) (hi X E cx xo) (blkOk_by (by rw [cx.N, cx.sc]; exact hb)) (fun s H C cl fp => hg _ E0 (ctx_blk cx s H scope C cl fp) (xok_blk ..)) (fun s H C cl fp => ht _ E0 (ctx_blk cx s H scope C cl fp) (xok_blk ..))
    (fun s H C cl fp => he _ E0 (ctx_blk cx s H scope C cl fp) (xok_blk ..)) (hs X.env)) fun Z σ H ⟨I, F, G, ds, w, rel, rs, p⟩ => by
    obtain ⟨I, F, G, ds, w, rel, rs, q⟩ : lowE X.K E (eComp mi (own.map (·.2)) g t me) σ H (fun x H1 => gName i x σ H1 Z.nx) := lowE_bind (f := fun ds d w1 => (gNm i d ds w1).bind fun σ2 w2 => Res.ok (Fl.nx σ2) w2) rel rs p fun I1 F1 H1 x w1 v e1 rel1 rs1 rv p1 => p1 I1 F1 H1 .refl rel1 _ (rs1.set i rv)
    exact low_comp (f := fun ys w1 => Res.ok (D.lst ys) w1) ⟨I, F, G, ds, w, rel, rs, q⟩ fin_lst
theorem js_setCompN {i : Nat} {y : Str} {py spos : Pos} (hy : S.N[i]? = some y) (hyl : S.sc.names.lookup y = some .local) (hsw : ∀ env : Env, env.scope = S.sc → env.scope.kind = .function → swapsWith (.ListComp elt [⟨tg, iter, ifs, 0⟩] scope pos) (some (.Name y py)) spos.line env = pure true)
    (hi : JI S tg iter mi) (hb : blkC S.N S.sc scope own = true) (hg : JC (S.blk scope) (own.map (·.2)) tg g) (ht : JTs (S.blk scope) ifs t) (he : JE (S.blk scope) elt me)
    (hk : S.sc.kind = .function) (hs : ∀ (env : Env) x, foldedSetIterable iter env x = pure x := by intro _ _; rfl) : JS S (.Assign [.Name y py] (.ListComp elt [⟨tg, iter, ifs, 0⟩] scope pos) spos) (sAsg (eCompN mi (own.map (·.2)) g t me) (gNm i)) := fun X E cx xo =>
  ps_weak (ps_setLc (i := i) (own := own) cx.calm cx.nd (by rw [cx.N]; exact hy) (by rw [cx.sc]; exact hyl) (hsw X.env cx.sc (by rw [cx.sc]; exact hk)) (hi X E cx xo) (blkOk_by (by rw [cx.N, cx.sc]; exact hb)) (fun s H C cl fp => hg _ E0 (ctx_blk cx s H scope C cl fp) (xok_blk ..)) (fun s H C cl fp => ht _ E0 (ctx_blk cx s H scope C cl fp) (xok_blk ..))
    (fun s H C cl fp => he _ E0 (ctx_blk cx s H scope C cl fp) (xok_blk ..)) (hs X.env)) fun Z σ H ⟨I, F, G, ds, w, rel, rs, p⟩ => by
    obtain ⟨I, F, G, ds, w, rel, rs, q⟩ : lowE X.K E (eCompN mi (own.map (·.2)) g t me) σ H (fun x H1 => gName i x σ H1 Z.nx) := lowE_bind (f := fun ds d w1 => (gNm i d ds w1).bind fun σ2 w2 => Res.ok (Fl.nx σ2) w2) rel rs p fun I1 F1 H1 x w1 v e1 rel1 rs1 rv p1 => p1 I1 F1 H1 .refl rel1 _ (rs1.set i rv)
    exact low_comp (f := fun ys w1 => Res.ok (D.ref w1.length) (w1 ++ [MO.lst ys])) ⟨I, F, G, ds, w, rel, rs, q⟩ fin_new
end
end Pc

set_option Elab.async false
set_option linter.all false
set_option maxRecDepth 100000
set_option maxHeartbeats 4000000
set_option autoImplicit false
/-! Pc, part H: subscripts, slices, stores, dicts, built-ins by values. -/
namespace Pc
open PySem PySem.Spec PyProof.Rows L2

/-! ### keys -/
def keyD : D → Option Key
  | .int i => some (.inl i)
  | .str x => some (.inr x)
  | _ => none
def keysD : List D → Option (List Key)
  | [] => some []
  | d :: ds => match keyD d, keysD ds with
    | some k, some ks => some (k :: ks)
    | _, _ => none
def lookD {κ : Type} [DecidableEq κ] : List (κ × D) → κ → Option D
  | [], _ => none
  | (j, d) :: r, k => if j = k then some d else lookD r k
def putD {κ : Type} [DecidableEq κ] (kvs : List (κ × D)) (k : κ) (d : D) : List (κ × D) :=
  if (lookD kvs k).isSome then kvs.map (fun p => if p.1 = k then (p.1, d) else p) else kvs ++ [(k, d)]
section
variable {K : PySem.W.Frag} {I : List Addr} {F G H : Hp} {w : W} {κ : Type} [DecidableEq κ]
def RepOp (K : PySem.W.Frag) (I : List Addr) (F : Hp) : Option D → Option V → Prop
  | some d, q => ∃ v, q = some v ∧ RepV K I F d v
  | none, q => q = none
theorem RepKs.look : ∀ {kvs : List (κ × D)} {r : List (κ × V)} (k : κ), RepKs K I F kvs r → RepOp K I F (lookD kvs k) (valV r k)
  | [], r, k, h => by simp only [RepKs] at h; subst h; rfl
  | (j, d) :: kvs, r, k, h => by
    simp only [RepKs] at h
    obtain ⟨v, t, rfl, h1, h2⟩ := h
    simp only [lookD]
    by_cases e : j = k
    · rw [if_pos e]; exact ⟨v, by rw [valV_pos e], h1⟩
    · rw [if_neg e]
      have := RepKs.look k h2
      rw [valV_neg (by exact e)]
      exact this
theorem RepKs.length : ∀ {kvs : List (κ × D)} {r : List (κ × V)}, RepKs K I F kvs r → kvs.length = r.length
  | [], r, h => by simp only [RepKs] at h; subst h; rfl
  | (j, d) :: kvs, r, h => by
    simp only [RepKs] at h
    obtain ⟨v, t, rfl, h1, h2⟩ := h
    simp [RepKs.length h2]
theorem RepKs.repl {d : D} {v : V} (k : κ) (hv : RepV K I F d v) : ∀ {kvs : List (κ × D)} {r : List (κ × V)}, RepKs K I F kvs r → RepKs K I F (kvs.map (fun p => if p.1 = k then (p.1, d) else p)) (r.map (fun p => if p.1 = k then (p.1, v) else p))
  | [], r, h => by simp only [RepKs] at h; subst h; simp [RepKs]
  | (j, x) :: kvs, r, h => by
    simp only [RepKs] at h
    obtain ⟨u, t, rfl, h1, h2⟩ := h
    simp only [List.map_cons]
    by_cases e : j = k
    · rw [if_pos e, if_pos e]; simp only [RepKs]; exact ⟨v, _, rfl, hv, RepKs.repl k hv h2⟩
    · rw [if_neg e, if_neg e]; simp only [RepKs]; exact ⟨u, _, rfl, h1, RepKs.repl k hv h2⟩
theorem RepKs.snoc {d : D} {v : V} (k : κ) (hv : RepV K I F d v) : ∀ {kvs : List (κ × D)} {r : List (κ × V)}, RepKs K I F kvs r → RepKs K I F (kvs ++ [(k, d)]) (r ++ [(k, v)])
  | [], r, h => by simp only [RepKs] at h; subst h; simp only [List.nil_append, RepKs]; exact ⟨v, [], rfl, hv, rfl⟩
  | (j, x) :: kvs, r, h => by
    simp only [RepKs] at h
    obtain ⟨u, t, rfl, h1, h2⟩ := h
    simp only [List.cons_append, RepKs]
    exact ⟨u, _, rfl, h1, RepKs.snoc k hv h2⟩
theorem putK_eq (r : List (κ × V)) (k : κ) (v : V) : putK r k v = if (valV r k).isSome then r.map (fun p => if p.1 = k then (p.1, v) else p) else r ++ [(k, v)] := by
  unfold putK
  rw [valV_any]
theorem RepKs.put {d : D} {v : V} (k : κ) (hv : RepV K I F d v) {kvs : List (κ × D)} {r : List (κ × V)} (h : RepKs K I F kvs r) : RepKs K I F (putD kvs k d) (putK r k v) := by
  rw [putK_eq]
  unfold putD
  have hl := h.look k
  cases e : lookD kvs k with
  | some x =>
    rw [e] at hl
    obtain ⟨u, hu, _⟩ := hl
    rw [hu]
    exact h.repl k hv
  | none =>
    rw [e] at hl
    rw [hl]
    exact h.snoc k hv
theorem keyD_rep {d : D} {v : V} {k : Key} (h : RepV K I F d v) (e : keyD d = some k) : v = kV k := by
  cases d <;> simp only [keyD, Option.some.injEq, reduceCtorEq] at e
  · subst e; simp only [RepV] at h; exact h
  · subst e; simp only [RepV] at h; exact h
theorem keysD_rep : ∀ {ds : List D} {vs : List V} {ks : List Key}, RepL K I F ds vs → keysD ds = some ks → vs = ks.map kV
  | [], vs, ks, h, e => by simp only [keysD, Option.some.injEq] at e; subst e; simp only [RepL] at h; exact h
  | d :: ds, vs, ks, h, e => by
    simp only [RepL] at h
    obtain ⟨v, r, rfl, h1, h2⟩ := h
    simp only [keysD] at e
    split at e
    · rename_i k ks' e1 e2
      cases e
      rw [keyD_rep h1 e1, keysD_rep h2 e2]
      rfl
    · cases e
/-- a mutable object is changed -/
theorem Rel.upd {i : Nat} {a : Addr} {o o' : MO} {u' : HO} (rel : Rel K I F G w H) (hi : I[i]? = some a) (ho : w[i]? = some o) (r : RepO K I F o' u') (hf : o.fz = false := by rfl) : Rel K I F G (w.set i o') (upd H a u') := by
  have hF : F a = none := rel.ap i a o hi ho hf
  have hil : i < w.length := (List.getElem?_eq_some_iff.mp ho).1
  refine ⟨by simp [rel.len], rel.nd, fun j b q h1 h2 => ?_, fun b u h => ?_, fun j b q h1 h2 h3 => ?_, fun b u h => ?_, rel.gf⟩
  · by_cases hj : i = j
    · subst hj
      rw [List.getElem?_set_self hil] at h2
      cases h2
      rw [hi] at h1; cases h1
      exact ⟨u', upd_same, r⟩
    · rw [List.getElem?_set_ne hj] at h2
      obtain ⟨u, h3, h4⟩ := rel.ob j b q h1 h2
      have hb : b ≠ a := fun z => by
        subst z
        obtain ⟨l1, e1⟩ := List.getElem?_eq_some_iff.mp hi
        obtain ⟨l2, e2⟩ := List.getElem?_eq_some_iff.mp h1
        exact hj ((List.getElem_inj rel.nd).mp (e1.trans e2.symm))
      exact ⟨u, by rw [upd_ne hb]; exact h3, h4⟩
  · rw [upd_ne (ne_of_none h hF)]; exact rel.fz b u h
  · by_cases hj : i = j
    · subst hj
      rw [hi] at h1; cases h1; exact hF
    · rw [List.getElem?_set_ne hj] at h2
      exact rel.ap j b q h1 h2 h3
  · have hb : b ≠ a := fun z => (rel.gf b u h).2 (z ▸ List.mem_of_getElem? hi)
    rw [upd_ne hb]; exact rel.gz b u h
end

/-! ### x[i] -/
theorem RepL.at' {K : PySem.W.Frag} {I : List Addr} {F : Hp} {ds : List D} {vs : List V} (r : RepL K I F ds vs) {i : Int} {d : D} (h : atI ds i = some d) : ∃ v, atI vs i = some v ∧ RepV K I F d v := by
  unfold atI at h ⊢
  rw [← r.length]
  cases e : ixN ds.length i with
  | none => rw [e] at h; cases h
  | some j => rw [e] at h; exact r.get h
/-- an item of a dict -/
def lookM (o : MO) (y : D) : Option (Option D) := match o, y with
  | .dK kvs, y => (keyD y).map (lookD kvs)
  | .dF kvs, y => (keyD y).map (lookD kvs)
  | .dT kvs, .tup ys => (keysD ys).map (lookD kvs)
  | _, _ => none
def atM (xs : List D) (y : D) (w : W) : Res D := match y with
  | .int i => (match atI xs i with
    | some d => .ok d w
    | none => .bad)
  | _ => .bad
def atS (z : Str) (y : D) (w : W) : Res D := match y with
  | .int i => if z.length ≤ sizeLine then (match atI z.cps.toList i with
      | some c => .ok (.str ⟨#[c]⟩) w
      | none => .bad) else .bad
  | _ => .bad
def ixM (x y : D) (w : W) : Res D := match x with
  | .tup xs => atM xs y w
  | .ktp xs => atM xs y w
  | .lst xs => atM xs y w
  | .scr xs => atM xs y w
  | .str z => atS z y w
  | .ref r => (match w[r]? with
    | some (.lst xs) => atM xs y w
    | some o => (match lookM o y with
      | some (some d) => .ok d w
      | _ => .bad)
    | none => .bad)
  | _ => .bad
/-- a dict's item by its key, as a subscript by values -/
theorem ix_dict {X : Cx} (hu : X.A.units + 1 < cLine) : IxR X (fun x y H Q => ∃ a v, x = .ref a ∧ DGet H a y (some v) ∧ Q v H) := by
  intro value slice pins s σ H x y ov iv Q J rx ry h hs
  obtain ⟨a, v, ex, g, q⟩ := h
  subst ex
  cases rx
  have hT : s.TypeIs (.ref a) "dict" := dict_typeIs J g
  unfold subscriptTail
  apply wpAny_bind
  rw [getitemInPython_of_ne hT.not_modules]
  apply wpAny_bind
  apply wpAny_specialOf hT PySem.F.slot_dict_getitem.lookup
  have fin : wpAny (model X.prog X.w) X.A (subscripted slice false (.ref a) iv) (fun r s₃ => wpAny (model X.prog X.w) X.A (letTemporaryGo value (.ref a) r >>= fun _ => pure r) (EP X pins σ Q) X.xe s₃) X.xe s := by
    rw [hs]
    apply wpAny_operating
    exact d_getItem hu J g ry fun w' s3 J3 rw' => wpAny_bind (wpAny_letTemporaryGo (wpAny_pure ⟨v, H, J3, rw', q⟩))
  first
    | exact wpAny_pure (wpAny_bind fin)
    | exact wpAny_bind (wpAny_pure (wpAny_bind fin))
    | exact wpAny_bind fin
/-- what a key finds -/
theorem dget_of {K : PySem.W.Frag} {I : List Addr} {F G H : Hp} {w : W} (rel : Rel K I F G w H) {i : Nat} {a : Addr} {o : MO} {y : D} {v : V} {r : Option D} (hi : I[i]? = some a) (ho : w[i]? = some o) (ry : RepV K I F y v) (e : lookM o y = some r) :
    ∃ q, DGet H a v q ∧ RepOp K I F r q := by
  obtain ⟨u, hu, ro⟩ := rel.ob i a o hi ho
  cases o with
  | lst => simp [lookM] at e
  | ins => simp [lookM] at e
  | dK kvs =>
    obtain ⟨t, rfl, rk⟩ := ro
    simp only [lookM, Option.map_eq_some_iff] at e
    obtain ⟨k, ek, rfl⟩ := e
    exact ⟨valV t k, .inl ⟨t, k, .inl hu, keyD_rep ry ek, rfl⟩, rk.look k⟩
  | dF kvs =>
    obtain ⟨ob, t, rfl, rk⟩ := ro
    simp only [lookM, Option.map_eq_some_iff] at e
    obtain ⟨k, ek, rfl⟩ := e
    exact ⟨valV t k, .inl ⟨t, k, .inr ⟨ob, hu⟩, keyD_rep ry ek, rfl⟩, rk.look k⟩
  | dT kvs =>
    obtain ⟨t, rfl, rk⟩ := ro
    cases y <;> simp only [lookM, Option.map_eq_some_iff, reduceCtorEq] at e
    obtain ⟨k, ek, rfl⟩ := e
    simp only [RepV] at ry
    obtain ⟨b, us, rfl, hb, rl⟩ := ry
    obtain rfl := keysD_rep rl ek
    exact ⟨valV t k, .inr ⟨t, k, b, .inl hu, rfl, rel.fz _ _ hb, rfl⟩, rk.look k⟩
def GetIx (S : Stat) (f : D → D → W → Res D) : Prop := ∀ X E, Ctx S X → XOk X E → IxR X (low2 X.K E f)
section
variable {S : Stat} {pos : Pos} {a b : Expr} {ma mb : ME}
theorem getIx_of {f : D → D → W → Res D}
    (h : ∀ (X : Cx) (E : XK), Ctx S X → XOk X E → ∀ (I : List Addr) (F G : Hp) (d e : D) (w : W) (H : Hp) (x y : V) (Q : VK), Rel X.K I F G w H → RepV X.K I F d x → RepV X.K I F e y → Post X.K I F G E (RV X.K Q) (f d e w) →
      ∃ r : R2, IxR X r ∧ r x y H Q) : GetIx S f := fun X E c xo value slice pins s σ H x y v u Q J rx ry ⟨I, F, G, d, e, w, rel, rd, re, p⟩ hs => by
  obtain ⟨r, ho, hr⟩ := h X E c xo I F G d e w H x y Q rel rd re p
  exact ho value slice pins s σ H x y v u Q J rx ry hr hs
theorem at_seq {X : Cx} {E : XK} {I : List Addr} {F G : Hp} {e : D} {w : W} {H : Hp} {x y : V} {Q : VK} (rel : Rel X.K I F G w H) (re : RepV X.K I F e y) {xs : List D} {vs : List V} {q : Addr} (h1 : SqL X.K H q vs ∨ SqT X.K H q vs) (h2 : RepL X.K I F xs vs) (ex : x = .ref q)
    (p : Post X.K I F G E (RV X.K Q) (atM xs e w)) : ∃ r : R2, IxR X r ∧ r x y H Q := by
  cases e <;> first | exact p.elim | skip
  rename_i i
  simp only [RepV] at re
  simp only [atM] at p
  cases ha : atI xs i with
  | none => rw [ha] at p; exact p.elim
  | some d =>
    rw [ha] at p
    obtain ⟨v, hv, rv⟩ := h2.at' ha
    rcases h1 with h1 | h1
    · exact ⟨_, ix_list, q, vs, i, v, ex, re, h1, hv, p.okE rel rv⟩
    · exact ⟨_, ix_tup, q, vs, i, v, ex, re, h1, hv, p.okE rel rv⟩
theorem ix_ok : GetIx S ixM := getIx_of fun X E c xo I F G d e w H x y Q rel rd re p => by
  cases d <;> first | exact p.elim | skip
  case str z =>
    cases e <;> first | exact p.elim | skip
    rename_i i
    simp only [RepV] at rd re
    simp only [ixM, atS] at p
    split at p
    · rename_i hz
      split at p
      · rename_i c hc
        exact ⟨_, ix_str, z, i, c, rd, re, hz, hc, p.okE rel (by simp [RepV])⟩
      · exact p.elim
    · exact p.elim
  case tup xs =>
    simp only [RepV] at rd
    obtain ⟨q, vs, ex, h1, h2⟩ := rd
    exact at_seq rel re (.inr (.of (rel.fz _ _ h1))) h2 ex p
  case ktp xs =>
    simp only [RepV] at rd
    obtain ⟨q, vs, ex, h1, h2⟩ := rd
    exact at_seq rel re (.inr (rel.sqT h1)) h2 ex p
  case lst xs =>
    simp only [RepV] at rd
    obtain ⟨q, vs, ex, h1, h2⟩ := rd
    exact at_seq rel re (.inl (.of (rel.fz _ _ h1))) h2 ex p
  case scr xs =>
    simp only [RepV] at rd
    obtain ⟨q, vs, ex, h1, h2⟩ := rd
    exact at_seq rel re (.inl (rel.sqL h1)) h2 ex p
  case ref i =>
    simp only [RepV] at rd
    obtain ⟨q, ex, h1⟩ := rd
    simp only [ixM] at p
    split at p
    · rename_i xs hw
      obtain ⟨u, hu, vs, rfl, h2⟩ := rel.ob i q _ h1 hw
      exact at_seq rel re (.inl (.of hu)) h2 ex p
    · rename_i o hn hw
      split at p
      · rename_i d hd
        obtain ⟨r, hr, u, rfl, ru⟩ := dget_of rel h1 hw re hd
        exact ⟨_, ix_dict (by have := c.room.units; omega), q, u, ex, hr, p.okE rel ru⟩
      · exact p.elim
    · exact p.elim
theorem je_ix (ha : JE S a ma) (hb : JE S b mb) (hs : PlainIx b := by intro _ _; rfl) : JE S (.Subscript a b pos) (eBin ixM ma mb) := fun X E c xo =>
  pe_weak (pe_ix (ix_ok X E c xo) (ha X E c xo) (hb X E c xo) hs) fun _ _ _ h => low_bin h
end

/-! ### x[lo:hi] -/
abbrev MO' := Sg → W → Res (Option Int)
def oNone : MO' := fun _ w => .ok none w
def oSome (m : ME) : MO' := fun σ w => (m σ w).bind fun d w1 => match d with
  | .int i => .ok (some i) w1
  | _ => .bad
def RO (Q : Option Int → Hp → Prop) : List Addr → Hp → Hp → Option Int → W → Prop := fun _ _ H' o _ => Q o H'
def lowO (K : PySem.W.Frag) (E : XK) (m : MO') : TO := fun σ H Q => ∃ I F G ds w, Rel K I F G w H ∧ RepS K I F ds σ ∧ Post K I F G E (RO Q) (m ds w)
def JO (S : Stat) (e : Option Expr) (m : MO') : Prop := ∀ X E, Ctx S X → XOk X E → PO X e (lowO X.K E m)
def cutD (xs : List D) (lo hi : Option Int) : List D := (xs.drop (HT.sIx xs.length 0 lo)).take (HT.sIx xs.length xs.length hi - HT.sIx xs.length 0 lo)
def slM (x : D) (lo hi : Option Int) (w : W) : Res D := match x with
  | .tup xs => .ok (.tup (cutD xs lo hi)) w
  | .str z => if z.length ≤ sizeLine then .ok (.str (cutS z lo hi)) w else .bad
  | .lst xs => .ok (.lst (cutD xs lo hi)) w
  | .scr xs => .ok (.lst (cutD xs lo hi)) w
  | .ref i => (match w[i]? with
    | some (.lst xs) => .ok (.lst (cutD xs lo hi)) w
    | _ => .bad)
  | _ => .bad
/-- a slice that may be changed -/
def slN (x : D) (lo hi : Option Int) (w : W) : Res D := match x with
  | .lst xs => .ok (.ref w.length) (w ++ [.lst (cutD xs lo hi)])
  | .scr xs => .ok (.ref w.length) (w ++ [.lst (cutD xs lo hi)])
  | .ref i => (match w[i]? with
    | some (.lst xs) => .ok (.ref w.length) (w ++ [.lst (cutD xs lo hi)])
    | _ => .bad)
  | _ => .bad
def eSl (f : D → Option Int → Option Int → W → Res D) (a : ME) (lo hi : MO') : ME := fun σ w => (a σ w).bind fun x w1 => (lo σ w1).bind fun l w2 => (hi σ w2).bind fun u w3 => f x l u w3
theorem RepL.cutV {K : PySem.W.Frag} {I : List Addr} {F : Hp} {ds : List D} {vs : List V} (r : RepL K I F ds vs) (lo hi : Option Int) : RepL K I F (cutD ds lo hi) (L2.cutV vs lo hi) := by
  unfold cutD L2.cutV
  rw [← r.length]
  exact (r.drop _).take _
theorem cut_whole {xs : List D} {lo hi : Option Int} (h : HT.sIx xs.length 0 lo = 0 ∧ HT.sIx xs.length xs.length hi = xs.length) : cutD xs lo hi = xs := by
  unfold cutD
  rw [h.1, h.2]
  simp
def SlM (S : Stat) (f : D → Option Int → Option Int → W → Res D) : Prop := ∀ X E, Ctx S X → XOk X E → ∀ (I : List Addr) (F G : Hp) (d : D) (w : W) (H : Hp) (x : V) (lo hi : Option Int) (Q : VK), Rel X.K I F G w H → RepV X.K I F d x → Post X.K I F G E (RV X.K Q) (f d lo hi w) →
      ∃ r, SlR X r ∧ r x lo hi H Q
def lowSl (K : PySem.W.Frag) (E : XK) (f : D → Option Int → Option Int → W → Res D) : V → Option Int → Option Int → Hp → VK → Prop := fun x lo hi H Q => ∃ I F G d w, Rel K I F G w H ∧ RepV K I F d x ∧ Post K I F G E (RV K Q) (f d lo hi w)
section
variable {S : Stat} {pos p2 : Pos} {a e : Expr} {ma m : ME} {lo hi : Option Expr} {ml mh : MO'} {f : D → Option Int → Option Int → W → Res D}
theorem jo_none : JO S none oNone := fun X E c xo => ⟨fun pins s σ H Q J ⟨I, F, G, ds, w, rel, rs, p⟩ => po_none.run pins s σ H Q J (p I F H .refl rel)⟩
theorem jo_some (h : JE S e m) : JO S (some e) (oSome m) := fun X E c xo => ⟨fun pins s σ H Q J ⟨I, F, G, ds, w, rel, rs, p⟩ => (po_some (h X E c xo)).run pins s σ H Q J
  (lowE_bind (f := fun _ d w1 => match d with
    | .int i => Res.ok (some i) w1
    | _ => .bad) rel rs p fun I1 F1 H1 x w1 v e1 rel1 rs1 rv p1 => by
    cases x <;> first | exact p1.elim | skip
    simp only [RepV] at rv
    exact ⟨_, rv, p1 I1 F1 H1 .refl rel1⟩)⟩
theorem sl_ok : SlM S slM := fun X E c xo I F G d w H x lo hi Q rel rd p => by
  cases d <;> first | exact p.elim | skip
  case tup xs =>
    simp only [RepV] at rd
    obtain ⟨q, vs, ex, h1, h2⟩ := rd
    refine ⟨_, sl_tupA, q, vs, ex, .of (rel.fz _ _ h1), fun hw => ?_, fun hw => ?_⟩
    · rw [← h2.length] at hw
      refine p.okE rel ?_
      rw [cut_whole hw]
      simp only [RepV]
      exact ⟨q, vs, ex ▸ rfl, h1, h2⟩
    · exact new_tup rel (h2.cutV lo hi) p
  case str z =>
    simp only [RepV] at rd
    simp only [slM] at p
    split at p
    · rename_i hz
      exact ⟨_, sl_str, z, rd, hz, p.okE rel (by simp [RepV])⟩
    · exact p.elim
  case lst xs =>
    simp only [RepV] at rd
    obtain ⟨q, vs, ex, h1, h2⟩ := rd
    exact ⟨_, sl_list, q, vs, ex, .of (rel.fz _ _ h1), new_lst rel (h2.cutV lo hi) p⟩
  case scr xs =>
    simp only [RepV] at rd
    obtain ⟨q, vs, ex, h1, h2⟩ := rd
    exact ⟨_, sl_list, q, vs, ex, rel.sqL h1, new_lst rel (h2.cutV lo hi) p⟩
  case ref i =>
    simp only [RepV] at rd
    obtain ⟨q, ex, h1⟩ := rd
    simp only [slM] at p
    split at p
    · rename_i xs hw
      obtain ⟨u, hu, vs, rfl, h2⟩ := rel.ob i q _ h1 hw
      exact ⟨_, sl_list, q, vs, ex, .of hu, new_lst rel (h2.cutV lo hi) p⟩
    · exact p.elim
theorem slN_ok : SlM S slN := fun X E c xo I F G d w H x lo hi Q rel rd p => by
  cases d <;> first | exact p.elim | skip
  case lst xs =>
    simp only [RepV] at rd
    obtain ⟨q, vs, ex, h1, h2⟩ := rd
    exact ⟨_, sl_list, q, vs, ex, .of (rel.fz _ _ h1), new_obj (o := .lst _) rel ⟨_, rfl, h2.cutV lo hi⟩ p⟩
  case scr xs =>
    simp only [RepV] at rd
    obtain ⟨q, vs, ex, h1, h2⟩ := rd
    exact ⟨_, sl_list, q, vs, ex, rel.sqL h1, new_obj (o := .lst _) rel ⟨_, rfl, h2.cutV lo hi⟩ p⟩
  case ref i =>
    simp only [RepV] at rd
    obtain ⟨q, ex, h1⟩ := rd
    simp only [slN] at p
    split at p
    · rename_i xs hw
      obtain ⟨u, hu, vs, rfl, h2⟩ := rel.ob i q _ h1 hw
      exact ⟨_, sl_list, q, vs, ex, .of hu, new_obj (o := .lst _) rel ⟨_, rfl, h2.cutV lo hi⟩ p⟩
    · exact p.elim
theorem je_sl (hf : SlM S f) (ha : JE S a ma) (hl : JO S lo ml) (hh : JO S hi mh) : JE S (.Subscript a (.Slice lo hi none p2) pos) (eSl f ma ml mh) := fun X E c xo => by
  have hr : SlR X (lowSl X.K E f) := fun pins s σ H x v vl vu l u sl Q J rx hs pl pu ⟨I, F, G, d, w, rel, rd, p⟩ => by
    obtain ⟨r, h1, h2⟩ := hf X E c xo I F G d w H x l u Q rel rd p
    exact h1 pins s σ H x v vl vu l u sl Q J rx hs pl pu h2
  refine pe_weak (pe_slice hr (ha X E c xo) (hl X E c xo) (hh X E c xo)) fun σ H Q ⟨I, F, G, ds, w, rel, rs, p⟩ => ?_
  refine lowE_bind (f := fun ds x w1 => (ml ds w1).bind fun l w2 => (mh ds w2).bind fun u w3 => f x l u w3) rel rs p fun I1 F1 H1 x w1 v e1 rel1 rs1 rv p1 => ?_
  refine ⟨I1, F1, G, ds, w1, rel1, rs1, (Post.bind p1).mono fun I2 F2 H2 l w2 _ e2 rel2 p2 => ?_⟩
  refine ⟨I2, F2, G, ds, w2, rel2, rs1.ext e2, (Post.bind p2).mono fun I3 F3 H3 u w3 _ e3 rel3 p3 => ?_⟩
  exact ⟨I3, F3, G, x, w3, rel3, RepV.ext (e2.trans e3) _ _ rv, p3⟩
end

/-! ### o[i] = v -/
def setM (o i d : D) (w : W) : Res Unit := match o with
  | .ref r => (match w[r]? with
    | some (.lst xs) => (match i with
      | .int k => (match ixN xs.length k with
        | some j => .ok () (w.set r (.lst (xs.set j d)))
        | none => .bad)
      | _ => .bad)
    | some (.dK kvs) => (match keyD i with
      | some k => if kvs.length < sizeLine then .ok () (w.set r (.dK (putD kvs k d))) else .bad
      | none => .bad)
    | some (.dT kvs) => (match i with
      | .tup ys => (match keysD ys with
        | some k => if kvs.length < sizeLine then .ok () (w.set r (.dT (putD kvs k d))) else .bad
        | none => .bad)
      | _ => .bad)
    | _ => .bad)
  | _ => .bad
def gSubM (mo mi : ME) : MG := fun d σ w => (mo σ w).bind fun o w1 => (mi σ w1).bind fun i w2 => (setM o i d w2).bind fun _ w3 => .ok σ w3
def lowSet (K : PySem.W.Frag) (E : XK) : TSet := fun o i v H Q => ∃ I F G x y d w, Rel K I F G w H ∧ RepV K I F x o ∧ RepV K I F y i ∧ RepV K I F d v ∧ Post K I F G E (fun _ _ H' _ _ => Q H') (setM x y d w)
theorem set_ok {X : Cx} {E : XK} (hu : X.A.units + 1 < cLine) : PSet X (lowSet X.K E) := by
  intro pins s σ H o i v ov iv u Q J ro ri rv ⟨I, F, G, x, y, d, w, rel, rx, ry, rd, p⟩
  cases x <;> first | exact p.elim | skip
  rename_i r
  simp only [RepV] at rx
  obtain ⟨a, rfl, h1⟩ := rx
  simp only [setM] at p
  split at p
  · rename_i xs hw
    obtain ⟨t, hu', vs, rfl, h2⟩ := rel.ob r a _ h1 hw
    cases y <;> first | exact p.elim | skip
    rename_i k
    simp only [RepV] at ry
    subst ry
    dsimp only at p
    split at p
    · rename_i j hj
      exact set_list pins s σ H _ _ v ov iv u Q J ro ri rv ⟨a, vs, k, j, rfl, rfl, hu', by rw [← h2.length]; exact hj, p I F _ .refl (rel.upd h1 hw ⟨_, rfl, h2.set j rd⟩)⟩
    · exact p.elim
  · rename_i kvs hw
    obtain ⟨t, hu', vs, rfl, h2⟩ := rel.ob r a _ h1 hw
    split at p
    · rename_i k hk
      split at p
      · rename_i hl
        obtain rfl := keyD_rep ry hk
        cases ro
        exact d_setItem hu J (.inl ⟨vs, k, hu', rfl, by rw [← h2.length]; exact hl, rfl⟩) ri rv fun s' J' => ⟨_, J', p I F _ .refl (rel.upd h1 hw ⟨_, rfl, h2.put k rd⟩)⟩
      · exact p.elim
    · exact p.elim
  · rename_i kvs hw
    obtain ⟨t, hu', vs, rfl, h2⟩ := rel.ob r a _ h1 hw
    cases y <;> first | exact p.elim | skip
    rename_i ys
    dsimp only at p
    split at p
    · rename_i k hk
      split at p
      · rename_i hl
        simp only [RepV] at ry
        obtain ⟨b, us, rfl, hb, rl⟩ := ry
        obtain rfl := keysD_rep rl hk
        cases ro
        exact d_setItem hu J (.inr ⟨vs, k, b, hu', rfl, rel.fz _ _ hb, by rw [← h2.length]; exact hl, rfl⟩) ri rv fun s' J' => ⟨_, J', p I F _ .refl (rel.upd h1 hw ⟨_, rfl, h2.put k rd⟩)⟩
      · exact p.elim
    · exact p.elim
  · exact p.elim
section
variable {S : Stat} {pos : Pos} {o i : Expr} {mo mi : ME}
theorem jg_sub (ho : JE S o mo) (hi : JE S i mi)
    (ha : ∀ (env : Env) v, assign (.Subscript o i pos) env v = (do
      let ov ← holding [v] (eval o env)
      let iv ← holding [v, ov] (eval i env)
      standAt pos
      holding [v, ov, iv] (setItem ov iv v)
      release [v, ov, iv] []) := by intro _ _; rfl) : JG S (.Subscript o i pos) (gSubM mo mi) := fun X E c xo =>
  pg_weak (pg_sub (ho X E c xo) (hi X E c xo) (set_ok (E := E) (by have := c.room.units; omega)) (ha X.env)) fun v σ H Q ⟨I, F, G, d, ds, w, rel, rs, rv, p⟩ => by
    refine lowE_bind (f := fun ds x w1 => (mi ds w1).bind fun y w2 => (setM x y d w2).bind fun _ w3 => Res.ok ds w3) rel rs p fun I1 F1 H1 x w1 u e1 rel1 rs1 ru p1 => ?_
    refine lowE_bind (f := fun ds y w2 => (setM x y d w2).bind fun _ w3 => Res.ok ds w3) rel1 rs1 p1 fun I2 F2 H2 y w2 t e2 rel2 rs2 rt p2 => ?_
    exact ⟨I2, F2, G, x, y, d, w2, rel2, RepV.ext e2 _ _ ru, rt, RepV.ext (e1.trans e2) _ _ rv, (Post.bind p2).mono fun I3 F3 H3 z w3 _ e3 rel3 p3 => p3 I3 F3 H3 .refl rel3 σ (rs2.ext e3)⟩
end
end Pc

set_option Elab.async false
set_option linter.all false
set_option maxRecDepth 100000
set_option maxHeartbeats 4000000
set_option autoImplicit false
/-! Pc, part I: calls of built-ins and of built-in types' methods. -/
namespace Pc
open PySem PySem.Spec PyProof.Rows L2

def lowF (K : PySem.W.Frag) (E : XK) (m : MF) : List V → Hp → VK → Prop := fun vs H Q => ∃ I F G ds w, Rel K I F G w H ∧ RepL K I F ds vs ∧ Post K I F G E (RV K Q) (m ds w)
def CB (S : Stat) (f : Value) (m : MF) : Prop := ∀ X E, Ctx S X → XOk X E → CallR X f (lowF X.K E m)
def eArg (m : MF) (ma : MA) : ME := fun σ w => (ma σ w).bind fun xs w1 => m xs w1
section
variable {S : Stat} {m : MF} {x : Str} {p pos : Pos} {e : Expr} {es : List Expr} {ma : MA} {f : Value}
theorem cb_of (h : ∀ (X : Cx) (E : XK), Ctx S X → XOk X E → ∀ (I : List Addr) (F G : Hp) (ds : List D) (w : W) (H : Hp) (vs : List V) (Q : VK), Rel X.K I F G w H → RepL X.K I F ds vs → Post X.K I F G E (RV X.K Q) (m ds w) → ∃ r, CallR X f r ∧ r vs H Q) : CB S f m :=
  fun X E c xo pins s σ H vs us Q J r ⟨I, F, G, ds, w, rel, rl, p⟩ => by
    obtain ⟨r', h1, h2⟩ := h X E c xo I F G ds w H vs Q rel rl p
    exact h1 pins s σ H vs us Q J r h2
theorem low_arg {K : PySem.W.Frag} {E : XK} {σ : L2.St} {H : Hp} {Q : VK} (h : lowE K E (eArg m ma) σ H Q) : tCB (lowF K E m) (lowA K E ma) σ H Q := by
  obtain ⟨I, F, G, ds, w, rel, rs, p⟩ := h
  exact lowA_bind (f := fun _ xs w1 => m xs w1) rel rs p fun I1 F1 H1 xs w1 vs e1 rel1 rs1 rvs p1 => ⟨I1, F1, G, xs, w1, rel1, rvs, p1⟩
theorem je_callB {id : String} (hc : CB S (.builtin id) m) (hg : S.sc.names.lookup x = some .globalImplicit) (hm : S.mg x = none) (hv : bootBuiltins x = some (.builtin id)) (ha : JA S (e :: es) ma) (hn : x ≠ "__name__" := by decide) (hdb : (x == ("__debug__" : Str)) = false := by decide)
    (he : ∀ env : Env, starEach (e :: es) env = (false, eval e env) :: starEach es env := by intro _; rfl) (hpl : ∀ env : Env, (backTo pos (starEach es env)).any (·.1) = false := by intro _; rfl) : JE S (.Call (.Name x p) (e :: es) [] pos) (eArg m ma) := fun X E c xo =>
  pe_weak (pe_callB (hc X E c xo) (by show X.env.scope.names.lookup x = _; rw [c.sc]; exact hg) (by rw [c.mg]; exact hm) hv (ha X E c xo) hn hdb (he X.env) (hpl X.env)) fun _ _ _ h => low_arg h
theorem je_callT {id : String} (hc : CB S (.type id) m) (hg : S.sc.names.lookup x = some .globalImplicit) (hm : S.mg x = none) (hv : bootBuiltins x = some (.type id)) (ha : JA S (e :: es) ma) (hn : x ≠ "__name__" := by decide) (hdb : (x == ("__debug__" : Str)) = false := by decide)
    (he : ∀ env : Env, starEach (e :: es) env = (false, eval e env) :: starEach es env := by intro _; rfl) (hpl : ∀ env : Env, (backTo pos (starEach es env)).any (·.1) = false := by intro _; rfl) : JE S (.Call (.Name x p) (e :: es) [] pos) (eArg m ma) := fun X E c xo =>
  pe_weak (pe_callTy (hc X E c xo) (by show X.env.scope.names.lookup x = _; rw [c.sc]; exact hg) (by rw [c.mg]; exact hm) hv (ha X E c xo) hn hdb (he X.env) (hpl X.env)) fun _ _ _ h => low_arg h
end

/-! ### the built-ins -/
theorem RepL.one {K : PySem.W.Frag} {I : List Addr} {F : Hp} {d : D} {vs : List V} (h : RepL K I F [d] vs) : ∃ v, vs = [v] ∧ RepV K I F d v := by
  simp only [RepL] at h
  obtain ⟨v, r, rfl, h1, rfl⟩ := h
  exact ⟨v, rfl, h1⟩
theorem RepL.two {K : PySem.W.Frag} {I : List Addr} {F : Hp} {d e : D} {vs : List V} (h : RepL K I F [d, e] vs) : ∃ v u, vs = [v, u] ∧ RepV K I F d v ∧ RepV K I F e u := by
  simp only [RepL] at h
  obtain ⟨v, r, rfl, h1, u, r2, rfl, h2, rfl⟩ := h
  exact ⟨v, u, rfl, h1, h2⟩
/-- a list that may be read: its content -/
theorem sq_items {K : PySem.W.Frag} {I : List Addr} {F G H : Hp} {w : W} (rel : Rel K I F G w H) {d : D} {v : V} {xs : List D} (h : RepV K I F d v) (e : d.items w = some xs) : ∃ a vs, v = .ref a ∧ (SqL K H a vs ∨ SqT K H a vs) ∧ RepL K I F xs vs := by
  cases d <;> simp only [D.items, Option.some.injEq, reduceCtorEq] at e <;> simp only [RepV] at h
  case tup => subst e; obtain ⟨a, vs, h0, h1, h2⟩ := h; exact ⟨a, vs, h0, .inr (.of (rel.fz _ _ h1)), h2⟩
  case ktp => subst e; obtain ⟨a, vs, h0, h1, h2⟩ := h; exact ⟨a, vs, h0, .inr (rel.sqT h1), h2⟩
  case lst => subst e; obtain ⟨a, vs, h0, h1, h2⟩ := h; exact ⟨a, vs, h0, .inl (.of (rel.fz _ _ h1)), h2⟩
  case scr => subst e; obtain ⟨a, vs, h0, h1, h2⟩ := h; exact ⟨a, vs, h0, .inl (rel.sqL h1), h2⟩
  case ref i =>
    split at e
    · rename_i ys hw
      cases e
      obtain ⟨a, h0, h1⟩ := h
      obtain ⟨u, hu, vs, rfl, h2⟩ := rel.ob i a _ h1 hw
      exact ⟨a, vs, h0, .inl (.of hu), h2⟩
    · cases e
def lenD (d : D) (w : W) : Option Nat := match d with
  | .str z => if z.length ≤ sizeLine then some z.length else none
  | .ref i => (match w[i]? with
    | some (.lst xs) => some xs.length
    | some (.dK kvs) => some kvs.length
    | _ => none)
  | d => (d.items w).map List.length
def lenM : MF := fun ds w => match ds with
  | [d] => (match lenD d w with
    | some n => .ok (.int n) w
    | none => .bad)
  | _ => .bad
def intsD : List D → Option (List Int)
  | [] => some []
  | .int i :: r => (intsD r).map (i :: ·)
  | _ :: _ => none
theorem intsD_rep {K : PySem.W.Frag} {I : List Addr} {F : Hp} : ∀ {ds : List D} {vs : List V} {ns : List Int}, RepL K I F ds vs → intsD ds = some ns → vs = ns.map V.int
  | [], vs, ns, h, e => by simp only [intsD, Option.some.injEq] at e; subst e; simp only [RepL] at h; exact h
  | d :: ds, vs, ns, h, e => by
    cases d <;> simp only [intsD, Option.map_eq_some_iff, reduceCtorEq] at e
    obtain ⟨r, e1, rfl⟩ := e
    simp only [RepL, RepV] at h
    obtain ⟨v, t, rfl, rfl, h2⟩ := h
    rw [intsD_rep h2 e1]
    rfl
/-- a list's content (not a tuple's) -/
def listD (d : D) (w : W) : Option (List D) := match d with
  | .lst xs => some xs
  | .scr xs => some xs
  | .ref i => (match w[i]? with
    | some (.lst xs) => some xs
    | _ => none)
  | _ => none
def tupD (d : D) : Option (List D) := match d with
  | .tup xs => some xs
  | .ktp xs => some xs
  | _ => none
theorem sq_list {K : PySem.W.Frag} {I : List Addr} {F G H : Hp} {w : W} (rel : Rel K I F G w H) {d : D} {v : V} {xs : List D} (h : RepV K I F d v) (e : listD d w = some xs) : ∃ a vs, v = .ref a ∧ SqL K H a vs ∧ RepL K I F xs vs := by
  cases d <;> simp only [listD, Option.some.injEq, reduceCtorEq] at e <;> simp only [RepV] at h
  case lst => subst e; obtain ⟨a, vs, h0, h1, h2⟩ := h; exact ⟨a, vs, h0, .of (rel.fz _ _ h1), h2⟩
  case scr => subst e; obtain ⟨a, vs, h0, h1, h2⟩ := h; exact ⟨a, vs, h0, rel.sqL h1, h2⟩
  case ref i =>
    split at e
    · rename_i ys hw
      cases e
      obtain ⟨a, h0, h1⟩ := h
      obtain ⟨u, hu, vs, rfl, h2⟩ := rel.ob i a _ h1 hw
      exact ⟨a, vs, h0, .of hu, h2⟩
    · cases e
theorem sq_tup {K : PySem.W.Frag} {I : List Addr} {F G H : Hp} {w : W} (rel : Rel K I F G w H) {d : D} {v : V} {xs : List D} (h : RepV K I F d v) (e : tupD d = some xs) : ∃ a vs, v = .ref a ∧ SqT K H a vs ∧ RepL K I F xs vs := by
  cases d <;> simp only [tupD, Option.some.injEq, reduceCtorEq] at e <;> simp only [RepV] at h
  case tup => subst e; obtain ⟨a, vs, h0, h1, h2⟩ := h; exact ⟨a, vs, h0, .of (rel.fz _ _ h1), h2⟩
  case ktp => subst e; obtain ⟨a, vs, h0, h1, h2⟩ := h; exact ⟨a, vs, h0, rel.sqT h1, h2⟩
def sumM : MF := fun ds w => match ds with
  | [d] => (match (listD d w).bind intsD with
    | some ns => .ok (.int ns.sum) w
    | none => .bad)
  | _ => .bad
/-- list(x): one that never changes; one that may -/
def listM : MF := fun ds w => match ds with
  | [d] => (match d.items w with
    | some xs => .ok (.lst xs) w
    | none => .bad)
  | _ => .bad
def listN : MF := fun ds w => match ds with
  | [d] => (match d.items w with
    | some xs => .ok (.ref w.length) (w ++ [.lst xs])
    | none => .bad)
  | _ => .bad
def tupM : MF := fun ds w => match ds with
  | [.tup xs] => .ok (.tup xs) w
  | [d] => (match listD d w with
    | some xs => .ok (.tup xs) w
    | none => .bad)
  | _ => .bad
def reprD (d : D) (w : W) : Option Str := match d.py w with
  | some p => if p.showable = true ∧ p.hasDict = false ∧ p.depth ≤ 60 ∧ p.shown.length ≤ sizeLine then some p.shown else none
  | none => none
def reprM : MF := fun ds w => match ds with
  | [d] => (match reprD d w with
    | some z => .ok (.str z) w
    | none => .bad)
  | _ => .bad
def intM : MF := fun ds w => match ds with
  | [.int i] => .ok (.int i) w
  | [.bl b] => .ok (.int (if b then 1 else 0)) w
  | _ => .bad
def max2 : MF := fun ds w => match ds with
  | [.int i, .int j] => .ok (.int (if j > i then j else i)) w
  | _ => .bad
def min2 : MF := fun ds w => match ds with
  | [.int i, .int j] => .ok (.int (if j < i then j else i)) w
  | _ => .bad
section
variable {S : Stat}
theorem cb_len : CB S (.builtin "len") lenM := cb_of fun X E c xo I F G ds w H vs Q rel rl p => by
  unfold lenM at p
  split at p
  · rename_i d
    obtain ⟨v, rfl, rv⟩ := rl.one
    split at p
    · rename_i n hn
      have go : ∀ {xs : List D}, d.items w = some xs → n = xs.length → ∃ r, CallR X (.builtin "len") r ∧ r [v] H Q := fun {xs} h1 h2 => by
        obtain ⟨a, us, rfl, hq, hr⟩ := sq_items rel rv h1
        refine ⟨_, call_len, .ref a, n, rfl, ?_, p.okE rel (by simp [RepV])⟩
        rw [h2, hr.length]
        rcases hq with hq | hq
        · exact .inl ⟨us, hq, rfl⟩
        · exact .inr ⟨us, hq, rfl⟩
      cases d <;> simp only [lenD, D.items, Option.map_some, Option.map_none, Option.some.injEq, reduceCtorEq] at hn
      case str z =>
        split at hn
        · rename_i hz
          cases hn
          simp only [RepV] at rv
          subst rv
          exact ⟨_, call_len, .str z, z.length, rfl, ⟨hz, rfl⟩, p.okE rel (by simp [RepV])⟩
        · cases hn
      case tup => exact go (by simp [D.items]) hn.symm
      case ktp => exact go (by simp [D.items]) hn.symm
      case lst => exact go (by simp [D.items]) hn.symm
      case scr => exact go (by simp [D.items]) hn.symm
      case ref i =>
        split at hn
        · rename_i xs hw
          exact go (by simp [D.items, hw]) (Option.some.inj hn).symm
        · rename_i kvs hw
          cases hn
          simp only [RepV] at rv
          obtain ⟨a, rfl, h1⟩ := rv
          obtain ⟨u, hu, us, rfl, h2⟩ := rel.ob i a _ h1 hw
          exact ⟨_, call_lenD, a, us, rfl, hu, p.okE rel (by simp [RepV, h2.length])⟩
        · cases hn
    · exact p.elim
  · exact p.elim
theorem cb_sum : CB S (.builtin "sum") sumM := cb_of fun X E c xo I F G ds w H vs Q rel rl p => by
  unfold sumM at p
  split at p
  · rename_i d
    obtain ⟨v, rfl, rv⟩ := rl.one
    split at p
    · rename_i ns hn
      obtain ⟨xs, h1, h2⟩ := Option.bind_eq_some_iff.mp hn
      obtain ⟨a, us, rfl, hq, hr⟩ := sq_list rel rv h1
      obtain rfl := intsD_rep hr h2
      exact ⟨_, cr_sum c.calm, a, ns, rfl, hq, p.okE rel (by simp [RepV])⟩
    · exact p.elim
  · exact p.elim
theorem cb_list : CB S (.type "list") listM := cb_of fun X E c xo I F G ds w H vs Q rel rl p => by
  unfold listM at p
  split at p
  · rename_i d
    obtain ⟨v, rfl, rv⟩ := rl.one
    split at p
    · rename_i xs hn
      obtain ⟨a, us, rfl, hq, hr⟩ := sq_items rel rv hn
      exact ⟨_, call_list_of, a, us, rfl, hq, new_lst rel hr p⟩
    · exact p.elim
  · exact p.elim
theorem cb_listN : CB S (.type "list") listN := cb_of fun X E c xo I F G ds w H vs Q rel rl p => by
  unfold listN at p
  split at p
  · rename_i d
    obtain ⟨v, rfl, rv⟩ := rl.one
    split at p
    · rename_i xs hn
      obtain ⟨a, us, rfl, hq, hr⟩ := sq_items rel rv hn
      exact ⟨_, call_list_of, a, us, rfl, hq, new_obj (o := .lst xs) rel ⟨us, rfl, hr⟩ p⟩
    · exact p.elim
  · exact p.elim
theorem cb_tuple : CB S (.type "tuple") tupM := cb_of fun X E c xo I F G ds w H vs Q rel rl p => by
  unfold tupM at p
  split at p
  · rename_i xs
    obtain ⟨v, rfl, rv⟩ := rl.one
    have rv' := rv
    simp only [RepV] at rv'
    obtain ⟨a, us, rfl, h1, h2⟩ := rv'
    exact ⟨_, call_tuple_of, a, us, rfl, .inr ⟨.of (rel.fz _ _ h1), p.okE rel rv⟩⟩
  · rename_i d _
    obtain ⟨v, rfl, rv⟩ := rl.one
    split at p
    · rename_i xs hn
      obtain ⟨a, us, rfl, hq, hr⟩ := sq_list rel rv hn
      exact ⟨_, call_tuple_of, a, us, rfl, .inl ⟨hq, new_tup rel hr p⟩⟩
    · exact p.elim
  · exact p.elim
theorem cb_int : CB S (.type "int") intM := cb_of fun X E c xo I F G ds w H vs Q rel rl p => by
  unfold intM at p
  split at p
  · rename_i i
    obtain ⟨v, rfl, rv⟩ := rl.one
    simp only [RepV] at rv
    subst rv
    exact ⟨_, call_int1, .inl ⟨i, rfl, p.okE rel (by simp [RepV])⟩⟩
  · rename_i b
    obtain ⟨v, rfl, rv⟩ := rl.one
    simp only [RepV] at rv
    subst rv
    exact ⟨_, call_int1, .inr ⟨b, rfl, p.okE rel (by simp [RepV])⟩⟩
  · exact p.elim
theorem cb_max2 : CB S (.builtin "max") max2 := cb_of fun X E c xo I F G ds w H vs Q rel rl p => by
  unfold max2 at p
  split at p
  · rename_i i j
    obtain ⟨v, u, rfl, rv, ru⟩ := rl.two
    simp only [RepV] at rv ru
    subst rv ru
    exact ⟨_, call_max2 c.calm, i, j, rfl, p.okE rel (by simp [RepV])⟩
  · exact p.elim
theorem cb_min2 : CB S (.builtin "min") min2 := cb_of fun X E c xo I F G ds w H vs Q rel rl p => by
  unfold min2 at p
  split at p
  · rename_i i j
    obtain ⟨v, u, rfl, rv, ru⟩ := rl.two
    simp only [RepV] at rv ru
    subst rv ru
    exact ⟨_, call_min2 c.calm, i, j, rfl, p.okE rel (by simp [RepV])⟩
  · exact p.elim
theorem cb_repr : CB S (.builtin "repr") reprM := fun X E c xo pins s σ H vs us Q J r ⟨I, F, G, ds, w, rel, rl, p⟩ => by
  unfold reprM at p
  split at p
  · rename_i d
    obtain ⟨v, rfl, rv⟩ := rl.one
    obtain ⟨u, rfl, ru⟩ := vals1 r
    split at p
    · rename_i z hz
      unfold reprD at hz
      split at hz
      · rename_i q hq
        split at hz
        · rename_i hc
          cases hz
          obtain ⟨c1, c2, c3, c4⟩ := hc
          obtain ⟨as, rd⟩ := Dp.reads J q v u (dp_py rel rv hq) ru
          have fin : ∀ (h' : Heap) (t tk : Nat), (∀ b o, s.heap.get? b = some o → h'.get? b = some o) → EP X pins σ Q (.str q.shown t) { s with heap := h', toks := tk } := fun h' t tk hk => ⟨.str q.shown, H, J.kept hk, ⟨_, rfl⟩, p.okE rel (by simp [RepV])⟩
          cases u with
          | ref a => exact repr_of_reads' rd c1 (fun z => by rw [c2] at z; cases z) c.gds (by have := c.room.units; omega) (fun _ _ h => h) (fun h' t tk hk => fin h' t tk hk) c4
          | none => cases rd; exact PySem.P.repr_of_none (by have := fin s.heap s.toks (s.toks + 1) fun _ _ h => h; simpa [PyData.shown] using this)
          | bool b => cases rd; exact PySem.P.repr_of_bool (by have := fin s.heap s.toks (s.toks + 1) fun _ _ h => h; simpa [PyData.shown] using this)
          | int i t => cases rd; exact PySem.P.repr_of_int (by simpa [PyData.showable] using c1) (by have := fin s.heap s.toks (s.toks + 1) fun _ _ h => h; simpa [PyData.shown] using this)
          | str x t => cases rd; exact PySem.P.repr_of_str (by have := fin s.heap s.toks (s.toks + 1) fun _ _ h => h; simpa [PyData.shown] using this) (by simpa [PyData.shown] using c4)
          | _ => cases rd
        · cases hz
      · cases hz
    · exact p.elim
  · exact p.elim
end
end Pc

set_option Elab.async false
set_option linter.all false
set_option maxRecDepth 100000
set_option maxHeartbeats 4000000
set_option autoImplicit false
/-! Pc, part J: methods of built-in types, membership, reversed lists. -/
namespace Pc
open PySem PySem.Spec PyProof.Rows L2

abbrev MMt := D → List D → W → Res D
def lowM (K : PySem.W.Frag) (E : XK) (m : MMt) : V → List V → Hp → VK → Prop := fun x vs H Q => ∃ I F G d ds w, Rel K I F G w H ∧ RepV K I F d x ∧ RepL K I F ds vs ∧ Post K I F G E (RV K Q) (m d ds w)
def MB (S : Stat) (id : String) (m : MMt) : Prop := ∀ X E, Ctx S X → XOk X E → MtR X id (lowM X.K E m)
def tyD (d : D) (w : W) : Option String := match d with
  | .str _ => some "str"
  | .lst _ => some "list"
  | .scr _ => some "list"
  | .ref i => (match w[i]? with
    | some (.lst _) => some "list"
    | some (.dK _) => some "dict"
    | some (.dT _) => some "dict"
    | _ => none)
  | _ => none
theorem tyV_of {K : PySem.W.Frag} {I : List Addr} {F G H : Hp} {w : W} (rel : Rel K I F G w H) {d : D} {v : V} (h : RepV K I F d v) {T : String} (e : tyD d w = some T) : tyV K T v H := by
  cases d <;> simp only [tyD, Option.some.injEq, reduceCtorEq] at e <;> simp only [RepV] at h
  case str => subst h; exact e.symm
  case lst => obtain ⟨a, vs, rfl, h1, h2⟩ := h; exact .inl ⟨e.symm, vs, .of (rel.fz _ _ h1)⟩
  case scr => obtain ⟨a, vs, rfl, h1, h2⟩ := h; exact .inl ⟨e.symm, vs, rel.sqL h1⟩
  case ref i =>
    obtain ⟨a, rfl, h1⟩ := h
    split at e
    · rename_i xs hw
      cases e
      obtain ⟨u, hu, vs, rfl, _⟩ := rel.ob i a _ h1 hw
      exact .inl ⟨rfl, vs, .of hu⟩
    · rename_i xs hw
      cases e
      obtain ⟨u, hu, vs, rfl, _⟩ := rel.ob i a _ h1 hw
      exact .inr (.inr (.inl ⟨rfl, .inl ⟨vs, hu⟩⟩))
    · rename_i xs hw
      cases e
      obtain ⟨u, hu, vs, rfl, _⟩ := rel.ob i a _ h1 hw
      exact .inr (.inr (.inl ⟨rfl, .inr ⟨vs, hu⟩⟩))
    · cases e
def eMeth (T : String) (m : MMt) (mo : ME) (ma : MA) : ME := fun σ w => (mo σ w).bind fun d w1 => if tyD d w1 = some T then (ma σ w1).bind fun xs w2 => m d xs w2 else .bad
section
variable {S : Stat} {m : MMt} {o e : Expr} {es : List Expr} {mo : ME} {ma : MA} {name : Str} {apos cpos : Pos} {T id : String}
theorem je_meth (pa : PlainAttrs T) (slot : Slot T name id) (hm : MB S id m) (ho : JE S o mo) (ha : JA S (e :: es) ma) (hty : typeOf (.builtin id) = pure (.type "method_descriptor") := by rfl)
    (hbase : ∀ env : Env, attributeBase o name env (eval o env) = eval o env := by intro _; rfl)
    (hfew : ∀ env : Env, ((backTo cpos (starEach (e :: es) env)).all (fun x => !x.1) && (backToKw cpos (keywordEach [] env)).all (fun x => x.1.isSome)
      && decide ((e :: es).length + ([] : List Keyword).length + (if ([] : List Keyword).isEmpty then 0 else 1) < 30)) = true := by intro _; rfl)
    (hline : (apos.endLine == cpos.line) = true := by rfl) (hs : ∀ env : Env, starEach (e :: es) env = (false, eval e env) :: starEach es env := by intro _; rfl) (hplain : ∀ env : Env, (backTo cpos (starEach es env)).any (·.1) = false := by intro _; rfl) :
    JE S (.Call (.Attribute o name apos) (e :: es) [] cpos) (eMeth T m mo ma) := fun X E c xo =>
  pe_weak (pe_bm pa slot hty (hm X E c xo) (ho X E c xo) (ha X E c xo) (hbase X.env) (hfew X.env) hline (hs X.env) (hplain X.env)) fun σ H Q ⟨I, F, G, ds, w, rel, rs, p⟩ =>
    lowE_bind (f := fun ds d w1 => if tyD d w1 = some T then (ma ds w1).bind fun xs w2 => m d xs w2 else .bad) rel rs p fun I1 F1 H1 d w1 v e1 rel1 rs1 rv p1 => by
      split at p1
      · rename_i ht
        refine ⟨tyV_of rel1 rv ht, ?_⟩
        exact lowA_bind (f := fun _ xs w2 => m d xs w2) rel1 rs1 p1 fun I2 F2 H2 xs w2 vs e2 rel2 rs2 rvs p2 => ⟨I2, F2, G, d, xs, w2, rel2, RepV.ext e2 _ _ rv, rvs, p2⟩
      · exact p1.elim
theorem je_meth0 (pa : PlainAttrs T) (slot : Slot T name id) (hm : MB S id m) (ho : JE S o mo) (hty : typeOf (.builtin id) = pure (.type "method_descriptor") := by rfl)
    (hbase : ∀ env : Env, attributeBase o name env (eval o env) = eval o env := by intro _; rfl) (hline : (apos.endLine == cpos.line) = true := by rfl) :
    JE S (.Call (.Attribute o name apos) [] [] cpos) (eMeth T m mo aNil) := fun X E c xo =>
  pe_weak (pe_bm0 pa slot hty (hm X E c xo) (ho X E c xo) (hbase X.env) hline) fun σ H Q ⟨I, F, G, ds, w, rel, rs, p⟩ =>
    lowE_bind (f := fun ds d w1 => if tyD d w1 = some T then (aNil ds w1).bind fun xs w2 => m d xs w2 else .bad) rel rs p fun I1 F1 H1 d w1 v e1 rel1 rs1 rv p1 => by
      split at p1
      · rename_i ht
        exact ⟨tyV_of rel1 rv ht, I1, F1, G, d, [], w1, rel1, rv, by simp [RepL], p1⟩
      · exact p1.elim
theorem mb_of {id : String} (h : ∀ (X : Cx) (E : XK), Ctx S X → XOk X E → ∀ (I : List Addr) (F G : Hp) (d : D) (ds : List D) (w : W) (H : Hp) (x : V) (vs : List V) (Q : VK), Rel X.K I F G w H → RepV X.K I F d x → RepL X.K I F ds vs → Post X.K I F G E (RV X.K Q) (m d ds w) →
    ∃ r, MtR X id r ∧ r x vs H Q) : MB S id m := fun X E c xo pins s σ H x vs v us Q J rx rv ⟨I, F, G, d, ds, w, rel, rd, rl, p⟩ => by
  obtain ⟨r', h1, h2⟩ := h X E c xo I F G d ds w H x vs Q rel rd rl p
  exact h1 pins s σ H x vs v us Q J rx rv h2
end

/-! ### a list's methods -/
def appendM : MMt := fun d ds w => match d, ds with
  | .ref i, [y] => (match w[i]? with
    | some (.lst xs) => if xs.length < sizeLine then .ok .non (w.set i (.lst (xs ++ [y]))) else .bad
    | _ => .bad)
  | _, _ => .bad
def popM : MMt := fun d ds w => match d, ds with
  | .ref i, [] => (match w[i]? with
    | some (.lst xs) => (match xs[xs.length - 1]? with
      | some y => .ok y (w.set i (.lst xs.dropLast))
      | none => .bad)
    | _ => .bad)
  | _, _ => .bad
def popAtM : MMt := fun d ds w => match d, ds with
  | .ref i, [.int n] => (match w[i]? with
    | some (.lst xs) => if -(2 ^ 63) ≤ n ∧ n < 2 ^ 63 then (match seqIndex? n xs.length with
      | some k => (match xs[k]? with
        | some y => .ok y (w.set i (.lst (xs.eraseIdx k)))
        | none => .bad)
      | none => .bad) else .bad
    | _ => .bad)
  | _, _ => .bad
def extendM : MMt := fun d ds w => match d, ds with
  | .ref i, [.lst zs] => (match w[i]? with
    | some (.lst xs) => if xs.length + zs.length ≤ sizeLine then .ok .non (w.set i (.lst (xs ++ zs))) else .bad
    | _ => .bad)
  | .ref i, [.ref j] => (match w[i]?, w[j]? with
    | some (.lst xs), some (.lst zs) => if xs.length + zs.length ≤ sizeLine then .ok .non (w.set i (.lst (xs ++ zs))) else .bad
    | _, _ => .bad)
  | _, _ => .bad
section
variable {K : PySem.W.Frag} {I : List Addr} {F : Hp}
theorem RepL.dropLast {ds : List D} {vs : List V} (r : RepL K I F ds vs) : RepL K I F ds.dropLast vs.dropLast := by
  rw [List.dropLast_eq_take, List.dropLast_eq_take, ← r.length]
  exact r.take _
theorem RepL.eraseIdx {ds : List D} {vs : List V} (r : RepL K I F ds vs) (i : Nat) : RepL K I F (ds.eraseIdx i) (vs.eraseIdx i) := by
  rw [List.eraseIdx_eq_take_drop_succ, List.eraseIdx_eq_take_drop_succ]
  exact (r.take _).append (r.drop _)
theorem RepL.reverse : ∀ {ds : List D} {vs : List V}, RepL K I F ds vs → RepL K I F ds.reverse vs.reverse
  | [], vs, h => by simp only [RepL] at h; subst h; simp [RepL]
  | d :: ds, vs, h => by
    simp only [RepL] at h
    obtain ⟨v, r, rfl, h2, h3⟩ := h
    rw [List.reverse_cons, List.reverse_cons]
    exact h3.reverse.append (RepL.cons h2 (by simp [RepL]))
end
section
variable {S : Stat}
theorem mb_append : MB S "list.append" appendM := mb_of fun X E c xo I F G d ds w H x vs Q rel rd rl p => by
  unfold appendM at p
  split at p
  · rename_i i y
    simp only [RepV] at rd
    obtain ⟨a, rfl, hi⟩ := rd
    obtain ⟨v, rfl, rv⟩ := rl.one
    split at p
    · rename_i xs hw
      obtain ⟨u, hu, us, rfl, hr⟩ := rel.ob i a _ hi hw
      split at p
      · rename_i hl
        exact ⟨_, mt_append, a, us, v, rfl, rfl, hu, by rw [← hr.length]; exact hl, p.okE (rel.upd hi hw ⟨_, rfl, hr.append (RepL.cons rv (by simp [RepL]))⟩) (by simp [RepV])⟩
      · exact p.elim
    · exact p.elim
  · exact p.elim
theorem mb_pop : MB S "list.pop" popM := mb_of fun X E c xo I F G d ds w H x vs Q rel rd rl p => by
  unfold popM at p
  split at p
  · rename_i i
    simp only [RepV] at rd
    obtain ⟨a, rfl, hi⟩ := rd
    split at p
    · rename_i xs hw
      obtain ⟨u, hu, us, rfl, hr⟩ := rel.ob i a _ hi hw
      split at p
      · rename_i y hy
        obtain ⟨v, hv, rv⟩ := hr.get hy
        simp only [RepL] at rl
        exact ⟨_, mt_pop, a, us, v, rfl, rl, hu, by rw [← hr.length]; exact hv, p.okE (rel.upd hi hw ⟨_, rfl, hr.dropLast⟩) rv⟩
      · exact p.elim
    · exact p.elim
  · exact p.elim
theorem mb_popAt : MB S "list.pop" popAtM := mb_of fun X E c xo I F G d ds w H x vs Q rel rd rl p => by
  unfold popAtM at p
  split at p
  · rename_i i n
    simp only [RepV] at rd
    obtain ⟨a, rfl, hi⟩ := rd
    obtain ⟨t, rfl, rt⟩ := rl.one
    simp only [RepV] at rt
    subst rt
    split at p
    · rename_i xs hw
      obtain ⟨u, hu, us, rfl, hr⟩ := rel.ob i a _ hi hw
      split at p
      · rename_i hn
        split at p
        · rename_i k hk
          split at p
          · rename_i y hy
            obtain ⟨v, hv, rv⟩ := hr.get hy
            exact ⟨_, mt_popAt, a, us, n, k, v, rfl, rfl, hu, hn.1, hn.2, by rw [← hr.length]; exact hk, hv, p.okE (rel.upd hi hw ⟨_, rfl, hr.eraseIdx k⟩) rv⟩
          · exact p.elim
        · exact p.elim
      · exact p.elim
    · exact p.elim
  · exact p.elim
theorem mb_extend : MB S "list.extend" extendM := mb_of fun X E c xo I F G d ds w H x vs Q rel rd rl p => by
  unfold extendM at p
  split at p
  · rename_i i zs
    simp only [RepV] at rd
    obtain ⟨a, rfl, hi⟩ := rd
    obtain ⟨t, rfl, rt⟩ := rl.one
    simp only [RepV] at rt
    obtain ⟨b, ts, rfl, hb, rt⟩ := rt
    split at p
    · rename_i xs hw
      obtain ⟨u, hu, us, rfl, hr⟩ := rel.ob i a _ hi hw
      split at p
      · rename_i hl
        exact ⟨_, mt_extend, a, b, us, ts, rfl, rfl, hu, rel.fz _ _ hb, by rw [← hr.length, ← rt.length]; exact hl, p.okE (rel.upd hi hw ⟨_, rfl, hr.append rt⟩) (by simp [RepV])⟩
      · exact p.elim
    · exact p.elim
  · rename_i i j
    simp only [RepV] at rd
    obtain ⟨a, rfl, hi⟩ := rd
    obtain ⟨t, rfl, rt⟩ := rl.one
    simp only [RepV] at rt
    obtain ⟨b, rfl, hj⟩ := rt
    split at p
    · rename_i xs zs hw hz
      obtain ⟨u, hu, us, rfl, hr⟩ := rel.ob i a _ hi hw
      obtain ⟨u2, hu2, ts, rfl, rt⟩ := rel.ob j b _ hj hz
      split at p
      · rename_i hl
        exact ⟨_, mt_extend, a, b, us, ts, rfl, rfl, hu, hu2, by rw [← hr.length, ← rt.length]; exact hl, p.okE (rel.upd hi hw ⟨_, rfl, hr.append rt⟩) (by simp [RepV])⟩
      · exact p.elim
    · exact p.elim
  · exact p.elim
end

/-! ### xs[::-1], xs a list -/
def revM (d : D) (w : W) : Res D := match listD d w with
  | some xs => .ok (.lst xs.reverse) w
  | none => .bad
def revN (d : D) (w : W) : Res D := match listD d w with
  | some xs => .ok (.ref w.length) (w ++ [.lst xs.reverse])
  | none => .bad
section
variable {S : Stat} {e : Expr} {m : ME} {k : Nat} {p1 p2 p3 pos : Pos}
theorem je_rev (h : JE S e m) : JE S (.Subscript e (.Slice none none (some (.UnaryOp .USub (.Constant (.int 1) k p1) p2)) p3) pos) (eUn revM m) := fun X E c xo =>
  pe_weak (pe_revL (h X E c xo)) fun σ H Q ⟨I, F, G, ds, w, rel, rs, p⟩ => lowE_bind (f := fun _ d w1 => revM d w1) rel rs p fun I1 F1 H1 d w1 v e1 rel1 rs1 rv p => by
    unfold revM at p
    split at p
    · rename_i xs hx
      obtain ⟨a, us, rfl, hq, hr⟩ := sq_list rel1 rv hx
      exact ⟨a, us, rfl, hq, new_lst rel1 hr.reverse p⟩
    · exact p.elim
theorem je_revN (h : JE S e m) : JE S (.Subscript e (.Slice none none (some (.UnaryOp .USub (.Constant (.int 1) k p1) p2)) p3) pos) (eUn revN m) := fun X E c xo =>
  pe_weak (pe_revL (h X E c xo)) fun σ H Q ⟨I, F, G, ds, w, rel, rs, p⟩ => lowE_bind (f := fun _ d w1 => revN d w1) rel rs p fun I1 F1 H1 d w1 v e1 rel1 rs1 rv p => by
    unfold revN at p
    split at p
    · rename_i xs hx
      obtain ⟨a, us, rfl, hq, hr⟩ := sq_list rel1 rv hx
      exact ⟨a, us, rfl, hq, new_obj (o := .lst _) rel1 ⟨_, rfl, hr.reverse⟩ p⟩
    · exact p.elim
end

/-! ### x in y: lists and tuples of data, dicts -/
def inSeqD (x y : D) (w : W) : Option Bool := match x.py w, y.py w with
  | some p, some (.list qs) => if SeqAt.shaped p = true ∧ SeqAt.shaped (.list qs) = true then some (qs.any fun z => PyData.eqv z p) else none
  | some p, some (.tuple qs) => if SeqAt.shaped p = true ∧ SeqAt.shaped (.tuple qs) = true then some (qs.any fun z => PyData.eqv z p) else none
  | _, _ => none
def inD (x y : D) (w : W) : Option Bool := match y with
  | .ref i => (match w[i]? with
    | some (.dK kvs) => (lookM (.dK kvs) x).map Option.isSome
    | some (.dT kvs) => (lookM (.dT kvs) x).map Option.isSome
    | _ => inSeqD x y w)
  | y => inSeqD x y w
def inM (x y : D) (w : W) : Res D := match inD x y w with
  | some b => .ok (.bl b) w
  | none => .bad
def notInM (x y : D) (w : W) : Res D := match inD x y w with
  | some b => .ok (.bl (!b)) w
  | none => .bad
def rInDT (K : PySem.W.Frag) : R2 := fun x y H Q => ∃ d ds, Dp K H x d ∧ Dp K H y (.tuple ds) ∧ SeqAt.shaped d = true ∧ SeqAt.shaped (.tuple ds) = true ∧ Q (.bl (ds.any fun z => PyData.eqv z d)) H
def rNotInDT (K : PySem.W.Frag) : R2 := fun x y H Q => ∃ d ds, Dp K H x d ∧ Dp K H y (.tuple ds) ∧ SeqAt.shaped d = true ∧ SeqAt.shaped (.tuple ds) = true ∧ Q (.bl (!ds.any fun z => PyData.eqv z d)) H
theorem op_inDT {X : Cx} (hu : X.A.units + 65 < cLine) : OpR X (compareOp .In) (rInDT X.K) := by
  intro pins s σ H x y v u Q I rx ry h
  obtain ⟨d, ds, hd, he, sd, se, q⟩ := h
  obtain ⟨as, r1⟩ := Dp.reads I d x v hd rx
  obtain ⟨bs, r2⟩ := Dp.reads I (.tuple ds) y u he ry
  exact SeqAt.in_tuple_reads r2 r1 (SeqAt.canLay_of_shaped se) (SeqAt.canLay_of_shaped sd) (room_in_shaped sd hu) ⟨.bl _, H, I, rfl, q⟩
theorem op_notInDT {X : Cx} (hu : X.A.units + 65 < cLine) : OpR X (compareOp .NotIn) (rNotInDT X.K) := by
  intro pins s σ H x y v u Q I rx ry h
  obtain ⟨d, ds, hd, he, sd, se, q⟩ := h
  obtain ⟨as, r1⟩ := Dp.reads I d x v hd rx
  obtain ⟨bs, r2⟩ := Dp.reads I (.tuple ds) y u he ry
  exact SeqAt.notIn_tuple_reads r2 r1 (SeqAt.canLay_of_shaped se) (SeqAt.canLay_of_shaped sd) (room_in_shaped sd hu) ⟨.bl _, H, I, rfl, q⟩
theorem op_inDict {X : Cx} (hu : X.A.units + 1 < cLine) : OpR X (compareOp .In) (fun x y H Q => ∃ a q, y = .ref a ∧ DGet H a x q ∧ Q (.bl q.isSome) H) := by
  intro pins s σ H x y v u Q J rx ry h
  obtain ⟨a, q, ey, g, hq⟩ := h
  subst ey
  cases ry
  exact d_in hu J g rx fun s' J' => ⟨.bl _, H, J', rfl, hq⟩
theorem op_notInDict {X : Cx} (hu : X.A.units + 1 < cLine) : OpR X (compareOp .NotIn) (fun x y H Q => ∃ a q, y = .ref a ∧ DGet H a x q ∧ Q (.bl (!q.isSome)) H) := by
  intro pins s σ H x y v u Q J rx ry h
  obtain ⟨a, q, ey, g, hq⟩ := h
  subst ey
  cases ry
  exact d_notIn hu J g rx fun s' J' => ⟨.bl _, H, J', rfl, hq⟩
theorem RepOp.isSome {K : PySem.W.Frag} {I : List Addr} {F : Hp} {d : Option D} {q : Option V} (h : RepOp K I F d q) : q.isSome = d.isSome := by
  cases d with
  | none => rw [show q = none from h]; rfl
  | some d => obtain ⟨v, rfl, _⟩ := h; rfl
section
variable {S : Stat}
theorem inSeq_go {X : Cx} {I : List Addr} {F G : Hp} {d e : D} {w : W} {H : Hp} {x y : V} (rel : Rel X.K I F G w H) (rd : RepV X.K I F d x) (re : RepV X.K I F e y) {b : Bool} (h : inSeqD d e w = some b) :
    ∃ p qs, Dp X.K H x p ∧ SeqAt.shaped p = true ∧ b = (qs.any fun z => PyData.eqv z p) ∧ ((Dp X.K H y (.list qs) ∧ SeqAt.shaped (.list qs) = true) ∨ (Dp X.K H y (.tuple qs) ∧ SeqAt.shaped (.tuple qs) = true)) := by
  unfold inSeqD at h
  split at h
  · rename_i p qs h1 h2
    split at h
    · rename_i hs
      cases h
      exact ⟨p, qs, dp_py rel rd h1, hs.1, rfl, .inl ⟨dp_py rel re h2, hs.2⟩⟩
    · cases h
  · rename_i p qs h1 h2
    split at h
    · rename_i hs
      cases h
      exact ⟨p, qs, dp_py rel rd h1, hs.1, rfl, .inr ⟨dp_py rel re h2, hs.2⟩⟩
    · cases h
  · cases h
theorem inD_go {X : Cx} {I : List Addr} {F G : Hp} {d e : D} {w : W} {H : Hp} {x y : V} (rel : Rel X.K I F G w H) (rd : RepV X.K I F d x) (re : RepV X.K I F e y) {b : Bool} (h : inD d e w = some b) :
    inSeqD d e w = some b ∨ ∃ a q, y = .ref a ∧ DGet H a x q ∧ q.isSome = b := by
  unfold inD at h
  split at h
  · rename_i i
    simp only [RepV] at re
    obtain ⟨a, rfl, hi⟩ := re
    split at h
    · rename_i kvs hw
      simp only [Option.map_eq_some_iff] at h
      obtain ⟨r, h1, rfl⟩ := h
      obtain ⟨q, g, hr⟩ := dget_of rel hi hw rd h1
      exact .inr ⟨a, q, rfl, g, hr.isSome⟩
    · rename_i kvs hw
      simp only [Option.map_eq_some_iff] at h
      obtain ⟨r, h1, rfl⟩ := h
      obtain ⟨q, g, hr⟩ := dget_of rel hi hw rd h1
      exact .inr ⟨a, q, rfl, g, hr.isSome⟩
    · exact .inl h
  · exact .inl h
theorem o2_in : O2 S (compareOp .In) inM := low2_of fun X E c xo I F G d e w H x y Q rel rd re p => by
  unfold inM at p
  split at p
  · rename_i b hb
    have hu := c.room.un
    rcases inD_go rel rd re hb with h | ⟨a, q, rfl, g, rfl⟩
    · obtain ⟨pp, qs, h1, h2, rfl, h3 | h3⟩ := inSeq_go rel rd re h
      · exact ⟨_, op_inD (by omega), pp, qs, h1, h3.1, h2, h3.2, p.okE rel (by simp [RepV])⟩
      · exact ⟨_, op_inDT (by omega), pp, qs, h1, h3.1, h2, h3.2, p.okE rel (by simp [RepV])⟩
    · exact ⟨_, op_inDict (by omega), a, q, rfl, g, p.okE rel (by simp [RepV])⟩
  · exact p.elim
theorem o2_notIn : O2 S (compareOp .NotIn) notInM := low2_of fun X E c xo I F G d e w H x y Q rel rd re p => by
  unfold notInM at p
  split at p
  · rename_i b hb
    have hu := c.room.un
    rcases inD_go rel rd re hb with h | ⟨a, q, rfl, g, rfl⟩
    · obtain ⟨pp, qs, h1, h2, rfl, h3 | h3⟩ := inSeq_go rel rd re h
      · exact ⟨_, op_notInD (by omega), pp, qs, h1, h3.1, h2, h3.2, p.okE rel (by simp [RepV])⟩
      · exact ⟨_, op_notInDT (by omega), pp, qs, h1, h3.1, h2, h3.2, p.okE rel (by simp [RepV])⟩
    · exact ⟨_, op_notInDict (by omega), a, q, rfl, g, p.okE rel (by simp [RepV])⟩
  · exact p.elim
end
end Pc

set_option Elab.async false
set_option linter.all false
set_option maxRecDepth 100000
set_option maxHeartbeats 4000000
set_option autoImplicit false
/-! Pc, part K: sorted. -/
namespace Pc
open PySem PySem.Spec PyProof.Rows L2
open PySem.W (EachIs AllAlike Sortable alike dataLe)

def pyOf (w : W) (d : D) : PyData := (d.py w).getD .none
def isTup1 : PyData → Bool
  | .tuple (_ :: _) => true
  | _ => false
def isOther : PyData → Bool
  | .none => false
  | .tuple _ => false
  | _ => true
def sortOk (ps : List PyData) : Bool := (ps.all fun p => ps.all fun q => alike p q) && (ps.all isTup1 || ps.all isOther) && ps.all fun p => decide (p.depth ≤ 60)
theorem sortOk.h1 {ps : List PyData} (h : sortOk ps = true) : AllAlike ps := by
  simp only [sortOk, Bool.and_eq_true, List.all_eq_true] at h
  exact fun d hd e he => h.1.1 d hd e he
theorem sortOk.h2 {ps : List PyData} (h : sortOk ps = true) : Sortable ps := by
  simp only [sortOk, Bool.and_eq_true, Bool.or_eq_true, List.all_eq_true] at h
  rcases h.1.2 with h | h
  · refine .inl fun d hd => ?_
    have := h d hd
    unfold isTup1 at this
    split at this
    · exact ⟨_, _, rfl⟩
    · cases this
  · refine .inr fun d hd => ?_
    have := h d hd
    unfold isOther at this
    split at this
    · cases this
    · cases this
    · rename_i n1 n2
      exact ⟨n1, fun xs z => n2 xs z⟩
theorem sortOk.h3 {ps : List PyData} (h : sortOk ps = true) : ∀ p ∈ ps, p.depth ≤ 60 := by
  simp only [sortOk, Bool.and_eq_true, List.all_eq_true, decide_eq_true_eq] at h
  exact h.2
noncomputable def sortD (xs : List D) (w : W) : Option (List D) := if xs.all (fun d => (d.py w).isSome) = true ∧ sortOk (xs.map (pyOf w)) = true ∧ xs.length ≤ sizeLine then some (xs.mergeSort (dataLe false (pyOf w))) else none
noncomputable def sortedM : MF := fun ds w => match ds with
  | [d] => (match (listD d w).bind fun xs => sortD xs w with
    | some ys => .ok (.lst ys) w
    | none => .bad)
  | _ => .bad
noncomputable def sortedN : MF := fun ds w => match ds with
  | [d] => (match (listD d w).bind fun xs => sortD xs w with
    | some ys => .ok (.ref w.length) (w ++ [.lst ys])
    | none => .bad)
  | _ => .bad
/-- what an item stands for, in the machine and in the middle -/
def Both (K : PySem.W.Frag) (I : List Addr) (F : Hp) (v : Value) (d : D) : Prop := ∃ x, RelV x v ∧ RepV K I F d x
theorem each_of {K : PySem.W.Frag} {I : List Addr} {F : Hp} : ∀ {ds : List D} {vs : List V} {us : List Value}, RepL K I F ds vs → Vals vs us → EachIs (Both K I F) us ds
  | [], vs, us, h, r => by simp only [RepL] at h; subst h; cases r; exact .nil
  | d :: ds, vs, us, h, r => by
    simp only [RepL] at h
    obtain ⟨v, t, rfl, h2, h3⟩ := h
    cases r with
    | cons r1 r2 => exact .cons ⟨v, r1, h2⟩ (each_of h3 r2)
theorem of_each {K : PySem.W.Frag} {I : List Addr} {F : Hp} : ∀ {ds : List D} {us : List Value}, EachIs (Both K I F) us ds → ∃ vs, RepL K I F ds vs ∧ Vals vs us
  | _, _, .nil => ⟨[], by simp [RepL], .nil⟩
  | _, _, .cons ⟨v, r1, h1⟩ t => by
    obtain ⟨vs, h2, h3⟩ := of_each t
    exact ⟨v :: vs, RepL.cons h1 h2, .cons r1 h3⟩
def rSortAny (K : PySem.W.Frag) : List V → Hp → VK → Prop := fun vs H Q => ∃ I F G w a xs us, Rel K I F G w H ∧ vs = [V.ref a] ∧ SqL K H a us ∧ RepL K I F xs us ∧ ∃ ys, sortD xs w = some ys ∧ ∀ zs q, RepL K I F ys zs → H q = none → Q (.ref q) (upd H q (.lst zs))
theorem cr_sortAny {X : Cx} (hu : X.A.units + 64 < cLine) : CallR X (.builtin "sorted") (rSortAny X.K) := by
  intro pins s σ H vs us0 Q J r h
  obtain ⟨I, F, G, w, a, xs, us, rel, rfl, hq, hr, ys, hy, q⟩ := h
  obtain ⟨its, rv, hl, hz⟩ := J.list hq
  obtain ⟨u, rfl, ru⟩ := vals1 r
  obtain rfl : u = Value.ref a := ru
  unfold sortD at hy
  split at hy
  · rename_i hc
    cases hy
    obtain ⟨c1, c2, c3⟩ := hc
    have e := each_of hr rv
    have er : EachIs (fun v d => ∃ as, Reads s.heap v (pyOf w d) as) its xs := by
      have : ∀ {ds : List D} {us : List Value}, EachIs (Both X.K I F) us ds → ds.all (fun d => (d.py w).isSome) = true → EachIs (fun v d => ∃ as, Reads s.heap v (pyOf w d) as) us ds := by
        intro ds us h hs
        induction h with
        | nil => exact .nil
        | cons h1 _ ih =>
          rw [List.all_cons, Bool.and_eq_true] at hs
          refine .cons ?_ (ih hs.2)
          obtain ⟨x, r1, h2⟩ := h1
          obtain ⟨p, hp⟩ := Option.isSome_iff_exists.mp hs.1
          unfold pyOf
          rw [hp]
          exact Dp.reads J p x _ (dp_py rel h2 hp) r1
      exact this e c1
    refine PySem.W.sorted_data (enc := pyOf w) hl.isList e er (sortOk.h1 c2) (sortOk.h2 c2) c3 (fun d hd => ?_) fun out ho eo => ?_
    · have := sortOk.h3 c2 _ (List.mem_map_of_mem hd)
      omega
    · obtain ⟨zs, h1, h2⟩ := of_each eo
      obtain ⟨n, hn⟩ := sortedAll_at s.heap its (List.toArray out)
      refine ⟨.ref (s.heap.objs.size + 1), upd H (s.heap.objs.size + 1) (.lst zs), J.laid (t' := s.toks) (fun b o hb => sortedAll_old hb) (Nat.le_succ _) ⟨?_, out, n, h2, hn⟩, rfl, q zs _ h1 (J.hok.fresh (Nat.le_succ _))⟩
      rw [h2.length, ho]; exact c3
  · cases hy
section
variable {S : Stat}
theorem cb_sorted : CB S (.builtin "sorted") sortedM := cb_of fun X E c xo I F G ds w H vs Q rel rl p => by
  unfold sortedM at p
  split at p
  · rename_i d
    obtain ⟨v, rfl, rv⟩ := rl.one
    split at p
    · rename_i ys hy
      obtain ⟨xs, h1, h2⟩ := Option.bind_eq_some_iff.mp hy
      obtain ⟨a, us, rfl, hq, hr⟩ := sq_list rel rv h1
      exact ⟨_, cr_sortAny (by have := c.room.un; omega), I, F, G, w, a, xs, us, rel, rfl, hq, hr, ys, h2, fun zs q hz hn => new_lst rel hz p q hn⟩
    · exact p.elim
  · exact p.elim
theorem cb_sortedN : CB S (.builtin "sorted") sortedN := cb_of fun X E c xo I F G ds w H vs Q rel rl p => by
  unfold sortedN at p
  split at p
  · rename_i d
    obtain ⟨v, rfl, rv⟩ := rl.one
    split at p
    · rename_i ys hy
      obtain ⟨xs, h1, h2⟩ := Option.bind_eq_some_iff.mp hy
      obtain ⟨a, us, rfl, hq, hr⟩ := sq_list rel rv h1
      exact ⟨_, cr_sortAny (by have := c.room.un; omega), I, F, G, w, a, xs, us, rel, rfl, hq, hr, ys, h2, fun zs q hz hn => new_obj (o := .lst _) rel ⟨_, rfl, hz⟩ p q hn⟩
    · exact p.elim
  · exact p.elim
end
end Pc

set_option Elab.async false
set_option linter.all false
set_option maxRecDepth 100000
set_option maxHeartbeats 4000000
set_option autoImplicit false
/-! Pc, part L: instances of own classes: attributes, making one. -/
namespace Pc
open PySem PySem.Spec PyProof.Rows L2

/-! ### attributes -/
def putFd (f : Str) (v : D) : List (Str × D) → List (Str × D)
  | [] => [(f, v)]
  | (g, x) :: r => if g = f then (g, v) :: r else (g, x) :: putFd f v r
theorem RepKs.lookup {K : PySem.W.Frag} {I : List Addr} {F : Hp} {κ : Type} [BEq κ] (k : κ) : ∀ {kvs : List (κ × D)} {r : List (κ × V)}, RepKs K I F kvs r → RepOp K I F (kvs.lookup k) (r.lookup k)
  | [], r, h => by simp only [RepKs] at h; subst h; rfl
  | (j, d) :: kvs, r, h => by
    simp only [RepKs] at h
    obtain ⟨v, t, rfl, h1, h2⟩ := h
    simp only [List.lookup]
    cases e : (k == j) with
    | true => exact ⟨v, rfl, h1⟩
    | false => exact RepKs.lookup k h2
theorem RepKs.putFd {K : PySem.W.Frag} {I : List Addr} {F : Hp} (f : Str) {d : D} {v : V} (hv : RepV K I F d v) : ∀ {kvs : List (Str × D)} {r : List (Str × V)}, RepKs K I F kvs r → RepKs K I F (Pc.putFd f d kvs) (putF f v r)
  | [], r, h => by simp only [RepKs] at h; subst h; simp only [Pc.putFd, putF, RepKs]; exact ⟨v, [], rfl, hv, rfl⟩
  | (j, x) :: kvs, r, h => by
    simp only [RepKs] at h
    obtain ⟨u, t, rfl, h1, h2⟩ := h
    simp only [Pc.putFd, putF]
    by_cases e : j = f
    · rw [if_pos e, if_pos e]; simp only [RepKs]; exact ⟨v, t, rfl, hv, h2⟩
    · rw [if_neg e, if_neg e]; simp only [RepKs]; exact ⟨u, _, rfl, h1, RepKs.putFd f hv h2⟩
/-- o.f, o an instance of C -/
def fldM (C : Addr) (f : Str) (d : D) (w : W) : Res D := match d with
  | .ref i => (match w[i]? with
    | some (.ins C' fs) => if C' = C then (match fs.lookup f with
      | some x => .ok x w
      | none => .bad) else .bad
    | _ => .bad)
  | _ => .bad
def setFldM (C : Addr) (f : Str) (d x : D) (w : W) : Res Unit := match d with
  | .ref i => (match w[i]? with
    | some (.ins C' fs) => if C' = C ∧ fs.length < 1000 then .ok () (w.set i (.ins C (putFd f x fs))) else .bad
    | _ => .bad)
  | _ => .bad
def eFld (C : Addr) (f : Str) (m : ME) : ME := eUn (fldM C f) m
def sSetF (C : Addr) (f : Str) (mo mv : ME) : MS := fun σ w => (mv σ w).bind fun x w1 => (mo σ w1).bind fun d w2 => (setFldM C f d x w2).bind fun _ w3 => .ok (.nx σ) w3
section
variable {S : Stat} {C : Addr} {f : Str} {o e : Expr} {mo mv : ME} {pos pos' : Pos}
theorem je_fld (hc : Cls S.K C) (hn : NoAttr S.K C f) (ho : JE S o mo) (hb : ∀ env : Env, attributeBase o f env (eval o env) = eval o env := by intro _; rfl) : JE S (.Attribute o f pos) (eFld C f mo) := fun X E cx xo =>
  pe_weak (pe_fld (ho X E cx xo) (hb X.env)) fun σ H Q ⟨I, F, G, ds, w, rel, rs, p⟩ => lowE_bind (f := fun _ d w1 => fldM C f d w1) rel rs p fun I1 F1 H1 d w1 v e1 rel1 rs1 rv pp => by
    unfold fldM at pp
    split at pp
    · rename_i i
      simp only [RepV] at rv
      obtain ⟨a, rfl, hi⟩ := rv
      split at pp
      · rename_i C' fs hw
        obtain ⟨u, hu, dx, r, rfl, hr⟩ := rel1.ob i a _ hi hw
        split at pp
        · rename_i hC
          subst hC
          have hl := hr.lookup f
          split at pp
          · rename_i x hx
            rw [hx] at hl
            obtain ⟨t, ht, rt⟩ := hl
            exact ⟨a, C', dx, r, t, rfl, hu, by rw [cx.K]; exact hc, by rw [cx.K]; exact hn, ht, pp.okE rel1 rt⟩
          · exact pp.elim
        · exact pp.elim
      · exact pp.elim
    · exact pp.elim
theorem js_setFld (hc : Cls S.K C) (hn : NoAttr S.K C f) (ho : JE S o mo) (hv : JE S e mv) (hs : ∀ env : Env, swapsWith e (some (.Attribute o f pos')) pos.line env = pure false := by intro _; rfl) : JS S (.Assign [.Attribute o f pos'] e pos) (sSetF C f mo mv) := fun X E cx xo =>
  ps_weak (ps_fld (ho X E cx xo) (hv X E cx xo) (hs X.env)) fun Z σ H ⟨I, F, G, ds, w, rel, rs, p⟩ => lowE_bind (f := fun ds x w1 => (mo ds w1).bind fun d w2 => (setFldM C f d x w2).bind fun _ w3 => Res.ok (Fl.nx ds) w3) rel rs p fun I1 F1 H1 x w1 v e1 rel1 rs1 rv p1 =>
    lowE_bind (f := fun ds d w2 => (setFldM C f d x w2).bind fun _ w3 => Res.ok (Fl.nx ds) w3) rel1 rs1 p1 fun I2 F2 H2 d w2 u e2 rel2 rs2 ru pp => by
      unfold setFldM at pp
      split at pp
      · rename_i i
        simp only [RepV] at ru
        obtain ⟨a, rfl, hi⟩ := ru
        split at pp
        · rename_i C' fs hw
          obtain ⟨t, hu, dx, r, rfl, hr⟩ := rel2.ob i a _ hi hw
          split at pp
          · rename_i hC
            obtain ⟨rfl, hl⟩ := hC
            have e0 : fs.length = r.length := hr.length
            exact ⟨a, C', dx, r, rfl, hu, by rw [cx.K]; exact hc, by rw [cx.K]; exact hn, by rw [← e0]; exact hl,
              pp I2 F2 _ .refl (rel2.upd (o' := .ins C' (putFd f x fs)) hi hw ⟨dx, _, rfl, hr.putFd f (RepV.ext e2 _ _ rv)⟩) σ rs2⟩
          · exact pp.elim
        · exact pp.elim
      · exact pp.elim
end

/-! ### C(..): a new instance, then __init__ -/
theorem rel_beside {K : PySem.W.Frag} {I : List Addr} {F G H : Hp} {w : W} (rel : Rel K I F G w H) {q : Addr} (hq : H q = none) (u : HO) : Rel K I F G w (upd H q u) := by
  refine ⟨rel.len, rel.nd, fun i a o h1 h2 => ?_, fun a t h => ?_, rel.ap, fun a t h => ?_, rel.gf⟩
  · obtain ⟨t, h3, h4⟩ := rel.ob i a o h1 h2
    exact ⟨t, by rw [upd_ne (ne_of_none h3 hq)]; exact h3, h4⟩
  · rw [upd_ne (ne_of_none (rel.fz a t h) hq)]; exact rel.fz a t h
  · rw [upd_ne (ne_of_none (rel.gz a t h) hq)]; exact rel.gz a t h
theorem rel_fresh {K : PySem.W.Frag} {I : List Addr} {F G H : Hp} {E : XK} {w : W} {o : MO} {u : HO} (rel : Rel K I F G w H) (r : RepO K I F o u) {q : Addr} (hq : H q = none) : ∃ I' F', Ext I F I' F' ∧ Rel K I' F' G (w ++ [o]) (upd H q u) ∧ RepV K I' F' (.ref w.length) (.ref q) :=
  new_obj (E := E) (Q := fun v H1 => ∃ I' F', Ext I F I' F' ∧ Rel K I' F' G (w ++ [o]) H1 ∧ RepV K I' F' (.ref w.length) v) rel r (fun I' F' H' e rel' v rv => ⟨I', F', e, rel', rv⟩) q hq
def madeM (m : MF) (C : Addr) (xs : List D → List D) (w : W) : Res D := (m (xs [.ref w.length]) (w ++ [.ins C []])).bind fun r w1 => match r with
  | .non => .ok (.ref w.length) w1
  | _ => .bad
def eMake (C : Addr) (m : MF) (n : Nat) (gd : List D → List D → List D) (ma : MA) : ME := fun σ w => (ma σ w).bind fun xs w1 => if xs.length = n then madeM m C (fun s => gd (s ++ xs) []) w1 else .bad
def eMakeK (C : Addr) (m : MF) (n j : Nat) (gd : List D → List D → List D) (ma mk : MA) : ME := fun σ w => (ma σ w).bind fun xs w1 => (mk σ w1).bind fun zs w2 => if xs.length = n ∧ zs.length = j then madeM m C (fun s => gd (s ++ xs) zs) w2 else .bad
theorem run_mk {X : Cx} {pins : List (Addr × Obj)} {σ : L2.St} {H : Hp} {s : Shared} {Q : VK} {E : XK} {k : Nat} {f C : Addr} {fd : FuncData} {ps ks : List Str} {m : MF} {n : Nat} {gd : List D → List D → List D} {I : List Addr} {F G : Hp} {xs zs : List D} {w : W} {us ws : List Value} {vs ys : List V}
    (M : Mk X.K C f) (xo : XOk X E) (Gf : FnG X.prog X.w X.K X.mg X.base k f fd ps m) (B : BindG X.K fd ps (n + 1) ks gd) (hr : Room (k + 1) X.A) (hg : X.A.guards = some []) (J : Inv X pins σ H s) (rel : Rel X.K I F G w H) (rx : RepL X.K I F xs vs) (rz : RepL X.K I F zs ys)
    (r : Vals vs us) (q : Vals ys ws) (h1 : xs.length = n) (h2 : zs.length = ks.length) (p : Post X.K I F G E (RV X.K Q) (madeM m C (fun s => gd (s ++ xs) zs) w)) : wpAny (model X.prog X.w) X.A (call (.ref C) us (ks.zip ws)) (EP X pins σ Q) X.xe s := by
  obtain ⟨g, gV, kb, rep⟩ := B.ex
  have f1 : H (s.heap.objs.size + 1) = none := J.hok.fresh (Nat.le_succ _)
  have f2 : H s.heap.objs.size = none := J.hok.fresh (Nat.le_refl _)
  have J2 := Inv.made (C := C) J
  have r1 : Vals (V.ref (s.heap.objs.size + 1) :: vs) (Value.ref (s.heap.objs.size + 1) :: us) := .cons rfl r
  have r2 := kb.rel r1 q
  have n1 : (Value.ref (s.heap.objs.size + 1) :: us).length = n + 1 := by
    rw [List.length_cons, ← r.length, ← rx.length, h1]
  have f3 : (upd H s.heap.objs.size (.own (s.heap.objs.size + 1))) (s.heap.objs.size + 1) = none := by
    rw [upd_ne (Nat.succ_ne_self _)]; exact f1
  obtain ⟨I', F', ee, rel', rn⟩ := rel_fresh (E := E) (rel_beside rel f2 (.own (s.heap.objs.size + 1))) (o := .ins C []) (u := .ins C s.heap.objs.size []) ⟨_, [], rfl, by simp [RepKs]⟩ f3
  have rxs : RepL X.K I' F' ([.ref w.length] ++ xs) (V.ref (s.heap.objs.size + 1) :: vs) := RepL.cons rn (RepL.ext ee _ _ rx)
  have r3 := rep I' F' _ _ zs ys rxs (RepL.ext ee _ _ rz)
  have hl : (gV (V.ref (s.heap.objs.size + 1) :: vs) ys).length = ps.length := by rw [← r3.length]; exact B.len _ zs (by simp [h1]) h2
  have pp : Post X.K I' F' G E (RV X.K fun v H2 => v = .non ∧ Q (.ref (s.heap.objs.size + 1)) H2) (m (gd ([.ref w.length] ++ xs) zs) (w ++ [.ins C []])) := by
    refine (Post.bind (p.ext ee)).mono fun I1 F1 H1 d w1 _ e1 rel1 p1 v rv => ?_
    cases d <;> first | exact p1.elim | skip
    simp only [RepV] at rv
    exact ⟨rv, p1.okE rel1 (RepV.ext e1 _ _ rn)⟩
  refine wpAny_call (make_map (f := f) J.kIn M.makes M.init (beq_iff_eq.mp M.fn) (codeAny_mono (Gf.run _ X.stack _ _ ⟨Value.ref (s.heap.objs.size + 1) :: us, ks.zip ws⟩ (g (Value.ref (s.heap.objs.size + 1) :: us) ws) _ _ E (hr.make C us (ks.zip ws)) hg
    (J2.env0.make C us (ks.zip ws)) (kb.to _ (Value.ref (s.heap.objs.size + 1) :: us) ws J2.kIn n1 (by rw [← q.length, ← rz.length]; exact h2)) r2 hl ⟨I', F', G, _, _, rel', r3, pp⟩) fun r s' hq' => ?_))
  cases r with
  | error e => exact passes_call xo.tk (fun _ _ _ _ h => h) pins σ _ _ e s' J2 hq'
  | ok fl =>
    cases fl with
    | ret u =>
      obtain ⟨v, H', I3, rv, ev, q3⟩ := J2.after hq'
      subst ev
      exact ⟨rv, ⟨V.ref (s.heap.objs.size + 1), H', I3, rfl, q3⟩⟩
    | next => exact False.elim hq'
    | brk => exact False.elim hq'
    | cont => exact False.elim hq'
section
variable {S : Stat} {k n : Nat} {f C : Addr} {fd : FuncData} {ps ks : List Str} {m : MF} {gd : List D → List D → List D} {x : Str} {p pos kpos : Pos} {e : Expr} {es : List Expr} {kws : List Keyword} {ma mk : MA} {me : ME} {nm : Option Str}
/-- C(e, ..) -/
theorem je_make (hk : k + 1 ≤ S.k) (M : Mk S.K C f) (Gf : FnG S.P S.w S.K S.mg S.base k f fd ps m) (B : BindG S.K fd ps (n + 1) [] gd) (hg : S.sc.names.lookup x = some .globalImplicit) (hm : S.mg x = some (.ref C)) (ha : JA S (e :: es) ma)
    (hdb : (x == ("__debug__" : Str)) = false := by decide) (he : ∀ env : Env, starEach (e :: es) env = (false, eval e env) :: starEach es env := by intro _; rfl) (hpl : ∀ env : Env, (backTo pos (starEach es env)).any (·.1) = false := by intro _; rfl) :
    JE S (.Call (.Name x p) (e :: es) [] pos) (eMake C m n gd ma) := fun X E cx xo => by
  refine ⟨fun pins s σ H Q J ⟨I, F, G, ds, w, rel, rs, p⟩ => ?_⟩
  refine wpAny_Call_Name_kw (ld_glob J (by show X.env.scope.names.lookup x = _; rw [cx.sc]; exact hg) (by rw [cx.mg]; exact hm) ?_ hdb)
  refine PySem.W.callWith_K (h₀ := X.base) J.ok.mod.kin (by rw [cx.K]; exact M.kp) (thn ((ha X E cx xo).run pos pins s σ H _ J (lowA_bind (f := fun _ xs w1 => if xs.length = n then madeM m C (fun s => gd (s ++ xs) []) w1 else .bad) (Q := fun vs H1 => ∃ I1 F1 xs w1, Rel X.K I1 F1 G w1 H1 ∧ RepL X.K I1 F1 xs vs ∧ xs.length = n ∧ Post X.K I1 F1 G E (RV X.K Q) (madeM m C (fun s => gd (s ++ xs) []) w1)) rel rs p fun I1 F1 H1 xs w1 vs e1 rel1 rs1 rvs p1 => ?_)) fun us s1 hq => ?_) (he X.env) (hpl X.env)
  · split at p1
    · rename_i hl
      exact ⟨I1, F1, xs, w1, rel1, rvs, hl, p1⟩
    · exact p1.elim
  · obtain ⟨vs, H1, J1, r, I1, F1, xs, w1, rel1, rvs, hl, p1⟩ := hq
    refine ⟨J1.kIn, ?_⟩
    have Gf' : FnG X.prog X.w X.K X.mg X.base k f fd ps m := by rw [cx.P, cx.w, cx.K, cx.mg, cx.base]; exact Gf
    have B' : BindG X.K fd ps (n + 1) [] gd := by rw [cx.K]; exact B
    have M' : Mk X.K C f := by rw [cx.K]; exact M
    exact run_mk (ks := []) (ws := []) (zs := []) (ys := []) M' xo Gf' B' (cx.room.mono hk) cx.gds J1 rel1 rvs (by simp [RepL]) r .nil hl rfl p1
/-- C(e, .., k = v, ..) -/
theorem je_makeK (hk : k + 1 ≤ S.k) (M : Mk S.K C f) (Gf : FnG S.P S.w S.K S.mg S.base k f fd ps m) (B : BindG S.K fd ps (n + 1) ks gd) (hg : S.sc.names.lookup x = some .globalImplicit) (hm : S.mg x = some (.ref C)) (ha : JA S (e :: es) ma) (hkw : JK S kws mk)
    (hall : ∀ env : Env, (backToKw pos (keywordEach kws env)).all (·.1.isSome) = true := by intro _; rfl) (hks : ∀ env : Env, (backToKw pos (keywordEach kws env)).filterMap (·.1) = ks := by intro _; rfl)
    (hdb : (x == ("__debug__" : Str)) = false := by decide) (he : ∀ env : Env, starEach (e :: es) env = (false, eval e env) :: starEach es env := by intro _; rfl)
    (hpl : ∀ env : Env, ((backTo pos (starEach (e :: es) env)).any (·.1) || (backToKw pos (keywordEach kws env)).any (·.1.isNone)) = false := by intro _; rfl) :
    JE S (.Call (.Name x p) (e :: es) kws pos) (eMakeK C m n ks.length gd ma mk) := fun X E cx xo => by
  refine ⟨fun pins s σ H Q J ⟨I, F, G, ds, w, rel, rs, p⟩ => ?_⟩
  refine wpAny_Call_Name_kw (ld_glob J (by show X.env.scope.names.lookup x = _; rw [cx.sc]; exact hg) (by rw [cx.mg]; exact hm) ?_ hdb)
  refine PySem.W.callWith_KW (h₀ := X.base) J.ok.mod.kin (by rw [cx.K]; exact M.kp) (hall X.env) (thn ((ha X E cx xo).run pos pins s σ H _ J (lowA_bind (f := fun ds xs w1 => (mk ds w1).bind fun zs w2 => if xs.length = n ∧ zs.length = ks.length then madeM m C (fun s => gd (s ++ xs) zs) w2 else .bad)
    (Q := fun vs H1 => ∃ I1 F1 xs w1, Rel X.K I1 F1 G w1 H1 ∧ RepS X.K I1 F1 ds σ ∧ RepL X.K I1 F1 xs vs ∧ Post X.K I1 F1 G E (RV X.K Q) ((mk ds w1).bind fun zs w2 => if xs.length = n ∧ zs.length = ks.length then madeM m C (fun s => gd (s ++ xs) zs) w2 else .bad)) rel rs p fun I1 F1 H1 xs w1 vs e1 rel1 rs1 rvs p1 => ⟨I1, F1, xs, w1, rel1, rs1, rvs, p1⟩)) fun us s1 hq => ?_) (hpl X.env) (he X.env)
  obtain ⟨vs, H1, J1, r, I1, F1, xs, w1, rel1, rs1, rvs, p1⟩ := hq
  refine thn ((hkw X E cx xo).run pos pins s1 σ H1 _ J1 (lowA_bind (f := fun _ zs w2 => if xs.length = n ∧ zs.length = ks.length then madeM m C (fun s => gd (s ++ xs) zs) w2 else .bad)
    (Q := fun ys H2 => ∃ I2 F2 zs w2, Rel X.K I2 F2 G w2 H2 ∧ RepL X.K I2 F2 xs vs ∧ RepL X.K I2 F2 zs ys ∧ (xs.length = n ∧ zs.length = ks.length) ∧ Post X.K I2 F2 G E (RV X.K Q) (madeM m C (fun s => gd (s ++ xs) zs) w2)) rel1 rs1 p1 fun I2 F2 H2 zs w2 ys e2 rel2 rs2 rvs2 p2 => ?_)) fun ws s2 hq2 => ?_
  · split at p2
    · rename_i hl
      exact ⟨I2, F2, zs, w2, rel2, RepL.ext e2 _ _ rvs, rvs2, hl, p2⟩
    · exact p2.elim
  · obtain ⟨ys, H2, J2, r2, I2, F2, zs, w2, rel2, rvs', rvs2, hl, p2⟩ := hq2
    refine ⟨J2.kIn, ?_⟩
    have Gf' : FnG X.prog X.w X.K X.mg X.base k f fd ps m := by rw [cx.P, cx.w, cx.K, cx.mg, cx.base]; exact Gf
    have B' : BindG X.K fd ps (n + 1) ks gd := by rw [cx.K]; exact B
    have M' : Mk X.K C f := by rw [cx.K]; exact M
    rw [hks X.env]
    exact run_mk (ks := ks) M' xo Gf' B' (cx.room.mono hk) cx.gds J2 rel2 rvs' rvs2 r r2 hl.1 hl.2 p2
end
end Pc

set_option Elab.async false
set_option linter.all false
set_option maxRecDepth 100000
set_option maxHeartbeats 4000000
set_option autoImplicit false
/-! Pc, part M: short words for the printed terms. -/
namespace Pc
open PySem PySem.Spec PyProof.Rows L2

section
variable {S : Stat} {pos pos' : Pos} {e : Expr} {m : ME}
theorem jv (i : Nat) {x : Str} (hN : S.N[i]? = some x := by rfl) (hv : Vis S.sc x := by first | exact Or.inl rfl | exact Or.inr (Or.inl rfl) | exact Or.inr (Or.inr rfl)) (hd : (x == ("__debug__" : Str)) = false := by decide) (hcd : (x == ("__classdict__" : Str)) = false := by decide) : JE S (.Name x pos) (eVar i) :=
  je_var i hN hv hd hcd
theorem jgn (i : Nat) {x : Str} (hN : S.N[i]? = some x := by rfl) (h1 : Loc S.sc x := by first | exact Or.inl rfl | exact Or.inr rfl) (h2 : S.fn x = true ∨ S.sc.names.lookup x = some .local := by first | exact Or.inl rfl | exact Or.inr rfl) : JG S (.Name x pos) (gNm i) := jg_name hN ⟨h1, h2⟩
theorem jcn {vs : List Nat} (i : Nat) {x : Str} (hN : S.N[i]? = some x := by rfl) (h1 : Loc S.sc x := by first | exact Or.inl rfl | exact Or.inr rfl) (h2 : S.fn x = true ∨ S.sc.names.lookup x = some .local := by first | exact Or.inl rfl | exact Or.inr rfl) (hv : i ∈ vs := by decide) : JC S vs (.Name x pos) (gNm i) := jc_name hN ⟨h1, h2⟩ hv
theorem jsn (i : Nat) {x : Str} (he : JE S e m) (hN : S.N[i]? = some x := by rfl) (h1 : Loc S.sc x := by first | exact Or.inl rfl | exact Or.inr rfl) (h2 : S.fn x = true ∨ S.sc.names.lookup x = some .local := by first | exact Or.inl rfl | exact Or.inr rfl) (hs : ∀ env : Env, swapsWith e (some (.Name x pos')) pos.line env = pure false := by intro _; rfl) :
    JS S (.Assign [.Name x pos'] e pos) (sAsg m (gNm i)) := js_set hN ⟨h1, h2⟩ he hs
end
def gAll : List D → List D → List D := fun xs _ => xs
/-- the parameters' values by places: a value by position, a value by keyword -/
def pick {α : Type} (is : List (Bool × Nat)) (us ws : List α) : List α := is.filterMap fun p => if p.1 = true then ws[p.2]? else us[p.2]?
theorem Vals.at? {vs : List V} {us : List Value} (r : Vals vs us) (i : Nat) : (vs[i]? = none ∧ us[i]? = none) ∨ ∃ v u, vs[i]? = some v ∧ us[i]? = some u ∧ RelV v u := by
  induction r generalizing i with
  | nil => exact .inl ⟨by simp, by simp⟩
  | cons h _ ih =>
    cases i with
    | zero => exact .inr ⟨_, _, rfl, rfl, h⟩
    | succ i => simpa using ih i
theorem RepL.at? {K : PySem.W.Frag} {I : List Addr} {F : Hp} {ds : List D} {vs : List V} (r : RepL K I F ds vs) (i : Nat) : (ds[i]? = none ∧ vs[i]? = none) ∨ ∃ d v, ds[i]? = some d ∧ vs[i]? = some v ∧ RepV K I F d v := by
  cases h : ds[i]? with
  | none => exact .inl ⟨rfl, by rw [List.getElem?_eq_none_iff] at h ⊢; rw [← r.length]; exact h⟩
  | some d => obtain ⟨v, h1, h2⟩ := r.get h; exact .inr ⟨d, v, rfl, h1, h2⟩
theorem pick_vals (is : List (Bool × Nat)) {vs zs : List V} {us ws : List Value} (h1 : Vals vs us) (h2 : Vals zs ws) : Vals (pick is vs zs) (pick is us ws) := by
  induction is with
  | nil => exact .nil
  | cons p is ih =>
    obtain ⟨b, i⟩ := p
    unfold pick at ih ⊢
    cases b with
    | true =>
      rcases Vals.at? h2 i with ⟨e1, e2⟩ | ⟨v, u, e1, e2, r⟩
      · simpa [List.filterMap_cons, e1, e2] using ih
      · simpa [List.filterMap_cons, e1, e2] using (show Vals (v :: _) (u :: _) from .cons r ih)
    | false =>
      rcases Vals.at? h1 i with ⟨e1, e2⟩ | ⟨v, u, e1, e2, r⟩
      · simpa [List.filterMap_cons, e1, e2] using ih
      · simpa [List.filterMap_cons, e1, e2] using (show Vals (v :: _) (u :: _) from .cons r ih)
theorem pick_rep (is : List (Bool × Nat)) {K : PySem.W.Frag} {I : List Addr} {F : Hp} {xs zs : List D} {vs us : List V} (h1 : RepL K I F xs vs) (h2 : RepL K I F zs us) : RepL K I F (pick is xs zs) (pick is vs us) := by
  induction is with
  | nil => simp [pick, RepL]
  | cons p is ih =>
    obtain ⟨b, i⟩ := p
    unfold pick at ih ⊢
    cases b with
    | true =>
      rcases RepL.at? h2 i with ⟨e1, e2⟩ | ⟨v, u, e1, e2, r⟩
      · simpa [List.filterMap_cons, e1, e2] using ih
      · simpa [List.filterMap_cons, e1, e2] using RepL.cons r ih
    | false =>
      rcases RepL.at? h1 i with ⟨e1, e2⟩ | ⟨v, u, e1, e2, r⟩
      · simpa [List.filterMap_cons, e1, e2] using ih
      · simpa [List.filterMap_cons, e1, e2] using RepL.cons r ih
theorem bind_pick {K : PySem.W.Frag} {x qual : Str} {params : Arguments} {body : List Stmt} {scope : Scope} {kws : List (Str × V)} {f : Addr} {fd : FuncData} {ps : List Str} (F : FunD K x qual params body scope [] kws f fd) (n : Nat) (ks : List Str) (is : List (Bool × Nat))
    (h : ∀ (kV doc pm : Value) (an : Option Addr) (cdv ct : Value) (us ws : List Value), us.length = n → ws.length = ks.length → bindArgs (PySem.W.fnOf x qual params body scope .none kV doc pm an cdv ct) ⟨us, ks.zip ws⟩ = pure (ps.zip (pick is us ws)))
    (hlen : ∀ xs zs : List D, xs.length = n → zs.length = ks.length → (pick is xs zs).length = ps.length) : BindG K fd ps n ks (pick is) :=
  bindG_kw F n ks (fun us ws => pick is us ws) h (fun h1 h2 => pick_vals is h1 h2) (fun I F' xs vs zs us h1 h2 => pick_rep is h1 h2) hlen
section
variable {S : Stat} {k : Nat} {f : Addr} {fd : FuncData} {ps ks : List Str} {m : MF} {gd : List D → List D → List D} {x : Str} {p pos : Pos} {kws : List Keyword} {mk : MA}
/-- f(k = v, ..) -/
theorem je_callK0 (hk : k ≤ S.k) (Gf : FnG S.P S.w S.K S.mg S.base k f fd ps m) (B : BindG S.K fd ps 0 ks gd) (hg : S.sc.names.lookup x = some .globalImplicit) (hm : S.mg x = some (.ref f)) (kp : PySem.W.keepIn S.K (.ref f) = true) (hkw : JK S kws mk)
    (hall : ∀ env : Env, (backToKw pos (keywordEach kws env)).all (·.1.isSome) = true := by intro _; rfl) (hks : ∀ env : Env, (backToKw pos (keywordEach kws env)).filterMap (·.1) = ks := by intro _; rfl)
    (hdb : (x == ("__debug__" : Str)) = false := by decide)
    (hpl : ∀ env : Env, ((backTo pos (starEach [] env)).any (·.1) || (backToKw pos (keywordEach kws env)).any (·.1.isNone)) = false := by intro _; rfl) :
    JE S (.Call (.Name x p) [] kws pos) (eCallK m 0 ks.length gd aNil mk) := fun X E cx xo => by
  refine ⟨fun pins s σ H Q J ⟨I, F, G, ds, w, rel, rs, p⟩ => ?_⟩
  refine wpAny_Call_Name_kw (ld_glob J (by show X.env.scope.names.lookup x = _; rw [cx.sc]; exact hg) (by rw [cx.mg]; exact hm) ?_ hdb)
  refine PySem.W.callWith_KW0 (h₀ := X.base) J.ok.mod.kin (by rw [cx.K]; exact kp) (hall X.env) ?_ (hpl X.env)
  refine thn ((hkw X E cx xo).run pos pins s σ H _ J (lowA_bind (f := fun _ zs w2 => if ([] : List D).length = 0 ∧ zs.length = ks.length then m (gd [] zs) w2 else .bad)
    (Q := fun ys H2 => ∃ I2 F2 zs w2, Rel X.K I2 F2 G w2 H2 ∧ RepL X.K I2 F2 zs ys ∧ zs.length = ks.length ∧ Post X.K I2 F2 G E (RV X.K Q) (m (gd [] zs) w2)) rel rs p fun I2 F2 H2 zs w2 ys e2 rel2 rs2 rvs2 p2 => ?_)) fun ws s2 hq2 => ?_
  · split at p2
    · rename_i hl
      exact ⟨I2, F2, zs, w2, rel2, rvs2, hl.2, p2⟩
    · exact p2.elim
  · obtain ⟨ys, H2, J2, r2, I2, F2, zs, w2, rel2, rvs2, hl, p2⟩ := hq2
    refine ⟨J2.kIn, ?_⟩
    have Gf' : FnG X.prog X.w X.K X.mg X.base k f fd ps m := by rw [cx.P, cx.w, cx.K, cx.mg, cx.base]; exact Gf
    have B' : BindG X.K fd ps 0 ks gd := by rw [cx.K]; exact B
    rw [hks X.env]
    exact run_G (ks := ks) (us := []) (vs := []) (xs := []) xo Gf' B' (cx.room.mono hk) cx.gds J2 rel2 (by simp [RepL]) rvs2 .nil r2 rfl hl p2
end
section
variable {S : Stat} {k n j : Nat} {f : Addr} {fd : FuncData} {ps ks : List Str} {m : MF} {gd : List D → List D → List D} {x : Str} {p pos : Pos} {e : Expr} {es : List Expr} {kws : List Keyword} {ma mk : MA}
/-- the same, the number of keywords told -/
theorem jck0 (hk : k ≤ S.k) (Gf : FnG S.P S.w S.K S.mg S.base k f fd ps m) (B : BindG S.K fd ps 0 ks gd) (hg : S.sc.names.lookup x = some .globalImplicit) (hm : S.mg x = some (.ref f)) (kp : PySem.W.keepIn S.K (.ref f) = true) (hkw : JK S kws mk) (hj : ks.length = j := by rfl)
    (hall : ∀ env : Env, (backToKw pos (keywordEach kws env)).all (·.1.isSome) = true := by intro _; rfl) (hks : ∀ env : Env, (backToKw pos (keywordEach kws env)).filterMap (·.1) = ks := by intro _; rfl)
    (hdb : (x == ("__debug__" : Str)) = false := by decide)
    (hpl : ∀ env : Env, ((backTo pos (starEach [] env)).any (·.1) || (backToKw pos (keywordEach kws env)).any (·.1.isNone)) = false := by intro _; rfl) :
    JE S (.Call (.Name x p) [] kws pos) (eCallK m 0 j gd aNil mk) := by subst hj; exact je_callK0 hk Gf B hg hm kp hkw hall hks hdb hpl
theorem jck (hk : k ≤ S.k) (Gf : FnG S.P S.w S.K S.mg S.base k f fd ps m) (B : BindG S.K fd ps n ks gd) (hg : S.sc.names.lookup x = some .globalImplicit) (hm : S.mg x = some (.ref f)) (kp : PySem.W.keepIn S.K (.ref f) = true) (ha : JA S (e :: es) ma) (hkw : JK S kws mk) (hj : ks.length = j := by rfl)
    (hall : ∀ env : Env, (backToKw pos (keywordEach kws env)).all (·.1.isSome) = true := by intro _; rfl) (hks : ∀ env : Env, (backToKw pos (keywordEach kws env)).filterMap (·.1) = ks := by intro _; rfl)
    (hdb : (x == ("__debug__" : Str)) = false := by decide) (he : ∀ env : Env, starEach (e :: es) env = (false, eval e env) :: starEach es env := by intro _; rfl)
    (hpl : ∀ env : Env, ((backTo pos (starEach (e :: es) env)).any (·.1) || (backToKw pos (keywordEach kws env)).any (·.1.isNone)) = false := by intro _; rfl) :
    JE S (.Call (.Name x p) (e :: es) kws pos) (eCallK m n j gd ma mk) := by subst hj; exact je_callK hk Gf B hg hm kp ha hkw hall hks hdb he hpl
end
/-- the places of a def, checked -/
def scopeC (N ps : List Str) (sc : Scope) : Bool := (match sc.kind with
  | .function => true
  | _ => false) && !sc.isCoroutine && !sc.isGenerator && decide N.Nodup && decide (N.take ps.length = ps) && (ps.all fun x => decide (sc.names.lookup x = some .local) || decide (sc.names.lookup x = some .cell)) && sc.names.all fun y => decide (y.2 ≠ .free)
theorem scope_by {N ps : List Str} {sc : Scope} (h : scopeC N ps sc = true) : FnScope N ps sc := by
  unfold scopeC at h
  simp only [Bool.and_eq_true, decide_eq_true_eq, List.all_eq_true, Bool.or_eq_true, Bool.not_eq_true'] at h
  obtain ⟨⟨⟨⟨⟨⟨h1, h2⟩, h3⟩, h4⟩, h5⟩, h6⟩, h7⟩ := h
  refine ⟨?_, h2, h3, h4, h5, h6, h7⟩
  split at h1
  · assumption
  · cases h1
end Pc

set_option Elab.async false
set_option linter.all false
set_option maxRecDepth 100000
set_option maxHeartbeats 4000000
set_option autoImplicit false
/-! Pc, part N: chains, types, all, dicts. -/
namespace Pc
open PySem PySem.Spec PyProof.Rows L2

/-! ### a < b < c -/
def eCh (f g : D → D → W → Res D) (ma mb mc : ME) : ME := fun σ w => (ma σ w).bind fun x w1 => (mb σ w1).bind fun y w2 => (f x y w2).bind fun r w3 => match r with
  | .bl b => if b = true then (mc σ w3).bind fun z w4 => g y z w4 else .ok (.bl false) w3
  | _ => .bad
section
variable {S : Stat} {pos : Pos} {a b c : Expr} {ma mb mc : ME} {f g : D → D → W → Res D}
theorem low_ch {K : PySem.W.Frag} {E : XK} {σ : L2.St} {H : Hp} {Q : VK} (h : lowE K E (eCh f g ma mb mc) σ H Q) : tChain (low2 K E f) (low2 K E g) (lowE K E ma) (lowE K E mb) (lowE K E mc) σ H Q := by
  obtain ⟨I, F, G, ds, w, rel, rs, p⟩ := h
  refine ⟨I, F, G, ds, w, rel, rs, (Post.bind p).mono fun I1 F1 H1 x w1 _ e1 rel1 p1 v rv => ?_⟩
  refine ⟨I1, F1, G, ds, w1, rel1, rs.ext e1, (Post.bind p1).mono fun I2 F2 H2 y w2 _ e2 rel2 p2 u ru => ?_⟩
  refine ⟨I2, F2, G, x, y, w2, rel2, RepV.ext e2 _ _ rv, ru, (Post.bind p2).mono fun I3 F3 H3 r w3 _ e3 rel3 p3 t rt => ?_⟩
  cases r <;> first | exact p3.elim | skip
  rename_i k _
  simp only [RepV] at rt
  refine ⟨k, rt, ?_⟩
  cases k with
  | false => exact p3.okE rel3 (by simp [RepV])
  | true =>
    refine ⟨I3, F3, G, ds, w3, rel3, (rs.ext e1).ext (e2.trans e3), (Post.bind p3).mono fun I4 F4 H4 z w4 _ e4 rel4 p4 q rq => ?_⟩
    exact ⟨I4, F4, G, y, z, w4, rel4, RepV.ext (e3.trans e4) _ _ ru, rq, p4⟩
theorem je_chain {op op' : CmpOp} (ho : O2 S (compareOp op) f) (ho' : O2 S (compareOp op') g) (ha : JE S a ma) (hb : JE S b mb) (hc : JE S c mc) (hm : lastMarks [op, op'] [b, c] = false := by with_unfolding_all rfl) :
    JE S (.Compare a [op, op'] [b, c] pos) (eCh f g ma mb mc) := fun X E cx xo => pe_weak (pe_chain (ho X E cx xo) (ho' X E cx xo) (ha X E cx xo) (hb X E cx xo) (hc X E cx xo) hm) fun _ _ _ h => low_ch h
end

/-! ### built-in types as values; isinstance -/
theorem je_bty {S : Stat} {x : Str} {n : String} {pos : Pos} (hg : S.sc.names.lookup x = some .globalImplicit) (hm : S.mg x = none) (hv : bootBuiltins x = some (.type n)) (hn : x ≠ "__name__" := by decide) (hd : (x == ("__debug__" : Str)) = false := by decide) : JE S (.Name x pos) (eC (.ty n)) := fun X E cx xo =>
  pe_weak (pe_bltn (v := .ty n) (by show X.env.scope.names.lookup x = _; rw [cx.sc]; exact hg) (by rw [cx.mg]; exact hm) hv rfl hn hd) fun σ H Q ⟨I, F, G, ds, w, rel, rs, p⟩ => p I F H .refl rel _ (by simp [RepV])
/-- a value's class: a built-in's name, or an own class -/
inductive Cls1 where
  | b (n : String) | o (C : Addr)
  deriving DecidableEq
def Cls1.v : Cls1 → Value
  | .b n => .type n
  | .o C => .ref C
def clsD (d : D) (w : W) : Option Cls1 := match d with
  | .non => some (.b "NoneType")
  | .bl _ => some (.b "bool")
  | .int _ => some (.b "int")
  | .str _ => some (.b "str")
  | .tup _ => some (.b "tuple")
  | .ktp _ => some (.b "tuple")
  | .lst _ => some (.b "list")
  | .scr _ => some (.b "list")
  | .ref i => (match w[i]? with
    | some (.lst _) => some (.b "list")
    | some (.dK _) => some (.b "dict")
    | some (.dT _) => some (.b "dict")
    | some (.dF _) => some (.b "dict")
    | some (.ins C _) => some (.o C)
    | none => none)
  | _ => none
def names7 : List String := ["NoneType", "bool", "int", "str", "tuple", "list", "dict"]
def isaB (t n : String) : Bool := t == n || (t == "bool" && n == "int")
theorem isaB_ok : ∀ t ∈ names7, ∀ n ∈ ["bool", "int", "str", "tuple", "list", "dict"], kitB t n = some (isaB t n) := by decide +kernel
structure InsOk (K : PySem.W.Frag) (C : Addr) : Prop where
  cl : Cls K C
  ha : PySem.W.findIn K (.ref C) "__class__" = some (some (.builtin "object.__class__"))
  hn : PySem.W.specialIn K (.builtin "object.__class__") "__get__" = some (some (.builtin "getset_descriptor.__get__"))
  tk : PySem.W.takesIn K (.builtin "object.__class__") = some true
  hm : PySem.W.mroIn K C (.type "object") = some true
/-- isinstance(x, c): kc, what is known of own classes -/
def isiM (kc : Cls1 → Cls1 → Option Bool) : MF := fun ds w => match ds with
  | [d, .ty n] => (match clsD d w with
    | some (.b t) => if t ∈ names7 ∧ n ∈ ["bool", "int", "str", "tuple", "list", "dict"] then .ok (.bl (isaB t n)) w else .bad
    | some (.o C) => (match kc (.o C) (.b n) with
      | some r => .ok (.bl r) w
      | none => .bad)
    | none => .bad)
  | [d, .con C] => (match clsD d w with
    | some t => (match kc t (.o C) with
      | some r => .ok (.bl r) w
      | none => .bad)
    | none => .bad)
  | _ => .bad
structure KcOk (K : PySem.W.Frag) (kc : Cls1 → Cls1 → Option Bool) : Prop where
  one : ∀ t c r, kc t c = some r → PySem.W.kitOne K t.v c.v = some r
  ins : ∀ C c r, kc (.o C) c = some r → InsOk K C
def noKc : Cls1 → Cls1 → Option Bool := fun _ _ => none
theorem noKc_ok {K : PySem.W.Frag} : KcOk K noKc := ⟨fun _ _ _ h => (by cases h), fun _ _ _ h => (by cases h)⟩
theorem tyX_of {K : PySem.W.Frag} {I : List Addr} {F G H : Hp} {w : W} (rel : Rel K I F G w H) {d : D} {v : V} (h : RepV K I F d v) {t : Cls1} (e : clsD d w = some t) (hi : ∀ C, t = .o C → InsOk K C) : TyX K H v t.v := by
  have hT : ∀ {a : Addr} {vs : List V}, SqT K H a vs → TyX K H (.ref a) (.type "tuple") := fun {a vs} q => by
    rcases q with (q | ⟨o, q⟩) | q
    · exact .base (.tup q)
    · exact .fTuple q
    · obtain ⟨o, its, n, q1, q2, _⟩ := q
      exact .kTuple q1 q2
  have hL : ∀ {a : Addr} {vs : List V}, SqL K H a vs → TyX K H (.ref a) (.type "list") := fun {a vs} q => by
    rcases q with (q | ⟨o, q⟩) | q
    · exact .base (.lst q)
    · exact .base (.frz q)
    · obtain ⟨o, its, n, q1, q2, _⟩ := q
      exact .kList q1 q2
  cases d <;> simp only [clsD, Option.some.injEq, reduceCtorEq] at e <;> simp only [RepV] at h
  case non => subst h; subst e; exact .base .non
  case bl => subst h; subst e; exact .base (.bl _)
  case int => subst h; subst e; exact .base (.int _)
  case str => subst h; subst e; exact .base (.str _)
  case tup => obtain ⟨a, vs, rfl, h1, _⟩ := h; subst e; exact hT (.of (rel.fz _ _ h1))
  case ktp => obtain ⟨a, vs, rfl, h1, _⟩ := h; subst e; exact hT (rel.sqT h1)
  case lst => obtain ⟨a, vs, rfl, h1, _⟩ := h; subst e; exact hL (.of (rel.fz _ _ h1))
  case scr => obtain ⟨a, vs, rfl, h1, _⟩ := h; subst e; exact hL (rel.sqL h1)
  case ref i =>
    obtain ⟨a, rfl, hi'⟩ := h
    split at e
    · rename_i hw; cases e; obtain ⟨u, hu, vs, rfl, _⟩ := rel.ob i a _ hi' hw; exact .base (.lst hu)
    · rename_i hw; cases e; obtain ⟨u, hu, vs, rfl, _⟩ := rel.ob i a _ hi' hw; exact .base (.dK hu)
    · rename_i hw; cases e; obtain ⟨u, hu, vs, rfl, _⟩ := rel.ob i a _ hi' hw; exact .base (.dT hu)
    · rename_i hw; cases e; obtain ⟨u, hu, o, vs, rfl, _⟩ := rel.ob i a _ hi' hw; exact .fDict hu
    · rename_i C fs hw
      cases e
      obtain ⟨u, hu, dx, r, rfl, _⟩ := rel.ob i a _ hi' hw
      have z := hi C rfl
      exact .base (.ins hu z.cl z.ha z.hn z.tk z.hm)
    · cases e
theorem cb_isi {S : Stat} {kc : Cls1 → Cls1 → Option Bool} (hk : KcOk S.K kc) : CB S (.builtin "isinstance") (isiM kc) := cb_of fun X E c xo I F G ds w H vs Q rel rl p => by
  unfold isiM at p
  split at p
  · rename_i d n
    obtain ⟨v, u, rfl, rv, ru⟩ := rl.two
    simp only [RepV] at ru
    subst ru
    split at p
    · rename_i t ht
      split at p
      · rename_i hc
        exact ⟨_, call_isi, v, .ty n, _, .type n, _, rfl, .ty n, tyX_of rel rv ht (fun C z => by cases z), kit_ty (isaB_ok t hc.1 n hc.2), p.okE rel (by simp [RepV])⟩
      · exact p.elim
    · rename_i C hC
      split at p
      · rename_i r hr
        exact ⟨_, call_isi, v, .ty n, _, .type n, _, rfl, .ty n, tyX_of rel rv hC (fun C' z => by cases z; rw [c.K]; exact hk.ins _ _ _ hr), by rw [c.K]; exact hk.one _ _ _ hr, p.okE rel (by simp [RepV])⟩
      · exact p.elim
    · exact p.elim
  · rename_i d C
    obtain ⟨v, u, rfl, rv, ru⟩ := rl.two
    simp only [RepV] at ru
    subst ru
    split at p
    · rename_i t ht
      split at p
      · rename_i r hr
        exact ⟨_, call_isi, v, .ref C, _, .ref C, _, rfl, .own C, tyX_of rel rv ht (fun C' z => by subst z; rw [c.K]; exact hk.ins _ _ _ hr), by rw [c.K]; exact hk.one _ _ _ hr, p.okE rel (by simp [RepV])⟩
      · exact p.elim
    · exact p.elim
  · exact p.elim

/-! ### all -/
def boolsD : List D → Option (List Bool)
  | [] => some []
  | .bl b :: r => (boolsD r).map (b :: ·)
  | _ :: _ => none
theorem boolsD_rep {K : PySem.W.Frag} {I : List Addr} {F : Hp} : ∀ {ds : List D} {vs : List V} {ns : List Bool}, RepL K I F ds vs → boolsD ds = some ns → vs = ns.map V.bl
  | [], vs, ns, h, e => by simp only [boolsD, Option.some.injEq] at e; subst e; simp only [RepL] at h; exact h
  | d :: ds, vs, ns, h, e => by
    cases d <;> simp only [boolsD, Option.map_eq_some_iff, reduceCtorEq] at e
    obtain ⟨r, e1, rfl⟩ := e
    simp only [RepL, RepV] at h
    obtain ⟨v, t, rfl, rfl, h2⟩ := h
    rw [boolsD_rep h2 e1]
    rfl
def allM : MF := fun ds w => match ds with
  | [d] => (match (listD d w).bind boolsD with
    | some bs => .ok (.bl (bs.all id)) w
    | none => .bad)
  | _ => .bad
theorem cb_all {S : Stat} : CB S (.builtin "all") allM := cb_of fun X E c xo I F G ds w H vs Q rel rl p => by
  unfold allM at p
  split at p
  · rename_i d
    obtain ⟨v, rfl, rv⟩ := rl.one
    split at p
    · rename_i bs hn
      obtain ⟨xs, h1, h2⟩ := Option.bind_eq_some_iff.mp hn
      obtain ⟨a, us, rfl, hq, hr⟩ := sq_list rel rv h1
      obtain rfl := boolsD_rep hr h2
      exact ⟨_, cr_all c.calm, a, bs, rfl, hq, p.okE rel (by simp [RepV])⟩
    · exact p.elim
  · exact p.elim

/-! ### x < y, ints and tuples of ints -/
def ltA (x y : D) (w : W) : Res D := match x, y with
  | .int a, .int b => .ok (.bl (decide (a < b))) w
  | x, y => match (tupD x).bind intsD, (tupD y).bind intsD with
    | some ns, some ms => .ok (.bl (HT.lexLt ns ms)) w
    | _, _ => .bad
theorem o2_lt {S : Stat} : O2 S (compareOp .Lt) ltA := low2_of fun X E c xo I F G d e w H x y Q rel rd re p => by
  unfold ltA at p
  split at p
  · simp only [RepV] at rd re
    exact ⟨_, op_lt, _, _, rd, re, p.okE rel (by simp [RepV])⟩
  · split at p
    · rename_i ns ms h1 h2
      obtain ⟨xs, q1, q2⟩ := Option.bind_eq_some_iff.mp h1
      obtain ⟨ys, q3, q4⟩ := Option.bind_eq_some_iff.mp h2
      obtain ⟨a, us, rfl, g1, g2⟩ := sq_tup rel rd q1
      obtain ⟨b, ts, rfl, g3, g4⟩ := sq_tup rel re q3
      obtain rfl := intsD_rep g2 q2
      obtain rfl := intsD_rep g4 q4
      exact ⟨_, op_ltT (by have := c.room.un; omega), a, b, ns, ms, rfl, rfl, g1, g3, p.okE rel (by simp [RepV])⟩
    · exact p.elim
end Pc

set_option Elab.async false
set_option linter.all false
set_option maxRecDepth 100000
set_option maxHeartbeats 4000000
set_option autoImplicit false
/-! Pc, part O: dicts. -/
namespace Pc
open PySem PySem.Spec PyProof.Rows L2

/-! ### what is kept aside may be forgotten -/
theorem rel_less {K : PySem.W.Frag} {I : List Addr} {F G H : Hp} {w : W} {q : Addr} {u : HO} (rel : Rel K I F (upd G q u) w H) (hG : G q = none) : Rel K I F G w H :=
  ⟨rel.len, rel.nd, rel.ob, rel.fz, rel.ap, fun a v h => rel.gz a v (by rw [upd_ne (ne_of_none h hG)]; exact h), fun a v h => rel.gf a v (by rw [upd_ne (ne_of_none h hG)]; exact h)⟩
theorem Post.more {α : Type} {K : PySem.W.Frag} {I : List Addr} {F G : Hp} {E : XK} {R R' : List Addr → Hp → Hp → α → W → Prop} {r : Res α} {q : Addr} {u : HO} (p : Post K I F G E R r) (hG : G q = none)
    (k : ∀ I' F' H' a w, r = .ok a w → Ext I F I' F' → Rel K I' F' (upd G q u) w H' → R I' F' H' a w → R' I' F' H' a w) : Post K I F (upd G q u) E R' r := by
  cases r with
  | ok a w => exact fun I' F' H' e rel => k I' F' H' a w rfl e rel (p I' F' H' e (rel_less rel hG))
  | exn x w => exact fun I' F' H' c d e rel rx => p I' F' H' c d e (rel_less rel hG) rx
  | bad => exact p

/-! ### displays -/
abbrev MP := Sg → W → Res (List (D × D))
def dNil : MP := fun _ w => .ok [] w
def dCons (mk mv : ME) (r : MP) : MP := fun σ w => (mk σ w).bind fun k w1 => (mv σ w1).bind fun v w2 => (r σ w2).bind fun ps w3 => .ok ((k, v) :: ps) w3
def keyed : List (D × D) → Option (List (Key × D))
  | [] => some []
  | (k, v) :: r => match keyD k, keyed r with
    | some j, some t => some ((j, v) :: t)
    | _, _ => none
def mergeD {κ : Type} [DecidableEq κ] (kvs more : List (κ × D)) : List (κ × D) := more.foldl (fun acc kv => putD acc kv.1 kv.2) kvs
def eDct (m : MP) : ME := fun σ w => (m σ w).bind fun ps w1 => match keyed ps with
  | some kvs => if kvs.length ≤ 15 then .ok (.ref w1.length) (w1 ++ [.dK (mergeD [] kvs)]) else .bad
  | none => .bad
def eDct0 : ME := fun _ w => .ok (.ref w.length) (w ++ [.dK []])
def eDct0T : ME := fun _ w => .ok (.ref w.length) (w ++ [.dT []])
def RepP (K : PySem.W.Frag) (I : List Addr) (F : Hp) (ps : List (D × D)) (vs : List (V × V)) : Prop := RepL K I F (ps.map (·.1)) (vs.map (·.1)) ∧ RepL K I F (ps.map (·.2)) (vs.map (·.2))
def RPs (K : PySem.W.Frag) (Q : List (V × V) → Hp → Prop) : List Addr → Hp → Hp → List (D × D) → W → Prop := fun I' F' H' ps _ => ∀ vs, RepP K I' F' ps vs → Q vs H'
def lowP (K : PySem.W.Frag) (E : XK) (m : MP) : L2.St → Hp → (List (V × V) → Hp → Prop) → Prop := fun σ H Q => ∃ I F G ds w, Rel K I F G w H ∧ RepS K I F ds σ ∧ Post K I F G E (RPs K Q) (m ds w)
def JD (S : Stat) (pos : Pos) (ks : List (Option Expr)) (vs : List Expr) (m : MP) : Prop := ∀ X E, Ctx S X → XOk X E → ∃ trs, PPs X pos ks vs trs ∧ ∀ σ H Q, lowP X.K E m σ H Q → tPairs trs σ H Q
theorem RepKs.merge {K : PySem.W.Frag} {I : List Addr} {F : Hp} {κ : Type} [DecidableEq κ] : ∀ {more : List (κ × D)} {rs : List (κ × V)} {kvs : List (κ × D)} {vs : List (κ × V)}, RepKs K I F more rs → RepKs K I F kvs vs → RepKs K I F (mergeD kvs more) (rs.foldl (fun acc kv => putK acc kv.1 kv.2) vs)
  | [], rs, kvs, vs, h, g => by simp only [RepKs] at h; subst h; exact g
  | (k, d) :: more, rs, kvs, vs, h, g => by
    simp only [RepKs] at h
    obtain ⟨v, r, rfl, h1, h2⟩ := h
    exact RepKs.merge (more := more) (rs := r) h2 (g.put k h1)
theorem keyed_rep {K : PySem.W.Frag} {I : List Addr} {F : Hp} : ∀ {ps : List (D × D)} {vs : List (V × V)} {kvs : List (Key × D)}, RepP K I F ps vs → keyed ps = some kvs → ∃ r : List (Key × V), vs = r.map (fun kv => (kV kv.1, kv.2)) ∧ RepKs K I F kvs r
  | [], vs, kvs, h, e => by
    simp only [keyed, Option.some.injEq] at e
    subst e
    have := h.1
    simp only [List.map_nil, RepL, List.map_eq_nil_iff] at this
    subst this
    exact ⟨[], rfl, by simp [RepKs]⟩
  | (k, d) :: ps, vs, kvs, h, e => by
    obtain ⟨h1, h2⟩ := h
    cases vs with
    | nil => simp only [List.map_cons, List.map_nil, RepL] at h1; obtain ⟨_, _, z, _⟩ := h1; cases z
    | cons x vs =>
      obtain ⟨x1, x2⟩ := x
      simp only [List.map_cons, RepL] at h1 h2
      obtain ⟨v, r, z1, g1, g2⟩ := h1
      obtain ⟨u, t, z2, g3, g4⟩ := h2
      cases z1
      cases z2
      simp only [keyed] at e
      split at e
      · rename_i j tt e1 e2
        cases e
        obtain ⟨rr, e3, e4⟩ := keyed_rep ⟨g2, g4⟩ e2
        refine ⟨(j, x2) :: rr, ?_, ?_⟩
        · rw [List.map_cons, ← e3, keyD_rep g1 e1]
        · simp only [RepKs]; exact ⟨x2, rr, rfl, g3, e4⟩
      · cases e
section
variable {S : Stat} {pos : Pos} {k v : Expr} {ks : List (Option Expr)} {vs : List Expr} {mk mv : ME} {m : MP}
theorem jd_nil : JD S pos [] [] dNil := fun X E cx xo => ⟨[], pps_nil, fun σ H Q ⟨I, F, G, ds, w, rel, rs, p⟩ => p I F H .refl rel [] ⟨by simp [RepL], by simp [RepL]⟩⟩
theorem jd_cons (hk : JE S k mk) (hv : JE S v mv) (hr : JD S pos ks vs m) : JD S pos (some k :: ks) (v :: vs) (dCons mk mv m) := fun X E cx xo => by
  obtain ⟨trs, h1, h2⟩ := hr X E cx xo
  refine ⟨(lowE X.K E mk, lowE X.K E mv) :: trs, pps_cons (hk X E cx xo) (hv X E cx xo) h1, fun σ H Q ⟨I, F, G, ds, w, rel, rs, p⟩ => ?_⟩
  refine lowE_bind (f := fun ds x w1 => (mv ds w1).bind fun y w2 => (m ds w2).bind fun ps w3 => .ok ((x, y) :: ps) w3) rel rs p fun I1 F1 H1 x w1 a e1 rel1 rs1 ra p1 => ?_
  refine lowE_bind (f := fun ds y w2 => (m ds w2).bind fun ps w3 => .ok ((x, y) :: ps) w3) rel1 rs1 p1 fun I2 F2 H2 y w2 b e2 rel2 rs2 rb p2 => ?_
  refine h2 σ H2 _ ⟨I2, F2, G, ds, w2, rel2, rs2, (Post.bind p2).mono fun I3 F3 H3 ps w3 _ e3 rel3 p3 us ru => ?_⟩
  refine p3 I3 F3 H3 .refl rel3 ((a, b) :: us) ⟨?_, ?_⟩
  · exact RepL.cons (RepV.ext (e2.trans e3) _ _ ra) ru.1
  · exact RepL.cons (RepV.ext e3 _ _ rb) ru.2
theorem je_dct (h : JD S pos ks vs m) (hall : ks.all (·.isSome) = true := by rfl) (hl : ks.length = vs.length := by rfl) (h0 : ks ≠ [] := by simp) (h15 : ks.length ≤ 15 := by exact Nat.le_of_ble_eq_true rfl) : JE S (.Dict ks vs pos) (eDct m) := fun X E cx xo => by
  obtain ⟨trs, g1, g2⟩ := h X E cx xo
  refine pe_weak (pe_disp g1 hall hl h0 h15) fun σ H Q ⟨I, F, G, ds, w, rel, rs, p⟩ q hq => ?_
  have hG : G q = none := by
    cases z : G q with
    | none => rfl
    | some u => rw [rel.gz _ _ z] at hq; cases hq
  refine g2 σ _ _ ⟨I, F, upd G q (.dK []), ds, w, rel.keep hq, rs, (Post.bind p).more hG fun I1 F1 H1 ps w1 _ e1 rel1 p1 us ru => ?_⟩
  refine ⟨rel1.gz q _ upd_same, ?_⟩
  split at p1
  · rename_i kvs hk
    split at p1
    · rename_i hl'
      obtain ⟨r, e2, e3⟩ := keyed_rep ru hk
      refine ⟨r, e2, by rw [← e3.length]; exact hl', ?_⟩
      obtain ⟨ee, rel2⟩ := (rel1.rekeep (u' := .dK (mergeK [] r))).owned hG (o := .dK (mergeD [] kvs)) ⟨_, rfl, RepKs.merge e3 (by simp [RepKs])⟩
      refine p1 _ _ _ ee rel2 _ ?_
      simp only [RepV]
      refine ⟨q, rfl, ?_⟩
      rw [← rel1.len, List.getElem?_append_right (Nat.le_refl _)]
      simp
    · exact p1.elim
  · exact p1.elim
theorem je_dct0 : JE S (.Dict [] [] pos) eDct0 := fun X E cx xo => pe_weak pe_dnewK fun σ H Q ⟨I, F, G, ds, w, rel, rs, p⟩ => new_obj (o := .dK []) rel ⟨[], rfl, by simp [RepKs]⟩ p
theorem je_dct0T : JE S (.Dict [] [] pos) eDct0T := fun X E cx xo => pe_weak pe_dnewT fun σ H Q ⟨I, F, G, ds, w, rel, rs, p⟩ => new_obj (o := .dT []) rel ⟨[], rfl, by simp [RepKs]⟩ p
end

/-! ### dict(x), x.get(k, z), x.update(y) -/
def dictN : MF := fun ds w => match ds with
  | [.ref i] => (match w[i]? with
    | some (.dK kvs) => .ok (.ref w.length) (w ++ [.dK kvs])
    | _ => .bad)
  | _ => .bad
theorem cb_dictN {S : Stat} : CB S (.type "dict") dictN := cb_of fun X E c xo I F G ds w H vs Q rel rl p => by
  unfold dictN at p
  split at p
  · rename_i i
    obtain ⟨v, rfl, rv⟩ := rl.one
    simp only [RepV] at rv
    obtain ⟨a, rfl, hi⟩ := rv
    split at p
    · rename_i kvs hw
      obtain ⟨u, hu, r, rfl, hr⟩ := rel.ob i a _ hi hw
      exact ⟨_, call_dictD, a, r, rfl, .inl hu, new_obj (o := .dK kvs) rel ⟨r, rfl, hr⟩ p⟩
    · exact p.elim
  · exact p.elim
def getM : MMt := fun d ds w => match d, ds with
  | .ref i, [k, z] => (match w[i]? with
    | some o => (match lookM o k with
      | some r => .ok (r.getD z) w
      | none => .bad)
    | none => .bad)
  | _, _ => .bad
theorem mb_get {S : Stat} : MB S "dict.get" getM := mb_of fun X E c xo I F G d ds w H x vs Q rel rd rl p => by
  unfold getM at p
  split at p
  · rename_i i k z
    simp only [RepV] at rd
    obtain ⟨a, rfl, hi⟩ := rd
    obtain ⟨vk, vz, rfl, rk, rz⟩ := rl.two
    split at p
    · rename_i o hw
      split at p
      · rename_i r hr
        obtain ⟨q, g, hq⟩ := dget_of rel hi hw rk hr
        refine ⟨fun x xs H Q => ∃ a k z o, x = .ref a ∧ xs = [k, z] ∧ DGet H a k o ∧ Q (o.getD z) H, fun pins s σ H x xs v us Q J rx rxs h => ?_, a, vk, vz, q, rfl, rfl, g, ?_⟩
        · obtain ⟨a, k, z, o, rfl, rfl, g, q⟩ := h
          cases rx
          obtain ⟨u1, u2, rfl, r1, r2⟩ := rxs.two
          exact d_get2 (by have := c.room.un; omega) J g r1 r2 fun w' s' J' r' => ⟨_, H, J', r', q⟩
        · refine p.okE rel ?_
          cases r with
          | none => rw [show q = none from hq]; exact rz
          | some d => obtain ⟨v, rfl, hv⟩ := hq; exact hv
      · exact p.elim
    · exact p.elim
  · exact p.elim
def updM : MMt := fun d ds w => match d, ds with
  | .ref i, [.ref j] => (match w[i]?, w[j]? with
    | some (.dK kvs), some (.dK more) => if i ≠ j ∧ kvs.length + more.length ≤ sizeLine then .ok .non (w.set i (.dK (mergeD kvs more))) else .bad
    | _, _ => .bad)
  | _, _ => .bad
theorem mt_updK {X : Cx} : MtR X "dict.update" (fun x xs H Q => ∃ a b kvs more, x = V.ref a ∧ xs = [V.ref b] ∧ H a = some (.dK kvs) ∧ H b = some (.dK more) ∧ a ≠ b ∧ kvs.length + more.length ≤ sizeLine ∧ Q .non (upd H a (.dK (mergeK kvs more)))) := by
  intro pins s σ H x xs v us Q J rx rxs h
  obtain ⟨a, b, kvs, more, rfl, rfl, ha, hb, ne, hz, q⟩ := h
  cases rx
  obtain ⟨u, rfl, ru⟩ := rxs.one
  cases ru
  obtain ⟨z1, d1, vs1, r1, dd1⟩ := dk_of J.hok ha
  obtain ⟨z2, d2, vs2, r2, dd2⟩ := dk_of J.hok hb
  refine PySem.call_meetsIn PySem.F.slot_dict_update dd1.typeIs PySem.F.entry_dict_update (PySem.F.args_dict_update_2 _ _) (meets_dict_update (mixKind X.prog X.w) a b ne d2) ⟨vs1, vs2, dd1, dd2, by rw [← r1.length, ← r2.length]; exact hz, fun h' g1 _ hs => ?_⟩
  have he : ∃ q, h'.get? a = some q := by
    obtain ⟨q, _, _, hq, _⟩ := g1
    exact ⟨q, hq⟩
  refine ⟨.non, _, d_write J (t' := s.toks) (by rw [ha]; exact True.intro) hs he (dk_new ?_ d1 (KV.merge r2 r1) g1), rfl, q⟩
  exact Nat.le_trans (length_mergeK more kvs) hz
theorem mb_update {S : Stat} : MB S "dict.update" updM := mb_of fun X E c xo I F G d ds w H x vs Q rel rd rl p => by
  unfold updM at p
  split at p
  · rename_i i j
    simp only [RepV] at rd
    obtain ⟨a, rfl, hi⟩ := rd
    obtain ⟨t, rfl, rt⟩ := rl.one
    simp only [RepV] at rt
    obtain ⟨b, rfl, hj⟩ := rt
    split at p
    · rename_i kvs more hw1 hw2
      obtain ⟨u, hu, r, rfl, hr⟩ := rel.ob i a _ hi hw1
      obtain ⟨u2, hu2, r2, rfl, hr2⟩ := rel.ob j b _ hj hw2
      split at p
      · rename_i hc
        refine ⟨_, mt_updK, a, b, r, r2, rfl, rfl, hu, hu2, fun z => hc.1 ?_, by rw [← hr.length, ← hr2.length]; exact hc.2, p.okE (rel.upd hi hw1 ⟨_, rfl, RepKs.merge hr2 hr⟩) (by simp [RepV])⟩
        subst z
        obtain ⟨l1, e1⟩ := List.getElem?_eq_some_iff.mp hi
        obtain ⟨l2, e2⟩ := List.getElem?_eq_some_iff.mp hj
        exact (List.getElem_inj rel.nd).mp (e1.trans e2.symm)
      · exact p.elim
    · exact p.elim
  · exact p.elim

/-! ### for k, v in x.items(): from then on the dict never changes -/
def keyBack : Key → D
  | .inl i => .int i
  | .inr x => .str x
theorem keyBack_rep {K : PySem.W.Frag} {I : List Addr} {F : Hp} (k : Key) : RepV K I F (keyBack k) (kV k) := by
  cases k <;> simp [keyBack, RepV, kV]
def itemsM (d : D) (w : W) : Res ItD := match d with
  | .ref i => (match w[i]? with
    | some (.dK kvs) => .ok ⟨kvs.map fun p => .tup [keyBack p.1, p.2], always⟩ (w.set i (.dF kvs))
    | _ => .bad)
  | _ => .bad
def iItemsM (m : ME) : MI := fun σ w => (m σ w).bind itemsM
def tLock (te : TE) : TE := fun σ H Q => te σ H fun x H1 => ∃ d kvs, x = V.ref d ∧ H1 d = some (.dK kvs) ∧ ∀ o, Q x (upd H1 d (.frz o (.dK kvs)))
theorem pe_lock {X : Cx} {e : Expr} {te : TE} (h : PE X e te) : PE X e (tLock te) := ⟨fun pins s σ H Q J q => thn (h.run pins s σ H _ J q) fun u s1 ⟨x, H1, J1, r, d, kvs, ex, hd, k⟩ => by
  obtain ⟨o, J2⟩ := J1.lock hd trivial
  exact ⟨x, _, J2, r, k o⟩⟩
theorem RepKs.get {K : PySem.W.Frag} {I : List Addr} {F : Hp} {κ : Type} : ∀ {kvs : List (κ × D)} {r : List (κ × V)} {i : Nat} {k : κ} {v : V}, RepKs K I F kvs r → r[i]? = some (k, v) → ∃ d, kvs[i]? = some (k, d) ∧ RepV K I F d v
  | [], r, i, k, v, h, e => by simp only [RepKs] at h; subst h; simp at e
  | (j, d) :: kvs, r, 0, k, v, h, e => by
    simp only [RepKs] at h
    obtain ⟨u, t, rfl, h1, h2⟩ := h
    simp at e
    obtain ⟨rfl, rfl⟩ := e
    exact ⟨d, rfl, h1⟩
  | (j, d) :: kvs, r, i + 1, k, v, h, e => by
    simp only [RepKs] at h
    obtain ⟨u, t, rfl, h1, h2⟩ := h
    obtain ⟨d', h3, h4⟩ := RepKs.get (i := i) h2 (by simpa using e)
    exact ⟨d', by simpa using h3, h4⟩
/-- a pair, just laid -/
theorem fresh_tup {K : PySem.W.Frag} {I : List Addr} {F G H : Hp} {w : W} {ds : List D} {vs : List V} (rel : Rel K I F G w H) (r : RepL K I F ds vs) {q : Addr} (hq : H q = none) : ∃ F2, Ext I F I F2 ∧ Rel K I F2 G w (upd H q (.tup vs)) ∧ RepV K I F2 (.tup ds) (.ref q) := by
  have hF : F q = none := by
    cases h : F q with
    | none => rfl
    | some u => rw [rel.fz _ _ h] at hq; cases hq
  have e : Ext I F I (upd F q (.tup vs)) := ⟨List.prefix_refl _, fun a u h => by rw [upd_ne (ne_of_none h hF)]; exact h⟩
  refine ⟨_, e, ⟨rel.len, rel.nd, fun i a o h1 h2 => ?_, fun a u h => ?_, fun i a o h h0 hf => ?_, fun a u h => ?_, fun a u h => ?_⟩, ?_⟩
  · obtain ⟨u, h3, h4⟩ := rel.ob i a o h1 h2
    exact ⟨u, by rw [upd_ne (ne_of_none h3 hq)]; exact h3, RepO.ext e h4⟩
  · by_cases ha : a = q
    · subst ha; rw [upd_same] at h ⊢; exact h
    · rw [upd_ne ha] at h ⊢; exact rel.fz a u h
  · obtain ⟨u, h3, _⟩ := rel.ob i a o h h0
    rw [upd_ne (ne_of_none h3 hq)]; exact rel.ap i a o h h0 hf
  · rw [upd_ne (ne_of_none (rel.gz a u h) hq)]; exact rel.gz a u h
  · rw [upd_ne (ne_of_none (rel.gz a u h) hq)]; exact rel.gf a u h
  · simp only [RepV]
    exact ⟨q, vs, rfl, upd_same, RepL.ext e _ _ r⟩
theorem rel_lock {K : PySem.W.Frag} {I : List Addr} {F G H : Hp} {w : W} {i : Nat} {a : Addr} {kvs : List (Key × D)} {r : List (Key × V)} (o : Obj) (rel : Rel K I F G w H) (hi : I[i]? = some a) (hw : w[i]? = some (.dK kvs)) (hr : RepKs K I F kvs r) :
    Ext I F I (upd F a (.frz o (.dK r))) ∧ Rel K I (upd F a (.frz o (.dK r))) G (w.set i (.dF kvs)) (upd H a (.frz o (.dK r))) := by
  have hF : F a = none := rel.ap i a _ hi hw rfl
  have rel' := rel.upd (u' := .frz o (.dK r)) (o' := .dF kvs) hi hw ⟨o, r, rfl, hr⟩
  have e : Ext I F I (upd F a (.frz o (.dK r))) := ⟨List.prefix_refl _, fun b u h => by rw [upd_ne (ne_of_none h hF)]; exact h⟩
  refine ⟨e, rel'.len, rel'.nd, fun j b q h1 h2 => ?_, fun b u h => ?_, fun j b q h1 h2 h3 => ?_, rel'.gz, fun b u h => ?_⟩
  · obtain ⟨u, h3, h4⟩ := rel'.ob j b q h1 h2
    exact ⟨u, h3, RepO.ext e h4⟩
  · by_cases hb : b = a
    · subst hb; rw [upd_same] at h ⊢; exact h
    · rw [upd_ne hb] at h; exact rel'.fz b u h
  · have hb : b ≠ a := fun z => by
      subst z
      obtain ⟨l1, e1⟩ := List.getElem?_eq_some_iff.mp hi
      obtain ⟨l2, e2⟩ := List.getElem?_eq_some_iff.mp h1
      have hij : i = j := (List.getElem_inj rel.nd).mp (e1.trans e2.symm)
      subst hij
      rw [List.getElem?_set_self (List.getElem?_eq_some_iff.mp hw).1] at h2
      cases h2
      cases h3
    rw [upd_ne hb]; exact rel'.ap j b q h1 h2 h3
  · obtain ⟨g1, g2⟩ := rel.gf b u h
    have hb : b ≠ a := fun z => g2 (by rw [z]; exact List.mem_of_getElem? hi)
    exact ⟨by rw [upd_ne hb]; exact g1, g2⟩
theorem ji_items {S : Stat} {e : Expr} {m : ME} {apos cpos tpos : Pos} {elts : List Expr} {kk : Nat} (he : JE S e m) (hbase : ∀ env : Env, attributeBase e "items" env (eval e env) = eval e env := by intro _; rfl) (hline : (apos.endLine == cpos.line) = true := by rfl) :
    JI S (.Tuple elts kk tpos) (.Call (.Attribute e "items" apos) [] [] cpos) (iItemsM m) := fun X E cx xo =>
  pi_weak (pi_items (pe_lock (he X E cx xo)) (hbase X.env) hline) fun σ H R ⟨I, F, G, ds, w, rel, rs, p⟩ => lowE_bind (f := fun _ => itemsM) rel rs p fun I1 F1 H1 d w1 v e1 rel1 rs1 rv p1 => by
    unfold itemsM at p1
    split at p1
    · rename_i i
      simp only [RepV] at rv
      obtain ⟨a, rfl, hi⟩ := rv
      split at p1
      · rename_i kvs hw
        obtain ⟨u, hu, r, rfl, hr⟩ := rel1.ob i a _ hi hw
        refine ⟨a, r, rfl, hu, fun o => ⟨a, o, r, rfl, upd_same, ?_⟩⟩
        have hl : i < w1.length := (List.getElem?_eq_some_iff.mp hw).1
        obtain ⟨e2, rel2⟩ := rel_lock o rel1 hi hw hr
        refine p1 I1 _ _ e2 rel2 trivial _ fun I' F' G' w' H' j e' rel' _ => ?_
        have hH : H' a = some (.frz o (.dK r)) := rel'.fz _ _ (e'.f _ _ upd_same)
        have hr' := RepKs.ext (e2.trans e') _ _ hr
        have hlen : kvs.length = r.length := hr.length
        refine ⟨fun x hx => ?_, fun hl' => ⟨hH, by rw [List.length_map] at hl'; omega⟩⟩
        rw [List.getElem?_map] at hx
        cases hk : kvs[j]? with
        | none => rw [hk] at hx; cases hx
        | some kd =>
          rw [hk] at hx
          cases hx
          refine ⟨⟨hH, by rw [← hlen]; exact (List.getElem?_eq_some_iff.mp hk).1⟩, fun v H'' y => ?_⟩
          obtain ⟨T, k, v', g1, rfl, g2, rfl⟩ := y
          obtain ⟨d', g3, g4⟩ := hr'.get g1
          rw [hk] at g3
          cases g3
          exact fresh_tup rel' (RepL.cons (keyBack_rep k) (RepL.cons g4 (by simp [RepL]))) g2
      · exact p1.elim
    · exact p1.elim
end Pc

set_option Elab.async false
set_option linter.all false
set_option maxRecDepth 100000
set_option maxHeartbeats 4000000
set_option autoImplicit false
/-! Pc, part P: comprehensions with two fors; dicts of the module. -/
namespace Pc
open PySem PySem.Spec PyProof.Rows L2

open Classical in
noncomputable def inL (it : ItD) (vs : List Nat) (g : MG) (t : MT) (e : ME) : List D → List D → Sg → W → Res (List D)
  | acc, [], σ, w => if it.ok w then .ok acc w else .bad
  | acc, x :: xs, σ, w => if it.ok w then (g x (wipeD σ vs) w).noX.bind fun σ1 w1 => (t σ1 w1).noX.bind fun b w2 =>
      if b = true then (e σ1 w2).noX.bind fun y w3 => if acc.length < sizeLine then inL it vs g t e (acc ++ [y]) xs σ w3 else .bad else inL it vs g t e acc xs σ w2
    else .bad
open Classical in
noncomputable def outL (it : ItD) (vs : List Nat) (g : MG) (t : MT) (mi1 : MI) (vs1 : List Nat) (g1 : MG) (t1 : MT) (e : ME) : List D → List D → Sg → W → Res (List D)
  | acc, [], σ, w => if it.ok w then .ok acc w else .bad
  | acc, x :: xs, σ, w => if it.ok w then (g x (wipeD σ vs) w).noX.bind fun σ1 w1 => (t σ1 w1).noX.bind fun b w2 =>
      if b = true then (mi1 σ1 w2).noX.bind fun it1 w3 => (inL it1 vs1 g1 t1 e acc it1.xs σ1 w3).bind fun acc' w4 => outL it vs g t mi1 vs1 g1 t1 e acc' xs σ w4
      else outL it vs g t mi1 vs1 g1 t1 e acc xs σ w2
    else .bad
noncomputable def compB (m : MI) (vs : List Nat) (g : MG) (t : MT) (mi1 : MI) (vs1 : List Nat) (g1 : MG) (t1 : MT) (e : ME) : MA := fun σ w => (m σ w).bind fun it w1 => outL it vs g t mi1 vs1 g1 t1 e [] it.xs σ w1
noncomputable def eComp2 (m : MI) (vs : List Nat) (g : MG) (t : MT) (mi1 : MI) (vs1 : List Nat) (g1 : MG) (t1 : MT) (e : ME) : ME := fun σ w => (compB m vs g t mi1 vs1 g1 t1 e σ w).bind fun ys w1 => .ok (.lst ys) w1
noncomputable def eComp2N (m : MI) (vs : List Nat) (g : MG) (t : MT) (mi1 : MI) (vs1 : List Nat) (g1 : MG) (t1 : MT) (e : ME) : ME := fun σ w => (compB m vs g t mi1 vs1 g1 t1 e σ w).bind fun ys w1 => .ok (.ref w1.length) (w1 ++ [.lst ys])
theorem still {α : Type} {K : PySem.W.Frag} {R : List Addr → Hp → Hp → α → W → Prop} {r : Res α} {I : List Addr} {F G : Hp} {q : Addr} {u : HO} (hG : G q = none) (p : Post K I F G E0 R r) :
    Post K I F (upd G q u) E0 (fun I' F' H' a w => Rel K I' F' (upd G q u) w H' ∧ ∀ H'', Rel K I' F' G w H'' → R I' F' H'' a w) r := by
  cases r with
  | ok a w => exact fun I' F' H' e q => ⟨q, fun H'' q' => p I' F' H'' e q'⟩
  | exn x w => exact fun I' F' H' c d e q rx => p I' F' H' c d e (rel_less q hG) rx
  | bad => exact p
theorem low_comp2 {mi : MI} {g : MG} {t : MT} {mi1 : MI} {g1 : MG} {t1 : MT} {me : ME} {K : PySem.W.Frag} {E : XK} {vs vs1 : List Nat} {f : List D → W → Res D} {σ : L2.St} {H : Hp} {Q : VK} (h : lowE K E (fun σ w => (compB mi vs g t mi1 vs1 g1 t1 me σ w).bind f) σ H Q)
    (fin : ∀ I F G w H q xs us, Rel K I F (upd G q (.lst us)) w H → G q = none → RepL K I F xs us → Post K I F G E (RV K Q) (f xs w) → Q (.ref q) H) :
    tLc2 (lowI K E mi) (lowC K E0 vs g) (lowT K E0 t) (lowI K E0 mi1) (lowC K E0 vs1 g1) (lowT K E0 t1) (lowE K E0 me) vs vs1 σ H Q := by
  obtain ⟨I, F, G, ds, w, rel, rs, p⟩ := h
  have p0 : Post K I F G E (RV K Q) ((mi ds w).bind fun it w1 => (outL it vs g t mi1 vs1 g1 t1 me [] it.xs ds w1).bind f) := by
    rw [← Res.bind_assoc]; exact p
  refine ⟨I, F, G, ds, w, rel, rs, (Post.bind p0).mono fun I1 F1 H1 it w1 _ e1 rel1 p1 hok J hJ q hq => ?_⟩
  have hG : G q = none := by
    cases h : G q with
    | none => rfl
    | some u => rw [rel1.gz _ _ h] at hq; cases hq
  refine ⟨fun i n H' => n = it.xs.length - i ∧ i ≤ it.xs.length ∧ ∃ I' F' w' xs us, Ext I1 F1 I' F' ∧ Rel K I' F' (upd G q (.lst us)) w' H' ∧ RepL K I' F' xs us ∧
      Post K I' F' G E (RV K Q) ((outL it vs g t mi1 vs1 g1 t1 me xs (it.xs.drop i) ds w').bind f),
    ⟨it.xs.length, by simp, Nat.zero_le _, I1, F1, w1, [], [], .refl, rel1.keep hq, by simp [RepL], by simpa using p1⟩, ?_⟩
  rintro i n H' ⟨rfl, hi, I', F', w', xs, us, e', rel', rx, p'⟩
  by_cases hlt : i < it.xs.length
  · rw [List.drop_eq_getElem_cons hlt] at p'
    unfold outL at p'
    split at p'
    · rename_i hw
      obtain ⟨h1, _⟩ := hJ I' F' _ w' H' i e' rel' hw
      obtain ⟨hgo, hy⟩ := h1 _ (List.getElem?_eq_getElem hlt)
      refine .inr ⟨hgo, fun H2 => ∃ I2 F2 w2 xs2 us2, Ext I1 F1 I2 F2 ∧ Rel K I2 F2 (upd G q (.lst us2)) w2 H2 ∧ RepL K I2 F2 xs2 us2 ∧ Post K I2 F2 G E (RV K Q) ((outL it vs g t mi1 vs1 g1 t1 me xs2 (it.xs.drop (i + 1)) ds w2).bind f),
        fun H2 q => ⟨it.xs.length - (i + 1), by omega, rfl, hlt, q⟩, fun v H2 y => ?_⟩
      obtain ⟨F2, e2, rel2, rv⟩ := hy v H2 y
      have p2 := p'.ext e2
      rw [Res.bind_assoc] at p2
      refine ⟨I', F2, upd G q (.lst us), _, wipeD ds vs, w', rel2, (((rs.ext e1).ext e').ext e2).wipe vs, rv, (still hG (Post.bindX p2)).mono fun I3 F3 H3 s3 w3 _ e3 rel3 p3 σ3 rs3 ew => ⟨ew.trans wipe_wipe, ?_⟩⟩
      have p3' := p3.2 H3 (rel_less rel3 hG)
      rw [Res.bind_assoc] at p3'
      refine ⟨I3, F3, upd G q (.lst us), s3, w3, rel3, rs3, (still hG (Post.bindX p3')).mono fun I4 F4 H4 b w4 _ e4 rel4 p4 => ?_⟩
      have p4' := p4.2 H4 (rel_less rel4 hG)
      cases b with
      | false =>
        simp only [Bool.false_eq_true, if_false] at p4' ⊢
        exact ⟨I4, F4, w4, xs, us, (e'.trans e2).trans (e3.trans e4), rel4, RepL.ext ((e2.trans e3).trans e4) _ _ rx, p4'⟩
      | true =>
        simp only [if_true] at p4' ⊢
        rw [Res.bind_assoc] at p4'
        refine ⟨I4, F4, upd G q (.lst us), s3, w4, rel4, rs3.ext e4, (still hG (Post.bindX p4')).mono fun I5 F5 H5 it1 w5 _ e5 rel5 p5 hok1 J1 hJ1 => ?_⟩
        have p5' := p5.2 H5 (rel_less rel5 hG)
        rw [Res.bind_assoc] at p5'
        have ee : Ext I' F' I5 F5 := ((e2.trans e3).trans e4).trans e5
        refine ⟨fun j k H' => k = it1.xs.length - j ∧ j ≤ it1.xs.length ∧ ∃ I' F' w' xs us, Ext I5 F5 I' F' ∧ Rel K I' F' (upd G q (.lst us)) w' H' ∧ RepL K I' F' xs us ∧
            Post K I' F' G E (RV K Q) ((inL it1 vs1 g1 t1 me xs (it1.xs.drop j) s3 w').bind fun xs2 w2 => (outL it vs g t mi1 vs1 g1 t1 me xs2 (it.xs.drop (i + 1)) ds w2).bind f),
          ⟨it1.xs.length, by simp, Nat.zero_le _, I5, F5, w5, xs, us, .refl, rel5, RepL.ext ee _ _ rx, by simpa using p5'⟩, ?_⟩
        rintro j k H6 ⟨rfl, hj, I6, F6, w6, xs6, us6, e6, rel6, rx6, p6⟩
        by_cases hlt1 : j < it1.xs.length
        · rw [List.drop_eq_getElem_cons hlt1] at p6
          unfold inL at p6
          split at p6
          · rename_i hw1
            obtain ⟨k1, _⟩ := hJ1 I6 F6 _ w6 H6 j e6 rel6 hw1
            obtain ⟨kgo, ky⟩ := k1 _ (List.getElem?_eq_getElem hlt1)
            refine .inr ⟨kgo, fun H2 => ∃ I' F' w' xs us, Ext I5 F5 I' F' ∧ Rel K I' F' (upd G q (.lst us)) w' H2 ∧ RepL K I' F' xs us ∧
                Post K I' F' G E (RV K Q) ((inL it1 vs1 g1 t1 me xs (it1.xs.drop (j + 1)) s3 w').bind fun xs2 w2 => (outL it vs g t mi1 vs1 g1 t1 me xs2 (it.xs.drop (i + 1)) ds w2).bind f),
              fun H2 q => ⟨it1.xs.length - (j + 1), by omega, rfl, hlt1, q⟩, fun v1 H7 y1 => ?_⟩
            obtain ⟨F7, e7, rel7, rv7⟩ := ky v1 H7 y1
            have p7 := p6.ext e7
            rw [Res.bind_assoc] at p7
            have e47 : Ext I3 F3 I6 F7 := ((e4.trans e5).trans e6).trans e7
            refine ⟨I6, F7, upd G q (.lst us6), _, wipeD s3 vs1, w6, rel7, (rs3.ext e47).wipe vs1, rv7, (still hG (Post.bindX p7)).mono fun I8 F8 H8 s8 w8 _ e8 rel8 p8 σ8 rs8 ew8 => ⟨ew8.trans wipe_wipe, ?_⟩⟩
            have p8' := p8.2 H8 (rel_less rel8 hG)
            rw [Res.bind_assoc] at p8'
            refine ⟨I8, F8, upd G q (.lst us6), s8, w8, rel8, rs8, (still hG (Post.bindX p8')).mono fun I9 F9 H9 b9 w9 _ e9 rel9 p9 => ?_⟩
            have p9' := p9.2 H9 (rel_less rel9 hG)
            cases b9 with
            | false =>
              simp only [Bool.false_eq_true, if_false] at p9' ⊢
              exact ⟨I9, F9, w9, xs6, us6, e6.trans ((e7.trans e8).trans e9), rel9, RepL.ext ((e7.trans e8).trans e9) _ _ rx6, p9'⟩
            | true =>
              simp only [if_true] at p9' ⊢
              rw [Res.bind_assoc] at p9'
              refine ⟨I9, F9, upd G q (.lst us6), s8, w9, rel9, rs8.ext e9, (still hG (Post.bindX p9')).mono fun Ia Fa Ha ya wa _ ea rela pa ua rua => ?_⟩
              have pa' := pa.2 Ha (rel_less rela hG)
              split at pa'
              · rename_i hz
                have eee : Ext I6 F6 Ia Fa := ((e7.trans e8).trans e9).trans ea
                exact ⟨us6, rela.gz _ _ upd_same, by rw [← rx6.length]; exact hz, Ia, Fa, wa, xs6 ++ [ya], us6 ++ [ua], e6.trans eee, rela.rekeep, (RepL.ext eee _ _ rx6).append (RepL.cons rua (by simp [RepL])), pa'⟩
              · exact pa'.elim
          · exact p6.elim
        · have hl : j = it1.xs.length := by omega
          subst hl
          rw [List.drop_length] at p6
          unfold inL at p6
          split at p6
          · rename_i hw1
            exact .inl ⟨(hJ1 I6 F6 _ w6 H6 _ e6 rel6 hw1).2 rfl, I6, F6, w6, xs6, us6, (e'.trans ee).trans e6, rel6, rx6, p6⟩
          · exact p6.elim
    · exact p'.elim
  · have hl : i = it.xs.length := by omega
    subst hl
    rw [List.drop_length] at p'
    unfold outL at p'
    split at p'
    · rename_i hw
      exact .inl ⟨(hJ I' F' _ w' H' _ e' rel' hw).2 rfl, fin I' F' G w' H' q xs us rel' hG rx p'⟩
    · exact p'.elim
section
variable {S : Stat} {pos : Pos} {elt tg iter tg1 iter1 : Expr} {ifs ifs1 : List Expr} {scope : Scope} {own : List (Str × Nat)} {vs1 : List Nat} {mi mi1 : MI} {g g1 : MG} {t t1 : MT} {me : ME}
theorem je_comp2 (hi : JI S tg iter mi) (hb : blkC S.N S.sc scope own = true) (hg : JC (S.blk scope) (own.map (·.2)) tg g) (ht : JTs (S.blk scope) ifs t) (hi1 : JI (S.blk scope) tg1 iter1 mi1) (hg1 : JC (S.blk scope) vs1 tg1 g1) (ht1 : JTs (S.blk scope) ifs1 t1) (he : JE (S.blk scope) elt me)
    (hv : ∀ i ∈ vs1, i ∈ own.map (·.2) := by decide) (hs : ∀ (env : Env) x, foldedSetIterable iter env x = pure x := by intro _ _; rfl) (hs1 : ∀ (env : Env) x, foldedSetIterable iter1 env x = pure x := by intro _ _; rfl) :
    JE S (.ListComp elt [⟨tg, iter, ifs, 0⟩, ⟨tg1, iter1, ifs1, 0⟩] scope pos) (eComp2 mi (own.map (·.2)) g t mi1 vs1 g1 t1 me) := fun X E cx xo =>
  pe_weak (pe_lc2 (own := own) (vs1 := vs1) cx.calm cx.nd (hi X E cx xo) (blkOk_by (by rw [cx.N, cx.sc]; exact hb)) hv (fun s H C cl fp => hg _ E0 (ctx_blk cx s H scope C cl fp) (xok_blk ..)) (fun s H C cl fp => ht _ E0 (ctx_blk cx s H scope C cl fp) (xok_blk ..))
    (fun s H C cl fp => hi1 _ E0 (ctx_blk cx s H scope C cl fp) (xok_blk ..)) (fun s H C cl fp => hg1 _ E0 (ctx_blk cx s H scope C cl fp) (xok_blk ..)) (fun s H C cl fp => ht1 _ E0 (ctx_blk cx s H scope C cl fp) (xok_blk ..))
    (fun s H C cl fp => he _ E0 (ctx_blk cx s H scope C cl fp) (xok_blk ..)) (hs X.env) hs1) fun σ H Q h => low_comp2 h fin_lst
end

/-! ### dicts of the module: x in d, d[x] -/
structure KTab (K : PySem.W.Frag) (w : World) (d : Addr) (tab : List (Str × Option D)) : Prop where
  ex : ∃ es n, KDict K w d es n
  hit : ∀ z x, tab.lookup z = some (some x) → ∃ u v, PySem.W.nsIn K d z = some (some u) ∧ RelV v u ∧ ∀ I F, RepV K I F x v
  miss : ∀ z, tab.lookup z = some none → PySem.W.nsIn K d z = some none
def kInM (d : Addr) (tab : List (Str × Option D)) (x y : D) (w : W) : Res D := match x, y with
  | .str z, .con a => if a = d then (match tab.lookup z with
    | some o => .ok (.bl o.isSome) w
    | none => .bad) else .bad
  | _, _ => .bad
def kIxM (d : Addr) (tab : List (Str × Option D)) (x y : D) (w : W) : Res D := match x, y with
  | .con a, .str z => if a = d then (match tab.lookup z with
    | some (some v) => .ok v w
    | _ => .bad) else .bad
  | _, _ => .bad
theorem o2_kin {S : Stat} {d : Addr} {tab : List (Str × Option D)} (T : KTab S.K S.w d tab) : O2 S (compareOp .In) (kInM d tab) := low2_of fun X E c xo I F G a b w H x y Q rel rd re p => by
  unfold kInM at p
  split at p
  · rename_i z a'
    simp only [RepV] at rd re
    subst rd re
    split at p
    · rename_i hd
      subst hd
      obtain ⟨es, n, T1⟩ := T.ex
      rw [← c.K, ← c.w] at T1
      cases h : tab.lookup z with
      | none => rw [h] at p; exact p.elim
      | some o =>
        rw [h] at p
        cases o with
        | none => exact ⟨_, op_in_kd T1, z, none, rfl, rfl, by rw [c.K]; exact T.miss z h, p.okE rel (by simp [RepV])⟩
        | some v =>
          obtain ⟨u, v', h1, h2, h3⟩ := T.hit z v h
          exact ⟨_, op_in_kd T1, z, some u, rfl, rfl, by rw [c.K]; exact h1, p.okE rel (by simp [RepV])⟩
    · exact p.elim
  · exact p.elim
theorem kix_ok {S : Stat} {d : Addr} {tab : List (Str × Option D)} (T : KTab S.K S.w d tab) : GetIx S (kIxM d tab) := getIx_of fun X E c xo I F G a b w H x y Q rel rd re p => by
  unfold kIxM at p
  split at p
  · rename_i a' z
    simp only [RepV] at rd re
    subst rd re
    split at p
    · rename_i hd
      subst hd
      obtain ⟨es, n, T1⟩ := T.ex
      rw [← c.K, ← c.w] at T1
      cases h : tab.lookup z with
      | none => rw [h] at p; exact p.elim
      | some o =>
        cases o with
        | none => rw [h] at p; exact p.elim
        | some v =>
        rw [h] at p
        obtain ⟨u, v', h1, h2, h3⟩ := T.hit z v h
        exact ⟨_, ix_kdict, a', z, v', rfl, rfl, ⟨es, n, u, T1.at_, T1.lit, by rw [c.K]; exact h1, h2⟩, p.okE rel (by rw [c.K]; exact h3 _ _)⟩
    · exact p.elim
  · exact p.elim
theorem je_kix {S : Stat} {d : Addr} {tab : List (Str × Option D)} {a b : Expr} {ma mb : ME} {pos : Pos} (T : KTab S.K S.w d tab) (ha : JE S a ma) (hb : JE S b mb) (hs : PlainIx b := by intro _ _; rfl) : JE S (.Subscript a b pos) (eBin (kIxM d tab) ma mb) := fun X E c xo =>
  pe_weak (pe_ix (kix_ok T X E c xo) (ha X E c xo) (hb X E c xo) hs) fun _ _ _ h => low_bin h
end Pc

set_option Elab.async false
set_option linter.all false
set_option maxRecDepth 100000
set_option maxHeartbeats 4000000
set_option autoImplicit false
/-! Pc, part Q: zip(.., strict=True) of two tuples of one length. -/
namespace Pc
open PySem PySem.Spec PyProof.Rows L2
open RZ (nextOf_tuple_item nextOf_tuple_end zipTH1 zipTH2 zipTH3 zipTH4)

abbrev IsZs (h : Heap) (z TI TO : Addr) (f0 : Value) : Prop :=
  h.get? z = some { cls := .type "zip", dict := none, data := .fields #[f0, .bool false, .bool true, .ref TI, .ref TO], slots := #[] }
abbrev zsH (h : Heap) (l1 l2 : Addr) : Heap := (zipTH4 h l1 l2).push { cls := .type "zip", data := .fields #[.none, .bool false, .bool true, .ref (zipTH2 h l1 l2).objs.size, .ref (zipTH3 h l1 l2).objs.size] }
theorem zs_typeCall (a b c : Value) : checkTypeCall "zip" ⟨[a, b], [(Str.ofString "strict", c)]⟩ = pure () := by kernel_rfl
theorem zs_newCall (a b c : Value) : checkBuiltinCall "zip.__new__" ⟨[.type "zip", a, b], [(Str.ofString "strict", c)]⟩ = pure () := by kernel_rfl
theorem zs_init (x a b c : Value) : argsOk "object.__init__" ⟨[x, a, b], [(Str.ofString "strict", c)]⟩ := by unfold argsOk; kernel_rfl
theorem zs_new (l1 l2 : Addr) (xs ys : Array Value) : Meets (Builtin.«zip.__new__» ⟨[.type "zip", .ref l1, .ref l2], [(Str.ofString "strict", .bool true)]⟩) (fun _ R s => s.heap.IsTuple l1 xs ∧ s.heap.IsTuple l2 ys ∧
      R (.ok (.ret (.ref (zipTH4 s.heap l1 l2).objs.size))) { s with heap := zsH s.heap l1 l2 }) :=
  .of_wp fun prog w A R s ⟨t1, t2, fin⟩ => by
    obtain ⟨hp, gs, dr, tk, os⟩ := s
    have sub0 := sub_zip
    have T1 : Heap.IsTuple (Shared.heap ⟨hp, gs, dr, tk, os⟩) l1 xs := t1
    have T2 : Heap.IsTuple (Shared.heap ⟨hp.push { cls := .type "tuple_iterator", data := .fields #[.ref l1, .int 0 0] }, gs, dr, tk, os⟩) l2 ys := Heap.IsTuple.push t2 _
    have s1 : (Str.ofString "strict" == ("strict" : Str)) = true := by decide +kernel
    have s2 : (Str.ofString "strict" != ("strict" : Str)) = false := by decide +kernel
    wp_walk using wpAny_pyIter_tuple T1, wpAny_pyIter_tuple T2
    exact ⟨_, rfl, fin⟩
end Pc

set_option Elab.async false
set_option linter.all false
set_option maxRecDepth 100000
set_option maxHeartbeats 4000000
set_option autoImplicit false
/-! Pc, part R: zip(.., strict=True), walked. -/
namespace Pc
open PySem PySem.Spec PyProof.Rows L2
open RZ (nextOf_tuple_item nextOf_tuple_end zipTH1 zipTH2 zipTH3 zipTH4)
section
variable {prog : Program} {w : World} {A : Around} {E : Value → Shared → Prop} {s : Shared}
theorem zs_call {l1 l2 : Addr} {xs ys : Array Value} {Q : Value → Shared → Prop} (t1 : s.heap.IsTuple l1 xs) (t2 : s.heap.IsTuple l2 ys)
    (fin : ∀ g, IsZs g (s.heap.objs.size + 4) (s.heap.objs.size + 2) (s.heap.objs.size + 3) .none → IsPair g (s.heap.objs.size + 2) (.ref s.heap.objs.size) (.ref (s.heap.objs.size + 1)) → IsPair g (s.heap.objs.size + 3) .none .none →
      g.IsTupleIter s.heap.objs.size l1 0 → g.IsTupleIter (s.heap.objs.size + 1) l2 0 → (∀ c o, s.heap.get? c = some o → g.get? c = some o) → Q (.ref (s.heap.objs.size + 4)) { s with heap := g }) :
    wpAny (model prog w) A (call (.type "zip") [.ref l1, .ref l2] [(Str.ofString "strict", .bool true)]) Q E s := by
  refine callType_newKw F.called_zip (by decide) (zs_typeCall _ _ _) (zs_newCall _ _ _) (fun x => zs_init x _ _ _) F.entry_zip_new (zs_new l1 l2 xs ys) ⟨t1, t2, ?_⟩
  have n1 : (zipTH1 s.heap l1).objs.size = s.heap.objs.size + 1 := Heap.size_push ..
  have n2 : (zipTH2 s.heap l1 l2).objs.size = s.heap.objs.size + 2 := by rw [Heap.size_push, n1]
  have n3 : (zipTH3 s.heap l1 l2).objs.size = s.heap.objs.size + 3 := by rw [Heap.size_push, n2]
  have n4 : (zipTH4 s.heap l1 l2).objs.size = s.heap.objs.size + 4 := by rw [Heap.size_push, n3]
  have up1 : ∀ {c o}, (zipTH4 s.heap l1 l2).get? c = some o → (zsH s.heap l1 l2).get? c = some o := fun h => Heap.get?_push_of_some _ h
  have up2 : ∀ {c o}, (zipTH3 s.heap l1 l2).get? c = some o → (zsH s.heap l1 l2).get? c = some o := fun h => up1 (Heap.get?_push_of_some _ h)
  have up3 : ∀ {c o}, (zipTH2 s.heap l1 l2).get? c = some o → (zsH s.heap l1 l2).get? c = some o := fun h => up2 (Heap.get?_push_of_some _ h)
  have up4 : ∀ {c o}, (zipTH1 s.heap l1).get? c = some o → (zsH s.heap l1 l2).get? c = some o := fun h => up3 (Heap.get?_push_of_some _ h)
  have k5 : (zsH s.heap l1 l2).get? (zipTH4 s.heap l1 l2).objs.size = some _ := Heap.get?_push_size _ rfl
  have k4 : (zsH s.heap l1 l2).get? (zipTH3 s.heap l1 l2).objs.size = some _ := up1 (Heap.get?_push_size _ rfl)
  have k3 : (zsH s.heap l1 l2).get? (zipTH2 s.heap l1 l2).objs.size = some _ := up2 (Heap.get?_push_size _ rfl)
  have k2 : (zsH s.heap l1 l2).get? (zipTH1 s.heap l1).objs.size = some _ := up3 (Heap.get?_push_size _ rfl)
  have k1 : (zsH s.heap l1 l2).get? s.heap.objs.size = some _ := up4 (Heap.get?_push_size _ rfl)
  show _ ∧ _
  rw [n2, n3, n4] at k5
  rw [n1, n2] at k3
  rw [n3] at k4
  rw [n1] at k2
  rw [n4]
  exact ⟨⟨_, k5, rfl⟩, fin _ k5 k3 k4 ⟨_, k1, rfl, rfl⟩ ⟨_, k2, rfl, rfl⟩ fun c o h => up4 (Heap.get?_push_of_some _ h)⟩
theorem noe_item {it l : Addr} {i : Nat} {items : Array Value} {x : Value} {Q : Option Value → Shared → Prop} (a : s.heap.IsTupleIter it l i) (b : s.heap.IsTuple l items) (c : items[i]? = some x)
    (q : ∀ g, g.IsTupleIter it l (i + 1) → Heap.SameBut it s.heap g → Q (some x) { s with heap := g }) : wpAny (model prog w) A (Builtin.SmallTypes.nextOrEnd (.ref it)) Q E s := by
  unfold Builtin.SmallTypes.nextOrEnd
  exact wpAny_bind (wpAny_attempt (nextOf_tuple_item a b c fun g g1 g2 => wpAny_pure (q g g1 g2)))
theorem noe_end {it l : Addr} {i : Nat} {items : Array Value} {Q : Option Value → Shared → Prop} (hh : A.handled = none) (a : s.heap.IsTupleIter it l i) (b : s.heap.IsTuple l items) (c : items[i]? = none)
    (q : ∀ g, Heap.ExtBut it s.heap g → Q none { s with heap := g }) : wpAny (model prog w) A (Builtin.SmallTypes.nextOrEnd (.ref it)) Q E s := by
  unfold Builtin.SmallTypes.nextOrEnd
  refine wpAny_bind (wpAny_attempt (nextOf_tuple_end hh a b c fun g e g1 ⟨o, g2, g3⟩ => ?_))
  refine wpAny_bind (wpAny_isInstance (T := "StopIteration") (b := true) ⟨o, g2, g3⟩ isSubtype_stop ?_)
  exact wpAny_pure (q g g1)
theorem zs_setpair {T : Addr} {a b x : Value} {k : Nat} {Q : Unit → Shared → Prop} (h : IsPair s.heap T a b) (q : ∀ g, g.get? T = some { cls := .type "tuple", data := .seq ((#[a, b] : Array Value).setIfInBounds k x) } → Heap.SameBut T s.heap g → Q () { s with heap := g }) :
    wpAny (model prog w) A (updateSeq T (·.setIfInBounds k x)) Q E s := wpAny_updateSeq_pair h q
theorem zs_item {z TI TO i1 i2 l1 l2 : Addr} {k : Nat} {xs ys : Array Value} {x y a b : Value} {Q : Value → Shared → Prop} (D : ZipApart z TI TO i1 i2 l1 l2)
    (hz : IsZs s.heap z TI TO .none) (hI : IsPair s.heap TI (.ref i1) (.ref i2)) (hO : IsPair s.heap TO a b) (a1 : s.heap.IsTupleIter i1 l1 k) (a2 : s.heap.IsTupleIter i2 l2 k) (b1 : s.heap.IsTuple l1 xs) (b2 : s.heap.IsTuple l2 ys) (c1 : xs[k]? = some x) (c2 : ys[k]? = some y)
    (fin : ∀ g, IsZs g z TI TO (rawInt s.heap.objs.size) → IsPair g TO x y → g.IsTupleIter i1 l1 (k + 1) → g.IsTupleIter i2 l2 (k + 1) → IsPair g s.heap.objs.size x y → (∀ c o, c ≠ z → c ≠ TO → c ≠ i1 → c ≠ i2 → s.heap.get? c = some o → g.get? c = some o) → Q (.ref s.heap.objs.size) { s with heap := g }) :
    wpAny (model prog w) A (Builtin.«zip.__next__» ⟨[.ref z], []⟩) (fun f t => ∃ v, f = .done (.ret v) ∧ Q v t) E s := by
  show wpAny _ _ (field (.ref z) 2 >>= _) _ _ _
  refine wpAny_bind (wpAny_field hz rfl (x := .bool true) rfl ?_)
  show wpAny _ _ (field (.ref z) 3 >>= _) _ _ _
  refine wpAny_bind (wpAny_field hz rfl (x := .ref TI) rfl ?_)
  refine wpAny_bind (wpAny_seqItems hI rfl ?_)
  show wpAny _ _ (Builtin.SmallTypes.ownedTupleIsFree (.ref z) >>= _) _ _ _
  refine wpAny_bind ?_
  unfold Builtin.SmallTypes.ownedTupleIsFree
  refine wpAny_bind (wpAny_field hz rfl (x := .none) rfl (wpAny_pure ?_))
  simp only [if_true]
  refine wpAny_bind (wpAny_rule ?_)
  refine wpAny_bind (wpAny_field hz rfl (x := .ref TO) rfl ?_)
  refine wpAny_bind (wpAny_setField_rec hz (by simp) fun g1 z1 s1 => ?_)
  have z1' : IsZs g1 z TI TO .ellipsis := z1
  refine wpAny_bind ?_
  simp only [List.zipIdx_cons, List.zipIdx_nil, List.forIn_cons, List.forIn_nil]
  refine wpAny_bind (wpAny_bind (wpAny_onRaise ?_))
  show wpAny _ _ (Builtin.SmallTypes.nextOrEnd (.ref i1)) _ _ _
  refine noe_item (a1.extBut s1.extBut D.i1z) (b1.extBut s1.extBut D.l1z) c1 fun g2 d1 s2 => ?_
  have O2 : IsPair g2 TO a b := s2.extBut _ _ D.TOi1 (s1.extBut _ _ D.TOz hO)
  refine wpAny_bind (wpAny_seqItems O2 rfl ?_)
  refine wpAny_bind (zs_setpair O2 fun g3 O3 s3 => ?_)
  have O3' : IsPair g3 TO x b := O3
  refine wpAny_bind (wpAny_letGo (wpAny_pure ?_))
  refine wpAny_bind (wpAny_bind (wpAny_onRaise ?_))
  show wpAny _ _ (Builtin.SmallTypes.nextOrEnd (.ref i2)) _ _ _
  refine noe_item (((a2.extBut s1.extBut D.i2z).extBut s2.extBut D.i12.symm).extBut s3.extBut D.TOi2.symm) (((b2.extBut s1.extBut D.l2z).extBut s2.extBut D.l2i1).extBut s3.extBut D.l2TO) c2 fun g4 d2 s4 => ?_
  have O4 : IsPair g4 TO x b := s4.extBut _ _ D.TOi2 O3'
  refine wpAny_bind (wpAny_seqItems O4 rfl ?_)
  refine wpAny_bind (zs_setpair O4 fun g5 O5 s5 => ?_)
  have O5' : IsPair g5 TO x y := O5
  refine wpAny_bind (wpAny_letGo (wpAny_pure (wpAny_pure ?_)))
  refine wpAny_bind (wpAny_seqItems O5' rfl ?_)
  refine wpAny_bind (wpAny_newTuple ?_)
  have size5 : g5.objs.size = s.heap.objs.size := by rw [s5.1, s4.1, s3.1, s2.1, s1.1]
  have z5 : IsZs g5 z TI TO .ellipsis := s5.extBut _ _ D.TOz.symm (s4.extBut _ _ D.i2z.symm (s3.extBut _ _ D.TOz.symm (s2.extBut _ _ D.i1z.symm z1')))
  have kp : ∀ c o, c ≠ z → c ≠ TO → c ≠ i1 → c ≠ i2 → s.heap.get? c = some o → g5.get? c = some o := fun c o n1 n2 n3 n4 e =>
    s5.extBut _ _ n2 (s4.extBut _ _ n4 (s3.extBut _ _ n2 (s2.extBut _ _ n3 (s1.extBut _ _ n1 e))))
  have d1' : g5.IsTupleIter i1 l1 (k + 1) := ((d1.extBut s3.extBut D.TOi1.symm).extBut s4.extBut D.i12).extBut s5.extBut D.TOi1.symm
  have d2' : g5.IsTupleIter i2 l2 (k + 1) := d2.extBut s5.extBut D.TOi2.symm
  have zl : z < g5.objs.size := Heap.lt_size z5
  show wpAny _ _ (Builtin.SmallTypes.ownedTupleHandOut (.ref z) (.ref g5.objs.size) >>= _) _ _ _
  refine wpAny_bind ?_
  unfold Builtin.SmallTypes.ownedTupleHandOut
  have z6 : IsZs (g5.push { cls := .type "tuple", data := .seq #[x, y] }) z TI TO .ellipsis := Heap.get?_push_of_some _ z5
  refine wpAny_bind (wpAny_setField_rec z6 (by simp) fun g7 z7 s7 => ?_)
  have z7' : IsZs g7 z TI TO (rawInt g5.objs.size) := z7
  refine wpAny_setField_rec z7' (by simp) fun g8 z8 s8 => ?_
  have z8' : IsZs g8 z TI TO (rawInt g5.objs.size) := z8
  have up : ∀ c o, c ≠ z → g5.get? c = some o → g8.get? c = some o := fun c o n e => s8.extBut _ _ n (s7.extBut _ _ n (Heap.get?_push_of_some _ e))
  have T8 : IsPair g8 g5.objs.size x y := s8.extBut _ _ (Nat.ne_of_gt zl) (s7.extBut _ _ (Nat.ne_of_gt zl) (Heap.get?_push_size _ rfl))
  rw [size5] at z8' T8
  refine wpAny_pure ⟨_, rfl, ?_⟩
  show Q (.ref g5.objs.size) _
  rw [size5]
  exact fin g8 z8' (up _ _ D.TOz O5') (d1'.at fun o e => up _ o D.i1z e) (d2'.at fun o e => up _ o D.i2z e) T8 fun c o n1 n2 n3 n4 e => up c o n1 (kp c o n1 n2 n3 n4 e)
theorem zs_end {z TI TO i1 i2 l1 l2 : Addr} {k : Nat} {xs ys : Array Value} {a b : Value} {Q : Fin → Shared → Prop} (hh : A.handled = none) (D : ZipApart z TI TO i1 i2 l1 l2)
    (hz : IsZs s.heap z TI TO .none) (hI : IsPair s.heap TI (.ref i1) (.ref i2)) (hO : IsPair s.heap TO a b) (a1 : s.heap.IsTupleIter i1 l1 k) (a2 : s.heap.IsTupleIter i2 l2 k) (b1 : s.heap.IsTuple l1 xs) (b2 : s.heap.IsTuple l2 ys) (c1 : xs[k]? = none) (c2 : ys[k]? = none)
    (fin : ∀ g e, (∀ c o, c ≠ z → c ≠ TO → c ≠ i1 → c ≠ i2 → s.heap.get? c = some o → g.get? c = some o) → (∃ o, g.get? e = some o ∧ o.cls = .type "StopIteration") → E (.ref e) { s with heap := g }) :
    wpAny (model prog w) A (Builtin.«zip.__next__» ⟨[.ref z], []⟩) Q E s := by
  show wpAny _ _ (field (.ref z) 2 >>= _) _ _ _
  refine wpAny_bind (wpAny_field hz rfl (x := .bool true) rfl ?_)
  show wpAny _ _ (field (.ref z) 3 >>= _) _ _ _
  refine wpAny_bind (wpAny_field hz rfl (x := .ref TI) rfl ?_)
  refine wpAny_bind (wpAny_seqItems hI rfl ?_)
  show wpAny _ _ (Builtin.SmallTypes.ownedTupleIsFree (.ref z) >>= _) _ _ _
  refine wpAny_bind ?_
  unfold Builtin.SmallTypes.ownedTupleIsFree
  refine wpAny_bind (wpAny_field hz rfl (x := .none) rfl (wpAny_pure ?_))
  simp only [if_true]
  refine wpAny_bind (wpAny_rule ?_)
  refine wpAny_bind (wpAny_field hz rfl (x := .ref TO) rfl ?_)
  refine wpAny_bind (wpAny_setField_rec hz (by simp) fun g1 z1 s1 => ?_)
  have z1' : IsZs g1 z TI TO .ellipsis := z1
  refine wpAny_bind ?_
  simp only [List.zipIdx_cons, List.zipIdx_nil, List.forIn_cons, List.forIn_nil]
  refine wpAny_bind (wpAny_bind (wpAny_onRaise ?_))
  show wpAny _ _ (Builtin.SmallTypes.nextOrEnd (.ref i1)) _ _ _
  refine noe_end hh (a1.extBut s1.extBut D.i1z) (b1.extBut s1.extBut D.l1z) c1 fun g2 s2 => ?_
  have z2 : IsZs g2 z TI TO .ellipsis := s2 _ _ D.i1z.symm z1'
  refine wpAny_bind (wpAny_setField_rec z2 (by simp) fun g3 _ s3 => ?_)
  refine wpAny_bind (wpAny_bind ?_)
  show wpAny _ _ (forIn ((List.drop 1 [Value.ref i1, Value.ref i2]).zipIdx 1) PUnit.unit _) _ _ _
  simp only [List.drop_succ_cons, List.drop_zero, List.zipIdx_cons, List.zipIdx_nil, List.forIn_cons, List.forIn_nil]
  refine wpAny_bind (wpAny_bind (noe_end hh (((a2.extBut s1.extBut D.i2z).extBut s2 D.i12.symm).extBut s3.extBut D.i2z) (((b2.extBut s1.extBut D.l2z).extBut s2 D.l2i1).extBut s3.extBut D.l2z) c2 fun g4 s4 => ?_))
  show wpAny _ _ (pure (ForInStep.yield PUnit.unit)) _ _ _
  refine wpAny_pure ?_
  refine wpAny_pure ?_
  refine wpAny_bind (wpAny_rule ?_)
  unfold Builtin.SmallTypes.stopIteration
  refine wpAny_bind ?_
  simp only [newExc, newTuple]
  refine wpAny_bind (wpAny_newObj_type ?_ (by size_fits))
  refine wpAny_bind (m := firstArgMember _ _) (wpAny_of_eq (a := Value.none) (by first | rfl | (simp only [firstArgMember]; rfl)) ?_)
  refine wpAny_newObj_type ?_ (by size_fits)
  simp only [raiseNew]
  refine wpAny_bind (wpAny_handled ?_)
  rw [hh]
  refine wpAny_bind (wpAny_pure (wpAny_throw ?_))
  refine fin _ _ (fun c o n1 _ n3 n4 e => ?_) ⟨_, Heap.get?_push_size _ rfl, rfl⟩
  exact Heap.get?_push_of_some _ (Heap.get?_push_of_some _ (s4 _ _ n4 (s3.extBut _ _ n1 (s2 _ _ n3 (s1.extBut _ _ n1 e)))))
theorem zs_nextItem {z TI TO i1 i2 l1 l2 : Addr} {k : Nat} {xs ys : Array Value} {x y a b : Value} {Q : Option Value → Shared → Prop} (D : ZipApart z TI TO i1 i2 l1 l2)
    (hz : IsZs s.heap z TI TO .none) (hI : IsPair s.heap TI (.ref i1) (.ref i2)) (hO : IsPair s.heap TO a b) (a1 : s.heap.IsTupleIter i1 l1 k) (a2 : s.heap.IsTupleIter i2 l2 k) (b1 : s.heap.IsTuple l1 xs) (b2 : s.heap.IsTuple l2 ys) (c1 : xs[k]? = some x) (c2 : ys[k]? = some y)
    (fin : ∀ g, IsZs g z TI TO (rawInt s.heap.objs.size) → IsPair g TO x y → g.IsTupleIter i1 l1 (k + 1) → g.IsTupleIter i2 l2 (k + 1) → IsPair g s.heap.objs.size x y → (∀ c o, c ≠ z → c ≠ TO → c ≠ i1 → c ≠ i2 → s.heap.get? c = some o → g.get? c = some o) → Q (some (.ref s.heap.objs.size)) { s with heap := g }) :
    wpAny (model prog w) A (pyNext (.ref z)) Q E s := by
  have ty : s.TypeIs (.ref z) "zip" := ⟨_, hz, rfl⟩
  unfold pyNext
  exact wpAny_bind (wpAny_attempt (wpAny_callSpecial?_slot (name := Str.ofString "__next__") ty F.slot_zip_next (wpAny_call_entry F.slot_zip_next ty F.entry_zip_next (zs_item D hz hI hO a1 a2 b1 b2 c1 c2 fun g e1 e2 e3 e4 e5 e6 => wpAny_pure (fin g e1 e2 e3 e4 e5 e6)) (F.args_zip_next_1 _))))
theorem zs_nextEnd {z TI TO i1 i2 l1 l2 : Addr} {k : Nat} {xs ys : Array Value} {a b : Value} {Q : Option Value → Shared → Prop} (hh : A.handled = none) (D : ZipApart z TI TO i1 i2 l1 l2)
    (hz : IsZs s.heap z TI TO .none) (hI : IsPair s.heap TI (.ref i1) (.ref i2)) (hO : IsPair s.heap TO a b) (a1 : s.heap.IsTupleIter i1 l1 k) (a2 : s.heap.IsTupleIter i2 l2 k) (b1 : s.heap.IsTuple l1 xs) (b2 : s.heap.IsTuple l2 ys) (c1 : xs[k]? = none) (c2 : ys[k]? = none)
    (fin : ∀ g, (∀ c o, c ≠ z → c ≠ TO → c ≠ i1 → c ≠ i2 → s.heap.get? c = some o → g.get? c = some o) → Q none { s with heap := g }) : wpAny (model prog w) A (pyNext (.ref z)) Q E s := by
  have ty : s.TypeIs (.ref z) "zip" := ⟨_, hz, rfl⟩
  unfold pyNext
  refine wpAny_bind (wpAny_attempt (wpAny_callSpecial?_slot (name := Str.ofString "__next__") ty F.slot_zip_next (wpAny_call_entry F.slot_zip_next ty F.entry_zip_next (zs_end hh D hz hI hO a1 a2 b1 b2 c1 c2 fun g e kp he => ?_) (F.args_zip_next_1 _))))
  obtain ⟨o, h1, h2⟩ := he
  refine wpAny_bind (wpAny_isInstance (T := "StopIteration") (b := true) ⟨o, h1, h2⟩ isSubtype_stop ?_)
  exact wpAny_pure (fin _ kp)
theorem zs_iter {z TI TO : Addr} {f0 : Value} {Q : Value → Shared → Prop} (hz : IsZs s.heap z TI TO f0) (h : Q (.ref z) s) : wpAny (model prog w) A (pyIter (.ref z)) Q E s := by
  have ty : s.TypeIs (.ref z) "zip" := ⟨_, hz, rfl⟩
  refine wpAny_pyIter_slot ty F.slot_zip_iter (wpAny_call_entry F.slot_zip_iter ty F.entry_zip_iter ?_ (F.args_zip_iter_1 _))
  show wpAny _ _ (ret (.ref z)) _ _ s
  exact wpAny_pure ⟨_, rfl, "zip", _, ty, F.slot_zip_next.lookup, h⟩
theorem zs_letgo {elts : List Expr} {x1 : Nat} {pos : Pos} {z TI TO T : Addr} {Q : Unit → Shared → Prop} (hz : IsZs s.heap z TI TO (rawInt T))
    (fin : ∀ g, IsZs g z TI TO .none → Heap.SameBut z s.heap g → Q () { s with heap := g }) : wpAny (model prog w) A (letOwnedTupleGo (.Tuple elts x1 pos) (.ref z) (.ref T)) Q E s := by
  unfold letOwnedTupleGo
  refine wpAny_bind (wpAny_load hz ?_)
  show wpAny _ _ (if (["enumerate", "zip", "dict_itemiterator", "dict_reverseitemiterator", "odict_iterator", "itertools.zip_longest", "itertools.pairwise"].contains "zip" &&
      (#[rawInt T, .bool false, .bool true, .ref TI, .ref TO] : Array Value)[0]? == some (rawInt T)) = true then _ else _) Q E s
  rw [if_pos (by simp)]
  refine wpAny_bind (wpAny_rule ?_)
  show wpAny _ _ (setField (.ref z) 0 .none) Q E s
  exact wpAny_setField_rec hz (by simp) fun g h1 h2 => fin g h1 h2
end
/-- the tuples at a and b, of one length -/
def ItZs (K : PySem.W.Frag) (a b : Addr) : It :=
  ⟨fun i H => ∃ (xs ys : List V) (x y : V), SqT K H a xs ∧ SqT K H b ys ∧ xs[i]? = some x ∧ ys[i]? = some y,
    fun i H v H' => ∃ T x y, v = .ref T ∧ H T = none ∧ H' = upd H T (.tup [x, y]) ∧ (∀ xs, SqT K H a xs → xs[i]? = some x) ∧ ∀ ys, SqT K H b ys → ys[i]? = some y,
    fun i H => ∃ xs ys : List V, SqT K H a xs ∧ SqT K H b ys ∧ xs.length ≤ i ∧ ys.length ≤ i⟩
theorem turn_zs {P : Program} {w : World} {K : PySem.W.Frag} {elts : List Expr} {kk : Nat} {tpos : Pos} {a b z TI TO i1 i2 : Addr} (D : ZipApart z TI TO i1 i2 a b) :
    Turn P w K (.Tuple elts kk tpos) (ItZs K a b) [z, TI, TO, i1, i2] z (fun i h => IsZs h z TI TO .none ∧ IsPair h TI (.ref i1) (.ref i2) ∧ (∃ x y, IsPair h TO x y) ∧ h.IsTupleIter i1 a i ∧ h.IsTupleIter i2 b i) where
  mem := by simp
  obj := fun i h st c hc => by
    obtain ⟨f1, f2, ⟨x, y, f3⟩, ⟨o1, e1, _, d1⟩, ⟨o2, e2, _, d2⟩⟩ := st
    have cs : c = z ∨ c = TI ∨ c = TO ∨ c = i1 ∨ c = i2 := by simpa using hc
    rcases cs with rfl | rfl | rfl | rfl | rfl
    · exact ⟨_, f1, fun v q => nomatch q⟩
    · exact ⟨_, f2, fun v q => nomatch q⟩
    · exact ⟨_, f3, fun v q => nomatch q⟩
    · exact ⟨o1, e1, fun v q => by rw [d1] at q; cases q⟩
    · exact ⟨o2, e2, fun v q => by rw [d2] at q; cases q⟩
  keep := fun i h h' st k => by
    obtain ⟨f1, f2, ⟨x, y, f3⟩, f4, f5⟩ := st
    exact ⟨k z (by simp) _ f1, k TI (by simp) _ f2, ⟨x, y, k TO (by simp) _ f3⟩, f4.at fun o q => k i1 (by simp) o q, f5.at fun o q => k i2 (by simp) o q⟩
  item := by
    intro X hP hw hK hc i pins s σ H E I fp st go
    subst hP hw hK
    obtain ⟨f1, f2, ⟨x0, y0, f3⟩, f4, f5⟩ := st
    obtain ⟨xs, ys, x, y, qx, qy, gx, gy⟩ := go
    obtain ⟨us, rv, p, _⟩ := I.tuple qx
    obtain ⟨us2, rv2, p2, _⟩ := I.tuple qy
    obtain ⟨u, hu, ru⟩ := rv.get gx
    obtain ⟨u2, hu2, ru2⟩ := rv2.get gy
    have zl : z < s.heap.objs.size := Heap.lt_size f1
    refine zs_nextItem D f1 f2 f3 f4 f5 p p2 (x := u) (y := u2) (by simpa using hu) (by simpa using hu2) fun g z' TO' h1' h2' hT hk => ?_
    refine ⟨_, rfl, zs_letgo (s := { s with heap := g }) z' fun g2 z'' sb => ?_⟩
    have hT2 : g2.get? s.heap.objs.size = some { cls := .type "tuple", data := .seq #[u, u2] } := (sb.2 _ (Nat.ne_of_gt zl)).trans hT
    have new : ObjOk X.prog X.w (upd H s.heap.objs.size (.tup [x, y])) g2 s.heap.objs.size (.tup [x, y]) := ⟨by show 2 ≤ sizeLine; decide, [u, u2], .cons ru (.cons ru2 .nil), ⟨_, hT2, rfl, _, rfl⟩⟩
    have I1 : Inv X pins σ (upd H s.heap.objs.size (.tup [x, y])) { s with heap := g2 } :=
      I.turnedNew (t' := s.toks) (ch := [z, TI, TO, i1, i2]) (fun c o hb q => by
        simp only [List.mem_cons, List.not_mem_nil, or_false, not_or] at hb
        exact (sb.2 c hb.1).trans (hk c o hb.1 hb.2.2.1 hb.2.2.2.1 hb.2.2.2.2 q)) fp (Nat.le_refl _) new
    refine ⟨.ref s.heap.objs.size, _, I1, rfl, ⟨_, x, y, rfl, I.hok.fresh (Nat.le_refl _), rfl, fun l hl => by rw [I.tuple_inj hl qx]; exact gx, fun l hl => by rw [I.tuple_inj hl qy]; exact gy⟩, ⟨z'', ?_, ⟨u, u2, ?_⟩, ?_, ?_⟩, fun c hcm => ?_⟩
    · exact (sb.2 _ D.TIz).trans (hk _ _ D.TIz D.TITO D.TIi1 D.TIi2 f2)
    · exact (sb.2 _ D.TOz).trans TO'
    · exact h1'.at fun o q => (sb.2 _ D.i1z).trans q
    · exact h2'.at fun o q => (sb.2 _ D.i2z).trans q
    · have hlt : c < s.heap.objs.size := by
        have cs : c = z ∨ c = TI ∨ c = TO ∨ c = i1 ∨ c = i2 := by simpa using hcm
        rcases cs with rfl | rfl | rfl | rfl | rfl
        · exact zl
        · exact Heap.lt_size f2
        · exact Heap.lt_size f3
        · obtain ⟨_, e1, _⟩ := f4; exact Heap.lt_size e1
        · obtain ⟨_, e2, _⟩ := f5; exact Heap.lt_size e2
      rw [upd_ne (Nat.ne_of_lt hlt)]
      exact (fp c hcm).1
  done := by
    intro X hP hw hK hc i pins s σ H E I fp st go
    subst hP hw hK
    obtain ⟨f1, f2, ⟨x0, y0, f3⟩, f4, f5⟩ := st
    obtain ⟨xs, ys, qx, qy, e1, e2⟩ := go
    obtain ⟨us, rv, p, _⟩ := I.tuple qx
    obtain ⟨us2, rv2, p2, _⟩ := I.tuple qy
    have l1 := rv.length
    have l2 := rv2.length
    refine zs_nextEnd (I.ok.hd hc) D f1 f2 f3 f4 f5 p p2 (by simp; omega) (by simp; omega) fun g hk => ⟨rfl, I.turnedL (t' := s.toks) (ch := [z, TI, TO, i1, i2]) (fun c o hb q => ?_) fp⟩
    simp only [List.mem_cons, List.not_mem_nil, or_false, not_or] at hb
    exact hk c o hb.1 hb.2.2.1 hb.2.2.2.1 hb.2.2.2.2 q
  self := fun A i s Q E st h => zs_iter st.1 h
def iZipSV (K : PySem.W.Frag) (ta tb : TE) : TI := fun σ H R => ta σ H fun x H1 => tb σ H1 fun y H2 => ∃ a b xs ys, x = V.ref a ∧ y = V.ref b ∧ SqT K H2 a xs ∧ SqT K H2 b ys ∧ R (ItZs K a b) H2
end Pc

set_option Elab.async false
set_option linter.all false
set_option maxRecDepth 100000
set_option maxHeartbeats 4000000
set_option autoImplicit false
/-! Pc, part S: for .. in zip(a, b, strict=True). -/
namespace Pc
open PySem PySem.Spec PyProof.Rows L2
section
variable {M : Model} {A : Around} {E : Value → Shared → Prop} {s : Shared} {env : Env}
theorem callWith_tyKw {pos : Pos} {T : String} {first : List Value} {args : List (Bool × Sem Value)} {kws : List (Option Str × Sem Value)} {Q : Value → Shared → Prop} (p1 : args.any (·.1) = false) (p2 : kws.any (·.1.isNone) = false)
    (h : wpAny M A (evalArgs (.type T) true args kws) (fun a t => wpAny M A (call (.type T) (first ++ a.pos) a.kw) Q E t) E s) : wpAny M A (callWith pos (.type T) first args kws) Q E s := by
  unfold callWith
  refine wpAny_bind (wpAny_holding (wpAny_mono h (fun a t g => wpAny_bind (wpAny_standAt ?_)) fun _ _ z => z))
  simp only [p1, p2, Bool.or_false]
  refine wpAny_bind (wpAny_pure ?_)
  exact wpAny_bind (wpAny_mono g (fun r t2 hr => wpAny_bind (wpAny_holding (wpAny_point (wpAny_pure hr)))) fun _ _ z => z)
end
section
variable {X : Cx} {e e2 : Expr} {ta : TA} {p pos tpos cp kp : Pos} {elts : List Expr} {kk k : Nat}
def iZs (K : PySem.W.Frag) (ta : TA) : TI := fun σ H R => ta σ H fun vs H1 => ∃ a b xs ys, vs = [V.ref a, V.ref b] ∧ SqT K H1 a xs ∧ SqT K H1 b ys ∧ R (ItZs K a b) H1
theorem pi_zs (hg : Gl X "zip") (hm : X.mg "zip" = none) (ha : PA X [e, e2] ta) (hs : starEach [e, e2] X.env = (false, eval e X.env) :: starEach [e2] X.env := by rfl) (hpl : (backTo pos (starEach [e, e2] X.env)).any (·.1) = false := by rfl)
    (hk1 : (backToKw pos (keywordEach [⟨some "strict", .Constant (.bool true) k cp, kp⟩] X.env)).any (·.1.isNone) = false := by rfl) (hk2 : (backToKw pos (keywordEach [⟨some "strict", .Constant (.bool true) k cp, kp⟩] X.env)).all (·.1.isSome) = true := by rfl)
    (hk3 : (backToKw pos (keywordEach [⟨some "strict", .Constant (.bool true) k cp, kp⟩] X.env)).filterMap (·.1) = [Str.ofString "strict"] := by rfl) :
    PI X (.Tuple elts kk tpos) (.Call (.Name "zip" p) [e, e2] [⟨some "strict", .Constant (.bool true) k cp, kp⟩] pos) (iZs X.K ta) := by
  refine ⟨fun pins s σ H R I h => ?_⟩
  refine wpAny_Call_Name_kw (ld_blt I hg hm PyProof.Rows.boot_zip (callWith_tyKw hpl hk1 ?_))
  have hA := ha.run pos pins s σ H _ I h
  rw [hs] at hA ⊢
  refine evalArgs_kwB hk2 (thn hA fun us s1 ⟨vs, H1, I1, r1, a, b, xs, ys, ex, qx, qy, q⟩ => ?_)
  subst ex
  rw [hk3]
  refine thn ((pk_cons (nm := some "strict") (kpos := kp) (pe_bl (b := true) (j := k) (pos := cp)) pk_nil).run pos pins s1 σ H1 (fun zs H2 => zs = [V.bl true] ∧ H2 = H1) I1 ⟨rfl, rfl⟩) fun ws s2 ⟨zs, H2, I2, rz, ez, eH⟩ => ?_
  subst ez eH
  obtain ⟨w1, rfl, rw1⟩ := rz.one
  cases rw1
  obtain ⟨u1, u2, rfl, ra, rb⟩ := r1.two
  cases ra
  cases rb
  obtain ⟨us1, rv, p1, _⟩ := I2.tuple qx
  obtain ⟨us2, rv2, p2, _⟩ := I2.tuple qy
  obtain ⟨o1, ho1, _⟩ := id p1
  obtain ⟨o2, ho2, _⟩ := id p2
  refine zs_call (show s2.heap.IsTuple a us1.toArray from p1) (show s2.heap.IsTuple b us2.toArray from p2) fun g hz hI hO h1 h2 hk => zs_iter hz ?_
  have I3 : Inv X pins σ H2 { s2 with heap := g } := I2.kept (t' := s2.toks) hk
  refine ⟨s2.heap.objs.size + 4, [s2.heap.objs.size + 4, s2.heap.objs.size + 2, s2.heap.objs.size + 3, s2.heap.objs.size, s2.heap.objs.size + 1], _, _, H2, rfl, I3, turn_zs (PySem.W.ktu_apart s2.heap.objs.size a b (Heap.lt_size ho1) (Heap.lt_size ho2)), ⟨hz, hI, ⟨_, _, hO⟩, h1, h2⟩, fun c hc => ?_, q⟩
  have le : s2.heap.objs.size ≤ c := by
    simp only [List.mem_cons, List.not_mem_nil, or_false] at hc
    rcases hc with rfl | rfl | rfl | rfl | rfl <;> omega
  exact I2.fpOk le (I2.hok.fresh le)
end
/-- the pairs of two tuples of one length -/
def zsM (ds : List D) (w : W) : Res ItD := match ds with
  | [x, y] => (match tupD x, tupD y with
    | some xs, some ys => if xs.length = ys.length then .ok ⟨(xs.zip ys).map fun p => .tup [p.1, p.2], always⟩ w else .bad
    | _, _ => .bad)
  | _ => .bad
theorem tup_stay {K : PySem.W.Frag} {I : List Addr} {F : Hp} {d : D} {v : V} {xs : List D} (h : RepV K I F d v) (e : tupD d = some xs) : ∃ a vs, v = .ref a ∧ SqT K F a vs ∧ RepL K I F xs vs := by
  cases d <;> simp only [tupD, Option.some.injEq, reduceCtorEq] at e <;> simp only [RepV] at h
  case tup => subst e; obtain ⟨a, vs, h0, h1, h2⟩ := h; exact ⟨a, vs, h0, .of h1, h2⟩
  case ktp => subst e; obtain ⟨a, vs, h0, h1, h2⟩ := h; exact ⟨a, vs, h0, h1, h2⟩
theorem ji_zs {S : Stat} {e e2 : Expr} {ma : MA} {p pos tpos cp kp : Pos} {elts : List Expr} {kk k : Nat} (hg : S.sc.names.lookup ("zip" : Str) = some .globalImplicit) (hm : S.mg "zip" = none) (ha : JA S [e, e2] ma)
    (hs : ∀ env : Env, starEach [e, e2] env = (false, eval e env) :: starEach [e2] env := by intro _; rfl) (hpl : ∀ env : Env, (backTo pos (starEach [e, e2] env)).any (·.1) = false := by intro _; rfl) :
    JI S (.Tuple elts kk tpos) (.Call (.Name "zip" p) [e, e2] [⟨some "strict", .Constant (.bool true) k cp, kp⟩] pos) (iArg zsM ma) := fun X E cx xo =>
  pi_weak (pi_zs (by show X.env.scope.names.lookup _ = _; rw [cx.sc]; exact hg) (by rw [cx.mg]; exact hm) (ha X E cx xo) (hs X.env) (hpl X.env)) fun σ H R ⟨I, F, G, ds, w, rel, rs, p⟩ => lowA_bind (f := fun _ => zsM) rel rs p fun I1 F1 H1 xs w1 vs e1 rel1 rs1 rv p1 => by
    unfold zsM at p1
    split at p1
    · rename_i x y
      obtain ⟨v, u, rfl, rx, ry⟩ := rv.two
      split at p1
      · rename_i xs ys hx hy
        split at p1
        · rename_i hl
          obtain ⟨a, us, rfl, q1, q2⟩ := tup_stay rx hx
          obtain ⟨b, ts, rfl, q3, q4⟩ := tup_stay ry hy
          refine ⟨a, b, us, ts, rfl, rel1.sqT q1, rel1.sqT q3, p1 I1 F1 H1 .refl rel1 trivial _ fun I' F' G' w' H' j e' rel' _ => ?_⟩
          have t1 := rel'.sqT (sqT_ext e' q1)
          have t2 := rel'.sqT (sqT_ext e' q3)
          have r1 := RepL.ext e' _ _ q2
          have r2 := RepL.ext e' _ _ q4
          have l1 : xs.length = us.length := r1.length
          have l2 : ys.length = ts.length := r2.length
          refine ⟨fun x hx => ?_, fun hj => ⟨us, ts, t1, t2, ?_, ?_⟩⟩
          · rw [List.getElem?_map] at hx
            cases hz : (xs.zip ys)[j]? with
            | none => rw [hz] at hx; cases hx
            | some pr =>
              rw [hz] at hx
              cases hx
              obtain ⟨pa, pb⟩ := pr
              rw [List.getElem?_zip_eq_some] at hz
              obtain ⟨v1, g1, g2⟩ := r1.get hz.1
              obtain ⟨v2, g3, g4⟩ := r2.get hz.2
              refine ⟨⟨us, ts, v1, v2, t1, t2, g1, g3⟩, fun v H'' y => ?_⟩
              obtain ⟨T, x', y', rfl, k1, rfl, k2, k3⟩ := y
              have z1 := k2 us t1
              have z2 := k3 ts t2
              rw [g1] at z1
              rw [g3] at z2
              cases z1
              cases z2
              exact fresh_tup rel' (RepL.cons g2 (RepL.cons g4 (by simp [RepL]))) k1
          · simp only [List.length_map, List.length_zip] at hj; omega
          · simp only [List.length_map, List.length_zip] at hj; omega
        · exact p1.elim
      · exact p1.elim
    · exact p1.elim
end Pc

set_option Elab.async false
set_option linter.all false
set_option maxRecDepth 100000
set_option maxHeartbeats 4000000
set_option autoImplicit false
/-! Pc, part T: the module's constants and tables, checked. -/
namespace Pc
open PySem PySem.Spec PyProof.Rows L2

def atomB : D → Value → Bool
  | .non, .none => true
  | .bl b, .bool c => b == c
  | .int i, .int j _ => decide (i = j)
  | .str x, .str y _ => decide (x = y)
  | _, _ => false
def atomV : D → V
  | .bl b => .bl b
  | .int i => .int i
  | .str x => .str x
  | _ => .non
theorem atomB_ok {d : D} {u : Value} (h : atomB d u = true) : RelV (atomV d) u ∧ ∀ K I F, RepV K I F d (atomV d) := by
  cases d <;> cases u <;> simp only [atomB, Bool.false_eq_true, beq_iff_eq, decide_eq_true_eq] at h
  · exact ⟨rfl, fun _ _ _ => by simp [RepV, atomV]⟩
  · subst h; exact ⟨rfl, fun _ _ _ => by simp [RepV, atomV]⟩
  · subst h; exact ⟨⟨_, rfl⟩, fun _ _ _ => by simp [RepV, atomV]⟩
  · subst h; exact ⟨⟨_, rfl⟩, fun _ _ _ => by simp [RepV, atomV]⟩
def atomsB : List D → List Value → Bool
  | [], [] => true
  | d :: ds, u :: us => atomB d u && atomsB ds us
  | _, _ => false
theorem atomsB_ok : ∀ {ds : List D} {us : List Value}, atomsB ds us = true → Vals (ds.map atomV) us ∧ ∀ K I F, RepL K I F ds (ds.map atomV)
  | [], [], _ => ⟨.nil, fun _ _ _ => by simp [RepL]⟩
  | d :: ds, u :: us, h => by
    simp only [atomsB, Bool.and_eq_true] at h
    obtain ⟨h1, h2⟩ := atomB_ok h.1
    obtain ⟨h3, h4⟩ := atomsB_ok h.2
    exact ⟨.cons h1 h3, fun K I F => RepL.cons (h2 K I F) (h4 K I F)⟩
  | [], _ :: _, h => by simp [atomsB] at h
  | _ :: _, [], h => by simp [atomsB] at h
def constB (K : PySem.W.Frag) (d : D) (u : Value) : Bool := match d, u with
  | .ktp ds, .ref a => (match K.lookup a with
    | some ⟨.type c, _, .seq its _, _⟩ => decide (c = "tuple") && (decide (its.size ≤ sizeLine) && atomsB ds its.toList)
    | _ => false)
  | .con a, .ref b => decide (a = b)
  | d, u => atomB d u
theorem constB_ok {K : PySem.W.Frag} {d : D} {u : Value} (h : constB K d u = true) : ∃ v, RelV v u ∧ ∀ I F, RepV K I F d v := by
  unfold constB at h
  split at h
  · rename_i ds a
    split at h
    · rename_i c od its n sl hl
      simp only [Bool.and_eq_true, decide_eq_true_eq] at h
      obtain ⟨rfl, h2, h3⟩ := h
      obtain ⟨h4, h5⟩ := atomsB_ok h3
      refine ⟨.ref a, rfl, fun I F => ?_⟩
      simp only [RepV]
      exact ⟨a, _, rfl, .inr ⟨_, its, n, hl, rfl, rfl, h2, h4⟩, h5 K I F⟩
    · cases h
  · rename_i a b
    simp only [decide_eq_true_eq] at h
    subst h
    exact ⟨.ref a, rfl, fun I F => by simp [RepV]⟩
  · obtain ⟨h1, h2⟩ := atomB_ok h
    exact ⟨_, h1, h2 K⟩
/-- a name of the module: what it stands for -/
def Glo (S : Stat) (x : Str) (d : D) : Prop := ∃ v u, S.mg x = some u ∧ RelV v u ∧ ∀ I F, RepV S.K I F d v
theorem je_gl {S : Stat} {x : Str} {d : D} {pos : Pos} (G : Glo S x d) (hg : S.sc.names.lookup x = some .globalImplicit := by rfl) (hd : (x == ("__debug__" : Str)) = false := by decide) : JE S (.Name x pos) (eC d) := by
  obtain ⟨v, u, h1, h2, h3⟩ := G
  exact je_glob hg h1 h2 h3 hd
def gloB (K : PySem.W.Frag) (x : Str) (d : D) : Bool := match PySem.W.nsIn K mainGlobals x with
  | some (some u) => constB K d u
  | _ => false
theorem gloB_ok {S : Stat} {h : Heap} {x : Str} {d : D} (kin : S.K.In h) (ns : h.Ns mainGlobals S.mg) (c : gloB S.K x d = true) : Glo S x d := by
  unfold gloB at c
  split at c
  · rename_i u hu
    obtain ⟨v, h1, h2⟩ := constB_ok c
    exact ⟨v, u, PySem.W.mg_of kin ns hu, h1, h2⟩
  · cases c
def ktabB (K : PySem.W.Frag) (a : Addr) (tab : List (Str × Option D)) : Bool := tab.all fun p => match p.2 with
  | some d => (match PySem.W.nsIn K a p.1 with
    | some (some u) => constB K d u
    | _ => false)
  | none => He.eqO (PySem.W.nsIn K a p.1) (some none)
theorem lookup_mem {α : Type} {k : Str} {x : α} : ∀ {l : List (Str × α)}, l.lookup k = some x → (k, x) ∈ l
  | [], h => by simp at h
  | (j, y) :: r, h => by
    simp only [List.lookup] at h
    split at h
    · rename_i e
      cases h
      rw [beq_iff_eq] at e
      subst e
      exact List.mem_cons_self ..
    · exact List.mem_cons_of_mem _ (lookup_mem h)
theorem ktabB_ok {K : PySem.W.Frag} {w : World} {a : Addr} {tab : List (Str × Option D)} (ex : ∃ es n, KDict K w a es n) (c : ktabB K a tab = true) : KTab K w a tab := by
  unfold ktabB at c
  rw [List.all_eq_true] at c
  refine ⟨ex, fun z x h => ?_, fun z h => ?_⟩
  · have := c _ (lookup_mem h)
    dsimp only at this
    split at this
    · rename_i u hu
      obtain ⟨v, h1, h2⟩ := constB_ok this
      exact ⟨u, v, hu, h1, h2⟩
    · cases this
  · exact He.eqO_ok (c _ (lookup_mem h))
end Pc

set_option Elab.async false
set_option linter.all false
set_option maxRecDepth 100000
set_option maxHeartbeats 4000000
set_option autoImplicit false
/-! Pc, part U: keyword-only parameters; blocks checked. -/
namespace Pc
open PySem PySem.Spec PyProof.Rows L2
/-- values by places: 0, by position; 1, by keyword; 2, defaults -/
def pick3 {α : Type} (is : List (Nat × Nat)) (us ws mv : List α) : List α := is.filterMap fun p => match p.1 with
  | 0 => us[p.2]?
  | 1 => ws[p.2]?
  | _ => mv[p.2]?
theorem pick3_vals (is : List (Nat × Nat)) {vs zs ms : List V} {us ws mv : List Value} (h1 : Vals vs us) (h2 : Vals zs ws) (h3 : Vals ms mv) : Vals (pick3 is vs zs ms) (pick3 is us ws mv) := by
  induction is with
  | nil => exact .nil
  | cons p is ih =>
    obtain ⟨b, i⟩ := p
    unfold pick3 at ih ⊢
    match b with
    | 0 =>
      rcases Vals.at? h1 i with ⟨e1, e2⟩ | ⟨v, u, e1, e2, r⟩
      · simpa [List.filterMap_cons, e1, e2] using ih
      · simpa [List.filterMap_cons, e1, e2] using (show Vals (v :: _) (u :: _) from .cons r ih)
    | 1 =>
      rcases Vals.at? h2 i with ⟨e1, e2⟩ | ⟨v, u, e1, e2, r⟩
      · simpa [List.filterMap_cons, e1, e2] using ih
      · simpa [List.filterMap_cons, e1, e2] using (show Vals (v :: _) (u :: _) from .cons r ih)
    | n + 2 =>
      rcases Vals.at? h3 i with ⟨e1, e2⟩ | ⟨v, u, e1, e2, r⟩
      · simpa [List.filterMap_cons, e1, e2] using ih
      · simpa [List.filterMap_cons, e1, e2] using (show Vals (v :: _) (u :: _) from .cons r ih)
theorem pick3_rep (is : List (Nat × Nat)) {K : PySem.W.Frag} {I : List Addr} {F : Hp} {xs zs ms : List D} {vs us mv : List V} (h1 : RepL K I F xs vs) (h2 : RepL K I F zs us) (h3 : RepL K I F ms mv) : RepL K I F (pick3 is xs zs ms) (pick3 is vs us mv) := by
  induction is with
  | nil => simp [pick3, RepL]
  | cons p is ih =>
    obtain ⟨b, i⟩ := p
    unfold pick3 at ih ⊢
    match b with
    | 0 =>
      rcases RepL.at? h1 i with ⟨e1, e2⟩ | ⟨v, u, e1, e2, r⟩
      · simpa [List.filterMap_cons, e1, e2] using ih
      · simpa [List.filterMap_cons, e1, e2] using RepL.cons r ih
    | 1 =>
      rcases RepL.at? h2 i with ⟨e1, e2⟩ | ⟨v, u, e1, e2, r⟩
      · simpa [List.filterMap_cons, e1, e2] using ih
      · simpa [List.filterMap_cons, e1, e2] using RepL.cons r ih
    | n + 2 =>
      rcases RepL.at? h3 i with ⟨e1, e2⟩ | ⟨v, u, e1, e2, r⟩
      · simpa [List.filterMap_cons, e1, e2] using ih
      · simpa [List.filterMap_cons, e1, e2] using RepL.cons r ih
theorem bind_kwo {K : PySem.W.Frag} {x qual : Str} {params : Arguments} {body : List Stmt} {scope : Scope} {kws : List (Str × V)} {f : Addr} {fd : FuncData} {ps : List Str} (F : FunD K x qual params body scope [] kws f fd) (n : Nat) (ks : List Str) (ms : List (Str × V)) (mds : List D) (is : List (Nat × Nat))
    (hk : kws ≠ []) (hms : ∀ q ∈ ms, q ∈ kws) (hmd : ∀ I F', RepL K I F' mds (ms.map (·.2)))
    (h : ∀ (D : Addr) (doc pm : Value) (an : Option Addr) (cdv ct : Value) (us mv ws : List Value), us.length = n → mv.length = ms.length → ws.length = ks.length →
      KwChain D ((ms.map (·.1)).zip mv) (bindArgs (PySem.W.fnOf x qual params body scope .none (.ref D) doc pm an cdv ct) ⟨us, ks.zip ws⟩) (ps.zip (pick3 is us ws mv)))
    (hlen : ∀ xs zs : List D, xs.length = n → zs.length = ks.length → (pick3 is xs zs mds).length = ps.length) : BindG K fd ps n ks fun xs zs => pick3 is xs zs mds := by
  obtain ⟨mv, kb⟩ := F.kbinds0 n ks ms (fun us mv ws => pick3 is us ws mv) hk hms (fun h1 h2 h3 => pick3_vals is h1 h3 h2) h
  exact ⟨⟨_, _, kb, fun I F' xs vs zs us h1 h2 => pick3_rep is h1 h2 (hmd I F')⟩, hlen⟩
/-- a default of a keyword-only parameter, an object -/
def kwAt (f : Str × Option Str) (x : Str) (K : PySem.W.Frag) : Addr := match K.lookup (He.fAd K f) with
  | some ⟨_, _, .func fd, _⟩ => (match fd.kwdefaults with
    | .ref d => (match PySem.W.nsIn K d x with
      | some (some (.ref a)) => a
      | _ => 0)
    | _ => 0)
  | _ => 0
section
variable {S : Stat} {k n j : Nat} {f C : Addr} {fd : FuncData} {ps ks : List Str} {m : MF} {gd : List D → List D → List D} {x : Str} {p pos kpos : Pos} {e : Expr} {es : List Expr} {kws : List Keyword} {ma mk : MA}
theorem jmk (hk : k + 1 ≤ S.k) (M : Mk S.K C f) (Gf : FnG S.P S.w S.K S.mg S.base k f fd ps m) (B : BindG S.K fd ps (n + 1) ks gd) (hg : S.sc.names.lookup x = some .globalImplicit) (hm : S.mg x = some (.ref C)) (ha : JA S (e :: es) ma) (hkw : JK S kws mk) (hj : ks.length = j := by rfl)
    (hall : ∀ env : Env, (backToKw pos (keywordEach kws env)).all (·.1.isSome) = true := by intro _; rfl) (hks : ∀ env : Env, (backToKw pos (keywordEach kws env)).filterMap (·.1) = ks := by intro _; rfl)
    (hdb : (x == ("__debug__" : Str)) = false := by decide) (he : ∀ env : Env, starEach (e :: es) env = (false, eval e env) :: starEach es env := by intro _; rfl)
    (hpl : ∀ env : Env, ((backTo pos (starEach (e :: es) env)).any (·.1) || (backToKw pos (keywordEach kws env)).any (·.1.isNone)) = false := by intro _; rfl) :
    JE S (.Call (.Name x p) (e :: es) kws pos) (eMakeK C m n j gd ma mk) := by subst hj; exact je_makeK hk M Gf B hg hm ha hkw hall hks hdb he hpl
end
theorem swp {S : Stat} {e : Expr} {t : Expr} {ln : Nat} (h : ∀ env : Env, env.scope = S.sc → env.scope.kind = .function → swapsWith e (some t) ln env = pure true) : ∀ env : Env, env.scope = S.sc → env.scope.kind = .function → swapsWith e (some t) ln env = pure true := h
end Pc

set_option Elab.async false
set_option linter.all false
set_option maxRecDepth 100000
set_option maxHeartbeats 4000000
set_option autoImplicit false
/-! Pc, part V: a, b = x, y; chains as tests. -/
namespace Pc
open PySem PySem.Spec PyProof.Rows L2
theorem jt_chain {S : Stat} {pos : Pos} {a b c : Expr} {ma mb mc : ME} {f g : D → D → W → Res D} {op op' : CmpOp} (ho : O2 S (compareOp op) f) (ho' : O2 S (compareOp op') g) (ha : JE S a ma) (hb : JE S b mb) (hc : JE S c mc) (hm : lastMarks [op, op'] [b, c] = false := by with_unfolding_all rfl) :
    JT S (.Compare a [op, op'] [b, c] pos) (tVal (eCh f g ma mb mc)) := fun X E cx xo => pt_weak (pt_chain (ho X E cx xo) (ho' X E cx xo) (ha X E cx xo) (hb X E cx xo) (hc X E cx xo) hm) fun σ H Q ⟨I, F, G, ds, w, rel, rs, p⟩ => by
    show tChain _ _ _ _ _ σ H fun x H' => ∃ k, x = .bl k ∧ Q k H'
    refine low_ch ⟨I, F, G, ds, w, rel, rs, (Post.bind p).mono fun I1 F1 H1 x w1 _ e1 rel1 p1 v rv => ?_⟩
    cases x <;> first | exact p1.elim | skip
    simp only [RepV] at rv
    exact ⟨_, rv, p1 I1 F1 H1 .refl rel1⟩
/-- no swap: a target that is no plain name -/
theorem fm_one {f : Expr → Option Str} {t1 t2 : Expr} (h : f t1 = none ∨ f t2 = none) : (([t1, t2].filterMap f).length != 2) = true := by
  have : ([t1, t2].filterMap f).length ≤ 1 := by
    rcases h with h | h
    · rw [List.filterMap_cons, h]
      exact Nat.le_trans (List.length_filterMap_le ..) (Nat.le_refl 1)
    · rw [List.filterMap_cons]
      split
      · exact Nat.le_trans (List.length_filterMap_le ..) (Nat.le_refl 1)
      · rw [List.filterMap_cons, h]; exact Nat.le_refl 1
  simp; omega
theorem sw_no2 {o1 i1 t2 v1 v2 : Expr} {q : Pos} {k k2 : Nat} {p p2 : Pos} (env : Env) : swappedStores [.Tuple [.Subscript o1 i1 q, t2] k p] (.Tuple [v1, v2] k2 p2) env = pure none := by
  unfold swappedStores
  simp only [List.length_cons, List.length_nil, Nat.zero_add, Nat.reduceAdd, beq_self_eq_true, Bool.true_or, Bool.not_true, bne_self_eq_false, Bool.false_or]
  cases hb : (env.blockKind != .function) with
  | true => rfl
  | false =>
    simp only [Bool.false_eq_true, if_false]
    split
    · rfl
    · rename_i h1
      split
      · rfl
      · rename_i h2
        exfalso
        apply h2
        rw [Bool.or_eq_true]
        exact .inl (fm_one (.inl rfl))
theorem sw_par {x y : Str} {a b : Expr} {px py pt pt2 : Pos} {kt k2 : Nat} {env : Env} (hk : env.scope.kind = .function) (hx : env.scope.names.lookup x = some .local) (hy : env.scope.names.lookup y = some .local) (hl : (py.line == px.line) = true) (hxy : x ≠ y)
    (h1 : ∀ v p, a ≠ .Starred v p) (h2 : ∀ v p, b ≠ .Starred v p) (hf : ([a, b].all (foldedForSure 8)) = false) (hc : ([a, b].all (constantsAlone 8)) = false) : swappedStores [.Tuple [.Name x px, .Name y py] kt pt] (.Tuple [a, b] k2 pt2) env = pure (some [x, y]) := by
  have kx : env.kindOf x = some .local := hx
  have ky : env.kindOf y = some .local := hy
  have hb : env.blockKind = .function := by unfold Env.blockKind; rw [hk]; rfl
  have st : ∀ f : Expr → Bool, (∀ e, f e = true → ∃ v p, e = .Starred v p) → ([a, b].any f) = false := fun f h => by
    rw [List.any_eq_false]
    intro e he z
    obtain ⟨v, p, rfl⟩ := h e z
    simp only [List.mem_cons, List.not_mem_nil, or_false] at he
    rcases he with rfl | rfl
    · exact h1 _ _ rfl
    · exact h2 _ _ rfl
  unfold swappedStores
  have lx : (px.line == px.line) = true := beq_self_eq_true _
  have nxy : (y == x) = false := beq_eq_false_iff_ne.mpr (Ne.symm hxy)
  have dup : ([x, y].eraseDups).length = 2 := by
    rw [List.eraseDups_cons, List.filter_cons, nxy]
    rfl
  simp only [hb, List.length_cons, List.length_nil, Nat.zero_add, Nat.reduceAdd, beq_self_eq_true, Bool.true_or, Bool.not_true, bne_self_eq_false, Bool.false_or, Bool.false_eq_true, if_false, List.filterMap_cons, kx, ky, List.head?_cons, Option.map_some, Option.getD_some, Expr.pos, lx, hl, Bool.and_self, if_true, List.filterMap_nil, hf, hc, dup]
  split
  · rename_i z
    rw [st] at z
    · cases z
    · intro e he
      split at he
      · exact ⟨_, _, rfl⟩
      · cases he
  · rfl
def sPar (i j : Nat) (ma : MA) : MS := fun σ w => (ma σ w).bind fun xs w1 => match xs with
  | [u, v] => .ok (.nx ((σ.set i (some u)).set j (some v))) w1
  | _ => .bad
theorem js_par {S : Stat} (i j : Nat) {x y : Str} {a b : Expr} {ma : MA} {px py pt pt2 pos : Pos} {kt k2 : Nat} (ha : JA S [a, b] ma) (hi : S.N[i]? = some x := by rfl) (hj : S.N[j]? = some y := by rfl) (hij : i ≠ j := by decide) (hx : S.sc.names.lookup x = some .local := by rfl) (hy : S.sc.names.lookup y = some .local := by rfl)
    (hk : S.sc.kind = .function := by rfl) (hl : (py.line == px.line) = true := by rfl) (hxy : x ≠ y := by decide) (h1 : ∀ v p, a ≠ .Starred v p := by intro _ _ h; cases h) (h2 : ∀ v p, b ≠ .Starred v p := by intro _ _ h; cases h) (hf : ([a, b].all (foldedForSure 8)) = false := by rfl) (hc : ([a, b].all (constantsAlone 8)) = false := by rfl)
    (hs : ∀ env : Env, swapsWithSole [.Tuple [.Name x px, .Name y py] kt pt] (.Tuple [a, b] k2 pt2) pos.line env = pure false := by intro _; rfl) : JS S (.Assign [.Tuple [.Name x px, .Name y py] kt pt] (.Tuple [a, b] k2 pt2) pos) (sPar i j ma) := fun X E cx xo =>
  ps_weak (ps_par (i := i) (j := j) cx.calm cx.nd (by rw [cx.N]; exact hi) (by rw [cx.N]; exact hj) hij (by rw [cx.sc]; exact hx) (by rw [cx.sc]; exact hy) (ha X E cx xo) (sw_par (by rw [cx.sc]; exact hk) (by rw [cx.sc]; exact hx) (by rw [cx.sc]; exact hy) hl hxy h1 h2 hf hc) (hs X.env)) fun Z σ H ⟨I, F, G, ds, w, rel, rs, p⟩ =>
    lowA_bind (f := fun ds xs w1 => match xs with
      | [u, v] => Res.ok (Fl.nx ((ds.set i (some u)).set j (some v))) w1
      | _ => .bad) rel rs p fun I1 F1 H1 xs w1 vs e1 rel1 rs1 rv p1 => by
      split at p1
      · obtain ⟨v, u, rfl, r1, r2⟩ := rv.two
        exact ⟨v, u, rfl, p1 I1 F1 H1 .refl rel1 _ ((rs1.set i r1).set j r2)⟩
      · exact p1.elim
end Pc

set_option Elab.async false
set_option linter.all false
set_option maxRecDepth 100000
set_option maxHeartbeats 4000000
set_option autoImplicit false
/-! Pc, part W: a name that a comprehension is given to. -/
namespace Pc
open PySem PySem.Spec PyProof.Rows L2
section
variable {S : Stat} {elt tg iter : Expr} {ifs : List Expr} {scope : Scope} {pos py spos : Pos} {y : Str} {mi : MI} {g : MG} {t : MT} {me : ME} {own : List (Str × Nat)}
theorem jsc (i : Nat) (hi : JI S tg iter mi) (hb : blkC S.N S.sc scope own = true) (hg : JC (S.blk scope) (own.map (·.2)) tg g) (ht : JTs (S.blk scope) ifs t) (he : JE (S.blk scope) elt me)
    (hy : S.N[i]? = some y := by rfl) (hyl : S.sc.names.lookup y = some .local := by rfl) (hl : (py.line == pos.line) = true := by rfl) (ha : (scope.names.any fun (n, k) => n == y && (k == .local || k == .cell)) = false := by rfl)
    (hk : S.sc.kind = .function := by rfl) (hs : ∀ (env : Env) x, foldedSetIterable iter env x = pure x := by intro _ _; rfl) : JS S (.Assign [.Name y py] (.ListComp elt [⟨tg, iter, ifs, 0⟩] scope pos) spos) (sAsg (eComp mi (own.map (·.2)) g t me) (gNm i)) :=
  js_setComp hy hyl (fun env e k => sw_true k (by rw [e]; exact hyl) hl ha) hi hb hg ht he hk hs
theorem jscN (i : Nat) (hi : JI S tg iter mi) (hb : blkC S.N S.sc scope own = true) (hg : JC (S.blk scope) (own.map (·.2)) tg g) (ht : JTs (S.blk scope) ifs t) (he : JE (S.blk scope) elt me)
    (hy : S.N[i]? = some y := by rfl) (hyl : S.sc.names.lookup y = some .local := by rfl) (hl : (py.line == pos.line) = true := by rfl) (ha : (scope.names.any fun (n, k) => n == y && (k == .local || k == .cell)) = false := by rfl)
    (hk : S.sc.kind = .function := by rfl) (hs : ∀ (env : Env) x, foldedSetIterable iter env x = pure x := by intro _ _; rfl) : JS S (.Assign [.Name y py] (.ListComp elt [⟨tg, iter, ifs, 0⟩] scope pos) spos) (sAsg (eCompN mi (own.map (·.2)) g t me) (gNm i)) :=
  js_setCompN hy hyl (fun env e k => sw_true k (by rw [e]; exact hyl) hl ha) hi hb hg ht he hk hs
end
end Pc

set_option Elab.async false
set_option linter.all false
set_option maxRecDepth 100000
set_option maxHeartbeats 4000000
set_option autoImplicit false
/-! Pc, part X: len of an instance, by its own def; methods of instances. -/
namespace Pc
open PySem PySem.Spec PyProof.Rows L2
/-- len(x): of an instance of the class at C by its def m -/
def lenI (C : Addr) (m : MF) : MF := fun ds w => match ds with
  | [.ref i] => (match w[i]? with
    | some (.ins C' _) => if C' = C then (m [.ref i] w).bind fun d w1 => (match d with
        | .int n => if 0 ≤ n ∧ n < 2 ^ 62 then .ok (.int n) w1 else .bad
        | _ => .bad) else .bad
    | _ => lenM [.ref i] w)
  | _ => lenM ds w
section
variable {S : Stat} {k n : Nat} {f C : Addr} {fd : FuncData} {ps ks : List Str} {m : MF} {gd : List D → List D → List D}
theorem cb_lenI (hk : k + 1 ≤ S.k) (cl : Cls S.K C) (hs : Meth S.K C "__len__" f) (Gf : FnG S.P S.w S.K S.mg S.base k f fd ps m) (B : BindG S.K fd ps 1 [] gAll) : CB S (.builtin "len") (lenI C m) :=
  fun X E cx xo pins s σ H vs us Q J r ⟨I, F, G, ds, w, rel, rl, p⟩ => by
    have old : ∀ {ds : List D}, RepL X.K I F ds vs → Post X.K I F G E (RV X.K Q) (lenM ds w) → wpAny (model X.prog X.w) X.A (call (.builtin "len") us) (EP X pins σ Q) X.xe s := fun rl p => (cb_len (S := S)) X E cx xo pins s σ H vs us Q J r ⟨I, F, G, _, w, rel, rl, p⟩
    unfold lenI at p
    split at p
    · rename_i i
      split at p
      · rename_i C' fs hw
        split at p
        · rename_i hC
          subst hC
          obtain ⟨v, rfl, rv⟩ := rl.one
          obtain ⟨u, rfl, ru⟩ := vals1 r
          have rv0 := rv
          simp only [RepV] at rv
          obtain ⟨a, rfl, hi⟩ := rv
          obtain rfl : u = Value.ref a := ru
          obtain ⟨ob, hu, dx, rr, rfl, hr⟩ := rel.ob i a _ hi hw
          obtain ⟨mA, O, _, _, _, _⟩ := ins_get J.hok hu
          obtain ⟨od, IA, _⟩ := O.look
          have Gf' : FnG X.prog X.w X.K X.mg X.base k f fd ps m := by rw [cx.P, cx.w, cx.K, cx.mg, cx.base]; exact Gf
          have hs' : Meth X.K C' "__len__" f := by rw [cx.K]; exact hs
          obtain ⟨⟨g, gV, kb, rep⟩, _⟩ : BindG X.K fd ps 1 [] gAll := by rw [cx.K]; exact B
          have r1 : Vals [V.ref a] [Value.ref a] := .cons rfl .nil
          have r2 := kb.rel r1 (.nil : Vals [] [])
          have r3 := rep I F [.ref i] [.ref a] [] [] rl (by simp [RepL])
          have hl : (gV [V.ref a] []).length = ps.length := by
            rw [← r3.length]
            exact B.len [.ref i] [] rfl rfl
          have room : Room k X.A.in1 := (cx.room.mono hk).in1
          have pp : Post X.K I F G E (RV X.K fun v H2 => ∃ n : Int, v = .int n ∧ 0 ≤ n ∧ n < 2 ^ 62 ∧ Q (.int n) H2) (m (gAll [.ref i] []) w) := by
            refine (Post.bind p).mono fun I1 F1 H1 d w1 _ e1 rel1 p1 v rv => ?_
            cases d <;> first | exact p1.elim | skip
            rename_i n hh
            simp only [RepV] at rv
            subst rv
            simp only [] at p1
            split at p1
            · rename_i hb
              exact ⟨n, rfl, hb.1, hb.2, p1.okE rel1 (by simp [RepV])⟩
            · exact p1.elim
          have run : wpAny (model X.prog X.w) X.A.in1 (call (.ref f) [.ref a]) (EP X pins σ fun v H2 => ∃ n : Int, v = .int n ∧ 0 ≤ n ∧ n < 2 ^ 62 ∧ Q (.int n) H2) X.xe s := by
            refine wpAny_call (codeAny_mono (Gf'.run X.A.in1 X.stack s H ⟨[.ref a], []⟩ (g [.ref a] []) (gV [.ref a] []) _ E room cx.gds J.env0.in1 (kb.to s [.ref a] [] J.kIn rfl rfl) r2 hl ⟨I, F, G, _, w, rel, r3, pp⟩) fun fl s' hq => ?_)
            cases fl with
            | error e => exact passes_call xo.tk (fun _ _ _ _ h => h) pins σ H s e s' J hq
            | ok fl =>
              cases fl with
              | ret u => exact J.after hq
              | next => exact hq.elim
              | brk => exact hq.elim
              | cont => exact hq.elim
          refine Calls.call_function_entry PySem.kind_len PySem.plain_len PySem.entry_len (PySem.args_len1 _) ?_
          unfold Builtin.«len»
          refine wpAny_bind (m := oneArg "len" _) (wpAny_pure ?_)
          refine wpAny_bind (m := callSpecial? (.ref a) (PySem.Str.ofString "__len__")) (PySem.W.special_fn J.kIn IA hs'.at_ (beq_iff_eq.mp hs'.fn) (wpAny_mono run (fun u s1 hq => ?_) fun _ _ y => y))
          obtain ⟨v, H2, J2, rv2, n, rfl, n0, n1, q⟩ := hq
          obtain ⟨t, rfl⟩ : ∃ t, u = Value.int n t := rv2
          refine wpAny_bind (wpAny_holding (wpAny_pure ?_))
          refine wpAny_bind (wpAny_letGo ?_)
          show wpAny _ _ (if n < 0 then _ else _) _ _ _
          rw [if_neg (by omega)]
          show wpAny _ _ (if n ≥ 2 ^ 63 then _ else _) _ _ _
          rw [if_neg (by omega)]
          exact wpAny_bind (wpAny_mkInt (wpAny_pure ⟨_, rfl, .int n, H2, J2.tok _, ⟨_, rfl⟩, q⟩))
        · exact p.elim
      · exact old rl p
    · exact old rl p
end
end Pc

set_option Elab.async false
set_option linter.all false
set_option maxRecDepth 100000
set_option maxHeartbeats 4000000
set_option autoImplicit false
/-! Pc, part Y: a tuple, so many times. -/
namespace Pc
open PySem PySem.Spec PyProof.Rows L2
theorem tuple_mulOne (l : Addr) (items : Array Value) (n : Nat) (dd : Option Addr) (sl : Array (Option Value)) (x : Int) (u : Tok) (c0 : (decide (x < -(2 ^ 63)) || decide (x ≥ 2 ^ 63)) = false) (c1 : (items.isEmpty || x == 1) = true) :
    Meets (Builtin.«tuple.__mul__» ⟨[.ref l, .int x u], []⟩) (fun _ R s => s.heap.get? l = some { cls := .type "tuple", dict := dd, data := .seq items n, slots := sl } ∧ R (.ok (.ret (Value.ref l))) s) :=
  .of_wp fun prog w A R s h => by
    obtain ⟨hp, g, d, tk, os⟩ := s
    obtain ⟨hl, h⟩ := h
    have f1 := AutoSeq1.idx_int
    wp_walk using wpAny_loadPart' hl
    repeat (first
      | (refine wpAny_ite_false (decide_eq_false (by rw [c0]; exact Bool.false_ne_true)) ?_; wp_walk using wpAny_loadPart' hl)
      | (refine wpAny_ite_true (decide_eq_true (by rw [c1])) ?_; wp_walk using wpAny_loadPart' hl))
    exact ⟨_, rfl, h⟩
theorem tuple_mulNil (l : Addr) (items : Array Value) (n : Nat) (dd : Option Addr) (sl : Array (Option Value)) (x : Int) (u : Tok) (c0 : (decide (x < -(2 ^ 63)) || decide (x ≥ 2 ^ 63)) = false) (c1 : (items.isEmpty || x == 1) = false) (c2 : (decide (x ≤ 0) || items.isEmpty) = true) :
    Meets (Builtin.«tuple.__mul__» ⟨[.ref l, .int x u], []⟩) (fun _ R s => s.heap.get? l = some { cls := .type "tuple", dict := dd, data := .seq items n, slots := sl } ∧
      R (.ok (.ret (Value.ref s.heap.objs.size))) { s with heap := s.heap.push { cls := Value.type "tuple", data := Data.seq #[] }, toks := s.toks }) :=
  .of_wp fun prog w A R s h => by
    obtain ⟨hp, g, d, tk, os⟩ := s
    obtain ⟨hl, h⟩ := h
    have f1 := AutoSeq1.idx_int
    wp_walk using wpAny_loadPart' hl
    repeat (first
      | (refine wpAny_ite_false (decide_eq_false (by rw [c0]; exact Bool.false_ne_true)) ?_; wp_walk using wpAny_loadPart' hl)
      | (refine wpAny_ite_false (decide_eq_false (by rw [c1]; exact Bool.false_ne_true)) ?_; wp_walk using wpAny_loadPart' hl)
      | (refine wpAny_ite_true (decide_eq_true (by rw [c2])) ?_; wp_walk using wpAny_loadPart' hl))
    exact ⟨_, rfl, h⟩
section
variable {X : Cx}
theorem op_repOne : OpR X (binaryOp .Mult) (fun x y H Q => ∃ l k xs, x = .ref l ∧ y = .int k ∧ SqT X.K H l xs ∧ (xs = [] ∨ k = 1) ∧ -1000 ≤ k ∧ k ≤ 1000 ∧ Q (.ref l) H) := by
  intro pins s σ H x y v u Q I rx ry h
  obtain ⟨l, k, xs, rfl, rfl, hT, hne, h1, h2, q⟩ := h
  cases rx
  obtain ⟨t, rfl⟩ := ry
  obtain ⟨its, r, ⟨⟨cls, dd, data, sl⟩, ho, hc, n, hd⟩, hs⟩ := I.tuple hT
  simp only at hc hd
  subst hc hd
  have hle : its.length = xs.length := r.length.symm
  have c0 : (decide (k < -(2 ^ 63)) || decide (k ≥ 2 ^ 63)) = false := by
    rw [decide_eq_false (by omega), decide_eq_false (by omega)] <;> rfl
  have c1 : (its.toArray.isEmpty || k == 1) = true := by
    rcases hne with rfl | rfl
    · have : its = [] := List.eq_nil_of_length_eq_zero hle
      subst this; rfl
    · simp
  refine wpAny_binaryOp_repeat_ref (T := "tuple") (U := "int") (by decide) ⟨_, ho, rfl⟩ (fun s' => typeIs_int s' k t) noFill_tuple_mul F.fills_int_mul F.slot_int_rmul repeat_tuple F.slot_int_index.lookup
    (call_meets F.slot_int_rmul (typeIs_int s k t) F.entry_int_rmul (F.args_int_rmul_2 _ _) (int_rmul_tuple k t l its.toArray n dd sl)
      ⟨ho, rfl, ⟨_, ho, rfl⟩, call_meets F.slot_tuple_mul ⟨_, ho, rfl⟩ F.entry_tuple_mul (F.args_tuple_mul_2 _ _) (tuple_mulOne l its.toArray n dd sl k t c0 c1) ⟨ho, ?_⟩⟩)
  exact ⟨.ref l, H, I, rfl, q⟩
theorem op_repNil : OpR X (binaryOp .Mult) (fun x y H Q => ∃ l k xs, x = .ref l ∧ y = .int k ∧ SqT X.K H l xs ∧ xs ≠ [] ∧ -1000 ≤ k ∧ k ≤ 0 ∧ ∀ p, H p = none → Q (.ref p) (upd H p (.tup []))) := by
  intro pins s σ H x y v u Q I rx ry h
  obtain ⟨l, k, xs, rfl, rfl, hT, hne, h1, h2, q⟩ := h
  cases rx
  obtain ⟨t, rfl⟩ := ry
  obtain ⟨its, r, ⟨⟨cls, dd, data, sl⟩, ho, hc, n, hd⟩, hs⟩ := I.tuple hT
  simp only at hc hd
  subst hc hd
  have hle : its.length = xs.length := r.length.symm
  have hn : its ≠ [] := fun e => hne (by
    rw [e] at hle
    exact List.eq_nil_of_length_eq_zero hle.symm)
  have hi : its.toArray.isEmpty = false := by
    cases its with
    | nil => exact absurd rfl hn
    | cons a b => rfl
  have c0 : (decide (k < -(2 ^ 63)) || decide (k ≥ 2 ^ 63)) = false := by
    rw [decide_eq_false (by omega), decide_eq_false (by omega)] <;> rfl
  have c1 : (its.toArray.isEmpty || k == 1) = false := by
    rw [hi, Bool.false_or]
    exact beq_eq_false_iff_ne.mpr (by omega)
  have c2 : (decide (k ≤ 0) || its.toArray.isEmpty) = true := by
    rw [decide_eq_true h2]; rfl
  refine wpAny_binaryOp_repeat_ref (T := "tuple") (U := "int") (by decide) ⟨_, ho, rfl⟩ (fun s' => typeIs_int s' k t) noFill_tuple_mul F.fills_int_mul F.slot_int_rmul repeat_tuple F.slot_int_index.lookup
    (call_meets F.slot_int_rmul (typeIs_int s k t) F.entry_int_rmul (F.args_int_rmul_2 _ _) (int_rmul_tuple k t l its.toArray n dd sl)
      ⟨ho, rfl, ⟨_, ho, rfl⟩, call_meets F.slot_tuple_mul ⟨_, ho, rfl⟩ F.entry_tuple_mul (F.args_tuple_mul_2 _ _) (tuple_mulNil l its.toArray n dd sl k t c0 c1 c2) ⟨ho, ?_⟩⟩)
  refine ⟨.ref s.heap.objs.size, _, I.laid (t' := s.toks) (o := .tup []) (fun b ob q => Heap.get?_push_of_some _ q) (Nat.le_refl _) ?_, rfl, q _ (I.hok.fresh (Nat.le_refl _))⟩
  exact ⟨Nat.zero_le _, [], .nil, IsTup.new _ _⟩
end
def mulT (x y : D) (w : W) : Res D := match x, y with
  | .tup a, .int k => if -1000 ≤ k ∧ k ≤ 1000 ∧ a.length ≤ 1000 then .ok (.tup (List.replicate k.toNat a).flatten) w else .bad
  | x, y => mulM x y w
theorem o2_mulT {S : Stat} : O2 S (binaryOp .Mult) mulT := low2_of fun X E c xo I F G d e w H x y Q rel rd re p => by
  unfold mulT at p
  split at p
  · rename_i a k
    split at p
    · rename_i hk
      simp only [RepV] at rd re
      obtain ⟨q, vs, rfl, h1, h2⟩ := rd
      subst re
      have hl := h2.length
      by_cases hA : vs = [] ∨ k = 1
      · refine ⟨_, op_repOne, q, k, vs, rfl, rfl, .of (rel.fz _ _ h1), hA, hk.1, hk.2.1, p.okE rel ?_⟩
        simp only [RepV]
        refine ⟨q, vs, rfl, h1, ?_⟩
        rcases hA with e | e
        · subst e
          have : a = [] := List.eq_nil_of_length_eq_zero hl
          subst this
          have : (List.replicate k.toNat ([] : List D)).flatten = [] := by simp
          rw [this]; exact h2
        · subst e
          simpa using h2
      · have hA' : vs ≠ [] ∧ k ≠ 1 := ⟨fun e => hA (.inl e), fun e => hA (.inr e)⟩
        by_cases h0 : k ≤ 0
        · refine ⟨_, op_repNil, q, k, vs, rfl, rfl, .of (rel.fz _ _ h1), hA'.1, hk.1, h0, ?_⟩
          have e : (List.replicate k.toNat a).flatten = [] := by
            have : k.toNat = 0 := by omega
            rw [this]; rfl
          rw [e] at p
          exact new_tup rel (by simp [RepL]) p
        · refine ⟨_, op_repT, q, k, vs, rfl, rfl, .of (rel.fz _ _ h1), hA'.1, by omega, hk.2.1, by omega, ?_⟩
          exact new_tup rel (h2.rep _) p
    · exact p.elim
  · exact ⟨_, o2_mul X E c xo, I, F, G, _, _, w, rel, rd, re, p⟩
/-- list(range(n)) -/
def rangeL (d : D) (w : W) : Res D := match d with
  | .int n => if n ≤ 100000 ∧ -100000 ≤ n then .ok (.lst ((List.range n.toNat).map fun k : Nat => D.int (k : Int))) w else .bad
  | _ => .bad
theorem je_listR {S : Stat} {p p2 pos pos2 : Pos} {e : Expr} {me : ME} (hl : S.sc.names.lookup ("list" : Str) = some .globalImplicit) (hm : S.mg "list" = none) (hg : S.sc.names.lookup ("range" : Str) = some .globalImplicit) (hn : S.mg "range" = none) (he : JE S e me)
    (n1 : ∀ env : Env, starEach [e] env = (false, eval e env) :: starEach [] env := by intro _; rfl) (n2 : ∀ env : Env, starEach [.Call (.Name "range" p2) [e] [] pos2] env = (false, eval (.Call (.Name "range" p2) [e] [] pos2) env) :: starEach [] env := by intro _; rfl) :
    JE S (.Call (.Name "list" p) [.Call (.Name "range" p2) [e] [] pos2] [] pos) (eUn rangeL me) := fun X E cx xo =>
  pe_weak (pe_listRg cx.calm (by show X.env.scope.names.lookup _ = _; rw [cx.sc]; exact hl) (by rw [cx.mg]; exact hm) (prg_1 (by show X.env.scope.names.lookup _ = _; rw [cx.sc]; exact hg) (by rw [cx.mg]; exact hn) (he X E cx xo) (n1 X.env)) (n2 X.env)) fun σ H Q ⟨I, F, G, ds, w, rel, rs, p⟩ =>
    lowE_bind (f := fun _ x w1 => rangeL x w1) rel rs p fun I1 F1 H1 x w1 v e1 rel1 rs1 rv pp => by
      unfold rangeL at pp
      split at pp
      · rename_i n
        split at pp
        · rename_i hn
          simp only [RepV] at rv
          subst rv
          refine ⟨n, rfl, ⟨by omega, by omega, by omega, by omega, by omega⟩, ?_⟩
          have e2 : rgV 0 n = ((List.range n.toNat).map fun k : Nat => V.int (k : Int)) := by
            unfold rgV
            rw [show n - 0 = n by omega]
            refine List.map_congr_left fun k _ => ?_
            rw [Int.zero_add]
          rw [e2]
          refine new_lst rel1 ?_ pp
          have := RepL.ints (K := X.K) (I := I1) (F := F1) ((List.range n.toNat).map fun k : Nat => (k : Int))
          rw [List.map_map, List.map_map] at this
          exact this
        · exact pp.elim
      · exact pp.elim
end Pc

set_option Elab.async false
set_option linter.all false
set_option maxRecDepth 100000
set_option maxHeartbeats 4000000
set_option autoImplicit false
/-! Pc, part En: enumerate(tuple). -/
namespace Pc
open PySem PySem.Spec PyProof.Rows L2
open AutoSeq1 (wpAny_loadPart')
open RZ (nextOf_tuple_item nextOf_tuple_end)
theorem meets_enumT (l : Addr) (items : Array Value) (n : Nat) (dct : Option Addr) (sl : Array (Option Value)) :
    Meets (Builtin.«enumerate.__new__» ⟨[.type "enumerate", .ref l], []⟩) (fun _ R s => s.heap.get? l = some { cls := .type "tuple", dict := dct, data := .seq items n, slots := sl } ∧
      R (.ok (.ret (.ref (s.heap.push { cls := .type "tuple_iterator", data := .fields #[.ref l, .int 0 0] }).objs.size)))
        { s with heap := (s.heap.push { cls := .type "tuple_iterator", data := .fields #[.ref l, .int 0 0] }).push { cls := .type "enumerate", data := .fields #[.none, .bool false, .ref s.heap.objs.size, rawInt 0, .none, .none] } }) :=
  .of_wp fun prog w A R s h => by
    obtain ⟨hp, g, d, tk, os⟩ := s; obtain ⟨hl, h⟩ := h
    have hsub := sub_enumerate
    have hL : Heap.IsTuple (Shared.heap ⟨hp, g, d, tk, os⟩) l items := ⟨_, hl, rfl, n, rfl⟩
    wp_walk using wpAny_loadPart' hl
    refine wpAny_stack_any fun st => wpAny_pure ?_
    split
    · rename_i c _ _ _ _ _
      cases (c == Value.type "enumerate")
      · wp_walk using wpAny_loadPart' hl, wpAny_pyIter_tuple hL
        exact ⟨_, rfl, h⟩
      · wp_walk using wpAny_loadPart' hl, wpAny_pyIter_tuple hL
        exact ⟨_, rfl, h⟩
    · wp_walk using wpAny_loadPart' hl, wpAny_pyIter_tuple hL
      exact ⟨_, rfl, h⟩
section
variable {prog : Program} {w : World} {A : Around} {E : Value → Shared → Prop} {s : Shared}
theorem call_enumT {l : Addr} {items : Array Value} {Q : Value → Shared → Prop} (hL : s.heap.IsTuple l items)
    (h : ∀ h', IsEnum h' (s.heap.objs.size + 1) s.heap.objs.size 0 .none → h'.IsTupleIter s.heap.objs.size l 0 → h'.objs.size = s.heap.objs.size + 2 →
      (∀ b o, s.heap.get? b = some o → h'.get? b = some o) → Q (.ref (s.heap.objs.size + 1)) { s with heap := h' }) :
    wpAny (model prog w) A (call (.type "enumerate") [.ref l]) Q E s := by
  obtain ⟨⟨c, dct, dt, sl⟩, hl, hc, n, hd⟩ := hL
  replace hc : c = .type "tuple" := hc
  replace hd : dt = .seq items n := hd
  subst hc hd
  refine callType_new F.called_enumerate (by decide) (F.typeCall_enumerate_1 _) (F.newCall_enumerate_1 _) (fun obj => F.args_object_init_2 obj _) F.entry_enumerate_new
    (meets_enumT l items n dct sl) ⟨hl, ?_⟩
  have hz : (s.heap.push { cls := .type "tuple_iterator", data := .fields #[.ref l, .int 0 0] }).objs.size = s.heap.objs.size + 1 := Heap.size_push ..
  show _ ∧ _
  rw [hz]
  have he : IsEnum ((s.heap.push { cls := .type "tuple_iterator", data := .fields #[.ref l, .int 0 0] }).push
      { cls := .type "enumerate", data := .fields #[.none, .bool false, .ref s.heap.objs.size, rawInt 0, .none, .none] }) (s.heap.objs.size + 1) s.heap.objs.size 0 .none := by
    have := Heap.get?_push_size (s.heap.push { cls := .type "tuple_iterator", data := .fields #[.ref l, .int 0 0] })
      (o := { cls := .type "enumerate", data := .fields #[.none, .bool false, .ref s.heap.objs.size, rawInt 0, .none, .none] }) rfl
    rw [hz] at this; exact this
  refine ⟨⟨_, he, rfl⟩, h _ he ⟨_, Heap.get?_push_of_some _ (Heap.get?_push_size _ rfl), rfl, rfl⟩ (by rw [Heap.size_push, hz]) fun b o x => Heap.get?_push_of_some _ (Heap.get?_push_of_some _ x)⟩
theorem draws_tuple (hh : A.handled = none) {it t : Addr} (hne : it ≠ t) {items : Array Value} : Draws prog w A it [it, t] items.size (fun i x => items[i]? = some x) (fun i h => h.IsTupleIter it t i ∧ h.IsTuple t items) where
  live := fun i h st => let ⟨o, ho, _⟩ := st.1; ⟨o, ho⟩
  frame := fun i h h' st k => ⟨st.1.at fun o q => k it (by simp) o q, st.2.at fun o q => k t (by simp) o q⟩
  item := fun i s Q E hi st q => nextOf_tuple_item st.1 st.2 (x := items[i]) (by simp [hi]) fun h' hit' hs' => q items[i] h' s.toks (by simp [hi]) ⟨hit', st.2.at fun o e => (hs'.2 t (Ne.symm hne)).trans e⟩ hs'
  done := fun s Q E st q => nextOf_tuple_end hh st.1 st.2 (by simp) fun h' e a b => q h' e a b
end
/-- the tuple at a, each item in a new pair with its place -/
def IteT (K : PySem.W.Frag) (a : Addr) : It :=
  ⟨fun i H => ∃ (xs : List V) (x : V), SqT K H a xs ∧ xs[i]? = some x, fun i H v H' => ∃ T x, v = .ref T ∧ H T = none ∧ H' = upd H T (.tup [.int (i : Nat), x]) ∧ ∀ xs, SqT K H a xs → xs[i]? = some x, fun i H => ∃ xs : List V, SqT K H a xs ∧ xs.length ≤ i⟩
theorem turn_enumT {P : Program} {w : World} {K : PySem.W.Frag} {elts : List Expr} {kk : Nat} {tpos : Pos} (a e it : Addr) :
    Turn P w K (.Tuple elts kk tpos) (IteT K a) [e, it] e (fun i h => (∃ old, IsEnum h e it ((i : Nat) : Int) old) ∧ h.IsTupleIter it a i ∧ e ≠ it) where
  mem := by simp
  obj := fun i h st b hb => by
    obtain ⟨⟨old, he⟩, ⟨o, ho, hc, hd⟩, _⟩ := st
    have e' : b = e ∨ b = it := by simpa using hb
    rcases e' with z | z
    · rw [z]; exact ⟨_, he, fun v q => nomatch q⟩
    · rw [z]; exact ⟨o, ho, fun v q => by rw [hd] at q; cases q⟩
  keep := fun i h h' st k => let ⟨⟨old, he⟩, hi, hne⟩ := st; ⟨⟨old, k e (by simp) _ he⟩, hi.at fun o q => k it (by simp) o q, hne⟩
  item := by
    intro X hP hw hK hc i pins s σ H E I hf st hg
    subst hP hw hK
    obtain ⟨⟨old, he⟩, hit, hne⟩ := st
    obtain ⟨xs, x, hq, hx⟩ := hg
    obtain ⟨its, rv, p, hz⟩ := I.tuple hq
    obtain ⟨u, hu, ru⟩ := rv.get hx
    have hel : e < s.heap.objs.size := Heap.lt_size he
    have hil : it < s.heap.objs.size := by obtain ⟨_, q, _⟩ := hit; exact Heap.lt_size q
    have hia : it ≠ a := fun z => by
      obtain ⟨o, ho, hc1, _⟩ := hit
      obtain ⟨o2, ho2, hc2, _⟩ := p
      rw [z, ho2] at ho
      cases ho
      rw [hc2] at hc1
      exact absurd hc1 (by decide)
    have hea : e ≠ a := fun z => by
      obtain ⟨o2, ho2, hc2, _⟩ := p
      have he2 := he
      unfold IsEnum at he2
      rw [z, ho2] at he2
      cases he2
      exact absurd (show Value.type "enumerate" = Value.type "tuple" from hc2) (by decide)
    have hts : s.heap.IsTuple a its.toArray := p
    have hlt : i < its.toArray.size := by
      have := (List.getElem?_eq_some_iff.mp hu).1
      simpa using this
    refine PySem.wpAny_pyNext_enum_itemC (draws_tuple (prog := X.prog) (w := X.w) (A := X.A.in1) (items := its.toArray) (show X.A.in1.handled = none from I.ok.hd hc) hia) he ⟨hit, hts⟩ hlt hne (by simp [hne, hea]) fun y h' tk hy ho st' hT hsz hk => ?_
    have hyu : y = u := by
      have h1 : its[i]? = some y := by simpa using hy
      rw [hu] at h1
      exact (Option.some.inj h1).symm
    subst hyu
    refine ⟨_, rfl, wpAny_letOwnedTupleGo_enum (s := { s with heap := h', toks := tk + 1 }) ho fun h'' he' sb => ?_⟩
    have hT2 : h''.get? s.heap.objs.size = some { cls := .type "tuple", data := .seq #[.int i tk, y] } := (sb.2 _ (Nat.ne_of_gt hel)).trans hT
    have new : ObjOk X.prog X.w (upd H s.heap.objs.size (.tup [.int (i : Nat), x])) h'' s.heap.objs.size (.tup [.int (i : Nat), x]) :=
      ⟨by show 2 ≤ sizeLine; decide, [.int i tk, y], .cons ⟨_, rfl⟩ (.cons ru .nil), ⟨_, hT2, rfl, _, rfl⟩⟩
    have I1 : Inv X pins σ (upd H s.heap.objs.size (.tup [.int (i : Nat), x])) { s with heap := h'', toks := tk + 1 } :=
      I.turnedNew (ch := [e, it]) (fun b ob hb q => (sb.2 b (fun z => hb (by simp [z]))).trans (hk b ob (fun z => hb (by simp [z])) (fun z => hb (by simp [z])) q)) hf (Nat.le_refl _) new
    refine ⟨.ref s.heap.objs.size, _, I1, rfl, ⟨_, x, rfl, I.hok.fresh (Nat.le_refl _), rfl, fun ys hy => by rw [I.tuple_inj hy hq]; exact hx⟩, ⟨⟨y, ?_⟩, st'.1.at fun o q => (sb.2 it (Ne.symm hne)).trans q, hne⟩, fun b hb => ?_⟩
    · have e1 : ((i + 1 : Nat) : Int) = (i : Int) + 1 := by omega
      rw [e1]; exact he'
    · have hb' : b < s.heap.objs.size := by
        have e' : b = e ∨ b = it := by simpa using hb
        rcases e' with z | z
        · rw [z]; exact hel
        · rw [z]; exact hil
      rw [upd_ne (Nat.ne_of_lt hb')]
      exact (hf b hb).1
  done := by
    intro X hP hw hK hc i pins s σ H E I hf st hg
    subst hP hw hK
    obtain ⟨⟨old, he⟩, hit, hne⟩ := st
    obtain ⟨xs, hq, hx⟩ := hg
    obtain ⟨its, rv, p, hz⟩ := I.tuple hq
    obtain ⟨f0, f1, f2, f3, f4, f5⟩ := hf it (by simp)
    have hl := rv.length
    have hts : s.heap.IsTuple a its.toArray := p
    have hT : s.TypeIs (.ref e) "enumerate" := ⟨_, he, rfl⟩
    unfold pyNext
    refine wpAny_bind (wpAny_attempt (wpAny_callSpecial?_slot (name := Str.ofString "__next__") hT F.slot_enumerate_next
      (wpAny_call_entry F.slot_enumerate_next hT F.entry_enumerate_next ?_ (F.args_enumerate_next_1 _))))
    show wpAny _ _ (field (.ref e) 2 >>= _) _ _ _
    refine wpAny_bind (wpAny_field he rfl (x := .ref it) rfl ?_)
    refine wpAny_bind (nextOf_tuple_end (I.ok.hd hc) hit hts (by simp; omega) fun h' x he' hx' => ?_)
    obtain ⟨o, ho, hc'⟩ := hx'
    refine wpAny_bind (wpAny_isInstance (T := "StopIteration") (b := true) ⟨o, ho, hc'⟩ isSubtype_stop ?_)
    exact wpAny_pure ⟨rfl, I.turned (t' := s.toks) (fun b o hb q => he' b o hb q) f0 f1 f3 f4 f5⟩
  self := fun A i s Q E st h => let ⟨⟨_, he⟩, _⟩ := st; wpAny_pyIter_enum he h
def iEnT (K : PySem.W.Frag) (ta : TA) : TI := fun σ H R => ta σ H fun vs H1 => ∃ a xs, vs = [V.ref a] ∧ SqT K H1 a xs ∧ R (IteT K a) H1
theorem pi_enumT {X : Cx} {e : Expr} {ta : TA} {p pos tpos : Pos} {elts : List Expr} {kk : Nat} (hg : Gl X "enumerate") (hm : X.mg "enumerate" = none) (ha : PA X [e] ta) (hs : starEach [e] X.env = [(false, eval e X.env)] := by rfl) :
    PI X (.Tuple elts kk tpos) (.Call (.Name "enumerate" p) [e] [] pos) (iEnT X.K ta) := by
  refine ⟨fun pins s σ H R I h => ?_⟩
  refine Call_ (ld_blt I hg hm boot_enumerate (PyProof.Rows.callWith_type1 (thn (ha.run pos pins s σ H _ I h) fun us s1 ⟨vs, H1, I1, r1, q1⟩ => ?_) hs rfl))
  obtain ⟨a, xs, ex, hq, q⟩ := q1
  subst ex
  cases r1 with
  | cons r rr =>
    cases rr
    cases r
    obtain ⟨its, rv, p', hz⟩ := I1.tuple hq
    have hts : s1.heap.IsTuple a its.toArray := p'
    refine call_enumT hts fun h' he hit hsz hk => wpAny_pyIter_enum he ?_
    have I2 : Inv X pins σ H1 { s1 with heap := h' } := I1.kept (t' := s1.toks) hk
    refine ⟨s1.heap.objs.size + 1, [s1.heap.objs.size + 1, s1.heap.objs.size], _, _, H1, rfl, I2, turn_enumT a (s1.heap.objs.size + 1) s1.heap.objs.size, ⟨⟨.none, he⟩, hit, Nat.succ_ne_self _⟩, fun b hb => ?_, q⟩
    have e' : b = s1.heap.objs.size + 1 ∨ b = s1.heap.objs.size := by simpa using hb
    have hle : s1.heap.objs.size ≤ b := by
      rcases e' with z | z
      · rw [z]; exact Nat.le_add_right _ _
      · rw [z]; exact Nat.le_refl _
    exact I1.fpOk hle (I1.hok.fresh hle)
/-- enumerate(d): a tuple, or a list that stays -/
def enumM (ds : List D) (w : W) : Res ItD := match ds with
  | [x] => (match tupD x with
    | some xs => .ok ⟨(List.range xs.length).zipWith (fun i x => D.tup [.int (i : Nat), x]) xs, always⟩ w
    | none => .bad)
  | _ => .bad
theorem ji_enumT {S : Stat} {e : Expr} {ma : MA} {p pos tpos : Pos} {elts : List Expr} {kk : Nat} (hg : S.sc.names.lookup ("enumerate" : Str) = some .globalImplicit) (hm : S.mg "enumerate" = none) (ha : JA S [e] ma)
    (hs : ∀ env : Env, starEach [e] env = [(false, eval e env)] := by intro _; rfl) : JI S (.Tuple elts kk tpos) (.Call (.Name "enumerate" p) [e] [] pos) (iArg enumM ma) := fun X E cx xo =>
  pi_weak (pi_enumT (by show X.env.scope.names.lookup _ = _; rw [cx.sc]; exact hg) (by rw [cx.mg]; exact hm) (ha X E cx xo) (hs X.env)) fun σ H R ⟨I, F, G, ds, w, rel, rs, p⟩ => lowA_bind (f := fun _ => enumM) rel rs p fun I1 F1 H1 xs w1 vs e1 rel1 rs1 rv p1 => by
    unfold enumM at p1
    split at p1
    · rename_i x
      obtain ⟨v, rfl, rx⟩ := rv.one
      split at p1
      · rename_i xs hx
        obtain ⟨a, us, rfl, q1, q2⟩ := tup_stay rx hx
        refine ⟨a, us, rfl, rel1.sqT q1, p1 I1 F1 H1 .refl rel1 trivial _ fun I' F' G' w' H' j e' rel' _ => ?_⟩
        have t1 := rel'.sqT (sqT_ext e' q1)
        have r1 := RepL.ext e' _ _ q2
        have l1 : xs.length = us.length := r1.length
        refine ⟨fun x hx => ?_, fun hj => ⟨us, t1, ?_⟩⟩
        · simp only [List.getElem?_zipWith] at hx
          cases hz : xs[j]? with
          | none =>
            rw [hz] at hx
            cases hq : (List.range xs.length)[j]? <;> rw [hq] at hx <;> cases hx
          | some d =>
            have hlt := (List.getElem?_eq_some_iff.mp hz).1
            rw [hz, List.getElem?_range hlt] at hx
            cases hx
            obtain ⟨v1, g1, g2⟩ := r1.get hz
            refine ⟨⟨us, v1, t1, g1⟩, fun v H'' y => ?_⟩
            obtain ⟨T, x', rfl, k1, rfl, k2⟩ := y
            have z1 := k2 us t1
            rw [g1] at z1
            cases z1
            exact fresh_tup rel' (RepL.cons (by simp [RepV]) (RepL.cons g2 (by simp [RepL]))) k1
        · simp only [List.length_zipWith, List.length_range] at hj; omega
      · exact p1.elim
    · exact p1.elim
end Pc

set_option Elab.async false
set_option linter.all false
set_option maxRecDepth 100000
set_option maxHeartbeats 4000000
set_option autoImplicit false
/-! Pc, part Ad: lists that may be changed, one behind another; three places at once. -/
namespace Pc
open PySem PySem.Spec PyProof.Rows L2
theorem fm_two {f : Expr → Option Str} {t1 t2 t3 : Expr} (h : f t1 = none) : (([t1, t2, t3].filterMap f).length != 3) = true := by
  have : ([t1, t2, t3].filterMap f).length ≤ 2 := by
    rw [List.filterMap_cons, h]
    exact Nat.le_trans (List.length_filterMap_le ..) (Nat.le_refl 2)
  simp; omega
theorem sw_no3 {o1 i1 t2 t3 v1 v2 v3 : Expr} {q : Pos} {k k2 : Nat} {p p2 : Pos} (env : Env) : swappedStores [.Tuple [.Subscript o1 i1 q, t2, t3] k p] (.Tuple [v1, v2, v3] k2 p2) env = pure none := by
  unfold swappedStores
  simp only [List.length_cons, List.length_nil, Nat.zero_add, Nat.reduceAdd, beq_self_eq_true, Bool.or_true, Bool.not_true, bne_self_eq_false, Bool.false_or]
  cases hb : (env.blockKind != .function) with
  | true => rfl
  | false =>
    simp only [Bool.false_eq_true, if_false]
    split
    · rfl
    · rename_i h1
      split
      · rfl
      · rename_i h2
        exfalso
        apply h2
        rw [Bool.or_eq_true]
        exact .inl (fm_two rfl)
/-- y = [.. for ..], where y is a cell -/
theorem sw_false {elt : Expr} {gs : List Comprehension} {scope : Scope} {pos py : Pos} {y : Str} {l : Nat} {env : Env} (hy : env.scope.names.lookup y = some .cell) : swapsWith (.ListComp elt gs scope pos) (some (.Name y py)) l env = pure false := by
  have ky : env.kindOf y = some .cell := hy
  unfold swapsWith
  simp only [ky]
  have e : ((some NameKind.cell : Option NameKind) == some .local) = false := by decide
  simp only [e, Bool.and_false, Bool.false_and]
  try rfl
section
variable {S : Stat} {elt tg iter : Expr} {ifs : List Expr} {scope : Scope} {pos py spos : Pos} {y : Str} {mi : MI} {g : MG} {t : MT} {me : ME} {own : List (Str × Nat)}
theorem jscC (i : Nat) (hi : JI S tg iter mi) (hb : blkC S.N S.sc scope own = true) (hg : JC (S.blk scope) (own.map (·.2)) tg g) (ht : JTs (S.blk scope) ifs t) (he : JE (S.blk scope) elt me)
    (hN : S.N[i]? = some y := by rfl) (hyl : S.sc.names.lookup y = some .cell := by rfl) (hl : Loc S.sc y := by first | exact Or.inl rfl | exact Or.inr rfl) (hf : S.fn y = true ∨ S.sc.names.lookup y = some .local := by first | exact Or.inl rfl | exact Or.inr rfl)
    (hs : ∀ (env : Env) x, foldedSetIterable iter env x = pure x := by intro _ _; rfl) : JS S (.Assign [.Name y py] (.ListComp elt [⟨tg, iter, ifs, 0⟩] scope pos) spos) (sAsg (eComp mi (own.map (·.2)) g t me) (gNm i)) := fun X E cx xo =>
  ps_weak (ps_set (i := i) (x := y) cx.nd (by rw [cx.N]; exact hN) (by rw [cx.sc]; exact hl) ((je_comp hi hb hg ht he hs) X E cx xo) (sw_false (by rw [cx.sc]; exact hyl)) (by rw [cx.sc]; exact hf.imp (cx.fn y) id)) fun Z σ H ⟨I, F, G, ds, w, rel, rs, p⟩ =>
    lowE_bind (f := fun ds d w1 => (gNm i d ds w1).bind fun σ2 w2 => Res.ok (Fl.nx σ2) w2) rel rs p fun I1 F1 H1 x w1 v e1 rel1 rs1 rv p1 => p1 I1 F1 H1 .refl rel1 _ (rs1.set i rv)
end
/-- a list, whichever -/
def lstD (d : D) (w : W) : Option (List D) := match d with
  | .lst xs => some xs
  | .ref i => (match w[i]? with
    | some (.lst xs) => some xs
    | _ => none)
  | _ => none
theorem lstD_rep {K : PySem.W.Frag} {I : List Addr} {F G H : Hp} {w : W} (rel : Rel K I F G w H) {d : D} {v : V} {xs : List D} (h : RepV K I F d v) (e : lstD d w = some xs) : ∃ a vs, v = .ref a ∧ H a = some (.lst vs) ∧ RepL K I F xs vs := by
  cases d <;> simp only [lstD, Option.some.injEq, reduceCtorEq] at e <;> simp only [RepV] at h
  case lst =>
    subst e
    obtain ⟨a, vs, h0, h1, h2⟩ := h
    exact ⟨a, vs, h0, rel.fz _ _ h1, h2⟩
  case ref i =>
    obtain ⟨a, h0, h1⟩ := h
    split at e
    · rename_i ys hw
      cases e
      obtain ⟨u, h2, vs, rfl, h3⟩ := rel.ob i a _ h1 hw
      exact ⟨a, vs, h0, h2, h3⟩
    · cases e
def addR (x y : D) (w : W) : Res D := match lstD x w, lstD y w with
  | some a, some b => if a.length + b.length ≤ sizeLine then .ok (.lst (a ++ b)) w else .bad
  | _, _ => .bad
theorem o2_addR {S : Stat} : O2 S (binaryOp .Add) addR := low2_of fun X E c xo I F G d e w H x y Q rel rd re p => by
  unfold addR at p
  split at p
  · rename_i a b ha hb
    obtain ⟨q, vs, rfl, h1, h2⟩ := lstD_rep rel rd ha
    obtain ⟨q', vs', rfl, h1', h2'⟩ := lstD_rep rel re hb
    split at p
    · rename_i hl
      exact ⟨_, op_cat, q, q', vs, vs', rfl, rfl, h1, h1', by rw [← h2.length, ← h2'.length]; exact hl, new_lst rel (h2.append h2') p⟩
    · exact p.elim
  · exact p.elim
end Pc

set_option Elab.async false
set_option linter.all false
set_option maxRecDepth 100000
set_option maxHeartbeats 4000000
set_option autoImplicit false
/-! Pc, the end: from the promise of the law's def to the row. -/
namespace Pc
open PySem PySem.Spec PyProof.Rows L2

/-- the promise, at an abstract heap that holds the script or nothing -/
theorem end_at {P : Program} {w : World} {K : PySem.W.Frag} {mg mb : Str → Option Value} {k : Nat} {fa a : Addr} {fd : FuncData} {x : Str} {m : MF} {s : Shared} {ns : List Int} (H : Hp)
    (kin : K.In s.heap) (glo : s.heap.Ns mainGlobals mg) (blt : s.heap.Ns builtinsNs mb) (boot : ∀ y : Str, y ≠ "__name__" → mb y = bootBuiltins y) (free : s.heap.NoLimit) (gens : s.gens = #[]) (room : Room k callerA)
    (prom : ∀ base : Heap, K.In base → base.Ns mainGlobals mg → FnG P w K mg base k fa fd [x] m) (bind : ∀ (t : Shared) (u : Value), BindsTo t fd ⟨[u], []⟩ [(x, u)]) (w' : W) (good : m [.scr (ns.map D.int)] [] = .ok (.bl true) w')
    (only : Only H) (held : SqL K H a (ns.map V.int)) (ok : HOk P w H s.heap) (nod : ∀ b o, s.heap.get? b = some o → H b ≠ none → ∀ es ep, o.data ≠ .dict es ep) (nok : ∀ b, H b ≠ none → K.lookup b = none) :
    codeAny (model P w) callerA (.call (.ref fa) ⟨[.ref a], []⟩) (fun r t => r = .ok (.ret (.bool true)) ∧ OldK s.heap t.heap ∧ t.os = s.os ∧ AllBare t.gens) s := by
  have low : ∀ {b : Addr} {o : Obj}, s.heap.get? b = some o → H b = none → (hidT s.heap H).get? b = some o := hidT_get
  have dicts : ∀ {b : Addr} {f : Str → Option Value}, s.heap.Ns b f → (hidT s.heap H).Ns b f := by
    rintro b f ⟨o, es, ep, h1, h2, h3⟩
    refine ⟨o, es, ep, low h1 ?_, h2, h3⟩
    by_cases q : H b = none
    · exact q
    · exact absurd h2 (nod b o h1 q es ep)
  have kb : K.In (hidT s.heap H) := fun b o h => low (kin b o h) (by
    by_cases q : H b = none
    · exact q
    · rw [nok b q] at h; cases h)
  obtain ⟨mc, c1, c2⟩ := free
  have e0 : Env0 P w K mg (hidT s.heap H) callerA [] s H := {
    frames := rfl
    mod := ⟨kb, dicts glo, ⟨mb, dicts blt, boot⟩, ⟨mc, dicts c1, c2⟩⟩
    bs := fun b o h => of_hidT h
    bsz := Nat.le_of_eq (hidT_size _ _)
    funs := trivial
    frf := fun b hb => by simp [frs] at hb
    hok := ok
    bare := .of_eq gens }
  have rel : Rel K [] H (fun _ => none) [] H := ⟨rfl, List.nodup_nil, fun i b o h => by simp at h, fun _ _ h => h, fun i b o h => by simp at h, fun _ _ h => (by cases h), fun _ _ h => (by cases h)⟩
  have sp : spM K m [V.ref a] H (fun v _ => v = .bl true) fun _ _ _ => False := by
    refine ⟨[], H, fun _ => none, [.scr (ns.map D.int)], [], rel, RepL.cons ?_ (by simp [RepL]), ?_⟩
    · simp only [RepV]; exact ⟨a, _, rfl, held, RepL.ints ns⟩
    · rw [good]
      intro I' F' H' _ _ v rv
      simpa only [RepV] using rv
  refine codeAny_mono ((prom _ kb (dicts glo)).run callerA [] s H ⟨[.ref a], []⟩ [.ref a] [.ref a] _ _ room rfl e0 (bind s (.ref a)) (.cons rfl .nil) rfl sp) fun r t h => ?_
  match r, h with
  | .error e, h =>
    obtain ⟨_, _, _, _, _, h⟩ := h
    simp at h
  | .ok (.ret u), h =>
    obtain ⟨v, H2, h1, h2, h3, h4, h5, h6⟩ := h
    subst h6
    obtain rfl : u = Value.bool true := h5
    refine ⟨rfl, OldK.of_keep fun b o hb => ?_, h1, h2⟩
    rcases only b with q | ⟨ob, xs, q⟩
    · exact h3.keep b o hb q (by intro z; simp [frs] at z) (by simp)
    · obtain ⟨g1, _⟩ := ok b _ q
      obtain ⟨g2, _⟩ := h4 b _ (h3.frzs b ob _ q)
      rw [hb] at g1; cases g1
      exact g2
  | .ok .next, h => exact h.elim
  | .ok .brk, h => exact h.elim
  | .ok .cont, h => exact h.elim
/-- the script's list, laid or part of the module -/
theorem end_call {P : Program} {w : World} {K : PySem.W.Frag} {mg mb : Str → Option Value} {k : Nat} {fa a : Addr} {fd : FuncData} {x : Str} {m : MF} {s : Shared} {us : List Value} {ns : List Int}
    (kin : K.In s.heap) (glo : s.heap.Ns mainGlobals mg) (blt : s.heap.Ns builtinsNs mb) (boot : ∀ y : Str, y ≠ "__name__" → mb y = bootBuiltins y) (free : s.heap.NoLimit) (gens : s.gens = #[]) (room : Room k callerA)
    (laid : s.heap.get? a = some { cls := .type "list", data := .seq us.toArray }) (nums : IntsAre us ns) (few : ns.length ≤ sizeLine)
    (prom : ∀ base : Heap, K.In base → base.Ns mainGlobals mg → FnG P w K mg base k fa fd [x] m) (bind : ∀ (t : Shared) (u : Value), BindsTo t fd ⟨[u], []⟩ [(x, u)]) (w' : W) (good : m [.scr (ns.map D.int)] [] = .ok (.bl true) w') :
    codeAny (model P w) callerA (.call (.ref fa) ⟨[.ref a], []⟩) (fun r t => r = .ok (.ret (.bool true)) ∧ OldK s.heap t.heap ∧ t.os = s.os ∧ AllBare t.gens) s := by
  have vals := vals_ints nums
  cases hk : K.lookup a with
  | some o =>
    have h := kin a o hk
    rw [laid] at h
    cases h
    refine end_at (fun _ => none) kin glo blt boot free gens room prom bind w' good (fun _ => .inl rfl) (.inr ⟨_, us.toArray, _, hk, rfl, rfl, rfl, ?_, by simpa using vals⟩) (fun _ _ h => by cases h) (fun _ _ _ h => absurd rfl h) fun _ h => absurd rfl h
    rw [List.size_toArray]; have := nums.length; omega
  | none =>
    let ob : Obj := { cls := .type "list", data := .seq us.toArray }
    let H : Hp := fun b => if b = a then some (.frz ob (.lst (ns.map V.int))) else none
    have at1 : H a = some (.frz ob (.lst (ns.map V.int))) := if_pos rfl
    have at2 : ∀ {b : Addr}, H b ≠ none → b = a := fun {b} h => by
      by_cases e : b = a
      · exact e
      · exact absurd (if_neg e) h
    refine end_at H kin glo blt boot free gens room prom bind w' good (fun b => ?_) (.inl (.inr ⟨ob, at1⟩)) (fun b u h => ?_) (fun b o h hb es ep hd => ?_) fun b hb => by rw [at2 hb]; exact hk
    · by_cases e : b = a
      · exact .inr ⟨ob, _, if_pos e⟩
      · exact .inl (if_neg e)
    · obtain rfl := at2 (b := b) (by rw [h]; simp)
      rw [at1] at h
      cases h
      exact ⟨laid, by rw [List.length_map]; exact few, us, _, vals, laid⟩
    · obtain rfl := at2 hb
      rw [laid] at h
      cases h
      cases hd
/-- a law: F gives the written part, the def's object, the promise over every base, the plain law -/
theorem walk_ofG {l : PySem.W.OpenLaw} {n k : Nat} {q : Program} {loose : List Str} {XP : (Str → Option Value) → Heap → Prop} {YP : World → Heap → Prop} {d : DefRec} {x : Str}
    (hn : l.most = some n) (hn2 : n ≤ sizeLine) (hdf : d.params.defaults = []) (hr : Room k callerA)
    (F : ∀ (w : World) (mg : Str → Option Value) (fa : Addr) (h : Heap), YP w h → h.Ns mainGlobals mg → mg d.name = some (.ref fa) →
      ∃ (K : PySem.W.Frag) (fd : FuncData) (m : MF), K.In h ∧ (∀ (s : Shared) (u : Value), BindsTo s fd ⟨[u], []⟩ [(x, u)]) ∧ (∀ ns : List Int, ns.length ≤ n → ∃ w', m [.scr (ns.map D.int)] [] = .ok (.bl true) w') ∧
        ∀ base : Heap, K.In base → base.Ns mainGlobals mg → FnG l.prog w K mg base k fa fd [x] m) :
    PySem.W.WalkO q loose XP YP l.row.toRowW d [] (fun f vs => PySem.call f vs) :=
  Att.attach_call hn hdf fun w _ s mg _ fa _ _ _ _ _ us ns G Y _ _ _ hmg laid nums few gens => by
    obtain ⟨K, fd, m, kin, bind, good, prom⟩ := F w mg fa _ Y G.T.g hmg
    obtain ⟨w', hw⟩ := good ns few
    exact end_call kin G.T.g G.T.b G.T.builtins G.T.nolimit gens hr laid nums (Nat.le_trans few hn2) prom bind w' hw
end Pc

set_option Elab.async false
set_option linter.all false
set_option maxRecDepth 100000
set_option maxHeartbeats 4000000
set_option autoImplicit false
/-! L1: the laws' deck, plainly. -/
namespace Pc
open PySem PySem.Spec PyProof.Rows L2
noncomputable def bDraw : MS :=
  (sSeq (sAsg (eBin addM (eBin ixM (eVar 0) (eC (.int 2))) (eC (.int 1))) (gSubM (eVar 0) (eC (.int 2))))
  (sSeq (sAsg (eBin ixM (eVar 0) (eC (.int 1))) (gNm 2))
  (sSeq (sIf (tVal (eBin neM (eBin ixM (eVar 0) (eC (.int 0))) (eLst aNil))) (sSeq (sAsg (eMeth "list" popM (eBin ixM (eVar 0) (eC (.int 0))) aNil) (gNm 2))
  (sIf (tVal (eBin geM (eVar 2) (eBin powM (eC (.int 10)) (eC (.int 18))))) (sSeq (sDrop (eMeth "list" appendM (eBin ixM (eVar 0) (eC (.int 0))) (aCons (eBin fdivM (eVar 2) (eVar 1)) aNil)))
  (sRet (eBin modM (eVar 2) (eVar 1)))) sNext)) sNext)
  (sSeq (sAsg (eBin modM (eBin mulM (eBin addM (eBin addM (eBin modM (eVar 2) (eC (.int 2147483629))) (eBin mulM (eC (.int 15485863)) (eBin ixM (eVar 0) (eC (.int 2))))) (eC (.int 5))) (eC (.int 48271))) (eC (.int 2147483647))) (gNm 3))
  (sSeq (sAsg (eBin modM (eBin addM (eBin addM (eBin mulM (eVar 3) (eVar 3)) (eBin mulM (eC (.int 69621)) (eVar 3))) (eBin ixM (eVar 0) (eC (.int 2)))) (eC (.int 2147483587))) (gNm 3))
  (sRet (eBin modM (eBin fdivM (eBin modM (eBin mulM (eVar 3) (eBin addM (eBin fdivM (eVar 3) (eC (.int 7))) (eC (.int 39373)))) (eC (.int 2147483563))) (eC (.int 64))) (eVar 1))))))))
/-- the deck at d, its cells at c -/
def Deck (w : W) (d c : Nat) : Prop := d ≠ c ∧ ∃ (cells : List Int) (sm n : Int), w[d]? = some (.lst [.ref c, .int sm, .int n]) ∧ w[c]? = some (.lst (cells.map .int)) ∧ cells.length ≤ 63
/-- all else stands -/
def Kept (w w' : W) (d c : Nat) : Prop := w'.length = w.length ∧ ∀ i, i ≠ d → i ≠ c → w'[i]? = w[i]?
theorem can_ints : ∀ cells : List Int, PyData.canLayAll0 (cells.map PyData.int) = true
  | [] => rfl
  | x :: xs => by simp [PyData.canLayAll0, PyData.canLay0, can_ints xs]
theorem dep_ints : ∀ cells : List Int, PyData.depthAll (cells.map PyData.int) ≤ 1
  | [] => by simp [PyData.depthAll]
  | x :: xs => by
    have := dep_ints xs
    simp only [List.map_cons, PyData.depthAll, PyData.depth]
    omega
theorem lay_ints (cells : List Int) : SeqAt.shaped (.list (cells.map PyData.int)) = true := by
  have h1 := can_ints cells
  have h2 := dep_ints cells
  unfold SeqAt.shaped
  simp [PyData.canLay0, PyData.depth, h1]
  omega
theorem pys_ints (f : Nat → Option PyData) (cells : List Int) : D.pysR f (cells.map D.int) = some (cells.map PyData.int) := by
  induction cells with
  | nil => rfl
  | cons x xs ih => simp [D.pysR, D.pyR, ih]
theorem py_ref {w : W} {c : Nat} {cells : List Int} (h : w[c]? = some (.lst (cells.map D.int))) : D.py w (.ref c) = some (.list (cells.map PyData.int)) := by
  show pyAt 8 w c = _
  simp [pyAt, h, pys_ints]
theorem ne_nil {w : W} {c : Nat} {cells : List Int} (h : w[c]? = some (.lst (cells.map D.int))) : neM (.ref c) (.lst []) w = .ok (.bl (!cells.isEmpty)) w := by
  unfold neM eqD
  rw [py_ref h]
  have e : D.py w (.lst []) = some (.list []) := rfl
  rw [e]
  have l2 : SeqAt.shaped (.list []) = true := lay_ints []
  simp only [lay_ints, l2, and_self, if_true]
  cases cells <;> simp [PyData.eqv, PyData.eqvAll]
theorem getset {w : W} {i j : Nat} {o : MO} : (w.set i o)[j]? = if i = j then (if i < w.length then some o else none) else w[j]? := List.getElem?_set
/-! ### running, statement by statement -/
theorem seq_nx {a b : MS} {σ σ1 : Sg} {w w1 : W} (h : a σ w = .ok (.nx σ1) w1) : sSeq a b σ w = b σ1 w1 := by unfold sSeq; rw [h]; rfl
theorem seq_rt {a b : MS} {σ : Sg} {w w1 : W} {d : D} (h : a σ w = .ok (.rt d) w1) : sSeq a b σ w = .ok (.rt d) w1 := by unfold sSeq; rw [h]; rfl
theorem run_rt {mb : MS} {N : List Str} {ds : List D} {w w1 : W} {d : D} (h : mb (begin N ds) w = .ok (.rt d) w1) : runB mb N ds w = .ok d w1 := by unfold runB; rw [h]; rfl
theorem if_tt {t : MT} {a b : MS} {σ : Sg} {w w1 : W} (h : t σ w = .ok true w1) : sIf t a b σ w = a σ w1 := by unfold sIf; rw [h]; rfl
theorem if_ff {t : MT} {a b : MS} {σ : Sg} {w w1 : W} (h : t σ w = .ok false w1) : sIf t a b σ w = b σ w1 := by unfold sIf; rw [h]; rfl
theorem asg_nm {e : ME} {i : Nat} {σ : Sg} {w w1 : W} {d : D} (h : e σ w = .ok d w1) : sAsg e (gNm i) σ w = .ok (.nx (σ.set i (some d))) w1 := by unfold sAsg; rw [h]; rfl
theorem ret_ok {e : ME} {σ : Sg} {w w1 : W} {d : D} (h : e σ w = .ok d w1) : sRet e σ w = .ok (.rt d) w1 := by unfold sRet; rw [h]; rfl
theorem drop_ok {e : ME} {σ : Sg} {w w1 : W} {d : D} (h : e σ w = .ok d w1) : sDrop e σ w = .ok (.nx σ) w1 := by unfold sDrop; rw [h]; rfl
theorem bin_ok {a b : ME} {f : D → D → W → Res D} {σ : Sg} {w w1 w2 : W} {x y : D} (h1 : a σ w = .ok x w1) (h2 : b σ w1 = .ok y w2) : eBin f a b σ w = f x y w2 := by unfold eBin; rw [h1]; show (b σ w1).bind _ = _; rw [h2]; rfl
theorem var_ok {σ : Sg} {w : W} {i : Nat} {d : D} (h : σ[i]? = some (some d)) : eVar i σ w = .ok d w := by unfold eVar; rw [h]
theorem c_ok {σ : Sg} {w : W} {d : D} : eC d σ w = .ok d w := rfl
theorem ix_lst {w : W} {i : Nat} {xs : List D} {k : Int} {d : D} (h : w[i]? = some (.lst xs)) (e : atI xs k = some d) : ixM (.ref i) (.int k) w = .ok d w := by
  simp only [ixM, h, atM, e]
theorem val_ok {m : ME} {σ : Sg} {w w1 : W} {b : Bool} (h : m σ w = .ok (.bl b) w1) : tVal m σ w = .ok b w1 := by unfold tVal; rw [h]; rfl
theorem mul_ok {a b : Int} {w : W} (h : mulOk a b = true) : mulM (.int a) (.int b) w = .ok (.int (a * b)) w := by simp [mulM, h]
theorem mod_ok {a b : Int} {w : W} (h : 0 < b) : modM (.int a) (.int b) w = .ok (.int (a % b)) w := by simp [modM, h]
theorem fdiv_ok {a b : Int} {w : W} (h : 0 < b ∧ b < 1073741824) : fdivM (.int a) (.int b) w = .ok (.int (a / b)) w := by simp [fdivM, h]
theorem add_ok {a b : Int} {w : W} : addM (.int a) (.int b) w = .ok (.int (a + b)) w := rfl
section
variable {a b : ME} {σ : Sg} {w w1 w2 : W} {x y : Int}
theorem badd (h1 : a σ w = .ok (.int x) w1) (h2 : b σ w1 = .ok (.int y) w2) : eBin addM a b σ w = .ok (.int (x + y)) w2 := (bin_ok h1 h2).trans rfl
theorem bsub (h1 : a σ w = .ok (.int x) w1) (h2 : b σ w1 = .ok (.int y) w2) : eBin subM a b σ w = .ok (.int (x - y)) w2 := (bin_ok h1 h2).trans rfl
theorem bmul (h1 : a σ w = .ok (.int x) w1) (h2 : b σ w1 = .ok (.int y) w2) (h : mulOk x y = true) : eBin mulM a b σ w = .ok (.int (x * y)) w2 := (bin_ok h1 h2).trans (mul_ok h)
theorem bmod (h1 : a σ w = .ok (.int x) w1) (h2 : b σ w1 = .ok (.int y) w2) (h : 0 < y) : eBin modM a b σ w = .ok (.int (x % y)) w2 := (bin_ok h1 h2).trans (mod_ok h)
theorem bfdiv (h1 : a σ w = .ok (.int x) w1) (h2 : b σ w1 = .ok (.int y) w2) (h : 0 < y ∧ y < 1073741824) : eBin fdivM a b σ w = .ok (.int (x / y)) w2 := (bin_ok h1 h2).trans (fdiv_ok h)
theorem bix {i : Nat} {xs : List D} {d : D} (h1 : a σ w = .ok (.ref i) w1) (h2 : b σ w1 = .ok (.int y) w2) (h3 : w2[i]? = some (.lst xs)) (h4 : atI xs y = some d) : eBin ixM a b σ w = .ok d w2 := (bin_ok h1 h2).trans (ix_lst h3 h4)
end
/-- the numbers that are drawn when no cell is left (or a small one) -/
noncomputable def bDrawEnd : MS :=
  (sSeq (sAsg (eBin modM (eBin mulM (eBin addM (eBin addM (eBin modM (eVar 2) (eC (.int 2147483629))) (eBin mulM (eC (.int 15485863)) (eBin ixM (eVar 0) (eC (.int 2))))) (eC (.int 5))) (eC (.int 48271))) (eC (.int 2147483647))) (gNm 3))
  (sSeq (sAsg (eBin modM (eBin addM (eBin addM (eBin mulM (eVar 3) (eVar 3)) (eBin mulM (eC (.int 69621)) (eVar 3))) (eBin ixM (eVar 0) (eC (.int 2)))) (eC (.int 2147483587))) (gNm 3))
  (sRet (eBin modM (eBin fdivM (eBin modM (eBin mulM (eVar 3) (eBin addM (eBin fdivM (eVar 3) (eC (.int 7))) (eC (.int 39373)))) (eC (.int 2147483563))) (eC (.int 64))) (eVar 1)))))
theorem draw_end {w : W} {d : Nat} {x1 x2 : D} {size cell n : Int} (hd : w[d]? = some (.lst [x1, x2, .int n])) (h0 : 0 < size) :
    ∃ r, bDrawEnd [some (.ref d), some (.int size), some (.int cell), none] w = .ok (.rt (.int r)) w ∧ 0 ≤ r ∧ r < size := by
  have at2 : atI [x1, x2, D.int n] 2 = some (.int n) := rfl
  have m1 : ∀ x : Int, mulOk x 48271 = true := fun x => by simp [mulOk]
  have m2 : ∀ x : Int, mulOk 15485863 x = true := fun x => by simp [mulOk]
  have m3 : ∀ x : Int, mulOk 69621 x = true := fun x => by simp [mulOk]
  have m4 : ∀ x : Int, 0 ≤ x → x < 2147483647 → ∀ y, mulOk x y = true := fun x hx hy y => by
    unfold mulOk
    rw [Bool.or_eq_true]
    left
    simp only [Bool.and_eq_true, decide_eq_true_eq]
    omega
  obtain ⟨a, ha⟩ : ∃ a, (cell % 2147483629 + 15485863 * n + 5) * 48271 % 2147483647 = a := ⟨_, rfl⟩
  have a0 : 0 ≤ a := by rw [← ha]; exact Int.emod_nonneg _ (by decide)
  have a1 : a < 2147483647 := by rw [← ha]; exact Int.emod_lt_of_pos _ (by decide)
  obtain ⟨b, hb⟩ : ∃ b, (a * a + 69621 * a + n) % 2147483587 = b := ⟨_, rfl⟩
  have b0 : 0 ≤ b := by rw [← hb]; exact Int.emod_nonneg _ (by decide)
  have b1 : b < 2147483587 := by rw [← hb]; exact Int.emod_lt_of_pos _ (by decide)
  refine ⟨b * (b / 7 + 39373) % 2147483563 / 64 % size, ?_, Int.emod_nonneg _ (by omega), Int.emod_lt_of_pos _ h0⟩
  unfold bDrawEnd
  have v0 : ∀ (z : Option D), eVar 0 [some (D.ref d), some (.int size), some (.int cell), z] w = .ok (.ref d) w := fun _ => rfl
  have e1 := bmod (bmul (badd (badd (bmod (a := eVar 2) (σ := [some (.ref d), some (.int size), some (.int cell), none]) (w := w) (var_ok rfl) (c_ok (d := .int 2147483629)) (by decide)) (bmul (c_ok (d := .int 15485863)) (bix (a := eVar 0) (var_ok rfl) (c_ok (d := .int 2)) hd at2) (m2 _))) (c_ok (d := .int 5))) (c_ok (d := .int 48271)) (m1 _)) (c_ok (d := .int 2147483647)) (by decide)
  rw [ha] at e1
  have e2 := bmod (badd (badd (bmul (a := eVar 3) (b := eVar 3) (σ := [some (.ref d), some (.int size), some (.int cell), some (.int a)]) (w := w) (var_ok rfl) (var_ok rfl) (m4 a a0 a1 a)) (bmul (b := eVar 3) (c_ok (d := .int 69621)) (var_ok rfl) (m3 a))) (bix (a := eVar 0) (var_ok rfl) (c_ok (d := .int 2)) hd at2)) (c_ok (d := .int 2147483587)) (by decide)
  rw [hb] at e2
  have e3 := bmod (bfdiv (bmod (bmul (a := eVar 3) (σ := [some (.ref d), some (.int size), some (.int cell), some (.int b)]) (w := w) (var_ok rfl) (badd (bfdiv (a := eVar 3) (var_ok rfl) (c_ok (d := .int 7)) (by decide)) (c_ok (d := .int 39373))) (m4 b b0 (by omega) _)) (c_ok (d := .int 2147483563)) (by decide)) (c_ok (d := .int 64)) (by decide)) (var_ok (i := 1) rfl) h0
  exact (seq_nx (asg_nm e1)).trans ((seq_nx (asg_nm e2)).trans (ret_ok e3))
/-- the draw -/
theorem draw_ok {w : W} {d c : Nat} {size : Int} (N : List Str) (hN : N.length = 4) (h : Deck w d c) (h0 : 0 < size) (h1 : size < 1073741824) :
    ∃ r w', runB bDraw N [.ref d, .int size] w = .ok (.int r) w' ∧ 0 ≤ r ∧ r < size ∧ Deck w' d c ∧ Kept w w' d c := by
  obtain ⟨hne, cells, sm, n, hd, hc, hl⟩ := h
  have dl : d < w.length := (List.getElem?_eq_some_iff.mp hd).1
  have cl : c < w.length := (List.getElem?_eq_some_iff.mp hc).1
  have hb : begin N [.ref d, .int size] = [some (.ref d), some (.int size), none, none] := by unfold begin; rw [hN]; rfl
  obtain ⟨w1, hw1⟩ : ∃ w1 : W, w1 = w.set d (.lst [.ref c, .int sm, .int (n + 1)]) := ⟨_, rfl⟩
  have hd1 : w1[d]? = some (.lst [.ref c, .int sm, .int (n + 1)]) := by rw [hw1]; exact List.getElem?_set_self dl
  have hc1 : w1[c]? = some (.lst (cells.map .int)) := by rw [hw1, List.getElem?_set_ne hne]; exact hc
  have cl1 : c < w1.length := by rw [hw1, List.length_set]; exact cl
  have k1 : Kept w w1 d c := ⟨by rw [hw1, List.length_set], fun i h2 _ => by rw [hw1, List.getElem?_set_ne (Ne.symm h2)]⟩
  have s1 : sAsg (eBin addM (eBin ixM (eVar 0) (eC (.int 2))) (eC (.int 1))) (gSubM (eVar 0) (eC (.int 2))) [some (.ref d), some (.int size), none, none] w = .ok (.nx [some (.ref d), some (.int size), none, none]) w1 := by
    have e := badd (bix (a := eVar 0) (σ := [some (.ref d), some (.int size), none, none]) (w := w) (var_ok rfl) (c_ok (d := .int 2)) hd rfl) (c_ok (d := .int 1))
    unfold sAsg
    rw [e]
    show (gSubM _ _ _ _ _).bind _ = _
    have z : setM (.ref d) (.int 2) (.int (n + 1)) w = .ok () w1 := by
      unfold setM
      simp only [hd]
      rw [hw1]
      rfl
    show ((setM (.ref d) (.int 2) (.int (n + 1)) w).bind _).bind _ = _
    rw [z]
    rfl
  have s2 : sAsg (eBin ixM (eVar 0) (eC (.int 1))) (gNm 2) [some (.ref d), some (.int size), none, none] w1 = .ok (.nx [some (.ref d), some (.int size), some (.int sm), none]) w1 := asg_nm (bix (var_ok rfl) (c_ok (d := .int 1)) hd1 rfl)
  have c3 : tVal (eBin neM (eBin ixM (eVar 0) (eC (.int 0))) (eLst aNil)) [some (.ref d), some (.int size), some (.int sm), none] w1 = .ok (!cells.isEmpty) w1 := by
    refine val_ok ((bin_ok (bix (var_ok rfl) (c_ok (d := .int 0)) hd1 rfl) (y := .lst []) (w2 := w1) rfl).trans (ne_nil hc1))
  have fin : ∀ (cell : Int) (w2 : W) (xs : List Int), w2[d]? = some (.lst [.ref c, .int sm, .int (n + 1)]) → w2[c]? = some (.lst (xs.map .int)) → xs.length ≤ 63 → Kept w w2 d c →
      ∃ r w', bDrawEnd [some (.ref d), some (.int size), some (.int cell), none] w2 = .ok (.rt (.int r)) w' ∧ 0 ≤ r ∧ r < size ∧ Deck w' d c ∧ Kept w w' d c := fun cell w2 xs g1 g2 g3 g4 => by
    obtain ⟨r, e, r0, r1⟩ := draw_end (cell := cell) g1 h0
    exact ⟨r, w2, e, r0, r1, ⟨hne, xs, sm, n + 1, g1, g2, g3⟩, g4⟩
  have go : ∀ r w', bDraw [some (.ref d), some (.int size), none, none] w = .ok (.rt (.int r)) w' → runB bDraw N [.ref d, .int size] w = .ok (.int r) w' := fun r w' e => run_rt (by rw [hb]; exact e)
  suffices main : ∃ r w', bDraw [some (.ref d), some (.int size), none, none] w = .ok (.rt (.int r)) w' ∧ 0 ≤ r ∧ r < size ∧ Deck w' d c ∧ Kept w w' d c by
    obtain ⟨r, w', e, r0, r1, r2, r3⟩ := main
    exact ⟨r, w', go r w' e, r0, r1, r2, r3⟩
  unfold bDraw
  rw [seq_nx s1, seq_nx s2]
  rcases List.eq_nil_or_concat cells with rfl | ⟨init, x, rfl⟩
  · rw [seq_nx (if_ff c3)]
    exact fin sm w1 [] hd1 hc1 (by simp) k1
  · have c3' : tVal (eBin neM (eBin ixM (eVar 0) (eC (.int 0))) (eLst aNil)) [some (.ref d), some (.int size), some (.int sm), none] w1 = .ok true w1 := by rw [c3]; simp
    obtain ⟨w2, hw2⟩ : ∃ w2 : W, w2 = w1.set c (.lst (init.map .int)) := ⟨_, rfl⟩
    have hd2 : w2[d]? = some (.lst [.ref c, .int sm, .int (n + 1)]) := by rw [hw2, List.getElem?_set_ne (Ne.symm hne)]; exact hd1
    have hc2 : w2[c]? = some (.lst (init.map .int)) := by rw [hw2]; exact List.getElem?_set_self cl1
    have cl2 : c < w2.length := by rw [hw2, List.length_set]; exact cl1
    have k2 : Kept w w2 d c := ⟨by rw [hw2, List.length_set]; exact k1.1, fun i h2 h3 => by rw [hw2, List.getElem?_set_ne (Ne.symm h3)]; exact k1.2 i h2 h3⟩
    have hli : init.length ≤ 62 := by simp at hl; omega
    have p1 : eMeth "list" popM (eBin ixM (eVar 0) (eC (.int 0))) aNil [some (.ref d), some (.int size), some (.int sm), none] w1 = .ok (.int x) w2 := by
      have e := bix (a := eVar 0) (b := eC (.int 0)) (σ := [some (.ref d), some (.int size), some (.int sm), none]) (w := w1) (var_ok rfl) (c_ok (d := .int 0)) hd1 rfl
      unfold eMeth
      rw [e]
      simp only [Res.bind_ok, tyD, hc1, if_true, aNil, popM]
      have z : ((init.concat x).map D.int)[((init.concat x).map D.int).length - 1]? = some (.int x) := by simp
      have z2 : ((init.concat x).map D.int).dropLast = init.map D.int := by simp
      rw [z, z2, hw2]
    have c4 : tVal (eBin geM (eVar 2) (eBin powM (eC (.int 10)) (eC (.int 18)))) [some (.ref d), some (.int size), some (.int x), none] w2 = .ok (decide ((10 : Int) ^ 18 ≤ x)) w2 := val_ok ((bin_ok (var_ok rfl) ((bin_ok (c_ok (d := .int 10)) (c_ok (d := .int 18))).trans rfl)).trans rfl)
    have e4 : sAsg (eMeth "list" popM (eBin ixM (eVar 0) (eC (.int 0))) aNil) (gNm 2) [some (.ref d), some (.int size), some (.int sm), none] w1 = .ok (.nx [some (.ref d), some (.int size), some (.int x), none]) w2 := asg_nm p1
    by_cases hx : (10 : Int) ^ 18 ≤ x
    · rw [decide_eq_true hx] at c4
      obtain ⟨w3, hw3⟩ : ∃ w3 : W, w3 = w2.set c (.lst (init.map D.int ++ [.int (x / size)])) := ⟨_, rfl⟩
      have hd3 : w3[d]? = some (.lst [.ref c, .int sm, .int (n + 1)]) := by rw [hw3, List.getElem?_set_ne (Ne.symm hne)]; exact hd2
      have hc3 : w3[c]? = some (.lst ((init ++ [x / size]).map .int)) := by rw [hw3, List.getElem?_set_self cl2]; simp
      have k3 : Kept w w3 d c := ⟨by rw [hw3, List.length_set]; exact k2.1, fun i h2 h3 => by rw [hw3, List.getElem?_set_ne (Ne.symm h3)]; exact k2.2 i h2 h3⟩
      have p3 : eMeth "list" appendM (eBin ixM (eVar 0) (eC (.int 0))) (aCons (eBin fdivM (eVar 2) (eVar 1)) aNil) [some (.ref d), some (.int size), some (.int x), none] w2 = .ok .non w3 := by
        have e := bix (a := eVar 0) (b := eC (.int 0)) (σ := [some (.ref d), some (.int size), some (.int x), none]) (w := w2) (var_ok rfl) (c_ok (d := .int 0)) hd2 rfl
        have e2 := bfdiv (a := eVar 2) (b := eVar 1) (σ := [some (.ref d), some (.int size), some (.int x), none]) (w := w2) (var_ok rfl) (var_ok rfl) ⟨h0, h1⟩
        have sl : (init.map D.int).length < sizeLine := by
          rw [List.length_map, sizeLine_eq]; omega
        unfold eMeth
        rw [e]
        simp only [Res.bind_ok, tyD, hc2, if_true, aCons, e2, aNil, appendM, sl]
        rw [hw3]
      have e5 : sSeq (sDrop (eMeth "list" appendM (eBin ixM (eVar 0) (eC (.int 0))) (aCons (eBin fdivM (eVar 2) (eVar 1)) aNil))) (sRet (eBin modM (eVar 2) (eVar 1))) [some (.ref d), some (.int size), some (.int x), none] w2 = .ok (.rt (.int (x % size))) w3 := by
        rw [seq_nx (drop_ok p3)]
        exact ret_ok (bmod (var_ok rfl) (var_ok rfl) h0)
      refine ⟨x % size, w3, ?_, Int.emod_nonneg _ (by omega), Int.emod_lt_of_pos _ h0, ⟨hne, _, sm, n + 1, hd3, hc3, by simp; omega⟩, k3⟩
      refine seq_rt ?_
      rw [if_tt c3', seq_nx e4, if_tt c4]
      exact e5
    · rw [decide_eq_false hx] at c4
      rw [seq_nx (σ1 := [some (.ref d), some (.int size), some (.int x), none]) (w1 := w2) (by rw [if_tt c3', seq_nx e4, if_ff c4]; rfl)]
      exact fin x w2 init hd2 hc2 (by omega) k2
end Pc

set_option Elab.async false
set_option linter.all false
set_option maxRecDepth 100000
set_option maxHeartbeats 4000000
set_option autoImplicit false
/-! L2: running mirrors by what is wanted behind. -/
namespace Pc
open PySem PySem.Spec PyProof.Rows L2
/-- r ends well, in what P tells -/
@[irreducible] def T {α : Type} (r : Res α) (P : α → W → Prop) : Prop := match r with
  | .ok a w => P a w
  | _ => False
section
variable {α β : Type} {P Q : α → W → Prop} {r : Res α}
theorem T.ex (h : T r P) : ∃ a w, r = .ok a w ∧ P a w := by
  unfold T at h
  cases r with
  | ok a w => exact ⟨a, w, rfl, h⟩
  | exn x w => exact h.elim
  | bad => exact h.elim
theorem T.of {a : α} {w : W} (h : r = .ok a w) (p : P a w) : T r P := by unfold T; rw [h]; exact p
theorem T.mono (h : T r P) (k : ∀ a w, r = .ok a w → P a w → Q a w) : T r Q := by
  obtain ⟨a, w, e, p⟩ := h.ex
  exact T.of e (k a w e p)
theorem T_ok {a : α} {w : W} : T (.ok a w) P = P a w := by unfold T; rfl
theorem T_bad : T .bad P = False := by unfold T; rfl
theorem T_exn {x : XD} {w : W} : T (.exn x w) P = False := by unfold T; rfl
theorem T_bind {r : Res α} {f : α → W → Res β} {P : β → W → Prop} : T (r.bind f) P = T r fun a w => T (f a w) P := by cases r <;> (first | rfl | (unfold T; rfl) | (unfold Then; rfl))
theorem T_noX : T r.noX P = T r P := by cases r <;> (first | rfl | (unfold T; rfl) | (unfold Then; rfl))
theorem T_ite {c : Prop} [Decidable c] {a b : Res α} : T (if c then a else b) P = (if c then T a P else T b P) := by split <;> (first | rfl | (unfold T; rfl) | (unfold Then; rfl))
theorem T_guard {c : Prop} [Decidable c] {a : Res α} : T (if c then a else .bad) P = (c ∧ T a P) := by
  by_cases h : c
  · rw [if_pos h]; exact propext ⟨fun z => ⟨h, z⟩, fun z => z.2⟩
  · rw [if_neg h]; exact propext ⟨fun z => by unfold T at z; exact z.elim, fun z => absurd z.1 h⟩
end
section
variable {σ : Sg} {w : W} {P : D → W → Prop} {PA : List D → W → Prop} {PB : Bool → W → Prop} {PF : Fl → W → Prop} {a b c : ME} {ma mk : MA} {ta tb : MT} {sa sb : MS} {g : MG} {gs : MGs} {f : D → D → W → Res D} {d x y : D}
theorem T_C : T (eC d σ w) P = P d w := by unfold T; rfl
theorem T_V {i : Nat} : T (eVar i σ w) P = (match σ[i]? with
  | some (some d) => P d w
  | _ => False) := by
  unfold eVar
  cases h : σ[i]? with
  | none => unfold T; rfl
  | some o => cases o <;> (first | rfl | (unfold T; rfl) | (unfold Then; rfl))
theorem T_bin : T (eBin f a b σ w) P = T (a σ w) fun x w1 => T (b σ w1) fun y w2 => T (f x y w2) P := by unfold eBin; simp only [T_bind]
theorem T_un {f : D → W → Res D} : T (eUn f a σ w) P = T (a σ w) fun x w1 => T (f x w1) P := by unfold eUn; simp only [T_bind]
theorem T_and : T (eAnd a b σ w) P = T (a σ w) fun x w1 => T (truthM x w1) fun c _ => if c = true then T (b σ w1) P else P x w1 := by unfold eAnd; simp only [T_bind, T_ite, T_ok]
theorem T_or : T (eOr a b σ w) P = T (a σ w) fun x w1 => T (truthM x w1) fun c _ => if c = true then P x w1 else T (b σ w1) P := by unfold eOr; simp only [T_bind, T_ite, T_ok]
theorem T_if : T (eIf ta a b σ w) P = T (ta σ w) fun c w1 => if c = true then T (a σ w1) P else T (b σ w1) P := by unfold eIf; simp only [T_bind, T_ite]
theorem T_aNil : T (aNil σ w) PA = PA [] w := by unfold T; rfl
theorem T_aCons : T (aCons a ma σ w) PA = T (a σ w) fun x w1 => T (ma σ w1) fun xs w2 => PA (x :: xs) w2 := by unfold aCons; simp only [T_bind, T_ok]
theorem T_tup : T (eTup ma σ w) P = T (ma σ w) fun xs w1 => xs.length ≤ sizeLine ∧ P (.tup xs) w1 := by unfold eTup; simp only [T_bind, T_guard, T_ok]
theorem T_lst : T (eLst ma σ w) P = T (ma σ w) fun xs w1 => xs.length ≤ sizeLine ∧ P (.lst xs) w1 := by unfold eLst; simp only [T_bind, T_guard, T_ok]
theorem T_new : T (eNew ma σ w) P = T (ma σ w) fun xs w1 => xs.length ≤ sizeLine ∧ P (.ref w1.length) (w1 ++ [.lst xs]) := by unfold eNew; simp only [T_bind, T_guard, T_ok]
theorem T_arg {m : MF} : T (eArg m ma σ w) P = T (ma σ w) fun xs w1 => T (m xs w1) P := by unfold eArg; simp only [T_bind]
theorem T_meth {t : String} {m : MMt} : T (eMeth t m a ma σ w) P = T (a σ w) fun d w1 => tyD d w1 = some t ∧ T (ma σ w1) fun xs w2 => T (m d xs w2) P := by unfold eMeth; simp only [T_bind, T_guard]
theorem T_call {m : MF} {n : Nat} {gd : List D → List D → List D} : T (eCall m n gd ma σ w) P = T (ma σ w) fun xs w1 => xs.length = n ∧ T (m (gd xs []) w1) P := by unfold eCall; simp only [T_bind, T_guard]
theorem T_callK {m : MF} {n j : Nat} {gd : List D → List D → List D} : T (eCallK m n j gd ma mk σ w) P = T (ma σ w) fun xs w1 => T (mk σ w1) fun zs w2 => (xs.length = n ∧ zs.length = j) ∧ T (m (gd xs zs) w2) P := by unfold eCallK; simp only [T_bind, T_guard]
theorem T_madeM {m : MF} {C : Addr} {h : List D → List D} : T (madeM m C h w) P = T (m (h [.ref w.length]) (w ++ [.ins C []])) fun r w1 => r = .non ∧ P (.ref w.length) w1 := by
  unfold madeM
  simp only [T_bind]
  congr 1
  funext r w1
  cases r <;> simp [T]
theorem T_make {m : MF} {C : Addr} {n j : Nat} {gd : List D → List D → List D} : T (eMakeK C m n j gd ma mk σ w) P = T (ma σ w) fun xs w1 => T (mk σ w1) fun zs w2 => (xs.length = n ∧ zs.length = j) ∧ T (madeM m C (fun s => gd (s ++ xs) zs) w2) P := by unfold eMakeK; simp only [T_bind, T_guard]
theorem T_fld {C : Addr} {z : Str} : T (eFld C z a σ w) P = T (a σ w) fun x w1 => T (fldM C z x w1) P := by unfold eFld eUn; simp only [T_bind]
theorem T_ch {g : D → D → W → Res D} : T (eCh f g a b c σ w) P = T (a σ w) fun x w1 => T (b σ w1) fun y w2 => T (f x y w2) fun r w3 => match r with
  | .bl k => if k = true then T (c σ w3) fun z w4 => T (g y z w4) P else P (.bl false) w3
  | _ => False := by
  unfold eCh
  simp only [T_bind]
  congr 1; funext x w1; congr 1; funext y w2; congr 1; funext r w3
  cases r <;> first | (unfold T; rfl) | skip
  rename_i k
  cases k
  · unfold T; rfl
  · exact T_bind
theorem T_val : T (tVal a σ w) PB = T (a σ w) fun x w1 => match x with
  | .bl k => PB k w1
  | _ => False := by
  unfold tVal
  simp only [T_bind]
  congr 1; funext x w1
  cases x <;> (first | rfl | (unfold T; rfl) | (unfold Then; rfl))
theorem T_tru : T (tTru a σ w) PB = T (a σ w) fun x w1 => T (truthM x w1) PB := by unfold tTru; simp only [T_bind]
theorem T_notT : T (tNotM ta σ w) PB = T (ta σ w) fun k w1 => PB (!k) w1 := by unfold tNotM; simp only [T_bind, T_ok]
theorem T_andT : T (tAndM ta tb σ w) PB = T (ta σ w) fun k w1 => if k = true then T (tb σ w1) PB else PB false w1 := by unfold tAndM; simp only [T_bind, T_ite, T_ok]
theorem T_orT : T (tOrM ta tb σ w) PB = T (ta σ w) fun k w1 => if k = true then PB true w1 else T (tb σ w1) PB := by unfold tOrM; simp only [T_bind, T_ite, T_ok]
theorem T_tTrue : T (tTrue σ w) PB = PB true w := by unfold T; rfl
/-- what stands behind a statement -/
def Then (b : MS) (PF : Fl → W → Prop) : Fl → W → Prop := fun f w => match f with
  | .nx σ => T (b σ w) PF
  | f => PF f w
theorem T_seq : T (sSeq sa sb σ w) PF = T (sa σ w) (Then sb PF) := by
  unfold sSeq
  simp only [T_bind]
  congr 1; funext f w1
  cases f <;> (first | rfl | (unfold T; rfl) | (unfold Then; rfl))
theorem Then_nx {σ : Sg} : Then sb PF (.nx σ) w = T (sb σ w) PF := by first | rfl | (unfold Then; rfl)
theorem Then_rt {d : D} : Then sb PF (.rt d) w = PF (.rt d) w := by first | rfl | (unfold Then; rfl)
theorem Then_bk {σ : Sg} : Then sb PF (.bk σ) w = PF (.bk σ) w := by first | rfl | (unfold Then; rfl)
theorem Then_ct {σ : Sg} : Then sb PF (.ct σ) w = PF (.ct σ) w := by first | rfl | (unfold Then; rfl)
theorem T_ret : T (sRet a σ w) PF = T (a σ w) fun d w1 => PF (.rt d) w1 := by unfold sRet; simp only [T_bind, T_ok]
theorem T_drop : T (sDrop a σ w) PF = T (a σ w) fun _ w1 => PF (.nx σ) w1 := by unfold sDrop; simp only [T_bind, T_ok]
theorem T_sif : T (sIf ta sa sb σ w) PF = T (ta σ w) fun k w1 => if k = true then T (sa σ w1) PF else T (sb σ w1) PF := by unfold sIf; simp only [T_bind, T_ite]
theorem T_next : T (sNext σ w) PF = PF (.nx σ) w := by unfold T; rfl
theorem T_asg : T (sAsg a g σ w) PF = T (a σ w) fun d w1 => T (g d σ w1) fun s w2 => PF (.nx s) w2 := by unfold sAsg; simp only [T_bind, T_ok]
theorem T_nm {i : Nat} {PS : Sg → W → Prop} : T (gNm i d σ w) PS = PS (σ.set i (some d)) w := by unfold T; rfl
theorem T_gsub {PS : Sg → W → Prop} : T (gSubM a b d σ w) PS = T (a σ w) fun o w1 => T (b σ w1) fun i w2 => T (setM o i d w2) fun _ w3 => PS σ w3 := by unfold gSubM; simp only [T_bind, T_ok]
theorem T_setF {C : Addr} {z : Str} : T (sSetF C z a b σ w) PF = T (b σ w) fun x w1 => T (a σ w1) fun d w2 => T (setFldM C z d x w2) fun _ w3 => PF (.nx σ) w3 := by unfold sSetF; simp only [T_bind, T_ok]
theorem T_gtup {n : Nat} {xs : List D} {PS : Sg → W → Prop} : T (gTupM n gs (.tup xs) σ w) PS = (xs.length = n ∧ T (gs xs σ w) PS) := by simp only [gTupM, T_guard]
theorem T_gtupK {n : Nat} {xs : List D} {PS : Sg → W → Prop} : T (gTupM n gs (.ktp xs) σ w) PS = (xs.length = n ∧ T (gs xs σ w) PS) := by simp only [gTupM, T_guard]
theorem T_gnil {PS : Sg → W → Prop} : T (gsNil [] σ w) PS = PS σ w := by unfold T; rfl
theorem T_gcons {xs : List D} {PS : Sg → W → Prop} : T (gsCons g gs (d :: xs) σ w) PS = T (g d σ w) fun s w1 => T (gs xs s w1) PS := by simp only [gsCons, T_bind]
theorem T_run {mb : MS} {N : List Str} {ds : List D} : T (runB mb N ds w) P = T (mb (begin N ds) w) fun f w1 => match f with
  | .nx _ => P .non w1
  | .rt d => P d w1
  | _ => False := by
  unfold runB
  simp only [T_bind]
  congr 1; funext f w1
  cases f <;> (first | rfl | (unfold T; rfl) | (unfold Then; rfl))
end
end Pc

set_option Elab.async false
set_option linter.all false
set_option maxRecDepth 100000
set_option maxHeartbeats 4000000
set_option autoImplicit false
/-! L3: operators, loops, comprehensions, behind T. -/
namespace Pc
open PySem PySem.Spec PyProof.Rows L2
section
variable {w : W} {P : D → W → Prop} {a b : Int} {x y d : D}
theorem T_add : T (addM (.int a) (.int b) w) P = P (.int (a + b)) w := by unfold T; rfl
theorem T_sub : T (subM (.int a) (.int b) w) P = P (.int (a - b)) w := by unfold T; rfl
theorem T_mul : T (mulM (.int a) (.int b) w) P = (mulOk a b = true ∧ P (.int (a * b)) w) := by unfold mulM; simp only [T_guard, T_ok]
theorem T_mod : T (modM (.int a) (.int b) w) P = (0 < b ∧ P (.int (a % b)) w) := by unfold modM; simp only [T_guard, T_ok]
theorem T_fdiv : T (fdivM (.int a) (.int b) w) P = ((0 < b ∧ b < 1073741824) ∧ P (.int (a / b)) w) := by unfold fdivM; simp only [T_guard, T_ok]
theorem T_neg : T (negM (.int a) w) P = P (.int (-a)) w := by unfold T; rfl
theorem T_lt : T (ltA (.int a) (.int b) w) P = P (.bl (decide (a < b))) w := by unfold T; rfl
theorem T_le : T (leM (.int a) (.int b) w) P = P (.bl (decide (a ≤ b))) w := by unfold T; rfl
theorem T_gt : T (gtM (.int a) (.int b) w) P = P (.bl (decide (b < a))) w := by unfold T; rfl
theorem T_ge : T (geM (.int a) (.int b) w) P = P (.bl (decide (b ≤ a))) w := by unfold T; rfl
theorem T_addT {xs ys : List D} : T (addM (.tup xs) (.tup ys) w) P = (xs.length + ys.length ≤ sizeLine ∧ P (.tup (xs ++ ys)) w) := by unfold addM; simp only [T_guard, T_ok]
theorem T_addL {xs ys : List D} : T (addM (.lst xs) (.lst ys) w) P = (xs.length + ys.length ≤ sizeLine ∧ P (.lst (xs ++ ys)) w) := by unfold addM; simp only [T_guard, T_ok]
theorem T_isN : T (isM x .non w) P = P (.bl x.isNon) w := by cases x <;> (first | rfl | (unfold T; rfl))
theorem T_isB {p q : Bool} : T (isM (.bl p) (.bl q) w) P = P (.bl (decide (p = q))) w := by unfold T; rfl
theorem T_isNotN : T (isNotM x .non w) P = P (.bl (!x.isNon)) w := by cases x <;> (first | rfl | (unfold T; rfl))
theorem T_isNotB {p q : Bool} : T (isNotM (.bl p) (.bl q) w) P = P (.bl (!decide (p = q))) w := by unfold T; rfl
theorem T_not : T (notM x w) P = T (truthM x w) fun c _ => P (.bl (!c)) w := by unfold notM; simp only [T_bind, T_ok]
theorem T_truB {p : Bool} {PB : Bool → W → Prop} : T (truthM (.bl p) w) PB = PB p w := by unfold T; rfl
theorem T_truI {PB : Bool → W → Prop} : T (truthM (.int a) w) PB = PB (a != 0) w := by unfold T; rfl
theorem T_truN {PB : Bool → W → Prop} : T (truthM .non w) PB = PB false w := by unfold T; rfl
theorem ex_some {α : Type} {o : Option α} {Q : α → Prop} : (match o with
  | some z => Q z
  | none => False) = ∃ z, o = some z ∧ Q z := by
  cases o with
  | none => simp
  | some z => simp
theorem T_atM {xs : List D} : T (atM xs (.int a) w) P = ∃ d, atI xs a = some d ∧ P d w := by
  show T (match atI xs a with
    | some d => Res.ok d w
    | none => .bad) P = _
  cases atI xs a with
  | none => simp [T]
  | some d => simp [T]
theorem T_ixT {xs : List D} : T (ixM (.tup xs) y w) P = T (atM xs y w) P := by unfold T; rfl
theorem T_ixK {xs : List D} : T (ixM (.ktp xs) y w) P = T (atM xs y w) P := by unfold T; rfl
theorem T_ixL {xs : List D} : T (ixM (.lst xs) y w) P = T (atM xs y w) P := by unfold T; rfl
theorem T_ixR {i : Nat} {xs : List D} (h : w[i]? = some (.lst xs)) : T (ixM (.ref i) y w) P = T (atM xs y w) P := by simp only [ixM, h]
theorem T_ixD {i : Nat} {kvs : List (Key × D)} {z : Str} (h : w[i]? = some (.dK kvs)) : T (ixM (.ref i) (.str z) w) P = ∃ d, lookD kvs (.inr z) = some d ∧ P d w := by
  simp only [ixM, h, lookM, keyD, Option.map_some]
  cases lookD kvs (Sum.inr z) with
  | none => simp [T]
  | some d => simp [T]
theorem T_eq : T (eqM x y w) P = ∃ r, eqD x y w = some r ∧ P (.bl r) w := by
  unfold eqM
  cases eqD x y w with
  | none => simp [T]
  | some r => simp [T]
theorem T_ne : T (neM x y w) P = ∃ r, eqD x y w = some r ∧ P (.bl (!r)) w := by
  unfold neM
  cases eqD x y w with
  | none => simp [T]
  | some r => simp [T]
theorem eqD_int : eqD (.int a) (.int b) w = some (a == b) := by simp [eqD, D.py, D.pyR, SeqAt.shaped, PyData.canLay0, PyData.depth, PyData.eqv]
theorem T_in : T (inM x y w) P = ∃ r, inD x y w = some r ∧ P (.bl r) w := by
  unfold inM
  cases inD x y w with
  | none => simp [T]
  | some r => simp [T]
theorem T_notIn : T (notInM x y w) P = ∃ r, inD x y w = some r ∧ P (.bl (!r)) w := by
  unfold notInM
  cases inD x y w with
  | none => simp [T]
  | some r => simp [T]
theorem T_len : T (lenM [d] w) P = ∃ n, lenD d w = some n ∧ P (.int n) w := by
  show T (match lenD d w with
    | some n => Res.ok (D.int n) w
    | none => .bad) P = _
  cases lenD d w with
  | none => simp [T]
  | some n => simp [T]
theorem T_repr : T (reprM [d] w) P = ∃ z, reprD d w = some z ∧ P (.str z) w := by
  show T (match reprD d w with
    | some n => Res.ok (D.str n) w
    | none => .bad) P = _
  cases reprD d w with
  | none => simp [T]
  | some n => simp [T]
theorem T_tupM : T (tupM [d] w) P = (match d with
  | .tup xs => P (.tup xs) w
  | d => ∃ xs, listD d w = some xs ∧ P (.tup xs) w) := by
  cases d <;> simp only [tupM, listD, T]
  all_goals first
    | rfl
    | (simp; done)
    | skip
  rename_i i
  cases w[i]? with
  | none => simp [T]
  | some o => cases o <;> simp [T]
theorem T_fldM {C : Addr} {z : Str} {i : Nat} {fs : List (Str × D)} (h : w[i]? = some (.ins C fs)) : T (fldM C z (.ref i) w) P = ∃ d, fs.lookup z = some d ∧ P d w := by
  simp only [fldM, h, if_true]
  cases fs.lookup z with
  | none => simp [T]
  | some d => simp [T]
theorem T_append {i : Nat} {xs : List D} (h : w[i]? = some (.lst xs)) : T (appendM (.ref i) [d] w) P = (xs.length < sizeLine ∧ P .non (w.set i (.lst (xs ++ [d])))) := by
  simp only [appendM, h, T_guard, T_ok]
theorem T_setD {i : Nat} {kvs : List (Key × D)} {z : Str} {PU : Unit → W → Prop} (h : w[i]? = some (.dK kvs)) : T (setM (.ref i) (.str z) d w) PU = (kvs.length < sizeLine ∧ PU () (w.set i (.dK (putD kvs (.inr z) d)))) := by
  simp only [setM, h, keyD, T_guard, T_ok]
theorem T_setFld {C : Addr} {z : Str} {i : Nat} {fs : List (Str × D)} {PU : Unit → W → Prop} (h : w[i]? = some (.ins C fs)) : T (setFldM C z (.ref i) d w) PU = (fs.length < 1000 ∧ PU () (w.set i (.ins C (putFd z d fs)))) := by
  simp only [setFldM, h, true_and, T_guard, T_ok]
end
/-! ### loops -/
theorem T_forL {it : ItD} {g : MG} {body : MS} {P : Fl → W → Prop} (Inv : Nat → Sg → W → Prop) (ok : ∀ i σ w, Inv i σ w → it.ok w)
    (step : ∀ i x σ w, it.xs[i]? = some x → Inv i σ w → T (g x σ w) fun σ1 w1 => T (body σ1 w1) fun f w2 => match f with
      | .nx s => Inv (i + 1) s w2
      | .ct s => Inv (i + 1) s w2
      | .bk s => P (.nx s) w2
      | .rt d => P (.rt d) w2) (fin : ∀ σ w, Inv it.xs.length σ w → P (.nx σ) w) : ∀ {i : Nat} {σ : Sg} {w : W}, i ≤ it.xs.length → Inv i σ w → T (forL it g body (it.xs.drop i) σ w) P := by
  intro i
  generalize hn : it.xs.length - i = n
  induction n generalizing i with
  | zero =>
    intro σ w hi h
    have e : i = it.xs.length := by omega
    subst e
    rw [List.drop_length]
    unfold forL
    rw [if_pos (ok _ _ _ h)]
    rw [T_ok]; exact fin σ w h
  | succ n ih =>
    intro σ w hi h
    have hlt : i < it.xs.length := by omega
    rw [List.drop_eq_getElem_cons hlt]
    unfold forL
    rw [if_pos (ok _ _ _ h), T_bind]
    refine (step i _ σ w (List.getElem?_eq_getElem hlt) h).mono fun s1 w1 _ q => ?_
    rw [T_bind]
    refine T.mono q fun f w2 _ q2 => ?_
    cases f with
    | nx s => exact ih (by omega) (by omega) q2
    | ct s => exact ih (by omega) (by omega) q2
    | bk s => rw [T_ok]; exact q2
    | rt d => rw [T_ok]; exact q2
theorem T_for {m : MI} {g : MG} {body : MS} {σ : Sg} {w : W} {P : Fl → W → Prop} : T (sFor m g body σ w) P = T (m σ w) fun it w1 => T (forL it g body it.xs σ w1) P := by unfold sFor; simp only [T_bind]
theorem T_compL {it : ItD} {vs : List Nat} {g : MG} {t : MT} {e : ME} {σ : Sg} {P : List D → W → Prop} (Inv : Nat → List D → W → Prop) (ok : ∀ i acc w, Inv i acc w → it.ok w)
    (step : ∀ i x acc w, it.xs[i]? = some x → Inv i acc w → T (g x (wipeD σ vs) w) fun σ1 w1 => T (t σ1 w1) fun b w2 => if b = true then T (e σ1 w2) fun y w3 => Inv (i + 1) (acc ++ [y]) w3 else Inv (i + 1) acc w2)
    (fin : ∀ acc w, Inv it.xs.length acc w → P acc w) : ∀ {i : Nat} {acc : List D} {w : W}, i ≤ it.xs.length → Inv i acc w → T (compL it vs g t e (it.xs.drop i) σ w) fun ys w1 => P (acc ++ ys) w1 := by
  intro i
  generalize hn : it.xs.length - i = n
  induction n generalizing i with
  | zero =>
    intro acc w hi h
    have e : i = it.xs.length := by omega
    subst e
    rw [List.drop_length]
    unfold compL
    rw [if_pos (ok _ _ _ h)]
    rw [T_ok, List.append_nil]
    exact fin acc w h
  | succ n ih =>
    intro acc w hi h
    have hlt : i < it.xs.length := by omega
    rw [List.drop_eq_getElem_cons hlt]
    unfold compL
    rw [if_pos (ok _ _ _ h), T_bind, T_noX]
    refine (step i _ acc w (List.getElem?_eq_getElem hlt) h).mono fun s1 w1 _ q => ?_
    rw [T_bind, T_noX]
    refine T.mono q fun b w2 _ q2 => ?_
    cases b with
    | true =>
      simp only [if_true] at q2 ⊢
      rw [T_bind, T_noX]
      refine T.mono q2 fun y w3 _ q3 => ?_
      rw [T_bind]
      refine (ih (by omega) (by omega) q3).mono fun ys w4 _ q4 => ?_
      rw [T_ok]
      simpa using q4
    | false =>
      simp only [Bool.false_eq_true, if_false] at q2 ⊢
      exact ih (by omega) (by omega) q2
theorem T_comp {m : MI} {vs : List Nat} {g : MG} {t : MT} {e : ME} {σ : Sg} {w : W} {P : D → W → Prop} : T (eComp m vs g t e σ w) P = T (m σ w) fun it w1 => it.xs.length ≤ sizeLine ∧ T (compL it vs g t e it.xs σ w1) fun ys w2 => P (.lst ys) w2 := by
  unfold eComp compA
  simp only [T_bind, T_guard, T_ok]
end Pc

set_option Elab.async false
set_option linter.all false
set_option maxRecDepth 100000
set_option maxHeartbeats 4000000
set_option autoImplicit false
/-! L4: the laws' helpers: draw, pick, deck. -/
namespace Pc
open PySem PySem.Spec PyProof.Rows L2
/-- all that stood stands, but the deck -/
structure Grow (w w' : W) (d c : Nat) : Prop where
  le : w.length ≤ w'.length
  at_ : ∀ i, i < w.length → i ≠ d → i ≠ c → w'[i]? = w[i]?
section
variable {w w1 w2 : W} {d c i : Nat} {o : MO}
theorem Grow.refl : Grow w w d c := ⟨Nat.le_refl _, fun _ _ _ _ => rfl⟩
theorem Grow.trans (a : Grow w w1 d c) (b : Grow w1 w2 d c) : Grow w w2 d c := ⟨Nat.le_trans a.le b.le, fun i h1 h2 h3 => (b.at_ i (Nat.lt_of_lt_of_le h1 a.le) h2 h3).trans (a.at_ i h1 h2 h3)⟩
theorem Kept.refl : Kept w w d c := ⟨rfl, fun _ _ _ => rfl⟩
theorem Kept.trans (a : Kept w w1 d c) (b : Kept w1 w2 d c) : Kept w w2 d c := ⟨b.1.trans a.1, fun i h1 h2 => (b.2 i h1 h2).trans (a.2 i h1 h2)⟩
theorem Kept.obj (a : Kept w w1 d c) (h : w[i]? = some o) (h1 : i ≠ d) (h2 : i ≠ c) : w1[i]? = some o := by rw [a.2 i h1 h2]; exact h
theorem Kept.grow (k : Kept w w1 d c) : Grow w w1 d c := ⟨Nat.le_of_eq k.1.symm, fun i _ h2 h3 => k.2 i h2 h3⟩
theorem Grow.app {g : W} : Grow w (w ++ g) d c := ⟨by simp, fun i h _ _ => by rw [List.getElem?_append_left h]⟩
theorem Grow.obj (a : Grow w w1 d c) (h : w[i]? = some o) (h1 : i ≠ d) (h2 : i ≠ c) : w1[i]? = some o := by rw [a.at_ i (List.getElem?_eq_some_iff.mp h).1 h1 h2]; exact h
theorem Deck.lt (h : Deck w d c) : d < w.length ∧ c < w.length := by
  obtain ⟨_, cells, sm, n, h1, h2, _⟩ := h
  exact ⟨(List.getElem?_eq_some_iff.mp h1).1, (List.getElem?_eq_some_iff.mp h2).1⟩
theorem Deck.app {g : W} (h : Deck w d c) : Deck (w ++ g) d c := by
  obtain ⟨l1, l2⟩ := h.lt
  obtain ⟨hne, cells, sm, n, h1, h2, h3⟩ := h
  exact ⟨hne, cells, sm, n, by rw [List.getElem?_append_left l1]; exact h1, by rw [List.getElem?_append_left l2]; exact h2, h3⟩
theorem Deck.set (h : Deck w d c) (h1 : i ≠ d) (h2 : i ≠ c) : Deck (w.set i o) d c := by
  obtain ⟨hne, cells, sm, n, g1, g2, g3⟩ := h
  exact ⟨hne, cells, sm, n, by rw [List.getElem?_set_ne h1]; exact g1, by rw [List.getElem?_set_ne h2]; exact g2, g3⟩
end
def NDraw : List Str := [("_law_deck_here" : Str), ("_law_size" : Str), ("_law_cell" : Str), ("_law_number" : Str)]
noncomputable def mDraw : MF := runB bDraw NDraw
theorem T_draw {w : W} {d c : Nat} {size : Int} {P : D → W → Prop} (h : Deck w d c) (h0 : 0 < size) (h1 : size < 1073741824) (k : ∀ r w', 0 ≤ r → r < size → Deck w' d c → Kept w w' d c → P (.int r) w') : T (mDraw [.ref d, .int size] w) P := by
  obtain ⟨r, w', e, r0, r1, r2, r3⟩ := draw_ok NDraw rfl h h0 h1
  exact T.of e (k r w' r0 r1 r2 r3)
def NPick : List Str := [("_law_deck_here" : Str), ("_law_some" : Str)]
noncomputable def bPick : MS := (sRet (eBin ixM (eVar 1) (eCall mDraw 2 gAll (aCons (eVar 0) (aCons (eArg lenM (aCons (eVar 1) aNil)) aNil)))))
noncomputable def mPick : MF := runB bPick NPick
theorem atI_nat {xs : List D} {r : Int} (h0 : 0 ≤ r) (h1 : r < xs.length) : ∃ (i : Nat) (x : D), xs[i]? = some x ∧ atI xs r = some x ∧ (i : Int) = r := by
  have l : r.toNat < xs.length := by omega
  refine ⟨r.toNat, xs[r.toNat], List.getElem?_eq_getElem l, ?_, by omega⟩
  unfold atI ixN
  rw [if_pos h0, if_pos h1]
  show xs[r.toNat]? = _
  exact List.getElem?_eq_getElem l
theorem T_pick {w : W} {d c : Nat} {xs : List D} {P : D → W → Prop} (h : Deck w d c) (h0 : xs ≠ []) (h1 : xs.length < 1073741824) (k : ∀ x w', x ∈ xs → Deck w' d c → Kept w w' d c → P x w') : T (mPick [.ref d, .lst xs] w) P := by
  have b : begin NPick [.ref d, .lst xs] = [some (.ref d), some (.lst xs)] := rfl
  have l0 : 0 < xs.length := List.length_pos_iff.mpr h0
  simp only [mPick, bPick, b, T_run, T_ret, T_bin, T_V, T_call, T_aCons, T_arg, T_aNil, T_len, lenD, D.items, List.getElem?_cons_zero, List.getElem?_cons_succ, Option.map_some, List.length_cons, List.length_nil, gAll, true_and]
  refine ⟨xs.length, rfl, T_draw h (by omega) (by omega) fun r w' r0 r1 r2 r3 => ?_⟩
  rw [T_ixL, T_atM]
  obtain ⟨i, x, e1, e2, _⟩ := atI_nat r0 r1
  exact ⟨x, e2, k x w' (List.mem_of_getElem? e1) r2 r3⟩
end Pc

set_option Elab.async false
set_option linter.all false
set_option maxRecDepth 100000
set_option maxHeartbeats 4000000
set_option autoImplicit false
/-! L5: more rules; the deck is made. -/
namespace Pc
open PySem PySem.Spec PyProof.Rows L2
section
variable {σ : Sg} {w : W} {PI : ItD → W → Prop} {P : D → W → Prop}
theorem T_iSeq {m : ME} : T (iSeq m σ w) PI = T (m σ w) fun d w1 => T (iterM d w1) PI := by unfold iSeq; simp only [T_bind]
theorem T_iArg {f : List D → W → Res ItD} {ma : MA} : T (iArg f ma σ w) PI = T (ma σ w) fun xs w1 => T (f xs w1) PI := by unfold iArg; simp only [T_bind]
theorem T_itR {i : Nat} {xs : List D} (h : w[i]? = some (.lst xs)) : T (iterM (.ref i) w) PI = PI ⟨xs, holds i (.lst xs)⟩ w := by simp only [iterM, h]; unfold T; rfl
theorem T_itT {xs : List D} : T (iterM (.tup xs) w) PI = PI ⟨xs, always⟩ w := by unfold T; rfl
theorem T_itL {xs : List D} : T (iterM (.lst xs) w) PI = PI ⟨xs, always⟩ w := by unfold T; rfl
theorem T_rng1 {n : Int} (h : 0 ≤ n) (h2 : n < 1073741824) : T (rng1 [.int n] w) PI = PI (rangeD 0 n.toNat) w := by
  simp only [rng1]
  rw [if_pos (by constructor <;> omega)]
  unfold T; rfl
theorem T_rng2 {a b : Int} (h : -1073741824 ≤ a ∧ a < 1073741824) (h2 : -1073741824 ≤ b ∧ b < 1073741824) : T (rng2 [.int a, .int b] w) PI = PI (rangeD a (b - a).toNat) w := by
  simp only [rng2]
  rw [if_pos (by refine ⟨?_, ?_, ?_, ?_⟩ <;> omega)]
  unfold T; rfl
theorem T_oNone {PO : Option Int → W → Prop} : T (oNone σ w) PO = PO none w := by unfold T; rfl
theorem T_oSome {m : ME} {PO : Option Int → W → Prop} : T (oSome m σ w) PO = T (m σ w) fun d w1 => match d with
  | .int i => PO (some i) w1
  | _ => False := by
  unfold oSome
  simp only [T_bind]
  congr 1; funext d w1
  cases d <;> (unfold T; rfl)
theorem T_sl {f : D → Option Int → Option Int → W → Res D} {a : ME} {lo hi : MO'} : T (eSl f a lo hi σ w) P = T (a σ w) fun x w1 => T (lo σ w1) fun l w2 => T (hi σ w2) fun u w3 => T (f x l u w3) P := by unfold eSl; simp only [T_bind]
theorem intsD_map : ∀ ns : List Int, intsD (ns.map D.int) = some ns
  | [] => rfl
  | n :: ns => by simp [intsD, intsD_map ns]
theorem cut_map {ns : List Int} {lo hi : Option Int} : ∃ ms : List Int, cutD (ns.map D.int) lo hi = ms.map D.int ∧ ms.length ≤ ns.length := by
  unfold cutD
  rw [← List.map_drop, ← List.map_take]
  exact ⟨_, rfl, by simp; omega⟩
end
def NDeck : List Str := [("_law_script" : Str), ("_law_some" : Str), ("_law_cell" : Str)]
noncomputable def bDeck : MS :=
  (sSeq (sAsg (eUn revN (eArg listM (aCons (eSl slM (eVar 0) oNone (oSome (eC (.int 63)))) aNil))) (gNm 1))
  (sRet (eNew (aCons (eVar 1) (aCons (eBin addM (eArg sumM (aCons (eComp (iSeq (eVar 1)) [2] (gNm 2) tTrue (eBin modM (eVar 2) (eC (.int 2147483629)))) aNil)) (eBin mulM (eC (.int 13)) (eArg lenM (aCons (eVar 1) aNil)))) (aCons (eC (.int 0)) aNil))))))
noncomputable def mDeck : MF := runB bDeck NDeck
theorem T_deck {ns : List Int} (hn : ns.length ≤ 63) : T (mDeck [.scr (ns.map D.int)] []) fun r w => r = .ref 1 ∧ w.length = 2 ∧ Deck w 1 0 := by
  have b : begin NDeck [.scr (ns.map D.int)] = [some (.scr (ns.map D.int)), none, none] := rfl
  obtain ⟨ms, e1, e2⟩ := cut_map (ns := ns) (lo := none) (hi := some 63)
  have sl : slM (.scr (ns.map D.int)) none (some 63) [] = .ok (.lst (ms.map D.int)) [] := by simp only [slM, e1]
  have lm : listM [.lst (ms.map D.int)] [] = .ok (.lst (ms.map D.int)) [] := rfl
  have rv : revN (.lst (ms.map D.int)) [] = .ok (.ref 0) [.lst (ms.reverse.map D.int)] := by simp only [revN, listD, List.map_reverse]; rfl
  obtain ⟨cells, hc⟩ : ∃ cells, ms.reverse = cells := ⟨_, rfl⟩
  have hl : cells.length ≤ 63 := by rw [← hc, List.length_reverse]; omega
  rw [hc] at rv
  have h0 : ([MO.lst (cells.map D.int)] : W)[0]? = some (.lst (cells.map D.int)) := rfl
  simp only [mDeck, bDeck, b, T_run, T_seq, T_asg, T_un, T_arg, T_aCons, T_sl, T_V, T_oNone, T_oSome, T_C, T_aNil, sl, lm, rv, T_ok, T_nm, Then_nx, T_ret, T_new, T_bin, T_comp, T_iSeq, T_itR h0, T_len, lenD, List.getElem?_cons_zero, List.getElem?_cons_succ, List.set_cons_zero, List.set_cons_succ]
  refine ⟨by rw [List.length_map, sizeLine_eq]; omega, ?_⟩
  have cl := T_compL (it := ⟨cells.map D.int, holds 0 (.lst (cells.map D.int))⟩) (vs := [2]) (g := gNm 2) (t := tTrue) (e := eBin modM (eVar 2) (eC (.int 2147483629))) (σ := [some (.scr (ns.map D.int)), some (.ref 0), none])
    (P := fun ys w1 => w1 = [MO.lst (cells.map D.int)] ∧ ∃ ks : List Int, ys = ks.map D.int) (fun i acc w1 => w1 = [MO.lst (cells.map D.int)] ∧ ∃ ks : List Int, acc = ks.map D.int) (fun i acc w1 h => by rw [h.1]; exact h0)
    (fun i x acc w1 hx h => by
      obtain ⟨rfl, ks, rfl⟩ := h
      have hx' : (cells.map D.int)[i]? = some x := hx
      rw [List.getElem?_map] at hx'
      cases hz : cells[i]? with
      | none => rw [hz] at hx'; cases hx'
      | some z =>
        rw [hz] at hx'
        cases hx'
        simp only [T_nm, T_tTrue, if_true, T_bin, T_V, T_C, wipeD, List.set_cons_zero, List.set_cons_succ, List.getElem?_cons_zero, List.getElem?_cons_succ, T_mod]
        exact ⟨by decide, trivial, ks ++ [z % 2147483629], by simp⟩)
    (fun acc w1 h => h) (i := 0) (acc := []) (Nat.zero_le _) ⟨rfl, [], rfl⟩
  rw [List.drop_zero] at cl
  refine cl.mono fun ys w1 _ h => ?_
  rw [List.nil_append] at h
  obtain ⟨rfl, ks, rfl⟩ := h
  have sm : sumM [.lst (ks.map D.int)] [MO.lst (cells.map D.int)] = .ok (.int ks.sum) [MO.lst (cells.map D.int)] := by simp only [sumM, listD, Option.bind_some, intsD_map]
  have ln : lenM [.ref 0] [MO.lst (cells.map D.int)] = .ok (.int cells.length) [MO.lst (cells.map D.int)] := by simp [lenM, lenD]
  simp only [sm, T_ok, T_C, ln, T_mul, T_add, T_aNil]
  exact ⟨(cells.map D.int).length, rfl, by simp [mulOk], by show 3 ≤ sizeLine; rw [sizeLine_eq]; decide, rfl, rfl, by decide, cells, _, 0, rfl, rfl, hl⟩
end Pc

set_option Elab.async false
set_option linter.all false
set_option maxRecDepth 100000
set_option maxHeartbeats 4000000
set_option autoImplicit false
/-! L6: the laws' models: ranks. -/
namespace Pc
open PySem PySem.Spec PyProof.Rows L2
def rowD (r : List Int) : D := .tup (r.map .int)
def tieD (t : Int × Int × Int) : D := .tup [.int t.1, .int t.2.1, .int t.2.2]
structure Mo where
  ranks : List (List Int)
  every : Int
  lost : Int
  slow : Int
  bears : D
  gap : Int
  hold : Int
  takes : Bool
  ties : List (Int × Int × Int)
  hosts : Int
def Mo.kvs (m : Mo) : List (Key × D) := [(.inr "ranks", .tup (m.ranks.map rowD)), (.inr "every", .int m.every), (.inr "lost", .int m.lost), (.inr "slow", .int m.slow), (.inr "bears", m.bears), (.inr "gap", .int m.gap), (.inr "hold", .int m.hold),
  (.inr "takes", .bl m.takes), (.inr "ties", .tup (m.ties.map tieD)), (.inr "hosts", .int m.hosts)]
structure RanksOk (rs : List (List Int)) (h : Nat) : Prop where
  h1 : 1 ≤ h
  h6 : h ≤ 6
  row : ∀ r ∈ rs, r.length = h ∧ ∀ x ∈ r, 1 ≤ x ∧ x ≤ 12
structure TiesOk (ts : List (Int × Int × Int)) (h : Nat) : Prop where
  few : ts.length ≤ 6
  each : ∀ t ∈ ts, (0 ≤ t.1 ∧ t.1 < h) ∧ (0 ≤ t.2.1 ∧ t.2.1 ≤ 9) ∧ (1 ≤ t.2.2 ∧ t.2.2 ≤ 11)
  up : ts.Pairwise fun a b => a.1 < b.1 ∨ (a.1 = b.1 ∧ a.2.1 < b.2.1)
structure MoOk (m : Mo) (h : Nat) : Prop where
  ranks : RanksOk m.ranks h
  n1 : 1 ≤ m.ranks.length
  n4 : m.ranks.length ≤ 4
  every : 1 ≤ m.every ∧ m.every ≤ 5
  lost : 0 ≤ m.lost ∧ m.lost ≤ 3
  slow : 1 ≤ m.slow ∧ m.slow ≤ 4
  bears : ∃ b : Int, m.bears = .int b ∧ 0 ≤ b ∧ b ≤ 3
  gap : 0 ≤ m.gap ∧ m.gap ≤ 3
  hold : 0 ≤ m.hold ∧ m.hold ≤ 20
  ties : TiesOk m.ties h
  hosts : 0 ≤ m.hosts ∧ m.hosts ≤ 4
/-- the turn that draws one address's ranks -/
noncomputable def bRow : MS := (sSeq (sAsg (eCall mPick 2 gAll (aCons (eVar 0) (aCons (eLst (aCons (eC (.int 1)) (aCons (eC (.int 8)) (aCons (eC (.int 9)) (aCons (eC (.int 10)) aNil))))) aNil))) (gNm 5))
  (sDrop (eMeth "list" appendM (eVar 3) (aCons (eArg tupM (aCons (eComp (iArg rng1 (aCons (eVar 1) aNil)) [10] (gNm 10) tTrue (eBin addM (eVar 5) (eCall mDraw 2 gAll (aCons (eVar 0) (aCons (eBin subM (eC (.int 13)) (eVar 5)) aNil))))) aNil)) aNil))))
theorem range_at {n : Nat} {i : Nat} {x : D} {lo : Int} (h : (rangeD lo n).xs[i]? = some x) : i < n ∧ x = .int (lo + i) := by
  have h' : ((List.range n).map fun k : Nat => D.int (lo + (k : Int)))[i]? = some x := h
  rw [List.getElem?_map] at h'
  by_cases hi : i < n
  · rw [List.getElem?_range hi] at h'
    cases h'
    exact ⟨hi, rfl⟩
  · rw [List.getElem?_eq_none (by simpa using hi)] at h'
    cases h'
theorem range_len {n : Nat} {lo : Int} : (rangeD lo n).xs.length = n := by simp [rangeD]
theorem T_row {w : W} {d c R h : Nat} {x2 : D} {s4 s5 : Option D} {rows : List (List Int)} (hd : Deck w d c) (hR : w[R]? = some (.lst (rows.map rowD))) (h1 : R ≠ d) (h2 : R ≠ c) (hh : 1 ≤ h ∧ h ≤ 6) (hl : rows.length ≤ 10) :
    T (bRow [some (.ref d), some (.int h), some x2, some (.ref R), s4, s5, none, none, none, none, none, none] w) fun f w' => ∃ s5' row, f = .nx [some (.ref d), some (.int h), some x2, some (.ref R), s4, s5', none, none, none, none, none, none] ∧
      Deck w' d c ∧ w'.length = w.length ∧ (∀ i, i ≠ d → i ≠ c → i ≠ R → w'[i]? = w[i]?) ∧ w'[R]? = some (.lst ((rows ++ [row]).map rowD)) ∧ row.length = h ∧ ∀ x ∈ row, 1 ≤ x ∧ x ≤ 12 := by
  have sl : ∀ n : Nat, n ≤ 100 → n ≤ sizeLine := fun n hn => by rw [sizeLine_eq]; omega
  simp only [bRow, T_seq, T_asg, T_call, T_aCons, T_V, T_lst, T_C, T_aNil, List.getElem?_cons_zero, List.getElem?_cons_succ, List.length_cons, List.length_nil, gAll]
  refine ⟨sl 4 (by omega), trivial, T_pick hd (by simp) (by simp) fun x w1 hx d1 k1 => ?_⟩
  obtain ⟨low, rfl, lo1, lo2⟩ : ∃ low : Int, x = .int low ∧ 1 ≤ low ∧ low ≤ 10 := by
    simp only [List.mem_cons, List.not_mem_nil, or_false] at hx
    rcases hx with rfl | rfl | rfl | rfl
    · exact ⟨1, rfl, by omega, by omega⟩
    · exact ⟨8, rfl, by omega, by omega⟩
    · exact ⟨9, rfl, by omega, by omega⟩
    · exact ⟨10, rfl, by omega, by omega⟩
  have hR1 := k1.obj hR h1 h2
  simp only [T_nm, Then_nx, T_drop, T_meth, T_V, T_aCons, T_arg, T_comp, T_iArg, T_aNil, List.set_cons_zero, List.set_cons_succ, List.getElem?_cons_zero, List.getElem?_cons_succ, tyD, hR1, true_and]
  rw [T_rng1 (by omega) (by omega)]
  refine ⟨by rw [range_len]; exact sl _ (by omega), ?_⟩
  have cl := T_compL (it := rangeD 0 (h : Int).toNat) (vs := [10]) (g := gNm 10) (t := tTrue) (e := eBin addM (eVar 5) (eCall mDraw 2 gAll (aCons (eVar 0) (aCons (eBin subM (eC (.int 13)) (eVar 5)) aNil)))) (σ := [some (.ref d), some (.int h), some x2, some (.ref R), s4, some (.int low), none, none, none, none, none, none])
    (P := fun ys w2 => ∃ row : List Int, ys = row.map D.int ∧ row.length = h ∧ (∀ x ∈ row, 1 ≤ x ∧ x ≤ 12) ∧ Deck w2 d c ∧ Kept w w2 d c)
    (fun i acc w2 => ∃ row : List Int, acc = row.map D.int ∧ row.length = i ∧ (∀ x ∈ row, 1 ≤ x ∧ x ≤ 12) ∧ Deck w2 d c ∧ Kept w w2 d c) (fun _ _ _ _ => trivial)
    (fun i x acc w2 hx ⟨row, ea, el, er, dk, kp⟩ => by
      simp only [T_nm, T_tTrue, if_true, T_bin, T_V, T_C, T_call, T_aCons, T_aNil, T_sub, wipeD, List.set_cons_zero, List.set_cons_succ, List.getElem?_cons_zero, List.getElem?_cons_succ, List.length_cons, List.length_nil, gAll]
      refine ⟨trivial, T_draw dk (by omega) (by omega) fun r w3 r0 r1 dk3 kp3 => ?_⟩
      rw [T_add]
      refine ⟨row ++ [low + r], by rw [ea]; simp, by simp [el], fun z hz => ?_, dk3, kp.trans kp3⟩
      rcases List.mem_append.mp hz with hz | hz
      · exact er z hz
      · simp at hz; subst hz; constructor <;> omega)
    (fun acc w2 ⟨row, ea, el, er, dk, kp⟩ => ⟨row, ea, by rw [el, range_len]; omega, er, dk, kp⟩) (i := 0) (acc := []) (w := w1) (Nat.zero_le _) ⟨[], rfl, rfl, by simp, d1, k1⟩
  rw [List.drop_zero] at cl
  refine cl.mono fun ys w2 _ hP => ?_
  rw [List.nil_append] at hP
  obtain ⟨row, rfl, el, er, dk, kp⟩ := hP
  have hR2 := kp.obj hR h1 h2
  have tm : tupM [.lst (row.map D.int)] w2 = .ok (.tup (row.map D.int)) w2 := rfl
  rw [tm, T_ok, T_append hR2]
  refine ⟨by rw [List.length_map, sizeLine_eq]; omega, _, row, rfl, dk.set h1 h2, by rw [List.length_set]; exact kp.1, fun i g1 g2 g3 => by rw [List.getElem?_set_ne (Ne.symm g3)]; exact kp.2 i g1 g2, ?_, el, er⟩
  rw [List.getElem?_set_self (List.getElem?_eq_some_iff.mp hR2).1]
  simp [rowD]
end Pc

set_option Elab.async false
set_option linter.all false
set_option maxRecDepth 100000
set_option maxHeartbeats 4000000
set_option autoImplicit false
/-! L7: the laws' models: all ranks, the numbers. -/
namespace Pc
open PySem PySem.Spec PyProof.Rows L2
noncomputable def bRanks : MS := sFor (iArg rng1 (aCons (eVar 2) aNil)) (gNm 4) bRow
theorem T_ranks {w : W} {d c R h n : Nat} (hd : Deck w d c) (hR : w[R]? = some (.lst [])) (h1 : R ≠ d) (h2 : R ≠ c) (hh : 1 ≤ h ∧ h ≤ 6) (hn : 1 ≤ n ∧ n ≤ 4) :
    T (bRanks [some (.ref d), some (.int h), some (.int n), some (.ref R), none, none, none, none, none, none, none, none] w) fun f w' => ∃ s4 s5 rows, f = .nx [some (.ref d), some (.int h), some (.int n), some (.ref R), s4, s5, none, none, none, none, none, none] ∧
      Deck w' d c ∧ w'.length = w.length ∧ (∀ i, i ≠ d → i ≠ c → i ≠ R → w'[i]? = w[i]?) ∧ w'[R]? = some (.lst (rows.map rowD)) ∧ rows.length = n ∧ RanksOk rows h := by
  simp only [bRanks, T_for, T_iArg, T_aCons, T_V, T_aNil, List.getElem?_cons_zero, List.getElem?_cons_succ]
  rw [T_rng1 (by omega) (by omega)]
  have fl := T_forL (it := rangeD 0 (n : Int).toNat) (g := gNm 4) (body := bRow) (P := fun f w' => ∃ s4 s5 rows, f = .nx [some (.ref d), some (.int h), some (.int n), some (.ref R), s4, s5, none, none, none, none, none, none] ∧
      Deck w' d c ∧ w'.length = w.length ∧ (∀ i, i ≠ d → i ≠ c → i ≠ R → w'[i]? = w[i]?) ∧ w'[R]? = some (.lst (rows.map rowD)) ∧ rows.length = n ∧ RanksOk rows h)
    (fun i σ w' => ∃ s4 s5 rows, σ = [some (.ref d), some (.int h), some (.int n), some (.ref R), s4, s5, none, none, none, none, none, none] ∧
      Deck w' d c ∧ w'.length = w.length ∧ (∀ i, i ≠ d → i ≠ c → i ≠ R → w'[i]? = w[i]?) ∧ w'[R]? = some (.lst (rows.map rowD)) ∧ rows.length = i ∧ ∀ r ∈ rows, r.length = h ∧ ∀ x ∈ r, 1 ≤ x ∧ x ≤ 12) (fun _ _ _ _ => trivial)
    (fun i x σ w1 hx ⟨s4, s5, rows, es, dk, kl, ka, kR, el, er⟩ => by
      subst es
      have hi := (range_at hx).1
      simp only [T_nm, List.set_cons_zero, List.set_cons_succ]
      refine (T_row dk kR h1 h2 hh (by omega)).mono fun f w2 _ hf => ?_
      obtain ⟨s5', row, rfl, g1, g2, g3, g4, g5, g6⟩ := hf
      refine ⟨_, s5', rows ++ [row], rfl, g1, g2.trans kl, fun j j1 j2 j3 => (g3 j j1 j2 j3).trans (ka j j1 j2 j3), g4, by simp [el], fun r hr => ?_⟩
      rcases List.mem_append.mp hr with hr | hr
      · exact er r hr
      · simp at hr; subst hr; exact ⟨g5, g6⟩)
    (fun σ w1 ⟨s4, s5, rows, es, dk, kl, ka, kR, el, er⟩ => ⟨s4, s5, rows, by rw [es], dk, kl, ka, kR, by rw [el, range_len]; omega, ⟨hh.1, hh.2, er⟩⟩) (i := 0) (σ := [some (.ref d), some (.int h), some (.int n), some (.ref R), none, none, none, none, none, none, none, none]) (w := w) (Nat.zero_le _)
    ⟨none, none, [], rfl, hd, rfl, fun _ _ _ _ => rfl, hR, rfl, by simp⟩
  rw [List.drop_zero] at fl
  exact fl
end Pc

set_option Elab.async false
set_option linter.all false
set_option maxRecDepth 100000
set_option maxHeartbeats 4000000
set_option autoImplicit false
/-! L8: the laws' models: the ties. -/
namespace Pc
open PySem PySem.Spec PyProof.Rows L2
open PySem.W (dataLe)
def l3 (t : Int × Int × Int) : List Int := [t.1, t.2.1, t.2.2]
def le3 (t u : Int × Int × Int) : Bool := decide (l3 t ≤ l3 u)
theorem tie_py {w : W} (t : Int × Int × Int) : (tieD t).py w = some (.tuple [.int t.1, .int t.2.1, .int t.2.2]) := rfl
theorem sort_ties {w : W} {ts : List (Int × Int × Int)} : (ts.map tieD).mergeSort (dataLe false (pyOf w)) = (ts.mergeSort le3).map tieD := by
  refine (List.map_mergeSort fun a _ b _ => ?_).symm
  have e : dataLe false (pyOf w) (tieD a) (tieD b) = dataLe false (fun t : Int × Int × Int => .list ((l3 t).map .int)) a b := rfl
  rw [e, PySem.W.dataLe_rows]
  rfl
theorem sorted_ties {ts : List (Int × Int × Int)} : (ts.mergeSort le3).Pairwise fun a b => l3 a ≤ l3 b := by
  have h := List.pairwise_mergeSort (le := le3) (fun a b c h1 h2 => by
    simp only [le3, decide_eq_true_eq] at *
    exact List.le_trans h1 h2) (fun a b => by
    simp only [le3, Bool.or_eq_true, decide_eq_true_eq]
    exact List.le_total _ _) ts
  exact h.imp fun h => by simpa [le3] using h
theorem rising {ts : List (Int × Int × Int)} (h : ts.Pairwise fun a b => ¬(a.1 = b.1 ∧ a.2.1 = b.2.1)) : (ts.mergeSort le3).Pairwise fun a b => a.1 < b.1 ∨ (a.1 = b.1 ∧ a.2.1 < b.2.1) := by
  have p := List.mergeSort_perm ts le3
  have h2 : (ts.mergeSort le3).Pairwise fun a b => ¬(a.1 = b.1 ∧ a.2.1 = b.2.1) := (p.pairwise_iff fun {a b} hab hba => hab ⟨hba.1.symm, hba.2.symm⟩).mpr h
  refine (sorted_ties.and h2).imp fun {a b} ⟨g1, g2⟩ => ?_
  obtain ⟨a1, a2, a3⟩ := a
  obtain ⟨b1, b2, b3⟩ := b
  simp only [l3, List.cons_le_cons_iff] at g1 g2 ⊢
  rcases g1 with g | ⟨g, g' | ⟨g', _⟩⟩
  · exact .inl g
  · exact .inr ⟨g, g'⟩
  · exact absurd ⟨g, g'⟩ g2
/-- sorted(bonds) -/
theorem sort_tie_ok {w : W} {ts : List (Int × Int × Int)} (h : ts.length ≤ 100) : sortD (ts.map tieD) w = some ((ts.mergeSort le3).map tieD) := by
  unfold sortD
  rw [sort_ties, if_pos]
  refine ⟨?_, ?_, by rw [List.length_map, sizeLine_eq]; omega⟩
  · rw [List.all_eq_true]
    intro d hd
    obtain ⟨t, _, rfl⟩ := List.mem_map.mp hd
    rfl
  · have e : (ts.map tieD).map (pyOf w) = ts.map fun t => .tuple [.int t.1, .int t.2.1, .int t.2.2] := by rw [List.map_map]; rfl
    rw [e]
    unfold sortOk
    simp only [Bool.and_eq_true, Bool.or_eq_true, List.all_eq_true]
    refine ⟨⟨fun p hp q hq => ?_, .inl fun p hp => ?_⟩, fun p hp => ?_⟩
    · obtain ⟨t, _, rfl⟩ := List.mem_map.mp hp
      obtain ⟨u, _, rfl⟩ := List.mem_map.mp hq
      simp [PySem.W.alike, PySem.W.alikeAll]
    · obtain ⟨t, _, rfl⟩ := List.mem_map.mp hp
      rfl
    · obtain ⟨t, _, rfl⟩ := List.mem_map.mp hp
      simp [PyData.depth, PyData.depthAll]
/-- a pair in a list of pairs -/
def pairD (p : Int × Int) : D := .tup [.int p.1, .int p.2]
def pairP (p : Int × Int) : PyData := .tuple [.int p.1, .int p.2]
theorem can_pairs : ∀ ps : List (Int × Int), PyData.canLayAll0 (ps.map pairP) = true
  | [] => rfl
  | p :: ps => by simp [PyData.canLayAll0, PyData.canLay0, can_pairs ps, pairP]
theorem dep_pairs : ∀ ps : List (Int × Int), PyData.depthAll (ps.map pairP) ≤ 2
  | [] => by simp [PyData.depthAll]
  | p :: ps => by
    have := dep_pairs ps
    simp only [List.map_cons, PyData.depthAll, PyData.depth, pairP] at *
    omega
theorem lay_pairs (ps : List (Int × Int)) : SeqAt.shaped (.list (ps.map pairP)) = true := by
  have h1 := can_pairs ps
  have h2 := dep_pairs ps
  unfold SeqAt.shaped
  simp [PyData.canLay0, PyData.depth, h1]
  omega
theorem lay_pair (p : Int × Int) : SeqAt.shaped (pairP p) = true := by
  unfold SeqAt.shaped
  simp [pairP, PyData.canLay0, PyData.canLayAll0, PyData.depth, PyData.depthAll]
theorem pys_pairs (f : Nat → Option PyData) : ∀ ps : List (Int × Int), D.pysR f (ps.map pairD) = some (ps.map pairP)
  | [] => rfl
  | p :: ps => by
    simp only [List.map_cons, D.pysR, pys_pairs f ps]
    rfl
theorem in_pairs {w : W} {p : Int × Int} {ps : List (Int × Int)} : inD (pairD p) (.lst (ps.map pairD)) w = some (ps.any fun q => decide (q = p)) := by
  have e1 : (pairD p).py w = some (pairP p) := rfl
  have e2 : D.py w (.lst (ps.map pairD)) = some (.list (ps.map pairP)) := by
    show (D.pysR _ (ps.map pairD)).map PyData.list = _
    rw [pys_pairs]
    rfl
  show inSeqD (pairD p) (.lst (ps.map pairD)) w = _
  unfold inSeqD
  rw [e1, e2]
  simp only [lay_pairs, lay_pair, and_self, if_true]
  congr 1
  rw [List.any_map]
  congr 1
  funext q
  obtain ⟨q1, q2⟩ := q
  obtain ⟨p1, p2⟩ := p
  by_cases h1 : q1 = p1 <;> by_cases h2 : q2 = p2 <;> simp [pairP, PyData.eqv, PyData.eqvAll, h1, h2]
end Pc

set_option Elab.async false
set_option linter.all false
set_option maxRecDepth 100000
set_option maxHeartbeats 4000000
set_option autoImplicit false
/-! L9: the laws' models: the loop that draws the ties. -/
namespace Pc
open PySem PySem.Spec PyProof.Rows L2
noncomputable def bTie : MS := (sSeq (sAsg (eTup (aCons (eCall mDraw 2 gAll (aCons (eVar 0) (aCons (eVar 1) aNil))) (aCons (eCall mDraw 2 gAll (aCons (eVar 0) (aCons (eC (.int 10)) aNil))) (aCons (eBin addM (eC (.int 1)) (eCall mDraw 2 gAll (aCons (eVar 0) (aCons (eC (.int 11)) aNil)))) aNil)))) (gNm 9))
  (sIf (tVal (eBin notInM (eSl slM (eVar 9) oNone (oSome (eC (.int 2)))) (eComp (iSeq (eVar 7)) [11] (gNm 11) tTrue (eSl slM (eVar 11) oNone (oSome (eC (.int 2))))))) (sDrop (eMeth "list" appendM (eVar 7) (aCons (eVar 9) aNil))) sNext))
theorem sl_tie {t : Int × Int × Int} {w : W} : slM (tieD t) none (some 2) w = .ok (pairD (t.1, t.2.1)) w := rfl
structure BondsOk (ts : List (Int × Int × Int)) (h : Nat) : Prop where
  each : ∀ t ∈ ts, (0 ≤ t.1 ∧ t.1 < h) ∧ (0 ≤ t.2.1 ∧ t.2.1 ≤ 9) ∧ (1 ≤ t.2.2 ∧ t.2.2 ≤ 11)
  apart : ts.Pairwise fun a b => ¬(a.1 = b.1 ∧ a.2.1 = b.2.1)
theorem T_tie {w : W} {d c B h : Nat} {x2 x3 x6 : D} {s4 s5 s8 s9 : Option D} {ts : List (Int × Int × Int)} (hd : Deck w d c) (hB : w[B]? = some (.lst (ts.map tieD))) (h1 : B ≠ d) (h2 : B ≠ c) (hh : 1 ≤ h ∧ h ≤ 6) (hl : ts.length ≤ 10) (ok : BondsOk ts h) :
    T (bTie [some (.ref d), some (.int h), some x2, some x3, s4, s5, some x6, some (.ref B), s8, s9, none, none] w) fun f w' => ∃ s9' ts', f = .nx [some (.ref d), some (.int h), some x2, some x3, s4, s5, some x6, some (.ref B), s8, s9', none, none] ∧
      Deck w' d c ∧ w'.length = w.length ∧ (∀ i, i ≠ d → i ≠ c → i ≠ B → w'[i]? = w[i]?) ∧ w'[B]? = some (.lst (ts'.map tieD)) ∧ ts'.length ≤ ts.length + 1 ∧ BondsOk ts' h := by
  have sl : ∀ n : Nat, n ≤ 100 → n ≤ sizeLine := fun n hn => by rw [sizeLine_eq]; omega
  simp only [bTie, T_seq, T_asg, T_call, T_aCons, T_V, T_tup, T_C, T_aNil, List.getElem?_cons_zero, List.getElem?_cons_succ, List.length_cons, List.length_nil, gAll]
  refine ⟨trivial, T_draw hd (by omega) (by omega) fun a w1 a0 a1 d1 k1 => ⟨trivial, T_draw d1 (by omega) (by omega) fun b w2 b0 b1 d2 k2 => ?_⟩⟩
  simp only [T_bin, T_C, T_call, T_aCons, T_V, T_aNil, List.getElem?_cons_zero, List.getElem?_cons_succ, List.length_cons, List.length_nil, gAll]
  refine ⟨trivial, T_draw d2 (by omega) (by omega) fun e w3 e0 e1 d3 k3 => ?_⟩
  have kk := (k1.trans k2).trans k3
  have hB3 := kk.obj hB h1 h2
  rw [T_add]
  refine ⟨sl 3 (by omega), ?_⟩
  obtain ⟨t, ht⟩ : ∃ t : Int × Int × Int, t = (a, b, 1 + e) := ⟨_, rfl⟩
  have td : (D.tup [.int a, .int b, .int (1 + e)]) = tieD t := by rw [ht]; rfl
  simp only [td, T_nm, Then_nx, T_sif, T_val, T_bin, T_sl, T_V, T_oNone, T_oSome, T_C, sl_tie, T_ok, T_comp, T_iSeq, T_itR hB3, List.set_cons_zero, List.set_cons_succ, List.getElem?_cons_zero, List.getElem?_cons_succ]
  refine ⟨by rw [List.length_map]; exact sl _ (by omega), ?_⟩
  have cl := T_compL (it := ⟨ts.map tieD, holds B (.lst (ts.map tieD))⟩) (vs := [11]) (g := gNm 11) (t := tTrue) (e := eSl slM (eVar 11) oNone (oSome (eC (.int 2)))) (σ := [some (.ref d), some (.int h), some x2, some x3, s4, s5, some x6, some (.ref B), s8, some (tieD t), none, none])
    (P := fun ys w4 => w4 = w3 ∧ ys = (ts.map fun t => (t.1, t.2.1)).map pairD) (fun i acc w4 => w4 = w3 ∧ acc = ((ts.take i).map fun t => (t.1, t.2.1)).map pairD) (fun _ _ _ h => by rw [h.1]; exact hB3)
    (fun i x acc w4 hx h => by
      obtain ⟨rfl, rfl⟩ := h
      have hx' : (ts.map tieD)[i]? = some x := hx
      rw [List.getElem?_map] at hx'
      cases hz : ts[i]? with
      | none => rw [hz] at hx'; cases hx'
      | some z =>
        rw [hz] at hx'
        cases hx'
        simp only [T_nm, T_tTrue, if_true, T_sl, T_V, T_oNone, T_oSome, T_C, sl_tie, T_ok, wipeD, List.set_cons_zero, List.set_cons_succ, List.getElem?_cons_zero, List.getElem?_cons_succ, true_and]
        rw [List.take_add_one, hz]
        simp)
    (fun acc w4 h => by
      obtain ⟨rfl, rfl⟩ := h
      refine ⟨rfl, ?_⟩
      rw [List.take_of_length_le (by simp)]) (i := 0) (acc := []) (w := w3) (Nat.zero_le _) ⟨rfl, rfl⟩
  rw [List.drop_zero] at cl
  refine cl.mono fun ys w4 _ hP => ?_
  rw [List.nil_append] at hP
  obtain ⟨rfl, rfl⟩ := hP
  rw [T_notIn]
  refine ⟨_, in_pairs, ?_⟩
  simp only
  split
  · rename_i hno
    simp only [T_drop, T_meth, T_V, T_aCons, T_aNil, List.getElem?_cons_zero, List.getElem?_cons_succ, tyD, hB3, true_and]
    rw [T_append hB3]
    refine ⟨by rw [List.length_map, sizeLine_eq]; omega, _, ts ++ [t], rfl, d3.set h1 h2, by rw [List.length_set]; exact kk.1, fun i g1 g2 g3 => by rw [List.getElem?_set_ne (Ne.symm g3)]; exact kk.2 i g1 g2, ?_, by simp, ?_, ?_⟩
    · rw [List.getElem?_set_self (List.getElem?_eq_some_iff.mp hB3).1]
      simp
    · intro u hu
      rcases List.mem_append.mp hu with hu | hu
      · exact ok.each u hu
      · simp at hu; subst hu; subst ht; refine ⟨⟨a0, a1⟩, ⟨b0, ?_⟩, ?_, ?_⟩ <;> simp <;> omega
    · rw [List.pairwise_append]
      refine ⟨ok.apart, by simp, fun u hu v hv => ?_⟩
      simp at hv
      subst hv
      simp only [Bool.not_eq_true', List.any_eq_false, List.mem_map, decide_eq_true_eq] at hno
      intro z
      exact hno _ ⟨u, hu, rfl⟩ (by rw [z.1, z.2])
  · rw [T_next]
    exact ⟨_, ts, rfl, d3, kk.1, fun i g1 g2 _ => kk.2 i g1 g2, hB3, by omega, ok⟩
end Pc

set_option Elab.async false
set_option linter.all false
set_option maxRecDepth 100000
set_option maxHeartbeats 4000000
set_option autoImplicit false
/-! L10: the laws' models: all ties. -/
namespace Pc
open PySem PySem.Spec PyProof.Rows L2
noncomputable def bTies : MS := sFor (iArg rng1 (aCons (eCall mDraw 2 gAll (aCons (eVar 0) (aCons (eC (.int 4)) aNil))) aNil)) (gNm 8) bTie
theorem T_ties {w : W} {d c B h : Nat} {x2 x3 x6 : D} {s4 s5 : Option D} (hd : Deck w d c) (hB : w[B]? = some (.lst [])) (h1 : B ≠ d) (h2 : B ≠ c) (hh : 1 ≤ h ∧ h ≤ 6) :
    T (bTies [some (.ref d), some (.int h), some x2, some x3, s4, s5, some x6, some (.ref B), none, none, none, none] w) fun f w' => ∃ s8 s9 ts, f = .nx [some (.ref d), some (.int h), some x2, some x3, s4, s5, some x6, some (.ref B), s8, s9, none, none] ∧
      Deck w' d c ∧ w'.length = w.length ∧ (∀ i, i ≠ d → i ≠ c → i ≠ B → w'[i]? = w[i]?) ∧ w'[B]? = some (.lst (ts.map tieD)) ∧ ts.length ≤ 3 ∧ BondsOk ts h := by
  simp only [bTies, T_for, T_iArg, T_aCons, T_call, T_V, T_C, T_aNil, List.getElem?_cons_zero, List.getElem?_cons_succ, List.length_cons, List.length_nil, gAll]
  refine ⟨trivial, T_draw hd (by omega) (by omega) fun n w1 n0 n1 d1 k1 => ?_⟩
  rw [T_rng1 n0 (by omega)]
  have fl := T_forL (it := rangeD 0 n.toNat) (g := gNm 8) (body := bTie) (P := fun f w' => ∃ s8 s9 ts, f = .nx [some (.ref d), some (.int h), some x2, some x3, s4, s5, some x6, some (.ref B), s8, s9, none, none] ∧
      Deck w' d c ∧ w'.length = w.length ∧ (∀ i, i ≠ d → i ≠ c → i ≠ B → w'[i]? = w[i]?) ∧ w'[B]? = some (.lst (ts.map tieD)) ∧ ts.length ≤ 3 ∧ BondsOk ts h)
    (fun i σ w' => ∃ s8 s9 ts, σ = [some (.ref d), some (.int h), some x2, some x3, s4, s5, some x6, some (.ref B), s8, s9, none, none] ∧
      Deck w' d c ∧ w'.length = w.length ∧ (∀ i, i ≠ d → i ≠ c → i ≠ B → w'[i]? = w[i]?) ∧ w'[B]? = some (.lst (ts.map tieD)) ∧ ts.length ≤ i ∧ BondsOk ts h) (fun _ _ _ _ => trivial)
    (fun i x σ w1 hx ⟨s8, s9, ts, es, dk, kl, ka, kB, el, ok⟩ => by
      subst es
      have hi := (range_at hx).1
      simp only [T_nm, List.set_cons_zero, List.set_cons_succ]
      refine (T_tie dk kB h1 h2 hh (by omega) ok).mono fun f w2 _ hf => ?_
      obtain ⟨s9', ts', rfl, g1, g2, g3, g4, g5, g6⟩ := hf
      exact ⟨_, s9', ts', rfl, g1, g2.trans kl, fun j j1 j2 j3 => (g3 j j1 j2 j3).trans (ka j j1 j2 j3), g4, by omega, g6⟩)
    (fun σ w1 ⟨s8, s9, ts, es, dk, kl, ka, kB, el, ok⟩ => ⟨s8, s9, ts, by rw [es], dk, kl, ka, kB, by rw [range_len] at el; omega, ok⟩) (i := 0) (σ := [some (.ref d), some (.int h), some x2, some x3, s4, s5, some x6, some (.ref B), none, none, none, none]) (w := w1) (Nat.zero_le _)
    ⟨none, none, [], rfl, d1, k1.1, fun i g1 g2 _ => k1.2 i g1 g2, k1.obj hB h1 h2, Nat.le_refl _, ⟨by simp, by simp⟩⟩
  rw [List.drop_zero] at fl
  exact fl
/-- sorted ties are ties of a plan -/
theorem BondsOk.ties {ts : List (Int × Int × Int)} {h : Nat} (b : BondsOk ts h) (l : ts.length ≤ 6) : TiesOk (ts.mergeSort le3) h :=
  ⟨by rw [List.length_mergeSort]; exact l, fun t ht => b.each t (List.mem_mergeSort.mp ht), rising b.apart⟩
end Pc

set_option Elab.async false
set_option linter.all false
set_option maxRecDepth 100000
set_option maxHeartbeats 4000000
set_option autoImplicit false
/-! L11: the laws' models, whole. -/
namespace Pc
open PySem PySem.Spec PyProof.Rows L2
section
variable {σ : Sg} {w : W} {P : D → W → Prop} {PP : List (D × D) → W → Prop}
theorem T_dNil : T (dNil σ w) PP = PP [] w := by unfold T; rfl
theorem T_dCons {a b : ME} {r : MP} : T (dCons a b r σ w) PP = T (a σ w) fun k w1 => T (b σ w1) fun v w2 => T (r σ w2) fun ps w3 => PP ((k, v) :: ps) w3 := by unfold dCons; simp only [T_bind, T_ok]
theorem T_dct {m : MP} : T (eDct m σ w) P = T (m σ w) fun ps w1 => ∃ kvs, keyed ps = some kvs ∧ kvs.length ≤ 15 ∧ P (.ref w1.length) (w1 ++ [.dK (mergeD [] kvs)]) := by
  unfold eDct
  simp only [T_bind]
  congr 1; funext ps w1
  cases keyed ps with
  | none => simp [T]
  | some kvs => simp [T_guard, T_ok]
end
theorem put3 {a b c d : D} : putD [((Sum.inr "ranks" : Key), a), (.inr "every", b), (.inr "lost", c)] (.inr "slow") d = [(.inr "ranks", a), (.inr "every", b), (.inr "lost", c), (.inr "slow", d)] := by rfl
theorem put4 {a b c d e : D} : putD [((Sum.inr "ranks" : Key), a), (.inr "every", b), (.inr "lost", c), (.inr "slow", d)] (.inr "bears") e = [(.inr "ranks", a), (.inr "every", b), (.inr "lost", c), (.inr "slow", d), (.inr "bears", e)] := by rfl
theorem put5 {a b c d e f : D} : putD [((Sum.inr "ranks" : Key), a), (.inr "every", b), (.inr "lost", c), (.inr "slow", d), (.inr "bears", e)] (.inr "gap") f = [(.inr "ranks", a), (.inr "every", b), (.inr "lost", c), (.inr "slow", d), (.inr "bears", e), (.inr "gap", f)] := by rfl
theorem put6 {a b c d e f g : D} : putD [((Sum.inr "ranks" : Key), a), (.inr "every", b), (.inr "lost", c), (.inr "slow", d), (.inr "bears", e), (.inr "gap", f)] (.inr "hold") g = [(.inr "ranks", a), (.inr "every", b), (.inr "lost", c), (.inr "slow", d), (.inr "bears", e), (.inr "gap", f), (.inr "hold", g)] := by rfl
theorem put7 {a b c d e f g h : D} : putD [((Sum.inr "ranks" : Key), a), (.inr "every", b), (.inr "lost", c), (.inr "slow", d), (.inr "bears", e), (.inr "gap", f), (.inr "hold", g)] (.inr "takes") h = [(.inr "ranks", a), (.inr "every", b), (.inr "lost", c), (.inr "slow", d), (.inr "bears", e), (.inr "gap", f), (.inr "hold", g), (.inr "takes", h)] := by rfl
theorem put8 {a b c d e f g h i : D} : putD [((Sum.inr "ranks" : Key), a), (.inr "every", b), (.inr "lost", c), (.inr "slow", d), (.inr "bears", e), (.inr "gap", f), (.inr "hold", g), (.inr "takes", h)] (.inr "ties") i = [(.inr "ranks", a), (.inr "every", b), (.inr "lost", c), (.inr "slow", d), (.inr "bears", e), (.inr "gap", f), (.inr "hold", g), (.inr "takes", h), (.inr "ties", i)] := by rfl
theorem put9 {a b c d e f g h i j : D} : putD [((Sum.inr "ranks" : Key), a), (.inr "every", b), (.inr "lost", c), (.inr "slow", d), (.inr "bears", e), (.inr "gap", f), (.inr "hold", g), (.inr "takes", h), (.inr "ties", i)] (.inr "hosts") j = [(.inr "ranks", a), (.inr "every", b), (.inr "lost", c), (.inr "slow", d), (.inr "bears", e), (.inr "gap", f), (.inr "hold", g), (.inr "takes", h), (.inr "ties", i), (.inr "hosts", j)] := by rfl
end Pc

set_option Elab.async false
set_option linter.all false
set_option maxRecDepth 100000
set_option maxHeartbeats 4000000
set_option autoImplicit false
/-! L12: the laws' models, whole. -/
namespace Pc
open PySem PySem.Spec PyProof.Rows L2
def NModel : List Str := [("_law_deck_here" : Str), ("_law_houses" : Str), ("_law_addresses" : Str), ("_law_ranks" : Str), ("_law_a" : Str), ("_law_low" : Str), ("_law_found" : Str), ("_law_bonds" : Str), ("_law_k" : Str), ("_law_one" : Str), ("_law_h" : Str), ("_law_other" : Str)]
noncomputable def bM8 : MS := (sSeq (sAsg (eTup (aCons (eArg tupM (aCons (eArg sortedM (aCons (eVar 7) aNil)) aNil)) (aCons (eCall mDraw 2 gAll (aCons (eVar 0) (aCons (eC (.int 3)) aNil))) aNil))) (gTupM 2 (gsCons (gSubM (eVar 6) (eC (.str ("ties" : Str)))) (gsCons (gSubM (eVar 6) (eC (.str ("hosts" : Str)))) gsNil))))
  (sRet (eVar 6)))
noncomputable def bM5 : MS := (sSeq (sAsg (eTup (aCons (eCall mDraw 2 gAll (aCons (eVar 0) (aCons (eC (.int 3)) aNil))) (aCons (eCall mPick 2 gAll (aCons (eVar 0) (aCons (eLst (aCons (eC (.int 0)) (aCons (eC (.int 0)) (aCons (eC (.int 1)) (aCons (eC (.int 4)) (aCons (eC (.int 12)) aNil)))))) aNil))) aNil))) (gTupM 2 (gsCons (gSubM (eVar 6) (eC (.str ("gap" : Str)))) (gsCons (gSubM (eVar 6) (eC (.str ("hold" : Str)))) gsNil))))
  (sSeq (sAsg (eBin gtM (eCall mDraw 2 gAll (aCons (eVar 0) (aCons (eC (.int 3)) aNil))) (eC (.int 0))) (gSubM (eVar 6) (eC (.str ("takes" : Str)))))
  (sSeq (sAsg (eNew aNil) (gNm 7))
  (sSeq bTies bM8))))
noncomputable def bM3 : MS := (sSeq (sAsg (eDct (dCons (eC (.str ("ranks" : Str))) (eArg tupM (aCons (eVar 3) aNil)) (dCons (eC (.str ("every" : Str))) (eBin addM (eC (.int 1)) (eCall mDraw 2 gAll (aCons (eVar 0) (aCons (eC (.int 3)) aNil)))) (dCons (eC (.str ("lost" : Str))) (eCall mDraw 2 gAll (aCons (eVar 0) (aCons (eC (.int 3)) aNil))) dNil)))) (gNm 6))
  (sSeq (sAsg (eBin addM (eC (.int 1)) (eCall mDraw 2 gAll (aCons (eVar 0) (aCons (eC (.int 3)) aNil)))) (gSubM (eVar 6) (eC (.str ("slow" : Str)))))
  (sSeq (sAsg (eBin addM (eBin ixM (eVar 6) (eC (.str ("lost" : Str)))) (eBin mulM (eCall mDraw 2 gAll (aCons (eVar 0) (aCons (eC (.int 2)) aNil))) (eArg intM (aCons (eBin ltA (eBin ixM (eVar 6) (eC (.str ("lost" : Str)))) (eC (.int 3))) aNil)))) (gSubM (eVar 6) (eC (.str ("bears" : Str)))))
  bM5)))
noncomputable def bModel : MS := (sSeq (sAsg (eNew aNil) (gNm 3)) (sSeq bRanks bM3))
noncomputable def mModel : MF := runB bModel NModel
theorem T_M8 {w : W} {d c M B h : Nat} {x2 x3 : D} {s4 s5 s8 s9 : Option D} {a b cc dd e f g : D} {tk : Bool} {ts : List (Int × Int × Int)} (hd : Deck w d c) (hM : w[M]? = some (.dK [(.inr "ranks", a), (.inr "every", b), (.inr "lost", cc), (.inr "slow", dd), (.inr "bears", e), (.inr "gap", f), (.inr "hold", g), (.inr "takes", .bl tk)]))
    (hB : w[B]? = some (.lst (ts.map tieD))) (h1 : M ≠ d) (h2 : M ≠ c) (h3 : M ≠ B) (h4 : B ≠ d) (h5 : B ≠ c) (ht : ts.length ≤ 3) :
    T (bM8 [some (.ref d), some (.int h), some x2, some x3, s4, s5, some (.ref M), some (.ref B), s8, s9, none, none] w) fun fl w' => ∃ z : Int, fl = .rt (.ref M) ∧ 0 ≤ z ∧ z < 3 ∧ Deck w' d c ∧ w'.length = w.length ∧ (∀ i, i ≠ d → i ≠ c → i ≠ M → w'[i]? = w[i]?) ∧
      w'[M]? = some (.dK [(.inr "ranks", a), (.inr "every", b), (.inr "lost", cc), (.inr "slow", dd), (.inr "bears", e), (.inr "gap", f), (.inr "hold", g), (.inr "takes", .bl tk), (.inr "ties", .tup ((ts.mergeSort le3).map tieD)), (.inr "hosts", .int z)]) := by
  have so : sortedM [.ref B] w = .ok (.lst ((ts.mergeSort le3).map tieD)) w := by
    simp only [sortedM, listD, hB, Option.bind_some, sort_tie_ok (Nat.le_trans ht (by omega))]
  have tu : tupM [.lst ((ts.mergeSort le3).map tieD)] w = .ok (.tup ((ts.mergeSort le3).map tieD)) w := rfl
  have sz : ∀ n : Nat, n ≤ 100 → n < sizeLine := fun n hn => by rw [sizeLine_eq]; omega
  simp only [bM8, T_seq, T_asg, T_tup, T_aCons, T_arg, T_V, T_aNil, T_call, T_C, so, tu, T_ok, List.getElem?_cons_zero, List.getElem?_cons_succ, List.length_cons, List.length_nil, gAll]
  refine ⟨trivial, T_draw hd (by omega) (by omega) fun z w1 z0 z1 d1 k1 => ⟨Nat.le_of_lt (sz 2 (by omega)), ?_⟩⟩
  have hM1 := k1.obj hM h1 h2
  have lM : M < w1.length := (List.getElem?_eq_some_iff.mp hM1).1
  simp only [T_gtup, T_gcons, T_gsub, T_V, T_C, T_gnil, List.getElem?_cons_zero, List.getElem?_cons_succ, List.length_cons, List.length_nil, T_setD hM1]
  refine ⟨trivial, sz _ (Nat.le_of_ble_eq_true rfl), ?_⟩
  rw [put8, T_setD (List.getElem?_set_self lM)]
  refine ⟨sz _ (Nat.le_of_ble_eq_true rfl), ?_⟩
  rw [put9, Then_nx, T_ret, T_V]
  refine ⟨z, rfl, z0, z1, (d1.set h1 h2).set h1 h2, by simp [k1.1], fun i g1 g2 g3 => by rw [List.getElem?_set_ne (Ne.symm g3), List.getElem?_set_ne (Ne.symm g3)]; exact k1.2 i g1 g2, ?_⟩
  rw [List.getElem?_set_self (by rw [List.length_set]; exact lM)]
/-- what is told of the model behind its lost, slow, bears -/
structure Rest (m : Mo) (h : Nat) : Prop where
  gap : 0 ≤ m.gap ∧ m.gap ≤ 3
  hold : 0 ≤ m.hold ∧ m.hold ≤ 20
  ties : TiesOk m.ties h
  hosts : 0 ≤ m.hosts ∧ m.hosts ≤ 4
theorem T_M5 {w : W} {d c M h : Nat} {x2 x3 : D} {s4 s5 : Option D} {rows : List (List Int)} {ev lo sl : Int} {be : D} (hd : Deck w d c) (hM : w[M]? = some (.dK [(.inr "ranks", .tup (rows.map rowD)), (.inr "every", .int ev), (.inr "lost", .int lo), (.inr "slow", .int sl), (.inr "bears", be)]))
    (h1 : M ≠ d) (h2 : M ≠ c) (hh : 1 ≤ h ∧ h ≤ 6) :
    T (bM5 [some (.ref d), some (.int h), some x2, some x3, s4, s5, some (.ref M), none, none, none, none, none] w) fun fl w' => ∃ m : Mo, fl = .rt (.ref M) ∧ w'[M]? = some (.dK m.kvs) ∧ m.ranks = rows ∧ m.every = ev ∧ m.lost = lo ∧ m.slow = sl ∧ m.bears = be ∧ Rest m h ∧
      Deck w' d c ∧ w.length ≤ w'.length ∧ ∀ i, i < w.length → i ≠ d → i ≠ c → i ≠ M → w'[i]? = w[i]? := by
  have sz : ∀ n : Nat, n ≤ 100 → n < sizeLine := fun n hn => by rw [sizeLine_eq]; omega
  simp only [bM5, T_seq, T_asg, T_tup, T_lst, T_aCons, T_V, T_aNil, T_call, T_C, List.getElem?_cons_zero, List.getElem?_cons_succ, List.length_cons, List.length_nil, gAll]
  refine ⟨trivial, T_draw hd (by omega) (by omega) fun ga w1 ga0 ga1 d1 k1 => ⟨Nat.le_of_lt (sz 5 (by omega)), trivial, T_pick d1 (by simp) (by simp) fun x w2 hx d2 k2 => ⟨Nat.le_of_lt (sz 2 (by omega)), ?_⟩⟩⟩
  obtain ⟨ho, rfl, ho0, ho1⟩ : ∃ ho : Int, x = .int ho ∧ 0 ≤ ho ∧ ho ≤ 20 := by
    simp only [List.mem_cons, List.not_mem_nil, or_false] at hx
    rcases hx with rfl | rfl | rfl | rfl | rfl
    · exact ⟨0, rfl, by omega, by omega⟩
    · exact ⟨0, rfl, by omega, by omega⟩
    · exact ⟨1, rfl, by omega, by omega⟩
    · exact ⟨4, rfl, by omega, by omega⟩
    · exact ⟨12, rfl, by omega, by omega⟩
  have kk := k1.trans k2
  have hM2 := kk.obj hM h1 h2
  have lM : M < w2.length := (List.getElem?_eq_some_iff.mp hM2).1
  simp only [T_gtup, T_gcons, T_gsub, T_V, T_C, T_gnil, List.getElem?_cons_zero, List.getElem?_cons_succ, List.length_cons, List.length_nil, T_setD hM2]
  refine ⟨trivial, sz _ (Nat.le_of_ble_eq_true rfl), ?_⟩
  rw [put5, T_setD (List.getElem?_set_self lM)]
  refine ⟨sz _ (Nat.le_of_ble_eq_true rfl), ?_⟩
  rw [put6, List.set_set, Then_nx]
  obtain ⟨w3, hw3⟩ : ∃ w3 : W, w3 = w2.set M (.dK [(.inr "ranks", .tup (rows.map rowD)), (.inr "every", .int ev), (.inr "lost", .int lo), (.inr "slow", .int sl), (.inr "bears", be), (.inr "gap", .int ga), (.inr "hold", .int ho)]) := ⟨_, rfl⟩
  rw [← hw3]
  have d3 : Deck w3 d c := by rw [hw3]; exact d2.set h1 h2
  have hM3 : w3[M]? = some (.dK [(.inr "ranks", .tup (rows.map rowD)), (.inr "every", .int ev), (.inr "lost", .int lo), (.inr "slow", .int sl), (.inr "bears", be), (.inr "gap", .int ga), (.inr "hold", .int ho)]) := by rw [hw3]; exact List.getElem?_set_self lM
  simp only [T_seq, T_asg, T_bin, T_aCons, T_V, T_aNil, T_call, T_C, List.getElem?_cons_zero, List.getElem?_cons_succ, List.length_cons, List.length_nil, gAll]
  refine ⟨trivial, T_draw d3 (by omega) (by omega) fun ta w4 ta0 ta1 d4 k4 => ?_⟩
  have hM4 := k4.obj hM3 h1 h2
  have lM4 : M < w4.length := (List.getElem?_eq_some_iff.mp hM4).1
  rw [T_gt, T_gsub, T_V]
  simp only [List.getElem?_cons_zero, List.getElem?_cons_succ, T_C, T_setD hM4]
  refine ⟨sz _ (Nat.le_of_ble_eq_true rfl), ?_⟩
  rw [put7, Then_nx]
  obtain ⟨w5, hw5⟩ : ∃ w5 : W, w5 = w4.set M (.dK [(.inr "ranks", .tup (rows.map rowD)), (.inr "every", .int ev), (.inr "lost", .int lo), (.inr "slow", .int sl), (.inr "bears", be), (.inr "gap", .int ga), (.inr "hold", .int ho), (.inr "takes", .bl (decide (0 < ta)))]) := ⟨_, rfl⟩
  rw [← hw5]
  have d5 : Deck w5 d c := by rw [hw5]; exact d4.set h1 h2
  have hM5 : w5[M]? = some (.dK [(.inr "ranks", .tup (rows.map rowD)), (.inr "every", .int ev), (.inr "lost", .int lo), (.inr "slow", .int sl), (.inr "bears", be), (.inr "gap", .int ga), (.inr "hold", .int ho), (.inr "takes", .bl (decide (0 < ta)))]) := by rw [hw5]; exact List.getElem?_set_self lM4
  have lM5 : M < w5.length := (List.getElem?_eq_some_iff.mp hM5).1
  have l5 : w5.length = w.length := by rw [hw5, List.length_set, k4.1, hw3, List.length_set, kk.1]
  have a5 : ∀ i, i ≠ d → i ≠ c → i ≠ M → w5[i]? = w[i]? := fun i g1 g2 g3 => by
    rw [hw5, List.getElem?_set_ne (Ne.symm g3), k4.2 i g1 g2, hw3, List.getElem?_set_ne (Ne.symm g3)]
    exact kk.2 i g1 g2
  simp only [T_seq, T_asg, T_new, T_aNil, List.length_nil, T_nm, Then_nx, List.set_cons_zero, List.set_cons_succ]
  refine ⟨Nat.zero_le _, ?_⟩
  have dl := d5.lt
  have hB : (w5 ++ [MO.lst []] : W)[w5.length]? = some (.lst []) := by rw [List.getElem?_append_right (Nat.le_refl _)]; simp
  have B1 : w5.length ≠ d := by omega
  have B2 : w5.length ≠ c := by omega
  have BM : M ≠ w5.length := by omega
  refine (T_ties (B := w5.length) (x2 := x2) (x3 := x3) (x6 := .ref M) (s4 := s4) (s5 := s5) (d5.app (g := [.lst []])) hB B1 B2 hh).mono fun f w6 _ hf => ?_
  obtain ⟨s8, s9, ts, rfl, d6, l6, a6, hB6, t3, ok⟩ := hf
  rw [Then_nx]
  have hM6 : w6[M]? = some (.dK [(.inr "ranks", .tup (rows.map rowD)), (.inr "every", .int ev), (.inr "lost", .int lo), (.inr "slow", .int sl), (.inr "bears", be), (.inr "gap", .int ga), (.inr "hold", .int ho), (.inr "takes", .bl (decide (0 < ta)))]) := by
    rw [a6 M h1 h2 BM, List.getElem?_append_left lM5]; exact hM5
  refine (T_M8 (x2 := x2) (x3 := x3) (s4 := s4) (s5 := s5) (s8 := s8) (s9 := s9) (h := h) d6 hM6 hB6 h1 h2 BM B1 B2 t3).mono fun f w7 _ hf => ?_
  obtain ⟨z, rfl, z0, z1, d7, l7, a7, hM7⟩ := hf
  have l56 : w6.length = w5.length + 1 := by rw [l6]; simp
  refine ⟨⟨rows, ev, lo, sl, be, ga, ho, decide (0 < ta), ts.mergeSort le3, z⟩, rfl, hM7, rfl, rfl, rfl, rfl, rfl, ⟨⟨ga0, by show ga ≤ 3; omega⟩, ⟨ho0, ho1⟩, ok.ties (by omega), ⟨z0, by show z ≤ 4; omega⟩⟩, d7, by omega, fun i g0 g1 g2 g3 => ?_⟩
  rw [a7 i g1 g2 g3, a6 i g1 g2 (by omega), List.getElem?_append_left (by omega)]
  exact a5 i g1 g2 g3
end Pc

set_option Elab.async false
set_option linter.all false
set_option maxRecDepth 100000
set_option maxHeartbeats 4000000
set_option autoImplicit false
/-! L13: T_model. -/
namespace Pc
open PySem PySem.Spec PyProof.Rows L2
structure Nums (m : Mo) : Prop where
  every : 1 ≤ m.every ∧ m.every ≤ 5
  lost : 0 ≤ m.lost ∧ m.lost ≤ 3
  slow : 1 ≤ m.slow ∧ m.slow ≤ 4
  bears : ∃ b : Int, m.bears = .int b ∧ 0 ≤ b ∧ b ≤ 3
theorem T_M3 {w : W} {d c R h : Nat} {x2 : D} {s4 s5 : Option D} {rows : List (List Int)} (hd : Deck w d c) (hR : w[R]? = some (.lst (rows.map rowD))) (hh : 1 ≤ h ∧ h ≤ 6) :
    T (bM3 [some (.ref d), some (.int h), some x2, some (.ref R), s4, s5, none, none, none, none, none, none] w) fun fl w' => ∃ (i : Nat) (m : Mo), fl = .rt (.ref i) ∧ w.length ≤ i ∧ w'[i]? = some (.dK m.kvs) ∧ m.ranks = rows ∧ Nums m ∧ Rest m h ∧ Deck w' d c ∧ Grow w w' d c := by
  have sz : ∀ n : Nat, n ≤ 100 → n < sizeLine := fun n hn => by rw [sizeLine_eq]; omega
  have dl := hd.lt
  have tm : tupM [.ref R] w = .ok (.tup (rows.map rowD)) w := by simp only [tupM, listD, hR]
  simp only [bM3, T_seq, T_asg, T_dct, T_dCons, T_dNil, T_C, T_arg, T_aCons, T_aNil, T_V, T_bin, T_call, tm, T_ok, List.getElem?_cons_zero, List.getElem?_cons_succ, List.length_cons, List.length_nil, gAll]
  refine ⟨trivial, T_draw hd (by omega) (by omega) fun e w2 e0 e1 d2 k2 => ?_⟩
  rw [T_add]
  refine ⟨trivial, T_draw d2 (by omega) (by omega) fun lo w3 lo0 lo1 d3 k3 => ?_⟩
  refine ⟨[(.inr "ranks", .tup (rows.map rowD)), (.inr "every", .int (1 + e)), (.inr "lost", .int lo)], rfl, Nat.le_of_ble_eq_true rfl, ?_⟩
  have mg : mergeD [] [((Sum.inr "ranks" : Key), D.tup (rows.map rowD)), (.inr "every", .int (1 + e)), (.inr "lost", .int lo)] = [(.inr "ranks", .tup (rows.map rowD)), (.inr "every", .int (1 + e)), (.inr "lost", .int lo)] := by rfl
  rw [mg, T_nm, Then_nx]
  have k13 := k2.trans k3
  have l13 : w3.length = w.length := k13.1
  obtain ⟨M, hM⟩ : ∃ M, M = w3.length := ⟨_, rfl⟩
  obtain ⟨w4, hw4⟩ : ∃ w4 : W, w4 = w3 ++ [MO.dK [(.inr "ranks", .tup (rows.map rowD)), (.inr "every", .int (1 + e)), (.inr "lost", .int lo)]] := ⟨_, rfl⟩
  rw [← hw4, ← hM]
  have d4 : Deck w4 d c := by rw [hw4]; exact d3.app
  have M1 : M ≠ d := by omega
  have M2 : M ≠ c := by omega
  have hM4 : w4[M]? = some (.dK [(.inr "ranks", .tup (rows.map rowD)), (.inr "every", .int (1 + e)), (.inr "lost", .int lo)]) := by rw [hw4, hM, List.getElem?_append_right (Nat.le_refl _)]; simp
  simp only [T_seq, T_asg, T_bin, T_C, T_call, T_aCons, T_aNil, T_V, List.set_cons_zero, List.set_cons_succ, List.getElem?_cons_zero, List.getElem?_cons_succ, List.length_cons, List.length_nil, gAll]
  refine ⟨trivial, T_draw d4 (by omega) (by omega) fun sl w5 sl0 sl1 d5 k5 => ?_⟩
  have hM5 := k5.obj hM4 M1 M2
  have lM5 : M < w5.length := (List.getElem?_eq_some_iff.mp hM5).1
  rw [T_add, T_gsub, T_V]
  simp only [List.getElem?_cons_zero, List.getElem?_cons_succ, T_C, T_setD hM5]
  refine ⟨sz _ (Nat.le_of_ble_eq_true rfl), ?_⟩
  rw [put3, Then_nx]
  obtain ⟨w6, hw6⟩ : ∃ w6 : W, w6 = w5.set M (.dK [(.inr "ranks", .tup (rows.map rowD)), (.inr "every", .int (1 + e)), (.inr "lost", .int lo), (.inr "slow", .int (1 + sl))]) := ⟨_, rfl⟩
  rw [← hw6]
  have d6 : Deck w6 d c := by rw [hw6]; exact d5.set M1 M2
  have hM6 : w6[M]? = some (.dK [(.inr "ranks", .tup (rows.map rowD)), (.inr "every", .int (1 + e)), (.inr "lost", .int lo), (.inr "slow", .int (1 + sl))]) := by rw [hw6]; exact List.getElem?_set_self lM5
  simp only [T_seq, T_asg, T_bin, T_C, T_call, T_arg, T_aCons, T_aNil, T_V, List.getElem?_cons_zero, List.getElem?_cons_succ, List.length_cons, List.length_nil, gAll, T_ixD hM6]
  refine ⟨.int lo, rfl, trivial, T_draw d6 (by omega) (by omega) fun be w7 be0 be1 d7 k7 => ?_⟩
  have hM7 := k7.obj hM6 M1 M2
  have lM7 : M < w7.length := (List.getElem?_eq_some_iff.mp hM7).1
  rw [T_ixD hM7]
  refine ⟨.int lo, rfl, ?_⟩
  rw [T_lt]
  have im : intM [.bl (decide (lo < 3))] w7 = .ok (.int (if decide (lo < 3) = true then 1 else 0)) w7 := rfl
  rw [im, T_ok, T_mul]
  obtain ⟨q, hq, q0, q1⟩ : ∃ q : Int, q = (if decide (lo < 3) = true then 1 else 0) ∧ 0 ≤ q ∧ q ≤ 1 := ⟨_, rfl, by split <;> omega, by split <;> omega⟩
  rw [← hq]
  have q2 : 0 ≤ be * q ∧ be * q ≤ 1 := by
    have : be = 0 ∨ be = 1 := by omega
    rcases this with rfl | rfl
    · simp
    · simp; exact ⟨q0, q1⟩
  refine ⟨by
    unfold mulOk
    rw [Bool.or_eq_true]
    left
    simp only [Bool.and_eq_true, decide_eq_true_eq]
    omega, ?_⟩
  rw [T_add, T_gsub, T_V]
  simp only [List.getElem?_cons_zero, List.getElem?_cons_succ, T_C, T_setD hM7]
  refine ⟨sz _ (Nat.le_of_ble_eq_true rfl), ?_⟩
  rw [put4, Then_nx]
  refine (T_M5 (h := h) (rows := rows) (x2 := x2) (x3 := .ref R) (s4 := s4) (s5 := s5) (d7.set M1 M2) (List.getElem?_set_self lM7) M1 M2 hh).mono fun f w8 _ hf => ?_
  obtain ⟨m, rfl, hM8, r1, r2, r3, r4, r5, rest, d8, l8, a8⟩ := hf
  have l47 : w7.length = w.length + 1 := by rw [k7.1, hw6, List.length_set, k5.1, hw4, List.length_append, l13]; rfl
  refine ⟨M, m, rfl, by omega, hM8, r1, ⟨by rw [r2]; omega, by rw [r3]; omega, by rw [r4]; omega, ⟨lo + be * q, r5, by omega, by omega⟩⟩, rest, d8, ⟨by rw [List.length_set] at l8; omega, fun i g0 g1 g2 => ?_⟩⟩
  rw [a8 i (by rw [List.length_set]; omega) g1 g2 (by omega), List.getElem?_set_ne (by omega), k7.2 i g1 g2, hw6, List.getElem?_set_ne (by omega), k5.2 i g1 g2, hw4, List.getElem?_append_left (by omega), k13.2 i g1 g2]
theorem T_model {w : W} {d c h n : Nat} {P : D → W → Prop} (hd : Deck w d c) (hh : 1 ≤ h ∧ h ≤ 6) (hn : 1 ≤ n ∧ n ≤ 4)
    (k : ∀ (i : Nat) (m : Mo) (w' : W), w.length ≤ i → w'[i]? = some (.dK m.kvs) → MoOk m h → m.ranks.length = n → Deck w' d c → Grow w w' d c → P (.ref i) w') :
    T (mModel [.ref d, .int h, .int n] w) P := by
  have b : begin NModel [.ref d, .int h, .int n] = [some (.ref d), some (.int h), some (.int n), none, none, none, none, none, none, none, none, none] := rfl
  have dl := hd.lt
  have hR : (w ++ [MO.lst []] : W)[w.length]? = some (.lst []) := by rw [List.getElem?_append_right (Nat.le_refl _)]; simp
  have da : Deck (w ++ [MO.lst []]) d c := hd.app
  have R1 : w.length ≠ d := by omega
  have R2 : w.length ≠ c := by omega
  have tr := T_ranks (w := w ++ [MO.lst []]) (d := d) (c := c) (R := w.length) (h := h) (n := n) da hR R1 R2 hh hn
  unfold mModel bModel
  rw [T_run, b, T_seq, T_asg, T_new, T_aNil]
  refine ⟨Nat.zero_le _, ?_⟩
  rw [T_nm, Then_nx, T_seq]
  simp only [List.set_cons_zero, List.set_cons_succ]
  refine T.mono tr fun f w1 _ hf => ?_
  obtain ⟨s4, s5, rows, rfl, d1, l1, a1, hR1, el, ro⟩ := hf
  rw [Then_nx]
  refine T.mono (T_M3 d1 hR1 hh) fun f w2 _ hf => ?_
  obtain ⟨i, m, rfl, li, hi, er, nu, re, d2, g2⟩ := hf
  have l1' : w1.length = w.length + 1 := by rw [l1]; simp
  refine k i m w2 (by omega) hi ⟨by rw [er]; exact ro, by rw [er, el]; exact hn.1, by rw [er, el]; exact hn.2, nu.every, nu.lost, nu.slow, nu.bears, re.gap, re.hold, re.ties, re.hosts⟩ (by rw [er, el]) d2 ⟨by have := g2.le; omega, fun j g0 g1 g3 => ?_⟩
  rw [g2.at_ j (by omega) g1 g3, a1 j g1 g3 (by omega), List.getElem?_append_left g0]
end Pc

set_option Elab.async false
set_option linter.all false
set_option maxRecDepth 100000
set_option maxHeartbeats 4000000
set_option autoImplicit false
/-! L14: comprehensions that keep the heap. -/
namespace Pc
open PySem PySem.Spec PyProof.Rows L2
section
variable {α β : Type} {it : ItD} {vs : List Nat} {g : MG} {t : MT} {e : ME} {σ : Sg} {w : W} {P : List D → W → Prop}
theorem T_compE (ys : List α) (enc : α → D) (f : α → D) (hx : it.xs = ys.map enc) (hok : it.ok w)
    (h : ∀ y ∈ ys, T (g (enc y) (wipeD σ vs) w) fun σ1 w1 => T (t σ1 w1) fun b w2 => b = true ∧ T (e σ1 w2) fun z w3 => z = f y ∧ w3 = w) (k : P (ys.map f) w) :
    T (compL it vs g t e it.xs σ w) P := by
  have cl := T_compL (it := it) (vs := vs) (g := g) (t := t) (e := e) (σ := σ) (P := P) (fun i acc w1 => w1 = w ∧ acc = (ys.take i).map f) (fun _ _ _ q => by rw [q.1]; exact hok)
    (fun i x acc w1 hi q => by
      obtain ⟨rfl, rfl⟩ := q
      rw [hx, List.getElem?_map] at hi
      cases hy : ys[i]? with
      | none => rw [hy] at hi; cases hi
      | some y =>
        rw [hy] at hi
        cases hi
        refine (h y (List.mem_of_getElem? hy)).mono fun σ1 w2 _ q => q.mono fun b w3 _ q => ?_
        obtain ⟨rfl, q⟩ := q
        rw [if_pos rfl]
        refine q.mono fun z w4 _ q => ⟨q.2, ?_⟩
        rw [List.take_add_one, hy, q.1]
        simp)
    (fun acc w1 q => by
      obtain ⟨rfl, rfl⟩ := q
      rw [hx, List.length_map, List.take_length]
      exact k) (i := 0) (acc := []) (w := w) (Nat.zero_le _) ⟨rfl, rfl⟩
  rw [List.drop_zero] at cl
  exact cl.mono fun _ _ _ q => by simpa using q
theorem T_compF (ys : List α) (enc : α → D) (f : α → D) (p : α → Bool) (hx : it.xs = ys.map enc) (hok : it.ok w)
    (h : ∀ y ∈ ys, T (g (enc y) (wipeD σ vs) w) fun σ1 w1 => T (t σ1 w1) fun b w2 => (w2 = w ∧ b = p y) ∧ (p y = true → T (e σ1 w2) fun z w3 => z = f y ∧ w3 = w)) (k : P ((ys.filter p).map f) w) :
    T (compL it vs g t e it.xs σ w) P := by
  have cl := T_compL (it := it) (vs := vs) (g := g) (t := t) (e := e) (σ := σ) (P := P) (fun i acc w1 => w1 = w ∧ acc = ((ys.take i).filter p).map f) (fun _ _ _ q => by rw [q.1]; exact hok)
    (fun i x acc w1 hi q => by
      obtain ⟨rfl, rfl⟩ := q
      rw [hx, List.getElem?_map] at hi
      cases hy : ys[i]? with
      | none => rw [hy] at hi; cases hi
      | some y =>
        rw [hy] at hi
        cases hi
        refine (h y (List.mem_of_getElem? hy)).mono fun σ1 w2 _ q => q.mono fun b w3 _ q => ?_
        obtain ⟨⟨rfl, rfl⟩, q⟩ := q
        rw [List.take_add_one, hy]
        by_cases hp : p y = true
        · rw [if_pos hp]
          refine (q hp).mono fun z w4 _ q => ⟨q.2, ?_⟩
          rw [q.1]
          simp [List.filter_append, hp]
        · rw [if_neg hp]
          refine ⟨rfl, ?_⟩
          simp [List.filter_append, hp])
    (fun acc w1 q => by
      obtain ⟨rfl, rfl⟩ := q
      rw [hx, List.length_map, List.take_length]
      exact k) (i := 0) (acc := []) (w := w) (Nat.zero_le _) ⟨rfl, rfl⟩
  rw [List.drop_zero] at cl
  exact cl.mono fun _ _ _ q => by simpa using q
theorem boolsD_map (ys : List α) (f : α → Bool) : boolsD (ys.map fun y => D.bl (f y)) = some (ys.map f) := by
  induction ys with
  | nil => rfl
  | cons y ys ih => simp [boolsD, ih]
theorem T_allM {P : D → W → Prop} (ys : List α) (f : α → Bool) : T (allM [.lst (ys.map fun y => .bl (f y))] w) P = P (.bl (ys.all f)) w := by
  have e : allM [.lst (ys.map fun y => .bl (f y))] w = .ok (.bl (ys.all f)) w := by
    simp only [allM, listD, Option.bind_some, boolsD_map]
    congr 2
    rw [List.all_map]
    rfl
  rw [e, T_ok]
theorem T_inL (enc f : β → D) : ∀ (zs : List β) (acc : List D) {P : List D → W → Prop} (hok : it.ok w) (hl : acc.length + zs.length ≤ sizeLine)
    (h : ∀ z ∈ zs, T (g (enc z) (wipeD σ vs) w) fun σ1 w1 => T (t σ1 w1) fun b w2 => b = true ∧ T (e σ1 w2) fun y w3 => y = f z ∧ w3 = w) (k : P (acc ++ zs.map f) w), T (inL it vs g t e acc (zs.map enc) σ w) P
  | [], acc, P, hok, hl, h, k => by
    rw [List.map_nil]
    unfold inL
    rw [if_pos hok, T_ok]
    simpa using k
  | z :: zs, acc, P, hok, hl, h, k => by
    simp only [List.length_cons] at hl
    rw [List.map_cons]
    unfold inL
    rw [if_pos hok, T_bind, T_noX]
    refine (h z (List.mem_cons_self ..)).mono fun σ1 w1 _ q => ?_
    rw [T_bind, T_noX]
    refine q.mono fun b w2 _ q => ?_
    obtain ⟨rfl, q⟩ := q
    rw [if_pos rfl, T_bind, T_noX]
    refine q.mono fun y w3 _ q => ?_
    rw [if_pos (by omega), q.1, q.2]
    exact T_inL enc f zs (acc ++ [f z]) hok (by simp; omega) (fun z hz => h z (List.mem_cons_of_mem _ hz)) (by simpa using k)
theorem T_outL (enc : α → D) (inner : α → List β) (enc1 : β → D) (f : α → β → D) {mi1 : MI} {vs1 : List Nat} {g1 : MG} {t1 : MT} : ∀ (ys : List α) (acc : List D) {P : List D → W → Prop} (hok : it.ok w) (hl : acc.length + (ys.map fun y => (inner y).length).sum ≤ sizeLine)
    (h : ∀ y ∈ ys, T (g (enc y) (wipeD σ vs) w) fun σ1 w1 => T (t σ1 w1) fun b w2 => b = true ∧ T (mi1 σ1 w2) fun it1 w3 => (w3 = w ∧ it1.ok w ∧ it1.xs = (inner y).map enc1) ∧
      ∀ z ∈ inner y, T (g1 (enc1 z) (wipeD σ1 vs1) w) fun σ2 w4 => T (t1 σ2 w4) fun b w5 => b = true ∧ T (e σ2 w5) fun v w6 => v = f y z ∧ w6 = w)
    (k : P (acc ++ ys.flatMap fun y => (inner y).map (f y)) w), T (outL it vs g t mi1 vs1 g1 t1 e acc (ys.map enc) σ w) P
  | [], acc, P, hok, hl, h, k => by
    rw [List.map_nil]
    unfold outL
    rw [if_pos hok, T_ok]
    simpa using k
  | y :: ys, acc, P, hok, hl, h, k => by
    simp only [List.map_cons, List.sum_cons] at hl
    rw [List.map_cons]
    unfold outL
    rw [if_pos hok, T_bind, T_noX]
    refine (h y (List.mem_cons_self ..)).mono fun σ1 w1 _ q => ?_
    rw [T_bind, T_noX]
    refine q.mono fun b w2 _ q => ?_
    obtain ⟨rfl, q⟩ := q
    rw [if_pos rfl, T_bind, T_noX]
    refine q.mono fun it1 w3 _ q => ?_
    obtain ⟨⟨ew, i1, i2⟩, q⟩ := q
    rw [T_bind, i2, ew]
    refine T_inL enc1 (f y) (inner y) acc i1 (by omega) q ?_
    exact T_outL enc inner enc1 f ys _ hok (by simp; omega) (fun z hz => h z (List.mem_cons_of_mem _ hz)) (by simpa using k)
theorem T_comp2 {m mi1 : MI} {vs1 : List Nat} {g1 : MG} {t1 : MT} {P : D → W → Prop} : T (eComp2 m vs g t mi1 vs1 g1 t1 e σ w) P = T (m σ w) fun it w1 => T (outL it vs g t mi1 vs1 g1 t1 e [] it.xs σ w1) fun ys w2 => P (.lst ys) w2 := by
  unfold eComp2 compB
  simp only [T_bind, T_ok]
end
end Pc

set_option Elab.async false
set_option linter.all false
set_option maxRecDepth 100000
set_option maxHeartbeats 4000000
set_option autoImplicit false
namespace Lb
open PySem PySem.Spec PyProof.Rows L2 Pc

/-- addresses that the program's own mirrors name -/
structure Ads where
  C_Plan : Addr
  t_NUMBERS : Addr

def tab_NUMBERS : List (Str × Option D) := [(("every" : Str), some (.ktp [(.int 1), (.int 5)])), (("lost" : Str), some (.ktp [(.int 0), (.int 3)])), (("slow" : Str), some (.ktp [(.int 1), (.int 4)])), (("bears" : Str), some (.ktp [(.int 0), (.int 3)])), (("gap" : Str), some (.ktp [(.int 0), (.int 3)])), (("hold" : Str), some (.ktp [(.int 0), (.int 20)])), (("hosts" : Str), some (.ktp [(.int 0), (.int 4)])), (("takes" : Str), none), (("ties" : Str), none)]
/-! ### _law_any_model -/
def N__law_any_model : List Str := [("_law_deck_here" : Str), ("_law_houses" : Str), ("_law_model_here" : Str), ("_law_ends" : Str), ("_law_word" : Str), ("_law_low" : Str), ("_law_high" : Str)]
noncomputable def b__law_any_model (k : Ads) : MS :=
  (sSeq (sAsg (eBin ixM (eLst (aCons (eC (.int 1)) (aCons (eC (.int 6)) (aCons (eBin addM (eC (.int 1)) (eCall mDraw 2 gAll (aCons (eVar 0) (aCons (eC (.int 6)) aNil)))) aNil)))) (eCall mDraw 2 gAll (aCons (eVar 0) (aCons (eC (.int 3)) aNil)))) (gNm 1))
  (sSeq (sAsg (eCall mModel 3 gAll (aCons (eVar 0) (aCons (eVar 1) (aCons (eBin addM (eC (.int 1)) (eCall mDraw 2 gAll (aCons (eVar 0) (aCons (eC (.int 4)) aNil)))) aNil)))) (gNm 2))
  (sSeq (sAsg (eLst (aCons (eTup (aCons (eC (.str ("every" : Str))) (aCons (eC (.int 1)) (aCons (eC (.int 5)) aNil)))) (aCons (eTup (aCons (eC (.str ("lost" : Str))) (aCons (eC (.int 0)) (aCons (eC (.int 3)) aNil)))) (aCons (eTup (aCons (eC (.str ("slow" : Str))) (aCons (eC (.int 1)) (aCons (eC (.int 4)) aNil)))) (aCons (eTup (aCons (eC (.str ("bears" : Str))) (aCons (eC (.int 0)) (aCons (eC (.int 3)) aNil)))) (aCons (eTup (aCons (eC (.str ("gap" : Str))) (aCons (eC (.int 0)) (aCons (eC (.int 3)) aNil)))) (aCons (eTup (aCons (eC (.str ("hold" : Str))) (aCons (eC (.int 0)) (aCons (eC (.int 20)) aNil)))) aNil))))))) (gNm 3))
  (sSeq (sFor (iSeq (eVar 3)) (gTupM 3 (gsCons (gNm 4) (gsCons (gNm 5) (gsCons (gNm 6) gsNil)))) (sAsg (eBin ixM (eLst (aCons (eVar 5) (aCons (eVar 6) (aCons (eBin addM (eVar 5) (eCall mDraw 2 gAll (aCons (eVar 0) (aCons (eBin addM (eBin subM (eVar 6) (eVar 5)) (eC (.int 1))) aNil)))) aNil)))) (eCall mDraw 2 gAll (aCons (eVar 0) (aCons (eC (.int 3)) aNil)))) (gSubM (eVar 2) (eVar 4))))
  (sRet (eVar 2))))))
noncomputable def m__law_any_model (k : Ads) : MF := runB (b__law_any_model k) N__law_any_model
theorem be__law_any_model (x0 : D) : begin N__law_any_model [x0] = [some x0, none, none, none, none, none, none] := rfl

/-! ### is_whole -/
def N_is_whole : List Str := [("thing" : Str)]
noncomputable def b_is_whole (k : Ads) : MS :=
  (sRet (eAnd (eArg (isiM noKc) (aCons (eVar 0) (aCons (eC (.ty "int")) aNil))) (eUn notM (eArg (isiM noKc) (aCons (eVar 0) (aCons (eC (.ty "bool")) aNil))))))
noncomputable def m_is_whole (k : Ads) : MF := runB (b_is_whole k) N_is_whole
theorem be_is_whole (x0 : D) : begin N_is_whole [x0] = [some x0] := rfl

/-! ### is_within -/
def N_is_within : List Str := [("thing" : Str), ("least" : Str), ("most" : Str)]
noncomputable def b_is_within (k : Ads) : MS :=
  (sRet (eAnd (eCall (m_is_whole k) 1 gAll (aCons (eVar 0) aNil)) (eCh leM leM (eVar 1) (eVar 0) (eVar 2))))
noncomputable def m_is_within (k : Ads) : MF := runB (b_is_within k) N_is_within
theorem be_is_within (x0 x1 x2 : D) : begin N_is_within [x0, x1, x2] = [some x0, some x1, some x2] := rfl

/-! ### are_ranks -/
def N_are_ranks : List Str := [("thing" : Str), ("row" : Str), ("rank" : Str)]
noncomputable def b_are_ranks (k : Ads) : MS :=
  (sSeq (sIf (tOrM (tNotM (tTru (eArg (isiM noKc) (aCons (eVar 0) (aCons (eC (.ty "tuple")) aNil))))) (tNotM (tVal (eCh leM leM (eC (.int 1)) (eArg lenM (aCons (eVar 0) aNil)) (eC (.int 4)))))) (sRet (eC (.bl false))) sNext)
  (sSeq (sIf (tNotM (tTru (eArg allM (aCons (eComp (iSeq (eVar 0)) [1] (gNm 1) tTrue (eAnd (eArg (isiM noKc) (aCons (eVar 1) (aCons (eC (.ty "tuple")) aNil))) (eBin leM (eArg lenM (aCons (eVar 1) aNil)) (eC (.int 6))))) aNil)))) (sRet (eC (.bl false))) sNext)
  (sSeq (sIf (tOrM (tVal (eBin eqM (eBin ixM (eVar 0) (eC (.int 0))) (eTup aNil))) (tNotM (tTru (eArg allM (aCons (eComp (iSeq (eVar 0)) [1] (gNm 1) tTrue (eBin eqM (eArg lenM (aCons (eVar 1) aNil)) (eArg lenM (aCons (eBin ixM (eVar 0) (eC (.int 0))) aNil)))) aNil))))) (sRet (eC (.bl false))) sNext)
  (sRet (eArg allM (aCons (eComp2 (iSeq (eVar 0)) [1, 2] (gNm 1) tTrue (iSeq (eVar 1)) [2] (gNm 2) tTrue (eCall (m_is_within k) 3 gAll (aCons (eVar 2) (aCons (eC (.int 1)) (aCons (eC (.int 12)) aNil))))) aNil))))))
noncomputable def m_are_ranks (k : Ads) : MF := runB (b_are_ranks k) N_are_ranks
theorem be_are_ranks (x0 : D) : begin N_are_ranks [x0] = [some x0, none, none] := rfl

/-! ### is_tie -/
def N_is_tie : List Str := [("thing" : Str), ("houses" : Str), ("house" : Str), ("tie" : Str), ("less" : Str)]
noncomputable def b_is_tie (k : Ads) : MS :=
  (sSeq (sIf (tOrM (tNotM (tTru (eArg (isiM noKc) (aCons (eVar 0) (aCons (eC (.ty "tuple")) aNil))))) (tVal (eBin neM (eArg lenM (aCons (eVar 0) aNil)) (eC (.int 3))))) (sRet (eC (.bl false))) sNext)
  (sSeq (sAsg (eVar 0) (gTupM 3 (gsCons (gNm 2) (gsCons (gNm 3) (gsCons (gNm 4) gsNil)))))
  (sRet (eAnd (eCall (m_is_within k) 3 gAll (aCons (eVar 2) (aCons (eC (.int 0)) (aCons (eBin subM (eVar 1) (eC (.int 1))) aNil)))) (eAnd (eCall (m_is_within k) 3 gAll (aCons (eVar 3) (aCons (eC (.int 0)) (aCons (eC (.int 9)) aNil)))) (eCall (m_is_within k) 3 gAll (aCons (eVar 4) (aCons (eC (.int 1)) (aCons (eC (.int 11)) aNil)))))))))
noncomputable def m_is_tie (k : Ads) : MF := runB (b_is_tie k) N_is_tie
theorem be_is_tie (x0 x1 : D) : begin N_is_tie [x0, x1] = [some x0, some x1, none, none, none] := rfl

/-! ### are_ties -/
def N_are_ties : List Str := [("thing" : Str), ("houses" : Str), ("one" : Str), ("other" : Str)]
noncomputable def b_are_ties (k : Ads) : MS :=
  (sSeq (sIf (tOrM (tNotM (tTru (eArg (isiM noKc) (aCons (eVar 0) (aCons (eC (.ty "tuple")) aNil))))) (tOrM (tVal (eBin gtM (eArg lenM (aCons (eVar 0) aNil)) (eC (.int 6)))) (tNotM (tTru (eArg allM (aCons (eComp (iSeq (eVar 0)) [2] (gNm 2) tTrue (eCall (m_is_tie k) 2 gAll (aCons (eVar 2) (aCons (eVar 1) aNil)))) aNil)))))) (sRet (eC (.bl false))) sNext)
  (sRet (eArg allM (aCons (eComp (iArg zsM (aCons (eSl slM (eVar 0) oNone (oSome (eUn negM (eC (.int 1))))) (aCons (eSl slM (eVar 0) (oSome (eC (.int 1))) oNone) aNil))) [2, 3] (gTupM 2 (gsCons (gNm 2) (gsCons (gNm 3) gsNil))) tTrue (eBin ltA (eSl slM (eVar 2) oNone (oSome (eC (.int 2)))) (eSl slM (eVar 3) oNone (oSome (eC (.int 2)))))) aNil))))
noncomputable def m_are_ties (k : Ads) : MF := runB (b_are_ties k) N_are_ties
theorem be_are_ties (x0 x1 : D) : begin N_are_ties [x0, x1] = [some x0, some x1, none, none] := rfl

/-! ### is_field -/
def N_is_field : List Str := [("name" : Str), ("thing" : Str), ("houses" : Str), ("least" : Str), ("most" : Str)]
noncomputable def b_is_field (k : Ads) : MS :=
  (sSeq (sIf (tVal (eBin (kInM k.t_NUMBERS tab_NUMBERS) (eVar 0) (eC (.con k.t_NUMBERS)))) (sSeq (sAsg (eBin (kIxM k.t_NUMBERS tab_NUMBERS) (eC (.con k.t_NUMBERS)) (eVar 0)) (gTupM 2 (gsCons (gNm 3) (gsCons (gNm 4) gsNil))))
  (sRet (eCall (m_is_within k) 3 gAll (aCons (eVar 1) (aCons (eVar 3) (aCons (eVar 4) aNil)))))) sNext)
  (sSeq (sIf (tVal (eBin eqM (eVar 0) (eC (.str ("takes" : Str))))) (sRet (eArg (isiM noKc) (aCons (eVar 1) (aCons (eC (.ty "bool")) aNil)))) sNext)
  (sRet (eCall (m_are_ties k) 2 gAll (aCons (eVar 1) (aCons (eVar 2) aNil))))))
noncomputable def m_is_field (k : Ads) : MF := runB (b_is_field k) N_is_field
theorem be_is_field (x0 x1 x2 : D) : begin N_is_field [x0, x1, x2] = [some x0, some x1, some x2, none, none] := rfl

/-! ### Plan.__init__ -/
def N_Plan_init : List Str := [("self" : Str), ("ranks" : Str), ("every" : Str), ("lost" : Str), ("slow" : Str), ("bears" : Str), ("gap" : Str), ("hold" : Str), ("takes" : Str), ("ties" : Str), ("hosts" : Str), ("borne" : Str), ("told" : Str), ("name" : Str), ("thing" : Str)]
noncomputable def b_Plan_init (k : Ads) : MS :=
  (sSeq (sIf (tNotM (tTru (eCall (m_are_ranks k) 1 gAll (aCons (eVar 1) aNil)))) sBad sNext)
  (sSeq (sAsg (eIf (tVal (eBin isM (eVar 5) (eC .non))) (eVar 3) (eVar 5)) (gNm 11))
  (sSeq (sAsg (eDct (dCons (eC (.str ("every" : Str))) (eVar 2) (dCons (eC (.str ("lost" : Str))) (eVar 3) (dCons (eC (.str ("slow" : Str))) (eVar 4) (dCons (eC (.str ("bears" : Str))) (eVar 11) (dCons (eC (.str ("gap" : Str))) (eVar 6) (dCons (eC (.str ("hold" : Str))) (eVar 7) (dCons (eC (.str ("takes" : Str))) (eVar 8) dNil)))))))) (gNm 12))
  (sSeq (sDrop (eMeth "dict" updM (eVar 12) (aCons (eDct (dCons (eC (.str ("ties" : Str))) (eVar 9) (dCons (eC (.str ("hosts" : Str))) (eVar 10) dNil))) aNil)))
  (sSeq (sFor (iItemsM (eVar 12)) (gTupM 2 (gsCons (gNm 13) (gsCons (gNm 14) gsNil))) (sIf (tNotM (tTru (eCall (m_is_field k) 3 gAll (aCons (eVar 13) (aCons (eVar 14) (aCons (eArg lenM (aCons (eBin ixM (eVar 1) (eC (.int 0))) aNil)) aNil)))))) sBad sNext))
  (sSeq (sSetF k.C_Plan ("ranks" : Str) (eVar 0) (eVar 1))
  (sSeq (sSetF k.C_Plan ("every" : Str) (eVar 0) (eVar 2))
  (sSeq (sSetF k.C_Plan ("lost" : Str) (eVar 0) (eVar 3))
  (sSeq (sSetF k.C_Plan ("slow" : Str) (eVar 0) (eVar 4))
  (sSeq (sSetF k.C_Plan ("bears" : Str) (eVar 0) (eVar 11))
  (sSeq (sSetF k.C_Plan ("gap" : Str) (eVar 0) (eVar 6))
  (sSeq (sSetF k.C_Plan ("hold" : Str) (eVar 0) (eVar 7))
  (sSeq (sSetF k.C_Plan ("takes" : Str) (eVar 0) (eVar 8))
  (sSeq (sSetF k.C_Plan ("ties" : Str) (eVar 0) (eVar 9))
  (sSetF k.C_Plan ("hosts" : Str) (eVar 0) (eVar 10))))))))))))))))
noncomputable def m_Plan_init (k : Ads) : MF := runB (b_Plan_init k) N_Plan_init
theorem be_Plan_init (x0 x1 x2 x3 x4 x5 x6 x7 x8 x9 x10 : D) : begin N_Plan_init [x0, x1, x2, x3, x4, x5, x6, x7, x8, x9, x10] = [some x0, some x1, some x2, some x3, some x4, some x5, some x6, some x7, some x8, some x9, some x10, none, none, none, none] := rfl
abbrev g_Plan_init_2_every_lost_slow_bears_gap_hold_takes_ties_hosts (k : Ads) : List D → List D → List D := fun xs zs => pick3 [(0, 0), (0, 1), (1, 0), (1, 1), (1, 2), (1, 3), (1, 4), (1, 5), (1, 6), (1, 7), (1, 8)] xs zs []

/-! ### _law_made -/
def N__law_made : List Str := [("_law_model_here" : Str), ("_law_words" : Str), ("_law_word" : Str)]
noncomputable def b__law_made (k : Ads) : MS :=
  (sSeq (sAsg (eComp (iSeq (eTup (aCons (eC (.str ("every" : Str))) (aCons (eC (.str ("lost" : Str))) (aCons (eC (.str ("slow" : Str))) (aCons (eC (.str ("bears" : Str))) (aCons (eC (.str ("gap" : Str))) (aCons (eC (.str ("hold" : Str))) (aCons (eC (.str ("takes" : Str))) (aCons (eC (.str ("ties" : Str))) (aCons (eC (.str ("hosts" : Str))) aNil))))))))))) [2] (gNm 2) tTrue (eBin ixM (eVar 0) (eVar 2))) (gNm 1))
  (sRet (eMakeK k.C_Plan (m_Plan_init k) 1 9 (g_Plan_init_2_every_lost_slow_bears_gap_hold_takes_ties_hosts k) (aCons (eBin ixM (eVar 0) (eC (.str ("ranks" : Str)))) aNil) (aCons (eBin ixM (eVar 1) (eC (.int 0))) (aCons (eBin ixM (eVar 1) (eC (.int 1))) (aCons (eBin ixM (eVar 1) (eC (.int 2))) (aCons (eBin ixM (eVar 1) (eC (.int 3))) (aCons (eBin ixM (eVar 1) (eC (.int 4))) (aCons (eBin ixM (eVar 1) (eC (.int 5))) (aCons (eBin ixM (eVar 1) (eC (.int 6))) (aCons (eBin ixM (eVar 1) (eC (.int 7))) (aCons (eBin ixM (eVar 1) (eC (.int 8))) aNil))))))))))))
noncomputable def m__law_made (k : Ads) : MF := runB (b__law_made k) N__law_made
theorem be__law_made (x0 : D) : begin N__law_made [x0] = [some x0, none, none] := rfl

/-! ### skew_of -/
def N_skew_of : List Str := [("plan" : Str), ("rank" : Str)]
noncomputable def b_skew_of (k : Ads) : MS :=
  (sRet (eBin addM (eC (.int 2)) (eBin mulM (eFld k.C_Plan ("gap" : Str) (eVar 0)) (eBin subM (eC (.int 12)) (eVar 1)))))
noncomputable def m_skew_of (k : Ads) : MF := runB (b_skew_of k) N_skew_of
theorem be_skew_of (x0 x1 : D) : begin N_skew_of [x0, x1] = [some x0, some x1] := rfl
abbrev g_skew_of_0_rank_plan (k : Ads) : List D → List D → List D := pick [(true, 1), (true, 0)]

/-! ### heard_within -/
def N_heard_within : List Str := [("plan" : Str), ("lost" : Str)]
noncomputable def b_heard_within (k : Ads) : MS :=
  (sRet (eBin addM (eBin mulM (eBin addM (eVar 1) (eC (.int 1))) (eFld k.C_Plan ("every" : Str) (eVar 0))) (eFld k.C_Plan ("slow" : Str) (eVar 0))))
noncomputable def m_heard_within (k : Ads) : MF := runB (b_heard_within k) N_heard_within
theorem be_heard_within (x0 x1 : D) : begin N_heard_within [x0, x1] = [some x0, some x1] := rfl

/-! ### wait_of -/
def N_wait_of : List Str := [("plan" : Str), ("rank" : Str)]
noncomputable def b_wait_of (k : Ads) : MS :=
  (sRet (eBin addM (eCall (m_heard_within k) 2 gAll (aCons (eVar 0) (aCons (eFld k.C_Plan ("bears" : Str) (eVar 0)) aNil))) (eBin mulM (eFld k.C_Plan ("gap" : Str) (eVar 0)) (eBin subM (eC (.int 12)) (eVar 1)))))
noncomputable def m_wait_of (k : Ads) : MF := runB (b_wait_of k) N_wait_of
theorem be_wait_of (x0 x1 : D) : begin N_wait_of [x0, x1] = [some x0, some x1] := rfl
abbrev g_wait_of_0_rank_plan (k : Ads) : List D → List D → List D := pick [(true, 1), (true, 0)]

/-! ### apart_bound -/
def N_apart_bound : List Str := [("plan" : Str)]
noncomputable def b_apart_bound (k : Ads) : MS :=
  (sRet (eBin addM (eCall (m_heard_within k) 2 gAll (aCons (eVar 0) (aCons (eFld k.C_Plan ("bears" : Str) (eVar 0)) aNil))) (eFld k.C_Plan ("hold" : Str) (eVar 0))))
noncomputable def m_apart_bound (k : Ads) : MF := runB (b_apart_bound k) N_apart_bound
theorem be_apart_bound (x0 : D) : begin N_apart_bound [x0] = [some x0] := rfl
abbrev g_apart_bound_0_plan (k : Ads) : List D → List D → List D := pick [(true, 0)]

/-! ### Plan.__len__ -/
def N_Plan_len : List Str := [("self" : Str)]
noncomputable def b_Plan_len (k : Ads) : MS :=
  (sRet (eArg lenM (aCons (eBin ixM (eFld k.C_Plan ("ranks" : Str) (eVar 0)) (eC (.int 0))) aNil)))
noncomputable def m_Plan_len (k : Ads) : MF := runB (b_Plan_len k) N_Plan_len
theorem be_Plan_len (x0 : D) : begin N_Plan_len [x0] = [some x0] := rfl

/-! ### none_bound -/
def N_none_bound : List Str := [("plan" : Str)]
noncomputable def b_none_bound (k : Ads) : MS :=
  (sRet (eBin addM (eBin addM (eBin mulM (eBin addM (eArg (lenI k.C_Plan (m_Plan_len k)) (aCons (eVar 0) aNil)) (eC (.int 1))) (eFld k.C_Plan ("slow" : Str) (eVar 0))) (eCall (m_wait_of k) 2 gAll (aCons (eVar 0) (aCons (eC (.int 1)) aNil)))) (eFld k.C_Plan ("hold" : Str) (eVar 0))))
noncomputable def m_none_bound (k : Ads) : MF := runB (b_none_bound k) N_none_bound
theorem be_none_bound (x0 : D) : begin N_none_bound [x0] = [some x0] := rfl
abbrev g_none_bound_0_plan (k : Ads) : List D → List D → List D := pick [(true, 0)]

/-! ### pair_bound -/
def N_pair_bound : List Str := [("plan" : Str)]
noncomputable def b_pair_bound (k : Ads) : MS :=
  (sRet (eBin subM (eCall (m_heard_within k) 2 gAll (aCons (eVar 0) (aCons (eFld k.C_Plan ("lost" : Str) (eVar 0)) aNil))) (eC (.int 1))))
noncomputable def m_pair_bound (k : Ads) : MF := runB (b_pair_bound k) N_pair_bound
theorem be_pair_bound (x0 : D) : begin N_pair_bound [x0] = [some x0] := rfl
abbrev g_pair_bound_0_plan (k : Ads) : List D → List D → List D := pick [(true, 0)]

/-! ### settle_bound -/
def N_settle_bound : List Str := [("plan" : Str)]
noncomputable def b_settle_bound (k : Ads) : MS :=
  (sRet (eBin addM (eCall (m_none_bound k) 1 gAll (aCons (eVar 0) aNil)) (eBin mulM (eArg (lenI k.C_Plan (m_Plan_len k)) (aCons (eVar 0) aNil)) (eCall (m_pair_bound k) 1 gAll (aCons (eVar 0) aNil)))))
noncomputable def m_settle_bound (k : Ads) : MF := runB (b_settle_bound k) N_settle_bound
theorem be_settle_bound (x0 : D) : begin N_settle_bound [x0] = [some x0] := rfl
abbrev g_settle_bound_0_plan (k : Ads) : List D → List D → List D := pick [(true, 0)]

/-! ### ask_bound -/
def N_ask_bound : List Str := [("plan" : Str)]
noncomputable def b_ask_bound (k : Ads) : MS :=
  (sRet (eBin addM (eBin addM (eCall (m_settle_bound k) 1 gAll (aCons (eVar 0) aNil)) (eBin mulM (eBin addM (eFld k.C_Plan ("lost" : Str) (eVar 0)) (eC (.int 1))) (eFld k.C_Plan ("every" : Str) (eVar 0)))) (eBin mulM (eC (.int 2)) (eFld k.C_Plan ("slow" : Str) (eVar 0)))))
noncomputable def m_ask_bound (k : Ads) : MF := runB (b_ask_bound k) N_ask_bound
theorem be_ask_bound (x0 : D) : begin N_ask_bound [x0] = [some x0] := rfl
abbrev g_ask_bound_0_plan (k : Ads) : List D → List D → List D := pick [(true, 0)]

end Lb

set_option Elab.async false
set_option linter.all false
set_option maxRecDepth 100000
set_option maxHeartbeats 4000000
set_option autoImplicit false
/-! L15: the program's plans. -/
namespace Lb
open PySem PySem.Spec PyProof.Rows L2 Pc
section
variable {w : W} {P : D → W → Prop} (k : Ads)
theorem sz (n : Nat) (h : n ≤ 1000) : n ≤ sizeLine := by rw [sizeLine_eq]; omega
theorem isi_int (x : Int) : T (isiM noKc [.int x, .ty "int"] w) P = P (.bl true) w := by unfold T; rfl
theorem isi_ib (x : Int) : T (isiM noKc [.int x, .ty "bool"] w) P = P (.bl false) w := by unfold T; rfl
theorem isi_bb (x : Bool) : T (isiM noKc [.bl x, .ty "bool"] w) P = P (.bl true) w := by unfold T; rfl
theorem isi_tt (x : List D) : T (isiM noKc [.tup x, .ty "tuple"] w) P = P (.bl true) w := by unfold T; rfl
theorem isi_kt (x : List D) : T (isiM noKc [.ktp x, .ty "tuple"] w) P = P (.bl true) w := by unfold T; rfl
theorem t_is_whole (x : Int) : T (m_is_whole k [.int x] w) P = P (.bl true) w := by
  simp only [m_is_whole, b_is_whole, be_is_whole, isi_int, isi_ib, T_run, T_seq, Then_nx, Then_rt, T_ret, T_drop, T_sif, T_next, T_asg, T_nm, T_gsub, T_setF, T_gtup, T_gtupK, T_gnil, T_gcons, T_C, T_V, T_bin, T_un, T_and, T_or, T_if, T_aNil, T_aCons, T_tup, T_lst, T_new, T_arg, T_meth, T_call, T_callK, T_make, T_fld, T_ch, T_val, T_tru, T_notT, T_andT, T_orT, T_tTrue, T_add, T_sub, T_mul, T_mod, T_fdiv, T_neg, T_lt, T_le, T_gt, T_ge, T_isN, T_isB, T_isNotN, T_isNotB, T_not, T_truB, T_truI, T_truN, T_ok, List.getElem?_cons_zero, List.getElem?_cons_succ, List.set_cons_zero, List.set_cons_succ, List.length_cons, List.length_nil, gAll, true_and, and_true, T_comp, T_iSeq, T_iArg, T_sl, T_oNone, T_oSome, T_for, T_addT, T_addL, T_itT, T_itL, T_ixT, T_ixL, T_ixK, T_atM, if_true, Bool.false_eq_true, if_false, Bool.not_true, Bool.not_false, Bool.true_eq_false, ite_true, ite_false, reduceCtorEq]
theorem t_is_within (x lo hi : Int) : T (m_is_within k [.int x, .int lo, .int hi] w) P = P (.bl (decide (lo ≤ x) && decide (x ≤ hi))) w := by
  simp only [m_is_within, b_is_within, be_is_within, t_is_whole, T_run, T_seq, Then_nx, Then_rt, T_ret, T_drop, T_sif, T_next, T_asg, T_nm, T_gsub, T_setF, T_gtup, T_gtupK, T_gnil, T_gcons, T_C, T_V, T_bin, T_un, T_and, T_or, T_if, T_aNil, T_aCons, T_tup, T_lst, T_new, T_arg, T_meth, T_call, T_callK, T_make, T_fld, T_ch, T_val, T_tru, T_notT, T_andT, T_orT, T_tTrue, T_add, T_sub, T_mul, T_mod, T_fdiv, T_neg, T_lt, T_le, T_gt, T_ge, T_isN, T_isB, T_isNotN, T_isNotB, T_not, T_truB, T_truI, T_truN, T_ok, List.getElem?_cons_zero, List.getElem?_cons_succ, List.set_cons_zero, List.set_cons_succ, List.length_cons, List.length_nil, gAll, true_and, and_true, T_comp, T_iSeq, T_iArg, T_sl, T_oNone, T_oSome, T_for, T_addT, T_addL, T_itT, T_itL, T_ixT, T_ixL, T_ixK, T_atM, if_true, Bool.false_eq_true, if_false, Bool.not_true, Bool.not_false, Bool.true_eq_false, ite_true, ite_false, reduceCtorEq]
  by_cases h : lo ≤ x <;> simp [h]
theorem eq_len {a b : Int} : T (eqM (.int a) (.int b) w) P = P (.bl (a == b)) w := by
  rw [T_eq, eqD_int]
  simp
theorem ne_len {a b : Int} : T (neM (.int a) (.int b) w) P = P (.bl (!(a == b))) w := by
  rw [T_ne, eqD_int]
  simp
theorem lenT {xs : List D} : T (lenM [.tup xs] w) P = P (.int xs.length) w := by rw [T_len]; simp [lenD, D.items]
theorem lenL {xs : List D} : T (lenM [.lst xs] w) P = P (.int xs.length) w := by rw [T_len]; simp [lenD, D.items]
theorem lenK {xs : List D} : T (lenM [.ktp xs] w) P = P (.int xs.length) w := by rw [T_len]; simp [lenD, D.items]
theorem at0 {x : D} {xs : List D} : atI (x :: xs) 0 = some x := by
  unfold atI ixN
  rw [if_pos (by omega), if_pos (by simp)]
  rfl
theorem lay_tints (cells : List Int) : SeqAt.shaped (.tuple (cells.map PyData.int)) = true := by
  have h1 := can_ints cells
  have h2 := dep_ints cells
  unfold SeqAt.shaped
  simp [PyData.canLay0, PyData.depth, h1]
  omega
theorem py_rowD (r : List Int) : D.py w (rowD r) = some (.tuple (r.map PyData.int)) := by
  show (D.pysR _ (r.map D.int)).map PyData.tuple = _
  rw [pys_ints]
  rfl
theorem rows_eq {r : List Int} : T (eqM (rowD r) (.tup []) w) P = P (.bl r.isEmpty) w := by
  have e : eqD (rowD r) (.tup []) w = some r.isEmpty := by
    unfold eqD
    rw [py_rowD]
    have e2 : D.py w (.tup []) = some (.tuple []) := rfl
    rw [e2]
    have l2 : SeqAt.shaped (.tuple []) = true := lay_tints []
    simp only [lay_tints, l2, and_self, if_true]
    cases r <;> simp [PyData.eqv, PyData.eqvAll]
  rw [T_eq, e]
  simp
theorem t_are_ranks {rows : List (List Int)} {h : Nat} (ok : RanksOk rows h) (n1 : 1 ≤ rows.length) (n4 : rows.length ≤ 4) (hP : P (.bl true) w) : T (m_are_ranks k [.tup (rows.map rowD)] w) P := by
  obtain ⟨r0, rest, rfl⟩ : ∃ r0 rest, rows = r0 :: rest := by
    cases rows with
    | nil => simp at n1
    | cons a b => exact ⟨a, b, rfl⟩
  have hr := fun r hr => (ok.row r hr).1
  have h1 := ok.h1
  have h6 := ok.h6
  have r0e : r0.isEmpty = false := by
    have := hr r0 (List.mem_cons_self ..)
    cases r0 with
    | nil => simp at this; omega
    | cons _ _ => rfl
  have i1 : decide ((1 : Int) ≤ (((r0 :: rest).map rowD).length : Nat)) = true := by simp; omega
  have i2 : decide ((((r0 :: rest).map rowD).length : Int) ≤ 4) = true := by simp at n4 ⊢; omega
  have s0 := sz (((r0 :: rest).map rowD).length) (by rw [List.length_map]; omega)
  simp only [m_are_ranks, b_are_ranks, be_are_ranks, isi_tt, lenT, i1, i2, T_run, T_seq, Then_nx, Then_rt, T_ret, T_drop, T_sif, T_next, T_asg, T_nm, T_gsub, T_setF, T_gtup, T_gtupK, T_gnil, T_gcons, T_C, T_V, T_bin, T_un, T_and, T_or, T_if, T_aNil, T_aCons, T_tup, T_lst, T_new, T_arg, T_meth, T_call, T_callK, T_make, T_fld, T_ch, T_val, T_tru, T_notT, T_andT, T_orT, T_tTrue, T_add, T_sub, T_mul, T_mod, T_fdiv, T_neg, T_lt, T_le, T_gt, T_ge, T_isN, T_isB, T_isNotN, T_isNotB, T_not, T_truB, T_truI, T_truN, T_ok, List.getElem?_cons_zero, List.getElem?_cons_succ, List.set_cons_zero, List.set_cons_succ, List.length_cons, List.length_nil, gAll, true_and, and_true, T_comp, T_iSeq, T_iArg, T_sl, T_oNone, T_oSome, T_for, T_addT, T_addL, T_itT, T_itL, T_ixT, T_ixL, T_ixK, T_atM, if_true, Bool.false_eq_true, if_false, Bool.not_true, Bool.not_false, Bool.true_eq_false, ite_true, ite_false, reduceCtorEq]
  refine ⟨s0, T_compE (r0 :: rest) rowD (fun r => .bl (decide (r.length ≤ 6))) rfl trivial (fun r _ => ?_) ?_⟩
  · simp only [rowD, wipeD, isi_tt, lenT, T_run, T_seq, Then_nx, Then_rt, T_ret, T_drop, T_sif, T_next, T_asg, T_nm, T_gsub, T_setF, T_gtup, T_gtupK, T_gnil, T_gcons, T_C, T_V, T_bin, T_un, T_and, T_or, T_if, T_aNil, T_aCons, T_tup, T_lst, T_new, T_arg, T_meth, T_call, T_callK, T_make, T_fld, T_ch, T_val, T_tru, T_notT, T_andT, T_orT, T_tTrue, T_add, T_sub, T_mul, T_mod, T_fdiv, T_neg, T_lt, T_le, T_gt, T_ge, T_isN, T_isB, T_isNotN, T_isNotB, T_not, T_truB, T_truI, T_truN, T_ok, List.getElem?_cons_zero, List.getElem?_cons_succ, List.set_cons_zero, List.set_cons_succ, List.length_cons, List.length_nil, gAll, true_and, and_true, T_comp, T_iSeq, T_iArg, T_sl, T_oNone, T_oSome, T_for, T_addT, T_addL, T_itT, T_itL, T_ixT, T_ixL, T_ixK, T_atM, if_true, Bool.false_eq_true, if_false, Bool.not_true, Bool.not_false, Bool.true_eq_false, ite_true, ite_false, reduceCtorEq]
    simp
    omega
  rw [T_allM (r0 :: rest) (fun r => decide (r.length ≤ 6))]
  have a1 : ((r0 :: rest).all fun r => decide (r.length ≤ 6)) = true := by
    rw [List.all_eq_true]
    intro r hr'
    have := hr r hr'
    simp; omega
  rw [a1]
  simp only [List.map_cons, at0, rows_eq, r0e, T_run, T_seq, Then_nx, Then_rt, T_ret, T_drop, T_sif, T_next, T_asg, T_nm, T_gsub, T_setF, T_gtup, T_gtupK, T_gnil, T_gcons, T_C, T_V, T_bin, T_un, T_and, T_or, T_if, T_aNil, T_aCons, T_tup, T_lst, T_new, T_arg, T_meth, T_call, T_callK, T_make, T_fld, T_ch, T_val, T_tru, T_notT, T_andT, T_orT, T_tTrue, T_add, T_sub, T_mul, T_mod, T_fdiv, T_neg, T_lt, T_le, T_gt, T_ge, T_isN, T_isB, T_isNotN, T_isNotB, T_not, T_truB, T_truI, T_truN, T_ok, List.getElem?_cons_zero, List.getElem?_cons_succ, List.set_cons_zero, List.set_cons_succ, List.length_cons, List.length_nil, gAll, true_and, and_true, T_comp, T_iSeq, T_iArg, T_sl, T_oNone, T_oSome, T_for, T_addT, T_addL, T_itT, T_itL, T_ixT, T_ixL, T_ixK, T_atM, if_true, Bool.false_eq_true, if_false, Bool.not_true, Bool.not_false, Bool.true_eq_false, ite_true, ite_false, reduceCtorEq]
  refine ⟨_, rfl, ?_⟩
  rw [rows_eq, r0e]
  simp only [T_run, T_seq, Then_nx, Then_rt, T_ret, T_drop, T_sif, T_next, T_asg, T_nm, T_gsub, T_setF, T_gtup, T_gtupK, T_gnil, T_gcons, T_C, T_V, T_bin, T_un, T_and, T_or, T_if, T_aNil, T_aCons, T_tup, T_lst, T_new, T_arg, T_meth, T_call, T_callK, T_make, T_fld, T_ch, T_val, T_tru, T_notT, T_andT, T_orT, T_tTrue, T_add, T_sub, T_mul, T_mod, T_fdiv, T_neg, T_lt, T_le, T_gt, T_ge, T_isN, T_isB, T_isNotN, T_isNotB, T_not, T_truB, T_truI, T_truN, T_ok, List.getElem?_cons_zero, List.getElem?_cons_succ, List.set_cons_zero, List.set_cons_succ, List.length_cons, List.length_nil, gAll, true_and, and_true, T_comp, T_iSeq, T_iArg, T_sl, T_oNone, T_oSome, T_for, T_addT, T_addL, T_itT, T_itL, T_ixT, T_ixL, T_ixK, T_atM, if_true, Bool.false_eq_true, if_false, Bool.not_true, Bool.not_false, Bool.true_eq_false, ite_true, ite_false, reduceCtorEq]
  refine ⟨Nat.zero_le _, by simpa using s0, T_compE (it := ⟨(r0 :: rest).map rowD, always⟩) (r0 :: rest) rowD (fun r => .bl (decide (r.length = r0.length))) rfl trivial (fun r _ => ?_) ?_⟩
  · simp only [rowD, wipeD, isi_tt, lenT, T_run, T_seq, Then_nx, Then_rt, T_ret, T_drop, T_sif, T_next, T_asg, T_nm, T_gsub, T_setF, T_gtup, T_gtupK, T_gnil, T_gcons, T_C, T_V, T_bin, T_un, T_and, T_or, T_if, T_aNil, T_aCons, T_tup, T_lst, T_new, T_arg, T_meth, T_call, T_callK, T_make, T_fld, T_ch, T_val, T_tru, T_notT, T_andT, T_orT, T_tTrue, T_add, T_sub, T_mul, T_mod, T_fdiv, T_neg, T_lt, T_le, T_gt, T_ge, T_isN, T_isB, T_isNotN, T_isNotB, T_not, T_truB, T_truI, T_truN, T_ok, List.getElem?_cons_zero, List.getElem?_cons_succ, List.set_cons_zero, List.set_cons_succ, List.length_cons, List.length_nil, gAll, true_and, and_true, T_comp, T_iSeq, T_iArg, T_sl, T_oNone, T_oSome, T_for, T_addT, T_addL, T_itT, T_itL, T_ixT, T_ixL, T_ixK, T_atM, if_true, Bool.false_eq_true, if_false, Bool.not_true, Bool.not_false, Bool.true_eq_false, ite_true, ite_false, reduceCtorEq]
    refine ⟨_, at0, ?_⟩
    rw [lenT, eq_len]
    simp only [List.length_map, and_true, D.bl.injEq]
    rw [Bool.eq_iff_iff]
    simp
    omega
  rw [T_allM (r0 :: rest) (fun r => decide (r.length = r0.length))]
  have a2 : ((r0 :: rest).all fun r => decide (r.length = r0.length)) = true := by
    rw [List.all_eq_true]
    intro r hr'
    have := hr r hr'
    have := hr r0 (List.mem_cons_self ..)
    simp; omega
  rw [a2]
  simp only [T_comp2, T_run, T_seq, Then_nx, Then_rt, T_ret, T_drop, T_sif, T_next, T_asg, T_nm, T_gsub, T_setF, T_gtup, T_gtupK, T_gnil, T_gcons, T_C, T_V, T_bin, T_un, T_and, T_or, T_if, T_aNil, T_aCons, T_tup, T_lst, T_new, T_arg, T_meth, T_call, T_callK, T_make, T_fld, T_ch, T_val, T_tru, T_notT, T_andT, T_orT, T_tTrue, T_add, T_sub, T_mul, T_mod, T_fdiv, T_neg, T_lt, T_le, T_gt, T_ge, T_isN, T_isB, T_isNotN, T_isNotB, T_not, T_truB, T_truI, T_truN, T_ok, List.getElem?_cons_zero, List.getElem?_cons_succ, List.set_cons_zero, List.set_cons_succ, List.length_cons, List.length_nil, gAll, true_and, and_true, T_comp, T_iSeq, T_iArg, T_sl, T_oNone, T_oSome, T_for, T_addT, T_addL, T_itT, T_itL, T_ixT, T_ixL, T_ixK, T_atM, if_true, Bool.false_eq_true, if_false, Bool.not_true, Bool.not_false, Bool.true_eq_false, ite_true, ite_false, reduceCtorEq]
  rw [show rowD r0 :: List.map rowD rest = (r0 :: rest).map rowD from rfl]
  refine T_outL (it := ⟨(r0 :: rest).map rowD, always⟩) rowD (fun r => r) D.int (fun _ x => .bl (decide (1 ≤ x) && decide (x ≤ 12))) (r0 :: rest) [] trivial ?_ (fun r _ => ?_) ?_
  · have : ∀ l : List (List Int), (∀ r ∈ l, r.length = h) → (l.map fun r => r.length).sum = l.length * h := by
      intro l
      induction l with
      | nil => simp
      | cons a l ih =>
        intro hl
        rw [List.map_cons, List.sum_cons, ih fun r hr => hl r (List.mem_cons_of_mem _ hr), hl a (List.mem_cons_self ..), List.length_cons, Nat.succ_mul]
        omega
    rw [this _ hr]
    have := Nat.mul_le_mul n4 h6
    exact sz _ (by simp only [List.length_nil]; omega)
  · simp only [rowD, wipeD, t_is_within, T_run, T_seq, Then_nx, Then_rt, T_ret, T_drop, T_sif, T_next, T_asg, T_nm, T_gsub, T_setF, T_gtup, T_gtupK, T_gnil, T_gcons, T_C, T_V, T_bin, T_un, T_and, T_or, T_if, T_aNil, T_aCons, T_tup, T_lst, T_new, T_arg, T_meth, T_call, T_callK, T_make, T_fld, T_ch, T_val, T_tru, T_notT, T_andT, T_orT, T_tTrue, T_add, T_sub, T_mul, T_mod, T_fdiv, T_neg, T_lt, T_le, T_gt, T_ge, T_isN, T_isB, T_isNotN, T_isNotB, T_not, T_truB, T_truI, T_truN, T_ok, List.getElem?_cons_zero, List.getElem?_cons_succ, List.set_cons_zero, List.set_cons_succ, List.length_cons, List.length_nil, gAll, true_and, and_true, T_comp, T_iSeq, T_iArg, T_sl, T_oNone, T_oSome, T_for, T_addT, T_addL, T_itT, T_itL, T_ixT, T_ixL, T_ixK, T_atM, if_true, Bool.false_eq_true, if_false, Bool.not_true, Bool.not_false, Bool.true_eq_false, ite_true, ite_false, reduceCtorEq]
    exact ⟨trivial, fun _ _ => trivial⟩
  · rw [List.nil_append]
    have e : ((r0 :: rest).flatMap fun r => r.map fun x => D.bl (decide (1 ≤ x) && decide (x ≤ 12))) = ((r0 :: rest).flatMap fun r => r).map fun x => D.bl (decide (1 ≤ x) && decide (x ≤ 12)) := by
      rw [List.map_flatMap]
    rw [e, T_allM ((r0 :: rest).flatMap fun r => r) (fun x => decide (1 ≤ x) && decide (x ≤ 12))]
    have a3 : (((r0 :: rest).flatMap fun r => r).all fun x => decide (1 ≤ x) && decide (x ≤ 12)) = true := by
      rw [List.all_eq_true]
      intro x hx
      obtain ⟨r, h1, h2⟩ := List.mem_flatMap.mp hx
      have := (ok.row r h1).2 x h2
      simp; omega
    rw [a3]
    exact hP
end
end Lb

set_option Elab.async false
set_option linter.all false
set_option maxRecDepth 100000
set_option maxHeartbeats 4000000
set_option autoImplicit false
/-! L16: the program's plans: ties, fields. -/
namespace Lb
open PySem PySem.Spec PyProof.Rows L2 Pc
section
variable {w : W} {P : D → W → Prop} (k : Ads)
theorem t_is_tie (t : Int × Int × Int) (h : Int) : T (m_is_tie k [tieD t, .int h] w) P = P (.bl ((decide (0 ≤ t.1) && decide (t.1 ≤ h - 1)) && ((decide (0 ≤ t.2.1) && decide (t.2.1 ≤ 9)) && (decide (1 ≤ t.2.2) && decide (t.2.2 ≤ 11))))) w := by
  simp only [m_is_tie, b_is_tie, be_is_tie, tieD, isi_tt, lenT, ne_len, t_is_within, T_run, T_seq, Then_nx, Then_rt, T_ret, T_drop, T_sif, T_next, T_asg, T_nm, T_gsub, T_setF, T_gtup, T_gtupK, T_gnil, T_gcons, T_C, T_V, T_bin, T_un, T_and, T_or, T_if, T_aNil, T_aCons, T_tup, T_lst, T_new, T_arg, T_meth, T_call, T_callK, T_make, T_fld, T_ch, T_val, T_tru, T_notT, T_andT, T_orT, T_tTrue, T_add, T_sub, T_mul, T_mod, T_fdiv, T_neg, T_lt, T_le, T_gt, T_ge, T_isN, T_isB, T_isNotN, T_isNotB, T_not, T_truB, T_truI, T_truN, T_ok, List.getElem?_cons_zero, List.getElem?_cons_succ, List.set_cons_zero, List.set_cons_succ, List.length_cons, List.length_nil, gAll, true_and, and_true, T_comp, T_iSeq, T_iArg, T_sl, T_oNone, T_oSome, T_for, T_addT, T_addL, T_itT, T_itL, T_ixT, T_ixL, T_ixK, T_atM, if_true, Bool.false_eq_true, if_false, Bool.not_true, Bool.not_false, Bool.true_eq_false, ite_true, ite_false, reduceCtorEq]
  by_cases h1 : (decide (0 ≤ t.1) && decide (t.1 ≤ h - 1)) = true
  · rw [if_neg (by decide), h1]
    simp only [Bool.true_and, if_true]
    by_cases h2 : (decide (0 ≤ t.2.1) && decide (t.2.1 ≤ 9)) = true
    · rw [h2]; simp
    · rw [Bool.not_eq_true] at h2; rw [h2]; simp
  · rw [if_neg (by decide)]
    rw [Bool.not_eq_true] at h1
    rw [h1]
    simp
theorem T_zs {xs ys : List D} {PI : ItD → W → Prop} : T (zsM [.tup xs, .tup ys] w) PI = (xs.length = ys.length ∧ PI ⟨(xs.zip ys).map fun p => .tup [p.1, p.2], always⟩ w) := by
  simp only [zsM, tupD, T_guard, T_ok]
theorem sl_back {xs : List D} : slM (.tup xs) none (some (-1)) w = .ok (.tup xs.dropLast) w := by
  simp only [slM, Pc.cutD, HT.sIx]
  congr 2
  rw [if_pos (by omega), List.drop_zero, List.dropLast_eq_take]
  congr 1
  omega
theorem sl_tail {xs : List D} : slM (.tup xs) (some 1) none w = .ok (.tup xs.tail) w := by
  simp only [slM, Pc.cutD, HT.sIx]
  congr 2
  rw [if_neg (by omega)]
  cases xs with
  | nil => simp
  | cons x xs => simp
theorem lt_pair {p q : Int × Int} : ltA (pairD p) (pairD q) w = .ok (.bl (HT.lexLt [p.1, p.2] [q.1, q.2])) w := rfl
theorem zip_pw {α : Type} {R : α → α → Prop} : ∀ {ts : List α}, ts.Pairwise R → ∀ p ∈ ts.dropLast.zip ts.tail, R p.1 p.2
  | [], _, p, hp => by simp at hp
  | [a], _, p, hp => by simp at hp
  | a :: b :: ts, h, p, hp => by
    rw [List.pairwise_cons] at h
    simp only [List.dropLast_cons₂, List.tail_cons, List.zip_cons_cons, List.mem_cons] at hp
    rcases hp with rfl | hp
    · exact h.1 b (List.mem_cons_self ..)
    · exact zip_pw h.2 p hp
theorem t_are_ties {ts : List (Int × Int × Int)} {h : Nat} (ok : TiesOk ts h) (hP : P (.bl true) w) : T (m_are_ties k [.tup (ts.map tieD), .int h] w) P := by
  have few := ok.few
  have s0 := sz ((ts.map tieD).length) (by rw [List.length_map]; omega)
  have i1 : decide (((ts.map tieD).length : Int) > 6) = false := by simp; omega
  simp only [m_are_ties, b_are_ties, be_are_ties, isi_tt, lenT, i1, T_run, T_seq, Then_nx, Then_rt, T_ret, T_drop, T_sif, T_next, T_asg, T_nm, T_gsub, T_setF, T_gtup, T_gtupK, T_gnil, T_gcons, T_C, T_V, T_bin, T_un, T_and, T_or, T_if, T_aNil, T_aCons, T_tup, T_lst, T_new, T_arg, T_meth, T_call, T_callK, T_make, T_fld, T_ch, T_val, T_tru, T_notT, T_andT, T_orT, T_tTrue, T_add, T_sub, T_mul, T_mod, T_fdiv, T_neg, T_lt, T_le, T_gt, T_ge, T_isN, T_isB, T_isNotN, T_isNotB, T_not, T_truB, T_truI, T_truN, T_ok, List.getElem?_cons_zero, List.getElem?_cons_succ, List.set_cons_zero, List.set_cons_succ, List.length_cons, List.length_nil, gAll, true_and, and_true, T_comp, T_iSeq, T_iArg, T_sl, T_oNone, T_oSome, T_for, T_addT, T_addL, T_itT, T_itL, T_ixT, T_ixL, T_ixK, T_atM, if_true, Bool.false_eq_true, if_false, Bool.not_true, Bool.not_false, Bool.true_eq_false, ite_true, ite_false, reduceCtorEq]
  refine ⟨s0, T_compE (it := ⟨ts.map tieD, always⟩) ts tieD (fun t => .bl ((decide (0 ≤ t.1) && decide (t.1 ≤ (h : Int) - 1)) && ((decide (0 ≤ t.2.1) && decide (t.2.1 ≤ 9)) && (decide (1 ≤ t.2.2) && decide (t.2.2 ≤ 11))))) rfl trivial (fun t _ => ?_) ?_⟩
  · simp only [wipeD, t_is_tie, T_run, T_seq, Then_nx, Then_rt, T_ret, T_drop, T_sif, T_next, T_asg, T_nm, T_gsub, T_setF, T_gtup, T_gtupK, T_gnil, T_gcons, T_C, T_V, T_bin, T_un, T_and, T_or, T_if, T_aNil, T_aCons, T_tup, T_lst, T_new, T_arg, T_meth, T_call, T_callK, T_make, T_fld, T_ch, T_val, T_tru, T_notT, T_andT, T_orT, T_tTrue, T_add, T_sub, T_mul, T_mod, T_fdiv, T_neg, T_lt, T_le, T_gt, T_ge, T_isN, T_isB, T_isNotN, T_isNotB, T_not, T_truB, T_truI, T_truN, T_ok, List.getElem?_cons_zero, List.getElem?_cons_succ, List.set_cons_zero, List.set_cons_succ, List.length_cons, List.length_nil, gAll, true_and, and_true, T_comp, T_iSeq, T_iArg, T_sl, T_oNone, T_oSome, T_for, T_addT, T_addL, T_itT, T_itL, T_ixT, T_ixL, T_ixK, T_atM, if_true, Bool.false_eq_true, if_false, Bool.not_true, Bool.not_false, Bool.true_eq_false, ite_true, ite_false, reduceCtorEq]
  rw [T_allM ts]
  have a1 : (ts.all fun t => (decide (0 ≤ t.1) && decide (t.1 ≤ (h : Int) - 1)) && ((decide (0 ≤ t.2.1) && decide (t.2.1 ≤ 9)) && (decide (1 ≤ t.2.2) && decide (t.2.2 ≤ 11)))) = true := by
    rw [List.all_eq_true]
    intro t ht
    have := ok.each t ht
    simp; omega
  rw [a1]
  simp only [sl_back, sl_tail, T_zs, T_run, T_seq, Then_nx, Then_rt, T_ret, T_drop, T_sif, T_next, T_asg, T_nm, T_gsub, T_setF, T_gtup, T_gtupK, T_gnil, T_gcons, T_C, T_V, T_bin, T_un, T_and, T_or, T_if, T_aNil, T_aCons, T_tup, T_lst, T_new, T_arg, T_meth, T_call, T_callK, T_make, T_fld, T_ch, T_val, T_tru, T_notT, T_andT, T_orT, T_tTrue, T_add, T_sub, T_mul, T_mod, T_fdiv, T_neg, T_lt, T_le, T_gt, T_ge, T_isN, T_isB, T_isNotN, T_isNotB, T_not, T_truB, T_truI, T_truN, T_ok, List.getElem?_cons_zero, List.getElem?_cons_succ, List.set_cons_zero, List.set_cons_succ, List.length_cons, List.length_nil, gAll, true_and, and_true, T_comp, T_iSeq, T_iArg, T_sl, T_oNone, T_oSome, T_for, T_addT, T_addL, T_itT, T_itL, T_ixT, T_ixL, T_ixK, T_atM, if_true, Bool.false_eq_true, if_false, Bool.not_true, Bool.not_false, Bool.true_eq_false, ite_true, ite_false, reduceCtorEq]
  refine ⟨by simp, ?_, ?_⟩
  · refine sz _ ?_
    simp
    omega
  have e : (List.zip (ts.map tieD).dropLast (ts.map tieD).tail).map (fun p => D.tup [p.1, p.2]) = (ts.dropLast.zip ts.tail).map fun p => D.tup [tieD p.1, tieD p.2] := by
    rw [← List.map_dropLast, ← List.map_tail, List.zip_map, List.map_map]
    rfl
  rw [e]
  refine T_compE (it := ⟨_, always⟩) (ts.dropLast.zip ts.tail) (fun p => .tup [tieD p.1, tieD p.2]) (fun p => .bl (HT.lexLt [p.1.1, p.1.2.1] [p.2.1, p.2.2.1])) rfl trivial (fun p _ => ?_) ?_
  · simp only [wipeD, sl_tie, lt_pair, T_run, T_seq, Then_nx, Then_rt, T_ret, T_drop, T_sif, T_next, T_asg, T_nm, T_gsub, T_setF, T_gtup, T_gtupK, T_gnil, T_gcons, T_C, T_V, T_bin, T_un, T_and, T_or, T_if, T_aNil, T_aCons, T_tup, T_lst, T_new, T_arg, T_meth, T_call, T_callK, T_make, T_fld, T_ch, T_val, T_tru, T_notT, T_andT, T_orT, T_tTrue, T_add, T_sub, T_mul, T_mod, T_fdiv, T_neg, T_lt, T_le, T_gt, T_ge, T_isN, T_isB, T_isNotN, T_isNotB, T_not, T_truB, T_truI, T_truN, T_ok, List.getElem?_cons_zero, List.getElem?_cons_succ, List.set_cons_zero, List.set_cons_succ, List.length_cons, List.length_nil, gAll, true_and, and_true, T_comp, T_iSeq, T_iArg, T_sl, T_oNone, T_oSome, T_for, T_addT, T_addL, T_itT, T_itL, T_ixT, T_ixL, T_ixK, T_atM, if_true, Bool.false_eq_true, if_false, Bool.not_true, Bool.not_false, Bool.true_eq_false, ite_true, ite_false, reduceCtorEq]
  rw [T_allM (ts.dropLast.zip ts.tail) fun p => HT.lexLt [p.1.1, p.1.2.1] [p.2.1, p.2.2.1]]
  have a2 : ((ts.dropLast.zip ts.tail).all fun p => HT.lexLt [p.1.1, p.1.2.1] [p.2.1, p.2.2.1]) = true := by
    rw [List.all_eq_true]
    intro p hp
    have := zip_pw ok.up p hp
    simp only [HT.lexLt_cons, HT.lexLt_nil_nil]
    rcases this with h | ⟨h1, h2⟩
    · rw [if_neg (by omega)]; simpa using h
    · rw [if_pos h1, if_neg (by omega)]; simpa using h2
  rw [a2]
  exact hP
theorem T_kIn {a : Addr} {tab : List (Str × Option D)} {z : Str} {o : Option D} (h : tab.lookup z = some o) : T (kInM a tab (.str z) (.con a) w) P = P (.bl o.isSome) w := by
  simp only [kInM, if_true, h, T_ok]
theorem T_kIx {a : Addr} {tab : List (Str × Option D)} {z : Str} {d : D} (h : tab.lookup z = some (some d)) : T (kIxM a tab (.con a) (.str z) w) P = P d w := by
  simp only [kIxM, if_true, h, T_ok]
theorem t_field_num {z : Str} {lo hi x : Int} {h : D} (hz : tab_NUMBERS.lookup z = some (some (.ktp [.int lo, .int hi]))) (h1 : lo ≤ x) (h2 : x ≤ hi) (hP : P (.bl true) w) : T (m_is_field k [.str z, .int x, h] w) P := by
  simp only [m_is_field, b_is_field, be_is_field, T_kIn hz, T_kIx hz, Option.isSome_some, t_is_within, T_run, T_seq, Then_nx, Then_rt, T_ret, T_drop, T_sif, T_next, T_asg, T_nm, T_gsub, T_setF, T_gtup, T_gtupK, T_gnil, T_gcons, T_C, T_V, T_bin, T_un, T_and, T_or, T_if, T_aNil, T_aCons, T_tup, T_lst, T_new, T_arg, T_meth, T_call, T_callK, T_make, T_fld, T_ch, T_val, T_tru, T_notT, T_andT, T_orT, T_tTrue, T_add, T_sub, T_mul, T_mod, T_fdiv, T_neg, T_lt, T_le, T_gt, T_ge, T_isN, T_isB, T_isNotN, T_isNotB, T_not, T_truB, T_truI, T_truN, T_ok, List.getElem?_cons_zero, List.getElem?_cons_succ, List.set_cons_zero, List.set_cons_succ, List.length_cons, List.length_nil, gAll, true_and, and_true, T_comp, T_iSeq, T_iArg, T_sl, T_oNone, T_oSome, T_for, T_addT, T_addL, T_itT, T_itL, T_ixT, T_ixL, T_ixK, T_atM, if_true, Bool.false_eq_true, if_false, Bool.not_true, Bool.not_false, Bool.true_eq_false, ite_true, ite_false, reduceCtorEq]
  rw [decide_eq_true h1, decide_eq_true h2]
  exact hP
theorem eqD_str {a b : Str} (ha : PyData.strOk a = true) (hb : PyData.strOk b = true) : eqD (.str a) (.str b) w = some (a == b) := by
  simp [eqD, D.py, D.pyR, SeqAt.shaped, PyData.canLay0, PyData.depth, PyData.eqv, ha, hb]
theorem str_eqs {a b : Str} {r : Bool} (h : eqD (.str a) (.str b) w = some r) : T (eqM (.str a) (.str b) w) P = P (.bl r) w := by
  rw [T_eq, h]
  simp
theorem t_field_takes {x : Bool} {h : D} (hP : P (.bl true) w) : T (m_is_field k [.str "takes", .bl x, h] w) P := by
  have hz : tab_NUMBERS.lookup ("takes" : Str) = some none := rfl
  have he : eqD (.str ("takes" : Str)) (.str ("takes" : Str)) w = some true := by rw [eqD_str (by decide +kernel) (by decide +kernel)]; decide +kernel
  simp only [m_is_field, b_is_field, be_is_field, T_kIn hz, str_eqs he, Option.isSome_none, isi_bb, T_run, T_seq, Then_nx, Then_rt, T_ret, T_drop, T_sif, T_next, T_asg, T_nm, T_gsub, T_setF, T_gtup, T_gtupK, T_gnil, T_gcons, T_C, T_V, T_bin, T_un, T_and, T_or, T_if, T_aNil, T_aCons, T_tup, T_lst, T_new, T_arg, T_meth, T_call, T_callK, T_make, T_fld, T_ch, T_val, T_tru, T_notT, T_andT, T_orT, T_tTrue, T_add, T_sub, T_mul, T_mod, T_fdiv, T_neg, T_lt, T_le, T_gt, T_ge, T_isN, T_isB, T_isNotN, T_isNotB, T_not, T_truB, T_truI, T_truN, T_ok, List.getElem?_cons_zero, List.getElem?_cons_succ, List.set_cons_zero, List.set_cons_succ, List.length_cons, List.length_nil, gAll, true_and, and_true, T_comp, T_iSeq, T_iArg, T_sl, T_oNone, T_oSome, T_for, T_addT, T_addL, T_itT, T_itL, T_ixT, T_ixL, T_ixK, T_atM, if_true, Bool.false_eq_true, if_false, Bool.not_true, Bool.not_false, Bool.true_eq_false, ite_true, ite_false, reduceCtorEq]
  exact hP
theorem t_field_ties {ts : List (Int × Int × Int)} {h : Nat} (ok : TiesOk ts h) (hP : P (.bl true) w) : T (m_is_field k [.str "ties", .tup (ts.map tieD), .int h] w) P := by
  have hz : tab_NUMBERS.lookup ("ties" : Str) = some none := rfl
  have he : eqD (.str ("ties" : Str)) (.str ("takes" : Str)) w = some false := by rw [eqD_str (by decide +kernel) (by decide +kernel)]; decide +kernel
  simp only [m_is_field, b_is_field, be_is_field, T_kIn hz, str_eqs he, Option.isSome_none, isi_bb, T_run, T_seq, Then_nx, Then_rt, T_ret, T_drop, T_sif, T_next, T_asg, T_nm, T_gsub, T_setF, T_gtup, T_gtupK, T_gnil, T_gcons, T_C, T_V, T_bin, T_un, T_and, T_or, T_if, T_aNil, T_aCons, T_tup, T_lst, T_new, T_arg, T_meth, T_call, T_callK, T_make, T_fld, T_ch, T_val, T_tru, T_notT, T_andT, T_orT, T_tTrue, T_add, T_sub, T_mul, T_mod, T_fdiv, T_neg, T_lt, T_le, T_gt, T_ge, T_isN, T_isB, T_isNotN, T_isNotB, T_not, T_truB, T_truI, T_truN, T_ok, List.getElem?_cons_zero, List.getElem?_cons_succ, List.set_cons_zero, List.set_cons_succ, List.length_cons, List.length_nil, gAll, true_and, and_true, T_comp, T_iSeq, T_iArg, T_sl, T_oNone, T_oSome, T_for, T_addT, T_addL, T_itT, T_itL, T_ixT, T_ixL, T_ixK, T_atM, if_true, Bool.false_eq_true, if_false, Bool.not_true, Bool.not_false, Bool.true_eq_false, ite_true, ite_false, reduceCtorEq]
  exact t_are_ties k ok hP
end
end Lb

set_option Elab.async false
set_option linter.all false
set_option maxRecDepth 100000
set_option maxHeartbeats 4000000
set_option autoImplicit false
/-! L17: a plan is made. -/
namespace Lb
open PySem PySem.Spec PyProof.Rows L2 Pc
section
variable {w : W} {P : D → W → Prop} {PF : Fl → W → Prop} {PI : ItD → W → Prop} {σ : Sg}
theorem T_items {i : Nat} {kvs : List (Key × D)} (h : w[i]? = some (.dK kvs)) : T (itemsM (.ref i) w) PI = PI ⟨kvs.map fun p => .tup [keyBack p.1, p.2], always⟩ (w.set i (.dF kvs)) := by
  simp only [itemsM, h, T_ok]
theorem T_iItems {m : ME} : T (iItemsM m σ w) PI = T (m σ w) fun d w1 => T (itemsM d w1) PI := by unfold iItemsM; simp only [T_bind]
/-- what stands behind a turn -/
def Turn (next : Sg → W → Prop) (PF : Fl → W → Prop) : Fl → W → Prop := fun f w => match f with
  | .nx s => next s w
  | .ct s => next s w
  | .bk s => PF (.nx s) w
  | .rt d => PF (.rt d) w
theorem Turn_nx {n : Sg → W → Prop} : Turn n PF (.nx σ) w = n σ w := rfl
theorem Turn_ct {n : Sg → W → Prop} : Turn n PF (.ct σ) w = n σ w := rfl
theorem Turn_bk {n : Sg → W → Prop} : Turn n PF (.bk σ) w = PF (.nx σ) w := rfl
theorem Turn_rt {n : Sg → W → Prop} {d : D} : Turn n PF (.rt d) w = PF (.rt d) w := rfl
open Classical in
theorem T_forN {it : ItD} {g : MG} {b : MS} : T (forL it g b [] σ w) PF = (it.ok w ∧ PF (.nx σ) w) := by
  unfold forL
  rw [T_guard, T_ok]
open Classical in
theorem T_forC {it : ItD} {g : MG} {b : MS} {x : D} {xs : List D} : T (forL it g b (x :: xs) σ w) PF = (it.ok w ∧ T (g x σ w) fun σ1 w1 => T (b σ1 w1) (Turn (fun s w2 => T (forL it g b xs s w2) PF) PF)) := by
  conv => lhs; unfold forL
  rw [T_guard, T_bind]
  congr 1; congr 1; funext σ1 w1
  rw [T_bind]
  congr 1; funext f w2
  cases f <;> simp only [T_ok, Turn]
theorem okA {xs : List D} : ItD.ok ⟨xs, always⟩ w = True := eq_true trivial
theorem T_updM {i j : Nat} {kvs more : List (Key × D)} (h1 : w[i]? = some (.dK kvs)) (h2 : w[j]? = some (.dK more)) : T (updM (.ref i) [.ref j] w) P = ((i ≠ j ∧ kvs.length + more.length ≤ sizeLine) ∧ P .non (w.set i (.dK (mergeD kvs more)))) := by
  simp only [updM, h1, h2, T_guard, T_ok]
/-- what the waits bear -/
def Borne (m : Mo) (b : Int) : Prop := ((m.bears = .non ∧ b = m.lost) ∨ m.bears = .int b) ∧ 0 ≤ b ∧ b ≤ 3
/-- a model's words are a plan's, bears aside -/
structure MoB (m : Mo) (h : Nat) : Prop where
  ranks : RanksOk m.ranks h
  n1 : 1 ≤ m.ranks.length
  n4 : m.ranks.length ≤ 4
  every : 1 ≤ m.every ∧ m.every ≤ 5
  lost : 0 ≤ m.lost ∧ m.lost ≤ 3
  slow : 1 ≤ m.slow ∧ m.slow ≤ 4
  gap : 0 ≤ m.gap ∧ m.gap ≤ 3
  hold : 0 ≤ m.hold ∧ m.hold ≤ 20
  ties : TiesOk m.ties h
  hosts : 0 ≤ m.hosts ∧ m.hosts ≤ 4
theorem MoOk.b {m : Mo} {h : Nat} (o : MoOk m h) : MoB m h := ⟨o.ranks, o.n1, o.n4, o.every, o.lost, o.slow, o.gap, o.hold, o.ties, o.hosts⟩
/-- a plan's fields -/
def planFs (m : Mo) (b : Int) : List (Str × D) := [("ranks", .tup (m.ranks.map rowD)), ("every", .int m.every), ("lost", .int m.lost), ("slow", .int m.slow), ("bears", .int b), ("gap", .int m.gap), ("hold", .int m.hold), ("takes", .bl m.takes), ("ties", .tup (m.ties.map tieD)), ("hosts", .int m.hosts)]
theorem T_setf {p i : Nat} {C : Addr} {fs : List (Str × D)} {z : Str} {d : D} (h : w[p]? = some (.ins C fs)) (h0 : σ[0]? = some (some (.ref p))) (h1 : σ[i]? = some (some d)) (hl : fs.length < 1000) (q : PF (.nx σ) (w.set p (.ins C (putFd z d fs)))) : T (sSetF C z (eVar 0) (eVar i) σ w) PF := by
  simp only [T_setF, T_V, h0, h1, T_setFld h]
  exact ⟨hl, q⟩
variable (k : Ads)
theorem T_init {p h : Nat} {m : Mo} {b : Int} (hp : w[p]? = some (.ins k.C_Plan [])) (o : MoB m h) (hb : Borne m b)
    (hP : ∀ w', w'[p]? = some (.ins k.C_Plan (planFs m b)) → w.length ≤ w'.length → (∀ i, i < w.length → i ≠ p → w'[i]? = w[i]?) → P .non w') :
    T (m_Plan_init k [.ref p, .tup (m.ranks.map rowD), .int m.every, .int m.lost, .int m.slow, m.bears, .int m.gap, .int m.hold, .bl m.takes, .tup (m.ties.map tieD), .int m.hosts] w) P := by
  have st : ∀ (σ : Sg) (Q : D → W → Prop), σ[5]? = some (some m.bears) → σ[3]? = some (some (.int m.lost)) → T (eIf (tVal (eBin isM (eVar 5) (eC .non))) (eVar 3) (eVar 5) σ w) Q = Q (.int b) w := fun σ Q h5 h3 => by
    simp only [T_if, T_val, T_bin, T_V, T_C, h5, h3, T_isN]
    rcases hb.1 with ⟨h1, h2⟩ | h1
    · rw [h1, h2]; rfl
    · rw [h1]; rfl
  have r0 : ∃ r rest, m.ranks = r :: rest ∧ r.length = h := by
    have := o.n1
    cases hm : m.ranks with
    | nil => rw [hm] at this; simp at this
    | cons a c => exact ⟨a, c, rfl, (o.ranks.row a (by rw [hm]; exact List.mem_cons_self ..)).1⟩
  obtain ⟨r, rest, er, el⟩ := r0
  have ln : ∀ (w : W) (Q : D → W → Prop), T (lenM [rowD r] w) Q = Q (.int h) w := fun w Q => by rw [rowD, lenT, List.length_map, el]
  have lp : p < w.length := (List.getElem?_eq_some_iff.mp hp).1
  unfold m_Plan_init b_Plan_init
  rw [T_run, be_Plan_init, T_seq]
  simp only [T_run, Then_nx, Then_rt, T_ret, T_drop, T_sif, T_next, T_asg, T_nm, T_gsub, T_setF, T_gtup, T_gtupK, T_gnil, T_gcons, T_C, T_V, T_bin, T_un, T_and, T_or, T_if, T_aNil, T_aCons, T_tup, T_lst, T_new, T_arg, T_meth, T_call, T_callK, T_make, T_fld, T_ch, T_val, T_tru, T_notT, T_andT, T_orT, T_tTrue, T_add, T_sub, T_mul, T_mod, T_fdiv, T_neg, T_lt, T_le, T_gt, T_ge, T_isN, T_isB, T_isNotN, T_isNotB, T_not, T_truB, T_truI, T_truN, T_ok, List.getElem?_cons_zero, List.getElem?_cons_succ, List.set_cons_zero, List.set_cons_succ, List.length_cons, List.length_nil, gAll, true_and, and_true, T_comp, T_iSeq, T_iArg, T_sl, T_oNone, T_oSome, T_for, T_addT, T_addL, T_itT, T_itL, T_ixT, T_ixL, T_ixK, T_atM, if_true, Bool.false_eq_true, if_false, Bool.not_true, Bool.not_false, Bool.true_eq_false, ite_true, ite_false, reduceCtorEq]
  refine t_are_ranks k o.ranks o.n1 o.n4 ?_
  simp only [T_run, Then_nx, Then_rt, T_ret, T_drop, T_sif, T_next, T_asg, T_nm, T_gsub, T_setF, T_gtup, T_gtupK, T_gnil, T_gcons, T_C, T_V, T_bin, T_un, T_and, T_or, T_if, T_aNil, T_aCons, T_tup, T_lst, T_new, T_arg, T_meth, T_call, T_callK, T_make, T_fld, T_ch, T_val, T_tru, T_notT, T_andT, T_orT, T_tTrue, T_add, T_sub, T_mul, T_mod, T_fdiv, T_neg, T_lt, T_le, T_gt, T_ge, T_isN, T_isB, T_isNotN, T_isNotB, T_not, T_truB, T_truI, T_truN, T_ok, List.getElem?_cons_zero, List.getElem?_cons_succ, List.set_cons_zero, List.set_cons_succ, List.length_cons, List.length_nil, gAll, true_and, and_true, T_comp, T_iSeq, T_iArg, T_sl, T_oNone, T_oSome, T_for, T_addT, T_addL, T_itT, T_itL, T_ixT, T_ixL, T_ixK, T_atM, if_true, Bool.false_eq_true, if_false, Bool.not_true, Bool.not_false, Bool.true_eq_false, ite_true, ite_false, reduceCtorEq]
  rw [T_seq, T_asg, st _ _ rfl rfl, T_nm, Then_nx]
  rw [T_seq]
  simp only [T_dct, T_dCons, T_dNil, T_run, Then_nx, Then_rt, T_ret, T_drop, T_sif, T_next, T_asg, T_nm, T_gsub, T_setF, T_gtup, T_gtupK, T_gnil, T_gcons, T_C, T_V, T_bin, T_un, T_and, T_or, T_if, T_aNil, T_aCons, T_tup, T_lst, T_new, T_arg, T_meth, T_call, T_callK, T_make, T_fld, T_ch, T_val, T_tru, T_notT, T_andT, T_orT, T_tTrue, T_add, T_sub, T_mul, T_mod, T_fdiv, T_neg, T_lt, T_le, T_gt, T_ge, T_isN, T_isB, T_isNotN, T_isNotB, T_not, T_truB, T_truI, T_truN, T_ok, List.getElem?_cons_zero, List.getElem?_cons_succ, List.set_cons_zero, List.set_cons_succ, List.length_cons, List.length_nil, gAll, true_and, and_true, T_comp, T_iSeq, T_iArg, T_sl, T_oNone, T_oSome, T_for, T_addT, T_addL, T_itT, T_itL, T_ixT, T_ixL, T_ixK, T_atM, if_true, Bool.false_eq_true, if_false, Bool.not_true, Bool.not_false, Bool.true_eq_false, ite_true, ite_false, reduceCtorEq]
  refine ⟨[(.inr "every", .int m.every), (.inr "lost", .int m.lost), (.inr "slow", .int m.slow), (.inr "bears", .int b), (.inr "gap", .int m.gap), (.inr "hold", .int m.hold), (.inr "takes", .bl m.takes)], rfl, Nat.le_of_ble_eq_true rfl, ?_⟩
  have mg1 : mergeD [] ([((Sum.inr "every" : Key), D.int m.every), (.inr "lost", .int m.lost), (.inr "slow", .int m.slow), (.inr "bears", .int b), (.inr "gap", .int m.gap), (.inr "hold", .int m.hold), (.inr "takes", .bl m.takes)]) = ([((Sum.inr "every" : Key), D.int m.every), (.inr "lost", .int m.lost), (.inr "slow", .int m.slow), (.inr "bears", .int b), (.inr "gap", .int m.gap), (.inr "hold", .int m.hold), (.inr "takes", .bl m.takes)]) := by rfl
  rw [mg1]
  obtain ⟨w1, hw1⟩ : ∃ w1 : W, w1 = w ++ [.dK ([((Sum.inr "every" : Key), D.int m.every), (.inr "lost", .int m.lost), (.inr "slow", .int m.slow), (.inr "bears", .int b), (.inr "gap", .int m.gap), (.inr "hold", .int m.hold), (.inr "takes", .bl m.takes)])] := ⟨_, rfl⟩
  rw [← hw1]
  have l1 : w1.length = w.length + 1 := by rw [hw1]; simp
  have hq1 : w1[w.length]? = some (.dK ([((Sum.inr "every" : Key), D.int m.every), (.inr "lost", .int m.lost), (.inr "slow", .int m.slow), (.inr "bears", .int b), (.inr "gap", .int m.gap), (.inr "hold", .int m.hold), (.inr "takes", .bl m.takes)])) := by rw [hw1, List.getElem?_append_right (Nat.le_refl _)]; simp
  have ty1 : tyD (.ref w.length) w1 = some "dict" := by simp only [tyD, hq1]
  rw [T_seq]
  simp only [T_dct, T_dCons, T_dNil, ty1, T_run, Then_nx, Then_rt, T_ret, T_drop, T_sif, T_next, T_asg, T_nm, T_gsub, T_setF, T_gtup, T_gtupK, T_gnil, T_gcons, T_C, T_V, T_bin, T_un, T_and, T_or, T_if, T_aNil, T_aCons, T_tup, T_lst, T_new, T_arg, T_meth, T_call, T_callK, T_make, T_fld, T_ch, T_val, T_tru, T_notT, T_andT, T_orT, T_tTrue, T_add, T_sub, T_mul, T_mod, T_fdiv, T_neg, T_lt, T_le, T_gt, T_ge, T_isN, T_isB, T_isNotN, T_isNotB, T_not, T_truB, T_truI, T_truN, T_ok, List.getElem?_cons_zero, List.getElem?_cons_succ, List.set_cons_zero, List.set_cons_succ, List.length_cons, List.length_nil, gAll, true_and, and_true, T_comp, T_iSeq, T_iArg, T_sl, T_oNone, T_oSome, T_for, T_addT, T_addL, T_itT, T_itL, T_ixT, T_ixL, T_ixK, T_atM, if_true, Bool.false_eq_true, if_false, Bool.not_true, Bool.not_false, Bool.true_eq_false, ite_true, ite_false, reduceCtorEq]
  refine ⟨([((Sum.inr "ties" : Key), D.tup (m.ties.map tieD)), (.inr "hosts", .int m.hosts)]), rfl, Nat.le_of_ble_eq_true rfl, ?_⟩
  have mg2 : mergeD [] ([((Sum.inr "ties" : Key), D.tup (m.ties.map tieD)), (.inr "hosts", .int m.hosts)]) = ([((Sum.inr "ties" : Key), D.tup (m.ties.map tieD)), (.inr "hosts", .int m.hosts)]) := by rfl
  rw [mg2]
  obtain ⟨w2, hw2⟩ : ∃ w2 : W, w2 = w1 ++ [.dK ([((Sum.inr "ties" : Key), D.tup (m.ties.map tieD)), (.inr "hosts", .int m.hosts)])] := ⟨_, rfl⟩
  rw [← hw2]
  have hr2 : w2[w1.length]? = some (.dK ([((Sum.inr "ties" : Key), D.tup (m.ties.map tieD)), (.inr "hosts", .int m.hosts)])) := by rw [hw2, List.getElem?_append_right (Nat.le_refl _)]; simp
  have hq2 : w2[w.length]? = some (.dK ([((Sum.inr "every" : Key), D.int m.every), (.inr "lost", .int m.lost), (.inr "slow", .int m.slow), (.inr "bears", .int b), (.inr "gap", .int m.gap), (.inr "hold", .int m.hold), (.inr "takes", .bl m.takes)])) := by rw [hw2, List.getElem?_append_left (by omega)]; exact hq1
  rw [T_updM hq2 hr2]
  refine ⟨⟨by omega, sz _ (Nat.le_of_ble_eq_true rfl)⟩, ?_⟩
  have mg3 : mergeD ([((Sum.inr "every" : Key), D.int m.every), (.inr "lost", .int m.lost), (.inr "slow", .int m.slow), (.inr "bears", .int b), (.inr "gap", .int m.gap), (.inr "hold", .int m.hold), (.inr "takes", .bl m.takes)]) ([((Sum.inr "ties" : Key), D.tup (m.ties.map tieD)), (.inr "hosts", .int m.hosts)]) = ([((Sum.inr "every" : Key), D.int m.every), (.inr "lost", .int m.lost), (.inr "slow", .int m.slow), (.inr "bears", .int b), (.inr "gap", .int m.gap), (.inr "hold", .int m.hold), (.inr "takes", .bl m.takes), (.inr "ties", .tup (m.ties.map tieD)), (.inr "hosts", .int m.hosts)]) := by rfl
  rw [mg3]
  have lq2 : w.length < w2.length := by rw [hw2]; simp; omega
  obtain ⟨w3, hw3⟩ : ∃ w3 : W, w3 = w2.set w.length (.dK ([((Sum.inr "every" : Key), D.int m.every), (.inr "lost", .int m.lost), (.inr "slow", .int m.slow), (.inr "bears", .int b), (.inr "gap", .int m.gap), (.inr "hold", .int m.hold), (.inr "takes", .bl m.takes), (.inr "ties", .tup (m.ties.map tieD)), (.inr "hosts", .int m.hosts)])) := ⟨_, rfl⟩
  rw [← hw3]
  have hq3 : w3[w.length]? = some (.dK ([((Sum.inr "every" : Key), D.int m.every), (.inr "lost", .int m.lost), (.inr "slow", .int m.slow), (.inr "bears", .int b), (.inr "gap", .int m.gap), (.inr "hold", .int m.hold), (.inr "takes", .bl m.takes), (.inr "ties", .tup (m.ties.map tieD)), (.inr "hosts", .int m.hosts)])) := by rw [hw3]; exact List.getElem?_set_self lq2
  rw [T_seq]
  simp only [T_iItems, T_run, Then_nx, Then_rt, T_ret, T_drop, T_sif, T_next, T_asg, T_nm, T_gsub, T_setF, T_gtup, T_gtupK, T_gnil, T_gcons, T_C, T_V, T_bin, T_un, T_and, T_or, T_if, T_aNil, T_aCons, T_tup, T_lst, T_new, T_arg, T_meth, T_call, T_callK, T_make, T_fld, T_ch, T_val, T_tru, T_notT, T_andT, T_orT, T_tTrue, T_add, T_sub, T_mul, T_mod, T_fdiv, T_neg, T_lt, T_le, T_gt, T_ge, T_isN, T_isB, T_isNotN, T_isNotB, T_not, T_truB, T_truI, T_truN, T_ok, List.getElem?_cons_zero, List.getElem?_cons_succ, List.set_cons_zero, List.set_cons_succ, List.length_cons, List.length_nil, gAll, true_and, and_true, T_comp, T_iSeq, T_iArg, T_sl, T_oNone, T_oSome, T_for, T_addT, T_addL, T_itT, T_itL, T_ixT, T_ixL, T_ixK, T_atM, if_true, Bool.false_eq_true, if_false, Bool.not_true, Bool.not_false, Bool.true_eq_false, ite_true, ite_false, reduceCtorEq]
  rw [T_items hq3]
  obtain ⟨w4, hw4⟩ : ∃ w4 : W, w4 = w3.set w.length (.dF ([((Sum.inr "every" : Key), D.int m.every), (.inr "lost", .int m.lost), (.inr "slow", .int m.slow), (.inr "bears", .int b), (.inr "gap", .int m.gap), (.inr "hold", .int m.hold), (.inr "takes", .bl m.takes), (.inr "ties", .tup (m.ties.map tieD)), (.inr "hosts", .int m.hosts)])) := ⟨_, rfl⟩
  rw [← hw4]
  have z0 : atI (m.ranks.map rowD) 0 = some (rowD r) := by rw [er]; exact at0
  simp only [List.map_cons, List.map_nil, keyBack]
  rw [T_forC]
  refine ⟨trivial, ?_⟩
  simp only [z0, ln, Option.some.injEq, exists_eq_left', T_run, Then_nx, Then_rt, T_ret, T_drop, T_sif, T_next, T_asg, T_nm, T_gsub, T_setF, T_gtup, T_gtupK, T_gnil, T_gcons, T_C, T_V, T_bin, T_un, T_and, T_or, T_if, T_aNil, T_aCons, T_tup, T_lst, T_new, T_arg, T_meth, T_call, T_callK, T_make, T_fld, T_ch, T_val, T_tru, T_notT, T_andT, T_orT, T_tTrue, T_add, T_sub, T_mul, T_mod, T_fdiv, T_neg, T_lt, T_le, T_gt, T_ge, T_isN, T_isB, T_isNotN, T_isNotB, T_not, T_truB, T_truI, T_truN, T_ok, List.getElem?_cons_zero, List.getElem?_cons_succ, List.set_cons_zero, List.set_cons_succ, List.length_cons, List.length_nil, gAll, true_and, and_true, T_comp, T_iSeq, T_iArg, T_sl, T_oNone, T_oSome, T_for, T_addT, T_addL, T_itT, T_itL, T_ixT, T_ixL, T_ixK, T_atM, if_true, Bool.false_eq_true, if_false, Bool.not_true, Bool.not_false, Bool.true_eq_false, ite_true, ite_false, reduceCtorEq]
  refine t_field_num k rfl o.every.1 o.every.2 ?_
  simp only [Turn_nx, T_run, Then_nx, Then_rt, T_ret, T_drop, T_sif, T_next, T_asg, T_nm, T_gsub, T_setF, T_gtup, T_gtupK, T_gnil, T_gcons, T_C, T_V, T_bin, T_un, T_and, T_or, T_if, T_aNil, T_aCons, T_tup, T_lst, T_new, T_arg, T_meth, T_call, T_callK, T_make, T_fld, T_ch, T_val, T_tru, T_notT, T_andT, T_orT, T_tTrue, T_add, T_sub, T_mul, T_mod, T_fdiv, T_neg, T_lt, T_le, T_gt, T_ge, T_isN, T_isB, T_isNotN, T_isNotB, T_not, T_truB, T_truI, T_truN, T_ok, List.getElem?_cons_zero, List.getElem?_cons_succ, List.set_cons_zero, List.set_cons_succ, List.length_cons, List.length_nil, gAll, true_and, and_true, T_comp, T_iSeq, T_iArg, T_sl, T_oNone, T_oSome, T_for, T_addT, T_addL, T_itT, T_itL, T_ixT, T_ixL, T_ixK, T_atM, if_true, Bool.false_eq_true, if_false, Bool.not_true, Bool.not_false, Bool.true_eq_false, ite_true, ite_false, reduceCtorEq]
  rw [T_forC]
  refine ⟨trivial, ?_⟩
  simp only [z0, ln, Option.some.injEq, exists_eq_left', T_run, Then_nx, Then_rt, T_ret, T_drop, T_sif, T_next, T_asg, T_nm, T_gsub, T_setF, T_gtup, T_gtupK, T_gnil, T_gcons, T_C, T_V, T_bin, T_un, T_and, T_or, T_if, T_aNil, T_aCons, T_tup, T_lst, T_new, T_arg, T_meth, T_call, T_callK, T_make, T_fld, T_ch, T_val, T_tru, T_notT, T_andT, T_orT, T_tTrue, T_add, T_sub, T_mul, T_mod, T_fdiv, T_neg, T_lt, T_le, T_gt, T_ge, T_isN, T_isB, T_isNotN, T_isNotB, T_not, T_truB, T_truI, T_truN, T_ok, List.getElem?_cons_zero, List.getElem?_cons_succ, List.set_cons_zero, List.set_cons_succ, List.length_cons, List.length_nil, gAll, true_and, and_true, T_comp, T_iSeq, T_iArg, T_sl, T_oNone, T_oSome, T_for, T_addT, T_addL, T_itT, T_itL, T_ixT, T_ixL, T_ixK, T_atM, if_true, Bool.false_eq_true, if_false, Bool.not_true, Bool.not_false, Bool.true_eq_false, ite_true, ite_false, reduceCtorEq]
  refine t_field_num k rfl o.lost.1 o.lost.2 ?_
  simp only [Turn_nx, T_run, Then_nx, Then_rt, T_ret, T_drop, T_sif, T_next, T_asg, T_nm, T_gsub, T_setF, T_gtup, T_gtupK, T_gnil, T_gcons, T_C, T_V, T_bin, T_un, T_and, T_or, T_if, T_aNil, T_aCons, T_tup, T_lst, T_new, T_arg, T_meth, T_call, T_callK, T_make, T_fld, T_ch, T_val, T_tru, T_notT, T_andT, T_orT, T_tTrue, T_add, T_sub, T_mul, T_mod, T_fdiv, T_neg, T_lt, T_le, T_gt, T_ge, T_isN, T_isB, T_isNotN, T_isNotB, T_not, T_truB, T_truI, T_truN, T_ok, List.getElem?_cons_zero, List.getElem?_cons_succ, List.set_cons_zero, List.set_cons_succ, List.length_cons, List.length_nil, gAll, true_and, and_true, T_comp, T_iSeq, T_iArg, T_sl, T_oNone, T_oSome, T_for, T_addT, T_addL, T_itT, T_itL, T_ixT, T_ixL, T_ixK, T_atM, if_true, Bool.false_eq_true, if_false, Bool.not_true, Bool.not_false, Bool.true_eq_false, ite_true, ite_false, reduceCtorEq]
  rw [T_forC]
  refine ⟨trivial, ?_⟩
  simp only [z0, ln, Option.some.injEq, exists_eq_left', T_run, Then_nx, Then_rt, T_ret, T_drop, T_sif, T_next, T_asg, T_nm, T_gsub, T_setF, T_gtup, T_gtupK, T_gnil, T_gcons, T_C, T_V, T_bin, T_un, T_and, T_or, T_if, T_aNil, T_aCons, T_tup, T_lst, T_new, T_arg, T_meth, T_call, T_callK, T_make, T_fld, T_ch, T_val, T_tru, T_notT, T_andT, T_orT, T_tTrue, T_add, T_sub, T_mul, T_mod, T_fdiv, T_neg, T_lt, T_le, T_gt, T_ge, T_isN, T_isB, T_isNotN, T_isNotB, T_not, T_truB, T_truI, T_truN, T_ok, List.getElem?_cons_zero, List.getElem?_cons_succ, List.set_cons_zero, List.set_cons_succ, List.length_cons, List.length_nil, gAll, true_and, and_true, T_comp, T_iSeq, T_iArg, T_sl, T_oNone, T_oSome, T_for, T_addT, T_addL, T_itT, T_itL, T_ixT, T_ixL, T_ixK, T_atM, if_true, Bool.false_eq_true, if_false, Bool.not_true, Bool.not_false, Bool.true_eq_false, ite_true, ite_false, reduceCtorEq]
  refine t_field_num k rfl o.slow.1 o.slow.2 ?_
  simp only [Turn_nx, T_run, Then_nx, Then_rt, T_ret, T_drop, T_sif, T_next, T_asg, T_nm, T_gsub, T_setF, T_gtup, T_gtupK, T_gnil, T_gcons, T_C, T_V, T_bin, T_un, T_and, T_or, T_if, T_aNil, T_aCons, T_tup, T_lst, T_new, T_arg, T_meth, T_call, T_callK, T_make, T_fld, T_ch, T_val, T_tru, T_notT, T_andT, T_orT, T_tTrue, T_add, T_sub, T_mul, T_mod, T_fdiv, T_neg, T_lt, T_le, T_gt, T_ge, T_isN, T_isB, T_isNotN, T_isNotB, T_not, T_truB, T_truI, T_truN, T_ok, List.getElem?_cons_zero, List.getElem?_cons_succ, List.set_cons_zero, List.set_cons_succ, List.length_cons, List.length_nil, gAll, true_and, and_true, T_comp, T_iSeq, T_iArg, T_sl, T_oNone, T_oSome, T_for, T_addT, T_addL, T_itT, T_itL, T_ixT, T_ixL, T_ixK, T_atM, if_true, Bool.false_eq_true, if_false, Bool.not_true, Bool.not_false, Bool.true_eq_false, ite_true, ite_false, reduceCtorEq]
  rw [T_forC]
  refine ⟨trivial, ?_⟩
  simp only [z0, ln, Option.some.injEq, exists_eq_left', T_run, Then_nx, Then_rt, T_ret, T_drop, T_sif, T_next, T_asg, T_nm, T_gsub, T_setF, T_gtup, T_gtupK, T_gnil, T_gcons, T_C, T_V, T_bin, T_un, T_and, T_or, T_if, T_aNil, T_aCons, T_tup, T_lst, T_new, T_arg, T_meth, T_call, T_callK, T_make, T_fld, T_ch, T_val, T_tru, T_notT, T_andT, T_orT, T_tTrue, T_add, T_sub, T_mul, T_mod, T_fdiv, T_neg, T_lt, T_le, T_gt, T_ge, T_isN, T_isB, T_isNotN, T_isNotB, T_not, T_truB, T_truI, T_truN, T_ok, List.getElem?_cons_zero, List.getElem?_cons_succ, List.set_cons_zero, List.set_cons_succ, List.length_cons, List.length_nil, gAll, true_and, and_true, T_comp, T_iSeq, T_iArg, T_sl, T_oNone, T_oSome, T_for, T_addT, T_addL, T_itT, T_itL, T_ixT, T_ixL, T_ixK, T_atM, if_true, Bool.false_eq_true, if_false, Bool.not_true, Bool.not_false, Bool.true_eq_false, ite_true, ite_false, reduceCtorEq]
  refine t_field_num k rfl hb.2.1 hb.2.2 ?_
  simp only [Turn_nx, T_run, Then_nx, Then_rt, T_ret, T_drop, T_sif, T_next, T_asg, T_nm, T_gsub, T_setF, T_gtup, T_gtupK, T_gnil, T_gcons, T_C, T_V, T_bin, T_un, T_and, T_or, T_if, T_aNil, T_aCons, T_tup, T_lst, T_new, T_arg, T_meth, T_call, T_callK, T_make, T_fld, T_ch, T_val, T_tru, T_notT, T_andT, T_orT, T_tTrue, T_add, T_sub, T_mul, T_mod, T_fdiv, T_neg, T_lt, T_le, T_gt, T_ge, T_isN, T_isB, T_isNotN, T_isNotB, T_not, T_truB, T_truI, T_truN, T_ok, List.getElem?_cons_zero, List.getElem?_cons_succ, List.set_cons_zero, List.set_cons_succ, List.length_cons, List.length_nil, gAll, true_and, and_true, T_comp, T_iSeq, T_iArg, T_sl, T_oNone, T_oSome, T_for, T_addT, T_addL, T_itT, T_itL, T_ixT, T_ixL, T_ixK, T_atM, if_true, Bool.false_eq_true, if_false, Bool.not_true, Bool.not_false, Bool.true_eq_false, ite_true, ite_false, reduceCtorEq]
  rw [T_forC]
  refine ⟨trivial, ?_⟩
  simp only [z0, ln, Option.some.injEq, exists_eq_left', T_run, Then_nx, Then_rt, T_ret, T_drop, T_sif, T_next, T_asg, T_nm, T_gsub, T_setF, T_gtup, T_gtupK, T_gnil, T_gcons, T_C, T_V, T_bin, T_un, T_and, T_or, T_if, T_aNil, T_aCons, T_tup, T_lst, T_new, T_arg, T_meth, T_call, T_callK, T_make, T_fld, T_ch, T_val, T_tru, T_notT, T_andT, T_orT, T_tTrue, T_add, T_sub, T_mul, T_mod, T_fdiv, T_neg, T_lt, T_le, T_gt, T_ge, T_isN, T_isB, T_isNotN, T_isNotB, T_not, T_truB, T_truI, T_truN, T_ok, List.getElem?_cons_zero, List.getElem?_cons_succ, List.set_cons_zero, List.set_cons_succ, List.length_cons, List.length_nil, gAll, true_and, and_true, T_comp, T_iSeq, T_iArg, T_sl, T_oNone, T_oSome, T_for, T_addT, T_addL, T_itT, T_itL, T_ixT, T_ixL, T_ixK, T_atM, if_true, Bool.false_eq_true, if_false, Bool.not_true, Bool.not_false, Bool.true_eq_false, ite_true, ite_false, reduceCtorEq]
  refine t_field_num k rfl o.gap.1 o.gap.2 ?_
  simp only [Turn_nx, T_run, Then_nx, Then_rt, T_ret, T_drop, T_sif, T_next, T_asg, T_nm, T_gsub, T_setF, T_gtup, T_gtupK, T_gnil, T_gcons, T_C, T_V, T_bin, T_un, T_and, T_or, T_if, T_aNil, T_aCons, T_tup, T_lst, T_new, T_arg, T_meth, T_call, T_callK, T_make, T_fld, T_ch, T_val, T_tru, T_notT, T_andT, T_orT, T_tTrue, T_add, T_sub, T_mul, T_mod, T_fdiv, T_neg, T_lt, T_le, T_gt, T_ge, T_isN, T_isB, T_isNotN, T_isNotB, T_not, T_truB, T_truI, T_truN, T_ok, List.getElem?_cons_zero, List.getElem?_cons_succ, List.set_cons_zero, List.set_cons_succ, List.length_cons, List.length_nil, gAll, true_and, and_true, T_comp, T_iSeq, T_iArg, T_sl, T_oNone, T_oSome, T_for, T_addT, T_addL, T_itT, T_itL, T_ixT, T_ixL, T_ixK, T_atM, if_true, Bool.false_eq_true, if_false, Bool.not_true, Bool.not_false, Bool.true_eq_false, ite_true, ite_false, reduceCtorEq]
  rw [T_forC]
  refine ⟨trivial, ?_⟩
  simp only [z0, ln, Option.some.injEq, exists_eq_left', T_run, Then_nx, Then_rt, T_ret, T_drop, T_sif, T_next, T_asg, T_nm, T_gsub, T_setF, T_gtup, T_gtupK, T_gnil, T_gcons, T_C, T_V, T_bin, T_un, T_and, T_or, T_if, T_aNil, T_aCons, T_tup, T_lst, T_new, T_arg, T_meth, T_call, T_callK, T_make, T_fld, T_ch, T_val, T_tru, T_notT, T_andT, T_orT, T_tTrue, T_add, T_sub, T_mul, T_mod, T_fdiv, T_neg, T_lt, T_le, T_gt, T_ge, T_isN, T_isB, T_isNotN, T_isNotB, T_not, T_truB, T_truI, T_truN, T_ok, List.getElem?_cons_zero, List.getElem?_cons_succ, List.set_cons_zero, List.set_cons_succ, List.length_cons, List.length_nil, gAll, true_and, and_true, T_comp, T_iSeq, T_iArg, T_sl, T_oNone, T_oSome, T_for, T_addT, T_addL, T_itT, T_itL, T_ixT, T_ixL, T_ixK, T_atM, if_true, Bool.false_eq_true, if_false, Bool.not_true, Bool.not_false, Bool.true_eq_false, ite_true, ite_false, reduceCtorEq]
  refine t_field_num k rfl o.hold.1 o.hold.2 ?_
  simp only [Turn_nx, T_run, Then_nx, Then_rt, T_ret, T_drop, T_sif, T_next, T_asg, T_nm, T_gsub, T_setF, T_gtup, T_gtupK, T_gnil, T_gcons, T_C, T_V, T_bin, T_un, T_and, T_or, T_if, T_aNil, T_aCons, T_tup, T_lst, T_new, T_arg, T_meth, T_call, T_callK, T_make, T_fld, T_ch, T_val, T_tru, T_notT, T_andT, T_orT, T_tTrue, T_add, T_sub, T_mul, T_mod, T_fdiv, T_neg, T_lt, T_le, T_gt, T_ge, T_isN, T_isB, T_isNotN, T_isNotB, T_not, T_truB, T_truI, T_truN, T_ok, List.getElem?_cons_zero, List.getElem?_cons_succ, List.set_cons_zero, List.set_cons_succ, List.length_cons, List.length_nil, gAll, true_and, and_true, T_comp, T_iSeq, T_iArg, T_sl, T_oNone, T_oSome, T_for, T_addT, T_addL, T_itT, T_itL, T_ixT, T_ixL, T_ixK, T_atM, if_true, Bool.false_eq_true, if_false, Bool.not_true, Bool.not_false, Bool.true_eq_false, ite_true, ite_false, reduceCtorEq]
  rw [T_forC]
  refine ⟨trivial, ?_⟩
  simp only [z0, ln, Option.some.injEq, exists_eq_left', T_run, Then_nx, Then_rt, T_ret, T_drop, T_sif, T_next, T_asg, T_nm, T_gsub, T_setF, T_gtup, T_gtupK, T_gnil, T_gcons, T_C, T_V, T_bin, T_un, T_and, T_or, T_if, T_aNil, T_aCons, T_tup, T_lst, T_new, T_arg, T_meth, T_call, T_callK, T_make, T_fld, T_ch, T_val, T_tru, T_notT, T_andT, T_orT, T_tTrue, T_add, T_sub, T_mul, T_mod, T_fdiv, T_neg, T_lt, T_le, T_gt, T_ge, T_isN, T_isB, T_isNotN, T_isNotB, T_not, T_truB, T_truI, T_truN, T_ok, List.getElem?_cons_zero, List.getElem?_cons_succ, List.set_cons_zero, List.set_cons_succ, List.length_cons, List.length_nil, gAll, true_and, and_true, T_comp, T_iSeq, T_iArg, T_sl, T_oNone, T_oSome, T_for, T_addT, T_addL, T_itT, T_itL, T_ixT, T_ixL, T_ixK, T_atM, if_true, Bool.false_eq_true, if_false, Bool.not_true, Bool.not_false, Bool.true_eq_false, ite_true, ite_false, reduceCtorEq]
  refine t_field_takes k ?_
  simp only [Turn_nx, T_run, Then_nx, Then_rt, T_ret, T_drop, T_sif, T_next, T_asg, T_nm, T_gsub, T_setF, T_gtup, T_gtupK, T_gnil, T_gcons, T_C, T_V, T_bin, T_un, T_and, T_or, T_if, T_aNil, T_aCons, T_tup, T_lst, T_new, T_arg, T_meth, T_call, T_callK, T_make, T_fld, T_ch, T_val, T_tru, T_notT, T_andT, T_orT, T_tTrue, T_add, T_sub, T_mul, T_mod, T_fdiv, T_neg, T_lt, T_le, T_gt, T_ge, T_isN, T_isB, T_isNotN, T_isNotB, T_not, T_truB, T_truI, T_truN, T_ok, List.getElem?_cons_zero, List.getElem?_cons_succ, List.set_cons_zero, List.set_cons_succ, List.length_cons, List.length_nil, gAll, true_and, and_true, T_comp, T_iSeq, T_iArg, T_sl, T_oNone, T_oSome, T_for, T_addT, T_addL, T_itT, T_itL, T_ixT, T_ixL, T_ixK, T_atM, if_true, Bool.false_eq_true, if_false, Bool.not_true, Bool.not_false, Bool.true_eq_false, ite_true, ite_false, reduceCtorEq]
  rw [T_forC]
  refine ⟨trivial, ?_⟩
  simp only [z0, ln, Option.some.injEq, exists_eq_left', T_run, Then_nx, Then_rt, T_ret, T_drop, T_sif, T_next, T_asg, T_nm, T_gsub, T_setF, T_gtup, T_gtupK, T_gnil, T_gcons, T_C, T_V, T_bin, T_un, T_and, T_or, T_if, T_aNil, T_aCons, T_tup, T_lst, T_new, T_arg, T_meth, T_call, T_callK, T_make, T_fld, T_ch, T_val, T_tru, T_notT, T_andT, T_orT, T_tTrue, T_add, T_sub, T_mul, T_mod, T_fdiv, T_neg, T_lt, T_le, T_gt, T_ge, T_isN, T_isB, T_isNotN, T_isNotB, T_not, T_truB, T_truI, T_truN, T_ok, List.getElem?_cons_zero, List.getElem?_cons_succ, List.set_cons_zero, List.set_cons_succ, List.length_cons, List.length_nil, gAll, true_and, and_true, T_comp, T_iSeq, T_iArg, T_sl, T_oNone, T_oSome, T_for, T_addT, T_addL, T_itT, T_itL, T_ixT, T_ixL, T_ixK, T_atM, if_true, Bool.false_eq_true, if_false, Bool.not_true, Bool.not_false, Bool.true_eq_false, ite_true, ite_false, reduceCtorEq]
  refine t_field_ties k o.ties ?_
  simp only [Turn_nx, T_run, Then_nx, Then_rt, T_ret, T_drop, T_sif, T_next, T_asg, T_nm, T_gsub, T_setF, T_gtup, T_gtupK, T_gnil, T_gcons, T_C, T_V, T_bin, T_un, T_and, T_or, T_if, T_aNil, T_aCons, T_tup, T_lst, T_new, T_arg, T_meth, T_call, T_callK, T_make, T_fld, T_ch, T_val, T_tru, T_notT, T_andT, T_orT, T_tTrue, T_add, T_sub, T_mul, T_mod, T_fdiv, T_neg, T_lt, T_le, T_gt, T_ge, T_isN, T_isB, T_isNotN, T_isNotB, T_not, T_truB, T_truI, T_truN, T_ok, List.getElem?_cons_zero, List.getElem?_cons_succ, List.set_cons_zero, List.set_cons_succ, List.length_cons, List.length_nil, gAll, true_and, and_true, T_comp, T_iSeq, T_iArg, T_sl, T_oNone, T_oSome, T_for, T_addT, T_addL, T_itT, T_itL, T_ixT, T_ixL, T_ixK, T_atM, if_true, Bool.false_eq_true, if_false, Bool.not_true, Bool.not_false, Bool.true_eq_false, ite_true, ite_false, reduceCtorEq]
  rw [T_forC]
  refine ⟨trivial, ?_⟩
  simp only [z0, ln, Option.some.injEq, exists_eq_left', T_run, Then_nx, Then_rt, T_ret, T_drop, T_sif, T_next, T_asg, T_nm, T_gsub, T_setF, T_gtup, T_gtupK, T_gnil, T_gcons, T_C, T_V, T_bin, T_un, T_and, T_or, T_if, T_aNil, T_aCons, T_tup, T_lst, T_new, T_arg, T_meth, T_call, T_callK, T_make, T_fld, T_ch, T_val, T_tru, T_notT, T_andT, T_orT, T_tTrue, T_add, T_sub, T_mul, T_mod, T_fdiv, T_neg, T_lt, T_le, T_gt, T_ge, T_isN, T_isB, T_isNotN, T_isNotB, T_not, T_truB, T_truI, T_truN, T_ok, List.getElem?_cons_zero, List.getElem?_cons_succ, List.set_cons_zero, List.set_cons_succ, List.length_cons, List.length_nil, gAll, true_and, and_true, T_comp, T_iSeq, T_iArg, T_sl, T_oNone, T_oSome, T_for, T_addT, T_addL, T_itT, T_itL, T_ixT, T_ixL, T_ixK, T_atM, if_true, Bool.false_eq_true, if_false, Bool.not_true, Bool.not_false, Bool.true_eq_false, ite_true, ite_false, reduceCtorEq]
  refine t_field_num k rfl o.hosts.1 o.hosts.2 ?_
  simp only [Turn_nx, T_run, Then_nx, Then_rt, T_ret, T_drop, T_sif, T_next, T_asg, T_nm, T_gsub, T_setF, T_gtup, T_gtupK, T_gnil, T_gcons, T_C, T_V, T_bin, T_un, T_and, T_or, T_if, T_aNil, T_aCons, T_tup, T_lst, T_new, T_arg, T_meth, T_call, T_callK, T_make, T_fld, T_ch, T_val, T_tru, T_notT, T_andT, T_orT, T_tTrue, T_add, T_sub, T_mul, T_mod, T_fdiv, T_neg, T_lt, T_le, T_gt, T_ge, T_isN, T_isB, T_isNotN, T_isNotB, T_not, T_truB, T_truI, T_truN, T_ok, List.getElem?_cons_zero, List.getElem?_cons_succ, List.set_cons_zero, List.set_cons_succ, List.length_cons, List.length_nil, gAll, true_and, and_true, T_comp, T_iSeq, T_iArg, T_sl, T_oNone, T_oSome, T_for, T_addT, T_addL, T_itT, T_itL, T_ixT, T_ixL, T_ixK, T_atM, if_true, Bool.false_eq_true, if_false, Bool.not_true, Bool.not_false, Bool.true_eq_false, ite_true, ite_false, reduceCtorEq]
  rw [T_forN]
  refine ⟨trivial, ?_⟩
  rw [Then_nx]
  have pne : w.length ≠ p := by omega
  have hp4 : w4[p]? = some (.ins k.C_Plan []) := by
    rw [hw4, List.getElem?_set_ne pne, hw3, List.getElem?_set_ne pne, hw2, List.getElem?_append_left (by omega), hw1, List.getElem?_append_left lp]
    exact hp
  have l4 : w4.length = w.length + 2 := by rw [hw4, List.length_set, hw3, List.length_set, hw2, List.length_append, l1]; rfl
  have lp4 : p < w4.length := by omega
  rw [T_seq]
  refine T_setf hp4 rfl rfl (Nat.le_of_ble_eq_true rfl) ?_
  rw [Then_nx]
  rw [T_seq]
  refine T_setf (List.getElem?_set_self lp4) rfl rfl (Nat.le_of_ble_eq_true rfl) ?_
  rw [Then_nx, List.set_set]
  rw [T_seq]
  refine T_setf (List.getElem?_set_self lp4) rfl rfl (Nat.le_of_ble_eq_true rfl) ?_
  rw [Then_nx, List.set_set]
  rw [T_seq]
  refine T_setf (List.getElem?_set_self lp4) rfl rfl (Nat.le_of_ble_eq_true rfl) ?_
  rw [Then_nx, List.set_set]
  rw [T_seq]
  refine T_setf (List.getElem?_set_self lp4) rfl rfl (Nat.le_of_ble_eq_true rfl) ?_
  rw [Then_nx, List.set_set]
  rw [T_seq]
  refine T_setf (List.getElem?_set_self lp4) rfl rfl (Nat.le_of_ble_eq_true rfl) ?_
  rw [Then_nx, List.set_set]
  rw [T_seq]
  refine T_setf (List.getElem?_set_self lp4) rfl rfl (Nat.le_of_ble_eq_true rfl) ?_
  rw [Then_nx, List.set_set]
  rw [T_seq]
  refine T_setf (List.getElem?_set_self lp4) rfl rfl (Nat.le_of_ble_eq_true rfl) ?_
  rw [Then_nx, List.set_set]
  rw [T_seq]
  refine T_setf (List.getElem?_set_self lp4) rfl rfl (Nat.le_of_ble_eq_true rfl) ?_
  rw [Then_nx, List.set_set]
  refine T_setf (List.getElem?_set_self lp4) rfl rfl (Nat.le_of_ble_eq_true rfl) ?_
  rw [List.set_set]
  refine hP _ ?_ (by rw [List.length_set]; omega) (fun i g1 g2 => ?_)
  · rw [List.getElem?_set_self lp4]
    rfl
  · rw [List.getElem?_set_ne (Ne.symm g2), hw4, List.getElem?_set_ne (by omega), hw3, List.getElem?_set_ne (by omega), hw2, List.getElem?_append_left (by omega), hw1, List.getElem?_append_left g1]
end
end Lb

set_option Elab.async false
set_option linter.all false
set_option maxRecDepth 100000
set_option maxHeartbeats 4000000
set_option autoImplicit false
/-! L18: a model's plan. -/
namespace Lb
open PySem PySem.Spec PyProof.Rows L2 Pc
section
variable {w : W} {P : D → W → Prop} {PF : Fl → W → Prop} {PI : ItD → W → Prop} {σ : Sg}
variable (k : Ads)
def words9 (m : Mo) : List (Str × D) := [("every", .int m.every), ("lost", .int m.lost), ("slow", .int m.slow), ("bears", m.bears), ("gap", .int m.gap), ("hold", .int m.hold), ("takes", .bl m.takes), ("ties", .tup (m.ties.map tieD)), ("hosts", .int m.hosts)]
theorem words9_look (m : Mo) : ∀ y ∈ words9 m, lookD m.kvs (.inr y.1) = some y.2 := by
  intro y hy
  simp only [words9, List.mem_cons, List.not_mem_nil, or_false] at hy
  rcases hy with rfl | rfl | rfl | rfl | rfl | rfl | rfl | rfl | rfl <;> rfl
theorem T_made {i h : Nat} {m : Mo} {b : Int} (hM : w[i]? = some (.dK m.kvs)) (o : MoB m h) (hb : Borne m b)
    (hP : ∀ p w', w.length ≤ p → w'[p]? = some (.ins k.C_Plan (planFs m b)) → w.length ≤ w'.length → (∀ j, j < w.length → w'[j]? = w[j]?) → P (.ref p) w') : T (m__law_made k [.ref i] w) P := by
  unfold m__law_made b__law_made
  rw [T_run, be__law_made, T_seq]
  simp only [T_run, Then_nx, Then_rt, T_ret, T_drop, T_sif, T_next, T_asg, T_nm, T_gsub, T_setF, T_gtup, T_gtupK, T_gnil, T_gcons, T_C, T_V, T_bin, T_un, T_and, T_or, T_if, T_aNil, T_aCons, T_tup, T_lst, T_new, T_arg, T_meth, T_call, T_callK, T_make, T_fld, T_ch, T_val, T_tru, T_notT, T_andT, T_orT, T_tTrue, T_add, T_sub, T_mul, T_mod, T_fdiv, T_neg, T_lt, T_le, T_gt, T_ge, T_isN, T_isB, T_isNotN, T_isNotB, T_not, T_truB, T_truI, T_truN, T_ok, List.getElem?_cons_zero, List.getElem?_cons_succ, List.set_cons_zero, List.set_cons_succ, List.length_cons, List.length_nil, gAll, true_and, and_true, T_comp, T_iSeq, T_iArg, T_sl, T_oNone, T_oSome, T_for, T_addT, T_addL, T_itT, T_itL, T_ixT, T_ixL, T_ixK, T_atM, if_true, Bool.false_eq_true, if_false, Bool.not_true, Bool.not_false, Bool.true_eq_false, ite_true, ite_false, reduceCtorEq]
  refine ⟨sz _ (Nat.le_of_ble_eq_true rfl), sz _ (Nat.le_of_ble_eq_true rfl), ?_⟩
  refine T_compE (it := ⟨_, always⟩) (words9 m) (fun y => .str y.1) (fun y => y.2) rfl trivial (fun y hy => ?_) ?_
  · simp only [wipeD, T_ixD hM, words9_look m y hy, Option.some.injEq, exists_eq_left', T_run, Then_nx, Then_rt, T_ret, T_drop, T_sif, T_next, T_asg, T_nm, T_gsub, T_setF, T_gtup, T_gtupK, T_gnil, T_gcons, T_C, T_V, T_bin, T_un, T_and, T_or, T_if, T_aNil, T_aCons, T_tup, T_lst, T_new, T_arg, T_meth, T_call, T_callK, T_make, T_fld, T_ch, T_val, T_tru, T_notT, T_andT, T_orT, T_tTrue, T_add, T_sub, T_mul, T_mod, T_fdiv, T_neg, T_lt, T_le, T_gt, T_ge, T_isN, T_isB, T_isNotN, T_isNotB, T_not, T_truB, T_truI, T_truN, T_ok, List.getElem?_cons_zero, List.getElem?_cons_succ, List.set_cons_zero, List.set_cons_succ, List.length_cons, List.length_nil, gAll, true_and, and_true, T_comp, T_iSeq, T_iArg, T_sl, T_oNone, T_oSome, T_for, T_addT, T_addL, T_itT, T_itL, T_ixT, T_ixL, T_ixK, T_atM, if_true, Bool.false_eq_true, if_false, Bool.not_true, Bool.not_false, Bool.true_eq_false, ite_true, ite_false, reduceCtorEq]
  have lr : lookD m.kvs (.inr "ranks") = some (.tup (m.ranks.map rowD)) := rfl
  have a : ∀ (j : Nat) (d : D), ((words9 m).map fun y => y.2)[j]? = some d → atI ((words9 m).map fun y => y.2) (j : Int) = some d := fun j d hj => by
    have hl := (List.getElem?_eq_some_iff.mp hj).1
    unfold atI ixN
    rw [if_pos (by omega), if_pos (by omega)]
    exact hj
  simp only [T_ixD hM, lr, Option.some.injEq, exists_eq_left', T_run, Then_nx, Then_rt, T_ret, T_drop, T_sif, T_next, T_asg, T_nm, T_gsub, T_setF, T_gtup, T_gtupK, T_gnil, T_gcons, T_C, T_V, T_bin, T_un, T_and, T_or, T_if, T_aNil, T_aCons, T_tup, T_lst, T_new, T_arg, T_meth, T_call, T_callK, T_make, T_fld, T_ch, T_val, T_tru, T_notT, T_andT, T_orT, T_tTrue, T_add, T_sub, T_mul, T_mod, T_fdiv, T_neg, T_lt, T_le, T_gt, T_ge, T_isN, T_isB, T_isNotN, T_isNotB, T_not, T_truB, T_truI, T_truN, T_ok, List.getElem?_cons_zero, List.getElem?_cons_succ, List.set_cons_zero, List.set_cons_succ, List.length_cons, List.length_nil, gAll, true_and, and_true, T_comp, T_iSeq, T_iArg, T_sl, T_oNone, T_oSome, T_for, T_addT, T_addL, T_itT, T_itL, T_ixT, T_ixL, T_ixK, T_atM, if_true, Bool.false_eq_true, if_false, Bool.not_true, Bool.not_false, Bool.true_eq_false, ite_true, ite_false, reduceCtorEq]
  refine ⟨_, a 0 _ rfl, _, a 1 _ rfl, _, a 2 _ rfl, _, a 3 _ rfl, _, a 4 _ rfl, _, a 5 _ rfl, _, a 6 _ rfl, _, a 7 _ rfl, _, a 8 _ rfl, ?_⟩
  rw [T_madeM]
  have hp : (w ++ [MO.ins k.C_Plan []])[w.length]? = some (.ins k.C_Plan []) := by rw [List.getElem?_append_right (Nat.le_refl _)]; simp
  refine T_init k (p := w.length) (m := m) (b := b) hp o hb fun w' h1 h2 h3 => ⟨rfl, hP _ w' (Nat.le_refl _) h1 (by simp at h2; omega) fun j hj => ?_⟩
  rw [h3 j (by simp; omega) (by omega), List.getElem?_append_left hj]
end
end Lb

set_option Elab.async false
set_option linter.all false
set_option maxRecDepth 100000
set_option maxHeartbeats 4000000
set_option autoImplicit false
/-! L19: waits; any model. -/
namespace Lb
open PySem PySem.Spec PyProof.Rows L2 Pc
section
variable {w : W} {P : D → W → Prop} {PF : Fl → W → Prop} {PI : ItD → W → Prop} {σ : Sg}
theorem sl0 : (0 ≤ sizeLine) = True := eq_true (sz _ (by omega))
theorem sl1 : (0 + 1 ≤ sizeLine) = True := eq_true (sz _ (by omega))
theorem sl2 : (0 + 1 + 1 ≤ sizeLine) = True := eq_true (sz _ (by omega))
theorem sl3 : (0 + 1 + 1 + 1 ≤ sizeLine) = True := eq_true (sz _ (by omega))
theorem sl4 : (0 + 1 + 1 + 1 + 1 ≤ sizeLine) = True := eq_true (sz _ (by omega))
theorem sl5 : (0 + 1 + 1 + 1 + 1 + 1 ≤ sizeLine) = True := eq_true (sz _ (by omega))
theorem sl6 : (0 + 1 + 1 + 1 + 1 + 1 + 1 ≤ sizeLine) = True := eq_true (sz _ (by omega))
theorem sl7 : (0 + 1 + 1 + 1 + 1 + 1 + 1 + 1 ≤ sizeLine) = True := eq_true (sz _ (by omega))
theorem sl8 : (0 + 1 + 1 + 1 + 1 + 1 + 1 + 1 + 1 ≤ sizeLine) = True := eq_true (sz _ (by omega))
theorem sl9 : (0 + 1 + 1 + 1 + 1 + 1 + 1 + 1 + 1 + 1 ≤ sizeLine) = True := eq_true (sz _ (by omega))
theorem sl10 : (0 + 1 + 1 + 1 + 1 + 1 + 1 + 1 + 1 + 1 + 1 ≤ sizeLine) = True := eq_true (sz _ (by omega))
theorem sl11 : (0 + 1 + 1 + 1 + 1 + 1 + 1 + 1 + 1 + 1 + 1 + 1 ≤ sizeLine) = True := eq_true (sz _ (by omega))
theorem sl12 : (0 + 1 + 1 + 1 + 1 + 1 + 1 + 1 + 1 + 1 + 1 + 1 + 1 ≤ sizeLine) = True := eq_true (sz _ (by omega))
variable (k : Ads)
def PlanAt (w : W) (p : Nat) (m : Mo) (b : Int) : Prop := w[p]? = some (.ins k.C_Plan (planFs m b))
variable {k} {p : Nat} {m : Mo} {b : Int}
theorem f_of {z : Str} {d : D} (h : PlanAt k w p m b) (e : (planFs m b).lookup z = some d) : T (fldM k.C_Plan z (.ref p) w) P = P d w := by
  rw [T_fldM h, e]
  simp
theorem f_ranks (h : PlanAt k w p m b) : T (fldM k.C_Plan "ranks" (.ref p) w) P = P (.tup (m.ranks.map rowD)) w := f_of h rfl
theorem f_every (h : PlanAt k w p m b) : T (fldM k.C_Plan "every" (.ref p) w) P = P (.int m.every) w := f_of h rfl
theorem f_lost (h : PlanAt k w p m b) : T (fldM k.C_Plan "lost" (.ref p) w) P = P (.int m.lost) w := f_of h rfl
theorem f_slow (h : PlanAt k w p m b) : T (fldM k.C_Plan "slow" (.ref p) w) P = P (.int m.slow) w := f_of h rfl
theorem f_bears (h : PlanAt k w p m b) : T (fldM k.C_Plan "bears" (.ref p) w) P = P (.int b) w := f_of h rfl
theorem f_gap (h : PlanAt k w p m b) : T (fldM k.C_Plan "gap" (.ref p) w) P = P (.int m.gap) w := f_of h rfl
theorem f_hold (h : PlanAt k w p m b) : T (fldM k.C_Plan "hold" (.ref p) w) P = P (.int m.hold) w := f_of h rfl
theorem f_takes (h : PlanAt k w p m b) : T (fldM k.C_Plan "takes" (.ref p) w) P = P (.bl m.takes) w := f_of h rfl
theorem f_ties (h : PlanAt k w p m b) : T (fldM k.C_Plan "ties" (.ref p) w) P = P (.tup (m.ties.map tieD)) w := f_of h rfl
theorem f_hosts (h : PlanAt k w p m b) : T (fldM k.C_Plan "hosts" (.ref p) w) P = P (.int m.hosts) w := f_of h rfl
theorem mul_l {x y : Int} (h : -1000 ≤ x ∧ x ≤ 1000) : mulOk x y = true := by
  unfold mulOk
  rw [Bool.or_eq_true]
  left
  simp only [Bool.and_eq_true, decide_eq_true_eq]
  omega
theorem mul_r {x y : Int} (h : -1000 ≤ y ∧ y ≤ 1000) : mulOk x y = true := by
  unfold mulOk
  rw [Bool.or_eq_true]
  right
  simp only [Bool.and_eq_true, decide_eq_true_eq]
  omega
def waitI (m : Mo) (b r : Int) : Int := (b + 1) * m.every + m.slow + m.gap * (12 - r)
def skewI (m : Mo) (r : Int) : Int := 2 + m.gap * (12 - r)
theorem t_heard {h : Nat} (hp : PlanAt k w p m b) (o : MoB m h) (l : Int) : T (m_heard_within k [.ref p, .int l] w) P = P (.int ((l + 1) * m.every + m.slow)) w := by
  have e := o.every
  simp only [m_heard_within, b_heard_within, be_heard_within, f_every hp, f_slow hp, mul_r (x := l + 1) (y := m.every) ⟨by omega, by omega⟩, T_run, T_seq, Then_nx, Then_rt, T_ret, T_drop, T_sif, T_next, T_asg, T_nm, T_gsub, T_setF, T_gtup, T_gtupK, T_gnil, T_gcons, T_C, T_V, T_bin, T_un, T_and, T_or, T_if, T_aNil, T_aCons, T_tup, T_lst, T_new, T_arg, T_meth, T_call, T_callK, T_make, T_fld, T_ch, T_val, T_tru, T_notT, T_andT, T_orT, T_tTrue, T_add, T_sub, T_mul, T_mod, T_fdiv, T_neg, T_lt, T_le, T_gt, T_ge, T_isN, T_isB, T_isNotN, T_isNotB, T_not, T_truB, T_truI, T_truN, T_ok, List.getElem?_cons_zero, List.getElem?_cons_succ, List.set_cons_zero, List.set_cons_succ, List.length_cons, List.length_nil, gAll, true_and, and_true, T_comp, T_iSeq, T_iArg, T_sl, T_oNone, T_oSome, T_for, T_addT, T_addL, T_itT, T_itL, T_ixT, T_ixL, T_ixK, T_atM, if_true, Bool.false_eq_true, if_false, Bool.not_true, Bool.not_false, Bool.true_eq_false, ite_true, ite_false, reduceCtorEq]
theorem t_wait_of {h : Nat} (hp : PlanAt k w p m b) (o : MoB m h) (r : Int) : T (m_wait_of k [.ref p, .int r] w) P = P (.int (waitI m b r)) w := by
  have e := o.gap
  simp only [m_wait_of, b_wait_of, be_wait_of, f_bears hp, f_gap hp, t_heard hp o, mul_l (x := m.gap) (y := 12 - r) ⟨by omega, by omega⟩, waitI, T_run, T_seq, Then_nx, Then_rt, T_ret, T_drop, T_sif, T_next, T_asg, T_nm, T_gsub, T_setF, T_gtup, T_gtupK, T_gnil, T_gcons, T_C, T_V, T_bin, T_un, T_and, T_or, T_if, T_aNil, T_aCons, T_tup, T_lst, T_new, T_arg, T_meth, T_call, T_callK, T_make, T_fld, T_ch, T_val, T_tru, T_notT, T_andT, T_orT, T_tTrue, T_add, T_sub, T_mul, T_mod, T_fdiv, T_neg, T_lt, T_le, T_gt, T_ge, T_isN, T_isB, T_isNotN, T_isNotB, T_not, T_truB, T_truI, T_truN, T_ok, List.getElem?_cons_zero, List.getElem?_cons_succ, List.set_cons_zero, List.set_cons_succ, List.length_cons, List.length_nil, gAll, true_and, and_true, T_comp, T_iSeq, T_iArg, T_sl, T_oNone, T_oSome, T_for, T_addT, T_addL, T_itT, T_itL, T_ixT, T_ixL, T_ixK, T_atM, if_true, Bool.false_eq_true, if_false, Bool.not_true, Bool.not_false, Bool.true_eq_false, ite_true, ite_false, reduceCtorEq]
theorem t_skew_of {h : Nat} (hp : PlanAt k w p m b) (o : MoB m h) (r : Int) : T (m_skew_of k [.ref p, .int r] w) P = P (.int (skewI m r)) w := by
  have e := o.gap
  simp only [m_skew_of, b_skew_of, be_skew_of, f_gap hp, mul_l (x := m.gap) (y := 12 - r) ⟨by omega, by omega⟩, skewI, T_run, T_seq, Then_nx, Then_rt, T_ret, T_drop, T_sif, T_next, T_asg, T_nm, T_gsub, T_setF, T_gtup, T_gtupK, T_gnil, T_gcons, T_C, T_V, T_bin, T_un, T_and, T_or, T_if, T_aNil, T_aCons, T_tup, T_lst, T_new, T_arg, T_meth, T_call, T_callK, T_make, T_fld, T_ch, T_val, T_tru, T_notT, T_andT, T_orT, T_tTrue, T_add, T_sub, T_mul, T_mod, T_fdiv, T_neg, T_lt, T_le, T_gt, T_ge, T_isN, T_isB, T_isNotN, T_isNotB, T_not, T_truB, T_truI, T_truN, T_ok, List.getElem?_cons_zero, List.getElem?_cons_succ, List.set_cons_zero, List.set_cons_succ, List.length_cons, List.length_nil, gAll, true_and, and_true, T_comp, T_iSeq, T_iArg, T_sl, T_oNone, T_oSome, T_for, T_addT, T_addL, T_itT, T_itL, T_ixT, T_ixL, T_ixK, T_atM, if_true, Bool.false_eq_true, if_false, Bool.not_true, Bool.not_false, Bool.true_eq_false, ite_true, ite_false, reduceCtorEq]
/-- one end drawn -/
noncomputable def bAny : MS := (sAsg (eBin ixM (eLst (aCons (eVar 5) (aCons (eVar 6) (aCons (eBin addM (eVar 5) (eCall mDraw 2 gAll (aCons (eVar 0) (aCons (eBin addM (eBin subM (eVar 6) (eVar 5)) (eC (.int 1))) aNil)))) aNil)))) (eCall mDraw 2 gAll (aCons (eVar 0) (aCons (eC (.int 3)) aNil)))) (gSubM (eVar 2) (eVar 4)))
theorem at3 {a b c : Int} {x : Int} (h0 : 0 ≤ x) (h1 : x < 3) : ∃ y, atI [D.int a, D.int b, D.int c] x = some (.int y) ∧ (y = a ∨ y = b ∨ y = c) := by
  have : x = 0 ∨ x = 1 ∨ x = 2 := by omega
  rcases this with rfl | rfl | rfl
  · exact ⟨a, rfl, .inl rfl⟩
  · exact ⟨b, rfl, .inr (.inl rfl)⟩
  · exact ⟨c, rfl, .inr (.inr rfl)⟩
theorem T_bAny {d c M : Nat} {z : Str} {lo hi : Int} {x1 x3 : D} {kvs : List (Key × D)} (hd : Deck w d c) (hM : w[M]? = some (.dK kvs)) (hl : kvs.length < 100) (h1 : M ≠ d) (h2 : M ≠ c) (h3 : lo ≤ hi) (h4 : hi - lo < 1000)
    (q : ∀ v w', lo ≤ v → v ≤ hi → w'[M]? = some (.dK (putD kvs (.inr z) (.int v))) → Deck w' d c → w'.length = w.length → (∀ i, i ≠ d → i ≠ c → i ≠ M → w'[i]? = w[i]?) → PF (.nx [some (.ref d), some x1, some (.ref M), some x3, some (.str z), some (.int lo), some (.int hi)]) w') :
    T (bAny [some (.ref d), some x1, some (.ref M), some x3, some (.str z), some (.int lo), some (.int hi)] w) PF := by
  unfold bAny
  simp only [T_run, Then_nx, Then_rt, T_ret, T_drop, T_sif, T_next, T_asg, T_nm, T_gsub, T_setF, T_gtup, T_gtupK, T_gnil, T_gcons, T_C, T_V, T_bin, T_un, T_and, T_or, T_if, T_aNil, T_aCons, T_tup, T_lst, T_new, T_arg, T_meth, T_call, T_callK, T_make, T_fld, T_ch, T_val, T_tru, T_notT, T_andT, T_orT, T_tTrue, T_add, T_sub, T_mul, T_mod, T_fdiv, T_neg, T_lt, T_le, T_gt, T_ge, T_isN, T_isB, T_isNotN, T_isNotB, T_not, T_truB, T_truI, T_truN, T_ok, List.getElem?_cons_zero, List.getElem?_cons_succ, List.set_cons_zero, List.set_cons_succ, List.length_cons, List.length_nil, gAll, true_and, and_true, T_comp, T_iSeq, T_iArg, T_sl, T_oNone, T_oSome, T_for, T_addT, T_addL, T_itT, T_itL, T_ixT, T_ixL, T_ixK, T_atM, if_true, Bool.false_eq_true, if_false, Bool.not_true, Bool.not_false, Bool.true_eq_false, ite_true, ite_false, reduceCtorEq, sl0, sl1, sl2, sl3, sl4, sl5, sl6, sl7, sl8, sl9, sl10, sl11, sl12, exists_eq_left', Option.some.injEq, true_and, and_true, T_dct, T_dCons, T_dNil, lenT, lenL, lenK, eq_len, ne_len, T_iItems]
  refine T_draw hd (by omega) (by omega) fun e w1 e0 e1 d1 k1 => ?_
  simp only [T_run, Then_nx, Then_rt, T_ret, T_drop, T_sif, T_next, T_asg, T_nm, T_gsub, T_setF, T_gtup, T_gtupK, T_gnil, T_gcons, T_C, T_V, T_bin, T_un, T_and, T_or, T_if, T_aNil, T_aCons, T_tup, T_lst, T_new, T_arg, T_meth, T_call, T_callK, T_make, T_fld, T_ch, T_val, T_tru, T_notT, T_andT, T_orT, T_tTrue, T_add, T_sub, T_mul, T_mod, T_fdiv, T_neg, T_lt, T_le, T_gt, T_ge, T_isN, T_isB, T_isNotN, T_isNotB, T_not, T_truB, T_truI, T_truN, T_ok, List.getElem?_cons_zero, List.getElem?_cons_succ, List.set_cons_zero, List.set_cons_succ, List.length_cons, List.length_nil, gAll, true_and, and_true, T_comp, T_iSeq, T_iArg, T_sl, T_oNone, T_oSome, T_for, T_addT, T_addL, T_itT, T_itL, T_ixT, T_ixL, T_ixK, T_atM, if_true, Bool.false_eq_true, if_false, Bool.not_true, Bool.not_false, Bool.true_eq_false, ite_true, ite_false, reduceCtorEq, sl0, sl1, sl2, sl3, sl4, sl5, sl6, sl7, sl8, sl9, sl10, sl11, sl12, exists_eq_left', Option.some.injEq, true_and, and_true, T_dct, T_dCons, T_dNil, lenT, lenL, lenK, eq_len, ne_len, T_iItems]
  refine T_draw d1 (by omega) (by omega) fun g w2 g0 g1 d2 k2 => ?_
  obtain ⟨y, ey, hy⟩ := at3 (a := lo) (b := hi) (c := lo + e) g0 g1
  have kk := k1.trans k2
  have hM2 := kk.obj hM h1 h2
  have lM : M < w2.length := (List.getElem?_eq_some_iff.mp hM2).1
  simp only [ey, T_setD hM2, T_run, Then_nx, Then_rt, T_ret, T_drop, T_sif, T_next, T_asg, T_nm, T_gsub, T_setF, T_gtup, T_gtupK, T_gnil, T_gcons, T_C, T_V, T_bin, T_un, T_and, T_or, T_if, T_aNil, T_aCons, T_tup, T_lst, T_new, T_arg, T_meth, T_call, T_callK, T_make, T_fld, T_ch, T_val, T_tru, T_notT, T_andT, T_orT, T_tTrue, T_add, T_sub, T_mul, T_mod, T_fdiv, T_neg, T_lt, T_le, T_gt, T_ge, T_isN, T_isB, T_isNotN, T_isNotB, T_not, T_truB, T_truI, T_truN, T_ok, List.getElem?_cons_zero, List.getElem?_cons_succ, List.set_cons_zero, List.set_cons_succ, List.length_cons, List.length_nil, gAll, true_and, and_true, T_comp, T_iSeq, T_iArg, T_sl, T_oNone, T_oSome, T_for, T_addT, T_addL, T_itT, T_itL, T_ixT, T_ixL, T_ixK, T_atM, if_true, Bool.false_eq_true, if_false, Bool.not_true, Bool.not_false, Bool.true_eq_false, ite_true, ite_false, reduceCtorEq, sl0, sl1, sl2, sl3, sl4, sl5, sl6, sl7, sl8, sl9, sl10, sl11, sl12, exists_eq_left', Option.some.injEq, true_and, and_true, T_dct, T_dCons, T_dNil, lenT, lenL, lenK, eq_len, ne_len, T_iItems]
  refine ⟨Nat.lt_of_lt_of_le hl (sz _ (by omega)), ?_⟩
  exact q y _ (by omega) (by omega) (List.getElem?_set_self lM) (d2.set h1 h2) (by rw [List.length_set]; exact kk.1) fun i j1 j2 j3 => by rw [List.getElem?_set_ne (Ne.symm j3)]; exact kk.2 i j1 j2
variable (k)
theorem T_any {d c : Nat} (hd : Deck w d c) (q : ∀ i h m w', w.length ≤ i → w'[i]? = some (.dK m.kvs) → MoOk m h → Deck w' d c → Grow w w' d c → P (.ref i) w') : T (m__law_any_model k [.ref d] w) P := by
  unfold m__law_any_model b__law_any_model
  rw [T_run, be__law_any_model, T_seq]
  simp only [T_run, Then_nx, Then_rt, T_ret, T_drop, T_sif, T_next, T_asg, T_nm, T_gsub, T_setF, T_gtup, T_gtupK, T_gnil, T_gcons, T_C, T_V, T_bin, T_un, T_and, T_or, T_if, T_aNil, T_aCons, T_tup, T_lst, T_new, T_arg, T_meth, T_call, T_callK, T_make, T_fld, T_ch, T_val, T_tru, T_notT, T_andT, T_orT, T_tTrue, T_add, T_sub, T_mul, T_mod, T_fdiv, T_neg, T_lt, T_le, T_gt, T_ge, T_isN, T_isB, T_isNotN, T_isNotB, T_not, T_truB, T_truI, T_truN, T_ok, List.getElem?_cons_zero, List.getElem?_cons_succ, List.set_cons_zero, List.set_cons_succ, List.length_cons, List.length_nil, gAll, true_and, and_true, T_comp, T_iSeq, T_iArg, T_sl, T_oNone, T_oSome, T_for, T_addT, T_addL, T_itT, T_itL, T_ixT, T_ixL, T_ixK, T_atM, if_true, Bool.false_eq_true, if_false, Bool.not_true, Bool.not_false, Bool.true_eq_false, ite_true, ite_false, reduceCtorEq, sl0, sl1, sl2, sl3, sl4, sl5, sl6, sl7, sl8, sl9, sl10, sl11, sl12, exists_eq_left', Option.some.injEq, true_and, and_true, T_dct, T_dCons, T_dNil, lenT, lenL, lenK, eq_len, ne_len, T_iItems]
  refine T_draw hd (by omega) (by omega) fun e w1 e0 e1 d1 k1 => ?_
  simp only [T_run, Then_nx, Then_rt, T_ret, T_drop, T_sif, T_next, T_asg, T_nm, T_gsub, T_setF, T_gtup, T_gtupK, T_gnil, T_gcons, T_C, T_V, T_bin, T_un, T_and, T_or, T_if, T_aNil, T_aCons, T_tup, T_lst, T_new, T_arg, T_meth, T_call, T_callK, T_make, T_fld, T_ch, T_val, T_tru, T_notT, T_andT, T_orT, T_tTrue, T_add, T_sub, T_mul, T_mod, T_fdiv, T_neg, T_lt, T_le, T_gt, T_ge, T_isN, T_isB, T_isNotN, T_isNotB, T_not, T_truB, T_truI, T_truN, T_ok, List.getElem?_cons_zero, List.getElem?_cons_succ, List.set_cons_zero, List.set_cons_succ, List.length_cons, List.length_nil, gAll, true_and, and_true, T_comp, T_iSeq, T_iArg, T_sl, T_oNone, T_oSome, T_for, T_addT, T_addL, T_itT, T_itL, T_ixT, T_ixL, T_ixK, T_atM, if_true, Bool.false_eq_true, if_false, Bool.not_true, Bool.not_false, Bool.true_eq_false, ite_true, ite_false, reduceCtorEq, sl0, sl1, sl2, sl3, sl4, sl5, sl6, sl7, sl8, sl9, sl10, sl11, sl12, exists_eq_left', Option.some.injEq, true_and, and_true, T_dct, T_dCons, T_dNil, lenT, lenL, lenK, eq_len, ne_len, T_iItems]
  refine T_draw d1 (by omega) (by omega) fun g w2 g0 g1 d2 k2 => ?_
  obtain ⟨y, ey, hy⟩ := at3 (a := 1) (b := 6) (c := 1 + e) g0 g1
  simp only [ey, T_run, Then_nx, Then_rt, T_ret, T_drop, T_sif, T_next, T_asg, T_nm, T_gsub, T_setF, T_gtup, T_gtupK, T_gnil, T_gcons, T_C, T_V, T_bin, T_un, T_and, T_or, T_if, T_aNil, T_aCons, T_tup, T_lst, T_new, T_arg, T_meth, T_call, T_callK, T_make, T_fld, T_ch, T_val, T_tru, T_notT, T_andT, T_orT, T_tTrue, T_add, T_sub, T_mul, T_mod, T_fdiv, T_neg, T_lt, T_le, T_gt, T_ge, T_isN, T_isB, T_isNotN, T_isNotB, T_not, T_truB, T_truI, T_truN, T_ok, List.getElem?_cons_zero, List.getElem?_cons_succ, List.set_cons_zero, List.set_cons_succ, List.length_cons, List.length_nil, gAll, true_and, and_true, T_comp, T_iSeq, T_iArg, T_sl, T_oNone, T_oSome, T_for, T_addT, T_addL, T_itT, T_itL, T_ixT, T_ixL, T_ixK, T_atM, if_true, Bool.false_eq_true, if_false, Bool.not_true, Bool.not_false, Bool.true_eq_false, ite_true, ite_false, reduceCtorEq, sl0, sl1, sl2, sl3, sl4, sl5, sl6, sl7, sl8, sl9, sl10, sl11, sl12, exists_eq_left', Option.some.injEq, true_and, and_true, T_dct, T_dCons, T_dNil, lenT, lenL, lenK, eq_len, ne_len, T_iItems]
  rw [T_seq]
  simp only [T_run, Then_nx, Then_rt, T_ret, T_drop, T_sif, T_next, T_asg, T_nm, T_gsub, T_setF, T_gtup, T_gtupK, T_gnil, T_gcons, T_C, T_V, T_bin, T_un, T_and, T_or, T_if, T_aNil, T_aCons, T_tup, T_lst, T_new, T_arg, T_meth, T_call, T_callK, T_make, T_fld, T_ch, T_val, T_tru, T_notT, T_andT, T_orT, T_tTrue, T_add, T_sub, T_mul, T_mod, T_fdiv, T_neg, T_lt, T_le, T_gt, T_ge, T_isN, T_isB, T_isNotN, T_isNotB, T_not, T_truB, T_truI, T_truN, T_ok, List.getElem?_cons_zero, List.getElem?_cons_succ, List.set_cons_zero, List.set_cons_succ, List.length_cons, List.length_nil, gAll, true_and, and_true, T_comp, T_iSeq, T_iArg, T_sl, T_oNone, T_oSome, T_for, T_addT, T_addL, T_itT, T_itL, T_ixT, T_ixL, T_ixK, T_atM, if_true, Bool.false_eq_true, if_false, Bool.not_true, Bool.not_false, Bool.true_eq_false, ite_true, ite_false, reduceCtorEq, sl0, sl1, sl2, sl3, sl4, sl5, sl6, sl7, sl8, sl9, sl10, sl11, sl12, exists_eq_left', Option.some.injEq, true_and, and_true, T_dct, T_dCons, T_dNil, lenT, lenL, lenK, eq_len, ne_len, T_iItems]
  refine T_draw d2 (by omega) (by omega) fun n w3 n0 n1 d3 k3 => ?_
  obtain ⟨h, rfl⟩ : ∃ h : Nat, y = (h : Int) := ⟨y.toNat, by omega⟩
  obtain ⟨n, rfl⟩ : ∃ n' : Nat, n = (n' : Int) := ⟨n.toNat, by omega⟩
  have en : (1 : Int) + (n : Int) = ((n + 1 : Nat) : Int) := by omega
  try simp only [T_run, Then_nx, Then_rt, T_ret, T_drop, T_sif, T_next, T_asg, T_nm, T_gsub, T_setF, T_gtup, T_gtupK, T_gnil, T_gcons, T_C, T_V, T_bin, T_un, T_and, T_or, T_if, T_aNil, T_aCons, T_tup, T_lst, T_new, T_arg, T_meth, T_call, T_callK, T_make, T_fld, T_ch, T_val, T_tru, T_notT, T_andT, T_orT, T_tTrue, T_add, T_sub, T_mul, T_mod, T_fdiv, T_neg, T_lt, T_le, T_gt, T_ge, T_isN, T_isB, T_isNotN, T_isNotB, T_not, T_truB, T_truI, T_truN, T_ok, List.getElem?_cons_zero, List.getElem?_cons_succ, List.set_cons_zero, List.set_cons_succ, List.length_cons, List.length_nil, gAll, true_and, and_true, T_comp, T_iSeq, T_iArg, T_sl, T_oNone, T_oSome, T_for, T_addT, T_addL, T_itT, T_itL, T_ixT, T_ixL, T_ixK, T_atM, if_true, Bool.false_eq_true, if_false, Bool.not_true, Bool.not_false, Bool.true_eq_false, ite_true, ite_false, reduceCtorEq, sl0, sl1, sl2, sl3, sl4, sl5, sl6, sl7, sl8, sl9, sl10, sl11, sl12, exists_eq_left', Option.some.injEq, true_and, and_true, T_dct, T_dCons, T_dNil, lenT, lenL, lenK, eq_len, ne_len, T_iItems]
  rw [en]
  refine T_model d3 ⟨by omega, by omega⟩ ⟨by omega, by omega⟩ fun M m w4 lM hM o er d4 g4 => ?_
  have l3 : w3.length = w.length := by rw [k3.1, k2.1, k1.1]
  have dl := d4.lt
  have gg : Grow w w4 d c := (((k1.trans k2).trans k3).grow).trans g4
  have M1 : M ≠ d := by have := hd.lt; omega
  have M2 : M ≠ c := by have := hd.lt; omega
  rw [T_seq]
  simp only [T_run, Then_nx, Then_rt, T_ret, T_drop, T_sif, T_next, T_asg, T_nm, T_gsub, T_setF, T_gtup, T_gtupK, T_gnil, T_gcons, T_C, T_V, T_bin, T_un, T_and, T_or, T_if, T_aNil, T_aCons, T_tup, T_lst, T_new, T_arg, T_meth, T_call, T_callK, T_make, T_fld, T_ch, T_val, T_tru, T_notT, T_andT, T_orT, T_tTrue, T_add, T_sub, T_mul, T_mod, T_fdiv, T_neg, T_lt, T_le, T_gt, T_ge, T_isN, T_isB, T_isNotN, T_isNotB, T_not, T_truB, T_truI, T_truN, T_ok, List.getElem?_cons_zero, List.getElem?_cons_succ, List.set_cons_zero, List.set_cons_succ, List.length_cons, List.length_nil, gAll, true_and, and_true, T_comp, T_iSeq, T_iArg, T_sl, T_oNone, T_oSome, T_for, T_addT, T_addL, T_itT, T_itL, T_ixT, T_ixL, T_ixK, T_atM, if_true, Bool.false_eq_true, if_false, Bool.not_true, Bool.not_false, Bool.true_eq_false, ite_true, ite_false, reduceCtorEq, sl0, sl1, sl2, sl3, sl4, sl5, sl6, sl7, sl8, sl9, sl10, sl11, sl12, exists_eq_left', Option.some.injEq, true_and, and_true, T_dct, T_dCons, T_dNil, lenT, lenL, lenK, eq_len, ne_len, T_iItems]
  rw [T_seq]
  simp only [T_run, Then_nx, Then_rt, T_ret, T_drop, T_sif, T_next, T_asg, T_nm, T_gsub, T_setF, T_gtup, T_gtupK, T_gnil, T_gcons, T_C, T_V, T_bin, T_un, T_and, T_or, T_if, T_aNil, T_aCons, T_tup, T_lst, T_new, T_arg, T_meth, T_call, T_callK, T_make, T_fld, T_ch, T_val, T_tru, T_notT, T_andT, T_orT, T_tTrue, T_add, T_sub, T_mul, T_mod, T_fdiv, T_neg, T_lt, T_le, T_gt, T_ge, T_isN, T_isB, T_isNotN, T_isNotB, T_not, T_truB, T_truI, T_truN, T_ok, List.getElem?_cons_zero, List.getElem?_cons_succ, List.set_cons_zero, List.set_cons_succ, List.length_cons, List.length_nil, gAll, true_and, and_true, T_comp, T_iSeq, T_iArg, T_sl, T_oNone, T_oSome, T_for, T_addT, T_addL, T_itT, T_itL, T_ixT, T_ixL, T_ixK, T_atM, if_true, Bool.false_eq_true, if_false, Bool.not_true, Bool.not_false, Bool.true_eq_false, ite_true, ite_false, reduceCtorEq, sl0, sl1, sl2, sl3, sl4, sl5, sl6, sl7, sl8, sl9, sl10, sl11, sl12, exists_eq_left', Option.some.injEq, true_and, and_true, T_dct, T_dCons, T_dNil, lenT, lenL, lenK, eq_len, ne_len, T_iItems]
  rw [T_forC]
  refine ⟨trivial, ?_⟩
  simp only [T_gtup, T_gcons, T_gnil, T_nm, List.set_cons_zero, List.set_cons_succ, List.length_cons, List.length_nil, true_and]
  refine T_bAny (kvs := m.kvs) d4 hM (Nat.le_of_ble_eq_true rfl) M1 M2 (by omega) (by omega) fun v_every w5 lo_every hi_every hM5 d5 l5 a5 => ?_
  rw [Turn_nx]
  have hM5 : w5[M]? = some (.dK ({ m with every := v_every } : Mo).kvs) := hM5
  rw [T_forC]
  refine ⟨trivial, ?_⟩
  simp only [T_gtup, T_gcons, T_gnil, T_nm, List.set_cons_zero, List.set_cons_succ, List.length_cons, List.length_nil, true_and]
  refine T_bAny (kvs := ({ m with every := v_every } : Mo).kvs) d5 hM5 (Nat.le_of_ble_eq_true rfl) M1 M2 (by omega) (by omega) fun v_lost w6 lo_lost hi_lost hM6 d6 l6 a6 => ?_
  rw [Turn_nx]
  have hM6 : w6[M]? = some (.dK ({ m with every := v_every, lost := v_lost } : Mo).kvs) := hM6
  rw [T_forC]
  refine ⟨trivial, ?_⟩
  simp only [T_gtup, T_gcons, T_gnil, T_nm, List.set_cons_zero, List.set_cons_succ, List.length_cons, List.length_nil, true_and]
  refine T_bAny (kvs := ({ m with every := v_every, lost := v_lost } : Mo).kvs) d6 hM6 (Nat.le_of_ble_eq_true rfl) M1 M2 (by omega) (by omega) fun v_slow w7 lo_slow hi_slow hM7 d7 l7 a7 => ?_
  rw [Turn_nx]
  have hM7 : w7[M]? = some (.dK ({ m with every := v_every, lost := v_lost, slow := v_slow } : Mo).kvs) := hM7
  rw [T_forC]
  refine ⟨trivial, ?_⟩
  simp only [T_gtup, T_gcons, T_gnil, T_nm, List.set_cons_zero, List.set_cons_succ, List.length_cons, List.length_nil, true_and]
  refine T_bAny (kvs := ({ m with every := v_every, lost := v_lost, slow := v_slow } : Mo).kvs) d7 hM7 (Nat.le_of_ble_eq_true rfl) M1 M2 (by omega) (by omega) fun v_bears w8 lo_bears hi_bears hM8 d8 l8 a8 => ?_
  rw [Turn_nx]
  have hM8 : w8[M]? = some (.dK ({ m with every := v_every, lost := v_lost, slow := v_slow, bears := .int v_bears } : Mo).kvs) := hM8
  rw [T_forC]
  refine ⟨trivial, ?_⟩
  simp only [T_gtup, T_gcons, T_gnil, T_nm, List.set_cons_zero, List.set_cons_succ, List.length_cons, List.length_nil, true_and]
  refine T_bAny (kvs := ({ m with every := v_every, lost := v_lost, slow := v_slow, bears := .int v_bears } : Mo).kvs) d8 hM8 (Nat.le_of_ble_eq_true rfl) M1 M2 (by omega) (by omega) fun v_gap w9 lo_gap hi_gap hM9 d9 l9 a9 => ?_
  rw [Turn_nx]
  have hM9 : w9[M]? = some (.dK ({ m with every := v_every, lost := v_lost, slow := v_slow, bears := .int v_bears, gap := v_gap } : Mo).kvs) := hM9
  rw [T_forC]
  refine ⟨trivial, ?_⟩
  simp only [T_gtup, T_gcons, T_gnil, T_nm, List.set_cons_zero, List.set_cons_succ, List.length_cons, List.length_nil, true_and]
  refine T_bAny (kvs := ({ m with every := v_every, lost := v_lost, slow := v_slow, bears := .int v_bears, gap := v_gap } : Mo).kvs) d9 hM9 (Nat.le_of_ble_eq_true rfl) M1 M2 (by omega) (by omega) fun v_hold w10 lo_hold hi_hold hM10 d10 l10 a10 => ?_
  rw [Turn_nx]
  have hM10 : w10[M]? = some (.dK ({ m with every := v_every, lost := v_lost, slow := v_slow, bears := .int v_bears, gap := v_gap, hold := v_hold } : Mo).kvs) := hM10
  rw [T_forN]
  refine ⟨trivial, ?_⟩
  simp only [T_run, Then_nx, Then_rt, T_ret, T_drop, T_sif, T_next, T_asg, T_nm, T_gsub, T_setF, T_gtup, T_gtupK, T_gnil, T_gcons, T_C, T_V, T_bin, T_un, T_and, T_or, T_if, T_aNil, T_aCons, T_tup, T_lst, T_new, T_arg, T_meth, T_call, T_callK, T_make, T_fld, T_ch, T_val, T_tru, T_notT, T_andT, T_orT, T_tTrue, T_add, T_sub, T_mul, T_mod, T_fdiv, T_neg, T_lt, T_le, T_gt, T_ge, T_isN, T_isB, T_isNotN, T_isNotB, T_not, T_truB, T_truI, T_truN, T_ok, List.getElem?_cons_zero, List.getElem?_cons_succ, List.set_cons_zero, List.set_cons_succ, List.length_cons, List.length_nil, gAll, true_and, and_true, T_comp, T_iSeq, T_iArg, T_sl, T_oNone, T_oSome, T_for, T_addT, T_addL, T_itT, T_itL, T_ixT, T_ixL, T_ixK, T_atM, if_true, Bool.false_eq_true, if_false, Bool.not_true, Bool.not_false, Bool.true_eq_false, ite_true, ite_false, reduceCtorEq, sl0, sl1, sl2, sl3, sl4, sl5, sl6, sl7, sl8, sl9, sl10, sl11, sl12, exists_eq_left', Option.some.injEq, true_and, and_true, T_dct, T_dCons, T_dNil, lenT, lenL, lenK, eq_len, ne_len, T_iItems]
  refine q M h _ w10 (by omega) hM10 ⟨o.ranks, o.n1, o.n4, ⟨lo_every, hi_every⟩, ⟨lo_lost, hi_lost⟩, ⟨lo_slow, hi_slow⟩, ⟨v_bears, rfl, lo_bears, hi_bears⟩, ⟨lo_gap, hi_gap⟩, ⟨lo_hold, hi_hold⟩, o.ties, o.hosts⟩ d10 ⟨by have := gg.le; omega, fun i g0 g1 g2 => ?_⟩
  rw [a10 i g1 g2 (by omega), a9 i g1 g2 (by omega), a8 i g1 g2 (by omega), a7 i g1 g2 (by omega), a6 i g1 g2 (by omega), a5 i g1 g2 (by omega)]
  exact gg.at_ i g0 g1 g2
end
end Lb

set_option Elab.async false
set_option linter.all false
set_option maxRecDepth 100000
set_option maxHeartbeats 4000000
set_option autoImplicit false
/-! L20: what is shown. -/
namespace Lb
open PySem PySem.Spec PyProof.Rows L2 Pc
/-! ### texts whose signs are signs -/
theorem ok_app (a b : Str) : PyData.strOk (a ++ b) = (PyData.strOk a && PyData.strOk b) := by
  show Array.all (a.cps ++ b.cps) _ = _
  unfold PyData.strOk
  rw [Array.all_append]
theorem ok_of (s : String) : PyData.strOk (Str.ofString s) = true := by
  rw [Str.ofString_eq_toList]
  unfold PyData.strOk
  rw [Array.all_eq_true_iff_forall_mem]
  intro c hc
  simp only [List.mem_toArray, List.mem_map] at hc
  obtain ⟨ch, _, rfl⟩ := hc
  have := ch.valid
  simp only [decide_eq_true_eq]
  have h2 : ch.toNat < 0x110000 := by
    have h3 : ch.toNat = ch.val.toNat := rfl
    rcases this with h | ⟨_, h⟩
    · rw [h3]; exact Nat.lt_trans h (by decide)
    · rw [h3]; exact h
  exact h2
theorem ok_textFrom : ∀ (ts : List Str) (k : Nat) (acc : Str), PyData.strOk acc = true → (∀ t ∈ ts, PyData.strOk t = true) → PyData.strOk (textFrom k acc ts) = true
  | [], k, acc, h, _ => h
  | t :: ts, k, acc, h, ht => by
    unfold textFrom
    refine ok_textFrom ts (k + 1) _ ?_ fun x hx => ht x (List.mem_cons_of_mem _ hx)
    rw [ok_app, ok_app, h, ht t (List.mem_cons_self ..), ok_of]
    rfl
theorem ok_join (sep : Str) (hs : PyData.strOk sep = true) : ∀ ts : List Str, (∀ t ∈ ts, PyData.strOk t = true) → PyData.strOk (Str.join sep ts) = true
  | [], _ => by show PyData.strOk Str.empty = true; decide +kernel
  | [x], h => h x (List.mem_cons_self ..)
  | x :: y :: r, h => by
    show PyData.strOk (x ++ sep ++ Str.join sep (y :: r)) = true
    rw [ok_app, ok_app, hs, h x (List.mem_cons_self ..), ok_join sep hs (y :: r) fun t ht => h t (List.mem_cons_of_mem _ ht)]
    rfl
mutual
/-- data of short numbers and fine short texts, lists and tuples of such -/
def plainP : PyData → Bool
  | .none | .bool _ => true
  | .int i => decide (i.natAbs < 10 ^ 40)
  | .str x => PyData.strOk (reprText x) && PyData.strOk x && PyData.leavesShort 60 (.str x) && decide (x.length ≤ 100)
  | .list xs | .tuple xs => plainPs xs
  | .dict _ => false
def plainPs : List PyData → Bool
  | [] => true
  | x :: xs => plainP x && plainPs xs
end
mutual
theorem plain_shown : ∀ p : PyData, plainP p = true → PyData.strOk p.shown = true
  | .none, _ => ok_of _
  | .bool b, _ => by cases b <;> exact ok_of _
  | .int i, _ => ok_of _
  | .str x, h => by
    simp only [plainP, Bool.and_eq_true] at h
    exact h.1.1.1
  | .list xs, h => by
    rw [plainP] at h
    show PyData.strOk (textFrom 0 "[" (PyData.shownAll xs) ++ "]") = true
    rw [ok_app, ok_textFrom _ _ _ (ok_of _) (plains_shown xs h), ok_of]
    rfl
  | .tuple xs, h => by
    rw [plainP] at h
    show PyData.strOk (tupleText (PyData.shownAll xs)) = true
    unfold tupleText
    rw [ok_app, ok_app, ok_of, ok_join _ (ok_of _) _ (plains_shown xs h)]
    split <;> rw [ok_of] <;> rfl
  | .dict _, h => by simp [plainP] at h
theorem plains_shown : ∀ ps : List PyData, plainPs ps = true → ∀ t ∈ PyData.shownAll ps, PyData.strOk t = true
  | [], _, t, ht => by simp [PyData.shownAll] at ht
  | p :: ps, h, t, ht => by
    simp only [plainPs, Bool.and_eq_true] at h
    simp only [PyData.shownAll, List.mem_cons] at ht
    rcases ht with rfl | ht
    · exact plain_shown p h.1
    · exact plains_shown ps h.2 t ht
end
theorem short_int {i : Int} (h : i.natAbs < 10 ^ 40) : PyData.leavesShort 60 (.int i) = true := by
  have e := int_text_length_le10 (k := 40) (by decide) h
  simp only [PyData.leavesShort, decide_eq_true_eq]
  show (Str.ofString (toString i)).length ≤ 60
  rw [PySem.ofString_length]
  omega
theorem show_int {i : Int} (h : i.natAbs < 10 ^ 40) : PyData.showable (.int i) = true := by
  simp only [PyData.showable, decide_eq_true_eq]
  by_cases h0 : i.natAbs = 0
  · rw [h0]; decide
  · rw [Nat.log2_lt h0]
    exact Nat.lt_of_lt_of_le h (by decide +kernel)
mutual
theorem plain_all : ∀ p : PyData, plainP p = true → p.leavesShort 60 = true ∧ p.showable = true ∧ p.hasDict = false ∧ p.canLay0 = true
  | .none, _ => by simp [PyData.leavesShort, PyData.showable, PyData.hasDict, PyData.canLay0]
  | .bool b, _ => by simp [PyData.leavesShort, PyData.showable, PyData.hasDict, PyData.canLay0]
  | .int i, h => by
    simp only [plainP, decide_eq_true_eq] at h
    exact ⟨short_int h, show_int h, by simp [PyData.hasDict], by simp [PyData.canLay0]⟩
  | .str x, h => by
    simp only [plainP, Bool.and_eq_true] at h
    exact ⟨h.1.2, by simp [PyData.showable], by simp [PyData.hasDict], by simp [PyData.canLay0, h.1.1.2]⟩
  | .list xs, h => by
    rw [plainP] at h
    have := plains_all xs h
    simp only [PyData.leavesShort, PyData.showable, PyData.hasDict, PyData.canLay0]
    exact this
  | .tuple xs, h => by
    rw [plainP] at h
    have := plains_all xs h
    simp only [PyData.leavesShort, PyData.showable, PyData.hasDict, PyData.canLay0]
    exact this
  | .dict _, h => by simp [plainP] at h
theorem plains_all : ∀ p : List PyData, plainPs p = true → PyData.leavesShortAll 60 p = true ∧ PyData.showableAll p = true ∧ PyData.hasDictAll p = false ∧ PyData.canLayAll0 p = true
  | [], _ => by simp [PyData.leavesShortAll, PyData.showableAll, PyData.hasDictAll, PyData.canLayAll0]
  | p :: ps, h => by
    simp only [plainPs, Bool.and_eq_true] at h
    obtain ⟨a1, a2, a3, a4⟩ := plain_all p h.1
    obtain ⟨b1, b2, b3, b4⟩ := plains_all ps h.2
    simp only [PyData.leavesShortAll, PyData.showableAll, PyData.hasDictAll, PyData.canLayAll0, a1, a2, a3, a4, b1, b2, b3, b4]
    simp
end
/-- what can be shown and compared: plain, of so many parts, so deep -/
structure Fit (p : PyData) : Prop where
  plain : plainP p = true
  bulk : p.bulk ≤ 200000
  deep : p.depth ≤ 40
section
variable {w : W} {P : D → W → Prop} {x y : D} {p q : PyData}
theorem Fit.shaped (h : Fit p) : SeqAt.shaped p = true := by
  have h1 := (plain_all p h.plain).2.2.2
  have h2 := h.deep
  unfold SeqAt.shaped
  simp [h1]
  omega
theorem repr_fit (e : x.py w = some p) (h : Fit p) : reprD x w = some p.shown := by
  obtain ⟨a1, a2, a3, a4⟩ := plain_all p h.plain
  unfold reprD
  rw [e]
  have b := PyData.shown_le_bulk 60 (by decide) p a1
  have d := h.deep
  have z := h.bulk
  simp only []
  rw [if_pos]
  refine ⟨a2, a3, by omega, ?_⟩
  have := sizeLine_eq
  have : (60 + 2) * p.bulk ≤ 62 * 200000 := Nat.mul_le_mul_left _ z
  omega
theorem t_repr (e : x.py w = some p) (h : Fit p) : T (reprM [x] w) P = P (.str p.shown) w := by
  rw [T_repr, repr_fit e h]
  simp
theorem eqD_fit (e : x.py w = some p) (f : y.py w = some q) (h : Fit p) (g : Fit q) : eqD x y w = some (PyData.eqv p q) := by
  unfold eqD
  rw [e, f]
  simp only [h.shaped, g.shaped, and_self, if_true]
theorem eqD_str' {a b : Str} (ha : PyData.strOk a = true) (hb : PyData.strOk b = true) : eqD (.str a) (.str b) w = some (decide (a = b)) := by
  rw [eqD_str ha hb]
  rfl
theorem eq_shown (h : Fit p) (g : Fit q) : T (eqM (.str p.shown) (.str q.shown) w) P = P (.bl (decide (p.shown = q.shown))) w := by
  rw [T_eq, eqD_str' (plain_shown p h.plain) (plain_shown q g.plain)]
  simp
theorem ne_shown (h : Fit p) (g : Fit q) : T (neM (.str p.shown) (.str q.shown) w) P = P (.bl (!decide (p.shown = q.shown))) w := by
  rw [T_ne, eqD_str' (plain_shown p h.plain) (plain_shown q g.plain)]
  simp
/-! numbers in a list -/
theorem plain_ints : ∀ {xs : List Int}, (∀ x ∈ xs, x.natAbs < 10 ^ 40) → plainPs (xs.map PyData.int) = true
  | [], _ => by rfl
  | x :: xs, h => by
    rw [List.map_cons, plainPs, plain_ints fun y hy => h y (List.mem_cons_of_mem _ hy)]
    simp [plainP]
    exact h x (List.mem_cons_self ..)
theorem bulk_ints : ∀ {xs : List Int}, PyData.bulkAll (xs.map PyData.int) = xs.length
  | [] => by simp [PyData.bulkAll]
  | x :: xs => by
    rw [List.map_cons, PyData.bulkAll, bulk_ints, PyData.bulk, List.length_cons]
    omega
theorem py_ints {xs : List Int} : D.py w (.lst (xs.map D.int)) = some (.list (xs.map PyData.int)) := by
  show (D.pysR _ (xs.map D.int)).map PyData.list = _
  rw [pys_ints]
  rfl
theorem fit_ints {xs : List Int} (h : ∀ x ∈ xs, x.natAbs < 10 ^ 40) (hl : xs.length ≤ 1000) : Fit (.list (xs.map PyData.int)) := by
  have d := dep_ints xs
  exact ⟨by rw [plainP]; exact plain_ints h, by rw [PyData.bulk, bulk_ints]; omega, by rw [PyData.depth]; omega⟩
end
end Lb

set_option Elab.async false
set_option linter.all false
set_option maxRecDepth 100000
set_option maxHeartbeats 4000000
set_option autoImplicit false
/-! L21: loops, from behind. -/
namespace Lb
open PySem PySem.Spec PyProof.Rows L2 Pc
theorem T_forI {it : ItD} {g : MG} {body : MS} {P : Fl → W → Prop} {σ : Sg} {w : W} (Inv : Nat → Sg → W → Prop) (ok : ∀ i σ w, Inv i σ w → it.ok w) (init : Inv 0 σ w)
    (step : ∀ i x σ w, it.xs[i]? = some x → Inv i σ w → T (g x σ w) fun σ1 w1 => T (body σ1 w1) (Turn (Inv (i + 1)) P)) (fin : ∀ σ w, Inv it.xs.length σ w → P (.nx σ) w) : T (forL it g body it.xs σ w) P := by
  have fl := T_forL (it := it) (g := g) (body := body) (P := P) Inv ok (fun i x σ w h1 h2 => (step i x σ w h1 h2).mono fun s1 w1 _ q => q.mono fun f w2 _ q2 => by cases f <;> exact q2) fin (i := 0) (σ := σ) (w := w) (Nat.zero_le _) init
  rw [List.drop_zero] at fl
  exact fl
theorem T_compI {it : ItD} {vs : List Nat} {g : MG} {t : MT} {e : ME} {σ : Sg} {w : W} {P : List D → W → Prop} (Inv : Nat → List D → W → Prop) (ok : ∀ i acc w, Inv i acc w → it.ok w) (init : Inv 0 [] w)
    (step : ∀ i x acc w, it.xs[i]? = some x → Inv i acc w → T (g x (wipeD σ vs) w) fun σ1 w1 => T (t σ1 w1) fun b w2 => if b = true then T (e σ1 w2) fun y w3 => Inv (i + 1) (acc ++ [y]) w3 else Inv (i + 1) acc w2)
    (fin : ∀ acc w, Inv it.xs.length acc w → P acc w) : T (compL it vs g t e it.xs σ w) P := by
  have cl := T_compL (it := it) (vs := vs) (g := g) (t := t) (e := e) (σ := σ) (P := P) Inv ok step fin (i := 0) (acc := []) (w := w) (Nat.zero_le _) init
  rw [List.drop_zero] at cl
  exact cl.mono fun _ _ _ q => by simpa using q
theorem small4 {x : Int} (h0 : 0 ≤ x) (h1 : x ≤ 3) : x = 0 ∨ x = 1 ∨ x = 2 ∨ x = 3 := by omega
theorem wait_bnd {m : Mo} {h : Nat} {b r : Int} (o : MoB m h) (b0 : 0 ≤ b) (b3 : b ≤ 3) (r0 : -100 ≤ r) (r1 : r ≤ 100) : -2000 ≤ waitI m b r ∧ waitI m b r ≤ 2000 := by
  have e := o.every
  have s := o.slow
  have g := o.gap
  unfold waitI
  generalize m.every = x at *
  generalize m.slow = y at *
  generalize m.gap = z at *
  rcases small4 b0 b3 with rfl | rfl | rfl | rfl <;> rcases small4 g.1 g.2 with rfl | rfl | rfl | rfl <;> omega
theorem skew_bnd {m : Mo} {h : Nat} {r : Int} (o : MoB m h) (r0 : -100 ≤ r) (r1 : r ≤ 100) : -2000 ≤ skewI m r ∧ skewI m r ≤ 2000 := by
  have g := o.gap
  unfold skewI
  generalize m.gap = z at *
  rcases small4 g.1 g.2 with rfl | rfl | rfl | rfl <;> omega
theorem wait_mono {m : Mo} {h : Nat} {b r : Int} (o : MoB m h) : waitI m b r ≤ waitI m b (r - 1) := by
  have g := o.gap
  unfold waitI
  generalize m.gap = z at *
  rcases small4 g.1 g.2 with rfl | rfl | rfl | rfl <;> omega
theorem nab {x : Int} (h0 : -100000000 ≤ x) (h1 : x ≤ 100000000) : x.natAbs < 10 ^ 40 := by
  have : x.natAbs ≤ 100000000 := by omega
  exact Nat.lt_of_le_of_lt this (by decide)
section
variable {w : W} {P : D → W → Prop}
theorem eq_nils : T (eqM (.lst []) (.lst []) w) P = P (.bl true) w := by
  have e : eqD (.lst []) (.lst []) w = some true := eqD_fit (p := .list []) (q := .list []) rfl rfl (fit_ints (xs := []) (by simp) (by simp)) (fit_ints (xs := []) (by simp) (by simp))
  rw [T_eq, e]
  simp
end
end Lb

set_option Elab.async false
set_option linter.all false
set_option maxRecDepth 100000
set_option maxHeartbeats 4000000
set_option autoImplicit false
/-! L22: the bounds. -/
namespace Lb
open PySem PySem.Spec PyProof.Rows L2 Pc
section
variable {w : W} {P : D → W → Prop} {k : Ads} {p h : Nat} {m : Mo} {b : Int}
theorem T_lenI {C : Addr} {mf : MF} {fs : List (Str × D)} (hp : w[p]? = some (.ins C fs)) : T (lenI C mf [.ref p] w) P = T (mf [.ref p] w) fun d w1 => match d with
  | .int n => (0 ≤ n ∧ n < 2 ^ 62) ∧ P (.int n) w1
  | _ => False := by
  simp only [lenI, hp, if_true, T_bind]
  congr 1; funext d w1
  cases d <;> first | (simp only [T_guard, T_ok]; done) | (unfold T; rfl)
theorem t_Plan_len (hp : PlanAt k w p m b) (o : MoB m h) : T (m_Plan_len k [.ref p] w) P = P (.int h) w := by
  obtain ⟨r, rest, er, el⟩ : ∃ r rest, m.ranks = r :: rest ∧ r.length = h := by
    have := o.n1
    cases hm : m.ranks with
    | nil => rw [hm] at this; simp at this
    | cons a c => exact ⟨a, c, rfl, (o.ranks.row a (by rw [hm]; exact List.mem_cons_self ..)).1⟩
  simp only [m_Plan_len, b_Plan_len, be_Plan_len, f_ranks hp, er, List.map_cons, at0, rowD, List.length_map, el, T_run, T_seq, Then_nx, Then_rt, T_ret, T_drop, T_sif, T_next, T_asg, T_nm, T_gsub, T_setF, T_gtup, T_gtupK, T_gnil, T_gcons, T_C, T_V, T_bin, T_un, T_and, T_or, T_if, T_aNil, T_aCons, T_tup, T_lst, T_new, T_arg, T_meth, T_call, T_callK, T_make, T_fld, T_ch, T_val, T_tru, T_notT, T_andT, T_orT, T_tTrue, T_add, T_sub, T_mul, T_mod, T_fdiv, T_neg, T_lt, T_le, T_gt, T_ge, T_isN, T_isB, T_isNotN, T_isNotB, T_not, T_truB, T_truI, T_truN, T_ok, List.getElem?_cons_zero, List.getElem?_cons_succ, List.set_cons_zero, List.set_cons_succ, List.length_cons, List.length_nil, gAll, true_and, and_true, T_comp, T_iSeq, T_iArg, T_sl, T_oNone, T_oSome, T_for, T_addT, T_addL, T_itT, T_itL, T_ixT, T_ixL, T_ixK, T_atM, if_true, Bool.false_eq_true, if_false, Bool.not_true, Bool.not_false, Bool.true_eq_false, ite_true, ite_false, reduceCtorEq, T_ixT, Option.some.injEq, exists_eq_left', lenT]
theorem t_len_plan (hp : PlanAt k w p m b) (o : MoB m h) : T (lenI k.C_Plan (m_Plan_len k) [.ref p] w) P = P (.int h) w := by
  have h6 := o.ranks.h6
  rw [T_lenI hp, t_Plan_len hp o]
  simp only []
  exact propext ⟨fun z => z.2, fun z => ⟨⟨by omega, by omega⟩, z⟩⟩
def pairI (m : Mo) : Int := (m.lost + 1) * m.every + m.slow - 1
def apartI (m : Mo) (b : Int) : Int := (b + 1) * m.every + m.slow + m.hold
def noneI (m : Mo) (b h : Int) : Int := (h + 1) * m.slow + waitI m b 1 + m.hold
def settleI (m : Mo) (b h : Int) : Int := noneI m b h + h * pairI m
def askI (m : Mo) (b h : Int) : Int := settleI m b h + (m.lost + 1) * m.every + 2 * m.slow
theorem t_pair (hp : PlanAt k w p m b) (o : MoB m h) : T (m_pair_bound k [.ref p] w) P = P (.int (pairI m)) w := by
  simp only [m_pair_bound, b_pair_bound, be_pair_bound, f_lost hp, t_heard hp o, pairI, T_run, T_seq, Then_nx, Then_rt, T_ret, T_drop, T_sif, T_next, T_asg, T_nm, T_gsub, T_setF, T_gtup, T_gtupK, T_gnil, T_gcons, T_C, T_V, T_bin, T_un, T_and, T_or, T_if, T_aNil, T_aCons, T_tup, T_lst, T_new, T_arg, T_meth, T_call, T_callK, T_make, T_fld, T_ch, T_val, T_tru, T_notT, T_andT, T_orT, T_tTrue, T_add, T_sub, T_mul, T_mod, T_fdiv, T_neg, T_lt, T_le, T_gt, T_ge, T_isN, T_isB, T_isNotN, T_isNotB, T_not, T_truB, T_truI, T_truN, T_ok, List.getElem?_cons_zero, List.getElem?_cons_succ, List.set_cons_zero, List.set_cons_succ, List.length_cons, List.length_nil, gAll, true_and, and_true, T_comp, T_iSeq, T_iArg, T_sl, T_oNone, T_oSome, T_for, T_addT, T_addL, T_itT, T_itL, T_ixT, T_ixL, T_ixK, T_atM, if_true, Bool.false_eq_true, if_false, Bool.not_true, Bool.not_false, Bool.true_eq_false, ite_true, ite_false, reduceCtorEq]
theorem t_apart (hp : PlanAt k w p m b) (o : MoB m h) : T (m_apart_bound k [.ref p] w) P = P (.int (apartI m b)) w := by
  simp only [m_apart_bound, b_apart_bound, be_apart_bound, f_bears hp, f_hold hp, t_heard hp o, apartI, T_run, T_seq, Then_nx, Then_rt, T_ret, T_drop, T_sif, T_next, T_asg, T_nm, T_gsub, T_setF, T_gtup, T_gtupK, T_gnil, T_gcons, T_C, T_V, T_bin, T_un, T_and, T_or, T_if, T_aNil, T_aCons, T_tup, T_lst, T_new, T_arg, T_meth, T_call, T_callK, T_make, T_fld, T_ch, T_val, T_tru, T_notT, T_andT, T_orT, T_tTrue, T_add, T_sub, T_mul, T_mod, T_fdiv, T_neg, T_lt, T_le, T_gt, T_ge, T_isN, T_isB, T_isNotN, T_isNotB, T_not, T_truB, T_truI, T_truN, T_ok, List.getElem?_cons_zero, List.getElem?_cons_succ, List.set_cons_zero, List.set_cons_succ, List.length_cons, List.length_nil, gAll, true_and, and_true, T_comp, T_iSeq, T_iArg, T_sl, T_oNone, T_oSome, T_for, T_addT, T_addL, T_itT, T_itL, T_ixT, T_ixL, T_ixK, T_atM, if_true, Bool.false_eq_true, if_false, Bool.not_true, Bool.not_false, Bool.true_eq_false, ite_true, ite_false, reduceCtorEq]
theorem t_none (hp : PlanAt k w p m b) (o : MoB m h) : T (m_none_bound k [.ref p] w) P = P (.int (noneI m b h)) w := by
  have e := o.slow
  simp only [m_none_bound, b_none_bound, be_none_bound, t_len_plan hp o, f_slow hp, f_hold hp, t_wait_of hp o, mul_r (x := (h : Int) + 1) (y := m.slow) ⟨by omega, by omega⟩, noneI, T_run, T_seq, Then_nx, Then_rt, T_ret, T_drop, T_sif, T_next, T_asg, T_nm, T_gsub, T_setF, T_gtup, T_gtupK, T_gnil, T_gcons, T_C, T_V, T_bin, T_un, T_and, T_or, T_if, T_aNil, T_aCons, T_tup, T_lst, T_new, T_arg, T_meth, T_call, T_callK, T_make, T_fld, T_ch, T_val, T_tru, T_notT, T_andT, T_orT, T_tTrue, T_add, T_sub, T_mul, T_mod, T_fdiv, T_neg, T_lt, T_le, T_gt, T_ge, T_isN, T_isB, T_isNotN, T_isNotB, T_not, T_truB, T_truI, T_truN, T_ok, List.getElem?_cons_zero, List.getElem?_cons_succ, List.set_cons_zero, List.set_cons_succ, List.length_cons, List.length_nil, gAll, true_and, and_true, T_comp, T_iSeq, T_iArg, T_sl, T_oNone, T_oSome, T_for, T_addT, T_addL, T_itT, T_itL, T_ixT, T_ixL, T_ixK, T_atM, if_true, Bool.false_eq_true, if_false, Bool.not_true, Bool.not_false, Bool.true_eq_false, ite_true, ite_false, reduceCtorEq]
theorem t_settle (hp : PlanAt k w p m b) (o : MoB m h) : T (m_settle_bound k [.ref p] w) P = P (.int (settleI m b h)) w := by
  have e := o.ranks.h6
  simp only [m_settle_bound, b_settle_bound, be_settle_bound, t_len_plan hp o, t_none hp o, t_pair hp o, mul_l (x := (h : Int)) (y := pairI m) ⟨by omega, by omega⟩, settleI, T_run, T_seq, Then_nx, Then_rt, T_ret, T_drop, T_sif, T_next, T_asg, T_nm, T_gsub, T_setF, T_gtup, T_gtupK, T_gnil, T_gcons, T_C, T_V, T_bin, T_un, T_and, T_or, T_if, T_aNil, T_aCons, T_tup, T_lst, T_new, T_arg, T_meth, T_call, T_callK, T_make, T_fld, T_ch, T_val, T_tru, T_notT, T_andT, T_orT, T_tTrue, T_add, T_sub, T_mul, T_mod, T_fdiv, T_neg, T_lt, T_le, T_gt, T_ge, T_isN, T_isB, T_isNotN, T_isNotB, T_not, T_truB, T_truI, T_truN, T_ok, List.getElem?_cons_zero, List.getElem?_cons_succ, List.set_cons_zero, List.set_cons_succ, List.length_cons, List.length_nil, gAll, true_and, and_true, T_comp, T_iSeq, T_iArg, T_sl, T_oNone, T_oSome, T_for, T_addT, T_addL, T_itT, T_itL, T_ixT, T_ixL, T_ixK, T_atM, if_true, Bool.false_eq_true, if_false, Bool.not_true, Bool.not_false, Bool.true_eq_false, ite_true, ite_false, reduceCtorEq]
theorem t_ask (hp : PlanAt k w p m b) (o : MoB m h) : T (m_ask_bound k [.ref p] w) P = P (.int (askI m b h)) w := by
  have e := o.every
  have s := o.slow
  simp only [m_ask_bound, b_ask_bound, be_ask_bound, t_settle hp o, f_lost hp, f_every hp, f_slow hp, mul_r (x := m.lost + 1) (y := m.every) ⟨by omega, by omega⟩, mul_l (x := 2) (y := m.slow) ⟨by omega, by omega⟩, askI, T_run, T_seq, Then_nx, Then_rt, T_ret, T_drop, T_sif, T_next, T_asg, T_nm, T_gsub, T_setF, T_gtup, T_gtupK, T_gnil, T_gcons, T_C, T_V, T_bin, T_un, T_and, T_or, T_if, T_aNil, T_aCons, T_tup, T_lst, T_new, T_arg, T_meth, T_call, T_callK, T_make, T_fld, T_ch, T_val, T_tru, T_notT, T_andT, T_orT, T_tTrue, T_add, T_sub, T_mul, T_mod, T_fdiv, T_neg, T_lt, T_le, T_gt, T_ge, T_isN, T_isB, T_isNotN, T_isNotB, T_not, T_truB, T_truI, T_truN, T_ok, List.getElem?_cons_zero, List.getElem?_cons_succ, List.set_cons_zero, List.set_cons_succ, List.length_cons, List.length_nil, gAll, true_and, and_true, T_comp, T_iSeq, T_iArg, T_sl, T_oNone, T_oSome, T_for, T_addT, T_addL, T_itT, T_itL, T_ixT, T_ixL, T_ixK, T_atM, if_true, Bool.false_eq_true, if_false, Bool.not_true, Bool.not_false, Bool.true_eq_false, ite_true, ite_false, reduceCtorEq]
/-- numbers that stay small -/
theorem mul_bnd {x y a b : Int} (x0 : 0 ≤ x) (xa : x ≤ a) (y0 : 0 ≤ y) (yb : y ≤ b) : 0 ≤ x * y ∧ x * y ≤ a * b :=
  ⟨Int.mul_nonneg x0 y0, Int.le_trans (Int.mul_le_mul_of_nonneg_right xa y0) (Int.mul_le_mul_of_nonneg_left yb (by omega))⟩
theorem bnds (o : MoB m h) (b0 : 0 ≤ b) (b3 : b ≤ 3) : (0 ≤ pairI m ∧ pairI m ≤ 100) ∧ (0 ≤ apartI m b ∧ apartI m b ≤ 100) ∧ (0 ≤ noneI m b h ∧ noneI m b h ≤ 1000) ∧ (0 ≤ settleI m b h ∧ settleI m b h ≤ 3000) ∧ (0 ≤ askI m b h ∧ askI m b h ≤ 5000) := by
  have e := o.every
  have s := o.slow
  have g := o.gap
  have l := o.lost
  have ho := o.hold
  have h1 := o.ranks.h1
  have h6 := o.ranks.h6
  have m1 := mul_bnd (x := m.lost + 1) (a := 4) (y := m.every) (b := 5) (by omega) (by omega) (by omega) (by omega)
  have m2 := mul_bnd (x := b + 1) (a := 4) (y := m.every) (b := 5) (by omega) (by omega) (by omega) (by omega)
  have m3 := mul_bnd (x := (h : Int) + 1) (a := 7) (y := m.slow) (b := 4) (by omega) (by omega) (by omega) (by omega)
  have m4 := mul_bnd (x := m.gap) (a := 3) (y := 12 - 1) (b := 11) (by omega) (by omega) (by omega) (by omega)
  have hp : 0 ≤ pairI m ∧ pairI m ≤ 100 := by unfold pairI; omega
  have hn : 0 ≤ noneI m b h ∧ noneI m b h ≤ 1000 := by unfold noneI waitI; omega
  have m5 := mul_bnd (x := (h : Int)) (a := 6) (y := pairI m) (b := 100) (by omega) (by omega) hp.1 hp.2
  have hs : 0 ≤ settleI m b h ∧ settleI m b h ≤ 3000 := by unfold settleI; omega
  refine ⟨hp, by unfold apartI; omega, hn, hs, by unfold askI; omega⟩
end
end Lb

set_option Elab.async false
set_option linter.all false
set_option maxRecDepth 100000
set_option maxHeartbeats 4000000
set_option autoImplicit false
/-! L23: a plan by draws, bears left out now and then. -/
namespace Lb
open PySem PySem.Spec PyProof.Rows L2 Pc
theorem _root_.Pc.Deck.same {w w' : W} {d c : Nat} (h : Deck w d c) (q : ∀ j, j < w.length → w'[j]? = w[j]?) : Deck w' d c := by
  obtain ⟨l1, l2⟩ := h.lt
  obtain ⟨hne, cells, sm, n, h1, h2, h3⟩ := h
  exact ⟨hne, cells, sm, n, by rw [q d l1]; exact h1, by rw [q c l2]; exact h2, h3⟩
section
variable {w : W} {PF : Fl → W → Prop} (k : Ads)
theorem T_start {sc : D} {s2 s3 s4 s5 s6 : Option D} {rest : Sg} {sb : MS} (hd : Deck w 1 0)
    (q : ∀ left i p h m b w', w.length ≤ i → w.length ≤ p → p ≠ i → w'[i]? = some (.dK m.kvs) → m.bears = .int b → PlanAt k w' p m b → MoB m h → 0 ≤ b → b ≤ 3 → Deck w' 1 0 → Grow w w' 1 0 → T (sb (some sc :: some (.ref 1) :: s2 :: s3 :: some (.bl left) :: some (.ref i) :: some (.ref p) :: rest) w') PF) :
    T ((sSeq (sAsg (eBin eqM (eCall mDraw 2 gAll (aCons (eVar 1) (aCons (eC (.int 3)) aNil))) (eC (.int 0))) (gNm 4))
  (sSeq (sAsg (eCall (m__law_any_model k) 1 gAll (aCons (eVar 1) aNil)) (gNm 5))
  (sSeq (sIf (tTru (eVar 4)) (sAsg (eC .non) (gSubM (eVar 5) (eC (.str ("bears" : Str))))) sNext)
  (sSeq (sAsg (eCall (m__law_made k) 1 gAll (aCons (eVar 5) aNil)) (gNm 6))
  (sSeq (sIf (tTru (eVar 4)) (sAsg (eBin ixM (eVar 5) (eC (.str ("lost" : Str)))) (gSubM (eVar 5) (eC (.str ("bears" : Str))))) sNext) sb))))) (some sc :: some (.ref 1) :: s2 :: s3 :: s4 :: s5 :: s6 :: rest) w) PF := by
  have l0 := hd.lt
  rw [T_seq]
  try simp only [T_run, Then_nx, Then_rt, T_ret, T_drop, T_sif, T_next, T_asg, T_nm, T_gsub, T_setF, T_gtup, T_gtupK, T_gnil, T_gcons, T_C, T_V, T_bin, T_un, T_and, T_or, T_if, T_aNil, T_aCons, T_tup, T_lst, T_new, T_arg, T_meth, T_call, T_callK, T_make, T_fld, T_ch, T_val, T_tru, T_notT, T_andT, T_orT, T_tTrue, T_add, T_sub, T_mul, T_mod, T_fdiv, T_neg, T_lt, T_le, T_gt, T_ge, T_isN, T_isB, T_isNotN, T_isNotB, T_not, T_truB, T_truI, T_truN, T_ok, List.getElem?_cons_zero, List.getElem?_cons_succ, List.set_cons_zero, List.set_cons_succ, List.length_cons, List.length_nil, gAll, true_and, and_true, T_comp, T_iSeq, T_iArg, T_sl, T_oNone, T_oSome, T_for, T_addT, T_addL, T_itT, T_itL, T_ixT, T_ixL, T_ixK, T_atM, if_true, Bool.false_eq_true, if_false, Bool.not_true, Bool.not_false, Bool.true_eq_false, ite_true, ite_false, reduceCtorEq, sl0, sl1, sl2, sl3, sl4, sl5, sl6, sl7, sl8, sl9, sl10, sl11, sl12, exists_eq_left', Option.some.injEq, true_and, and_true, T_dct, T_dCons, T_dNil, lenT, lenL, lenK, eq_len, ne_len, T_iItems]
  refine T_draw hd (by omega) (by omega) fun r w2 r0 r1 d2 k2 => ?_
  try simp only [T_run, Then_nx, Then_rt, T_ret, T_drop, T_sif, T_next, T_asg, T_nm, T_gsub, T_setF, T_gtup, T_gtupK, T_gnil, T_gcons, T_C, T_V, T_bin, T_un, T_and, T_or, T_if, T_aNil, T_aCons, T_tup, T_lst, T_new, T_arg, T_meth, T_call, T_callK, T_make, T_fld, T_ch, T_val, T_tru, T_notT, T_andT, T_orT, T_tTrue, T_add, T_sub, T_mul, T_mod, T_fdiv, T_neg, T_lt, T_le, T_gt, T_ge, T_isN, T_isB, T_isNotN, T_isNotB, T_not, T_truB, T_truI, T_truN, T_ok, List.getElem?_cons_zero, List.getElem?_cons_succ, List.set_cons_zero, List.set_cons_succ, List.length_cons, List.length_nil, gAll, true_and, and_true, T_comp, T_iSeq, T_iArg, T_sl, T_oNone, T_oSome, T_for, T_addT, T_addL, T_itT, T_itL, T_ixT, T_ixL, T_ixK, T_atM, if_true, Bool.false_eq_true, if_false, Bool.not_true, Bool.not_false, Bool.true_eq_false, ite_true, ite_false, reduceCtorEq, sl0, sl1, sl2, sl3, sl4, sl5, sl6, sl7, sl8, sl9, sl10, sl11, sl12, exists_eq_left', Option.some.injEq, true_and, and_true, T_dct, T_dCons, T_dNil, lenT, lenL, lenK, eq_len, ne_len, T_iItems]
  rw [T_seq]
  try simp only [T_run, Then_nx, Then_rt, T_ret, T_drop, T_sif, T_next, T_asg, T_nm, T_gsub, T_setF, T_gtup, T_gtupK, T_gnil, T_gcons, T_C, T_V, T_bin, T_un, T_and, T_or, T_if, T_aNil, T_aCons, T_tup, T_lst, T_new, T_arg, T_meth, T_call, T_callK, T_make, T_fld, T_ch, T_val, T_tru, T_notT, T_andT, T_orT, T_tTrue, T_add, T_sub, T_mul, T_mod, T_fdiv, T_neg, T_lt, T_le, T_gt, T_ge, T_isN, T_isB, T_isNotN, T_isNotB, T_not, T_truB, T_truI, T_truN, T_ok, List.getElem?_cons_zero, List.getElem?_cons_succ, List.set_cons_zero, List.set_cons_succ, List.length_cons, List.length_nil, gAll, true_and, and_true, T_comp, T_iSeq, T_iArg, T_sl, T_oNone, T_oSome, T_for, T_addT, T_addL, T_itT, T_itL, T_ixT, T_ixL, T_ixK, T_atM, if_true, Bool.false_eq_true, if_false, Bool.not_true, Bool.not_false, Bool.true_eq_false, ite_true, ite_false, reduceCtorEq, sl0, sl1, sl2, sl3, sl4, sl5, sl6, sl7, sl8, sl9, sl10, sl11, sl12, exists_eq_left', Option.some.injEq, true_and, and_true, T_dct, T_dCons, T_dNil, lenT, lenL, lenK, eq_len, ne_len, T_iItems]
  refine T_any k d2 fun i h m w3 li hM o d3 g3 => ?_
  have lM : i < w3.length := (List.getElem?_eq_some_iff.mp hM).1
  obtain ⟨b, hb, b0, b3⟩ := o.bears
  have ob := MoOk.b o
  have gg : Grow w w3 1 0 := k2.grow.trans g3
  have k2l := k2.1
  try simp only [T_run, Then_nx, Then_rt, T_ret, T_drop, T_sif, T_next, T_asg, T_nm, T_gsub, T_setF, T_gtup, T_gtupK, T_gnil, T_gcons, T_C, T_V, T_bin, T_un, T_and, T_or, T_if, T_aNil, T_aCons, T_tup, T_lst, T_new, T_arg, T_meth, T_call, T_callK, T_make, T_fld, T_ch, T_val, T_tru, T_notT, T_andT, T_orT, T_tTrue, T_add, T_sub, T_mul, T_mod, T_fdiv, T_neg, T_lt, T_le, T_gt, T_ge, T_isN, T_isB, T_isNotN, T_isNotB, T_not, T_truB, T_truI, T_truN, T_ok, List.getElem?_cons_zero, List.getElem?_cons_succ, List.set_cons_zero, List.set_cons_succ, List.length_cons, List.length_nil, gAll, true_and, and_true, T_comp, T_iSeq, T_iArg, T_sl, T_oNone, T_oSome, T_for, T_addT, T_addL, T_itT, T_itL, T_ixT, T_ixL, T_ixK, T_atM, if_true, Bool.false_eq_true, if_false, Bool.not_true, Bool.not_false, Bool.true_eq_false, ite_true, ite_false, reduceCtorEq, sl0, sl1, sl2, sl3, sl4, sl5, sl6, sl7, sl8, sl9, sl10, sl11, sl12, exists_eq_left', Option.some.injEq, true_and, and_true, T_dct, T_dCons, T_dNil, lenT, lenL, lenK, eq_len, ne_len, T_iItems]
  by_cases hr : r = 0
  · subst hr
    rw [T_seq]
    simp only [beq_self_eq_true, T_setD hM, T_run, Then_nx, Then_rt, T_ret, T_drop, T_sif, T_next, T_asg, T_nm, T_gsub, T_setF, T_gtup, T_gtupK, T_gnil, T_gcons, T_C, T_V, T_bin, T_un, T_and, T_or, T_if, T_aNil, T_aCons, T_tup, T_lst, T_new, T_arg, T_meth, T_call, T_callK, T_make, T_fld, T_ch, T_val, T_tru, T_notT, T_andT, T_orT, T_tTrue, T_add, T_sub, T_mul, T_mod, T_fdiv, T_neg, T_lt, T_le, T_gt, T_ge, T_isN, T_isB, T_isNotN, T_isNotB, T_not, T_truB, T_truI, T_truN, T_ok, List.getElem?_cons_zero, List.getElem?_cons_succ, List.set_cons_zero, List.set_cons_succ, List.length_cons, List.length_nil, gAll, true_and, and_true, T_comp, T_iSeq, T_iArg, T_sl, T_oNone, T_oSome, T_for, T_addT, T_addL, T_itT, T_itL, T_ixT, T_ixL, T_ixK, T_atM, if_true, Bool.false_eq_true, if_false, Bool.not_true, Bool.not_false, Bool.true_eq_false, ite_true, ite_false, reduceCtorEq, sl0, sl1, sl2, sl3, sl4, sl5, sl6, sl7, sl8, sl9, sl10, sl11, sl12, exists_eq_left', Option.some.injEq, true_and, and_true, T_dct, T_dCons, T_dNil, lenT, lenL, lenK, eq_len, ne_len, T_iItems]
    refine ⟨Nat.lt_of_lt_of_le (m := 100) (Nat.le_of_ble_eq_true rfl) (sz _ (by omega)), ?_⟩
    obtain ⟨w4, hw4⟩ : ∃ w4 : W, w4 = w3.set i (.dK ({ m with bears := .non } : Mo).kvs) := ⟨_, rfl⟩
    have pe : w3.set i (MO.dK (putD m.kvs (Sum.inr (Str.ofString "bears")) D.non)) = w4 := hw4.symm
    rw [pe]
    have hM4 : w4[i]? = some (.dK ({ m with bears := .non } : Mo).kvs) := by rw [hw4]; exact List.getElem?_set_self lM
    have l4 : w4.length = w3.length := by rw [hw4, List.length_set]
    have d4 : Deck w4 1 0 := by rw [hw4]; exact d3.set (by omega) (by omega)
    rw [T_seq]
    try simp only [T_run, Then_nx, Then_rt, T_ret, T_drop, T_sif, T_next, T_asg, T_nm, T_gsub, T_setF, T_gtup, T_gtupK, T_gnil, T_gcons, T_C, T_V, T_bin, T_un, T_and, T_or, T_if, T_aNil, T_aCons, T_tup, T_lst, T_new, T_arg, T_meth, T_call, T_callK, T_make, T_fld, T_ch, T_val, T_tru, T_notT, T_andT, T_orT, T_tTrue, T_add, T_sub, T_mul, T_mod, T_fdiv, T_neg, T_lt, T_le, T_gt, T_ge, T_isN, T_isB, T_isNotN, T_isNotB, T_not, T_truB, T_truI, T_truN, T_ok, List.getElem?_cons_zero, List.getElem?_cons_succ, List.set_cons_zero, List.set_cons_succ, List.length_cons, List.length_nil, gAll, true_and, and_true, T_comp, T_iSeq, T_iArg, T_sl, T_oNone, T_oSome, T_for, T_addT, T_addL, T_itT, T_itL, T_ixT, T_ixL, T_ixK, T_atM, if_true, Bool.false_eq_true, if_false, Bool.not_true, Bool.not_false, Bool.true_eq_false, ite_true, ite_false, reduceCtorEq, sl0, sl1, sl2, sl3, sl4, sl5, sl6, sl7, sl8, sl9, sl10, sl11, sl12, exists_eq_left', Option.some.injEq, true_and, and_true, T_dct, T_dCons, T_dNil, lenT, lenL, lenK, eq_len, ne_len, T_iItems]
    refine T_made k (b := m.lost) hM4 (h := h) ⟨ob.ranks, ob.n1, ob.n4, ob.every, ob.lost, ob.slow, ob.gap, ob.hold, ob.ties, ob.hosts⟩ ⟨.inl ⟨rfl, rfl⟩, o.lost.1, o.lost.2⟩ fun p w5 lp hp l5 a5 => ?_
    have hM5 : w5[i]? = some (.dK ({ m with bears := .non } : Mo).kvs) := by rw [a5 i (by omega)]; exact hM4
    have ll : lookD ({ m with bears := .non } : Mo).kvs (.inr "lost") = some (.int m.lost) := rfl
    try simp only [T_run, Then_nx, Then_rt, T_ret, T_drop, T_sif, T_next, T_asg, T_nm, T_gsub, T_setF, T_gtup, T_gtupK, T_gnil, T_gcons, T_C, T_V, T_bin, T_un, T_and, T_or, T_if, T_aNil, T_aCons, T_tup, T_lst, T_new, T_arg, T_meth, T_call, T_callK, T_make, T_fld, T_ch, T_val, T_tru, T_notT, T_andT, T_orT, T_tTrue, T_add, T_sub, T_mul, T_mod, T_fdiv, T_neg, T_lt, T_le, T_gt, T_ge, T_isN, T_isB, T_isNotN, T_isNotB, T_not, T_truB, T_truI, T_truN, T_ok, List.getElem?_cons_zero, List.getElem?_cons_succ, List.set_cons_zero, List.set_cons_succ, List.length_cons, List.length_nil, gAll, true_and, and_true, T_comp, T_iSeq, T_iArg, T_sl, T_oNone, T_oSome, T_for, T_addT, T_addL, T_itT, T_itL, T_ixT, T_ixL, T_ixK, T_atM, if_true, Bool.false_eq_true, if_false, Bool.not_true, Bool.not_false, Bool.true_eq_false, ite_true, ite_false, reduceCtorEq, sl0, sl1, sl2, sl3, sl4, sl5, sl6, sl7, sl8, sl9, sl10, sl11, sl12, exists_eq_left', Option.some.injEq, true_and, and_true, T_dct, T_dCons, T_dNil, lenT, lenL, lenK, eq_len, ne_len, T_iItems]
    rw [T_seq]
    simp only [T_ixD hM5, ll, T_setD hM5, T_run, Then_nx, Then_rt, T_ret, T_drop, T_sif, T_next, T_asg, T_nm, T_gsub, T_setF, T_gtup, T_gtupK, T_gnil, T_gcons, T_C, T_V, T_bin, T_un, T_and, T_or, T_if, T_aNil, T_aCons, T_tup, T_lst, T_new, T_arg, T_meth, T_call, T_callK, T_make, T_fld, T_ch, T_val, T_tru, T_notT, T_andT, T_orT, T_tTrue, T_add, T_sub, T_mul, T_mod, T_fdiv, T_neg, T_lt, T_le, T_gt, T_ge, T_isN, T_isB, T_isNotN, T_isNotB, T_not, T_truB, T_truI, T_truN, T_ok, List.getElem?_cons_zero, List.getElem?_cons_succ, List.set_cons_zero, List.set_cons_succ, List.length_cons, List.length_nil, gAll, true_and, and_true, T_comp, T_iSeq, T_iArg, T_sl, T_oNone, T_oSome, T_for, T_addT, T_addL, T_itT, T_itL, T_ixT, T_ixL, T_ixK, T_atM, if_true, Bool.false_eq_true, if_false, Bool.not_true, Bool.not_false, Bool.true_eq_false, ite_true, ite_false, reduceCtorEq, sl0, sl1, sl2, sl3, sl4, sl5, sl6, sl7, sl8, sl9, sl10, sl11, sl12, exists_eq_left', Option.some.injEq, true_and, and_true, T_dct, T_dCons, T_dNil, lenT, lenL, lenK, eq_len, ne_len, T_iItems]
    refine ⟨Nat.lt_of_lt_of_le (m := 100) (Nat.le_of_ble_eq_true rfl) (sz _ (by omega)), ?_⟩
    obtain ⟨w6, hw6⟩ : ∃ w6 : W, w6 = w5.set i (.dK ({ m with bears := .int m.lost } : Mo).kvs) := ⟨_, rfl⟩
    have pe6 : w5.set i (MO.dK (putD ({ m with bears := .non } : Mo).kvs (Sum.inr (Str.ofString "bears")) (.int m.lost))) = w6 := hw6.symm
    rw [pe6]
    have lM5 : i < w5.length := by omega
    have hM6 : w6[i]? = some (.dK ({ m with bears := .int m.lost } : Mo).kvs) := by rw [hw6]; exact List.getElem?_set_self lM5
    have hp6 : PlanAt k w6 p { m with bears := .int m.lost } m.lost := by
      unfold PlanAt
      rw [hw6, List.getElem?_set_ne (by omega)]
      exact hp
    have d6 : Deck w6 1 0 := by rw [hw6]; exact (d4.same a5).set (by omega) (by omega)
    have l6 : w6.length = w5.length := by rw [hw6, List.length_set]
    refine q true i p h _ m.lost w6 (by omega) (by omega) (by omega) hM6 rfl hp6 ⟨ob.ranks, ob.n1, ob.n4, ob.every, ob.lost, ob.slow, ob.gap, ob.hold, ob.ties, ob.hosts⟩ o.lost.1 o.lost.2 d6 ⟨by have := gg.le; omega, fun x h1 h2 h3 => ?_⟩
    have := gg.le
    rw [hw6, List.getElem?_set_ne (by omega), a5 x (by omega), hw4, List.getElem?_set_ne (by omega)]
    exact gg.at_ x h1 h2 h3
  · have hr' : (r == 0) = false := by simpa using hr
    rw [T_seq]
    simp only [hr', T_run, Then_nx, Then_rt, T_ret, T_drop, T_sif, T_next, T_asg, T_nm, T_gsub, T_setF, T_gtup, T_gtupK, T_gnil, T_gcons, T_C, T_V, T_bin, T_un, T_and, T_or, T_if, T_aNil, T_aCons, T_tup, T_lst, T_new, T_arg, T_meth, T_call, T_callK, T_make, T_fld, T_ch, T_val, T_tru, T_notT, T_andT, T_orT, T_tTrue, T_add, T_sub, T_mul, T_mod, T_fdiv, T_neg, T_lt, T_le, T_gt, T_ge, T_isN, T_isB, T_isNotN, T_isNotB, T_not, T_truB, T_truI, T_truN, T_ok, List.getElem?_cons_zero, List.getElem?_cons_succ, List.set_cons_zero, List.set_cons_succ, List.length_cons, List.length_nil, gAll, true_and, and_true, T_comp, T_iSeq, T_iArg, T_sl, T_oNone, T_oSome, T_for, T_addT, T_addL, T_itT, T_itL, T_ixT, T_ixL, T_ixK, T_atM, if_true, Bool.false_eq_true, if_false, Bool.not_true, Bool.not_false, Bool.true_eq_false, ite_true, ite_false, reduceCtorEq, sl0, sl1, sl2, sl3, sl4, sl5, sl6, sl7, sl8, sl9, sl10, sl11, sl12, exists_eq_left', Option.some.injEq, true_and, and_true, T_dct, T_dCons, T_dNil, lenT, lenL, lenK, eq_len, ne_len, T_iItems]
    rw [T_seq]
    try simp only [T_run, Then_nx, Then_rt, T_ret, T_drop, T_sif, T_next, T_asg, T_nm, T_gsub, T_setF, T_gtup, T_gtupK, T_gnil, T_gcons, T_C, T_V, T_bin, T_un, T_and, T_or, T_if, T_aNil, T_aCons, T_tup, T_lst, T_new, T_arg, T_meth, T_call, T_callK, T_make, T_fld, T_ch, T_val, T_tru, T_notT, T_andT, T_orT, T_tTrue, T_add, T_sub, T_mul, T_mod, T_fdiv, T_neg, T_lt, T_le, T_gt, T_ge, T_isN, T_isB, T_isNotN, T_isNotB, T_not, T_truB, T_truI, T_truN, T_ok, List.getElem?_cons_zero, List.getElem?_cons_succ, List.set_cons_zero, List.set_cons_succ, List.length_cons, List.length_nil, gAll, true_and, and_true, T_comp, T_iSeq, T_iArg, T_sl, T_oNone, T_oSome, T_for, T_addT, T_addL, T_itT, T_itL, T_ixT, T_ixL, T_ixK, T_atM, if_true, Bool.false_eq_true, if_false, Bool.not_true, Bool.not_false, Bool.true_eq_false, ite_true, ite_false, reduceCtorEq, sl0, sl1, sl2, sl3, sl4, sl5, sl6, sl7, sl8, sl9, sl10, sl11, sl12, exists_eq_left', Option.some.injEq, true_and, and_true, T_dct, T_dCons, T_dNil, lenT, lenL, lenK, eq_len, ne_len, T_iItems]
    refine T_made k (b := b) hM (h := h) ob ⟨.inr hb, b0, b3⟩ fun p w5 lp hp l5 a5 => ?_
    try simp only [T_run, Then_nx, Then_rt, T_ret, T_drop, T_sif, T_next, T_asg, T_nm, T_gsub, T_setF, T_gtup, T_gtupK, T_gnil, T_gcons, T_C, T_V, T_bin, T_un, T_and, T_or, T_if, T_aNil, T_aCons, T_tup, T_lst, T_new, T_arg, T_meth, T_call, T_callK, T_make, T_fld, T_ch, T_val, T_tru, T_notT, T_andT, T_orT, T_tTrue, T_add, T_sub, T_mul, T_mod, T_fdiv, T_neg, T_lt, T_le, T_gt, T_ge, T_isN, T_isB, T_isNotN, T_isNotB, T_not, T_truB, T_truI, T_truN, T_ok, List.getElem?_cons_zero, List.getElem?_cons_succ, List.set_cons_zero, List.set_cons_succ, List.length_cons, List.length_nil, gAll, true_and, and_true, T_comp, T_iSeq, T_iArg, T_sl, T_oNone, T_oSome, T_for, T_addT, T_addL, T_itT, T_itL, T_ixT, T_ixL, T_ixK, T_atM, if_true, Bool.false_eq_true, if_false, Bool.not_true, Bool.not_false, Bool.true_eq_false, ite_true, ite_false, reduceCtorEq, sl0, sl1, sl2, sl3, sl4, sl5, sl6, sl7, sl8, sl9, sl10, sl11, sl12, exists_eq_left', Option.some.injEq, true_and, and_true, T_dct, T_dCons, T_dNil, lenT, lenL, lenK, eq_len, ne_len, T_iItems]
    rw [T_seq]
    simp only [hr', T_run, Then_nx, Then_rt, T_ret, T_drop, T_sif, T_next, T_asg, T_nm, T_gsub, T_setF, T_gtup, T_gtupK, T_gnil, T_gcons, T_C, T_V, T_bin, T_un, T_and, T_or, T_if, T_aNil, T_aCons, T_tup, T_lst, T_new, T_arg, T_meth, T_call, T_callK, T_make, T_fld, T_ch, T_val, T_tru, T_notT, T_andT, T_orT, T_tTrue, T_add, T_sub, T_mul, T_mod, T_fdiv, T_neg, T_lt, T_le, T_gt, T_ge, T_isN, T_isB, T_isNotN, T_isNotB, T_not, T_truB, T_truI, T_truN, T_ok, List.getElem?_cons_zero, List.getElem?_cons_succ, List.set_cons_zero, List.set_cons_succ, List.length_cons, List.length_nil, gAll, true_and, and_true, T_comp, T_iSeq, T_iArg, T_sl, T_oNone, T_oSome, T_for, T_addT, T_addL, T_itT, T_itL, T_ixT, T_ixL, T_ixK, T_atM, if_true, Bool.false_eq_true, if_false, Bool.not_true, Bool.not_false, Bool.true_eq_false, ite_true, ite_false, reduceCtorEq, sl0, sl1, sl2, sl3, sl4, sl5, sl6, sl7, sl8, sl9, sl10, sl11, sl12, exists_eq_left', Option.some.injEq, true_and, and_true, T_dct, T_dCons, T_dNil, lenT, lenL, lenK, eq_len, ne_len, T_iItems]
    have := gg.le
    refine q false i p h m b w5 (by omega) (by omega) (by omega) (by rw [a5 i lM]; exact hM) hb hp ob b0 b3 (d3.same a5) ⟨by omega, fun x h1 h2 h3 => ?_⟩
    rw [a5 x (by omega)]
    exact gg.at_ x h1 h2 h3
end
end Lb

set_option Elab.async false
set_option linter.all false
set_option maxRecDepth 100000
set_option maxHeartbeats 4000000
set_option autoImplicit false
namespace Lb
open PySem PySem.Spec PyProof.Rows L2 Pc

/-! ### first_state -/
def N_first_state : List Str := [("plan" : Str), ("houses" : Str), ("receivers" : Str), ("living" : Str), ("stands" : Str), ("lacks" : Str), ("tables" : Str), ("asks" : Str), ("house" : Str), ("row" : Str), ("rank" : Str), ("host" : Str)]
noncomputable def b_first_state (k : Ads) : MS :=
  (sSeq (sAsg (eUn rangeL (eArg (lenI k.C_Plan (m_Plan_len k)) (aCons (eVar 0) aNil))) (gNm 1))
  (sSeq (sAsg (eBin addM (eArg (lenI k.C_Plan (m_Plan_len k)) (aCons (eVar 0) aNil)) (eFld k.C_Plan ("hosts" : Str) (eVar 0))) (gNm 2))
  (sSeq (sAsg (eArg tupM (aCons (eComp (iSeq (eVar 1)) [8] (gNm 8) tTrue (eC (.int 1))) aNil)) (gNm 3))
  (sSeq (sAsg (eArg tupM (aCons (eComp (iSeq (eFld k.C_Plan ("ranks" : Str) (eVar 0))) [9] (gNm 9) tTrue (eArg tupM (aCons (eComp (iSeq (eVar 9)) [10] (gNm 10) tTrue (eTup (aCons (eC (.str ("waits" : Str))) (aCons (eBin addM (eCall (m_wait_of k) 2 gAll (aCons (eVar 0) (aCons (eVar 10) aNil))) (eFld k.C_Plan ("hold" : Str) (eVar 0))) aNil)))) aNil))) aNil)) (gNm 4))
  (sSeq (sAsg (eArg tupM (aCons (eComp (iSeq (eFld k.C_Plan ("ranks" : Str) (eVar 0))) [9] (gNm 9) tTrue (eArg tupM (aCons (eComp (iSeq (eVar 1)) [8] (gNm 8) tTrue (eBin mulT (eTup (aCons (eC (.int 0)) aNil)) (eVar 2))) aNil))) aNil)) (gNm 5))
  (sSeq (sAsg (eArg tupM (aCons (eComp (iArg rng1 (aCons (eFld k.C_Plan ("hosts" : Str) (eVar 0)) aNil)) [11] (gNm 11) tTrue (eBin mulT (eTup (aCons (eUn negM (eC (.int 1))) aNil)) (eArg lenM (aCons (eFld k.C_Plan ("ranks" : Str) (eVar 0)) aNil)))) aNil)) (gNm 6))
  (sSeq (sAsg (eArg tupM (aCons (eComp (iArg rng1 (aCons (eFld k.C_Plan ("hosts" : Str) (eVar 0)) aNil)) [11] (gNm 11) tTrue (eTup (aCons (eC (.int 0)) (aCons (eC (.int 0)) aNil)))) aNil)) (gNm 7))
  (sRet (eTup (aCons (eVar 3) (aCons (eBin mulT (eTup (aCons (eC (.int 0)) aNil)) (eVar 2)) (aCons (eTup aNil) (aCons (eFld k.C_Plan ("ranks" : Str) (eVar 0)) (aCons (eVar 4) (aCons (eTup aNil) (aCons (eVar 5) (aCons (eVar 6) (aCons (eVar 7) aNil))))))))))))))))))
noncomputable def m_first_state (k : Ads) : MF := runB (b_first_state k) N_first_state
theorem be_first_state (x0 : D) : begin N_first_state [x0] = [some x0, none, none, none, none, none, none, none, none, none, none, none] := rfl
abbrev g_first_state_0_plan (k : Ads) : List D → List D → List D := pick [(true, 0)]

/-! ### are_within -/
def N_are_within : List Str := [("thing" : Str), ("many" : Str), ("least" : Str), ("most" : Str), ("one" : Str)]
noncomputable def b_are_within (k : Ads) : MS :=
  (sSeq (sIf (tOrM (tNotM (tTru (eArg (isiM noKc) (aCons (eVar 0) (aCons (eC (.ty "tuple")) aNil))))) (tVal (eBin neM (eArg lenM (aCons (eVar 0) aNil)) (eVar 1)))) (sRet (eC (.bl false))) sNext)
  (sRet (eArg allM (aCons (eComp (iSeq (eVar 0)) [4] (gNm 4) tTrue (eCall (m_is_within k) 3 gAll (aCons (eVar 4) (aCons (eVar 2) (aCons (eVar 3) aNil))))) aNil))))
noncomputable def m_are_within (k : Ads) : MF := runB (b_are_within k) N_are_within
theorem be_are_within (x0 x1 x2 x3 : D) : begin N_are_within [x0, x1, x2, x3] = [some x0, some x1, some x2, some x3, none] := rfl

/-! ### is_table -/
def N_is_table : List Str := [("thing" : Str), ("many" : Str)]
noncomputable def b_is_table (k : Ads) : MS :=
  (sRet (eAnd (eArg (isiM noKc) (aCons (eVar 0) (aCons (eC (.ty "tuple")) aNil))) (eBin eqM (eArg lenM (aCons (eVar 0) aNil)) (eVar 1))))
noncomputable def m_is_table (k : Ads) : MF := runB (b_is_table k) N_is_table
theorem be_is_table (x0 x1 : D) : begin N_is_table [x0, x1] = [some x0, some x1] := rfl

/-! ### are_asks -/
def N_are_asks : List Str := [("plan" : Str), ("thing" : Str), ("one" : Str), ("asked" : Str), ("dropped" : Str)]
noncomputable def b_are_asks (k : Ads) : MS :=
  (sSeq (sIf (tOrM (tNotM (tTru (eCall (m_is_table k) 2 gAll (aCons (eVar 1) (aCons (eFld k.C_Plan ("hosts" : Str) (eVar 0)) aNil))))) (tNotM (tTru (eArg allM (aCons (eComp (iSeq (eVar 1)) [2] (gNm 2) tTrue (eCall (m_are_within k) 4 gAll (aCons (eVar 2) (aCons (eC (.int 2)) (aCons (eC (.int 0)) (aCons (eC (.int 1000000000000000000000000000000000000000000000000000000000000)) aNil)))))) aNil))))) (sRet (eC (.bl false))) sNext)
  (sRet (eArg allM (aCons (eComp (iSeq (eVar 1)) [3, 4] (gTupM 2 (gsCons (gNm 3) (gsCons (gNm 4) gsNil))) tTrue (eBin leM (eVar 4) (eVar 3))) aNil))))
noncomputable def m_are_asks (k : Ads) : MF := runB (b_are_asks k) N_are_asks
theorem be_are_asks (x0 x1 : D) : begin N_are_asks [x0, x1] = [some x0, some x1, none, none, none] := rfl

/-! ### are_downs -/
def N_are_downs : List Str := [("plan" : Str), ("thing" : Str), ("ties" : Str), ("rising" : Str), ("one" : Str), ("house" : Str), ("tie" : Str), ("less" : Str), ("other" : Str)]
noncomputable def b_are_downs (k : Ads) : MS :=
  (sSeq (sIf (tOrM (tNotM (tTru (eArg (isiM noKc) (aCons (eVar 1) (aCons (eC (.ty "tuple")) aNil))))) (tNotM (tTru (eArg allM (aCons (eComp (iSeq (eVar 1)) [4] (gNm 4) tTrue (eCall (m_is_within k) 3 gAll (aCons (eVar 4) (aCons (eC (.int 0)) (aCons (eC (.int 1000000000000000000000000000000000000000000000000000000000000)) aNil))))) aNil))))) (sRet (eC (.bl false))) sNext)
  (sSeq (sAsg (eComp (iSeq (eFld k.C_Plan ("ties" : Str) (eVar 0))) [5, 6, 7] (gTupM 3 (gsCons (gNm 5) (gsCons (gNm 6) (gsCons (gNm 7) gsNil)))) tTrue (eVar 6)) (gNm 2))
  (sSeq (sAsg (eArg allM (aCons (eComp (iArg zsM (aCons (eSl slM (eVar 1) oNone (oSome (eUn negM (eC (.int 1))))) (aCons (eSl slM (eVar 1) (oSome (eC (.int 1))) oNone) aNil))) [4, 8] (gTupM 2 (gsCons (gNm 4) (gsCons (gNm 8) gsNil))) tTrue (eBin ltA (eVar 4) (eVar 8))) aNil)) (gNm 3))
  (sRet (eAnd (eVar 3) (eArg allM (aCons (eComp (iSeq (eVar 1)) [4] (gNm 4) tTrue (eBin inM (eVar 4) (eVar 2))) aNil)))))))
noncomputable def m_are_downs (k : Ads) : MF := runB (b_are_downs k) N_are_downs
theorem be_are_downs (x0 x1 : D) : begin N_are_downs [x0, x1] = [some x0, some x1, none, none, none, none, none, none, none] := rfl

/-! ### are_lacks -/
def N_are_lacks : List Str := [("plan" : Str), ("thing" : Str), ("rows" : Str), ("house" : Str), ("row" : Str)]
noncomputable def b_are_lacks (k : Ads) : MS :=
  (sSeq (sIf (tOrM (tNotM (tTru (eCall (m_is_table k) 2 gAll (aCons (eVar 1) (aCons (eArg lenM (aCons (eFld k.C_Plan ("ranks" : Str) (eVar 0)) aNil)) aNil))))) (tNotM (tTru (eArg allM (aCons (eComp (iSeq (eVar 1)) [2] (gNm 2) tTrue (eCall (m_is_table k) 2 gAll (aCons (eVar 2) (aCons (eArg (lenI k.C_Plan (m_Plan_len k)) (aCons (eVar 0) aNil)) aNil)))) aNil))))) (sRet (eC (.bl false))) sNext)
  (sSeq (sFor (iSeq (eVar 1)) (gNm 2) (sFor (iArg enumM (aCons (eVar 2) aNil)) (gTupM 2 (gsCons (gNm 3) (gsCons (gNm 4) gsNil))) (sIf (tOrM (tNotM (tTru (eCall (m_are_within k) 4 gAll (aCons (eVar 4) (aCons (eBin addM (eArg (lenI k.C_Plan (m_Plan_len k)) (aCons (eVar 0) aNil)) (eFld k.C_Plan ("hosts" : Str) (eVar 0))) (aCons (eC (.int 0)) (aCons (eFld k.C_Plan ("lost" : Str) (eVar 0)) aNil))))))) (tVal (eBin neM (eBin ixM (eVar 4) (eVar 3)) (eC (.int 0))))) (sRet (eC (.bl false))) sNext)))
  (sRet (eC (.bl true)))))
noncomputable def m_are_lacks (k : Ads) : MF := runB (b_are_lacks k) N_are_lacks
theorem be_are_lacks (x0 x1 : D) : begin N_are_lacks [x0, x1] = [some x0, some x1, none, none, none] := rfl

/-! ### is_stand -/
def N_is_stand : List Str := [("plan" : Str), ("lives" : Str), ("thing" : Str), ("role" : Str), ("clock" : Str)]
noncomputable def b_is_stand (k : Ads) : MS :=
  (sSeq (sIf (tOrM (tNotM (tTru (eArg (isiM noKc) (aCons (eVar 2) (aCons (eC (.ty "tuple")) aNil))))) (tOrM (tVal (eBin neM (eArg lenM (aCons (eVar 2) aNil)) (eC (.int 2)))) (tNotM (tTru (eArg (isiM noKc) (aCons (eBin ixM (eVar 2) (eC (.int 0))) (aCons (eC (.ty "str")) aNil))))))) (sRet (eC (.bl false))) sNext)
  (sSeq (sAsg (eVar 2) (gTupM 2 (gsCons (gNm 3) (gsCons (gNm 4) gsNil))))
  (sSeq (sIf (tOrM (tVal (eBin eqM (eVar 3) (eC (.str ("rests" : Str))))) (tVal (eBin eqM (eVar 1) (eC (.int 0))))) (sRet (eAnd (eBin eqM (eVar 3) (eC (.str ("rests" : Str)))) (eAnd (eBin eqM (eVar 1) (eC (.int 0))) (eCall (m_is_within k) 3 gAll (aCons (eVar 4) (aCons (eC (.int 0)) (aCons (eC (.int 0)) aNil))))))) sNext)
  (sSeq (sIf (tVal (eBin eqM (eVar 3) (eC (.str ("waits" : Str))))) (sRet (eCall (m_is_within k) 3 gAll (aCons (eVar 4) (aCons (eC (.int 1)) (aCons (eC (.int 1000000000000000000000000000000000000000000000000000000000000)) aNil))))) sNext)
  (sRet (eAnd (eBin eqM (eVar 3) (eC (.str ("serves" : Str)))) (eCall (m_is_within k) 3 gAll (aCons (eVar 4) (aCons (eC (.int 1)) (aCons (eFld k.C_Plan ("every" : Str) (eVar 0)) aNil))))))))))
noncomputable def m_is_stand (k : Ads) : MF := runB (b_is_stand k) N_is_stand
theorem be_is_stand (x0 x1 x2 : D) : begin N_is_stand [x0, x1, x2] = [some x0, some x1, some x2, none, none] := rfl

/-! ### are_stands -/
def N_are_stands : List Str := [("plan" : Str), ("living" : Str), ("thing" : Str), ("row" : Str), ("lives" : Str), ("one" : Str)]
noncomputable def b_are_stands (k : Ads) : MS :=
  (sSeq (sIf (tOrM (tNotM (tTru (eCall (m_is_table k) 2 gAll (aCons (eVar 2) (aCons (eArg lenM (aCons (eFld k.C_Plan ("ranks" : Str) (eVar 0)) aNil)) aNil))))) (tNotM (tTru (eArg allM (aCons (eComp (iSeq (eVar 2)) [3] (gNm 3) tTrue (eCall (m_is_table k) 2 gAll (aCons (eVar 3) (aCons (eArg (lenI k.C_Plan (m_Plan_len k)) (aCons (eVar 0) aNil)) aNil)))) aNil))))) (sRet (eC (.bl false))) sNext)
  (sRet (eArg allM (aCons (eComp2 (iSeq (eVar 2)) [3, 4, 5] (gNm 3) tTrue (iArg zsM (aCons (eVar 1) (aCons (eVar 3) aNil))) [4, 5] (gTupM 2 (gsCons (gNm 4) (gsCons (gNm 5) gsNil))) tTrue (eCall (m_is_stand k) 3 gAll (aCons (eVar 0) (aCons (eVar 4) (aCons (eVar 5) aNil))))) aNil))))
noncomputable def m_are_stands (k : Ads) : MF := runB (b_are_stands k) N_are_stands
theorem be_are_stands (x0 x1 x2 : D) : begin N_are_stands [x0, x1, x2] = [some x0, some x1, some x2, none, none, none] := rfl

/-! ### is_letter -/
def N_is_letter : List Str := [("plan" : Str), ("thing" : Str), ("left" : Str), ("address" : Str), ("sender" : Str), ("receiver" : Str), ("rank" : Str)]
noncomputable def b_is_letter (k : Ads) : MS :=
  (sSeq (sIf (tOrM (tNotM (tTru (eArg (isiM noKc) (aCons (eVar 1) (aCons (eC (.ty "tuple")) aNil))))) (tOrM (tVal (eBin neM (eArg lenM (aCons (eVar 1) aNil)) (eC (.int 5)))) (tNotM (tTru (eCall (m_is_within k) 3 gAll (aCons (eBin ixM (eVar 1) (eC (.int 0))) (aCons (eC (.int 1)) (aCons (eFld k.C_Plan ("slow" : Str) (eVar 0)) aNil)))))))) (sRet (eC (.bl false))) sNext)
  (sSeq (sAsg (eVar 1) (gTupM 5 (gsCons (gNm 2) (gsCons (gNm 3) (gsCons (gNm 4) (gsCons (gNm 5) (gsCons (gNm 6) gsNil)))))))
  (sSeq (sIf (tOrM (tNotM (tTru (eCall (m_is_within k) 3 gAll (aCons (eVar 3) (aCons (eC (.int 0)) (aCons (eBin subM (eArg lenM (aCons (eFld k.C_Plan ("ranks" : Str) (eVar 0)) aNil)) (eC (.int 1))) aNil)))))) (tNotM (tTru (eCall (m_is_within k) 3 gAll (aCons (eVar 4) (aCons (eC (.int 0)) (aCons (eBin subM (eArg (lenI k.C_Plan (m_Plan_len k)) (aCons (eVar 0) aNil)) (eC (.int 1))) aNil))))))) (sRet (eC (.bl false))) sNext)
  (sRet (eAnd (eCall (m_is_within k) 3 gAll (aCons (eVar 5) (aCons (eC (.int 0)) (aCons (eBin subM (eBin addM (eArg (lenI k.C_Plan (m_Plan_len k)) (aCons (eVar 0) aNil)) (eFld k.C_Plan ("hosts" : Str) (eVar 0))) (eC (.int 1))) aNil)))) (eAnd (eBin neM (eVar 5) (eVar 4)) (eCall (m_is_within k) 3 gAll (aCons (eVar 6) (aCons (eC (.int 0)) (aCons (eC (.int 12)) aNil))))))))))
noncomputable def m_is_letter (k : Ads) : MF := runB (b_is_letter k) N_is_letter
theorem be_is_letter (x0 x1 : D) : begin N_is_letter [x0, x1] = [some x0, some x1, none, none, none, none, none] := rfl

/-! ### is_state -/
def N_is_state : List Str := [("plan" : Str), ("thing" : Str), ("living" : Str), ("parts" : Str), ("downs" : Str), ("ranks" : Str), ("stands" : Str), ("letters" : Str), ("lacks" : Str), ("tables" : Str), ("asks" : Str), ("row" : Str), ("one" : Str)]
noncomputable def b_is_state (k : Ads) : MS :=
  (sSeq (sIf (tNotM (tTru (eCall (m_is_table k) 2 gAll (aCons (eVar 1) (aCons (eC (.int 9)) aNil))))) (sRet (eC (.bl false))) sNext)
  (sSeq (sAsg (eVar 1) (gTupM 9 (gsCons (gNm 2) (gsCons (gNm 3) (gsCons (gNm 4) (gsCons (gNm 5) (gsCons (gNm 6) (gsCons (gNm 7) (gsCons (gNm 8) (gsCons (gNm 9) (gsCons (gNm 10) gsNil)))))))))))
  (sSeq (sIf (tOrM (tNotM (tTru (eCall (m_are_within k) 4 gAll (aCons (eVar 2) (aCons (eArg (lenI k.C_Plan (m_Plan_len k)) (aCons (eVar 0) aNil)) (aCons (eC (.int 0)) (aCons (eC (.int 1)) aNil))))))) (tNotM (tTru (eCall (m_are_within k) 4 gAll (aCons (eVar 3) (aCons (eBin addM (eArg (lenI k.C_Plan (m_Plan_len k)) (aCons (eVar 0) aNil)) (eFld k.C_Plan ("hosts" : Str) (eVar 0))) (aCons (eC (.int 0)) (aCons (eC (.int 1)) aNil)))))))) (sRet (eC (.bl false))) sNext)
  (sSeq (sIf (tOrM (tNotM (tTru (eCall (m_are_downs k) 2 gAll (aCons (eVar 0) (aCons (eVar 4) aNil))))) (tNotM (tTru (eCall (m_is_table k) 2 gAll (aCons (eVar 5) (aCons (eArg lenM (aCons (eFld k.C_Plan ("ranks" : Str) (eVar 0)) aNil)) aNil)))))) (sRet (eC (.bl false))) sNext)
  (sSeq (sIf (tOrM (tNotM (tTru (eArg allM (aCons (eComp (iSeq (eVar 5)) [11] (gNm 11) tTrue (eCall (m_are_within k) 4 gAll (aCons (eVar 11) (aCons (eArg (lenI k.C_Plan (m_Plan_len k)) (aCons (eVar 0) aNil)) (aCons (eC (.int 1)) (aCons (eC (.int 12)) aNil)))))) aNil)))) (tNotM (tTru (eCall (m_are_stands k) 3 gAll (aCons (eVar 0) (aCons (eVar 2) (aCons (eVar 6) aNil))))))) (sRet (eC (.bl false))) sNext)
  (sSeq (sIf (tOrM (tNotM (tTru (eArg (isiM noKc) (aCons (eVar 7) (aCons (eC (.ty "tuple")) aNil))))) (tNotM (tTru (eArg allM (aCons (eComp (iSeq (eVar 7)) [12] (gNm 12) tTrue (eCall (m_is_letter k) 2 gAll (aCons (eVar 0) (aCons (eVar 12) aNil)))) aNil))))) (sRet (eC (.bl false))) sNext)
  (sSeq (sIf (tOrM (tNotM (tTru (eCall (m_are_lacks k) 2 gAll (aCons (eVar 0) (aCons (eVar 8) aNil))))) (tNotM (tTru (eCall (m_is_table k) 2 gAll (aCons (eVar 9) (aCons (eFld k.C_Plan ("hosts" : Str) (eVar 0)) aNil)))))) (sRet (eC (.bl false))) sNext)
  (sSeq (sIf (tNotM (tTru (eArg allM (aCons (eComp (iSeq (eVar 9)) [11] (gNm 11) tTrue (eCall (m_are_within k) 4 gAll (aCons (eVar 11) (aCons (eArg lenM (aCons (eFld k.C_Plan ("ranks" : Str) (eVar 0)) aNil)) (aCons (eUn negM (eC (.int 1))) (aCons (eBin subM (eArg (lenI k.C_Plan (m_Plan_len k)) (aCons (eVar 0) aNil)) (eC (.int 1))) aNil)))))) aNil)))) (sRet (eC (.bl false))) sNext)
  (sRet (eCall (m_are_asks k) 2 gAll (aCons (eVar 0) (aCons (eVar 10) aNil))))))))))))
noncomputable def m_is_state (k : Ads) : MF := runB (b_is_state k) N_is_state
theorem be_is_state (x0 x1 : D) : begin N_is_state [x0, x1] = [some x0, some x1, none, none, none, none, none, none, none, none, none, none, none] := rfl

end Lb

set_option Elab.async false
set_option linter.all false
set_option maxRecDepth 100000
set_option maxHeartbeats 4000000
set_option autoImplicit false
/-! L24: states, as the program's own look has them. -/
namespace Lb
open PySem PySem.Spec PyProof.Rows L2 Pc
inductive Role where
  | rests | waits | serves
deriving DecidableEq
def Role.s : Role → Str
  | .rests => "rests"
  | .waits => "waits"
  | .serves => "serves"
structure Lett where
  left : Int
  a : Int
  s : Int
  r : Int
  rank : Int
structure Sta where
  living : List Int
  parts : List Int
  downs : List Int
  ranks : List (List Int)
  stands : List (List (Role × Int))
  letters : List Lett
  lacks : List (List (List Int))
  tables : List (List Int)
  asks : List (Int × Int)
def standD (p : Role × Int) : D := .tup [.str p.1.s, .int p.2]
def rowsD (r : List (Role × Int)) : D := .tup (r.map standD)
def lettD (l : Lett) : D := .tup [.int l.left, .int l.a, .int l.s, .int l.r, .int l.rank]
def lackD (l : List (List Int)) : D := .tup (l.map rowD)
def stD (s : Sta) : D := .tup [rowD s.living, rowD s.parts, rowD s.downs, .tup (s.ranks.map rowD), .tup (s.stands.map rowsD), .tup (s.letters.map lettD), .tup (s.lacks.map lackD), .tup (s.tables.map rowD), .tup (s.asks.map pairD)]
abbrev FAR : Int := 1000000000000000000000000000000000000000000000000000000000000
def StandOk (every lives : Int) (p : Role × Int) : Prop := (p.1 = .rests ∧ lives = 0 ∧ p.2 = 0) ∨ (lives ≠ 0 ∧ p.1 = .waits ∧ 1 ≤ p.2 ∧ p.2 ≤ FAR) ∨ (lives ≠ 0 ∧ p.1 = .serves ∧ 1 ≤ p.2 ∧ p.2 ≤ every)
structure LettOk (m : Mo) (h : Nat) (l : Lett) : Prop where
  left : 1 ≤ l.left ∧ l.left ≤ m.slow
  a : 0 ≤ l.a ∧ l.a ≤ (m.ranks.length : Int) - 1
  s : 0 ≤ l.s ∧ l.s ≤ (h : Int) - 1
  r : 0 ≤ l.r ∧ l.r ≤ (h : Int) + m.hosts - 1
  ne : l.r ≠ l.s
  rank : 0 ≤ l.rank ∧ l.rank ≤ 12
structure StaOk (m : Mo) (h : Nat) (s : Sta) : Prop where
  living : s.living.length = h ∧ ∀ x ∈ s.living, 0 ≤ x ∧ x ≤ 1
  parts : (s.parts.length : Int) = h + m.hosts ∧ ∀ x ∈ s.parts, 0 ≤ x ∧ x ≤ 1
  downs : (∀ x ∈ s.downs, (0 ≤ x ∧ x ≤ 9) ∧ x ∈ m.ties.map fun t => t.2.1) ∧ s.downs.Pairwise (· < ·)
  ranks : s.ranks.length = m.ranks.length ∧ ∀ r ∈ s.ranks, r.length = h ∧ ∀ x ∈ r, 1 ≤ x ∧ x ≤ 12
  stands : s.stands.length = m.ranks.length ∧ ∀ r ∈ s.stands, r.length = h ∧ ∀ p ∈ s.living.zip r, StandOk m.every p.1 p.2
  letters : ∀ l ∈ s.letters, LettOk m h l
  few : s.letters.length ≤ 100000
  lacks : s.lacks.length = m.ranks.length ∧ ∀ l ∈ s.lacks, l.length = h ∧ ∀ (j : Nat) (r : List Int), l[j]? = some r → (r.length : Int) = h + m.hosts ∧ (∀ x ∈ r, 0 ≤ x ∧ x ≤ m.lost) ∧ r[j]? = some 0
  tables : (s.tables.length : Int) = m.hosts ∧ ∀ r ∈ s.tables, r.length = m.ranks.length ∧ ∀ x ∈ r, -1 ≤ x ∧ x ≤ (h : Int) - 1
  asks : (s.asks.length : Int) = m.hosts ∧ ∀ p ∈ s.asks, 0 ≤ p.2 ∧ p.2 ≤ p.1 ∧ p.1 ≤ FAR
section
variable {w : W} {P : D → W → Prop} {k : Ads} {p h : Nat} {m : Mo} {b : Int}
theorem szz (n : Nat) (h : n ≤ 1000000) : n ≤ sizeLine := by rw [sizeLine_eq]; omega
theorem isi_str (x : Str) : T (isiM noKc [.str x, .ty "str"] w) P = P (.bl true) w := by unfold T; rfl
theorem role_ok (r : Role) : PyData.strOk r.s = true := by cases r <;> decide +kernel
theorem eq_role (r q : Role) : T (eqM (.str r.s) (.str q.s) w) P = P (.bl (decide (r = q))) w := by
  refine str_eqs ?_
  rw [eqD_str (role_ok r) (role_ok q)]
  congr 1
  cases r <;> cases q <;> decide +kernel
theorem eq_rests (r : Role) : T (eqM (.str r.s) (.str ("rests" : Str)) w) P = P (.bl (decide (r = .rests))) w := eq_role r .rests
theorem eq_waits (r : Role) : T (eqM (.str r.s) (.str ("waits" : Str)) w) P = P (.bl (decide (r = .waits))) w := eq_role r .waits
theorem eq_serves (r : Role) : T (eqM (.str r.s) (.str ("serves" : Str)) w) P = P (.bl (decide (r = .serves))) w := eq_role r .serves
theorem t_is_table {xs : List D} {n : Int} : T (m_is_table k [.tup xs, .int n] w) P = P (.bl ((xs.length : Int) == n)) w := by
  simp only [m_is_table, b_is_table, be_is_table, isi_tt, T_run, Then_nx, Then_rt, T_ret, T_drop, T_sif, T_next, T_asg, T_nm, T_gsub, T_setF, T_gtup, T_gtupK, T_gnil, T_gcons, T_C, T_V, T_bin, T_un, T_and, T_or, T_if, T_aNil, T_aCons, T_tup, T_lst, T_new, T_arg, T_meth, T_call, T_callK, T_make, T_fld, T_ch, T_val, T_tru, T_notT, T_andT, T_orT, T_tTrue, T_add, T_sub, T_mul, T_mod, T_fdiv, T_neg, T_lt, T_le, T_gt, T_ge, T_isN, T_isB, T_isNotN, T_isNotB, T_not, T_truB, T_truI, T_truN, T_ok, List.getElem?_cons_zero, List.getElem?_cons_succ, List.set_cons_zero, List.set_cons_succ, List.length_cons, List.length_nil, gAll, true_and, and_true, T_comp, T_iSeq, T_iArg, T_sl, T_oNone, T_oSome, T_for, T_addT, T_addL, T_itT, T_itL, T_ixT, T_ixL, T_ixK, T_atM, if_true, Bool.false_eq_true, if_false, Bool.not_true, Bool.not_false, Bool.true_eq_false, ite_true, ite_false, reduceCtorEq, sl0, sl1, sl2, sl3, sl4, sl5, sl6, sl7, sl8, sl9, sl10, sl11, sl12, exists_eq_left', Option.some.injEq, true_and, and_true, T_dct, T_dCons, T_dNil, lenT, lenL, lenK, eq_len, ne_len, T_iItems]
theorem t_are_within {xs : List Int} {n lo hi : Int} (hn : (xs.length : Int) = n) (hl : xs.length ≤ 100000) (hx : ∀ x ∈ xs, lo ≤ x ∧ x ≤ hi) (hP : P (.bl true) w) : T (m_are_within k [rowD xs, .int n, .int lo, .int hi] w) P := by
  have e : ((xs.map D.int).length : Int) == n := by rw [List.length_map]; simpa using hn
  unfold m_are_within b_are_within
  rw [T_run, be_are_within, T_seq]
  simp only [rowD, isi_tt, e, T_run, Then_nx, Then_rt, T_ret, T_drop, T_sif, T_next, T_asg, T_nm, T_gsub, T_setF, T_gtup, T_gtupK, T_gnil, T_gcons, T_C, T_V, T_bin, T_un, T_and, T_or, T_if, T_aNil, T_aCons, T_tup, T_lst, T_new, T_arg, T_meth, T_call, T_callK, T_make, T_fld, T_ch, T_val, T_tru, T_notT, T_andT, T_orT, T_tTrue, T_add, T_sub, T_mul, T_mod, T_fdiv, T_neg, T_lt, T_le, T_gt, T_ge, T_isN, T_isB, T_isNotN, T_isNotB, T_not, T_truB, T_truI, T_truN, T_ok, List.getElem?_cons_zero, List.getElem?_cons_succ, List.set_cons_zero, List.set_cons_succ, List.length_cons, List.length_nil, gAll, true_and, and_true, T_comp, T_iSeq, T_iArg, T_sl, T_oNone, T_oSome, T_for, T_addT, T_addL, T_itT, T_itL, T_ixT, T_ixL, T_ixK, T_atM, if_true, Bool.false_eq_true, if_false, Bool.not_true, Bool.not_false, Bool.true_eq_false, ite_true, ite_false, reduceCtorEq, sl0, sl1, sl2, sl3, sl4, sl5, sl6, sl7, sl8, sl9, sl10, sl11, sl12, exists_eq_left', Option.some.injEq, true_and, and_true, T_dct, T_dCons, T_dNil, lenT, lenL, lenK, eq_len, ne_len, T_iItems]
  refine ⟨szz _ (by rw [List.length_map]; omega), ?_⟩
  refine T_compE (it := ⟨xs.map D.int, always⟩) xs D.int (fun x => .bl (decide (lo ≤ x) && decide (x ≤ hi))) rfl trivial (fun x _ => ?_) ?_
  · simp only [wipeD, t_is_within, T_run, Then_nx, Then_rt, T_ret, T_drop, T_sif, T_next, T_asg, T_nm, T_gsub, T_setF, T_gtup, T_gtupK, T_gnil, T_gcons, T_C, T_V, T_bin, T_un, T_and, T_or, T_if, T_aNil, T_aCons, T_tup, T_lst, T_new, T_arg, T_meth, T_call, T_callK, T_make, T_fld, T_ch, T_val, T_tru, T_notT, T_andT, T_orT, T_tTrue, T_add, T_sub, T_mul, T_mod, T_fdiv, T_neg, T_lt, T_le, T_gt, T_ge, T_isN, T_isB, T_isNotN, T_isNotB, T_not, T_truB, T_truI, T_truN, T_ok, List.getElem?_cons_zero, List.getElem?_cons_succ, List.set_cons_zero, List.set_cons_succ, List.length_cons, List.length_nil, gAll, true_and, and_true, T_comp, T_iSeq, T_iArg, T_sl, T_oNone, T_oSome, T_for, T_addT, T_addL, T_itT, T_itL, T_ixT, T_ixL, T_ixK, T_atM, if_true, Bool.false_eq_true, if_false, Bool.not_true, Bool.not_false, Bool.true_eq_false, ite_true, ite_false, reduceCtorEq, sl0, sl1, sl2, sl3, sl4, sl5, sl6, sl7, sl8, sl9, sl10, sl11, sl12, exists_eq_left', Option.some.injEq, true_and, and_true, T_dct, T_dCons, T_dNil, lenT, lenL, lenK, eq_len, ne_len, T_iItems]
  rw [T_allM xs fun x => decide (lo ≤ x) && decide (x ≤ hi)]
  have a : (xs.all fun x => decide (lo ≤ x) && decide (x ≤ hi)) = true := by
    rw [List.all_eq_true]
    intro x hm
    have := hx x hm
    simp [this.1, this.2]
  rw [a]
  exact hP
theorem all_one {α : Type} (ys : List α) : T (allM [.lst (ys.map fun _ => .bl true)] w) P = P (.bl true) w := by
  rw [T_allM ys fun _ => true]
  have e : (ys.all fun _ => true) = true := by simp
  rw [e]
theorem t_is_stand {lives : Int} {q : Role × Int} (hp : PlanAt k w p m b) (ok : StandOk m.every lives q) (hP : P (.bl true) w) : T (m_is_stand k [.ref p, .int lives, standD q] w) P := by
  unfold m_is_stand b_is_stand
  rw [T_run, be_is_stand, T_seq]
  simp only [standD, isi_tt, isi_str, at0, T_run, Then_nx, Then_rt, T_ret, T_drop, T_sif, T_next, T_asg, T_nm, T_gsub, T_setF, T_gtup, T_gtupK, T_gnil, T_gcons, T_C, T_V, T_bin, T_un, T_and, T_or, T_if, T_aNil, T_aCons, T_tup, T_lst, T_new, T_arg, T_meth, T_call, T_callK, T_make, T_fld, T_ch, T_val, T_tru, T_notT, T_andT, T_orT, T_tTrue, T_add, T_sub, T_mul, T_mod, T_fdiv, T_neg, T_lt, T_le, T_gt, T_ge, T_isN, T_isB, T_isNotN, T_isNotB, T_not, T_truB, T_truI, T_truN, T_ok, List.getElem?_cons_zero, List.getElem?_cons_succ, List.set_cons_zero, List.set_cons_succ, List.length_cons, List.length_nil, gAll, true_and, and_true, T_comp, T_iSeq, T_iArg, T_sl, T_oNone, T_oSome, T_for, T_addT, T_addL, T_itT, T_itL, T_ixT, T_ixL, T_ixK, T_atM, if_true, Bool.false_eq_true, if_false, Bool.not_true, Bool.not_false, Bool.true_eq_false, ite_true, ite_false, reduceCtorEq, sl0, sl1, sl2, sl3, sl4, sl5, sl6, sl7, sl8, sl9, sl10, sl11, sl12, exists_eq_left', Option.some.injEq, true_and, and_true, T_dct, T_dCons, T_dNil, lenT, lenL, lenK, eq_len, ne_len, T_iItems]
  rw [if_neg (by decide)]
  rw [T_seq]
  simp only [T_run, Then_nx, Then_rt, T_ret, T_drop, T_sif, T_next, T_asg, T_nm, T_gsub, T_setF, T_gtup, T_gtupK, T_gnil, T_gcons, T_C, T_V, T_bin, T_un, T_and, T_or, T_if, T_aNil, T_aCons, T_tup, T_lst, T_new, T_arg, T_meth, T_call, T_callK, T_make, T_fld, T_ch, T_val, T_tru, T_notT, T_andT, T_orT, T_tTrue, T_add, T_sub, T_mul, T_mod, T_fdiv, T_neg, T_lt, T_le, T_gt, T_ge, T_isN, T_isB, T_isNotN, T_isNotB, T_not, T_truB, T_truI, T_truN, T_ok, List.getElem?_cons_zero, List.getElem?_cons_succ, List.set_cons_zero, List.set_cons_succ, List.length_cons, List.length_nil, gAll, true_and, and_true, T_comp, T_iSeq, T_iArg, T_sl, T_oNone, T_oSome, T_for, T_addT, T_addL, T_itT, T_itL, T_ixT, T_ixL, T_ixK, T_atM, if_true, Bool.false_eq_true, if_false, Bool.not_true, Bool.not_false, Bool.true_eq_false, ite_true, ite_false, reduceCtorEq, sl0, sl1, sl2, sl3, sl4, sl5, sl6, sl7, sl8, sl9, sl10, sl11, sl12, exists_eq_left', Option.some.injEq, true_and, and_true, T_dct, T_dCons, T_dNil, lenT, lenL, lenK, eq_len, ne_len, T_iItems]
  rw [T_seq]
  simp only [eq_rests, T_run, Then_nx, Then_rt, T_ret, T_drop, T_sif, T_next, T_asg, T_nm, T_gsub, T_setF, T_gtup, T_gtupK, T_gnil, T_gcons, T_C, T_V, T_bin, T_un, T_and, T_or, T_if, T_aNil, T_aCons, T_tup, T_lst, T_new, T_arg, T_meth, T_call, T_callK, T_make, T_fld, T_ch, T_val, T_tru, T_notT, T_andT, T_orT, T_tTrue, T_add, T_sub, T_mul, T_mod, T_fdiv, T_neg, T_lt, T_le, T_gt, T_ge, T_isN, T_isB, T_isNotN, T_isNotB, T_not, T_truB, T_truI, T_truN, T_ok, List.getElem?_cons_zero, List.getElem?_cons_succ, List.set_cons_zero, List.set_cons_succ, List.length_cons, List.length_nil, gAll, true_and, and_true, T_comp, T_iSeq, T_iArg, T_sl, T_oNone, T_oSome, T_for, T_addT, T_addL, T_itT, T_itL, T_ixT, T_ixL, T_ixK, T_atM, if_true, Bool.false_eq_true, if_false, Bool.not_true, Bool.not_false, Bool.true_eq_false, ite_true, ite_false, reduceCtorEq, sl0, sl1, sl2, sl3, sl4, sl5, sl6, sl7, sl8, sl9, sl10, sl11, sl12, exists_eq_left', Option.some.injEq, true_and, and_true, T_dct, T_dCons, T_dNil, lenT, lenL, lenK, eq_len, ne_len, T_iItems]
  rcases ok with ⟨h1, h2, h3⟩ | ⟨h1, h2, h3, h4⟩ | ⟨h1, h2, h3, h4⟩
  · simp only [h1, h2, h3, t_is_within, decide_true, beq_self_eq_true, T_run, Then_nx, Then_rt, T_ret, T_drop, T_sif, T_next, T_asg, T_nm, T_gsub, T_setF, T_gtup, T_gtupK, T_gnil, T_gcons, T_C, T_V, T_bin, T_un, T_and, T_or, T_if, T_aNil, T_aCons, T_tup, T_lst, T_new, T_arg, T_meth, T_call, T_callK, T_make, T_fld, T_ch, T_val, T_tru, T_notT, T_andT, T_orT, T_tTrue, T_add, T_sub, T_mul, T_mod, T_fdiv, T_neg, T_lt, T_le, T_gt, T_ge, T_isN, T_isB, T_isNotN, T_isNotB, T_not, T_truB, T_truI, T_truN, T_ok, List.getElem?_cons_zero, List.getElem?_cons_succ, List.set_cons_zero, List.set_cons_succ, List.length_cons, List.length_nil, gAll, true_and, and_true, T_comp, T_iSeq, T_iArg, T_sl, T_oNone, T_oSome, T_for, T_addT, T_addL, T_itT, T_itL, T_ixT, T_ixL, T_ixK, T_atM, if_true, Bool.false_eq_true, if_false, Bool.not_true, Bool.not_false, Bool.true_eq_false, ite_true, ite_false, reduceCtorEq, sl0, sl1, sl2, sl3, sl4, sl5, sl6, sl7, sl8, sl9, sl10, sl11, sl12, exists_eq_left', Option.some.injEq, true_and, and_true, T_dct, T_dCons, T_dNil, lenT, lenL, lenK, eq_len, ne_len, T_iItems]
    exact hP
  · have hn : (lives == 0) = false := by simpa using h1
    simp only [h2, hn, show decide (Role.waits = Role.rests) = false from rfl, T_run, Then_nx, Then_rt, T_ret, T_drop, T_sif, T_next, T_asg, T_nm, T_gsub, T_setF, T_gtup, T_gtupK, T_gnil, T_gcons, T_C, T_V, T_bin, T_un, T_and, T_or, T_if, T_aNil, T_aCons, T_tup, T_lst, T_new, T_arg, T_meth, T_call, T_callK, T_make, T_fld, T_ch, T_val, T_tru, T_notT, T_andT, T_orT, T_tTrue, T_add, T_sub, T_mul, T_mod, T_fdiv, T_neg, T_lt, T_le, T_gt, T_ge, T_isN, T_isB, T_isNotN, T_isNotB, T_not, T_truB, T_truI, T_truN, T_ok, List.getElem?_cons_zero, List.getElem?_cons_succ, List.set_cons_zero, List.set_cons_succ, List.length_cons, List.length_nil, gAll, true_and, and_true, T_comp, T_iSeq, T_iArg, T_sl, T_oNone, T_oSome, T_for, T_addT, T_addL, T_itT, T_itL, T_ixT, T_ixL, T_ixK, T_atM, if_true, Bool.false_eq_true, if_false, Bool.not_true, Bool.not_false, Bool.true_eq_false, ite_true, ite_false, reduceCtorEq, sl0, sl1, sl2, sl3, sl4, sl5, sl6, sl7, sl8, sl9, sl10, sl11, sl12, exists_eq_left', Option.some.injEq, true_and, and_true, T_dct, T_dCons, T_dNil, lenT, lenL, lenK, eq_len, ne_len, T_iItems]
    rw [T_seq]
    simp only [eq_waits, decide_true, t_is_within, decide_eq_true h3, decide_eq_true h4, Bool.and_self, T_run, Then_nx, Then_rt, T_ret, T_drop, T_sif, T_next, T_asg, T_nm, T_gsub, T_setF, T_gtup, T_gtupK, T_gnil, T_gcons, T_C, T_V, T_bin, T_un, T_and, T_or, T_if, T_aNil, T_aCons, T_tup, T_lst, T_new, T_arg, T_meth, T_call, T_callK, T_make, T_fld, T_ch, T_val, T_tru, T_notT, T_andT, T_orT, T_tTrue, T_add, T_sub, T_mul, T_mod, T_fdiv, T_neg, T_lt, T_le, T_gt, T_ge, T_isN, T_isB, T_isNotN, T_isNotB, T_not, T_truB, T_truI, T_truN, T_ok, List.getElem?_cons_zero, List.getElem?_cons_succ, List.set_cons_zero, List.set_cons_succ, List.length_cons, List.length_nil, gAll, true_and, and_true, T_comp, T_iSeq, T_iArg, T_sl, T_oNone, T_oSome, T_for, T_addT, T_addL, T_itT, T_itL, T_ixT, T_ixL, T_ixK, T_atM, if_true, Bool.false_eq_true, if_false, Bool.not_true, Bool.not_false, Bool.true_eq_false, ite_true, ite_false, reduceCtorEq, sl0, sl1, sl2, sl3, sl4, sl5, sl6, sl7, sl8, sl9, sl10, sl11, sl12, exists_eq_left', Option.some.injEq, true_and, and_true, T_dct, T_dCons, T_dNil, lenT, lenL, lenK, eq_len, ne_len, T_iItems]
    exact hP
  · have hn : (lives == 0) = false := by simpa using h1
    simp only [h2, hn, show decide (Role.serves = Role.rests) = false from rfl, T_run, Then_nx, Then_rt, T_ret, T_drop, T_sif, T_next, T_asg, T_nm, T_gsub, T_setF, T_gtup, T_gtupK, T_gnil, T_gcons, T_C, T_V, T_bin, T_un, T_and, T_or, T_if, T_aNil, T_aCons, T_tup, T_lst, T_new, T_arg, T_meth, T_call, T_callK, T_make, T_fld, T_ch, T_val, T_tru, T_notT, T_andT, T_orT, T_tTrue, T_add, T_sub, T_mul, T_mod, T_fdiv, T_neg, T_lt, T_le, T_gt, T_ge, T_isN, T_isB, T_isNotN, T_isNotB, T_not, T_truB, T_truI, T_truN, T_ok, List.getElem?_cons_zero, List.getElem?_cons_succ, List.set_cons_zero, List.set_cons_succ, List.length_cons, List.length_nil, gAll, true_and, and_true, T_comp, T_iSeq, T_iArg, T_sl, T_oNone, T_oSome, T_for, T_addT, T_addL, T_itT, T_itL, T_ixT, T_ixL, T_ixK, T_atM, if_true, Bool.false_eq_true, if_false, Bool.not_true, Bool.not_false, Bool.true_eq_false, ite_true, ite_false, reduceCtorEq, sl0, sl1, sl2, sl3, sl4, sl5, sl6, sl7, sl8, sl9, sl10, sl11, sl12, exists_eq_left', Option.some.injEq, true_and, and_true, T_dct, T_dCons, T_dNil, lenT, lenL, lenK, eq_len, ne_len, T_iItems]
    rw [T_seq]
    simp only [eq_waits, eq_serves, show decide (Role.serves = Role.waits) = false from rfl, decide_true, f_every hp, t_is_within, decide_eq_true h3, decide_eq_true h4, Bool.and_self, T_run, Then_nx, Then_rt, T_ret, T_drop, T_sif, T_next, T_asg, T_nm, T_gsub, T_setF, T_gtup, T_gtupK, T_gnil, T_gcons, T_C, T_V, T_bin, T_un, T_and, T_or, T_if, T_aNil, T_aCons, T_tup, T_lst, T_new, T_arg, T_meth, T_call, T_callK, T_make, T_fld, T_ch, T_val, T_tru, T_notT, T_andT, T_orT, T_tTrue, T_add, T_sub, T_mul, T_mod, T_fdiv, T_neg, T_lt, T_le, T_gt, T_ge, T_isN, T_isB, T_isNotN, T_isNotB, T_not, T_truB, T_truI, T_truN, T_ok, List.getElem?_cons_zero, List.getElem?_cons_succ, List.set_cons_zero, List.set_cons_succ, List.length_cons, List.length_nil, gAll, true_and, and_true, T_comp, T_iSeq, T_iArg, T_sl, T_oNone, T_oSome, T_for, T_addT, T_addL, T_itT, T_itL, T_ixT, T_ixL, T_ixK, T_atM, if_true, Bool.false_eq_true, if_false, Bool.not_true, Bool.not_false, Bool.true_eq_false, ite_true, ite_false, reduceCtorEq, sl0, sl1, sl2, sl3, sl4, sl5, sl6, sl7, sl8, sl9, sl10, sl11, sl12, exists_eq_left', Option.some.injEq, true_and, and_true, T_dct, T_dCons, T_dNil, lenT, lenL, lenK, eq_len, ne_len, T_iItems]
    exact hP
end
end Lb

set_option Elab.async false
set_option linter.all false
set_option maxRecDepth 100000
set_option maxHeartbeats 4000000
set_option autoImplicit false
/-! L25: is_state of a right state. -/
namespace Lb
open PySem PySem.Spec PyProof.Rows L2 Pc
section
variable {w : W} {P : D → W → Prop} {k : Ads} {p h : Nat} {m : Mo} {b : Int}
theorem len_rows (hp : PlanAt k w p m b) : T (fldM k.C_Plan "ranks" (.ref p) w) P = P (.tup (m.ranks.map rowD)) w := f_ranks hp
theorem t_are_stands {living : List Int} {st : List (List (Role × Int))} (hp : PlanAt k w p m b) (o : MoB m h) (hl : living.length = h) (h1 : st.length = m.ranks.length) (h2 : ∀ r ∈ st, r.length = h ∧ ∀ q ∈ living.zip r, StandOk m.every q.1 q.2) (hP : P (.bl true) w) :
    T (m_are_stands k [.ref p, rowD living, .tup (st.map rowsD)] w) P := by
  have n4 := o.n4
  have h6 := o.ranks.h6
  have e1 : (((st.map rowsD).length : Int) == ((m.ranks.map rowD).length : Int)) = true := by simp [h1]
  unfold m_are_stands b_are_stands
  rw [T_run, be_are_stands, T_seq]
  simp only [f_ranks hp, t_is_table, e1, T_run, Then_nx, Then_rt, T_ret, T_drop, T_sif, T_next, T_asg, T_nm, T_gsub, T_setF, T_gtup, T_gtupK, T_gnil, T_gcons, T_C, T_V, T_bin, T_un, T_and, T_or, T_if, T_aNil, T_aCons, T_tup, T_lst, T_new, T_arg, T_meth, T_call, T_callK, T_make, T_fld, T_ch, T_val, T_tru, T_notT, T_andT, T_orT, T_tTrue, T_add, T_sub, T_mul, T_mod, T_fdiv, T_neg, T_lt, T_le, T_gt, T_ge, T_isN, T_isB, T_isNotN, T_isNotB, T_not, T_truB, T_truI, T_truN, T_ok, List.getElem?_cons_zero, List.getElem?_cons_succ, List.set_cons_zero, List.set_cons_succ, List.length_cons, List.length_nil, gAll, true_and, and_true, T_comp, T_iSeq, T_iArg, T_sl, T_oNone, T_oSome, T_for, T_addT, T_addL, T_itT, T_itL, T_ixT, T_ixL, T_ixK, T_atM, if_true, Bool.false_eq_true, if_false, Bool.not_true, Bool.not_false, Bool.true_eq_false, ite_true, ite_false, reduceCtorEq, sl0, sl1, sl2, sl3, sl4, sl5, sl6, sl7, sl8, sl9, sl10, sl11, sl12, exists_eq_left', Option.some.injEq, true_and, and_true, T_dct, T_dCons, T_dNil, lenT, lenL, lenK, eq_len, ne_len, T_iItems]
  refine ⟨szz _ (by rw [List.length_map]; omega), ?_⟩
  refine T_compE (it := ⟨st.map rowsD, always⟩) st rowsD (fun _ => .bl true) rfl trivial (fun r hr => ?_) ?_
  · have e2 : (((r.map standD).length : Int) == (h : Int)) = true := by simp [(h2 r hr).1]
    simp only [wipeD, rowsD, t_len_plan hp o, t_is_table, e2, T_run, Then_nx, Then_rt, T_ret, T_drop, T_sif, T_next, T_asg, T_nm, T_gsub, T_setF, T_gtup, T_gtupK, T_gnil, T_gcons, T_C, T_V, T_bin, T_un, T_and, T_or, T_if, T_aNil, T_aCons, T_tup, T_lst, T_new, T_arg, T_meth, T_call, T_callK, T_make, T_fld, T_ch, T_val, T_tru, T_notT, T_andT, T_orT, T_tTrue, T_add, T_sub, T_mul, T_mod, T_fdiv, T_neg, T_lt, T_le, T_gt, T_ge, T_isN, T_isB, T_isNotN, T_isNotB, T_not, T_truB, T_truI, T_truN, T_ok, List.getElem?_cons_zero, List.getElem?_cons_succ, List.set_cons_zero, List.set_cons_succ, List.length_cons, List.length_nil, gAll, true_and, and_true, T_comp, T_iSeq, T_iArg, T_sl, T_oNone, T_oSome, T_for, T_addT, T_addL, T_itT, T_itL, T_ixT, T_ixL, T_ixK, T_atM, if_true, Bool.false_eq_true, if_false, Bool.not_true, Bool.not_false, Bool.true_eq_false, ite_true, ite_false, reduceCtorEq, sl0, sl1, sl2, sl3, sl4, sl5, sl6, sl7, sl8, sl9, sl10, sl11, sl12, exists_eq_left', Option.some.injEq, true_and, and_true, T_dct, T_dCons, T_dNil, lenT, lenL, lenK, eq_len, ne_len, T_iItems]
  simp only [all_one, T_comp2, T_run, Then_nx, Then_rt, T_ret, T_drop, T_sif, T_next, T_asg, T_nm, T_gsub, T_setF, T_gtup, T_gtupK, T_gnil, T_gcons, T_C, T_V, T_bin, T_un, T_and, T_or, T_if, T_aNil, T_aCons, T_tup, T_lst, T_new, T_arg, T_meth, T_call, T_callK, T_make, T_fld, T_ch, T_val, T_tru, T_notT, T_andT, T_orT, T_tTrue, T_add, T_sub, T_mul, T_mod, T_fdiv, T_neg, T_lt, T_le, T_gt, T_ge, T_isN, T_isB, T_isNotN, T_isNotB, T_not, T_truB, T_truI, T_truN, T_ok, List.getElem?_cons_zero, List.getElem?_cons_succ, List.set_cons_zero, List.set_cons_succ, List.length_cons, List.length_nil, gAll, true_and, and_true, T_comp, T_iSeq, T_iArg, T_sl, T_oNone, T_oSome, T_for, T_addT, T_addL, T_itT, T_itL, T_ixT, T_ixL, T_ixK, T_atM, if_true, Bool.false_eq_true, if_false, Bool.not_true, Bool.not_false, Bool.true_eq_false, ite_true, ite_false, reduceCtorEq, sl0, sl1, sl2, sl3, sl4, sl5, sl6, sl7, sl8, sl9, sl10, sl11, sl12, exists_eq_left', Option.some.injEq, true_and, and_true, T_dct, T_dCons, T_dNil, lenT, lenL, lenK, eq_len, ne_len, T_iItems]
  refine T_outL (it := ⟨st.map rowsD, always⟩) rowsD (fun r => living.zip r) (fun q => .tup [.int q.1, standD q.2]) (fun _ _ => .bl true) st [] trivial ?_ (fun r hr => ?_) ?_
  · have : ∀ l : List (List (Role × Int)), (∀ r ∈ l, r.length = h) → (l.map fun r => (living.zip r).length).sum ≤ l.length * h := by
      intro l
      induction l with
      | nil => simp
      | cons a l ih =>
        intro hl'
        have ih' := ih fun r hr => hl' r (List.mem_cons_of_mem _ hr)
        have ha := hl' a (List.mem_cons_self ..)
        rw [List.map_cons, List.sum_cons, List.length_cons, Nat.succ_mul, List.length_zip]
        omega
    have t := this st fun r hr => (h2 r hr).1
    have t2 := Nat.mul_le_mul (h1 ▸ n4) h6
    exact szz _ (by simp only [List.length_nil]; omega)
  · have el : (living.map D.int).length = (r.map standD).length := by rw [List.length_map, List.length_map, hl, (h2 r hr).1]
    have ez : ((living.map D.int).zip (r.map standD)).map (fun q => D.tup [q.1, q.2]) = (living.zip r).map fun q => D.tup [.int q.1, standD q.2] := by
      rw [List.zip_map, List.map_map]
      rfl
    simp only [wipeD, rowD, rowsD, T_zs, el, ez, T_run, Then_nx, Then_rt, T_ret, T_drop, T_sif, T_next, T_asg, T_nm, T_gsub, T_setF, T_gtup, T_gtupK, T_gnil, T_gcons, T_C, T_V, T_bin, T_un, T_and, T_or, T_if, T_aNil, T_aCons, T_tup, T_lst, T_new, T_arg, T_meth, T_call, T_callK, T_make, T_fld, T_ch, T_val, T_tru, T_notT, T_andT, T_orT, T_tTrue, T_add, T_sub, T_mul, T_mod, T_fdiv, T_neg, T_lt, T_le, T_gt, T_ge, T_isN, T_isB, T_isNotN, T_isNotB, T_not, T_truB, T_truI, T_truN, T_ok, List.getElem?_cons_zero, List.getElem?_cons_succ, List.set_cons_zero, List.set_cons_succ, List.length_cons, List.length_nil, gAll, true_and, and_true, T_comp, T_iSeq, T_iArg, T_sl, T_oNone, T_oSome, T_for, T_addT, T_addL, T_itT, T_itL, T_ixT, T_ixL, T_ixK, T_atM, if_true, Bool.false_eq_true, if_false, Bool.not_true, Bool.not_false, Bool.true_eq_false, ite_true, ite_false, reduceCtorEq, sl0, sl1, sl2, sl3, sl4, sl5, sl6, sl7, sl8, sl9, sl10, sl11, sl12, exists_eq_left', Option.some.injEq, true_and, and_true, T_dct, T_dCons, T_dNil, lenT, lenL, lenK, eq_len, ne_len, T_iItems]
    refine ⟨trivial, fun q hq => ?_⟩
    refine t_is_stand hp ((h2 r hr).2 q hq) ?_
    exact ⟨rfl, rfl⟩
  · have : ∀ l : List (List (Role × Int)), (l.flatMap fun r => (living.zip r).map fun _ => D.bl true) = (l.flatMap fun r => living.zip r).map fun _ => D.bl true := fun l => by
      rw [List.map_flatMap]
    rw [List.nil_append, this, all_one]
    exact hP
theorem in_ints {x : Int} {xs : List Int} : inD (.int x) (.lst (xs.map D.int)) w = some (decide (x ∈ xs)) := by
  show inSeqD (.int x) (.lst (xs.map D.int)) w = _
  unfold inSeqD
  have e1 : D.py w (.int x) = some (.int x) := rfl
  rw [e1, py_ints]
  have l1 : SeqAt.shaped (.int x) = true := by simp [SeqAt.shaped, PyData.canLay0, PyData.depth]
  simp only [l1, lay_ints, and_self, if_true]
  congr 1
  rw [List.any_map]
  induction xs with
  | nil => simp
  | cons y ys ih =>
    rw [List.any_cons, ih]
    simp only [Function.comp_apply, PyData.eqv, List.mem_cons]
    by_cases h : y = x
    · subst h; simp
    · have h' : x ≠ y := fun z => h z.symm
      simp [h, h']
theorem sl_backR {xs : List Int} : slM (rowD xs) none (some (-1)) w = .ok (rowD xs.dropLast) w := by
  rw [rowD, sl_back, rowD, List.map_dropLast]
theorem sl_tailR {xs : List Int} : slM (rowD xs) (some 1) none w = .ok (rowD xs.tail) w := by
  rw [rowD, sl_tail, rowD, List.map_tail]
theorem t_are_downs {ds : List Int} (hp : PlanAt k w p m b) (o : MoB m h) (h1 : ∀ x ∈ ds, (0 ≤ x ∧ x ≤ 9) ∧ x ∈ m.ties.map fun t => t.2.1) (h2 : ds.Pairwise (· < ·)) (hP : P (.bl true) w) : T (m_are_downs k [.ref p, rowD ds] w) P := by
  have hlen : ds.length ≤ 100000 := by
    have : ∀ (l : List Int) (c : Int), l.Pairwise (· < ·) → (∀ x ∈ l, c ≤ x ∧ x ≤ 9) → (l.length : Int) ≤ max 0 (10 - c) := by
      intro l
      induction l with
      | nil => intro c _ _; simp; omega
      | cons a l ih =>
        intro c hp hb
        rw [List.pairwise_cons] at hp
        have ha := hb a (List.mem_cons_self ..)
        have := ih (a + 1) hp.2 fun x hx => ⟨by have := hp.1 x hx; omega, (hb x (List.mem_cons_of_mem _ hx)).2⟩
        simp only [List.length_cons]
        omega
    have := this ds 0 h2 fun x hx => (h1 x hx).1
    omega
  have few := o.ties.few
  have py1 : rowD ds = .tup (ds.map D.int) := rfl
  unfold m_are_downs b_are_downs
  rw [T_run, be_are_downs, T_seq]
  simp only [rowD, isi_tt, T_run, Then_nx, Then_rt, T_ret, T_drop, T_sif, T_next, T_asg, T_nm, T_gsub, T_setF, T_gtup, T_gtupK, T_gnil, T_gcons, T_C, T_V, T_bin, T_un, T_and, T_or, T_if, T_aNil, T_aCons, T_tup, T_lst, T_new, T_arg, T_meth, T_call, T_callK, T_make, T_fld, T_ch, T_val, T_tru, T_notT, T_andT, T_orT, T_tTrue, T_add, T_sub, T_mul, T_mod, T_fdiv, T_neg, T_lt, T_le, T_gt, T_ge, T_isN, T_isB, T_isNotN, T_isNotB, T_not, T_truB, T_truI, T_truN, T_ok, List.getElem?_cons_zero, List.getElem?_cons_succ, List.set_cons_zero, List.set_cons_succ, List.length_cons, List.length_nil, gAll, true_and, and_true, T_comp, T_iSeq, T_iArg, T_sl, T_oNone, T_oSome, T_for, T_addT, T_addL, T_itT, T_itL, T_ixT, T_ixL, T_ixK, T_atM, if_true, Bool.false_eq_true, if_false, Bool.not_true, Bool.not_false, Bool.true_eq_false, ite_true, ite_false, reduceCtorEq, sl0, sl1, sl2, sl3, sl4, sl5, sl6, sl7, sl8, sl9, sl10, sl11, sl12, exists_eq_left', Option.some.injEq, true_and, and_true, T_dct, T_dCons, T_dNil, lenT, lenL, lenK, eq_len, ne_len, T_iItems]
  refine ⟨szz _ (by rw [List.length_map]; omega), ?_⟩
  refine T_compE (it := ⟨ds.map D.int, always⟩) ds D.int (fun _ => .bl true) rfl trivial (fun x hx => ?_) ?_
  · have := (h1 x hx).1
    have f1 : x ≤ FAR := by show x ≤ 1000000000000000000000000000000000000000000000000000000000000; omega
    simp only [wipeD, t_is_within, decide_eq_true this.1, decide_eq_true f1, Bool.and_self, T_run, Then_nx, Then_rt, T_ret, T_drop, T_sif, T_next, T_asg, T_nm, T_gsub, T_setF, T_gtup, T_gtupK, T_gnil, T_gcons, T_C, T_V, T_bin, T_un, T_and, T_or, T_if, T_aNil, T_aCons, T_tup, T_lst, T_new, T_arg, T_meth, T_call, T_callK, T_make, T_fld, T_ch, T_val, T_tru, T_notT, T_andT, T_orT, T_tTrue, T_add, T_sub, T_mul, T_mod, T_fdiv, T_neg, T_lt, T_le, T_gt, T_ge, T_isN, T_isB, T_isNotN, T_isNotB, T_not, T_truB, T_truI, T_truN, T_ok, List.getElem?_cons_zero, List.getElem?_cons_succ, List.set_cons_zero, List.set_cons_succ, List.length_cons, List.length_nil, gAll, true_and, and_true, T_comp, T_iSeq, T_iArg, T_sl, T_oNone, T_oSome, T_for, T_addT, T_addL, T_itT, T_itL, T_ixT, T_ixL, T_ixK, T_atM, if_true, Bool.false_eq_true, if_false, Bool.not_true, Bool.not_false, Bool.true_eq_false, ite_true, ite_false, reduceCtorEq, sl0, sl1, sl2, sl3, sl4, sl5, sl6, sl7, sl8, sl9, sl10, sl11, sl12, exists_eq_left', Option.some.injEq, true_and, and_true, T_dct, T_dCons, T_dNil, lenT, lenL, lenK, eq_len, ne_len, T_iItems]
  simp only [all_one, T_run, Then_nx, Then_rt, T_ret, T_drop, T_sif, T_next, T_asg, T_nm, T_gsub, T_setF, T_gtup, T_gtupK, T_gnil, T_gcons, T_C, T_V, T_bin, T_un, T_and, T_or, T_if, T_aNil, T_aCons, T_tup, T_lst, T_new, T_arg, T_meth, T_call, T_callK, T_make, T_fld, T_ch, T_val, T_tru, T_notT, T_andT, T_orT, T_tTrue, T_add, T_sub, T_mul, T_mod, T_fdiv, T_neg, T_lt, T_le, T_gt, T_ge, T_isN, T_isB, T_isNotN, T_isNotB, T_not, T_truB, T_truI, T_truN, T_ok, List.getElem?_cons_zero, List.getElem?_cons_succ, List.set_cons_zero, List.set_cons_succ, List.length_cons, List.length_nil, gAll, true_and, and_true, T_comp, T_iSeq, T_iArg, T_sl, T_oNone, T_oSome, T_for, T_addT, T_addL, T_itT, T_itL, T_ixT, T_ixL, T_ixK, T_atM, if_true, Bool.false_eq_true, if_false, Bool.not_true, Bool.not_false, Bool.true_eq_false, ite_true, ite_false, reduceCtorEq, sl0, sl1, sl2, sl3, sl4, sl5, sl6, sl7, sl8, sl9, sl10, sl11, sl12, exists_eq_left', Option.some.injEq, true_and, and_true, T_dct, T_dCons, T_dNil, lenT, lenL, lenK, eq_len, ne_len, T_iItems]
  rw [T_seq]
  simp only [f_ties hp, T_run, Then_nx, Then_rt, T_ret, T_drop, T_sif, T_next, T_asg, T_nm, T_gsub, T_setF, T_gtup, T_gtupK, T_gnil, T_gcons, T_C, T_V, T_bin, T_un, T_and, T_or, T_if, T_aNil, T_aCons, T_tup, T_lst, T_new, T_arg, T_meth, T_call, T_callK, T_make, T_fld, T_ch, T_val, T_tru, T_notT, T_andT, T_orT, T_tTrue, T_add, T_sub, T_mul, T_mod, T_fdiv, T_neg, T_lt, T_le, T_gt, T_ge, T_isN, T_isB, T_isNotN, T_isNotB, T_not, T_truB, T_truI, T_truN, T_ok, List.getElem?_cons_zero, List.getElem?_cons_succ, List.set_cons_zero, List.set_cons_succ, List.length_cons, List.length_nil, gAll, true_and, and_true, T_comp, T_iSeq, T_iArg, T_sl, T_oNone, T_oSome, T_for, T_addT, T_addL, T_itT, T_itL, T_ixT, T_ixL, T_ixK, T_atM, if_true, Bool.false_eq_true, if_false, Bool.not_true, Bool.not_false, Bool.true_eq_false, ite_true, ite_false, reduceCtorEq, sl0, sl1, sl2, sl3, sl4, sl5, sl6, sl7, sl8, sl9, sl10, sl11, sl12, exists_eq_left', Option.some.injEq, true_and, and_true, T_dct, T_dCons, T_dNil, lenT, lenL, lenK, eq_len, ne_len, T_iItems]
  refine ⟨szz _ (by rw [List.length_map]; omega), ?_⟩
  refine T_compE (it := ⟨m.ties.map tieD, always⟩) m.ties tieD (fun t => .int t.2.1) rfl trivial (fun t _ => ?_) ?_
  · simp only [wipeD, tieD, T_run, Then_nx, Then_rt, T_ret, T_drop, T_sif, T_next, T_asg, T_nm, T_gsub, T_setF, T_gtup, T_gtupK, T_gnil, T_gcons, T_C, T_V, T_bin, T_un, T_and, T_or, T_if, T_aNil, T_aCons, T_tup, T_lst, T_new, T_arg, T_meth, T_call, T_callK, T_make, T_fld, T_ch, T_val, T_tru, T_notT, T_andT, T_orT, T_tTrue, T_add, T_sub, T_mul, T_mod, T_fdiv, T_neg, T_lt, T_le, T_gt, T_ge, T_isN, T_isB, T_isNotN, T_isNotB, T_not, T_truB, T_truI, T_truN, T_ok, List.getElem?_cons_zero, List.getElem?_cons_succ, List.set_cons_zero, List.set_cons_succ, List.length_cons, List.length_nil, gAll, true_and, and_true, T_comp, T_iSeq, T_iArg, T_sl, T_oNone, T_oSome, T_for, T_addT, T_addL, T_itT, T_itL, T_ixT, T_ixL, T_ixK, T_atM, if_true, Bool.false_eq_true, if_false, Bool.not_true, Bool.not_false, Bool.true_eq_false, ite_true, ite_false, reduceCtorEq, sl0, sl1, sl2, sl3, sl4, sl5, sl6, sl7, sl8, sl9, sl10, sl11, sl12, exists_eq_left', Option.some.injEq, true_and, and_true, T_dct, T_dCons, T_dNil, lenT, lenL, lenK, eq_len, ne_len, T_iItems]
  rw [T_seq]
  have s1 : slM (.tup (ds.map D.int)) none (some (-1)) w = .ok (.tup (ds.dropLast.map D.int)) w := sl_backR
  have s2 : slM (.tup (ds.map D.int)) (some 1) none w = .ok (.tup (ds.tail.map D.int)) w := sl_tailR
  have el : (ds.dropLast.map D.int).length = (ds.tail.map D.int).length := by simp
  have ez : ((ds.dropLast.map D.int).zip (ds.tail.map D.int)).map (fun q => D.tup [q.1, q.2]) = (ds.dropLast.zip ds.tail).map fun q => D.tup [.int q.1, .int q.2] := by
    rw [List.zip_map, List.map_map]
    rfl
  simp only [T_neg, s1, s2, T_zs, el, ez, T_run, Then_nx, Then_rt, T_ret, T_drop, T_sif, T_next, T_asg, T_nm, T_gsub, T_setF, T_gtup, T_gtupK, T_gnil, T_gcons, T_C, T_V, T_bin, T_un, T_and, T_or, T_if, T_aNil, T_aCons, T_tup, T_lst, T_new, T_arg, T_meth, T_call, T_callK, T_make, T_fld, T_ch, T_val, T_tru, T_notT, T_andT, T_orT, T_tTrue, T_add, T_sub, T_mul, T_mod, T_fdiv, T_neg, T_lt, T_le, T_gt, T_ge, T_isN, T_isB, T_isNotN, T_isNotB, T_not, T_truB, T_truI, T_truN, T_ok, List.getElem?_cons_zero, List.getElem?_cons_succ, List.set_cons_zero, List.set_cons_succ, List.length_cons, List.length_nil, gAll, true_and, and_true, T_comp, T_iSeq, T_iArg, T_sl, T_oNone, T_oSome, T_for, T_addT, T_addL, T_itT, T_itL, T_ixT, T_ixL, T_ixK, T_atM, if_true, Bool.false_eq_true, if_false, Bool.not_true, Bool.not_false, Bool.true_eq_false, ite_true, ite_false, reduceCtorEq, sl0, sl1, sl2, sl3, sl4, sl5, sl6, sl7, sl8, sl9, sl10, sl11, sl12, exists_eq_left', Option.some.injEq, true_and, and_true, T_dct, T_dCons, T_dNil, lenT, lenL, lenK, eq_len, ne_len, T_iItems]
  refine ⟨szz _ (by simp; omega), ?_⟩
  refine T_compE (it := ⟨(ds.dropLast.zip ds.tail).map fun q => D.tup [.int q.1, .int q.2], always⟩) (ds.dropLast.zip ds.tail) (fun q => D.tup [.int q.1, .int q.2]) (fun _ => .bl true) rfl trivial (fun q hq => ?_) ?_
  · have := zip_pw h2 q hq
    simp only [wipeD, decide_eq_true this, T_run, Then_nx, Then_rt, T_ret, T_drop, T_sif, T_next, T_asg, T_nm, T_gsub, T_setF, T_gtup, T_gtupK, T_gnil, T_gcons, T_C, T_V, T_bin, T_un, T_and, T_or, T_if, T_aNil, T_aCons, T_tup, T_lst, T_new, T_arg, T_meth, T_call, T_callK, T_make, T_fld, T_ch, T_val, T_tru, T_notT, T_andT, T_orT, T_tTrue, T_add, T_sub, T_mul, T_mod, T_fdiv, T_neg, T_lt, T_le, T_gt, T_ge, T_isN, T_isB, T_isNotN, T_isNotB, T_not, T_truB, T_truI, T_truN, T_ok, List.getElem?_cons_zero, List.getElem?_cons_succ, List.set_cons_zero, List.set_cons_succ, List.length_cons, List.length_nil, gAll, true_and, and_true, T_comp, T_iSeq, T_iArg, T_sl, T_oNone, T_oSome, T_for, T_addT, T_addL, T_itT, T_itL, T_ixT, T_ixL, T_ixK, T_atM, if_true, Bool.false_eq_true, if_false, Bool.not_true, Bool.not_false, Bool.true_eq_false, ite_true, ite_false, reduceCtorEq, sl0, sl1, sl2, sl3, sl4, sl5, sl6, sl7, sl8, sl9, sl10, sl11, sl12, exists_eq_left', Option.some.injEq, true_and, and_true, T_dct, T_dCons, T_dNil, lenT, lenL, lenK, eq_len, ne_len, T_iItems]
  simp only [all_one, T_run, Then_nx, Then_rt, T_ret, T_drop, T_sif, T_next, T_asg, T_nm, T_gsub, T_setF, T_gtup, T_gtupK, T_gnil, T_gcons, T_C, T_V, T_bin, T_un, T_and, T_or, T_if, T_aNil, T_aCons, T_tup, T_lst, T_new, T_arg, T_meth, T_call, T_callK, T_make, T_fld, T_ch, T_val, T_tru, T_notT, T_andT, T_orT, T_tTrue, T_add, T_sub, T_mul, T_mod, T_fdiv, T_neg, T_lt, T_le, T_gt, T_ge, T_isN, T_isB, T_isNotN, T_isNotB, T_not, T_truB, T_truI, T_truN, T_ok, List.getElem?_cons_zero, List.getElem?_cons_succ, List.set_cons_zero, List.set_cons_succ, List.length_cons, List.length_nil, gAll, true_and, and_true, T_comp, T_iSeq, T_iArg, T_sl, T_oNone, T_oSome, T_for, T_addT, T_addL, T_itT, T_itL, T_ixT, T_ixL, T_ixK, T_atM, if_true, Bool.false_eq_true, if_false, Bool.not_true, Bool.not_false, Bool.true_eq_false, ite_true, ite_false, reduceCtorEq, sl0, sl1, sl2, sl3, sl4, sl5, sl6, sl7, sl8, sl9, sl10, sl11, sl12, exists_eq_left', Option.some.injEq, true_and, and_true, T_dct, T_dCons, T_dNil, lenT, lenL, lenK, eq_len, ne_len, T_iItems]
  refine ⟨szz _ (by rw [List.length_map]; omega), ?_⟩
  have em : m.ties.map (fun t => D.int t.2.1) = (m.ties.map fun t => t.2.1).map D.int := by rw [List.map_map]; rfl
  rw [em]
  refine T_compE (it := ⟨ds.map D.int, always⟩) ds D.int (fun _ => .bl true) rfl trivial (fun x hx => ?_) ?_
  · simp only [wipeD, T_in, in_ints, decide_eq_true (h1 x hx).2, T_run, Then_nx, Then_rt, T_ret, T_drop, T_sif, T_next, T_asg, T_nm, T_gsub, T_setF, T_gtup, T_gtupK, T_gnil, T_gcons, T_C, T_V, T_bin, T_un, T_and, T_or, T_if, T_aNil, T_aCons, T_tup, T_lst, T_new, T_arg, T_meth, T_call, T_callK, T_make, T_fld, T_ch, T_val, T_tru, T_notT, T_andT, T_orT, T_tTrue, T_add, T_sub, T_mul, T_mod, T_fdiv, T_neg, T_lt, T_le, T_gt, T_ge, T_isN, T_isB, T_isNotN, T_isNotB, T_not, T_truB, T_truI, T_truN, T_ok, List.getElem?_cons_zero, List.getElem?_cons_succ, List.set_cons_zero, List.set_cons_succ, List.length_cons, List.length_nil, gAll, true_and, and_true, T_comp, T_iSeq, T_iArg, T_sl, T_oNone, T_oSome, T_for, T_addT, T_addL, T_itT, T_itL, T_ixT, T_ixL, T_ixK, T_atM, if_true, Bool.false_eq_true, if_false, Bool.not_true, Bool.not_false, Bool.true_eq_false, ite_true, ite_false, reduceCtorEq, sl0, sl1, sl2, sl3, sl4, sl5, sl6, sl7, sl8, sl9, sl10, sl11, sl12, exists_eq_left', Option.some.injEq, true_and, and_true, T_dct, T_dCons, T_dNil, lenT, lenL, lenK, eq_len, ne_len, T_iItems]
  rw [all_one]
  exact hP
theorem t_is_letter {l : Lett} (hp : PlanAt k w p m b) (o : MoB m h) (ok : LettOk m h l) (hP : P (.bl true) w) : T (m_is_letter k [.ref p, lettD l] w) P := by
  unfold m_is_letter b_is_letter
  rw [T_run, be_is_letter, T_seq]
  have e1 : ((m.ranks.map rowD).length : Int) = m.ranks.length := by simp
  simp only [lettD, isi_tt, at0, f_slow hp, t_is_within, decide_eq_true ok.left.1, decide_eq_true ok.left.2, Bool.and_self, T_run, Then_nx, Then_rt, T_ret, T_drop, T_sif, T_next, T_asg, T_nm, T_gsub, T_setF, T_gtup, T_gtupK, T_gnil, T_gcons, T_C, T_V, T_bin, T_un, T_and, T_or, T_if, T_aNil, T_aCons, T_tup, T_lst, T_new, T_arg, T_meth, T_call, T_callK, T_make, T_fld, T_ch, T_val, T_tru, T_notT, T_andT, T_orT, T_tTrue, T_add, T_sub, T_mul, T_mod, T_fdiv, T_neg, T_lt, T_le, T_gt, T_ge, T_isN, T_isB, T_isNotN, T_isNotB, T_not, T_truB, T_truI, T_truN, T_ok, List.getElem?_cons_zero, List.getElem?_cons_succ, List.set_cons_zero, List.set_cons_succ, List.length_cons, List.length_nil, gAll, true_and, and_true, T_comp, T_iSeq, T_iArg, T_sl, T_oNone, T_oSome, T_for, T_addT, T_addL, T_itT, T_itL, T_ixT, T_ixL, T_ixK, T_atM, if_true, Bool.false_eq_true, if_false, Bool.not_true, Bool.not_false, Bool.true_eq_false, ite_true, ite_false, reduceCtorEq, sl0, sl1, sl2, sl3, sl4, sl5, sl6, sl7, sl8, sl9, sl10, sl11, sl12, exists_eq_left', Option.some.injEq, true_and, and_true, T_dct, T_dCons, T_dNil, lenT, lenL, lenK, eq_len, ne_len, T_iItems]
  rw [if_neg (by decide)]
  rw [T_seq]
  simp only [T_run, Then_nx, Then_rt, T_ret, T_drop, T_sif, T_next, T_asg, T_nm, T_gsub, T_setF, T_gtup, T_gtupK, T_gnil, T_gcons, T_C, T_V, T_bin, T_un, T_and, T_or, T_if, T_aNil, T_aCons, T_tup, T_lst, T_new, T_arg, T_meth, T_call, T_callK, T_make, T_fld, T_ch, T_val, T_tru, T_notT, T_andT, T_orT, T_tTrue, T_add, T_sub, T_mul, T_mod, T_fdiv, T_neg, T_lt, T_le, T_gt, T_ge, T_isN, T_isB, T_isNotN, T_isNotB, T_not, T_truB, T_truI, T_truN, T_ok, List.getElem?_cons_zero, List.getElem?_cons_succ, List.set_cons_zero, List.set_cons_succ, List.length_cons, List.length_nil, gAll, true_and, and_true, T_comp, T_iSeq, T_iArg, T_sl, T_oNone, T_oSome, T_for, T_addT, T_addL, T_itT, T_itL, T_ixT, T_ixL, T_ixK, T_atM, if_true, Bool.false_eq_true, if_false, Bool.not_true, Bool.not_false, Bool.true_eq_false, ite_true, ite_false, reduceCtorEq, sl0, sl1, sl2, sl3, sl4, sl5, sl6, sl7, sl8, sl9, sl10, sl11, sl12, exists_eq_left', Option.some.injEq, true_and, and_true, T_dct, T_dCons, T_dNil, lenT, lenL, lenK, eq_len, ne_len, T_iItems]
  rw [T_seq]
  simp only [f_ranks hp, t_len_plan hp o, e1, t_is_within, decide_eq_true ok.a.1, decide_eq_true ok.a.2, decide_eq_true ok.s.1, decide_eq_true ok.s.2, Bool.and_self, T_run, Then_nx, Then_rt, T_ret, T_drop, T_sif, T_next, T_asg, T_nm, T_gsub, T_setF, T_gtup, T_gtupK, T_gnil, T_gcons, T_C, T_V, T_bin, T_un, T_and, T_or, T_if, T_aNil, T_aCons, T_tup, T_lst, T_new, T_arg, T_meth, T_call, T_callK, T_make, T_fld, T_ch, T_val, T_tru, T_notT, T_andT, T_orT, T_tTrue, T_add, T_sub, T_mul, T_mod, T_fdiv, T_neg, T_lt, T_le, T_gt, T_ge, T_isN, T_isB, T_isNotN, T_isNotB, T_not, T_truB, T_truI, T_truN, T_ok, List.getElem?_cons_zero, List.getElem?_cons_succ, List.set_cons_zero, List.set_cons_succ, List.length_cons, List.length_nil, gAll, true_and, and_true, T_comp, T_iSeq, T_iArg, T_sl, T_oNone, T_oSome, T_for, T_addT, T_addL, T_itT, T_itL, T_ixT, T_ixL, T_ixK, T_atM, if_true, Bool.false_eq_true, if_false, Bool.not_true, Bool.not_false, Bool.true_eq_false, ite_true, ite_false, reduceCtorEq, sl0, sl1, sl2, sl3, sl4, sl5, sl6, sl7, sl8, sl9, sl10, sl11, sl12, exists_eq_left', Option.some.injEq, true_and, and_true, T_dct, T_dCons, T_dNil, lenT, lenL, lenK, eq_len, ne_len, T_iItems]
  have ne : (l.r == l.s) = false := by simpa using ok.ne
  simp only [f_hosts hp, t_len_plan hp o, t_is_within, decide_eq_true ok.r.1, decide_eq_true ok.r.2, ne, decide_eq_true ok.rank.1, decide_eq_true ok.rank.2, Bool.and_self, T_run, Then_nx, Then_rt, T_ret, T_drop, T_sif, T_next, T_asg, T_nm, T_gsub, T_setF, T_gtup, T_gtupK, T_gnil, T_gcons, T_C, T_V, T_bin, T_un, T_and, T_or, T_if, T_aNil, T_aCons, T_tup, T_lst, T_new, T_arg, T_meth, T_call, T_callK, T_make, T_fld, T_ch, T_val, T_tru, T_notT, T_andT, T_orT, T_tTrue, T_add, T_sub, T_mul, T_mod, T_fdiv, T_neg, T_lt, T_le, T_gt, T_ge, T_isN, T_isB, T_isNotN, T_isNotB, T_not, T_truB, T_truI, T_truN, T_ok, List.getElem?_cons_zero, List.getElem?_cons_succ, List.set_cons_zero, List.set_cons_succ, List.length_cons, List.length_nil, gAll, true_and, and_true, T_comp, T_iSeq, T_iArg, T_sl, T_oNone, T_oSome, T_for, T_addT, T_addL, T_itT, T_itL, T_ixT, T_ixL, T_ixK, T_atM, if_true, Bool.false_eq_true, if_false, Bool.not_true, Bool.not_false, Bool.true_eq_false, ite_true, ite_false, reduceCtorEq, sl0, sl1, sl2, sl3, sl4, sl5, sl6, sl7, sl8, sl9, sl10, sl11, sl12, exists_eq_left', Option.some.injEq, true_and, and_true, T_dct, T_dCons, T_dNil, lenT, lenL, lenK, eq_len, ne_len, T_iItems]
  exact hP
theorem t_are_asks {as : List (Int × Int)} (hp : PlanAt k w p m b) (h1 : (as.length : Int) = m.hosts) (h4 : as.length ≤ 1000) (h2 : ∀ q ∈ as, 0 ≤ q.2 ∧ q.2 ≤ q.1 ∧ q.1 ≤ FAR) (hP : P (.bl true) w) : T (m_are_asks k [.ref p, .tup (as.map Pc.pairD)] w) P := by
  have e1 : (((as.map Pc.pairD).length : Int) == m.hosts) = true := by simp [h1]
  unfold m_are_asks b_are_asks
  rw [T_run, be_are_asks, T_seq]
  simp only [f_hosts hp, t_is_table, e1, T_run, Then_nx, Then_rt, T_ret, T_drop, T_sif, T_next, T_asg, T_nm, T_gsub, T_setF, T_gtup, T_gtupK, T_gnil, T_gcons, T_C, T_V, T_bin, T_un, T_and, T_or, T_if, T_aNil, T_aCons, T_tup, T_lst, T_new, T_arg, T_meth, T_call, T_callK, T_make, T_fld, T_ch, T_val, T_tru, T_notT, T_andT, T_orT, T_tTrue, T_add, T_sub, T_mul, T_mod, T_fdiv, T_neg, T_lt, T_le, T_gt, T_ge, T_isN, T_isB, T_isNotN, T_isNotB, T_not, T_truB, T_truI, T_truN, T_ok, List.getElem?_cons_zero, List.getElem?_cons_succ, List.set_cons_zero, List.set_cons_succ, List.length_cons, List.length_nil, gAll, true_and, and_true, T_comp, T_iSeq, T_iArg, T_sl, T_oNone, T_oSome, T_for, T_addT, T_addL, T_itT, T_itL, T_ixT, T_ixL, T_ixK, T_atM, if_true, Bool.false_eq_true, if_false, Bool.not_true, Bool.not_false, Bool.true_eq_false, ite_true, ite_false, reduceCtorEq, sl0, sl1, sl2, sl3, sl4, sl5, sl6, sl7, sl8, sl9, sl10, sl11, sl12, exists_eq_left', Option.some.injEq, true_and, and_true, T_dct, T_dCons, T_dNil, lenT, lenL, lenK, eq_len, ne_len, T_iItems]
  refine ⟨szz _ (by rw [List.length_map]; omega), ?_⟩
  refine T_compE (it := ⟨as.map Pc.pairD, always⟩) as Pc.pairD (fun _ => .bl true) rfl trivial (fun q hq => ?_) ?_
  · obtain ⟨a1, a2, a3⟩ := h2 q hq
    simp only [wipeD, T_run, Then_nx, Then_rt, T_ret, T_drop, T_sif, T_next, T_asg, T_nm, T_gsub, T_setF, T_gtup, T_gtupK, T_gnil, T_gcons, T_C, T_V, T_bin, T_un, T_and, T_or, T_if, T_aNil, T_aCons, T_tup, T_lst, T_new, T_arg, T_meth, T_call, T_callK, T_make, T_fld, T_ch, T_val, T_tru, T_notT, T_andT, T_orT, T_tTrue, T_add, T_sub, T_mul, T_mod, T_fdiv, T_neg, T_lt, T_le, T_gt, T_ge, T_isN, T_isB, T_isNotN, T_isNotB, T_not, T_truB, T_truI, T_truN, T_ok, List.getElem?_cons_zero, List.getElem?_cons_succ, List.set_cons_zero, List.set_cons_succ, List.length_cons, List.length_nil, gAll, true_and, and_true, T_comp, T_iSeq, T_iArg, T_sl, T_oNone, T_oSome, T_for, T_addT, T_addL, T_itT, T_itL, T_ixT, T_ixL, T_ixK, T_atM, if_true, Bool.false_eq_true, if_false, Bool.not_true, Bool.not_false, Bool.true_eq_false, ite_true, ite_false, reduceCtorEq, sl0, sl1, sl2, sl3, sl4, sl5, sl6, sl7, sl8, sl9, sl10, sl11, sl12, exists_eq_left', Option.some.injEq, true_and, and_true, T_dct, T_dCons, T_dNil, lenT, lenL, lenK, eq_len, ne_len, T_iItems]
    refine t_are_within (xs := [q.1, q.2]) rfl (by simp) (fun x hx => ?_) ⟨rfl, rfl⟩
    simp only [List.mem_cons, List.not_mem_nil, or_false] at hx
    rcases hx with rfl | rfl
    · exact ⟨by omega, a3⟩
    · exact ⟨a1, by show q.2 ≤ FAR; omega⟩
  simp only [all_one, T_run, Then_nx, Then_rt, T_ret, T_drop, T_sif, T_next, T_asg, T_nm, T_gsub, T_setF, T_gtup, T_gtupK, T_gnil, T_gcons, T_C, T_V, T_bin, T_un, T_and, T_or, T_if, T_aNil, T_aCons, T_tup, T_lst, T_new, T_arg, T_meth, T_call, T_callK, T_make, T_fld, T_ch, T_val, T_tru, T_notT, T_andT, T_orT, T_tTrue, T_add, T_sub, T_mul, T_mod, T_fdiv, T_neg, T_lt, T_le, T_gt, T_ge, T_isN, T_isB, T_isNotN, T_isNotB, T_not, T_truB, T_truI, T_truN, T_ok, List.getElem?_cons_zero, List.getElem?_cons_succ, List.set_cons_zero, List.set_cons_succ, List.length_cons, List.length_nil, gAll, true_and, and_true, T_comp, T_iSeq, T_iArg, T_sl, T_oNone, T_oSome, T_for, T_addT, T_addL, T_itT, T_itL, T_ixT, T_ixL, T_ixK, T_atM, if_true, Bool.false_eq_true, if_false, Bool.not_true, Bool.not_false, Bool.true_eq_false, ite_true, ite_false, reduceCtorEq, sl0, sl1, sl2, sl3, sl4, sl5, sl6, sl7, sl8, sl9, sl10, sl11, sl12, exists_eq_left', Option.some.injEq, true_and, and_true, T_dct, T_dCons, T_dNil, lenT, lenL, lenK, eq_len, ne_len, T_iItems]
  refine ⟨szz _ (by rw [List.length_map]; omega), ?_⟩
  refine T_compE (it := ⟨as.map Pc.pairD, always⟩) as Pc.pairD (fun _ => .bl true) rfl trivial (fun q hq => ?_) ?_
  · obtain ⟨a1, a2, a3⟩ := h2 q hq
    simp only [wipeD, Pc.pairD, decide_eq_true a2, T_run, Then_nx, Then_rt, T_ret, T_drop, T_sif, T_next, T_asg, T_nm, T_gsub, T_setF, T_gtup, T_gtupK, T_gnil, T_gcons, T_C, T_V, T_bin, T_un, T_and, T_or, T_if, T_aNil, T_aCons, T_tup, T_lst, T_new, T_arg, T_meth, T_call, T_callK, T_make, T_fld, T_ch, T_val, T_tru, T_notT, T_andT, T_orT, T_tTrue, T_add, T_sub, T_mul, T_mod, T_fdiv, T_neg, T_lt, T_le, T_gt, T_ge, T_isN, T_isB, T_isNotN, T_isNotB, T_not, T_truB, T_truI, T_truN, T_ok, List.getElem?_cons_zero, List.getElem?_cons_succ, List.set_cons_zero, List.set_cons_succ, List.length_cons, List.length_nil, gAll, true_and, and_true, T_comp, T_iSeq, T_iArg, T_sl, T_oNone, T_oSome, T_for, T_addT, T_addL, T_itT, T_itL, T_ixT, T_ixL, T_ixK, T_atM, if_true, Bool.false_eq_true, if_false, Bool.not_true, Bool.not_false, Bool.true_eq_false, ite_true, ite_false, reduceCtorEq, sl0, sl1, sl2, sl3, sl4, sl5, sl6, sl7, sl8, sl9, sl10, sl11, sl12, exists_eq_left', Option.some.injEq, true_and, and_true, T_dct, T_dCons, T_dNil, lenT, lenL, lenK, eq_len, ne_len, T_iItems]
  rw [all_one]
  exact hP
end
end Lb

set_option Elab.async false
set_option linter.all false
set_option maxRecDepth 100000
set_option maxHeartbeats 4000000
set_option autoImplicit false
/-! L26: is_state; the first state. -/
namespace Lb
open PySem PySem.Spec PyProof.Rows L2 Pc
section
variable {w : W} {P : D → W → Prop} {k : Ads} {p h : Nat} {m : Mo} {b : Int}
theorem enum_at {xs : List D} {j : Nat} {x : D} (e : ((List.range xs.length).zipWith (fun i x => D.tup [.int (i : Nat), x]) xs)[j]? = some x) : ∃ d, xs[j]? = some d ∧ x = .tup [.int (j : Nat), d] := by
  simp only [List.getElem?_zipWith] at e
  cases hz : xs[j]? with
  | none =>
    rw [hz] at e
    cases hq : (List.range xs.length)[j]? <;> rw [hq] at e <;> cases e
  | some d =>
    have hlt := (List.getElem?_eq_some_iff.mp hz).1
    rw [hz, List.getElem?_range hlt] at e
    cases e
    exact ⟨d, rfl, rfl⟩
theorem T_enumM {xs : List D} {PI : ItD → W → Prop} : T (enumM [.tup xs] w) PI = PI ⟨(List.range xs.length).zipWith (fun i x => D.tup [.int (i : Nat), x]) xs, always⟩ w := by
  simp only [enumM, tupD, T_ok]
theorem map_at {α : Type} {f : α → D} {xs : List α} {j : Nat} {d : D} (e : (xs.map f)[j]? = some d) : ∃ x, xs[j]? = some x ∧ d = f x := by
  rw [List.getElem?_map] at e
  cases hz : xs[j]? with
  | none => rw [hz] at e; cases e
  | some x => rw [hz] at e; cases e; exact ⟨x, rfl, rfl⟩
theorem atI_of {xs : List D} {j : Nat} {d : D} (e : xs[j]? = some d) : atI xs (j : Int) = some d := by
  have hl := (List.getElem?_eq_some_iff.mp e).1
  unfold atI ixN
  rw [if_pos (by omega), if_pos (by omega)]
  exact e
theorem t_are_lacks {ls : List (List (List Int))} (hp : PlanAt k w p m b) (o : MoB m h) (h1 : ls.length = m.ranks.length)
    (h2 : ∀ l ∈ ls, l.length = h ∧ ∀ (j : Nat) (r : List Int), l[j]? = some r → (r.length : Int) = h + m.hosts ∧ (∀ x ∈ r, 0 ≤ x ∧ x ≤ m.lost) ∧ r[j]? = some 0) (hP : P (.bl true) w) : T (m_are_lacks k [.ref p, .tup (ls.map lackD)] w) P := by
  have n4 := o.n4
  have h6 := o.ranks.h6
  have ho := o.hosts
  have e1 : (((ls.map lackD).length : Int) == ((m.ranks.map rowD).length : Int)) = true := by simp [h1]
  unfold m_are_lacks b_are_lacks
  rw [T_run, be_are_lacks, T_seq]
  simp only [f_ranks hp, t_is_table, e1, T_run, Then_nx, Then_rt, T_ret, T_drop, T_sif, T_next, T_asg, T_nm, T_gsub, T_setF, T_gtup, T_gtupK, T_gnil, T_gcons, T_C, T_V, T_bin, T_un, T_and, T_or, T_if, T_aNil, T_aCons, T_tup, T_lst, T_new, T_arg, T_meth, T_call, T_callK, T_make, T_fld, T_ch, T_val, T_tru, T_notT, T_andT, T_orT, T_tTrue, T_add, T_sub, T_mul, T_mod, T_fdiv, T_neg, T_lt, T_le, T_gt, T_ge, T_isN, T_isB, T_isNotN, T_isNotB, T_not, T_truB, T_truI, T_truN, T_ok, List.getElem?_cons_zero, List.getElem?_cons_succ, List.set_cons_zero, List.set_cons_succ, List.length_cons, List.length_nil, gAll, true_and, and_true, T_comp, T_iSeq, T_iArg, T_sl, T_oNone, T_oSome, T_for, T_addT, T_addL, T_itT, T_itL, T_ixT, T_ixL, T_ixK, T_atM, if_true, Bool.false_eq_true, if_false, Bool.not_true, Bool.not_false, Bool.true_eq_false, ite_true, ite_false, reduceCtorEq, sl0, sl1, sl2, sl3, sl4, sl5, sl6, sl7, sl8, sl9, sl10, sl11, sl12, exists_eq_left', Option.some.injEq, true_and, and_true, T_dct, T_dCons, T_dNil, lenT, lenL, lenK, eq_len, ne_len, T_iItems]
  refine ⟨szz _ (by rw [List.length_map]; omega), ?_⟩
  refine T_compE (it := ⟨ls.map lackD, always⟩) ls lackD (fun _ => .bl true) rfl trivial (fun l hl => ?_) ?_
  · have e2 : (((l.map rowD).length : Int) == (h : Int)) = true := by simp [(h2 l hl).1]
    simp only [wipeD, lackD, t_len_plan hp o, t_is_table, e2, T_run, Then_nx, Then_rt, T_ret, T_drop, T_sif, T_next, T_asg, T_nm, T_gsub, T_setF, T_gtup, T_gtupK, T_gnil, T_gcons, T_C, T_V, T_bin, T_un, T_and, T_or, T_if, T_aNil, T_aCons, T_tup, T_lst, T_new, T_arg, T_meth, T_call, T_callK, T_make, T_fld, T_ch, T_val, T_tru, T_notT, T_andT, T_orT, T_tTrue, T_add, T_sub, T_mul, T_mod, T_fdiv, T_neg, T_lt, T_le, T_gt, T_ge, T_isN, T_isB, T_isNotN, T_isNotB, T_not, T_truB, T_truI, T_truN, T_ok, List.getElem?_cons_zero, List.getElem?_cons_succ, List.set_cons_zero, List.set_cons_succ, List.length_cons, List.length_nil, gAll, true_and, and_true, T_comp, T_iSeq, T_iArg, T_sl, T_oNone, T_oSome, T_for, T_addT, T_addL, T_itT, T_itL, T_ixT, T_ixL, T_ixK, T_atM, if_true, Bool.false_eq_true, if_false, Bool.not_true, Bool.not_false, Bool.true_eq_false, ite_true, ite_false, reduceCtorEq, sl0, sl1, sl2, sl3, sl4, sl5, sl6, sl7, sl8, sl9, sl10, sl11, sl12, exists_eq_left', Option.some.injEq, true_and, and_true, T_dct, T_dCons, T_dNil, lenT, lenL, lenK, eq_len, ne_len, T_iItems]
  simp only [all_one, T_run, Then_nx, Then_rt, T_ret, T_drop, T_sif, T_next, T_asg, T_nm, T_gsub, T_setF, T_gtup, T_gtupK, T_gnil, T_gcons, T_C, T_V, T_bin, T_un, T_and, T_or, T_if, T_aNil, T_aCons, T_tup, T_lst, T_new, T_arg, T_meth, T_call, T_callK, T_make, T_fld, T_ch, T_val, T_tru, T_notT, T_andT, T_orT, T_tTrue, T_add, T_sub, T_mul, T_mod, T_fdiv, T_neg, T_lt, T_le, T_gt, T_ge, T_isN, T_isB, T_isNotN, T_isNotB, T_not, T_truB, T_truI, T_truN, T_ok, List.getElem?_cons_zero, List.getElem?_cons_succ, List.set_cons_zero, List.set_cons_succ, List.length_cons, List.length_nil, gAll, true_and, and_true, T_comp, T_iSeq, T_iArg, T_sl, T_oNone, T_oSome, T_for, T_addT, T_addL, T_itT, T_itL, T_ixT, T_ixL, T_ixK, T_atM, if_true, Bool.false_eq_true, if_false, Bool.not_true, Bool.not_false, Bool.true_eq_false, ite_true, ite_false, reduceCtorEq, sl0, sl1, sl2, sl3, sl4, sl5, sl6, sl7, sl8, sl9, sl10, sl11, sl12, exists_eq_left', Option.some.injEq, true_and, and_true, T_dct, T_dCons, T_dNil, lenT, lenL, lenK, eq_len, ne_len, T_iItems]
  rw [T_seq]
  simp only [T_run, Then_nx, Then_rt, T_ret, T_drop, T_sif, T_next, T_asg, T_nm, T_gsub, T_setF, T_gtup, T_gtupK, T_gnil, T_gcons, T_C, T_V, T_bin, T_un, T_and, T_or, T_if, T_aNil, T_aCons, T_tup, T_lst, T_new, T_arg, T_meth, T_call, T_callK, T_make, T_fld, T_ch, T_val, T_tru, T_notT, T_andT, T_orT, T_tTrue, T_add, T_sub, T_mul, T_mod, T_fdiv, T_neg, T_lt, T_le, T_gt, T_ge, T_isN, T_isB, T_isNotN, T_isNotB, T_not, T_truB, T_truI, T_truN, T_ok, List.getElem?_cons_zero, List.getElem?_cons_succ, List.set_cons_zero, List.set_cons_succ, List.length_cons, List.length_nil, gAll, true_and, and_true, T_comp, T_iSeq, T_iArg, T_sl, T_oNone, T_oSome, T_for, T_addT, T_addL, T_itT, T_itL, T_ixT, T_ixL, T_ixK, T_atM, if_true, Bool.false_eq_true, if_false, Bool.not_true, Bool.not_false, Bool.true_eq_false, ite_true, ite_false, reduceCtorEq, sl0, sl1, sl2, sl3, sl4, sl5, sl6, sl7, sl8, sl9, sl10, sl11, sl12, exists_eq_left', Option.some.injEq, true_and, and_true, T_dct, T_dCons, T_dNil, lenT, lenL, lenK, eq_len, ne_len, T_iItems]
  refine T_forI (it := ⟨ls.map lackD, always⟩) (fun j σ w' => w' = w ∧ ∃ s2 s3 s4, σ = [some (.ref p), some (.tup (ls.map lackD)), s2, s3, s4]) (fun _ _ _ _ => trivial) ⟨rfl, none, none, none, rfl⟩ (fun j x σ w1 hx hI => ?_) fun σ w1 hI => ?_
  · obtain ⟨rfl, s2, s3, s4, rfl⟩ := hI
    obtain ⟨l, hl, rfl⟩ := map_at hx
    have hm := h2 l (List.mem_of_getElem? hl)
    rw [T_nm]
    simp only [lackD, T_enumM, T_run, Then_nx, Then_rt, T_ret, T_drop, T_sif, T_next, T_asg, T_nm, T_gsub, T_setF, T_gtup, T_gtupK, T_gnil, T_gcons, T_C, T_V, T_bin, T_un, T_and, T_or, T_if, T_aNil, T_aCons, T_tup, T_lst, T_new, T_arg, T_meth, T_call, T_callK, T_make, T_fld, T_ch, T_val, T_tru, T_notT, T_andT, T_orT, T_tTrue, T_add, T_sub, T_mul, T_mod, T_fdiv, T_neg, T_lt, T_le, T_gt, T_ge, T_isN, T_isB, T_isNotN, T_isNotB, T_not, T_truB, T_truI, T_truN, T_ok, List.getElem?_cons_zero, List.getElem?_cons_succ, List.set_cons_zero, List.set_cons_succ, List.length_cons, List.length_nil, gAll, true_and, and_true, T_comp, T_iSeq, T_iArg, T_sl, T_oNone, T_oSome, T_for, T_addT, T_addL, T_itT, T_itL, T_ixT, T_ixL, T_ixK, T_atM, if_true, Bool.false_eq_true, if_false, Bool.not_true, Bool.not_false, Bool.true_eq_false, ite_true, ite_false, reduceCtorEq, sl0, sl1, sl2, sl3, sl4, sl5, sl6, sl7, sl8, sl9, sl10, sl11, sl12, exists_eq_left', Option.some.injEq, true_and, and_true, T_dct, T_dCons, T_dNil, lenT, lenL, lenK, eq_len, ne_len, T_iItems]
    refine T_forI (fun j σ w' => w' = w1 ∧ ∃ s3 s4, σ = [some (.ref p), some (.tup (ls.map fun l => .tup (l.map rowD))), some (.tup (l.map rowD)), s3, s4]) (fun _ _ _ _ => trivial) ⟨rfl, s3, s4, rfl⟩ (fun i x σ w2 hx hI => ?_) fun σ w2 hI => ?_
    · obtain ⟨rfl, t3, t4, rfl⟩ := hI
      obtain ⟨d, hd, rfl⟩ := enum_at hx
      obtain ⟨r, hr, rfl⟩ := map_at hd
      obtain ⟨a1, a2, a3⟩ := hm.2 i r hr
      have a0 : atI (r.map D.int) (i : Int) = some (.int 0) := atI_of (by rw [List.getElem?_map, a3]; rfl)
      simp only [t_len_plan hp o, f_hosts hp, f_lost hp, T_run, Then_nx, Then_rt, T_ret, T_drop, T_sif, T_next, T_asg, T_nm, T_gsub, T_setF, T_gtup, T_gtupK, T_gnil, T_gcons, T_C, T_V, T_bin, T_un, T_and, T_or, T_if, T_aNil, T_aCons, T_tup, T_lst, T_new, T_arg, T_meth, T_call, T_callK, T_make, T_fld, T_ch, T_val, T_tru, T_notT, T_andT, T_orT, T_tTrue, T_add, T_sub, T_mul, T_mod, T_fdiv, T_neg, T_lt, T_le, T_gt, T_ge, T_isN, T_isB, T_isNotN, T_isNotB, T_not, T_truB, T_truI, T_truN, T_ok, List.getElem?_cons_zero, List.getElem?_cons_succ, List.set_cons_zero, List.set_cons_succ, List.length_cons, List.length_nil, gAll, true_and, and_true, T_comp, T_iSeq, T_iArg, T_sl, T_oNone, T_oSome, T_for, T_addT, T_addL, T_itT, T_itL, T_ixT, T_ixL, T_ixK, T_atM, if_true, Bool.false_eq_true, if_false, Bool.not_true, Bool.not_false, Bool.true_eq_false, ite_true, ite_false, reduceCtorEq, sl0, sl1, sl2, sl3, sl4, sl5, sl6, sl7, sl8, sl9, sl10, sl11, sl12, exists_eq_left', Option.some.injEq, true_and, and_true, T_dct, T_dCons, T_dNil, lenT, lenL, lenK, eq_len, ne_len, T_iItems]
      refine t_are_within a1 (by omega) a2 ?_
      simp only [rowD, a0, beq_self_eq_true, T_run, Then_nx, Then_rt, T_ret, T_drop, T_sif, T_next, T_asg, T_nm, T_gsub, T_setF, T_gtup, T_gtupK, T_gnil, T_gcons, T_C, T_V, T_bin, T_un, T_and, T_or, T_if, T_aNil, T_aCons, T_tup, T_lst, T_new, T_arg, T_meth, T_call, T_callK, T_make, T_fld, T_ch, T_val, T_tru, T_notT, T_andT, T_orT, T_tTrue, T_add, T_sub, T_mul, T_mod, T_fdiv, T_neg, T_lt, T_le, T_gt, T_ge, T_isN, T_isB, T_isNotN, T_isNotB, T_not, T_truB, T_truI, T_truN, T_ok, List.getElem?_cons_zero, List.getElem?_cons_succ, List.set_cons_zero, List.set_cons_succ, List.length_cons, List.length_nil, gAll, true_and, and_true, T_comp, T_iSeq, T_iArg, T_sl, T_oNone, T_oSome, T_for, T_addT, T_addL, T_itT, T_itL, T_ixT, T_ixL, T_ixK, T_atM, if_true, Bool.false_eq_true, if_false, Bool.not_true, Bool.not_false, Bool.true_eq_false, ite_true, ite_false, reduceCtorEq, sl0, sl1, sl2, sl3, sl4, sl5, sl6, sl7, sl8, sl9, sl10, sl11, sl12, exists_eq_left', Option.some.injEq, true_and, and_true, T_dct, T_dCons, T_dNil, lenT, lenL, lenK, eq_len, ne_len, T_iItems]
      exact ⟨rfl, _, _, rfl⟩
    · obtain ⟨rfl, t3, t4, rfl⟩ := hI
      exact ⟨rfl, _, _, _, rfl⟩
  · obtain ⟨rfl, s2, s3, s4, rfl⟩ := hI
    simp only [T_run, Then_nx, Then_rt, T_ret, T_drop, T_sif, T_next, T_asg, T_nm, T_gsub, T_setF, T_gtup, T_gtupK, T_gnil, T_gcons, T_C, T_V, T_bin, T_un, T_and, T_or, T_if, T_aNil, T_aCons, T_tup, T_lst, T_new, T_arg, T_meth, T_call, T_callK, T_make, T_fld, T_ch, T_val, T_tru, T_notT, T_andT, T_orT, T_tTrue, T_add, T_sub, T_mul, T_mod, T_fdiv, T_neg, T_lt, T_le, T_gt, T_ge, T_isN, T_isB, T_isNotN, T_isNotB, T_not, T_truB, T_truI, T_truN, T_ok, List.getElem?_cons_zero, List.getElem?_cons_succ, List.set_cons_zero, List.set_cons_succ, List.length_cons, List.length_nil, gAll, true_and, and_true, T_comp, T_iSeq, T_iArg, T_sl, T_oNone, T_oSome, T_for, T_addT, T_addL, T_itT, T_itL, T_ixT, T_ixL, T_ixK, T_atM, if_true, Bool.false_eq_true, if_false, Bool.not_true, Bool.not_false, Bool.true_eq_false, ite_true, ite_false, reduceCtorEq, sl0, sl1, sl2, sl3, sl4, sl5, sl6, sl7, sl8, sl9, sl10, sl11, sl12, exists_eq_left', Option.some.injEq, true_and, and_true, T_dct, T_dCons, T_dNil, lenT, lenL, lenK, eq_len, ne_len, T_iItems]
    exact hP
theorem t_is_state {s : Sta} (hp : PlanAt k w p m b) (o : MoB m h) (ok : StaOk m h s) (hP : P (.bl true) w) : T (m_is_state k [.ref p, stD s] w) P := by
  have n4 := o.n4
  have h6 := o.ranks.h6
  have ho := o.hosts
  have el := ok.living.1
  have ep := ok.parts.1
  have er := ok.ranks.1
  have et := ok.tables.1
  have es := ok.asks.1
  have few := ok.few
  have lr : ((m.ranks.map rowD).length : Int) = m.ranks.length := by simp
  unfold m_is_state b_is_state
  rw [T_run, be_is_state, T_seq]
  have e9 : ((([D.non, D.non, D.non, D.non, D.non, D.non, D.non, D.non, D.non] : List D).length : Int) == 9) = true := rfl
  have e9' : (((0 + 1 + 1 + 1 + 1 + 1 + 1 + 1 + 1 + 1 : Nat) : Int) == 9) = true := rfl
  simp only [stD, t_is_table, e9', T_run, Then_nx, Then_rt, T_ret, T_drop, T_sif, T_next, T_asg, T_nm, T_gsub, T_setF, T_gtup, T_gtupK, T_gnil, T_gcons, T_C, T_V, T_bin, T_un, T_and, T_or, T_if, T_aNil, T_aCons, T_tup, T_lst, T_new, T_arg, T_meth, T_call, T_callK, T_make, T_fld, T_ch, T_val, T_tru, T_notT, T_andT, T_orT, T_tTrue, T_add, T_sub, T_mul, T_mod, T_fdiv, T_neg, T_lt, T_le, T_gt, T_ge, T_isN, T_isB, T_isNotN, T_isNotB, T_not, T_truB, T_truI, T_truN, T_ok, List.getElem?_cons_zero, List.getElem?_cons_succ, List.set_cons_zero, List.set_cons_succ, List.length_cons, List.length_nil, gAll, true_and, and_true, T_comp, T_iSeq, T_iArg, T_sl, T_oNone, T_oSome, T_for, T_addT, T_addL, T_itT, T_itL, T_ixT, T_ixL, T_ixK, T_atM, if_true, Bool.false_eq_true, if_false, Bool.not_true, Bool.not_false, Bool.true_eq_false, ite_true, ite_false, reduceCtorEq, sl0, sl1, sl2, sl3, sl4, sl5, sl6, sl7, sl8, sl9, sl10, sl11, sl12, exists_eq_left', Option.some.injEq, true_and, and_true, T_dct, T_dCons, T_dNil, lenT, lenL, lenK, eq_len, ne_len, T_iItems]
  rw [T_seq]
  simp only [T_run, Then_nx, Then_rt, T_ret, T_drop, T_sif, T_next, T_asg, T_nm, T_gsub, T_setF, T_gtup, T_gtupK, T_gnil, T_gcons, T_C, T_V, T_bin, T_un, T_and, T_or, T_if, T_aNil, T_aCons, T_tup, T_lst, T_new, T_arg, T_meth, T_call, T_callK, T_make, T_fld, T_ch, T_val, T_tru, T_notT, T_andT, T_orT, T_tTrue, T_add, T_sub, T_mul, T_mod, T_fdiv, T_neg, T_lt, T_le, T_gt, T_ge, T_isN, T_isB, T_isNotN, T_isNotB, T_not, T_truB, T_truI, T_truN, T_ok, List.getElem?_cons_zero, List.getElem?_cons_succ, List.set_cons_zero, List.set_cons_succ, List.length_cons, List.length_nil, gAll, true_and, and_true, T_comp, T_iSeq, T_iArg, T_sl, T_oNone, T_oSome, T_for, T_addT, T_addL, T_itT, T_itL, T_ixT, T_ixL, T_ixK, T_atM, if_true, Bool.false_eq_true, if_false, Bool.not_true, Bool.not_false, Bool.true_eq_false, ite_true, ite_false, reduceCtorEq, sl0, sl1, sl2, sl3, sl4, sl5, sl6, sl7, sl8, sl9, sl10, sl11, sl12, exists_eq_left', Option.some.injEq, true_and, and_true, T_dct, T_dCons, T_dNil, lenT, lenL, lenK, eq_len, ne_len, T_iItems]
  rw [T_seq]
  simp only [t_len_plan hp o, f_hosts hp, T_run, Then_nx, Then_rt, T_ret, T_drop, T_sif, T_next, T_asg, T_nm, T_gsub, T_setF, T_gtup, T_gtupK, T_gnil, T_gcons, T_C, T_V, T_bin, T_un, T_and, T_or, T_if, T_aNil, T_aCons, T_tup, T_lst, T_new, T_arg, T_meth, T_call, T_callK, T_make, T_fld, T_ch, T_val, T_tru, T_notT, T_andT, T_orT, T_tTrue, T_add, T_sub, T_mul, T_mod, T_fdiv, T_neg, T_lt, T_le, T_gt, T_ge, T_isN, T_isB, T_isNotN, T_isNotB, T_not, T_truB, T_truI, T_truN, T_ok, List.getElem?_cons_zero, List.getElem?_cons_succ, List.set_cons_zero, List.set_cons_succ, List.length_cons, List.length_nil, gAll, true_and, and_true, T_comp, T_iSeq, T_iArg, T_sl, T_oNone, T_oSome, T_for, T_addT, T_addL, T_itT, T_itL, T_ixT, T_ixL, T_ixK, T_atM, if_true, Bool.false_eq_true, if_false, Bool.not_true, Bool.not_false, Bool.true_eq_false, ite_true, ite_false, reduceCtorEq, sl0, sl1, sl2, sl3, sl4, sl5, sl6, sl7, sl8, sl9, sl10, sl11, sl12, exists_eq_left', Option.some.injEq, true_and, and_true, T_dct, T_dCons, T_dNil, lenT, lenL, lenK, eq_len, ne_len, T_iItems]
  refine t_are_within (by omega) (by omega) ok.living.2 ?_
  simp only [t_len_plan hp o, f_hosts hp, T_run, Then_nx, Then_rt, T_ret, T_drop, T_sif, T_next, T_asg, T_nm, T_gsub, T_setF, T_gtup, T_gtupK, T_gnil, T_gcons, T_C, T_V, T_bin, T_un, T_and, T_or, T_if, T_aNil, T_aCons, T_tup, T_lst, T_new, T_arg, T_meth, T_call, T_callK, T_make, T_fld, T_ch, T_val, T_tru, T_notT, T_andT, T_orT, T_tTrue, T_add, T_sub, T_mul, T_mod, T_fdiv, T_neg, T_lt, T_le, T_gt, T_ge, T_isN, T_isB, T_isNotN, T_isNotB, T_not, T_truB, T_truI, T_truN, T_ok, List.getElem?_cons_zero, List.getElem?_cons_succ, List.set_cons_zero, List.set_cons_succ, List.length_cons, List.length_nil, gAll, true_and, and_true, T_comp, T_iSeq, T_iArg, T_sl, T_oNone, T_oSome, T_for, T_addT, T_addL, T_itT, T_itL, T_ixT, T_ixL, T_ixK, T_atM, if_true, Bool.false_eq_true, if_false, Bool.not_true, Bool.not_false, Bool.true_eq_false, ite_true, ite_false, reduceCtorEq, sl0, sl1, sl2, sl3, sl4, sl5, sl6, sl7, sl8, sl9, sl10, sl11, sl12, exists_eq_left', Option.some.injEq, true_and, and_true, T_dct, T_dCons, T_dNil, lenT, lenL, lenK, eq_len, ne_len, T_iItems]
  refine t_are_within ep (by omega) ok.parts.2 ?_
  simp only [T_run, Then_nx, Then_rt, T_ret, T_drop, T_sif, T_next, T_asg, T_nm, T_gsub, T_setF, T_gtup, T_gtupK, T_gnil, T_gcons, T_C, T_V, T_bin, T_un, T_and, T_or, T_if, T_aNil, T_aCons, T_tup, T_lst, T_new, T_arg, T_meth, T_call, T_callK, T_make, T_fld, T_ch, T_val, T_tru, T_notT, T_andT, T_orT, T_tTrue, T_add, T_sub, T_mul, T_mod, T_fdiv, T_neg, T_lt, T_le, T_gt, T_ge, T_isN, T_isB, T_isNotN, T_isNotB, T_not, T_truB, T_truI, T_truN, T_ok, List.getElem?_cons_zero, List.getElem?_cons_succ, List.set_cons_zero, List.set_cons_succ, List.length_cons, List.length_nil, gAll, true_and, and_true, T_comp, T_iSeq, T_iArg, T_sl, T_oNone, T_oSome, T_for, T_addT, T_addL, T_itT, T_itL, T_ixT, T_ixL, T_ixK, T_atM, if_true, Bool.false_eq_true, if_false, Bool.not_true, Bool.not_false, Bool.true_eq_false, ite_true, ite_false, reduceCtorEq, sl0, sl1, sl2, sl3, sl4, sl5, sl6, sl7, sl8, sl9, sl10, sl11, sl12, exists_eq_left', Option.some.injEq, true_and, and_true, T_dct, T_dCons, T_dNil, lenT, lenL, lenK, eq_len, ne_len, T_iItems]
  rw [T_seq]
  simp only [T_run, Then_nx, Then_rt, T_ret, T_drop, T_sif, T_next, T_asg, T_nm, T_gsub, T_setF, T_gtup, T_gtupK, T_gnil, T_gcons, T_C, T_V, T_bin, T_un, T_and, T_or, T_if, T_aNil, T_aCons, T_tup, T_lst, T_new, T_arg, T_meth, T_call, T_callK, T_make, T_fld, T_ch, T_val, T_tru, T_notT, T_andT, T_orT, T_tTrue, T_add, T_sub, T_mul, T_mod, T_fdiv, T_neg, T_lt, T_le, T_gt, T_ge, T_isN, T_isB, T_isNotN, T_isNotB, T_not, T_truB, T_truI, T_truN, T_ok, List.getElem?_cons_zero, List.getElem?_cons_succ, List.set_cons_zero, List.set_cons_succ, List.length_cons, List.length_nil, gAll, true_and, and_true, T_comp, T_iSeq, T_iArg, T_sl, T_oNone, T_oSome, T_for, T_addT, T_addL, T_itT, T_itL, T_ixT, T_ixL, T_ixK, T_atM, if_true, Bool.false_eq_true, if_false, Bool.not_true, Bool.not_false, Bool.true_eq_false, ite_true, ite_false, reduceCtorEq, sl0, sl1, sl2, sl3, sl4, sl5, sl6, sl7, sl8, sl9, sl10, sl11, sl12, exists_eq_left', Option.some.injEq, true_and, and_true, T_dct, T_dCons, T_dNil, lenT, lenL, lenK, eq_len, ne_len, T_iItems]
  refine t_are_downs hp o ok.downs.1 ok.downs.2 ?_
  have e1 : (((s.ranks.map rowD).length : Int) == (m.ranks.length : Int)) = true := by simp [er]
  simp only [f_ranks hp, lr, t_is_table, e1, T_run, Then_nx, Then_rt, T_ret, T_drop, T_sif, T_next, T_asg, T_nm, T_gsub, T_setF, T_gtup, T_gtupK, T_gnil, T_gcons, T_C, T_V, T_bin, T_un, T_and, T_or, T_if, T_aNil, T_aCons, T_tup, T_lst, T_new, T_arg, T_meth, T_call, T_callK, T_make, T_fld, T_ch, T_val, T_tru, T_notT, T_andT, T_orT, T_tTrue, T_add, T_sub, T_mul, T_mod, T_fdiv, T_neg, T_lt, T_le, T_gt, T_ge, T_isN, T_isB, T_isNotN, T_isNotB, T_not, T_truB, T_truI, T_truN, T_ok, List.getElem?_cons_zero, List.getElem?_cons_succ, List.set_cons_zero, List.set_cons_succ, List.length_cons, List.length_nil, gAll, true_and, and_true, T_comp, T_iSeq, T_iArg, T_sl, T_oNone, T_oSome, T_for, T_addT, T_addL, T_itT, T_itL, T_ixT, T_ixL, T_ixK, T_atM, if_true, Bool.false_eq_true, if_false, Bool.not_true, Bool.not_false, Bool.true_eq_false, ite_true, ite_false, reduceCtorEq, sl0, sl1, sl2, sl3, sl4, sl5, sl6, sl7, sl8, sl9, sl10, sl11, sl12, exists_eq_left', Option.some.injEq, true_and, and_true, T_dct, T_dCons, T_dNil, lenT, lenL, lenK, eq_len, ne_len, T_iItems]
  rw [T_seq]
  simp only [T_run, Then_nx, Then_rt, T_ret, T_drop, T_sif, T_next, T_asg, T_nm, T_gsub, T_setF, T_gtup, T_gtupK, T_gnil, T_gcons, T_C, T_V, T_bin, T_un, T_and, T_or, T_if, T_aNil, T_aCons, T_tup, T_lst, T_new, T_arg, T_meth, T_call, T_callK, T_make, T_fld, T_ch, T_val, T_tru, T_notT, T_andT, T_orT, T_tTrue, T_add, T_sub, T_mul, T_mod, T_fdiv, T_neg, T_lt, T_le, T_gt, T_ge, T_isN, T_isB, T_isNotN, T_isNotB, T_not, T_truB, T_truI, T_truN, T_ok, List.getElem?_cons_zero, List.getElem?_cons_succ, List.set_cons_zero, List.set_cons_succ, List.length_cons, List.length_nil, gAll, true_and, and_true, T_comp, T_iSeq, T_iArg, T_sl, T_oNone, T_oSome, T_for, T_addT, T_addL, T_itT, T_itL, T_ixT, T_ixL, T_ixK, T_atM, if_true, Bool.false_eq_true, if_false, Bool.not_true, Bool.not_false, Bool.true_eq_false, ite_true, ite_false, reduceCtorEq, sl0, sl1, sl2, sl3, sl4, sl5, sl6, sl7, sl8, sl9, sl10, sl11, sl12, exists_eq_left', Option.some.injEq, true_and, and_true, T_dct, T_dCons, T_dNil, lenT, lenL, lenK, eq_len, ne_len, T_iItems]
  refine ⟨szz _ (by rw [List.length_map]; omega), ?_⟩
  refine T_compE (it := ⟨s.ranks.map rowD, always⟩) s.ranks rowD (fun _ => .bl true) rfl trivial (fun r hr => ?_) ?_
  · simp only [wipeD, t_len_plan hp o, T_run, Then_nx, Then_rt, T_ret, T_drop, T_sif, T_next, T_asg, T_nm, T_gsub, T_setF, T_gtup, T_gtupK, T_gnil, T_gcons, T_C, T_V, T_bin, T_un, T_and, T_or, T_if, T_aNil, T_aCons, T_tup, T_lst, T_new, T_arg, T_meth, T_call, T_callK, T_make, T_fld, T_ch, T_val, T_tru, T_notT, T_andT, T_orT, T_tTrue, T_add, T_sub, T_mul, T_mod, T_fdiv, T_neg, T_lt, T_le, T_gt, T_ge, T_isN, T_isB, T_isNotN, T_isNotB, T_not, T_truB, T_truI, T_truN, T_ok, List.getElem?_cons_zero, List.getElem?_cons_succ, List.set_cons_zero, List.set_cons_succ, List.length_cons, List.length_nil, gAll, true_and, and_true, T_comp, T_iSeq, T_iArg, T_sl, T_oNone, T_oSome, T_for, T_addT, T_addL, T_itT, T_itL, T_ixT, T_ixL, T_ixK, T_atM, if_true, Bool.false_eq_true, if_false, Bool.not_true, Bool.not_false, Bool.true_eq_false, ite_true, ite_false, reduceCtorEq, sl0, sl1, sl2, sl3, sl4, sl5, sl6, sl7, sl8, sl9, sl10, sl11, sl12, exists_eq_left', Option.some.injEq, true_and, and_true, T_dct, T_dCons, T_dNil, lenT, lenL, lenK, eq_len, ne_len, T_iItems]
    have := (ok.ranks.2 r hr).1
    exact t_are_within (by omega) (by omega) (ok.ranks.2 r hr).2 ⟨rfl, rfl⟩
  simp only [all_one, T_run, Then_nx, Then_rt, T_ret, T_drop, T_sif, T_next, T_asg, T_nm, T_gsub, T_setF, T_gtup, T_gtupK, T_gnil, T_gcons, T_C, T_V, T_bin, T_un, T_and, T_or, T_if, T_aNil, T_aCons, T_tup, T_lst, T_new, T_arg, T_meth, T_call, T_callK, T_make, T_fld, T_ch, T_val, T_tru, T_notT, T_andT, T_orT, T_tTrue, T_add, T_sub, T_mul, T_mod, T_fdiv, T_neg, T_lt, T_le, T_gt, T_ge, T_isN, T_isB, T_isNotN, T_isNotB, T_not, T_truB, T_truI, T_truN, T_ok, List.getElem?_cons_zero, List.getElem?_cons_succ, List.set_cons_zero, List.set_cons_succ, List.length_cons, List.length_nil, gAll, true_and, and_true, T_comp, T_iSeq, T_iArg, T_sl, T_oNone, T_oSome, T_for, T_addT, T_addL, T_itT, T_itL, T_ixT, T_ixL, T_ixK, T_atM, if_true, Bool.false_eq_true, if_false, Bool.not_true, Bool.not_false, Bool.true_eq_false, ite_true, ite_false, reduceCtorEq, sl0, sl1, sl2, sl3, sl4, sl5, sl6, sl7, sl8, sl9, sl10, sl11, sl12, exists_eq_left', Option.some.injEq, true_and, and_true, T_dct, T_dCons, T_dNil, lenT, lenL, lenK, eq_len, ne_len, T_iItems]
  refine t_are_stands hp o el ok.stands.1 ok.stands.2 ?_
  simp only [T_run, Then_nx, Then_rt, T_ret, T_drop, T_sif, T_next, T_asg, T_nm, T_gsub, T_setF, T_gtup, T_gtupK, T_gnil, T_gcons, T_C, T_V, T_bin, T_un, T_and, T_or, T_if, T_aNil, T_aCons, T_tup, T_lst, T_new, T_arg, T_meth, T_call, T_callK, T_make, T_fld, T_ch, T_val, T_tru, T_notT, T_andT, T_orT, T_tTrue, T_add, T_sub, T_mul, T_mod, T_fdiv, T_neg, T_lt, T_le, T_gt, T_ge, T_isN, T_isB, T_isNotN, T_isNotB, T_not, T_truB, T_truI, T_truN, T_ok, List.getElem?_cons_zero, List.getElem?_cons_succ, List.set_cons_zero, List.set_cons_succ, List.length_cons, List.length_nil, gAll, true_and, and_true, T_comp, T_iSeq, T_iArg, T_sl, T_oNone, T_oSome, T_for, T_addT, T_addL, T_itT, T_itL, T_ixT, T_ixL, T_ixK, T_atM, if_true, Bool.false_eq_true, if_false, Bool.not_true, Bool.not_false, Bool.true_eq_false, ite_true, ite_false, reduceCtorEq, sl0, sl1, sl2, sl3, sl4, sl5, sl6, sl7, sl8, sl9, sl10, sl11, sl12, exists_eq_left', Option.some.injEq, true_and, and_true, T_dct, T_dCons, T_dNil, lenT, lenL, lenK, eq_len, ne_len, T_iItems]
  rw [T_seq]
  simp only [isi_tt, T_run, Then_nx, Then_rt, T_ret, T_drop, T_sif, T_next, T_asg, T_nm, T_gsub, T_setF, T_gtup, T_gtupK, T_gnil, T_gcons, T_C, T_V, T_bin, T_un, T_and, T_or, T_if, T_aNil, T_aCons, T_tup, T_lst, T_new, T_arg, T_meth, T_call, T_callK, T_make, T_fld, T_ch, T_val, T_tru, T_notT, T_andT, T_orT, T_tTrue, T_add, T_sub, T_mul, T_mod, T_fdiv, T_neg, T_lt, T_le, T_gt, T_ge, T_isN, T_isB, T_isNotN, T_isNotB, T_not, T_truB, T_truI, T_truN, T_ok, List.getElem?_cons_zero, List.getElem?_cons_succ, List.set_cons_zero, List.set_cons_succ, List.length_cons, List.length_nil, gAll, true_and, and_true, T_comp, T_iSeq, T_iArg, T_sl, T_oNone, T_oSome, T_for, T_addT, T_addL, T_itT, T_itL, T_ixT, T_ixL, T_ixK, T_atM, if_true, Bool.false_eq_true, if_false, Bool.not_true, Bool.not_false, Bool.true_eq_false, ite_true, ite_false, reduceCtorEq, sl0, sl1, sl2, sl3, sl4, sl5, sl6, sl7, sl8, sl9, sl10, sl11, sl12, exists_eq_left', Option.some.injEq, true_and, and_true, T_dct, T_dCons, T_dNil, lenT, lenL, lenK, eq_len, ne_len, T_iItems]
  refine ⟨szz _ (by rw [List.length_map]; omega), ?_⟩
  refine T_compE (it := ⟨s.letters.map lettD, always⟩) s.letters lettD (fun _ => .bl true) rfl trivial (fun l hl => ?_) ?_
  · simp only [wipeD, T_run, Then_nx, Then_rt, T_ret, T_drop, T_sif, T_next, T_asg, T_nm, T_gsub, T_setF, T_gtup, T_gtupK, T_gnil, T_gcons, T_C, T_V, T_bin, T_un, T_and, T_or, T_if, T_aNil, T_aCons, T_tup, T_lst, T_new, T_arg, T_meth, T_call, T_callK, T_make, T_fld, T_ch, T_val, T_tru, T_notT, T_andT, T_orT, T_tTrue, T_add, T_sub, T_mul, T_mod, T_fdiv, T_neg, T_lt, T_le, T_gt, T_ge, T_isN, T_isB, T_isNotN, T_isNotB, T_not, T_truB, T_truI, T_truN, T_ok, List.getElem?_cons_zero, List.getElem?_cons_succ, List.set_cons_zero, List.set_cons_succ, List.length_cons, List.length_nil, gAll, true_and, and_true, T_comp, T_iSeq, T_iArg, T_sl, T_oNone, T_oSome, T_for, T_addT, T_addL, T_itT, T_itL, T_ixT, T_ixL, T_ixK, T_atM, if_true, Bool.false_eq_true, if_false, Bool.not_true, Bool.not_false, Bool.true_eq_false, ite_true, ite_false, reduceCtorEq, sl0, sl1, sl2, sl3, sl4, sl5, sl6, sl7, sl8, sl9, sl10, sl11, sl12, exists_eq_left', Option.some.injEq, true_and, and_true, T_dct, T_dCons, T_dNil, lenT, lenL, lenK, eq_len, ne_len, T_iItems]
    exact t_is_letter hp o (ok.letters l hl) ⟨rfl, rfl⟩
  simp only [all_one, T_run, Then_nx, Then_rt, T_ret, T_drop, T_sif, T_next, T_asg, T_nm, T_gsub, T_setF, T_gtup, T_gtupK, T_gnil, T_gcons, T_C, T_V, T_bin, T_un, T_and, T_or, T_if, T_aNil, T_aCons, T_tup, T_lst, T_new, T_arg, T_meth, T_call, T_callK, T_make, T_fld, T_ch, T_val, T_tru, T_notT, T_andT, T_orT, T_tTrue, T_add, T_sub, T_mul, T_mod, T_fdiv, T_neg, T_lt, T_le, T_gt, T_ge, T_isN, T_isB, T_isNotN, T_isNotB, T_not, T_truB, T_truI, T_truN, T_ok, List.getElem?_cons_zero, List.getElem?_cons_succ, List.set_cons_zero, List.set_cons_succ, List.length_cons, List.length_nil, gAll, true_and, and_true, T_comp, T_iSeq, T_iArg, T_sl, T_oNone, T_oSome, T_for, T_addT, T_addL, T_itT, T_itL, T_ixT, T_ixL, T_ixK, T_atM, if_true, Bool.false_eq_true, if_false, Bool.not_true, Bool.not_false, Bool.true_eq_false, ite_true, ite_false, reduceCtorEq, sl0, sl1, sl2, sl3, sl4, sl5, sl6, sl7, sl8, sl9, sl10, sl11, sl12, exists_eq_left', Option.some.injEq, true_and, and_true, T_dct, T_dCons, T_dNil, lenT, lenL, lenK, eq_len, ne_len, T_iItems]
  rw [T_seq]
  simp only [T_run, Then_nx, Then_rt, T_ret, T_drop, T_sif, T_next, T_asg, T_nm, T_gsub, T_setF, T_gtup, T_gtupK, T_gnil, T_gcons, T_C, T_V, T_bin, T_un, T_and, T_or, T_if, T_aNil, T_aCons, T_tup, T_lst, T_new, T_arg, T_meth, T_call, T_callK, T_make, T_fld, T_ch, T_val, T_tru, T_notT, T_andT, T_orT, T_tTrue, T_add, T_sub, T_mul, T_mod, T_fdiv, T_neg, T_lt, T_le, T_gt, T_ge, T_isN, T_isB, T_isNotN, T_isNotB, T_not, T_truB, T_truI, T_truN, T_ok, List.getElem?_cons_zero, List.getElem?_cons_succ, List.set_cons_zero, List.set_cons_succ, List.length_cons, List.length_nil, gAll, true_and, and_true, T_comp, T_iSeq, T_iArg, T_sl, T_oNone, T_oSome, T_for, T_addT, T_addL, T_itT, T_itL, T_ixT, T_ixL, T_ixK, T_atM, if_true, Bool.false_eq_true, if_false, Bool.not_true, Bool.not_false, Bool.true_eq_false, ite_true, ite_false, reduceCtorEq, sl0, sl1, sl2, sl3, sl4, sl5, sl6, sl7, sl8, sl9, sl10, sl11, sl12, exists_eq_left', Option.some.injEq, true_and, and_true, T_dct, T_dCons, T_dNil, lenT, lenL, lenK, eq_len, ne_len, T_iItems]
  refine t_are_lacks hp o ok.lacks.1 ok.lacks.2 ?_
  have e2 : (((s.tables.map rowD).length : Int) == m.hosts) = true := by simp [et]
  simp only [f_hosts hp, t_is_table, e2, T_run, Then_nx, Then_rt, T_ret, T_drop, T_sif, T_next, T_asg, T_nm, T_gsub, T_setF, T_gtup, T_gtupK, T_gnil, T_gcons, T_C, T_V, T_bin, T_un, T_and, T_or, T_if, T_aNil, T_aCons, T_tup, T_lst, T_new, T_arg, T_meth, T_call, T_callK, T_make, T_fld, T_ch, T_val, T_tru, T_notT, T_andT, T_orT, T_tTrue, T_add, T_sub, T_mul, T_mod, T_fdiv, T_neg, T_lt, T_le, T_gt, T_ge, T_isN, T_isB, T_isNotN, T_isNotB, T_not, T_truB, T_truI, T_truN, T_ok, List.getElem?_cons_zero, List.getElem?_cons_succ, List.set_cons_zero, List.set_cons_succ, List.length_cons, List.length_nil, gAll, true_and, and_true, T_comp, T_iSeq, T_iArg, T_sl, T_oNone, T_oSome, T_for, T_addT, T_addL, T_itT, T_itL, T_ixT, T_ixL, T_ixK, T_atM, if_true, Bool.false_eq_true, if_false, Bool.not_true, Bool.not_false, Bool.true_eq_false, ite_true, ite_false, reduceCtorEq, sl0, sl1, sl2, sl3, sl4, sl5, sl6, sl7, sl8, sl9, sl10, sl11, sl12, exists_eq_left', Option.some.injEq, true_and, and_true, T_dct, T_dCons, T_dNil, lenT, lenL, lenK, eq_len, ne_len, T_iItems]
  rw [T_seq]
  simp only [T_run, Then_nx, Then_rt, T_ret, T_drop, T_sif, T_next, T_asg, T_nm, T_gsub, T_setF, T_gtup, T_gtupK, T_gnil, T_gcons, T_C, T_V, T_bin, T_un, T_and, T_or, T_if, T_aNil, T_aCons, T_tup, T_lst, T_new, T_arg, T_meth, T_call, T_callK, T_make, T_fld, T_ch, T_val, T_tru, T_notT, T_andT, T_orT, T_tTrue, T_add, T_sub, T_mul, T_mod, T_fdiv, T_neg, T_lt, T_le, T_gt, T_ge, T_isN, T_isB, T_isNotN, T_isNotB, T_not, T_truB, T_truI, T_truN, T_ok, List.getElem?_cons_zero, List.getElem?_cons_succ, List.set_cons_zero, List.set_cons_succ, List.length_cons, List.length_nil, gAll, true_and, and_true, T_comp, T_iSeq, T_iArg, T_sl, T_oNone, T_oSome, T_for, T_addT, T_addL, T_itT, T_itL, T_ixT, T_ixL, T_ixK, T_atM, if_true, Bool.false_eq_true, if_false, Bool.not_true, Bool.not_false, Bool.true_eq_false, ite_true, ite_false, reduceCtorEq, sl0, sl1, sl2, sl3, sl4, sl5, sl6, sl7, sl8, sl9, sl10, sl11, sl12, exists_eq_left', Option.some.injEq, true_and, and_true, T_dct, T_dCons, T_dNil, lenT, lenL, lenK, eq_len, ne_len, T_iItems]
  refine ⟨szz _ (by rw [List.length_map]; omega), ?_⟩
  refine T_compE (it := ⟨s.tables.map rowD, always⟩) s.tables rowD (fun _ => .bl true) rfl trivial (fun r hr => ?_) ?_
  · simp only [wipeD, f_ranks hp, lr, t_len_plan hp o, T_neg, T_run, Then_nx, Then_rt, T_ret, T_drop, T_sif, T_next, T_asg, T_nm, T_gsub, T_setF, T_gtup, T_gtupK, T_gnil, T_gcons, T_C, T_V, T_bin, T_un, T_and, T_or, T_if, T_aNil, T_aCons, T_tup, T_lst, T_new, T_arg, T_meth, T_call, T_callK, T_make, T_fld, T_ch, T_val, T_tru, T_notT, T_andT, T_orT, T_tTrue, T_add, T_sub, T_mul, T_mod, T_fdiv, T_neg, T_lt, T_le, T_gt, T_ge, T_isN, T_isB, T_isNotN, T_isNotB, T_not, T_truB, T_truI, T_truN, T_ok, List.getElem?_cons_zero, List.getElem?_cons_succ, List.set_cons_zero, List.set_cons_succ, List.length_cons, List.length_nil, gAll, true_and, and_true, T_comp, T_iSeq, T_iArg, T_sl, T_oNone, T_oSome, T_for, T_addT, T_addL, T_itT, T_itL, T_ixT, T_ixL, T_ixK, T_atM, if_true, Bool.false_eq_true, if_false, Bool.not_true, Bool.not_false, Bool.true_eq_false, ite_true, ite_false, reduceCtorEq, sl0, sl1, sl2, sl3, sl4, sl5, sl6, sl7, sl8, sl9, sl10, sl11, sl12, exists_eq_left', Option.some.injEq, true_and, and_true, T_dct, T_dCons, T_dNil, lenT, lenL, lenK, eq_len, ne_len, T_iItems]
    have := (ok.tables.2 r hr).1
    exact t_are_within (by omega) (by omega) (ok.tables.2 r hr).2 ⟨rfl, rfl⟩
  simp only [all_one, T_run, Then_nx, Then_rt, T_ret, T_drop, T_sif, T_next, T_asg, T_nm, T_gsub, T_setF, T_gtup, T_gtupK, T_gnil, T_gcons, T_C, T_V, T_bin, T_un, T_and, T_or, T_if, T_aNil, T_aCons, T_tup, T_lst, T_new, T_arg, T_meth, T_call, T_callK, T_make, T_fld, T_ch, T_val, T_tru, T_notT, T_andT, T_orT, T_tTrue, T_add, T_sub, T_mul, T_mod, T_fdiv, T_neg, T_lt, T_le, T_gt, T_ge, T_isN, T_isB, T_isNotN, T_isNotB, T_not, T_truB, T_truI, T_truN, T_ok, List.getElem?_cons_zero, List.getElem?_cons_succ, List.set_cons_zero, List.set_cons_succ, List.length_cons, List.length_nil, gAll, true_and, and_true, T_comp, T_iSeq, T_iArg, T_sl, T_oNone, T_oSome, T_for, T_addT, T_addL, T_itT, T_itL, T_ixT, T_ixL, T_ixK, T_atM, if_true, Bool.false_eq_true, if_false, Bool.not_true, Bool.not_false, Bool.true_eq_false, ite_true, ite_false, reduceCtorEq, sl0, sl1, sl2, sl3, sl4, sl5, sl6, sl7, sl8, sl9, sl10, sl11, sl12, exists_eq_left', Option.some.injEq, true_and, and_true, T_dct, T_dCons, T_dNil, lenT, lenL, lenK, eq_len, ne_len, T_iItems]
  exact t_are_asks hp es (by omega) ok.asks.2 hP
end
end Lb

set_option Elab.async false
set_option linter.all false
set_option maxRecDepth 100000
set_option maxHeartbeats 4000000
set_option autoImplicit false
/-! L27: the first state. -/
namespace Lb
open PySem PySem.Spec PyProof.Rows L2 Pc
section
variable {w : W} {P : D → W → Prop} {k : Ads} {p h : Nat} {m : Mo} {b : Int}
def first (m : Mo) (b : Int) (h : Nat) : Sta where
  living := List.replicate h 1
  parts := List.replicate (h + m.hosts.toNat) 0
  downs := []
  ranks := m.ranks
  stands := m.ranks.map fun r => r.map fun x => (.waits, waitI m b x + m.hold)
  letters := []
  lacks := m.ranks.map fun _ => List.replicate h (List.replicate (h + m.hosts.toNat) 0)
  tables := List.replicate m.hosts.toNat (List.replicate m.ranks.length (-1))
  asks := List.replicate m.hosts.toNat (0, 0)
theorem mem_rep {α : Type} {n : Nat} {a x : α} (e : x ∈ List.replicate n a) : x = a := List.eq_of_mem_replicate e
theorem first_ok (o : MoB m h) (b0 : 0 ≤ b) (b3 : b ≤ 3) : StaOk m h (first m b h) := by
  have ho := o.hosts
  have hh := o.hold
  have h1 := o.ranks.h1
  have l0 := o.lost
  refine ⟨⟨by simp [first], fun x hx => ?_⟩, ⟨by simp [first]; omega, fun x hx => ?_⟩, ⟨by simp [first], by simp [first]⟩, ⟨rfl, fun r hr => o.ranks.row r hr⟩, ⟨by simp [first], fun r hr => ?_⟩, by simp [first], by simp [first], ⟨by simp [first], fun l hl => ?_⟩, ⟨by simp [first]; omega, fun r hr => ?_⟩, ⟨by simp [first]; omega, fun q hq => ?_⟩⟩
  · obtain rfl := mem_rep hx; omega
  · obtain rfl := mem_rep hx; omega
  · simp only [first, List.mem_map] at hr
    obtain ⟨r0, hr0, rfl⟩ := hr
    refine ⟨by simp [(o.ranks.row r0 hr0).1], fun q hq => ?_⟩
    obtain ⟨q1, q2⟩ := q
    have z := List.of_mem_zip hq
    have e1 : q1 = 1 := mem_rep z.1
    simp only [List.mem_map] at z
    obtain ⟨x, hx, e2⟩ := z.2
    have bx := (o.ranks.row r0 hr0).2 x hx
    have wb := wait_bnd (r := x) o b0 b3 (by omega) (by omega)
    have wp : 1 ≤ waitI m b x := by
      have e := o.every
      have s := o.slow
      have g := o.gap
      have m2 := mul_bnd (x := b + 1) (a := 4) (y := m.every) (b := 5) (by omega) (by omega) (by omega) (by omega)
      have m4 := mul_bnd (x := m.gap) (a := 3) (y := 12 - x) (b := 12) (by omega) (by omega) (by omega) (by omega)
      unfold waitI; omega
    subst e2
    refine .inr (.inl ⟨by show q1 ≠ 0; omega, rfl, by show 1 ≤ waitI m b x + m.hold; omega, ?_⟩)
    show waitI m b x + m.hold ≤ 1000000000000000000000000000000000000000000000000000000000000
    omega
  · simp only [first, List.mem_map] at hl
    obtain ⟨r0, hr0, rfl⟩ := hl
    refine ⟨by simp, fun j r hr => ?_⟩
    have hj : j < h := by
      have := (List.getElem?_eq_some_iff.mp hr).1
      simpa using this
    have e := mem_rep (List.mem_of_getElem? hr)
    subst e
    refine ⟨by simp; omega, fun x hx => ?_, ?_⟩
    · obtain rfl := mem_rep hx; omega
    · rw [List.getElem?_replicate, if_pos (by omega)]
  · obtain rfl := mem_rep (show r ∈ List.replicate m.hosts.toNat (List.replicate m.ranks.length (-1)) from hr)
    refine ⟨by simp, fun x hx => ?_⟩
    obtain rfl := mem_rep hx; omega
  · obtain rfl := mem_rep (show q ∈ List.replicate m.hosts.toNat (0, 0) from hq)
    refine ⟨by simp, by simp, ?_⟩
    show (0 : Int) ≤ 1000000000000000000000000000000000000000000000000000000000000
    decide
theorem T_rangeL {n : Nat} (hn : n ≤ 1000) : T (rangeL (.int n) w) P = P (.lst ((List.range n).map fun k : Nat => D.int (k : Int))) w := by
  simp only [rangeL]
  rw [if_pos (by omega), T_ok]
  rfl
theorem T_mulT1 {d : D} {n : Int} (h0 : 0 ≤ n) (h1 : n ≤ 1000) : T (mulT (.tup [d]) (.int n) w) P = P (.tup (List.replicate n.toNat d)) w := by
  simp only [mulT]
  rw [if_pos ⟨by omega, by omega, by simp⟩, T_ok, List.flatten_replicate_singleton]
theorem tupL {xs : List D} : T (tupM [.lst xs] w) P = P (.tup xs) w := by
  have e : tupM [.lst xs] w = .ok (.tup xs) w := rfl
  rw [e, T_ok]
theorem map_range {d : D} {n : Nat} : (List.range n).map (fun _ => d) = List.replicate n d := by
  rw [List.map_const', List.length_range]
theorem t_first (hp : PlanAt k w p m b) (o : MoB m h) (hP : P (stD (first m b h)) w) : T (m_first_state k [.ref p] w) P := by
  have n4 := o.n4
  have h1 := o.ranks.h1
  have h6 := o.ranks.h6
  have ho := o.hosts
  unfold m_first_state b_first_state
  rw [T_run, be_first_state, T_seq]
  simp only [t_len_plan hp o, T_rangeL (n := h) (by omega), T_run, Then_nx, Then_rt, T_ret, T_drop, T_sif, T_next, T_asg, T_nm, T_gsub, T_setF, T_gtup, T_gtupK, T_gnil, T_gcons, T_C, T_V, T_bin, T_un, T_and, T_or, T_if, T_aNil, T_aCons, T_tup, T_lst, T_new, T_arg, T_meth, T_call, T_callK, T_make, T_fld, T_ch, T_val, T_tru, T_notT, T_andT, T_orT, T_tTrue, T_add, T_sub, T_mul, T_mod, T_fdiv, T_neg, T_lt, T_le, T_gt, T_ge, T_isN, T_isB, T_isNotN, T_isNotB, T_not, T_truB, T_truI, T_truN, T_ok, List.getElem?_cons_zero, List.getElem?_cons_succ, List.set_cons_zero, List.set_cons_succ, List.length_cons, List.length_nil, gAll, true_and, and_true, T_comp, T_iSeq, T_iArg, T_sl, T_oNone, T_oSome, T_for, T_addT, T_addL, T_itT, T_itL, T_ixT, T_ixL, T_ixK, T_atM, if_true, Bool.false_eq_true, if_false, Bool.not_true, Bool.not_false, Bool.true_eq_false, ite_true, ite_false, reduceCtorEq, sl0, sl1, sl2, sl3, sl4, sl5, sl6, sl7, sl8, sl9, sl10, sl11, sl12, exists_eq_left', Option.some.injEq, true_and, and_true, T_dct, T_dCons, T_dNil, lenT, lenL, lenK, eq_len, ne_len, T_iItems]
  rw [T_seq]
  simp only [t_len_plan hp o, f_hosts hp, T_run, Then_nx, Then_rt, T_ret, T_drop, T_sif, T_next, T_asg, T_nm, T_gsub, T_setF, T_gtup, T_gtupK, T_gnil, T_gcons, T_C, T_V, T_bin, T_un, T_and, T_or, T_if, T_aNil, T_aCons, T_tup, T_lst, T_new, T_arg, T_meth, T_call, T_callK, T_make, T_fld, T_ch, T_val, T_tru, T_notT, T_andT, T_orT, T_tTrue, T_add, T_sub, T_mul, T_mod, T_fdiv, T_neg, T_lt, T_le, T_gt, T_ge, T_isN, T_isB, T_isNotN, T_isNotB, T_not, T_truB, T_truI, T_truN, T_ok, List.getElem?_cons_zero, List.getElem?_cons_succ, List.set_cons_zero, List.set_cons_succ, List.length_cons, List.length_nil, gAll, true_and, and_true, T_comp, T_iSeq, T_iArg, T_sl, T_oNone, T_oSome, T_for, T_addT, T_addL, T_itT, T_itL, T_ixT, T_ixL, T_ixK, T_atM, if_true, Bool.false_eq_true, if_false, Bool.not_true, Bool.not_false, Bool.true_eq_false, ite_true, ite_false, reduceCtorEq, sl0, sl1, sl2, sl3, sl4, sl5, sl6, sl7, sl8, sl9, sl10, sl11, sl12, exists_eq_left', Option.some.injEq, true_and, and_true, T_dct, T_dCons, T_dNil, lenT, lenL, lenK, eq_len, ne_len, T_iItems]
  rw [T_seq]
  simp only [T_run, Then_nx, Then_rt, T_ret, T_drop, T_sif, T_next, T_asg, T_nm, T_gsub, T_setF, T_gtup, T_gtupK, T_gnil, T_gcons, T_C, T_V, T_bin, T_un, T_and, T_or, T_if, T_aNil, T_aCons, T_tup, T_lst, T_new, T_arg, T_meth, T_call, T_callK, T_make, T_fld, T_ch, T_val, T_tru, T_notT, T_andT, T_orT, T_tTrue, T_add, T_sub, T_mul, T_mod, T_fdiv, T_neg, T_lt, T_le, T_gt, T_ge, T_isN, T_isB, T_isNotN, T_isNotB, T_not, T_truB, T_truI, T_truN, T_ok, List.getElem?_cons_zero, List.getElem?_cons_succ, List.set_cons_zero, List.set_cons_succ, List.length_cons, List.length_nil, gAll, true_and, and_true, T_comp, T_iSeq, T_iArg, T_sl, T_oNone, T_oSome, T_for, T_addT, T_addL, T_itT, T_itL, T_ixT, T_ixL, T_ixK, T_atM, if_true, Bool.false_eq_true, if_false, Bool.not_true, Bool.not_false, Bool.true_eq_false, ite_true, ite_false, reduceCtorEq, sl0, sl1, sl2, sl3, sl4, sl5, sl6, sl7, sl8, sl9, sl10, sl11, sl12, exists_eq_left', Option.some.injEq, true_and, and_true, T_dct, T_dCons, T_dNil, lenT, lenL, lenK, eq_len, ne_len, T_iItems]
  refine ⟨szz _ (by simp; omega), ?_⟩
  refine T_compE (it := ⟨(List.range h).map fun k : Nat => D.int (k : Int), always⟩) (List.range h) (fun k : Nat => D.int (k : Int)) (fun _ => .int 1) rfl trivial (fun x hx => ?_) ?_
  · simp only [wipeD, T_run, Then_nx, Then_rt, T_ret, T_drop, T_sif, T_next, T_asg, T_nm, T_gsub, T_setF, T_gtup, T_gtupK, T_gnil, T_gcons, T_C, T_V, T_bin, T_un, T_and, T_or, T_if, T_aNil, T_aCons, T_tup, T_lst, T_new, T_arg, T_meth, T_call, T_callK, T_make, T_fld, T_ch, T_val, T_tru, T_notT, T_andT, T_orT, T_tTrue, T_add, T_sub, T_mul, T_mod, T_fdiv, T_neg, T_lt, T_le, T_gt, T_ge, T_isN, T_isB, T_isNotN, T_isNotB, T_not, T_truB, T_truI, T_truN, T_ok, List.getElem?_cons_zero, List.getElem?_cons_succ, List.set_cons_zero, List.set_cons_succ, List.length_cons, List.length_nil, gAll, true_and, and_true, T_comp, T_iSeq, T_iArg, T_sl, T_oNone, T_oSome, T_for, T_addT, T_addL, T_itT, T_itL, T_ixT, T_ixL, T_ixK, T_atM, if_true, Bool.false_eq_true, if_false, Bool.not_true, Bool.not_false, Bool.true_eq_false, ite_true, ite_false, reduceCtorEq, sl0, sl1, sl2, sl3, sl4, sl5, sl6, sl7, sl8, sl9, sl10, sl11, sl12, exists_eq_left', Option.some.injEq, true_and, and_true, T_dct, T_dCons, T_dNil, lenT, lenL, lenK, eq_len, ne_len, T_iItems]
  rw [map_range]
  simp only [tupL, T_run, Then_nx, Then_rt, T_ret, T_drop, T_sif, T_next, T_asg, T_nm, T_gsub, T_setF, T_gtup, T_gtupK, T_gnil, T_gcons, T_C, T_V, T_bin, T_un, T_and, T_or, T_if, T_aNil, T_aCons, T_tup, T_lst, T_new, T_arg, T_meth, T_call, T_callK, T_make, T_fld, T_ch, T_val, T_tru, T_notT, T_andT, T_orT, T_tTrue, T_add, T_sub, T_mul, T_mod, T_fdiv, T_neg, T_lt, T_le, T_gt, T_ge, T_isN, T_isB, T_isNotN, T_isNotB, T_not, T_truB, T_truI, T_truN, T_ok, List.getElem?_cons_zero, List.getElem?_cons_succ, List.set_cons_zero, List.set_cons_succ, List.length_cons, List.length_nil, gAll, true_and, and_true, T_comp, T_iSeq, T_iArg, T_sl, T_oNone, T_oSome, T_for, T_addT, T_addL, T_itT, T_itL, T_ixT, T_ixL, T_ixK, T_atM, if_true, Bool.false_eq_true, if_false, Bool.not_true, Bool.not_false, Bool.true_eq_false, ite_true, ite_false, reduceCtorEq, sl0, sl1, sl2, sl3, sl4, sl5, sl6, sl7, sl8, sl9, sl10, sl11, sl12, exists_eq_left', Option.some.injEq, true_and, and_true, T_dct, T_dCons, T_dNil, lenT, lenL, lenK, eq_len, ne_len, T_iItems]
  rw [T_seq]
  simp only [f_ranks hp, T_run, Then_nx, Then_rt, T_ret, T_drop, T_sif, T_next, T_asg, T_nm, T_gsub, T_setF, T_gtup, T_gtupK, T_gnil, T_gcons, T_C, T_V, T_bin, T_un, T_and, T_or, T_if, T_aNil, T_aCons, T_tup, T_lst, T_new, T_arg, T_meth, T_call, T_callK, T_make, T_fld, T_ch, T_val, T_tru, T_notT, T_andT, T_orT, T_tTrue, T_add, T_sub, T_mul, T_mod, T_fdiv, T_neg, T_lt, T_le, T_gt, T_ge, T_isN, T_isB, T_isNotN, T_isNotB, T_not, T_truB, T_truI, T_truN, T_ok, List.getElem?_cons_zero, List.getElem?_cons_succ, List.set_cons_zero, List.set_cons_succ, List.length_cons, List.length_nil, gAll, true_and, and_true, T_comp, T_iSeq, T_iArg, T_sl, T_oNone, T_oSome, T_for, T_addT, T_addL, T_itT, T_itL, T_ixT, T_ixL, T_ixK, T_atM, if_true, Bool.false_eq_true, if_false, Bool.not_true, Bool.not_false, Bool.true_eq_false, ite_true, ite_false, reduceCtorEq, sl0, sl1, sl2, sl3, sl4, sl5, sl6, sl7, sl8, sl9, sl10, sl11, sl12, exists_eq_left', Option.some.injEq, true_and, and_true, T_dct, T_dCons, T_dNil, lenT, lenL, lenK, eq_len, ne_len, T_iItems]
  refine ⟨szz _ (by simp; omega), ?_⟩
  refine T_compE (it := ⟨m.ranks.map rowD, always⟩) m.ranks rowD (fun r => rowsD (r.map fun x => (.waits, waitI m b x + m.hold))) rfl trivial (fun r hr => ?_) ?_
  · have lr := (o.ranks.row r hr).1
    simp only [wipeD, rowD, T_run, Then_nx, Then_rt, T_ret, T_drop, T_sif, T_next, T_asg, T_nm, T_gsub, T_setF, T_gtup, T_gtupK, T_gnil, T_gcons, T_C, T_V, T_bin, T_un, T_and, T_or, T_if, T_aNil, T_aCons, T_tup, T_lst, T_new, T_arg, T_meth, T_call, T_callK, T_make, T_fld, T_ch, T_val, T_tru, T_notT, T_andT, T_orT, T_tTrue, T_add, T_sub, T_mul, T_mod, T_fdiv, T_neg, T_lt, T_le, T_gt, T_ge, T_isN, T_isB, T_isNotN, T_isNotB, T_not, T_truB, T_truI, T_truN, T_ok, List.getElem?_cons_zero, List.getElem?_cons_succ, List.set_cons_zero, List.set_cons_succ, List.length_cons, List.length_nil, gAll, true_and, and_true, T_comp, T_iSeq, T_iArg, T_sl, T_oNone, T_oSome, T_for, T_addT, T_addL, T_itT, T_itL, T_ixT, T_ixL, T_ixK, T_atM, if_true, Bool.false_eq_true, if_false, Bool.not_true, Bool.not_false, Bool.true_eq_false, ite_true, ite_false, reduceCtorEq, sl0, sl1, sl2, sl3, sl4, sl5, sl6, sl7, sl8, sl9, sl10, sl11, sl12, exists_eq_left', Option.some.injEq, true_and, and_true, T_dct, T_dCons, T_dNil, lenT, lenL, lenK, eq_len, ne_len, T_iItems]
    refine ⟨szz _ (by simp; omega), ?_⟩
    refine T_compE (it := ⟨r.map D.int, always⟩) r D.int (fun x => standD (.waits, waitI m b x + m.hold)) rfl trivial (fun x hx => ?_) ?_
    · simp only [wipeD, t_wait_of hp o, f_hold hp, standD, Role.s, T_run, Then_nx, Then_rt, T_ret, T_drop, T_sif, T_next, T_asg, T_nm, T_gsub, T_setF, T_gtup, T_gtupK, T_gnil, T_gcons, T_C, T_V, T_bin, T_un, T_and, T_or, T_if, T_aNil, T_aCons, T_tup, T_lst, T_new, T_arg, T_meth, T_call, T_callK, T_make, T_fld, T_ch, T_val, T_tru, T_notT, T_andT, T_orT, T_tTrue, T_add, T_sub, T_mul, T_mod, T_fdiv, T_neg, T_lt, T_le, T_gt, T_ge, T_isN, T_isB, T_isNotN, T_isNotB, T_not, T_truB, T_truI, T_truN, T_ok, List.getElem?_cons_zero, List.getElem?_cons_succ, List.set_cons_zero, List.set_cons_succ, List.length_cons, List.length_nil, gAll, true_and, and_true, T_comp, T_iSeq, T_iArg, T_sl, T_oNone, T_oSome, T_for, T_addT, T_addL, T_itT, T_itL, T_ixT, T_ixL, T_ixK, T_atM, if_true, Bool.false_eq_true, if_false, Bool.not_true, Bool.not_false, Bool.true_eq_false, ite_true, ite_false, reduceCtorEq, sl0, sl1, sl2, sl3, sl4, sl5, sl6, sl7, sl8, sl9, sl10, sl11, sl12, exists_eq_left', Option.some.injEq, true_and, and_true, T_dct, T_dCons, T_dNil, lenT, lenL, lenK, eq_len, ne_len, T_iItems]
    simp only [tupL, rowsD, List.map_map]
    all_goals (first | exact ⟨rfl, rfl⟩ | simp)
  simp only [tupL, T_run, Then_nx, Then_rt, T_ret, T_drop, T_sif, T_next, T_asg, T_nm, T_gsub, T_setF, T_gtup, T_gtupK, T_gnil, T_gcons, T_C, T_V, T_bin, T_un, T_and, T_or, T_if, T_aNil, T_aCons, T_tup, T_lst, T_new, T_arg, T_meth, T_call, T_callK, T_make, T_fld, T_ch, T_val, T_tru, T_notT, T_andT, T_orT, T_tTrue, T_add, T_sub, T_mul, T_mod, T_fdiv, T_neg, T_lt, T_le, T_gt, T_ge, T_isN, T_isB, T_isNotN, T_isNotB, T_not, T_truB, T_truI, T_truN, T_ok, List.getElem?_cons_zero, List.getElem?_cons_succ, List.set_cons_zero, List.set_cons_succ, List.length_cons, List.length_nil, gAll, true_and, and_true, T_comp, T_iSeq, T_iArg, T_sl, T_oNone, T_oSome, T_for, T_addT, T_addL, T_itT, T_itL, T_ixT, T_ixL, T_ixK, T_atM, if_true, Bool.false_eq_true, if_false, Bool.not_true, Bool.not_false, Bool.true_eq_false, ite_true, ite_false, reduceCtorEq, sl0, sl1, sl2, sl3, sl4, sl5, sl6, sl7, sl8, sl9, sl10, sl11, sl12, exists_eq_left', Option.some.injEq, true_and, and_true, T_dct, T_dCons, T_dNil, lenT, lenL, lenK, eq_len, ne_len, T_iItems]
  rw [T_seq]
  simp only [f_ranks hp, T_run, Then_nx, Then_rt, T_ret, T_drop, T_sif, T_next, T_asg, T_nm, T_gsub, T_setF, T_gtup, T_gtupK, T_gnil, T_gcons, T_C, T_V, T_bin, T_un, T_and, T_or, T_if, T_aNil, T_aCons, T_tup, T_lst, T_new, T_arg, T_meth, T_call, T_callK, T_make, T_fld, T_ch, T_val, T_tru, T_notT, T_andT, T_orT, T_tTrue, T_add, T_sub, T_mul, T_mod, T_fdiv, T_neg, T_lt, T_le, T_gt, T_ge, T_isN, T_isB, T_isNotN, T_isNotB, T_not, T_truB, T_truI, T_truN, T_ok, List.getElem?_cons_zero, List.getElem?_cons_succ, List.set_cons_zero, List.set_cons_succ, List.length_cons, List.length_nil, gAll, true_and, and_true, T_comp, T_iSeq, T_iArg, T_sl, T_oNone, T_oSome, T_for, T_addT, T_addL, T_itT, T_itL, T_ixT, T_ixL, T_ixK, T_atM, if_true, Bool.false_eq_true, if_false, Bool.not_true, Bool.not_false, Bool.true_eq_false, ite_true, ite_false, reduceCtorEq, sl0, sl1, sl2, sl3, sl4, sl5, sl6, sl7, sl8, sl9, sl10, sl11, sl12, exists_eq_left', Option.some.injEq, true_and, and_true, T_dct, T_dCons, T_dNil, lenT, lenL, lenK, eq_len, ne_len, T_iItems]
  refine ⟨szz _ (by simp; omega), ?_⟩
  refine T_compE (it := ⟨m.ranks.map rowD, always⟩) m.ranks rowD (fun _ => lackD (List.replicate h (List.replicate (h + m.hosts.toNat) 0))) rfl trivial (fun r hr => ?_) ?_
  · simp only [wipeD, T_run, Then_nx, Then_rt, T_ret, T_drop, T_sif, T_next, T_asg, T_nm, T_gsub, T_setF, T_gtup, T_gtupK, T_gnil, T_gcons, T_C, T_V, T_bin, T_un, T_and, T_or, T_if, T_aNil, T_aCons, T_tup, T_lst, T_new, T_arg, T_meth, T_call, T_callK, T_make, T_fld, T_ch, T_val, T_tru, T_notT, T_andT, T_orT, T_tTrue, T_add, T_sub, T_mul, T_mod, T_fdiv, T_neg, T_lt, T_le, T_gt, T_ge, T_isN, T_isB, T_isNotN, T_isNotB, T_not, T_truB, T_truI, T_truN, T_ok, List.getElem?_cons_zero, List.getElem?_cons_succ, List.set_cons_zero, List.set_cons_succ, List.length_cons, List.length_nil, gAll, true_and, and_true, T_comp, T_iSeq, T_iArg, T_sl, T_oNone, T_oSome, T_for, T_addT, T_addL, T_itT, T_itL, T_ixT, T_ixL, T_ixK, T_atM, if_true, Bool.false_eq_true, if_false, Bool.not_true, Bool.not_false, Bool.true_eq_false, ite_true, ite_false, reduceCtorEq, sl0, sl1, sl2, sl3, sl4, sl5, sl6, sl7, sl8, sl9, sl10, sl11, sl12, exists_eq_left', Option.some.injEq, true_and, and_true, T_dct, T_dCons, T_dNil, lenT, lenL, lenK, eq_len, ne_len, T_iItems]
    refine ⟨szz _ (by simp; omega), ?_⟩
    refine T_compE (it := ⟨(List.range h).map fun k : Nat => D.int (k : Int), always⟩) (List.range h) (fun k : Nat => D.int (k : Int)) (fun _ => rowD (List.replicate (h + m.hosts.toNat) 0)) rfl trivial (fun x hx => ?_) ?_
    · simp only [wipeD, T_mulT1 (show (0 : Int) ≤ (h : Int) + m.hosts by omega) (by omega), T_run, Then_nx, Then_rt, T_ret, T_drop, T_sif, T_next, T_asg, T_nm, T_gsub, T_setF, T_gtup, T_gtupK, T_gnil, T_gcons, T_C, T_V, T_bin, T_un, T_and, T_or, T_if, T_aNil, T_aCons, T_tup, T_lst, T_new, T_arg, T_meth, T_call, T_callK, T_make, T_fld, T_ch, T_val, T_tru, T_notT, T_andT, T_orT, T_tTrue, T_add, T_sub, T_mul, T_mod, T_fdiv, T_neg, T_lt, T_le, T_gt, T_ge, T_isN, T_isB, T_isNotN, T_isNotB, T_not, T_truB, T_truI, T_truN, T_ok, List.getElem?_cons_zero, List.getElem?_cons_succ, List.set_cons_zero, List.set_cons_succ, List.length_cons, List.length_nil, gAll, true_and, and_true, T_comp, T_iSeq, T_iArg, T_sl, T_oNone, T_oSome, T_for, T_addT, T_addL, T_itT, T_itL, T_ixT, T_ixL, T_ixK, T_atM, if_true, Bool.false_eq_true, if_false, Bool.not_true, Bool.not_false, Bool.true_eq_false, ite_true, ite_false, reduceCtorEq, sl0, sl1, sl2, sl3, sl4, sl5, sl6, sl7, sl8, sl9, sl10, sl11, sl12, exists_eq_left', Option.some.injEq, true_and, and_true, T_dct, T_dCons, T_dNil, lenT, lenL, lenK, eq_len, ne_len, T_iItems]
      rw [rowD, List.map_replicate]
      have : ((h : Int) + m.hosts).toNat = h + m.hosts.toNat := by omega
      rw [this]
      all_goals (first | exact ⟨rfl, rfl⟩ | simp)
    rw [map_range]
    simp only [tupL, lackD, List.map_replicate]
    all_goals (first | exact ⟨rfl, rfl⟩ | simp)
  simp only [tupL, T_run, Then_nx, Then_rt, T_ret, T_drop, T_sif, T_next, T_asg, T_nm, T_gsub, T_setF, T_gtup, T_gtupK, T_gnil, T_gcons, T_C, T_V, T_bin, T_un, T_and, T_or, T_if, T_aNil, T_aCons, T_tup, T_lst, T_new, T_arg, T_meth, T_call, T_callK, T_make, T_fld, T_ch, T_val, T_tru, T_notT, T_andT, T_orT, T_tTrue, T_add, T_sub, T_mul, T_mod, T_fdiv, T_neg, T_lt, T_le, T_gt, T_ge, T_isN, T_isB, T_isNotN, T_isNotB, T_not, T_truB, T_truI, T_truN, T_ok, List.getElem?_cons_zero, List.getElem?_cons_succ, List.set_cons_zero, List.set_cons_succ, List.length_cons, List.length_nil, gAll, true_and, and_true, T_comp, T_iSeq, T_iArg, T_sl, T_oNone, T_oSome, T_for, T_addT, T_addL, T_itT, T_itL, T_ixT, T_ixL, T_ixK, T_atM, if_true, Bool.false_eq_true, if_false, Bool.not_true, Bool.not_false, Bool.true_eq_false, ite_true, ite_false, reduceCtorEq, sl0, sl1, sl2, sl3, sl4, sl5, sl6, sl7, sl8, sl9, sl10, sl11, sl12, exists_eq_left', Option.some.injEq, true_and, and_true, T_dct, T_dCons, T_dNil, lenT, lenL, lenK, eq_len, ne_len, T_iItems]
  rw [T_seq]
  simp only [f_hosts hp, T_run, Then_nx, Then_rt, T_ret, T_drop, T_sif, T_next, T_asg, T_nm, T_gsub, T_setF, T_gtup, T_gtupK, T_gnil, T_gcons, T_C, T_V, T_bin, T_un, T_and, T_or, T_if, T_aNil, T_aCons, T_tup, T_lst, T_new, T_arg, T_meth, T_call, T_callK, T_make, T_fld, T_ch, T_val, T_tru, T_notT, T_andT, T_orT, T_tTrue, T_add, T_sub, T_mul, T_mod, T_fdiv, T_neg, T_lt, T_le, T_gt, T_ge, T_isN, T_isB, T_isNotN, T_isNotB, T_not, T_truB, T_truI, T_truN, T_ok, List.getElem?_cons_zero, List.getElem?_cons_succ, List.set_cons_zero, List.set_cons_succ, List.length_cons, List.length_nil, gAll, true_and, and_true, T_comp, T_iSeq, T_iArg, T_sl, T_oNone, T_oSome, T_for, T_addT, T_addL, T_itT, T_itL, T_ixT, T_ixL, T_ixK, T_atM, if_true, Bool.false_eq_true, if_false, Bool.not_true, Bool.not_false, Bool.true_eq_false, ite_true, ite_false, reduceCtorEq, sl0, sl1, sl2, sl3, sl4, sl5, sl6, sl7, sl8, sl9, sl10, sl11, sl12, exists_eq_left', Option.some.injEq, true_and, and_true, T_dct, T_dCons, T_dNil, lenT, lenL, lenK, eq_len, ne_len, T_iItems]
  rw [T_rng1 ho.1 (by omega)]
  have lr : ((m.ranks.map rowD).length : Int) = m.ranks.length := by simp
  refine ⟨by rw [range_len]; exact szz _ (by omega), ?_⟩
  refine T_compE (it := rangeD 0 m.hosts.toNat) (List.range m.hosts.toNat) (fun k : Nat => D.int (0 + (k : Int))) (fun _ => rowD (List.replicate m.ranks.length (-1))) rfl trivial (fun x hx => ?_) ?_
  · simp only [wipeD, T_neg, f_ranks hp, lr, T_mulT1 (show (0 : Int) ≤ (m.ranks.length : Int) by omega) (by omega), T_run, Then_nx, Then_rt, T_ret, T_drop, T_sif, T_next, T_asg, T_nm, T_gsub, T_setF, T_gtup, T_gtupK, T_gnil, T_gcons, T_C, T_V, T_bin, T_un, T_and, T_or, T_if, T_aNil, T_aCons, T_tup, T_lst, T_new, T_arg, T_meth, T_call, T_callK, T_make, T_fld, T_ch, T_val, T_tru, T_notT, T_andT, T_orT, T_tTrue, T_add, T_sub, T_mul, T_mod, T_fdiv, T_neg, T_lt, T_le, T_gt, T_ge, T_isN, T_isB, T_isNotN, T_isNotB, T_not, T_truB, T_truI, T_truN, T_ok, List.getElem?_cons_zero, List.getElem?_cons_succ, List.set_cons_zero, List.set_cons_succ, List.length_cons, List.length_nil, gAll, true_and, and_true, T_comp, T_iSeq, T_iArg, T_sl, T_oNone, T_oSome, T_for, T_addT, T_addL, T_itT, T_itL, T_ixT, T_ixL, T_ixK, T_atM, if_true, Bool.false_eq_true, if_false, Bool.not_true, Bool.not_false, Bool.true_eq_false, ite_true, ite_false, reduceCtorEq, sl0, sl1, sl2, sl3, sl4, sl5, sl6, sl7, sl8, sl9, sl10, sl11, sl12, exists_eq_left', Option.some.injEq, true_and, and_true, T_dct, T_dCons, T_dNil, lenT, lenL, lenK, eq_len, ne_len, T_iItems]
    rw [rowD, List.map_replicate]
    all_goals (first | exact ⟨rfl, rfl⟩ | simp)
  rw [map_range]
  simp only [tupL, T_run, Then_nx, Then_rt, T_ret, T_drop, T_sif, T_next, T_asg, T_nm, T_gsub, T_setF, T_gtup, T_gtupK, T_gnil, T_gcons, T_C, T_V, T_bin, T_un, T_and, T_or, T_if, T_aNil, T_aCons, T_tup, T_lst, T_new, T_arg, T_meth, T_call, T_callK, T_make, T_fld, T_ch, T_val, T_tru, T_notT, T_andT, T_orT, T_tTrue, T_add, T_sub, T_mul, T_mod, T_fdiv, T_neg, T_lt, T_le, T_gt, T_ge, T_isN, T_isB, T_isNotN, T_isNotB, T_not, T_truB, T_truI, T_truN, T_ok, List.getElem?_cons_zero, List.getElem?_cons_succ, List.set_cons_zero, List.set_cons_succ, List.length_cons, List.length_nil, gAll, true_and, and_true, T_comp, T_iSeq, T_iArg, T_sl, T_oNone, T_oSome, T_for, T_addT, T_addL, T_itT, T_itL, T_ixT, T_ixL, T_ixK, T_atM, if_true, Bool.false_eq_true, if_false, Bool.not_true, Bool.not_false, Bool.true_eq_false, ite_true, ite_false, reduceCtorEq, sl0, sl1, sl2, sl3, sl4, sl5, sl6, sl7, sl8, sl9, sl10, sl11, sl12, exists_eq_left', Option.some.injEq, true_and, and_true, T_dct, T_dCons, T_dNil, lenT, lenL, lenK, eq_len, ne_len, T_iItems]
  rw [T_seq]
  simp only [f_hosts hp, T_run, Then_nx, Then_rt, T_ret, T_drop, T_sif, T_next, T_asg, T_nm, T_gsub, T_setF, T_gtup, T_gtupK, T_gnil, T_gcons, T_C, T_V, T_bin, T_un, T_and, T_or, T_if, T_aNil, T_aCons, T_tup, T_lst, T_new, T_arg, T_meth, T_call, T_callK, T_make, T_fld, T_ch, T_val, T_tru, T_notT, T_andT, T_orT, T_tTrue, T_add, T_sub, T_mul, T_mod, T_fdiv, T_neg, T_lt, T_le, T_gt, T_ge, T_isN, T_isB, T_isNotN, T_isNotB, T_not, T_truB, T_truI, T_truN, T_ok, List.getElem?_cons_zero, List.getElem?_cons_succ, List.set_cons_zero, List.set_cons_succ, List.length_cons, List.length_nil, gAll, true_and, and_true, T_comp, T_iSeq, T_iArg, T_sl, T_oNone, T_oSome, T_for, T_addT, T_addL, T_itT, T_itL, T_ixT, T_ixL, T_ixK, T_atM, if_true, Bool.false_eq_true, if_false, Bool.not_true, Bool.not_false, Bool.true_eq_false, ite_true, ite_false, reduceCtorEq, sl0, sl1, sl2, sl3, sl4, sl5, sl6, sl7, sl8, sl9, sl10, sl11, sl12, exists_eq_left', Option.some.injEq, true_and, and_true, T_dct, T_dCons, T_dNil, lenT, lenL, lenK, eq_len, ne_len, T_iItems]
  rw [T_rng1 ho.1 (by omega)]
  refine ⟨by rw [range_len]; exact szz _ (by omega), ?_⟩
  refine T_compE (it := rangeD 0 m.hosts.toNat) (List.range m.hosts.toNat) (fun k : Nat => D.int (0 + (k : Int))) (fun _ => Pc.pairD (0, 0)) rfl trivial (fun x hx => ?_) ?_
  · simp only [wipeD, Pc.pairD, T_run, Then_nx, Then_rt, T_ret, T_drop, T_sif, T_next, T_asg, T_nm, T_gsub, T_setF, T_gtup, T_gtupK, T_gnil, T_gcons, T_C, T_V, T_bin, T_un, T_and, T_or, T_if, T_aNil, T_aCons, T_tup, T_lst, T_new, T_arg, T_meth, T_call, T_callK, T_make, T_fld, T_ch, T_val, T_tru, T_notT, T_andT, T_orT, T_tTrue, T_add, T_sub, T_mul, T_mod, T_fdiv, T_neg, T_lt, T_le, T_gt, T_ge, T_isN, T_isB, T_isNotN, T_isNotB, T_not, T_truB, T_truI, T_truN, T_ok, List.getElem?_cons_zero, List.getElem?_cons_succ, List.set_cons_zero, List.set_cons_succ, List.length_cons, List.length_nil, gAll, true_and, and_true, T_comp, T_iSeq, T_iArg, T_sl, T_oNone, T_oSome, T_for, T_addT, T_addL, T_itT, T_itL, T_ixT, T_ixL, T_ixK, T_atM, if_true, Bool.false_eq_true, if_false, Bool.not_true, Bool.not_false, Bool.true_eq_false, ite_true, ite_false, reduceCtorEq, sl0, sl1, sl2, sl3, sl4, sl5, sl6, sl7, sl8, sl9, sl10, sl11, sl12, exists_eq_left', Option.some.injEq, true_and, and_true, T_dct, T_dCons, T_dNil, lenT, lenL, lenK, eq_len, ne_len, T_iItems]
  rw [map_range]
  simp only [tupL, T_run, Then_nx, Then_rt, T_ret, T_drop, T_sif, T_next, T_asg, T_nm, T_gsub, T_setF, T_gtup, T_gtupK, T_gnil, T_gcons, T_C, T_V, T_bin, T_un, T_and, T_or, T_if, T_aNil, T_aCons, T_tup, T_lst, T_new, T_arg, T_meth, T_call, T_callK, T_make, T_fld, T_ch, T_val, T_tru, T_notT, T_andT, T_orT, T_tTrue, T_add, T_sub, T_mul, T_mod, T_fdiv, T_neg, T_lt, T_le, T_gt, T_ge, T_isN, T_isB, T_isNotN, T_isNotB, T_not, T_truB, T_truI, T_truN, T_ok, List.getElem?_cons_zero, List.getElem?_cons_succ, List.set_cons_zero, List.set_cons_succ, List.length_cons, List.length_nil, gAll, true_and, and_true, T_comp, T_iSeq, T_iArg, T_sl, T_oNone, T_oSome, T_for, T_addT, T_addL, T_itT, T_itL, T_ixT, T_ixL, T_ixK, T_atM, if_true, Bool.false_eq_true, if_false, Bool.not_true, Bool.not_false, Bool.true_eq_false, ite_true, ite_false, reduceCtorEq, sl0, sl1, sl2, sl3, sl4, sl5, sl6, sl7, sl8, sl9, sl10, sl11, sl12, exists_eq_left', Option.some.injEq, true_and, and_true, T_dct, T_dCons, T_dNil, lenT, lenL, lenK, eq_len, ne_len, T_iItems]
  simp only [T_mulT1 (show (0 : Int) ≤ (h : Int) + m.hosts by omega) (by omega), f_ranks hp, T_run, Then_nx, Then_rt, T_ret, T_drop, T_sif, T_next, T_asg, T_nm, T_gsub, T_setF, T_gtup, T_gtupK, T_gnil, T_gcons, T_C, T_V, T_bin, T_un, T_and, T_or, T_if, T_aNil, T_aCons, T_tup, T_lst, T_new, T_arg, T_meth, T_call, T_callK, T_make, T_fld, T_ch, T_val, T_tru, T_notT, T_andT, T_orT, T_tTrue, T_add, T_sub, T_mul, T_mod, T_fdiv, T_neg, T_lt, T_le, T_gt, T_ge, T_isN, T_isB, T_isNotN, T_isNotB, T_not, T_truB, T_truI, T_truN, T_ok, List.getElem?_cons_zero, List.getElem?_cons_succ, List.set_cons_zero, List.set_cons_succ, List.length_cons, List.length_nil, gAll, true_and, and_true, T_comp, T_iSeq, T_iArg, T_sl, T_oNone, T_oSome, T_for, T_addT, T_addL, T_itT, T_itL, T_ixT, T_ixL, T_ixK, T_atM, if_true, Bool.false_eq_true, if_false, Bool.not_true, Bool.not_false, Bool.true_eq_false, ite_true, ite_false, reduceCtorEq, sl0, sl1, sl2, sl3, sl4, sl5, sl6, sl7, sl8, sl9, sl10, sl11, sl12, exists_eq_left', Option.some.injEq, true_and, and_true, T_dct, T_dCons, T_dNil, lenT, lenL, lenK, eq_len, ne_len, T_iItems]
  refine Eq.mpr (congrArg (fun x => P x w) ?_) hP
  have e1 : ((h : Int) + m.hosts).toNat = h + m.hosts.toNat := by omega
  simp only [stD, first, rowD, List.map_replicate, List.map_nil, List.map_map, e1]
  rfl
end
end Lb

set_option Elab.async false
set_option linter.all false
set_option maxRecDepth 100000
set_option maxHeartbeats 4000000
set_option autoImplicit false
/-! L28: what can be shown, by its parts. -/
namespace Lb
open PySem PySem.Spec PyProof.Rows L2 Pc
structure FitD (n d : Nat) (x : D) : Prop where
  ex : ∃ q, (∀ f, x.pyR f = some q) ∧ plainP q = true ∧ q.bulk ≤ n ∧ q.depth ≤ d
structure FitDs (n d : Nat) (xs : List D) : Prop where
  ex : ∃ qs, (∀ f, D.pysR f xs = some qs) ∧ plainPs qs = true ∧ PyData.bulkAll qs ≤ n ∧ PyData.depthAll qs ≤ d
section
variable {n n' d d' : Nat} {x : D} {xs : List D}
theorem FitD.mono (h : FitD n d x) (h1 : n ≤ n') (h2 : d ≤ d') : FitD n' d' x := by
  obtain ⟨q, a, b, c, e⟩ := h.ex
  exact ⟨q, a, b, by omega, by omega⟩
theorem FitD.int {i : Int} (h : i.natAbs < 10 ^ 40) : FitD 0 1 (.int i) := ⟨.int i, fun _ => rfl, by simp only [plainP, decide_eq_true_eq]; exact h, by simp [PyData.bulk], by simp [PyData.depth]⟩
theorem FitD.bl {b : Bool} : FitD 0 1 (.bl b) := ⟨.bool b, fun _ => rfl, by simp [plainP], by simp [PyData.bulk], by simp [PyData.depth]⟩
theorem FitD.str {s : Str} (h : plainP (.str s) = true) : FitD 100 1 (.str s) := by
  refine ⟨.str s, fun _ => rfl, h, ?_, by simp [PyData.depth]⟩
  simp only [plainP, Bool.and_eq_true, decide_eq_true_eq] at h
  exact h.2
theorem FitDs.nil : FitDs 0 0 [] := ⟨[], fun _ => rfl, rfl, by simp [PyData.bulkAll], by simp [PyData.depthAll]⟩
theorem FitDs.cons (h : FitD n d x) (t : FitDs n' d xs) : FitDs (n + 1 + n') d (x :: xs) := by
  obtain ⟨q, a1, a2, a3, a4⟩ := h.ex
  obtain ⟨qs, b1, b2, b3, b4⟩ := t.ex
  refine ⟨q :: qs, fun f => by simp [D.pysR, a1, b1], by simp [plainPs, a2, b2], by simp only [PyData.bulkAll]; omega, ?_⟩
  simp only [PyData.depthAll]
  omega
theorem FitDs.mono (h : FitDs n d xs) (h1 : n ≤ n') (h2 : d ≤ d') : FitDs n' d' xs := by
  obtain ⟨q, a, b, c, e⟩ := h.ex
  exact ⟨q, a, b, by omega, by omega⟩
theorem FitDs.all : ∀ {xs : List D}, (∀ x ∈ xs, FitD n d x) → FitDs (xs.length * (n + 1)) d xs
  | [], _ => FitDs.nil.mono (Nat.zero_le _) (Nat.zero_le _)
  | x :: xs, h => by
    refine (FitDs.cons (h x (List.mem_cons_self ..)) (FitDs.all fun y hy => h y (List.mem_cons_of_mem _ hy))).mono ?_ (Nat.le_refl _)
    rw [List.length_cons, Nat.succ_mul]
    omega
theorem FitD.tup (h : FitDs n d xs) : FitD n (d + 1) (.tup xs) := by
  obtain ⟨qs, b1, b2, b3, b4⟩ := h.ex
  refine ⟨.tuple qs, fun f => by simp [D.pyR, b1], by rw [plainP]; exact b2, by rw [PyData.bulk]; exact b3, by rw [PyData.depth]; omega⟩
theorem FitD.lst (h : FitDs n d xs) : FitD n (d + 1) (.lst xs) := by
  obtain ⟨qs, b1, b2, b3, b4⟩ := h.ex
  refine ⟨.list qs, fun f => by simp [D.pyR, b1], by rw [plainP]; exact b2, by rw [PyData.bulk]; exact b3, by rw [PyData.depth]; omega⟩
theorem FitD.tupAll {c : Nat} (h : ∀ x ∈ xs, FitD n d x) (hl : xs.length ≤ c) : FitD (c * (n + 1)) (d + 1) (.tup xs) :=
  (FitD.tup (FitDs.all h)).mono (Nat.mul_le_mul_right _ hl) (Nat.le_refl _)
theorem FitD.fit (h : FitD n d x) (h1 : n ≤ 200000) (h2 : d ≤ 40) : ∃ q, (∀ w, x.py w = some q) ∧ Fit q := by
  obtain ⟨q, a, b, c, e⟩ := h.ex
  exact ⟨q, fun w => a _, b, by omega, by omega⟩
theorem FitD.row {xs : List Int} {c : Nat} (h : ∀ x ∈ xs, x.natAbs < 10 ^ 40) (hl : xs.length ≤ c) : FitD c 2 (rowD xs) := by
  refine (FitD.tupAll (n := 0) (d := 1) (c := c) (fun y hy => ?_) (by rw [List.length_map]; exact hl)).mono (by omega) (Nat.le_refl _)
  obtain ⟨x, hx, rfl⟩ := List.mem_map.mp hy
  exact FitD.int (h x hx)
theorem FitD.role (r : Role) : FitD 100 1 (.str r.s) := FitD.str (by cases r <;> decide +kernel)
theorem nabs {x : Int} (h0 : -FAR ≤ x) (h1 : x ≤ 10000) (h2 : -10000 ≤ x) : x.natAbs < 10 ^ 40 := nab (by omega) (by omega)
end
/-- a state of small numbers can be shown -/
structure Small (s : Sta) : Prop where
  stand : ∀ r ∈ s.stands, ∀ p ∈ r, p.2.natAbs < 10 ^ 40
  ask : ∀ p ∈ s.asks, p.1.natAbs < 10 ^ 40 ∧ p.2.natAbs < 10 ^ 40
  few : s.letters.length ≤ 1000
theorem st_fit {m : Mo} {h : Nat} {s : Sta} (o : MoB m h) (ok : StaOk m h s) (sm : Small s) : FitD 100000 8 (stD s) := by
  have n4 := o.n4
  have h6 := o.ranks.h6
  have ho := o.hosts
  have lo := o.lost
  have small : ∀ {x : Int}, -100 ≤ x → x ≤ 1000 → x.natAbs < 10 ^ 40 := fun h0 h1 => nab (by omega) (by omega)
  have f1 : FitD 10 6 (rowD s.living) := (FitD.row (c := 10) (fun x hx => by have := ok.living.2 x hx; exact small (by omega) (by omega)) (by have := ok.living.1; omega)).mono (Nat.le_refl _) (by omega)
  have f2 : FitD 10 6 (rowD s.parts) := (FitD.row (c := 10) (fun x hx => by have := ok.parts.2 x hx; exact small (by omega) (by omega)) (by have := ok.parts.1; omega)).mono (Nat.le_refl _) (by omega)
  have f3 : FitD 1000 6 (rowD s.downs) := by
    refine (FitD.row (c := 1000) (fun x hx => by have := (ok.downs.1 x hx).1; exact small (by omega) (by omega)) ?_).mono (Nat.le_refl _) (by omega)
    have : ∀ (l : List Int) (c : Int), l.Pairwise (· < ·) → (∀ x ∈ l, c ≤ x ∧ x ≤ 9) → (l.length : Int) ≤ max 0 (10 - c) := by
      intro l
      induction l with
      | nil => intro c _ _; simp; omega
      | cons a l ih =>
        intro c hp hb
        rw [List.pairwise_cons] at hp
        have ha := hb a (List.mem_cons_self ..)
        have := ih (a + 1) hp.2 fun x hx => ⟨by have := hp.1 x hx; omega, (hb x (List.mem_cons_of_mem _ hx)).2⟩
        simp only [List.length_cons]
        omega
    have := this s.downs 0 ok.downs.2 fun x hx => (ok.downs.1 x hx).1
    omega
  have row10 : ∀ {rs : List (List Int)} {c : Nat}, rs.length ≤ c → (∀ r ∈ rs, r.length ≤ 10 ∧ ∀ x ∈ r, -100 ≤ x ∧ x ≤ 1000) → FitD (c * 11) 3 (.tup (rs.map rowD)) := fun {rs c} hl hr => by
    refine FitD.tupAll (n := 10) (d := 2) (fun y hy => ?_) (by rw [List.length_map]; exact hl)
    obtain ⟨r, hm, rfl⟩ := List.mem_map.mp hy
    exact FitD.row (fun x hx => by have := (hr r hm).2 x hx; exact small (by omega) (by omega)) (hr r hm).1
  have f4 : FitD 44 6 (.tup (s.ranks.map rowD)) := (row10 (c := 4) (by have := ok.ranks.1; omega) fun r hr => ⟨by have := (ok.ranks.2 r hr).1; omega, fun x hx => by have := (ok.ranks.2 r hr).2 x hx; omega⟩).mono (by omega) (by omega)
  have f5 : FitD 10000 6 (.tup (s.stands.map rowsD)) := by
    refine (FitD.tupAll (n := 2000) (d := 3) (c := 4) (fun y hy => ?_) (by rw [List.length_map]; have := ok.stands.1; omega)).mono (by omega) (by omega)
    obtain ⟨r, hm, rfl⟩ := List.mem_map.mp hy
    refine (FitD.tupAll (n := 300) (d := 2) (c := 6) (fun y hy => ?_) (by rw [List.length_map]; have := (ok.stands.2 r hm).1; omega)).mono (by omega) (by omega)
    obtain ⟨p, hp, rfl⟩ := List.mem_map.mp hy
    exact (FitD.tup (FitDs.cons (FitD.role p.1) (FitDs.cons ((FitD.int (sm.stand r hm p hp)).mono (Nat.le_refl _) (Nat.le_refl _)) (FitDs.nil.mono (Nat.le_refl _) (Nat.zero_le _))))).mono (by omega) (by omega)
  have f6 : FitD 20000 6 (.tup (s.letters.map lettD)) := by
    refine (FitD.tupAll (n := 10) (d := 2) (c := 1000) (fun y hy => ?_) (by rw [List.length_map]; exact sm.few)).mono (by omega) (by omega)
    obtain ⟨l, hm, rfl⟩ := List.mem_map.mp hy
    have ol := ok.letters l hm
    have os := o.slow
    obtain ⟨a1, a2⟩ := ol.left
    obtain ⟨b1, b2⟩ := ol.a
    obtain ⟨c1, c2⟩ := ol.s
    obtain ⟨d1, d2⟩ := ol.r
    obtain ⟨e1, e2⟩ := ol.rank
    have := FitD.row (xs := [l.left, l.a, l.s, l.r, l.rank]) (c := 5) (fun x hx => by
      simp only [List.mem_cons, List.not_mem_nil, or_false] at hx
      refine small ?_ ?_ <;> rcases hx with rfl | rfl | rfl | rfl | rfl <;> omega) (by simp)
    exact this.mono (by omega) (Nat.le_refl _)
  have f7 : FitD 1000 6 (.tup (s.lacks.map lackD)) := by
    refine (FitD.tupAll (n := 66) (d := 3) (c := 4) (fun y hy => ?_) (by rw [List.length_map]; have := ok.lacks.1; omega)).mono (by omega) (by omega)
    obtain ⟨l, hm, rfl⟩ := List.mem_map.mp hy
    have ol := ok.lacks.2 l hm
    refine row10 (c := 6) (by omega) fun r hr => ?_
    obtain ⟨j, hj⟩ := List.getElem?_of_mem hr
    obtain ⟨a1, a2, a3⟩ := ol.2 j r hj
    exact ⟨by omega, fun x hx => by have := a2 x hx; omega⟩
  have f8 : FitD 44 6 (.tup (s.tables.map rowD)) := (row10 (c := 4) (by have := ok.tables.1; omega) fun r hr => ⟨by have := (ok.tables.2 r hr).1; omega, fun x hx => by have := (ok.tables.2 r hr).2 x hx; omega⟩).mono (by omega) (by omega)
  have f9 : FitD 12 6 (.tup (s.asks.map Pc.pairD)) := by
    refine (FitD.tupAll (n := 2) (d := 2) (c := 4) (fun y hy => ?_) (by rw [List.length_map]; have := ok.asks.1; omega)).mono (by omega) (by omega)
    obtain ⟨p, hp, rfl⟩ := List.mem_map.mp hy
    have := sm.ask p hp
    exact FitD.row (xs := [p.1, p.2]) (c := 2) (fun x hx => by
      simp only [List.mem_cons, List.not_mem_nil, or_false] at hx
      rcases hx with rfl | rfl
      · exact this.1
      · exact this.2) (by simp)
  exact (FitD.tup (FitDs.cons f1 (FitDs.cons f2 (FitDs.cons f3 (FitDs.cons f4 (FitDs.cons f5 (FitDs.cons f6 (FitDs.cons f7 (FitDs.cons f8 (FitDs.cons f9 (FitDs.nil.mono (Nat.le_refl _) (Nat.zero_le _)))))))))))).mono (by omega) (by omega)
theorem first_small {m : Mo} {h : Nat} {b : Int} (o : MoB m h) (b0 : 0 ≤ b) (b3 : b ≤ 3) : Small (first m b h) := by
  refine ⟨fun r hr p hp => ?_, fun q hq => ?_, by simp [first]⟩
  · simp only [first, List.mem_map] at hr
    obtain ⟨r0, hr0, rfl⟩ := hr
    simp only [List.mem_map] at hp
    obtain ⟨x, hx, rfl⟩ := hp
    have bx := (o.ranks.row r0 hr0).2 x hx
    have wb := wait_bnd (r := x) o b0 b3 (by omega) (by omega)
    have hh := o.hold
    exact nab (by show -100000000 ≤ waitI m b x + m.hold; omega) (by show waitI m b x + m.hold ≤ 100000000; omega)
  · obtain rfl := mem_rep (show q ∈ List.replicate m.hosts.toNat (0, 0) from hq)
    exact ⟨nab (by decide) (by decide), nab (by decide) (by decide)⟩
end Lb

set_option Elab.async false
set_option linter.all false
set_option maxRecDepth 100000
set_option maxHeartbeats 4000000
set_option autoImplicit false
namespace Lb
open PySem PySem.Spec PyProof.Rows L2 Pc
section
variable {σ : Sg} {w : W} {P : D → W → Prop} {PF : Fl → W → Prop} {PU : Unit → W → Prop} {a b : ME}
theorem T_par {i j : Nat} : T (sPar i j (aCons a (aCons b aNil)) σ w) PF = T (a σ w) fun x w1 => T (b σ w1) fun y w2 => PF (.nx ((σ.set i (some x)).set j (some y))) w2 := by
  unfold sPar
  simp only [T_bind, T_aCons, T_aNil]
  congr 1; funext x w1; congr 1; funext y w2
  first | rfl | (simp only [T_ok]; done) | (unfold T; rfl)
theorem T_setS {q : Nat} {kvs : List (Key × D)} {z : Str} {d : D} (hq : q < w.length) : T (setM (.ref q) (.str z) d (w.set q (.dK kvs))) PU = (kvs.length < sizeLine ∧ PU () (w.set q (.dK (putD kvs (.inr z) d)))) := by
  rw [T_setD (List.getElem?_set_self hq), List.set_set]
theorem T_ixS {q : Nat} {kvs : List (Key × D)} {z : Str} (hq : q < w.length) : T (ixM (.ref q) (.str z) (w.set q (.dK kvs))) P = ∃ d, lookD kvs (.inr z) = some d ∧ P d (w.set q (.dK kvs)) := T_ixD (List.getElem?_set_self hq)
theorem put_ranks (m : Mo) (rs : List (List Int)) : putD m.kvs (.inr "ranks") (.tup (rs.map rowD)) = ({ m with ranks := rs } : Mo).kvs := rfl
theorem put_every (m : Mo) (i : Int) : putD m.kvs (.inr "every") (.int i) = ({ m with every := i } : Mo).kvs := rfl
theorem put_lost (m : Mo) (i : Int) : putD m.kvs (.inr "lost") (.int i) = ({ m with lost := i } : Mo).kvs := rfl
theorem put_slow (m : Mo) (i : Int) : putD m.kvs (.inr "slow") (.int i) = ({ m with slow := i } : Mo).kvs := rfl
theorem put_bears (m : Mo) (d : D) : putD m.kvs (.inr "bears") d = ({ m with bears := d } : Mo).kvs := rfl
theorem put_gap (m : Mo) (i : Int) : putD m.kvs (.inr "gap") (.int i) = ({ m with gap := i } : Mo).kvs := rfl
theorem put_hold (m : Mo) (i : Int) : putD m.kvs (.inr "hold") (.int i) = ({ m with hold := i } : Mo).kvs := rfl
theorem put_takes (m : Mo) (i : Bool) : putD m.kvs (.inr "takes") (.bl i) = ({ m with takes := i } : Mo).kvs := rfl
theorem put_ties (m : Mo) (ts : List (Int × Int × Int)) : putD m.kvs (.inr "ties") (.tup (ts.map tieD)) = ({ m with ties := ts } : Mo).kvs := rfl
theorem put_hosts (m : Mo) (i : Int) : putD m.kvs (.inr "hosts") (.int i) = ({ m with hosts := i } : Mo).kvs := rfl
theorem kvs_len (m : Mo) : (m.kvs.length < sizeLine) = True := eq_true (Nat.lt_of_lt_of_le (m := 100) (Nat.le_of_ble_eq_true rfl) (sz _ (by omega)))
end
end Lb

set_option Elab.async false
set_option linter.all false
set_option maxRecDepth 100000
set_option maxHeartbeats 4000000
set_option autoImplicit false
namespace K12
open PySem PySem.Spec PyProof.Rows L2 Pc

def top (i : Nat) : Stmt := PySem.Challenge.pw_onemaster_k12_first_states.main.body.getD i (.Pass ⟨0, 0, 0, 0⟩)
/-- addresses -/
structure Ads where
  C_Plan : Addr
  t_NUMBERS : Addr
  w_Plan_init_ties : Addr
  zz : Unit := ()

def tab_NUMBERS : List (Str × Option D) := [(("every" : Str), some (.ktp [(.int 1), (.int 5)])), (("lost" : Str), some (.ktp [(.int 0), (.int 3)])), (("slow" : Str), some (.ktp [(.int 1), (.int 4)])), (("bears" : Str), some (.ktp [(.int 0), (.int 3)])), (("gap" : Str), some (.ktp [(.int 0), (.int 3)])), (("hold" : Str), some (.ktp [(.int 0), (.int 20)])), (("hosts" : Str), some (.ktp [(.int 0), (.int 4)])), (("takes" : Str), none), (("ties" : Str), none)]
structure Fx (S : Stat) where
  k : Ads
  f_all : S.mg ("all" : Str) = none
  f_bool : S.mg ("bool" : Str) = none
  f_dict : S.mg ("dict" : Str) = none
  f_enumerate : S.mg ("enumerate" : Str) = none
  f_int : S.mg ("int" : Str) = none
  f_isinstance : S.mg ("isinstance" : Str) = none
  f_len : S.mg ("len" : Str) = none
  f_list : S.mg ("list" : Str) = none
  f_range : S.mg ("range" : Str) = none
  f_repr : S.mg ("repr" : Str) = none
  f_sorted : S.mg ("sorted" : Str) = none
  f_str : S.mg ("str" : Str) = none
  f_sum : S.mg ("sum" : Str) = none
  f_tuple : S.mg ("tuple" : Str) = none
  f_zip : S.mg ("zip" : Str) = none
  c_FAR : Glo S ("FAR" : Str) (.int 1000000000000000000000000000000000000000000000000000000000000)
  c_LETTER : Glo S ("LETTER" : Str) (.int 5)
  c_MOST_ADDRESSES : Glo S ("MOST_ADDRESSES" : Str) (.int 4)
  c_MOST_HOUSES : Glo S ("MOST_HOUSES" : Str) (.int 6)
  c_MOST_LESS : Glo S ("MOST_LESS" : Str) (.int 11)
  c_MOST_TIE : Glo S ("MOST_TIE" : Str) (.int 9)
  c_MOST_TIES : Glo S ("MOST_TIES" : Str) (.int 6)
  c_RESTS : Glo S ("RESTS" : Str) (.str ("rests" : Str))
  c_SERVES : Glo S ("SERVES" : Str) (.str ("serves" : Str))
  c_TOP : Glo S ("TOP" : Str) (.int 12)
  c_WAITS : Glo S ("WAITS" : Str) (.str ("waits" : Str))
  c_WORDS : Glo S ("WORDS" : Str) (.int 9)
  c_NUMBERS : Glo S ("NUMBERS" : Str) (.con k.t_NUMBERS)
  T_NUMBERS : KTab S.K S.w k.t_NUMBERS tab_NUMBERS
  gc_Plan : S.mg ("Plan" : Str) = some (.ref k.C_Plan)
  y_Plan : Glo S ("Plan" : Str) (.con k.C_Plan)
  k_Plan : Cls S.K k.C_Plan
  n_Plan_bears : NoAttr S.K k.C_Plan ("bears" : Str)
  n_Plan_every : NoAttr S.K k.C_Plan ("every" : Str)
  n_Plan_gap : NoAttr S.K k.C_Plan ("gap" : Str)
  n_Plan_hold : NoAttr S.K k.C_Plan ("hold" : Str)
  n_Plan_hosts : NoAttr S.K k.C_Plan ("hosts" : Str)
  n_Plan_lost : NoAttr S.K k.C_Plan ("lost" : Str)
  n_Plan_ranks : NoAttr S.K k.C_Plan ("ranks" : Str)
  n_Plan_slow : NoAttr S.K k.C_Plan ("slow" : Str)
  n_Plan_takes : NoAttr S.K k.C_Plan ("takes" : Str)
  n_Plan_ties : NoAttr S.K k.C_Plan ("ties" : Str)
  a__law_deck : Addr
  d__law_deck : FuncData
  F__law_deck : FunD S.K ("_law_deck" : Str) ("_law_deck" : Str) (defArgs (top 45)) (defBody (top 45)) (defScope (top 45)) [] [] a__law_deck d__law_deck
  g__law_deck : S.mg ("_law_deck" : Str) = some (.ref a__law_deck)
  kp__law_deck : PySem.W.keepIn S.K (.ref a__law_deck) = true
  a__law_draw : Addr
  d__law_draw : FuncData
  F__law_draw : FunD S.K ("_law_draw" : Str) ("_law_draw" : Str) (defArgs (top 46)) (defBody (top 46)) (defScope (top 46)) [] [] a__law_draw d__law_draw
  g__law_draw : S.mg ("_law_draw" : Str) = some (.ref a__law_draw)
  kp__law_draw : PySem.W.keepIn S.K (.ref a__law_draw) = true
  a__law_wait : Addr
  d__law_wait : FuncData
  F__law_wait : FunD S.K ("_law_wait" : Str) ("_law_wait" : Str) (defArgs (top 50)) (defBody (top 50)) (defScope (top 50)) [] [] a__law_wait d__law_wait
  g__law_wait : S.mg ("_law_wait" : Str) = some (.ref a__law_wait)
  kp__law_wait : PySem.W.keepIn S.K (.ref a__law_wait) = true
  a__law_due : Addr
  d__law_due : FuncData
  F__law_due : FunD S.K ("_law_due" : Str) ("_law_due" : Str) (defArgs (top 52)) (defBody (top 52)) (defScope (top 52)) [] [] a__law_due d__law_due
  g__law_due : S.mg ("_law_due" : Str) = some (.ref a__law_due)
  kp__law_due : PySem.W.keepIn S.K (.ref a__law_due) = true
  a__law_great : Addr
  d__law_great : FuncData
  F__law_great : FunD S.K ("_law_great" : Str) ("_law_great" : Str) (defArgs (top 51)) (defBody (top 51)) (defScope (top 51)) [] [] a__law_great d__law_great
  g__law_great : S.mg ("_law_great" : Str) = some (.ref a__law_great)
  kp__law_great : PySem.W.keepIn S.K (.ref a__law_great) = true
  a_is_whole : Addr
  d_is_whole : FuncData
  F_is_whole : FunD S.K ("is_whole" : Str) ("is_whole" : Str) (defArgs (top 16)) (defBody (top 16)) (defScope (top 16)) [] [] a_is_whole d_is_whole
  g_is_whole : S.mg ("is_whole" : Str) = some (.ref a_is_whole)
  kp_is_whole : PySem.W.keepIn S.K (.ref a_is_whole) = true
  a_is_within : Addr
  d_is_within : FuncData
  F_is_within : FunD S.K ("is_within" : Str) ("is_within" : Str) (defArgs (top 17)) (defBody (top 17)) (defScope (top 17)) [] [] a_is_within d_is_within
  g_is_within : S.mg ("is_within" : Str) = some (.ref a_is_within)
  kp_is_within : PySem.W.keepIn S.K (.ref a_is_within) = true
  a_are_ranks : Addr
  d_are_ranks : FuncData
  F_are_ranks : FunD S.K ("are_ranks" : Str) ("are_ranks" : Str) (defArgs (top 18)) (defBody (top 18)) (defScope (top 18)) [] [] a_are_ranks d_are_ranks
  g_are_ranks : S.mg ("are_ranks" : Str) = some (.ref a_are_ranks)
  kp_are_ranks : PySem.W.keepIn S.K (.ref a_are_ranks) = true
  a_is_tie : Addr
  d_is_tie : FuncData
  F_is_tie : FunD S.K ("is_tie" : Str) ("is_tie" : Str) (defArgs (top 19)) (defBody (top 19)) (defScope (top 19)) [] [] a_is_tie d_is_tie
  g_is_tie : S.mg ("is_tie" : Str) = some (.ref a_is_tie)
  kp_is_tie : PySem.W.keepIn S.K (.ref a_is_tie) = true
  a_are_ties : Addr
  d_are_ties : FuncData
  F_are_ties : FunD S.K ("are_ties" : Str) ("are_ties" : Str) (defArgs (top 20)) (defBody (top 20)) (defScope (top 20)) [] [] a_are_ties d_are_ties
  g_are_ties : S.mg ("are_ties" : Str) = some (.ref a_are_ties)
  kp_are_ties : PySem.W.keepIn S.K (.ref a_are_ties) = true
  a_is_field : Addr
  d_is_field : FuncData
  F_is_field : FunD S.K ("is_field" : Str) ("is_field" : Str) (defArgs (top 21)) (defBody (top 21)) (defScope (top 21)) [] [] a_is_field d_is_field
  g_is_field : S.mg ("is_field" : Str) = some (.ref a_is_field)
  kp_is_field : PySem.W.keepIn S.K (.ref a_is_field) = true
  a_Plan_init : Addr
  d_Plan_init : FuncData
  F_Plan_init : FunD S.K ("__init__" : Str) ("Plan.__init__" : Str) (defArgs (inClass (top 23) 0)) (defBody (inClass (top 23) 0)) (defScope (inClass (top 23) 0)) [] [(("every" : Str), (.int 1)), (("lost" : Str), (.int 1)), (("slow" : Str), (.int 1)), (("bears" : Str), .non), (("gap" : Str), (.int 1)), (("hold" : Str), (.int 0)), (("takes" : Str), (.bl true)), (("ties" : Str), (.ref k.w_Plan_init_ties)), (("hosts" : Str), (.int 0))] a_Plan_init d_Plan_init
  M_Plan : Mk S.K k.C_Plan a_Plan_init
  a__law_made : Addr
  d__law_made : FuncData
  F__law_made : FunD S.K ("_law_made" : Str) ("_law_made" : Str) (defArgs (top 49)) (defBody (top 49)) (defScope (top 49)) [] [] a__law_made d__law_made
  g__law_made : S.mg ("_law_made" : Str) = some (.ref a__law_made)
  kp__law_made : PySem.W.keepIn S.K (.ref a__law_made) = true
  a__law_pick : Addr
  d__law_pick : FuncData
  F__law_pick : FunD S.K ("_law_pick" : Str) ("_law_pick" : Str) (defArgs (top 47)) (defBody (top 47)) (defScope (top 47)) [] [] a__law_pick d__law_pick
  g__law_pick : S.mg ("_law_pick" : Str) = some (.ref a__law_pick)
  kp__law_pick : PySem.W.keepIn S.K (.ref a__law_pick) = true
  a__law_model : Addr
  d__law_model : FuncData
  F__law_model : FunD S.K ("_law_model" : Str) ("_law_model" : Str) (defArgs (top 48)) (defBody (top 48)) (defScope (top 48)) [] [] a__law_model d__law_model
  g__law_model : S.mg ("_law_model" : Str) = some (.ref a__law_model)
  kp__law_model : PySem.W.keepIn S.K (.ref a__law_model) = true
  a_Plan_len : Addr
  d_Plan_len : FuncData
  F_Plan_len : FunD S.K ("__len__" : Str) ("Plan.__len__" : Str) (defArgs (inClass (top 23) 2)) (defBody (inClass (top 23) 2)) (defScope (inClass (top 23) 2)) [] [] a_Plan_len d_Plan_len
  L_Plan_len : Meth S.K k.C_Plan ("__len__" : Str) a_Plan_len
  a_heard_within : Addr
  d_heard_within : FuncData
  F_heard_within : FunD S.K ("heard_within" : Str) ("heard_within" : Str) (defArgs (top 25)) (defBody (top 25)) (defScope (top 25)) [] [] a_heard_within d_heard_within
  g_heard_within : S.mg ("heard_within" : Str) = some (.ref a_heard_within)
  kp_heard_within : PySem.W.keepIn S.K (.ref a_heard_within) = true
  a_wait_of : Addr
  d_wait_of : FuncData
  F_wait_of : FunD S.K ("wait_of" : Str) ("wait_of" : Str) (defArgs (top 26)) (defBody (top 26)) (defScope (top 26)) [] [] a_wait_of d_wait_of
  g_wait_of : S.mg ("wait_of" : Str) = some (.ref a_wait_of)
  kp_wait_of : PySem.W.keepIn S.K (.ref a_wait_of) = true
  a_first_state : Addr
  d_first_state : FuncData
  F_first_state : FunD S.K ("first_state" : Str) ("first_state" : Str) (defArgs (top 34)) (defBody (top 34)) (defScope (top 34)) [] [] a_first_state d_first_state
  g_first_state : S.mg ("first_state" : Str) = some (.ref a_first_state)
  kp_first_state : PySem.W.keepIn S.K (.ref a_first_state) = true
  a_are_within : Addr
  d_are_within : FuncData
  F_are_within : FunD S.K ("are_within" : Str) ("are_within" : Str) (defArgs (top 35)) (defBody (top 35)) (defScope (top 35)) [] [] a_are_within d_are_within
  g_are_within : S.mg ("are_within" : Str) = some (.ref a_are_within)
  kp_are_within : PySem.W.keepIn S.K (.ref a_are_within) = true
  a_is_table : Addr
  d_is_table : FuncData
  F_is_table : FunD S.K ("is_table" : Str) ("is_table" : Str) (defArgs (top 36)) (defBody (top 36)) (defScope (top 36)) [] [] a_is_table d_is_table
  g_is_table : S.mg ("is_table" : Str) = some (.ref a_is_table)
  kp_is_table : PySem.W.keepIn S.K (.ref a_is_table) = true
  a_are_asks : Addr
  d_are_asks : FuncData
  F_are_asks : FunD S.K ("are_asks" : Str) ("are_asks" : Str) (defArgs (top 42)) (defBody (top 42)) (defScope (top 42)) [] [] a_are_asks d_are_asks
  g_are_asks : S.mg ("are_asks" : Str) = some (.ref a_are_asks)
  kp_are_asks : PySem.W.keepIn S.K (.ref a_are_asks) = true
  a_are_downs : Addr
  d_are_downs : FuncData
  F_are_downs : FunD S.K ("are_downs" : Str) ("are_downs" : Str) (defArgs (top 37)) (defBody (top 37)) (defScope (top 37)) [] [] a_are_downs d_are_downs
  g_are_downs : S.mg ("are_downs" : Str) = some (.ref a_are_downs)
  kp_are_downs : PySem.W.keepIn S.K (.ref a_are_downs) = true
  a_are_lacks : Addr
  d_are_lacks : FuncData
  F_are_lacks : FunD S.K ("are_lacks" : Str) ("are_lacks" : Str) (defArgs (top 41)) (defBody (top 41)) (defScope (top 41)) [] [] a_are_lacks d_are_lacks
  g_are_lacks : S.mg ("are_lacks" : Str) = some (.ref a_are_lacks)
  kp_are_lacks : PySem.W.keepIn S.K (.ref a_are_lacks) = true
  a_is_stand : Addr
  d_is_stand : FuncData
  F_is_stand : FunD S.K ("is_stand" : Str) ("is_stand" : Str) (defArgs (top 38)) (defBody (top 38)) (defScope (top 38)) [] [] a_is_stand d_is_stand
  g_is_stand : S.mg ("is_stand" : Str) = some (.ref a_is_stand)
  kp_is_stand : PySem.W.keepIn S.K (.ref a_is_stand) = true
  a_are_stands : Addr
  d_are_stands : FuncData
  F_are_stands : FunD S.K ("are_stands" : Str) ("are_stands" : Str) (defArgs (top 39)) (defBody (top 39)) (defScope (top 39)) [] [] a_are_stands d_are_stands
  g_are_stands : S.mg ("are_stands" : Str) = some (.ref a_are_stands)
  kp_are_stands : PySem.W.keepIn S.K (.ref a_are_stands) = true
  a_is_letter : Addr
  d_is_letter : FuncData
  F_is_letter : FunD S.K ("is_letter" : Str) ("is_letter" : Str) (defArgs (top 40)) (defBody (top 40)) (defScope (top 40)) [] [] a_is_letter d_is_letter
  g_is_letter : S.mg ("is_letter" : Str) = some (.ref a_is_letter)
  kp_is_letter : PySem.W.keepIn S.K (.ref a_is_letter) = true
  a_is_state : Addr
  d_is_state : FuncData
  F_is_state : FunD S.K ("is_state" : Str) ("is_state" : Str) (defArgs (top 43)) (defBody (top 43)) (defScope (top 43)) [] [] a_is_state d_is_state
  g_is_state : S.mg ("is_state" : Str) = some (.ref a_is_state)
  kp_is_state : PySem.W.keepIn S.K (.ref a_is_state) = true
  a_law : Addr
  d_law : FuncData
  F_law : FunD S.K ("law" : Str) ("law" : Str) (defArgs (top 53)) (defBody (top 53)) (defScope (top 53)) [] [] a_law d_law
  g_law : S.mg ("law" : Str) = some (.ref a_law)
  kp_law : PySem.W.keepIn S.K (.ref a_law) = true

/-! ### _law_deck -/
def N__law_deck : List Str := [("_law_script" : Str), ("_law_some" : Str), ("_law_cell" : Str)]
def p__law_deck : List Str := [("_law_script" : Str)]
abbrev s__law_deck : Scope := defScope (top 45)
noncomputable def b__law_deck (k : Ads) : MS :=
  (sSeq (sAsg (eUn revN (eArg listM (aCons (eSl slM (eVar 0) oNone (oSome (eC (.int 63)))) aNil))) (gNm 1))
  (sRet (eNew (aCons (eVar 1) (aCons (eBin addM (eArg sumM (aCons (eComp (iSeq (eVar 1)) [2] (gNm 2) tTrue (eBin modM (eVar 2) (eC (.int 2147483629)))) aNil)) (eBin mulM (eC (.int 13)) (eArg lenM (aCons (eVar 1) aNil)))) (aCons (eC (.int 0)) aNil))))))
noncomputable def m__law_deck (k : Ads) : MF := runB (b__law_deck k) N__law_deck
theorem sc__law_deck : FnScope N__law_deck p__law_deck s__law_deck := scope_by (by decide +kernel)
theorem jb__law_deck {S : Stat} (h : Fx S) : JSs (S.body 0 N__law_deck s__law_deck) (defBody (top 45)) (b__law_deck h.k) :=
  (jss_cons (jsn 1 (je_revN (je_callT cb_list rfl h.f_list rfl (ja_cons (je_sl sl_ok (jv 0) jo_none (jo_some je_int)) ja_nil))))
  (jss_one (js_ret (je_new (ja_cons (jv 1) (ja_cons (je_bin o2_add (je_callB cb_sum rfl h.f_sum rfl (ja_cons (je_comp (own := [(("_law_cell" : Str), 2)]) (ji_seq (jv 1)) (by kernel_rfl) (jcn 2) jts_nil (je_bin o2_mod (jv 2) je_int)) ja_nil)) (je_bin o2_mul je_int (je_callB cb_len rfl h.f_len rfl (ja_cons (jv 1) ja_nil)))) (ja_cons je_int ja_nil)))))))
theorem fn__law_deck {S : Stat} (h : Fx S) : FnG S.P S.w S.K S.mg S.base 1 h.a__law_deck h.d__law_deck p__law_deck (m__law_deck h.k) := FnG.of h.F__law_deck sc__law_deck (jb__law_deck h) fun _ _ _ => .rfl'
theorem bn__law_deck {S : Stat} (h : Fx S) : BindG S.K h.d__law_deck p__law_deck 1 [] gAll := bindG_all h.F__law_deck fun _ _ _ _ _ _ us hl => match us, hl with
  | [_], _ => rfl

/-! ### _law_draw -/
def N__law_draw : List Str := [("_law_deck_here" : Str), ("_law_size" : Str), ("_law_cell" : Str), ("_law_number" : Str)]
def p__law_draw : List Str := [("_law_deck_here" : Str), ("_law_size" : Str)]
abbrev s__law_draw : Scope := defScope (top 46)
noncomputable def b__law_draw (k : Ads) : MS :=
  (sSeq (sAsg (eBin addM (eBin ixM (eVar 0) (eC (.int 2))) (eC (.int 1))) (gSubM (eVar 0) (eC (.int 2))))
  (sSeq (sAsg (eBin ixM (eVar 0) (eC (.int 1))) (gNm 2))
  (sSeq (sIf (tVal (eBin neM (eBin ixM (eVar 0) (eC (.int 0))) (eLst aNil))) (sSeq (sAsg (eMeth "list" popM (eBin ixM (eVar 0) (eC (.int 0))) aNil) (gNm 2))
  (sIf (tVal (eBin geM (eVar 2) (eBin powM (eC (.int 10)) (eC (.int 18))))) (sSeq (sDrop (eMeth "list" appendM (eBin ixM (eVar 0) (eC (.int 0))) (aCons (eBin fdivM (eVar 2) (eVar 1)) aNil)))
  (sRet (eBin modM (eVar 2) (eVar 1)))) sNext)) sNext)
  (sSeq (sAsg (eBin modM (eBin mulM (eBin addM (eBin addM (eBin modM (eVar 2) (eC (.int 2147483629))) (eBin mulM (eC (.int 15485863)) (eBin ixM (eVar 0) (eC (.int 2))))) (eC (.int 5))) (eC (.int 48271))) (eC (.int 2147483647))) (gNm 3))
  (sSeq (sAsg (eBin modM (eBin addM (eBin addM (eBin mulM (eVar 3) (eVar 3)) (eBin mulM (eC (.int 69621)) (eVar 3))) (eBin ixM (eVar 0) (eC (.int 2)))) (eC (.int 2147483587))) (gNm 3))
  (sRet (eBin modM (eBin fdivM (eBin modM (eBin mulM (eVar 3) (eBin addM (eBin fdivM (eVar 3) (eC (.int 7))) (eC (.int 39373)))) (eC (.int 2147483563))) (eC (.int 64))) (eVar 1))))))))
noncomputable def m__law_draw (k : Ads) : MF := runB (b__law_draw k) N__law_draw
theorem sc__law_draw : FnScope N__law_draw p__law_draw s__law_draw := scope_by (by decide +kernel)
theorem jb__law_draw {S : Stat} (h : Fx S) : JSs (S.body 0 N__law_draw s__law_draw) (defBody (top 46)) (b__law_draw h.k) :=
  (jss_cons (js_asg (je_bin o2_add (je_ix (jv 0) je_int) je_int) (jg_sub (jv 0) je_int))
  (jss_cons (jsn 2 (je_ix (jv 0) je_int))
  (jss_cons (js_if (jt_cmp o2_ne (je_ix (jv 0) je_int) (je_lst ja_nil)) (jss_cons (jsn 2 (je_meth0 PySem.F.plainAttrs_list PySem.F.slot_list_pop mb_pop (je_ix (jv 0) je_int)))
  (jss_one (js_if (jt_cmp o2_ge (jv 2) (je_bin o2_pow je_int je_int)) (jss_cons (js_drop (je_meth PySem.F.plainAttrs_list PySem.F.slot_list_append mb_append (je_ix (jv 0) je_int) (ja_cons (je_bin o2_fdiv (jv 2) (jv 1)) ja_nil)))
  (jss_one (js_ret (je_bin o2_mod (jv 2) (jv 1))))) jss_nil))) jss_nil)
  (jss_cons (jsn 3 (je_bin o2_mod (je_bin o2_mul (je_bin o2_add (je_bin o2_add (je_bin o2_mod (jv 2) je_int) (je_bin o2_mul je_int (je_ix (jv 0) je_int))) je_int) je_int) je_int))
  (jss_cons (jsn 3 (je_bin o2_mod (je_bin o2_add (je_bin o2_add (je_bin o2_mul (jv 3) (jv 3)) (je_bin o2_mul je_int (jv 3))) (je_ix (jv 0) je_int)) je_int))
  (jss_one (js_ret (je_bin o2_mod (je_bin o2_fdiv (je_bin o2_mod (je_bin o2_mul (jv 3) (je_bin o2_add (je_bin o2_fdiv (jv 3) je_int) je_int)) je_int) je_int) (jv 1)))))))))
theorem fn__law_draw {S : Stat} (h : Fx S) : FnG S.P S.w S.K S.mg S.base 1 h.a__law_draw h.d__law_draw p__law_draw (m__law_draw h.k) := FnG.of h.F__law_draw sc__law_draw (jb__law_draw h) fun _ _ _ => .rfl'
theorem bn__law_draw {S : Stat} (h : Fx S) : BindG S.K h.d__law_draw p__law_draw 2 [] gAll := bindG_all h.F__law_draw fun _ _ _ _ _ _ us hl => match us, hl with
  | [_, _], _ => rfl

/-! ### _law_wait -/
def N__law_wait : List Str := [("_law_model_here" : Str), ("_law_rank" : Str), ("_law_far" : Str)]
def p__law_wait : List Str := [("_law_model_here" : Str), ("_law_rank" : Str)]
abbrev s__law_wait : Scope := defScope (top 50)
noncomputable def b__law_wait (k : Ads) : MS :=
  (sSeq (sAsg (eBin addM (eBin mulM (eBin addM (eBin ixM (eVar 0) (eC (.str ("bears" : Str)))) (eC (.int 1))) (eBin ixM (eVar 0) (eC (.str ("every" : Str))))) (eBin ixM (eVar 0) (eC (.str ("slow" : Str))))) (gNm 2))
  (sRet (eBin addM (eVar 2) (eBin mulM (eBin ixM (eVar 0) (eC (.str ("gap" : Str)))) (eBin subM (eC (.int 12)) (eVar 1))))))
noncomputable def m__law_wait (k : Ads) : MF := runB (b__law_wait k) N__law_wait
theorem sc__law_wait : FnScope N__law_wait p__law_wait s__law_wait := scope_by (by decide +kernel)
theorem jb__law_wait {S : Stat} (h : Fx S) : JSs (S.body 0 N__law_wait s__law_wait) (defBody (top 50)) (b__law_wait h.k) :=
  (jss_cons (jsn 2 (je_bin o2_add (je_bin o2_mul (je_bin o2_add (je_ix (jv 0) je_str) je_int) (je_ix (jv 0) je_str)) (je_ix (jv 0) je_str)))
  (jss_one (js_ret (je_bin o2_add (jv 2) (je_bin o2_mul (je_ix (jv 0) je_str) (je_bin o2_sub je_int (jv 1)))))))
theorem fn__law_wait {S : Stat} (h : Fx S) : FnG S.P S.w S.K S.mg S.base 1 h.a__law_wait h.d__law_wait p__law_wait (m__law_wait h.k) := FnG.of h.F__law_wait sc__law_wait (jb__law_wait h) fun _ _ _ => .rfl'
theorem bn__law_wait {S : Stat} (h : Fx S) : BindG S.K h.d__law_wait p__law_wait 2 [] gAll := bindG_all h.F__law_wait fun _ _ _ _ _ _ us hl => match us, hl with
  | [_, _], _ => rfl

/-! ### _law_due -/
def N__law_due : List Str := [("_law_model_here" : Str), ("_law_many" : Str), ("_law_far" : Str), ("_law_stands" : Str), ("_law_losses" : Str), ("_law_row" : Str), ("_law_tables" : Str), ("_law_whole" : Str), ("_law_rank" : Str)]
def p__law_due : List Str := [("_law_model_here" : Str)]
abbrev s__law_due : Scope := defScope (top 52)
noncomputable def b__law_due (k : Ads) : MS :=
  (sSeq (sPar 1 2 (aCons (eArg lenM (aCons (eBin ixM (eBin ixM (eVar 0) (eC (.str ("ranks" : Str)))) (eC (.int 0))) aNil)) (aCons (eBin addM (eArg lenM (aCons (eBin ixM (eBin ixM (eVar 0) (eC (.str ("ranks" : Str)))) (eC (.int 0))) aNil)) (eBin ixM (eVar 0) (eC (.str ("hosts" : Str))))) aNil)))
  (sSeq (sPar 3 4 (aCons (eNew aNil) (aCons (eNew aNil) aNil)))
  (sSeq (sFor (iSeq (eBin ixM (eVar 0) (eC (.str ("ranks" : Str))))) (gNm 5) (sSeq (sDrop (eMeth "list" appendM (eVar 3) (aCons (eArg tupM (aCons (eComp (iSeq (eVar 5)) [8] (gNm 8) tTrue (eTup (aCons (eC (.str ("waits" : Str))) (aCons (eBin addM (eCall (m__law_wait k) 2 gAll (aCons (eVar 0) (aCons (eVar 8) aNil))) (eBin ixM (eVar 0) (eC (.str ("hold" : Str))))) aNil)))) aNil)) aNil)))
  (sDrop (eMeth "list" appendM (eVar 4) (aCons (eBin mulT (eTup (aCons (eBin mulT (eTup (aCons (eC (.int 0)) aNil)) (eVar 2)) aNil)) (eVar 1)) aNil)))))
  (sSeq (sAsg (eBin mulT (eTup (aCons (eBin mulT (eTup (aCons (eUn negM (eC (.int 1))) aNil)) (eArg lenM (aCons (eBin ixM (eVar 0) (eC (.str ("ranks" : Str)))) aNil))) aNil)) (eBin ixM (eVar 0) (eC (.str ("hosts" : Str))))) (gNm 6))
  (sSeq (sAsg (eTup (aCons (eBin mulT (eTup (aCons (eC (.int 1)) aNil)) (eVar 1)) (aCons (eBin mulT (eTup (aCons (eC (.int 0)) aNil)) (eVar 2)) (aCons (eTup aNil) (aCons (eBin ixM (eVar 0) (eC (.str ("ranks" : Str)))) (aCons (eArg tupM (aCons (eVar 3) aNil)) (aCons (eTup aNil) (aCons (eArg tupM (aCons (eVar 4) aNil)) (aCons (eVar 6) aNil))))))))) (gNm 7))
  (sRet (eBin addM (eVar 7) (eTup (aCons (eBin mulT (eTup (aCons (eTup (aCons (eC (.int 0)) (aCons (eC (.int 0)) aNil))) aNil)) (eBin ixM (eVar 0) (eC (.str ("hosts" : Str))))) aNil)))))))))
noncomputable def m__law_due (k : Ads) : MF := runB (b__law_due k) N__law_due
theorem sc__law_due : FnScope N__law_due p__law_due s__law_due := scope_by (by decide +kernel)
theorem jb__law_due {S : Stat} (h : Fx S) : JSs (S.body 1 N__law_due s__law_due) (defBody (top 52)) (b__law_due h.k) :=
  (jss_cons (js_par 1 2 (ja_cons (je_callB cb_len rfl h.f_len rfl (ja_cons (je_ix (je_ix (jv 0) je_str) je_int) ja_nil)) (ja_cons (je_bin o2_add (je_callB cb_len rfl h.f_len rfl (ja_cons (je_ix (je_ix (jv 0) je_str) je_int) ja_nil)) (je_ix (jv 0) je_str)) ja_nil)))
  (jss_cons (js_par 3 4 (ja_cons (je_new ja_nil) (ja_cons (je_new ja_nil) ja_nil)))
  (jss_cons (js_for (ji_seq (je_ix (jv 0) je_str)) (jgn 5) (jss_cons (js_drop (je_meth PySem.F.plainAttrs_list PySem.F.slot_list_append mb_append (jv 3) (ja_cons (je_callT cb_tuple rfl h.f_tuple rfl (ja_cons (je_comp (own := [(("_law_rank" : Str), 8)]) (ji_seq (jv 5)) (by kernel_rfl) (jcn 8) jts_nil (je_tup (ja_cons je_str (ja_cons (je_bin o2_add (je_call (Nat.le_of_ble_eq_true rfl) (fn__law_wait h) (bn__law_wait h) rfl h.g__law_wait h.kp__law_wait (ja_cons (jv 0) (ja_cons (jv 8) ja_nil))) (je_ix (jv 0) je_str)) ja_nil)))) ja_nil)) ja_nil)))
  (jss_one (js_drop (je_meth PySem.F.plainAttrs_list PySem.F.slot_list_append mb_append (jv 4) (ja_cons (je_bin o2_mulT (je_tup (ja_cons (je_bin o2_mulT (je_tup (ja_cons je_int ja_nil)) (jv 2)) ja_nil)) (jv 1)) ja_nil))))))
  (jss_cons (jsn 6 (je_bin o2_mulT (je_tup (ja_cons (je_bin o2_mulT (je_tup (ja_cons (je_un o1_neg je_int) ja_nil)) (je_callB cb_len rfl h.f_len rfl (ja_cons (je_ix (jv 0) je_str) ja_nil))) ja_nil)) (je_ix (jv 0) je_str)))
  (jss_cons (jsn 7 (je_tup (ja_cons (je_bin o2_mulT (je_tup (ja_cons je_int ja_nil)) (jv 1)) (ja_cons (je_bin o2_mulT (je_tup (ja_cons je_int ja_nil)) (jv 2)) (ja_cons (je_tup ja_nil) (ja_cons (je_ix (jv 0) je_str) (ja_cons (je_callT cb_tuple rfl h.f_tuple rfl (ja_cons (jv 3) ja_nil)) (ja_cons (je_tup ja_nil) (ja_cons (je_callT cb_tuple rfl h.f_tuple rfl (ja_cons (jv 4) ja_nil)) (ja_cons (jv 6) ja_nil))))))))))
  (jss_one (js_ret (je_bin o2_add (jv 7) (je_tup (ja_cons (je_bin o2_mulT (je_tup (ja_cons (je_tup (ja_cons je_int (ja_cons je_int ja_nil))) ja_nil)) (je_ix (jv 0) je_str)) ja_nil))))))))))
theorem fn__law_due {S : Stat} (h : Fx S) : FnG S.P S.w S.K S.mg S.base 2 h.a__law_due h.d__law_due p__law_due (m__law_due h.k) := FnG.of h.F__law_due sc__law_due (jb__law_due h) fun _ _ _ => .rfl'
theorem bn__law_due {S : Stat} (h : Fx S) : BindG S.K h.d__law_due p__law_due 1 [] gAll := bindG_all h.F__law_due fun _ _ _ _ _ _ us hl => match us, hl with
  | [_], _ => rfl

/-! ### _law_great -/
def N__law_great : List Str := [("_law_deck_here" : Str), ("_law_model_here" : Str), ("_law_found" : Str), ("_law_a" : Str), ("_law_h" : Str)]
def p__law_great : List Str := [("_law_deck_here" : Str), ("_law_model_here" : Str)]
abbrev s__law_great : Scope := defScope (top 51)
noncomputable def b__law_great (k : Ads) : MS :=
  (sSeq (sIf (tVal (eBin neM (eCall (m__law_draw k) 2 gAll (aCons (eVar 0) (aCons (eC (.int 4)) aNil))) (eC (.int 1)))) (sRet (eVar 1)) sNext)
  (sSeq (sAsg (eArg dictN (aCons (eVar 1) aNil)) (gNm 2))
  (sSeq (sAsg (eArg tupM (aCons (eComp (iArg rng1 (aCons (eC (.int 4)) aNil)) [3] (gNm 3) tTrue (eArg tupM (aCons (eComp (iArg rng1 (aCons (eC (.int 6)) aNil)) [4] (gNm 4) tTrue (eBin addM (eC (.int 1)) (eCall (m__law_draw k) 2 gAll (aCons (eVar 0) (aCons (eC (.int 12)) aNil))))) aNil))) aNil)) (gSubM (eVar 2) (eC (.str ("ranks" : Str)))))
  (sSeq (sAsg (eTup (aCons (eC (.int 4)) (aCons (eArg tupM (aCons (eComp (iArg rng1 (aCons (eC (.int 6)) aNil)) [4] (gNm 4) tTrue (eTup (aCons (eVar 4) (aCons (eBin subM (eC (.int 9)) (eVar 4)) (aCons (eC (.int 11)) aNil))))) aNil)) aNil))) (gTupM 2 (gsCons (gSubM (eVar 2) (eC (.str ("hosts" : Str)))) (gsCons (gSubM (eVar 2) (eC (.str ("ties" : Str)))) gsNil))))
  (sSeq (sAsg (eTup (aCons (eC (.int 5)) (aCons (eC (.int 3)) (aCons (eC (.int 4)) aNil)))) (gTupM 3 (gsCons (gSubM (eVar 2) (eC (.str ("every" : Str)))) (gsCons (gSubM (eVar 2) (eC (.str ("lost" : Str)))) (gsCons (gSubM (eVar 2) (eC (.str ("slow" : Str)))) gsNil)))))
  (sSeq (sAsg (eTup (aCons (eC (.int 3)) (aCons (eC (.int 3)) (aCons (eC (.int 20)) aNil)))) (gTupM 3 (gsCons (gSubM (eVar 2) (eC (.str ("bears" : Str)))) (gsCons (gSubM (eVar 2) (eC (.str ("gap" : Str)))) (gsCons (gSubM (eVar 2) (eC (.str ("hold" : Str)))) gsNil)))))
  (sRet (eVar 2))))))))
noncomputable def m__law_great (k : Ads) : MF := runB (b__law_great k) N__law_great
theorem sc__law_great : FnScope N__law_great p__law_great s__law_great := scope_by (by decide +kernel)
theorem jb__law_great {S : Stat} (h : Fx S) : JSs (S.body 1 N__law_great s__law_great) (defBody (top 51)) (b__law_great h.k) :=
  (jss_cons (js_if (jt_cmp o2_ne (je_call (Nat.le_of_ble_eq_true rfl) (fn__law_draw h) (bn__law_draw h) rfl h.g__law_draw h.kp__law_draw (ja_cons (jv 0) (ja_cons je_int ja_nil))) je_int) (jss_one (js_ret (jv 1))) jss_nil)
  (jss_cons (jsn 2 (je_callT cb_dictN rfl h.f_dict rfl (ja_cons (jv 1) ja_nil)))
  (jss_cons (js_asg (je_callT cb_tuple rfl h.f_tuple rfl (ja_cons (je_comp (own := [(("_law_a" : Str), 3)]) (ji_range1 rfl h.f_range (ja_cons je_int ja_nil)) (by kernel_rfl) (jcn 3) jts_nil (je_callT cb_tuple rfl h.f_tuple rfl (ja_cons (je_comp (own := [(("_law_h" : Str), 4)]) (ji_range1 rfl h.f_range (ja_cons je_int ja_nil)) (by kernel_rfl) (jcn 4) jts_nil (je_bin o2_add je_int (je_call (Nat.le_of_ble_eq_true rfl) (fn__law_draw h) (bn__law_draw h) rfl h.g__law_draw h.kp__law_draw (ja_cons (jv 0) (ja_cons je_int ja_nil))))) ja_nil))) ja_nil)) (jg_sub (jv 2) je_str))
  (jss_cons (js_asg (je_tup (ja_cons je_int (ja_cons (je_callT cb_tuple rfl h.f_tuple rfl (ja_cons (je_comp (own := [(("_law_h" : Str), 4)]) (ji_range1 rfl h.f_range (ja_cons je_int ja_nil)) (by kernel_rfl) (jcn 4) jts_nil (je_tup (ja_cons (jv 4) (ja_cons (je_bin o2_sub je_int (jv 4)) (ja_cons je_int ja_nil))))) ja_nil)) ja_nil))) (jg_tup (n := 2) (jgs_cons (jg_sub (jv 2) je_str) (jgs_cons (jg_sub (jv 2) je_str) jgs_nil))) (hw := sw_no2))
  (jss_cons (js_asg (je_tup (ja_cons je_int (ja_cons je_int (ja_cons je_int ja_nil)))) (jg_tup (n := 3) (jgs_cons (jg_sub (jv 2) je_str) (jgs_cons (jg_sub (jv 2) je_str) (jgs_cons (jg_sub (jv 2) je_str) jgs_nil)))) (hw := sw_no3))
  (jss_cons (js_asg (je_tup (ja_cons je_int (ja_cons je_int (ja_cons je_int ja_nil)))) (jg_tup (n := 3) (jgs_cons (jg_sub (jv 2) je_str) (jgs_cons (jg_sub (jv 2) je_str) (jgs_cons (jg_sub (jv 2) je_str) jgs_nil)))) (hw := sw_no3))
  (jss_one (js_ret (jv 2)))))))))
theorem fn__law_great {S : Stat} (h : Fx S) : FnG S.P S.w S.K S.mg S.base 2 h.a__law_great h.d__law_great p__law_great (m__law_great h.k) := FnG.of h.F__law_great sc__law_great (jb__law_great h) fun _ _ _ => .rfl'
theorem bn__law_great {S : Stat} (h : Fx S) : BindG S.K h.d__law_great p__law_great 2 [] gAll := bindG_all h.F__law_great fun _ _ _ _ _ _ us hl => match us, hl with
  | [_, _], _ => rfl

/-! ### is_whole -/
def N_is_whole : List Str := [("thing" : Str)]
def p_is_whole : List Str := [("thing" : Str)]
abbrev s_is_whole : Scope := defScope (top 16)
noncomputable def b_is_whole (k : Ads) : MS :=
  (sRet (eAnd (eArg (isiM noKc) (aCons (eVar 0) (aCons (eC (.ty "int")) aNil))) (eUn notM (eArg (isiM noKc) (aCons (eVar 0) (aCons (eC (.ty "bool")) aNil))))))
noncomputable def m_is_whole (k : Ads) : MF := runB (b_is_whole k) N_is_whole
theorem sc_is_whole : FnScope N_is_whole p_is_whole s_is_whole := scope_by (by decide +kernel)
theorem jb_is_whole {S : Stat} (h : Fx S) : JSs (S.body 0 N_is_whole s_is_whole) (defBody (top 16)) (b_is_whole h.k) :=
  (jss_one (js_ret (je_and (je_callB (cb_isi noKc_ok) rfl h.f_isinstance rfl (ja_cons (jv 0) (ja_cons (je_bty rfl h.f_int rfl) ja_nil))) (je_one (je_not (je_callB (cb_isi noKc_ok) rfl h.f_isinstance rfl (ja_cons (jv 0) (ja_cons (je_bty rfl h.f_bool rfl) ja_nil))))))))
theorem fn_is_whole {S : Stat} (h : Fx S) : FnG S.P S.w S.K S.mg S.base 1 h.a_is_whole h.d_is_whole p_is_whole (m_is_whole h.k) := FnG.of h.F_is_whole sc_is_whole (jb_is_whole h) fun _ _ _ => .rfl'
theorem bn_is_whole {S : Stat} (h : Fx S) : BindG S.K h.d_is_whole p_is_whole 1 [] gAll := bindG_all h.F_is_whole fun _ _ _ _ _ _ us hl => match us, hl with
  | [_], _ => rfl

/-! ### is_within -/
def N_is_within : List Str := [("thing" : Str), ("least" : Str), ("most" : Str)]
def p_is_within : List Str := [("thing" : Str), ("least" : Str), ("most" : Str)]
abbrev s_is_within : Scope := defScope (top 17)
noncomputable def b_is_within (k : Ads) : MS :=
  (sRet (eAnd (eCall (m_is_whole k) 1 gAll (aCons (eVar 0) aNil)) (eCh leM leM (eVar 1) (eVar 0) (eVar 2))))
noncomputable def m_is_within (k : Ads) : MF := runB (b_is_within k) N_is_within
theorem sc_is_within : FnScope N_is_within p_is_within s_is_within := scope_by (by decide +kernel)
theorem jb_is_within {S : Stat} (h : Fx S) : JSs (S.body 1 N_is_within s_is_within) (defBody (top 17)) (b_is_within h.k) :=
  (jss_one (js_ret (je_and (je_call (Nat.le_of_ble_eq_true rfl) (fn_is_whole h) (bn_is_whole h) rfl h.g_is_whole h.kp_is_whole (ja_cons (jv 0) ja_nil)) (je_one (je_chain o2_le o2_le (jv 1) (jv 0) (jv 2))))))
theorem fn_is_within {S : Stat} (h : Fx S) : FnG S.P S.w S.K S.mg S.base 2 h.a_is_within h.d_is_within p_is_within (m_is_within h.k) := FnG.of h.F_is_within sc_is_within (jb_is_within h) fun _ _ _ => .rfl'
theorem bn_is_within {S : Stat} (h : Fx S) : BindG S.K h.d_is_within p_is_within 3 [] gAll := bindG_all h.F_is_within fun _ _ _ _ _ _ us hl => match us, hl with
  | [_, _, _], _ => rfl

/-! ### are_ranks -/
def N_are_ranks : List Str := [("thing" : Str), ("row" : Str), ("rank" : Str)]
def p_are_ranks : List Str := [("thing" : Str)]
abbrev s_are_ranks : Scope := defScope (top 18)
noncomputable def b_are_ranks (k : Ads) : MS :=
  (sSeq (sIf (tOrM (tNotM (tTru (eArg (isiM noKc) (aCons (eVar 0) (aCons (eC (.ty "tuple")) aNil))))) (tNotM (tVal (eCh leM leM (eC (.int 1)) (eArg lenM (aCons (eVar 0) aNil)) (eC (.int 4)))))) (sRet (eC (.bl false))) sNext)
  (sSeq (sIf (tNotM (tTru (eArg allM (aCons (eComp (iSeq (eVar 0)) [1] (gNm 1) tTrue (eAnd (eArg (isiM noKc) (aCons (eVar 1) (aCons (eC (.ty "tuple")) aNil))) (eBin leM (eArg lenM (aCons (eVar 1) aNil)) (eC (.int 6))))) aNil)))) (sRet (eC (.bl false))) sNext)
  (sSeq (sIf (tOrM (tVal (eBin eqM (eBin ixM (eVar 0) (eC (.int 0))) (eTup aNil))) (tNotM (tTru (eArg allM (aCons (eComp (iSeq (eVar 0)) [1] (gNm 1) tTrue (eBin eqM (eArg lenM (aCons (eVar 1) aNil)) (eArg lenM (aCons (eBin ixM (eVar 0) (eC (.int 0))) aNil)))) aNil))))) (sRet (eC (.bl false))) sNext)
  (sRet (eArg allM (aCons (eComp2 (iSeq (eVar 0)) [1, 2] (gNm 1) tTrue (iSeq (eVar 1)) [2] (gNm 2) tTrue (eCall (m_is_within k) 3 gAll (aCons (eVar 2) (aCons (eC (.int 1)) (aCons (eC (.int 12)) aNil))))) aNil))))))
noncomputable def m_are_ranks (k : Ads) : MF := runB (b_are_ranks k) N_are_ranks
theorem sc_are_ranks : FnScope N_are_ranks p_are_ranks s_are_ranks := scope_by (by decide +kernel)
theorem jb_are_ranks {S : Stat} (h : Fx S) : JSs (S.body 2 N_are_ranks s_are_ranks) (defBody (top 18)) (b_are_ranks h.k) :=
  (jss_cons (js_if (jt_w (jw_or (jt_not (jt_truth (je_callB (cb_isi noKc_ok) rfl h.f_isinstance rfl (ja_cons (jv 0) (ja_cons (je_bty rfl h.f_tuple rfl) ja_nil))))) (jw_or1 (jt_not (jt_chain o2_le o2_le je_int (je_callB cb_len rfl h.f_len rfl (ja_cons (jv 0) ja_nil)) (je_gl h.c_MOST_ADDRESSES)))))) (jss_one (js_ret je_bl)) jss_nil)
  (jss_cons (js_if (jt_not (jt_truth (je_callB cb_all rfl h.f_all rfl (ja_cons (je_comp (own := [(("row" : Str), 1)]) (ji_seq (jv 0)) (by kernel_rfl) (jcn 1) jts_nil (je_and (je_callB (cb_isi noKc_ok) rfl h.f_isinstance rfl (ja_cons (jv 1) (ja_cons (je_bty rfl h.f_tuple rfl) ja_nil))) (je_one (je_cmp o2_le (je_callB cb_len rfl h.f_len rfl (ja_cons (jv 1) ja_nil)) (je_gl h.c_MOST_HOUSES))))) ja_nil)))) (jss_one (js_ret je_bl)) jss_nil)
  (jss_cons (js_if (jt_w (jw_or (jt_cmp o2_eq (je_ix (jv 0) je_int) (je_tup ja_nil)) (jw_or1 (jt_not (jt_truth (je_callB cb_all rfl h.f_all rfl (ja_cons (je_comp (own := [(("row" : Str), 1)]) (ji_seq (jv 0)) (by kernel_rfl) (jcn 1) jts_nil (je_cmp o2_eq (je_callB cb_len rfl h.f_len rfl (ja_cons (jv 1) ja_nil)) (je_callB cb_len rfl h.f_len rfl (ja_cons (je_ix (jv 0) je_int) ja_nil)))) ja_nil))))))) (jss_one (js_ret je_bl)) jss_nil)
  (jss_one (js_ret (je_callB cb_all rfl h.f_all rfl (ja_cons (je_comp2 (own := [(("row" : Str), 1), (("rank" : Str), 2)]) (vs1 := [2]) (ji_seq (jv 0)) (by kernel_rfl) (jcn 1) jts_nil (ji_seq (jv 1)) (jcn 2) jts_nil (je_call (Nat.le_of_ble_eq_true rfl) (fn_is_within h) (bn_is_within h) rfl h.g_is_within h.kp_is_within (ja_cons (jv 2) (ja_cons je_int (ja_cons (je_gl h.c_TOP) ja_nil))))) ja_nil)))))))
theorem fn_are_ranks {S : Stat} (h : Fx S) : FnG S.P S.w S.K S.mg S.base 3 h.a_are_ranks h.d_are_ranks p_are_ranks (m_are_ranks h.k) := FnG.of h.F_are_ranks sc_are_ranks (jb_are_ranks h) fun _ _ _ => .rfl'
theorem bn_are_ranks {S : Stat} (h : Fx S) : BindG S.K h.d_are_ranks p_are_ranks 1 [] gAll := bindG_all h.F_are_ranks fun _ _ _ _ _ _ us hl => match us, hl with
  | [_], _ => rfl

/-! ### is_tie -/
def N_is_tie : List Str := [("thing" : Str), ("houses" : Str), ("house" : Str), ("tie" : Str), ("less" : Str)]
def p_is_tie : List Str := [("thing" : Str), ("houses" : Str)]
abbrev s_is_tie : Scope := defScope (top 19)
noncomputable def b_is_tie (k : Ads) : MS :=
  (sSeq (sIf (tOrM (tNotM (tTru (eArg (isiM noKc) (aCons (eVar 0) (aCons (eC (.ty "tuple")) aNil))))) (tVal (eBin neM (eArg lenM (aCons (eVar 0) aNil)) (eC (.int 3))))) (sRet (eC (.bl false))) sNext)
  (sSeq (sAsg (eVar 0) (gTupM 3 (gsCons (gNm 2) (gsCons (gNm 3) (gsCons (gNm 4) gsNil)))))
  (sRet (eAnd (eCall (m_is_within k) 3 gAll (aCons (eVar 2) (aCons (eC (.int 0)) (aCons (eBin subM (eVar 1) (eC (.int 1))) aNil)))) (eAnd (eCall (m_is_within k) 3 gAll (aCons (eVar 3) (aCons (eC (.int 0)) (aCons (eC (.int 9)) aNil)))) (eCall (m_is_within k) 3 gAll (aCons (eVar 4) (aCons (eC (.int 1)) (aCons (eC (.int 11)) aNil)))))))))
noncomputable def m_is_tie (k : Ads) : MF := runB (b_is_tie k) N_is_tie
theorem sc_is_tie : FnScope N_is_tie p_is_tie s_is_tie := scope_by (by decide +kernel)
theorem jb_is_tie {S : Stat} (h : Fx S) : JSs (S.body 2 N_is_tie s_is_tie) (defBody (top 19)) (b_is_tie h.k) :=
  (jss_cons (js_if (jt_w (jw_or (jt_not (jt_truth (je_callB (cb_isi noKc_ok) rfl h.f_isinstance rfl (ja_cons (jv 0) (ja_cons (je_bty rfl h.f_tuple rfl) ja_nil))))) (jw_or1 (jt_cmp o2_ne (je_callB cb_len rfl h.f_len rfl (ja_cons (jv 0) ja_nil)) je_int)))) (jss_one (js_ret je_bl)) jss_nil)
  (jss_cons (js_asg (jv 0) (jg_tup (n := 3) (jgs_cons (jgn 2) (jgs_cons (jgn 3) (jgs_cons (jgn 4) jgs_nil)))))
  (jss_one (js_ret (je_and (je_call (Nat.le_of_ble_eq_true rfl) (fn_is_within h) (bn_is_within h) rfl h.g_is_within h.kp_is_within (ja_cons (jv 2) (ja_cons je_int (ja_cons (je_bin o2_sub (jv 1) je_int) ja_nil)))) (je_and (je_call (Nat.le_of_ble_eq_true rfl) (fn_is_within h) (bn_is_within h) rfl h.g_is_within h.kp_is_within (ja_cons (jv 3) (ja_cons je_int (ja_cons (je_gl h.c_MOST_TIE) ja_nil)))) (je_one (je_call (Nat.le_of_ble_eq_true rfl) (fn_is_within h) (bn_is_within h) rfl h.g_is_within h.kp_is_within (ja_cons (jv 4) (ja_cons je_int (ja_cons (je_gl h.c_MOST_LESS) ja_nil)))))))))))
theorem fn_is_tie {S : Stat} (h : Fx S) : FnG S.P S.w S.K S.mg S.base 3 h.a_is_tie h.d_is_tie p_is_tie (m_is_tie h.k) := FnG.of h.F_is_tie sc_is_tie (jb_is_tie h) fun _ _ _ => .rfl'
theorem bn_is_tie {S : Stat} (h : Fx S) : BindG S.K h.d_is_tie p_is_tie 2 [] gAll := bindG_all h.F_is_tie fun _ _ _ _ _ _ us hl => match us, hl with
  | [_, _], _ => rfl

/-! ### are_ties -/
def N_are_ties : List Str := [("thing" : Str), ("houses" : Str), ("one" : Str), ("other" : Str)]
def p_are_ties : List Str := [("thing" : Str), ("houses" : Str)]
abbrev s_are_ties : Scope := defScope (top 20)
noncomputable def b_are_ties (k : Ads) : MS :=
  (sSeq (sIf (tOrM (tNotM (tTru (eArg (isiM noKc) (aCons (eVar 0) (aCons (eC (.ty "tuple")) aNil))))) (tOrM (tVal (eBin gtM (eArg lenM (aCons (eVar 0) aNil)) (eC (.int 6)))) (tNotM (tTru (eArg allM (aCons (eComp (iSeq (eVar 0)) [2] (gNm 2) tTrue (eCall (m_is_tie k) 2 gAll (aCons (eVar 2) (aCons (eVar 1) aNil)))) aNil)))))) (sRet (eC (.bl false))) sNext)
  (sRet (eArg allM (aCons (eComp (iArg zsM (aCons (eSl slM (eVar 0) oNone (oSome (eUn negM (eC (.int 1))))) (aCons (eSl slM (eVar 0) (oSome (eC (.int 1))) oNone) aNil))) [2, 3] (gTupM 2 (gsCons (gNm 2) (gsCons (gNm 3) gsNil))) tTrue (eBin ltA (eSl slM (eVar 2) oNone (oSome (eC (.int 2)))) (eSl slM (eVar 3) oNone (oSome (eC (.int 2)))))) aNil))))
noncomputable def m_are_ties (k : Ads) : MF := runB (b_are_ties k) N_are_ties
theorem sc_are_ties : FnScope N_are_ties p_are_ties s_are_ties := scope_by (by decide +kernel)
theorem jb_are_ties {S : Stat} (h : Fx S) : JSs (S.body 3 N_are_ties s_are_ties) (defBody (top 20)) (b_are_ties h.k) :=
  (jss_cons (js_if (jt_w (jw_or (jt_not (jt_truth (je_callB (cb_isi noKc_ok) rfl h.f_isinstance rfl (ja_cons (jv 0) (ja_cons (je_bty rfl h.f_tuple rfl) ja_nil))))) (jw_or (jt_cmp o2_gt (je_callB cb_len rfl h.f_len rfl (ja_cons (jv 0) ja_nil)) (je_gl h.c_MOST_TIES)) (jw_or1 (jt_not (jt_truth (je_callB cb_all rfl h.f_all rfl (ja_cons (je_comp (own := [(("one" : Str), 2)]) (ji_seq (jv 0)) (by kernel_rfl) (jcn 2) jts_nil (je_call (Nat.le_of_ble_eq_true rfl) (fn_is_tie h) (bn_is_tie h) rfl h.g_is_tie h.kp_is_tie (ja_cons (jv 2) (ja_cons (jv 1) ja_nil)))) ja_nil)))))))) (jss_one (js_ret je_bl)) jss_nil)
  (jss_one (js_ret (je_callB cb_all rfl h.f_all rfl (ja_cons (je_comp (own := [(("one" : Str), 2), (("other" : Str), 3)]) (ji_zs rfl h.f_zip (ja_cons (je_sl sl_ok (jv 0) jo_none (jo_some (je_un o1_neg je_int))) (ja_cons (je_sl sl_ok (jv 0) (jo_some je_int) jo_none) ja_nil))) (by kernel_rfl) (jc_tup (n := 2) (jcs_cons (jcn 2) (jcs_cons (jcn 3) jcs_nil))) jts_nil (je_cmp o2_lt (je_sl sl_ok (jv 2) jo_none (jo_some je_int)) (je_sl sl_ok (jv 3) jo_none (jo_some je_int)))) ja_nil)))))
theorem fn_are_ties {S : Stat} (h : Fx S) : FnG S.P S.w S.K S.mg S.base 4 h.a_are_ties h.d_are_ties p_are_ties (m_are_ties h.k) := FnG.of h.F_are_ties sc_are_ties (jb_are_ties h) fun _ _ _ => .rfl'
theorem bn_are_ties {S : Stat} (h : Fx S) : BindG S.K h.d_are_ties p_are_ties 2 [] gAll := bindG_all h.F_are_ties fun _ _ _ _ _ _ us hl => match us, hl with
  | [_, _], _ => rfl

/-! ### is_field -/
def N_is_field : List Str := [("name" : Str), ("thing" : Str), ("houses" : Str), ("least" : Str), ("most" : Str)]
def p_is_field : List Str := [("name" : Str), ("thing" : Str), ("houses" : Str)]
abbrev s_is_field : Scope := defScope (top 21)
noncomputable def b_is_field (k : Ads) : MS :=
  (sSeq (sIf (tVal (eBin (kInM k.t_NUMBERS tab_NUMBERS) (eVar 0) (eC (.con k.t_NUMBERS)))) (sSeq (sAsg (eBin (kIxM k.t_NUMBERS tab_NUMBERS) (eC (.con k.t_NUMBERS)) (eVar 0)) (gTupM 2 (gsCons (gNm 3) (gsCons (gNm 4) gsNil))))
  (sRet (eCall (m_is_within k) 3 gAll (aCons (eVar 1) (aCons (eVar 3) (aCons (eVar 4) aNil)))))) sNext)
  (sSeq (sIf (tVal (eBin eqM (eVar 0) (eC (.str ("takes" : Str))))) (sRet (eArg (isiM noKc) (aCons (eVar 1) (aCons (eC (.ty "bool")) aNil)))) sNext)
  (sRet (eCall (m_are_ties k) 2 gAll (aCons (eVar 1) (aCons (eVar 2) aNil))))))
noncomputable def m_is_field (k : Ads) : MF := runB (b_is_field k) N_is_field
theorem sc_is_field : FnScope N_is_field p_is_field s_is_field := scope_by (by decide +kernel)
theorem jb_is_field {S : Stat} (h : Fx S) : JSs (S.body 4 N_is_field s_is_field) (defBody (top 21)) (b_is_field h.k) :=
  (jss_cons (js_if (jt_cmp (o2_kin h.T_NUMBERS) (jv 0) (je_gl h.c_NUMBERS)) (jss_cons (js_asg (je_kix h.T_NUMBERS (je_gl h.c_NUMBERS) (jv 0)) (jg_tup (n := 2) (jgs_cons (jgn 3) (jgs_cons (jgn 4) jgs_nil))))
  (jss_one (js_ret (je_call (Nat.le_of_ble_eq_true rfl) (fn_is_within h) (bn_is_within h) rfl h.g_is_within h.kp_is_within (ja_cons (jv 1) (ja_cons (jv 3) (ja_cons (jv 4) ja_nil))))))) jss_nil)
  (jss_cons (js_if (jt_cmp o2_eq (jv 0) je_str) (jss_one (js_ret (je_callB (cb_isi noKc_ok) rfl h.f_isinstance rfl (ja_cons (jv 1) (ja_cons (je_bty rfl h.f_bool rfl) ja_nil))))) jss_nil)
  (jss_one (js_ret (je_call (Nat.le_of_ble_eq_true rfl) (fn_are_ties h) (bn_are_ties h) rfl h.g_are_ties h.kp_are_ties (ja_cons (jv 1) (ja_cons (jv 2) ja_nil)))))))
theorem fn_is_field {S : Stat} (h : Fx S) : FnG S.P S.w S.K S.mg S.base 5 h.a_is_field h.d_is_field p_is_field (m_is_field h.k) := FnG.of h.F_is_field sc_is_field (jb_is_field h) fun _ _ _ => .rfl'
theorem bn_is_field {S : Stat} (h : Fx S) : BindG S.K h.d_is_field p_is_field 3 [] gAll := bindG_all h.F_is_field fun _ _ _ _ _ _ us hl => match us, hl with
  | [_, _, _], _ => rfl

/-! ### Plan.__init__ -/
def N_Plan_init : List Str := [("self" : Str), ("ranks" : Str), ("every" : Str), ("lost" : Str), ("slow" : Str), ("bears" : Str), ("gap" : Str), ("hold" : Str), ("takes" : Str), ("ties" : Str), ("hosts" : Str), ("borne" : Str), ("told" : Str), ("name" : Str), ("thing" : Str)]
def p_Plan_init : List Str := [("self" : Str), ("ranks" : Str), ("every" : Str), ("lost" : Str), ("slow" : Str), ("bears" : Str), ("gap" : Str), ("hold" : Str), ("takes" : Str), ("ties" : Str), ("hosts" : Str)]
abbrev s_Plan_init : Scope := defScope (inClass (top 23) 0)
noncomputable def b_Plan_init (k : Ads) : MS :=
  (sSeq (sIf (tNotM (tTru (eCall (m_are_ranks k) 1 gAll (aCons (eVar 1) aNil)))) sBad sNext)
  (sSeq (sAsg (eIf (tVal (eBin isM (eVar 5) (eC .non))) (eVar 3) (eVar 5)) (gNm 11))
  (sSeq (sAsg (eDct (dCons (eC (.str ("every" : Str))) (eVar 2) (dCons (eC (.str ("lost" : Str))) (eVar 3) (dCons (eC (.str ("slow" : Str))) (eVar 4) (dCons (eC (.str ("bears" : Str))) (eVar 11) (dCons (eC (.str ("gap" : Str))) (eVar 6) (dCons (eC (.str ("hold" : Str))) (eVar 7) (dCons (eC (.str ("takes" : Str))) (eVar 8) dNil)))))))) (gNm 12))
  (sSeq (sDrop (eMeth "dict" updM (eVar 12) (aCons (eDct (dCons (eC (.str ("ties" : Str))) (eVar 9) (dCons (eC (.str ("hosts" : Str))) (eVar 10) dNil))) aNil)))
  (sSeq (sFor (iItemsM (eVar 12)) (gTupM 2 (gsCons (gNm 13) (gsCons (gNm 14) gsNil))) (sIf (tNotM (tTru (eCall (m_is_field k) 3 gAll (aCons (eVar 13) (aCons (eVar 14) (aCons (eArg lenM (aCons (eBin ixM (eVar 1) (eC (.int 0))) aNil)) aNil)))))) sBad sNext))
  (sSeq (sSetF k.C_Plan ("ranks" : Str) (eVar 0) (eVar 1))
  (sSeq (sSetF k.C_Plan ("every" : Str) (eVar 0) (eVar 2))
  (sSeq (sSetF k.C_Plan ("lost" : Str) (eVar 0) (eVar 3))
  (sSeq (sSetF k.C_Plan ("slow" : Str) (eVar 0) (eVar 4))
  (sSeq (sSetF k.C_Plan ("bears" : Str) (eVar 0) (eVar 11))
  (sSeq (sSetF k.C_Plan ("gap" : Str) (eVar 0) (eVar 6))
  (sSeq (sSetF k.C_Plan ("hold" : Str) (eVar 0) (eVar 7))
  (sSeq (sSetF k.C_Plan ("takes" : Str) (eVar 0) (eVar 8))
  (sSeq (sSetF k.C_Plan ("ties" : Str) (eVar 0) (eVar 9))
  (sSetF k.C_Plan ("hosts" : Str) (eVar 0) (eVar 10))))))))))))))))
noncomputable def m_Plan_init (k : Ads) : MF := runB (b_Plan_init k) N_Plan_init
theorem sc_Plan_init : FnScope N_Plan_init p_Plan_init s_Plan_init := scope_by (by decide +kernel)
theorem jb_Plan_init {S : Stat} (h : Fx S) : JSs (S.body 5 N_Plan_init s_Plan_init) (defBody (inClass (top 23) 0)) (b_Plan_init h.k) :=
  (jss_cons (js_if (jt_not (jt_truth (je_call (Nat.le_of_ble_eq_true rfl) (fn_are_ranks h) (bn_are_ranks h) rfl h.g_are_ranks h.kp_are_ranks (ja_cons (jv 1) ja_nil)))) (jss_one js_bad) jss_nil)
  (jss_cons (jsn 11 (je_if (jt_cmp o2_is (jv 5) je_non) (jv 3) (jv 5)))
  (jss_cons (jsn 12 (je_dct (jd_cons je_str (jv 2) (jd_cons je_str (jv 3) (jd_cons je_str (jv 4) (jd_cons je_str (jv 11) (jd_cons je_str (jv 6) (jd_cons je_str (jv 7) (jd_cons je_str (jv 8) jd_nil)))))))))
  (jss_cons (js_drop (je_meth PySem.F.plainAttrs_dict PySem.F.slot_dict_update mb_update (jv 12) (ja_cons (je_dct (jd_cons je_str (jv 9) (jd_cons je_str (jv 10) jd_nil))) ja_nil)))
  (jss_cons (js_for (ji_items (jv 12)) (jg_tup (n := 2) (jgs_cons (jgn 13) (jgs_cons (jgn 14) jgs_nil))) (jss_one (js_if (jt_not (jt_truth (je_call (Nat.le_of_ble_eq_true rfl) (fn_is_field h) (bn_is_field h) rfl h.g_is_field h.kp_is_field (ja_cons (jv 13) (ja_cons (jv 14) (ja_cons (je_callB cb_len rfl h.f_len rfl (ja_cons (je_ix (jv 1) je_int) ja_nil)) ja_nil)))))) (jss_one js_bad) jss_nil)))
  (jss_cons (js_setFld h.k_Plan h.n_Plan_ranks (jv 0) (jv 1))
  (jss_cons (js_setFld h.k_Plan h.n_Plan_every (jv 0) (jv 2))
  (jss_cons (js_setFld h.k_Plan h.n_Plan_lost (jv 0) (jv 3))
  (jss_cons (js_setFld h.k_Plan h.n_Plan_slow (jv 0) (jv 4))
  (jss_cons (js_setFld h.k_Plan h.n_Plan_bears (jv 0) (jv 11))
  (jss_cons (js_setFld h.k_Plan h.n_Plan_gap (jv 0) (jv 6))
  (jss_cons (js_setFld h.k_Plan h.n_Plan_hold (jv 0) (jv 7))
  (jss_cons (js_setFld h.k_Plan h.n_Plan_takes (jv 0) (jv 8))
  (jss_cons (js_setFld h.k_Plan h.n_Plan_ties (jv 0) (jv 9))
  (jss_one (js_setFld h.k_Plan h.n_Plan_hosts (jv 0) (jv 10)))))))))))))))))
theorem fn_Plan_init {S : Stat} (h : Fx S) : FnG S.P S.w S.K S.mg S.base 6 h.a_Plan_init h.d_Plan_init p_Plan_init (m_Plan_init h.k) := FnG.of h.F_Plan_init sc_Plan_init (jb_Plan_init h) fun _ _ _ => .rfl'
abbrev g_Plan_init_2_every_lost_slow_bears_gap_hold_takes_ties_hosts (k : Ads) : List D → List D → List D := fun xs zs => pick3 [(0, 0), (0, 1), (1, 0), (1, 1), (1, 2), (1, 3), (1, 4), (1, 5), (1, 6), (1, 7), (1, 8)] xs zs []
theorem bk_Plan_init_2_every_lost_slow_bears_gap_hold_takes_ties_hosts {S : Stat} (h : Fx S) : BindG S.K h.d_Plan_init p_Plan_init 2 [("every" : Str), ("lost" : Str), ("slow" : Str), ("bears" : Str), ("gap" : Str), ("hold" : Str), ("takes" : Str), ("ties" : Str), ("hosts" : Str)] (g_Plan_init_2_every_lost_slow_bears_gap_hold_takes_ties_hosts h.k) := bind_kwo h.F_Plan_init 2 _ [] _ _ (by simp) (by simp) (fun I F => by simp [RepL]) (fun _ _ _ _ _ _ us mv ws h1 h2 h3 => match us, mv, ws, h1, h2, h3 with
  | [_, _], [], [_, _, _, _, _, _, _, _, _], _, _, _ => rfl) fun xs zs h1 h2 => match xs, zs, h1, h2 with
  | [_, _], [_, _, _, _, _, _, _, _, _], _, _ => rfl

/-! ### _law_made -/
def N__law_made : List Str := [("_law_model_here" : Str), ("_law_words" : Str), ("_law_word" : Str)]
def p__law_made : List Str := [("_law_model_here" : Str)]
abbrev s__law_made : Scope := defScope (top 49)
noncomputable def b__law_made (k : Ads) : MS :=
  (sSeq (sAsg (eComp (iSeq (eTup (aCons (eC (.str ("every" : Str))) (aCons (eC (.str ("lost" : Str))) (aCons (eC (.str ("slow" : Str))) (aCons (eC (.str ("bears" : Str))) (aCons (eC (.str ("gap" : Str))) (aCons (eC (.str ("hold" : Str))) (aCons (eC (.str ("takes" : Str))) (aCons (eC (.str ("ties" : Str))) (aCons (eC (.str ("hosts" : Str))) aNil))))))))))) [2] (gNm 2) tTrue (eBin ixM (eVar 0) (eVar 2))) (gNm 1))
  (sRet (eMakeK k.C_Plan (m_Plan_init k) 1 9 (g_Plan_init_2_every_lost_slow_bears_gap_hold_takes_ties_hosts k) (aCons (eBin ixM (eVar 0) (eC (.str ("ranks" : Str)))) aNil) (aCons (eBin ixM (eVar 1) (eC (.int 0))) (aCons (eBin ixM (eVar 1) (eC (.int 1))) (aCons (eBin ixM (eVar 1) (eC (.int 2))) (aCons (eBin ixM (eVar 1) (eC (.int 3))) (aCons (eBin ixM (eVar 1) (eC (.int 4))) (aCons (eBin ixM (eVar 1) (eC (.int 5))) (aCons (eBin ixM (eVar 1) (eC (.int 6))) (aCons (eBin ixM (eVar 1) (eC (.int 7))) (aCons (eBin ixM (eVar 1) (eC (.int 8))) aNil))))))))))))
noncomputable def m__law_made (k : Ads) : MF := runB (b__law_made k) N__law_made
theorem sc__law_made : FnScope N__law_made p__law_made s__law_made := scope_by (by decide +kernel)
theorem jb__law_made {S : Stat} (h : Fx S) : JSs (S.body 7 N__law_made s__law_made) (defBody (top 49)) (b__law_made h.k) :=
  (jss_cons (jsc 1 (own := [(("_law_word" : Str), 2)]) (ji_seq (je_tup (ja_cons je_str (ja_cons je_str (ja_cons je_str (ja_cons je_str (ja_cons je_str (ja_cons je_str (ja_cons je_str (ja_cons je_str (ja_cons je_str ja_nil))))))))))) (by kernel_rfl) (jcn 2) jts_nil (je_ix (jv 0) (jv 2)))
  (jss_one (js_ret (jmk (Nat.le_of_ble_eq_true rfl) h.M_Plan (fn_Plan_init h) (bk_Plan_init_2_every_lost_slow_bears_gap_hold_takes_ties_hosts h) rfl h.gc_Plan (ja_cons (je_ix (jv 0) je_str) ja_nil) (jk_cons (je_ix (jv 1) je_int) (jk_cons (je_ix (jv 1) je_int) (jk_cons (je_ix (jv 1) je_int) (jk_cons (je_ix (jv 1) je_int) (jk_cons (je_ix (jv 1) je_int) (jk_cons (je_ix (jv 1) je_int) (jk_cons (je_ix (jv 1) je_int) (jk_cons (je_ix (jv 1) je_int) (jk_cons (je_ix (jv 1) je_int) jk_nil)))))))))))))
theorem fn__law_made {S : Stat} (h : Fx S) : FnG S.P S.w S.K S.mg S.base 8 h.a__law_made h.d__law_made p__law_made (m__law_made h.k) := FnG.of h.F__law_made sc__law_made (jb__law_made h) fun _ _ _ => .rfl'
theorem bn__law_made {S : Stat} (h : Fx S) : BindG S.K h.d__law_made p__law_made 1 [] gAll := bindG_all h.F__law_made fun _ _ _ _ _ _ us hl => match us, hl with
  | [_], _ => rfl

/-! ### _law_pick -/
def N__law_pick : List Str := [("_law_deck_here" : Str), ("_law_some" : Str)]
def p__law_pick : List Str := [("_law_deck_here" : Str), ("_law_some" : Str)]
abbrev s__law_pick : Scope := defScope (top 47)
noncomputable def b__law_pick (k : Ads) : MS :=
  (sRet (eBin ixM (eVar 1) (eCall (m__law_draw k) 2 gAll (aCons (eVar 0) (aCons (eArg lenM (aCons (eVar 1) aNil)) aNil)))))
noncomputable def m__law_pick (k : Ads) : MF := runB (b__law_pick k) N__law_pick
theorem sc__law_pick : FnScope N__law_pick p__law_pick s__law_pick := scope_by (by decide +kernel)
theorem jb__law_pick {S : Stat} (h : Fx S) : JSs (S.body 1 N__law_pick s__law_pick) (defBody (top 47)) (b__law_pick h.k) :=
  (jss_one (js_ret (je_ix (jv 1) (je_call (Nat.le_of_ble_eq_true rfl) (fn__law_draw h) (bn__law_draw h) rfl h.g__law_draw h.kp__law_draw (ja_cons (jv 0) (ja_cons (je_callB cb_len rfl h.f_len rfl (ja_cons (jv 1) ja_nil)) ja_nil))))))
theorem fn__law_pick {S : Stat} (h : Fx S) : FnG S.P S.w S.K S.mg S.base 2 h.a__law_pick h.d__law_pick p__law_pick (m__law_pick h.k) := FnG.of h.F__law_pick sc__law_pick (jb__law_pick h) fun _ _ _ => .rfl'
theorem bn__law_pick {S : Stat} (h : Fx S) : BindG S.K h.d__law_pick p__law_pick 2 [] gAll := bindG_all h.F__law_pick fun _ _ _ _ _ _ us hl => match us, hl with
  | [_, _], _ => rfl

/-! ### _law_model -/
def N__law_model : List Str := [("_law_deck_here" : Str), ("_law_houses" : Str), ("_law_addresses" : Str), ("_law_ranks" : Str), ("_law_a" : Str), ("_law_low" : Str), ("_law_found" : Str), ("_law_bonds" : Str), ("_law_k" : Str), ("_law_one" : Str), ("_law_h" : Str), ("_law_other" : Str)]
def p__law_model : List Str := [("_law_deck_here" : Str), ("_law_houses" : Str), ("_law_addresses" : Str)]
abbrev s__law_model : Scope := defScope (top 48)
noncomputable def b__law_model (k : Ads) : MS :=
  (sSeq (sAsg (eNew aNil) (gNm 3))
  (sSeq (sFor (iArg rng1 (aCons (eVar 2) aNil)) (gNm 4) (sSeq (sAsg (eCall (m__law_pick k) 2 gAll (aCons (eVar 0) (aCons (eLst (aCons (eC (.int 1)) (aCons (eC (.int 8)) (aCons (eC (.int 9)) (aCons (eC (.int 10)) aNil))))) aNil))) (gNm 5))
  (sDrop (eMeth "list" appendM (eVar 3) (aCons (eArg tupM (aCons (eComp (iArg rng1 (aCons (eVar 1) aNil)) [10] (gNm 10) tTrue (eBin addM (eVar 5) (eCall (m__law_draw k) 2 gAll (aCons (eVar 0) (aCons (eBin subM (eC (.int 13)) (eVar 5)) aNil))))) aNil)) aNil)))))
  (sSeq (sAsg (eDct (dCons (eC (.str ("ranks" : Str))) (eArg tupM (aCons (eVar 3) aNil)) (dCons (eC (.str ("every" : Str))) (eBin addM (eC (.int 1)) (eCall (m__law_draw k) 2 gAll (aCons (eVar 0) (aCons (eC (.int 3)) aNil)))) (dCons (eC (.str ("lost" : Str))) (eCall (m__law_draw k) 2 gAll (aCons (eVar 0) (aCons (eC (.int 3)) aNil))) dNil)))) (gNm 6))
  (sSeq (sAsg (eBin addM (eC (.int 1)) (eCall (m__law_draw k) 2 gAll (aCons (eVar 0) (aCons (eC (.int 3)) aNil)))) (gSubM (eVar 6) (eC (.str ("slow" : Str)))))
  (sSeq (sAsg (eBin addM (eBin ixM (eVar 6) (eC (.str ("lost" : Str)))) (eBin mulM (eCall (m__law_draw k) 2 gAll (aCons (eVar 0) (aCons (eC (.int 2)) aNil))) (eArg intM (aCons (eBin ltA (eBin ixM (eVar 6) (eC (.str ("lost" : Str)))) (eC (.int 3))) aNil)))) (gSubM (eVar 6) (eC (.str ("bears" : Str)))))
  (sSeq (sAsg (eTup (aCons (eCall (m__law_draw k) 2 gAll (aCons (eVar 0) (aCons (eC (.int 3)) aNil))) (aCons (eCall (m__law_pick k) 2 gAll (aCons (eVar 0) (aCons (eLst (aCons (eC (.int 0)) (aCons (eC (.int 0)) (aCons (eC (.int 1)) (aCons (eC (.int 4)) (aCons (eC (.int 12)) aNil)))))) aNil))) aNil))) (gTupM 2 (gsCons (gSubM (eVar 6) (eC (.str ("gap" : Str)))) (gsCons (gSubM (eVar 6) (eC (.str ("hold" : Str)))) gsNil))))
  (sSeq (sAsg (eBin gtM (eCall (m__law_draw k) 2 gAll (aCons (eVar 0) (aCons (eC (.int 3)) aNil))) (eC (.int 0))) (gSubM (eVar 6) (eC (.str ("takes" : Str)))))
  (sSeq (sAsg (eNew aNil) (gNm 7))
  (sSeq (sFor (iArg rng1 (aCons (eCall (m__law_draw k) 2 gAll (aCons (eVar 0) (aCons (eC (.int 4)) aNil))) aNil)) (gNm 8) (sSeq (sAsg (eTup (aCons (eCall (m__law_draw k) 2 gAll (aCons (eVar 0) (aCons (eVar 1) aNil))) (aCons (eCall (m__law_draw k) 2 gAll (aCons (eVar 0) (aCons (eC (.int 10)) aNil))) (aCons (eBin addM (eC (.int 1)) (eCall (m__law_draw k) 2 gAll (aCons (eVar 0) (aCons (eC (.int 11)) aNil)))) aNil)))) (gNm 9))
  (sIf (tVal (eBin notInM (eSl slM (eVar 9) oNone (oSome (eC (.int 2)))) (eComp (iSeq (eVar 7)) [11] (gNm 11) tTrue (eSl slM (eVar 11) oNone (oSome (eC (.int 2))))))) (sDrop (eMeth "list" appendM (eVar 7) (aCons (eVar 9) aNil))) sNext)))
  (sSeq (sAsg (eTup (aCons (eArg tupM (aCons (eArg sortedM (aCons (eVar 7) aNil)) aNil)) (aCons (eCall (m__law_draw k) 2 gAll (aCons (eVar 0) (aCons (eC (.int 3)) aNil))) aNil))) (gTupM 2 (gsCons (gSubM (eVar 6) (eC (.str ("ties" : Str)))) (gsCons (gSubM (eVar 6) (eC (.str ("hosts" : Str)))) gsNil))))
  (sRet (eVar 6))))))))))))
noncomputable def m__law_model (k : Ads) : MF := runB (b__law_model k) N__law_model
theorem sc__law_model : FnScope N__law_model p__law_model s__law_model := scope_by (by decide +kernel)
theorem jb__law_model {S : Stat} (h : Fx S) : JSs (S.body 2 N__law_model s__law_model) (defBody (top 48)) (b__law_model h.k) :=
  (jss_cons (jsn 3 (je_new ja_nil))
  (jss_cons (js_for (ji_range1 rfl h.f_range (ja_cons (jv 2) ja_nil)) (jgn 4) (jss_cons (jsn 5 (je_call (Nat.le_of_ble_eq_true rfl) (fn__law_pick h) (bn__law_pick h) rfl h.g__law_pick h.kp__law_pick (ja_cons (jv 0) (ja_cons (je_lst (ja_cons je_int (ja_cons je_int (ja_cons je_int (ja_cons je_int ja_nil))))) ja_nil))))
  (jss_one (js_drop (je_meth PySem.F.plainAttrs_list PySem.F.slot_list_append mb_append (jv 3) (ja_cons (je_callT cb_tuple rfl h.f_tuple rfl (ja_cons (je_comp (own := [(("_law_h" : Str), 10)]) (ji_range1 rfl h.f_range (ja_cons (jv 1) ja_nil)) (by kernel_rfl) (jcn 10) jts_nil (je_bin o2_add (jv 5) (je_call (Nat.le_of_ble_eq_true rfl) (fn__law_draw h) (bn__law_draw h) rfl h.g__law_draw h.kp__law_draw (ja_cons (jv 0) (ja_cons (je_bin o2_sub je_int (jv 5)) ja_nil))))) ja_nil)) ja_nil))))))
  (jss_cons (jsn 6 (je_dct (jd_cons je_str (je_callT cb_tuple rfl h.f_tuple rfl (ja_cons (jv 3) ja_nil)) (jd_cons je_str (je_bin o2_add je_int (je_call (Nat.le_of_ble_eq_true rfl) (fn__law_draw h) (bn__law_draw h) rfl h.g__law_draw h.kp__law_draw (ja_cons (jv 0) (ja_cons je_int ja_nil)))) (jd_cons je_str (je_call (Nat.le_of_ble_eq_true rfl) (fn__law_draw h) (bn__law_draw h) rfl h.g__law_draw h.kp__law_draw (ja_cons (jv 0) (ja_cons je_int ja_nil))) jd_nil)))))
  (jss_cons (js_asg (je_bin o2_add je_int (je_call (Nat.le_of_ble_eq_true rfl) (fn__law_draw h) (bn__law_draw h) rfl h.g__law_draw h.kp__law_draw (ja_cons (jv 0) (ja_cons je_int ja_nil)))) (jg_sub (jv 6) je_str))
  (jss_cons (js_asg (je_bin o2_add (je_ix (jv 6) je_str) (je_bin o2_mul (je_call (Nat.le_of_ble_eq_true rfl) (fn__law_draw h) (bn__law_draw h) rfl h.g__law_draw h.kp__law_draw (ja_cons (jv 0) (ja_cons je_int ja_nil))) (je_callT cb_int rfl h.f_int rfl (ja_cons (je_cmp o2_lt (je_ix (jv 6) je_str) je_int) ja_nil)))) (jg_sub (jv 6) je_str))
  (jss_cons (js_asg (je_tup (ja_cons (je_call (Nat.le_of_ble_eq_true rfl) (fn__law_draw h) (bn__law_draw h) rfl h.g__law_draw h.kp__law_draw (ja_cons (jv 0) (ja_cons je_int ja_nil))) (ja_cons (je_call (Nat.le_of_ble_eq_true rfl) (fn__law_pick h) (bn__law_pick h) rfl h.g__law_pick h.kp__law_pick (ja_cons (jv 0) (ja_cons (je_lst (ja_cons je_int (ja_cons je_int (ja_cons je_int (ja_cons je_int (ja_cons je_int ja_nil)))))) ja_nil))) ja_nil))) (jg_tup (n := 2) (jgs_cons (jg_sub (jv 6) je_str) (jgs_cons (jg_sub (jv 6) je_str) jgs_nil))) (hw := sw_no2))
  (jss_cons (js_asg (je_cmp o2_gt (je_call (Nat.le_of_ble_eq_true rfl) (fn__law_draw h) (bn__law_draw h) rfl h.g__law_draw h.kp__law_draw (ja_cons (jv 0) (ja_cons je_int ja_nil))) je_int) (jg_sub (jv 6) je_str))
  (jss_cons (jsn 7 (je_new ja_nil))
  (jss_cons (js_for (ji_range1 rfl h.f_range (ja_cons (je_call (Nat.le_of_ble_eq_true rfl) (fn__law_draw h) (bn__law_draw h) rfl h.g__law_draw h.kp__law_draw (ja_cons (jv 0) (ja_cons je_int ja_nil))) ja_nil)) (jgn 8) (jss_cons (jsn 9 (je_tup (ja_cons (je_call (Nat.le_of_ble_eq_true rfl) (fn__law_draw h) (bn__law_draw h) rfl h.g__law_draw h.kp__law_draw (ja_cons (jv 0) (ja_cons (jv 1) ja_nil))) (ja_cons (je_call (Nat.le_of_ble_eq_true rfl) (fn__law_draw h) (bn__law_draw h) rfl h.g__law_draw h.kp__law_draw (ja_cons (jv 0) (ja_cons je_int ja_nil))) (ja_cons (je_bin o2_add je_int (je_call (Nat.le_of_ble_eq_true rfl) (fn__law_draw h) (bn__law_draw h) rfl h.g__law_draw h.kp__law_draw (ja_cons (jv 0) (ja_cons je_int ja_nil)))) ja_nil)))))
  (jss_one (js_if (jt_cmp o2_notIn (je_sl sl_ok (jv 9) jo_none (jo_some je_int)) (je_comp (own := [(("_law_other" : Str), 11)]) (ji_seq (jv 7)) (by kernel_rfl) (jcn 11) jts_nil (je_sl sl_ok (jv 11) jo_none (jo_some je_int)))) (jss_one (js_drop (je_meth PySem.F.plainAttrs_list PySem.F.slot_list_append mb_append (jv 7) (ja_cons (jv 9) ja_nil)))) jss_nil))))
  (jss_cons (js_asg (je_tup (ja_cons (je_callT cb_tuple rfl h.f_tuple rfl (ja_cons (je_callB cb_sorted rfl h.f_sorted rfl (ja_cons (jv 7) ja_nil)) ja_nil)) (ja_cons (je_call (Nat.le_of_ble_eq_true rfl) (fn__law_draw h) (bn__law_draw h) rfl h.g__law_draw h.kp__law_draw (ja_cons (jv 0) (ja_cons je_int ja_nil))) ja_nil))) (jg_tup (n := 2) (jgs_cons (jg_sub (jv 6) je_str) (jgs_cons (jg_sub (jv 6) je_str) jgs_nil))) (hw := sw_no2))
  (jss_one (js_ret (jv 6)))))))))))))
theorem fn__law_model {S : Stat} (h : Fx S) : FnG S.P S.w S.K S.mg S.base 3 h.a__law_model h.d__law_model p__law_model (m__law_model h.k) := FnG.of h.F__law_model sc__law_model (jb__law_model h) fun _ _ _ => .rfl'
theorem bn__law_model {S : Stat} (h : Fx S) : BindG S.K h.d__law_model p__law_model 3 [] gAll := bindG_all h.F__law_model fun _ _ _ _ _ _ us hl => match us, hl with
  | [_, _, _], _ => rfl

/-! ### Plan.__len__ -/
def N_Plan_len : List Str := [("self" : Str)]
def p_Plan_len : List Str := [("self" : Str)]
abbrev s_Plan_len : Scope := defScope (inClass (top 23) 2)
noncomputable def b_Plan_len (k : Ads) : MS :=
  (sRet (eArg lenM (aCons (eBin ixM (eFld k.C_Plan ("ranks" : Str) (eVar 0)) (eC (.int 0))) aNil)))
noncomputable def m_Plan_len (k : Ads) : MF := runB (b_Plan_len k) N_Plan_len
theorem sc_Plan_len : FnScope N_Plan_len p_Plan_len s_Plan_len := scope_by (by decide +kernel)
theorem jb_Plan_len {S : Stat} (h : Fx S) : JSs (S.body 0 N_Plan_len s_Plan_len) (defBody (inClass (top 23) 2)) (b_Plan_len h.k) :=
  (jss_one (js_ret (je_callB cb_len rfl h.f_len rfl (ja_cons (je_ix (je_fld h.k_Plan h.n_Plan_ranks (jv 0)) je_int) ja_nil))))
theorem fn_Plan_len {S : Stat} (h : Fx S) : FnG S.P S.w S.K S.mg S.base 1 h.a_Plan_len h.d_Plan_len p_Plan_len (m_Plan_len h.k) := FnG.of h.F_Plan_len sc_Plan_len (jb_Plan_len h) fun _ _ _ => .rfl'
theorem bn_Plan_len {S : Stat} (h : Fx S) : BindG S.K h.d_Plan_len p_Plan_len 1 [] gAll := bindG_all h.F_Plan_len fun _ _ _ _ _ _ us hl => match us, hl with
  | [_], _ => rfl

/-! ### heard_within -/
def N_heard_within : List Str := [("plan" : Str), ("lost" : Str)]
def p_heard_within : List Str := [("plan" : Str), ("lost" : Str)]
abbrev s_heard_within : Scope := defScope (top 25)
noncomputable def b_heard_within (k : Ads) : MS :=
  (sRet (eBin addM (eBin mulM (eBin addM (eVar 1) (eC (.int 1))) (eFld k.C_Plan ("every" : Str) (eVar 0))) (eFld k.C_Plan ("slow" : Str) (eVar 0))))
noncomputable def m_heard_within (k : Ads) : MF := runB (b_heard_within k) N_heard_within
theorem sc_heard_within : FnScope N_heard_within p_heard_within s_heard_within := scope_by (by decide +kernel)
theorem jb_heard_within {S : Stat} (h : Fx S) : JSs (S.body 0 N_heard_within s_heard_within) (defBody (top 25)) (b_heard_within h.k) :=
  (jss_one (js_ret (je_bin o2_add (je_bin o2_mul (je_bin o2_add (jv 1) je_int) (je_fld h.k_Plan h.n_Plan_every (jv 0))) (je_fld h.k_Plan h.n_Plan_slow (jv 0)))))
theorem fn_heard_within {S : Stat} (h : Fx S) : FnG S.P S.w S.K S.mg S.base 1 h.a_heard_within h.d_heard_within p_heard_within (m_heard_within h.k) := FnG.of h.F_heard_within sc_heard_within (jb_heard_within h) fun _ _ _ => .rfl'
theorem bn_heard_within {S : Stat} (h : Fx S) : BindG S.K h.d_heard_within p_heard_within 2 [] gAll := bindG_all h.F_heard_within fun _ _ _ _ _ _ us hl => match us, hl with
  | [_, _], _ => rfl

/-! ### wait_of -/
def N_wait_of : List Str := [("plan" : Str), ("rank" : Str)]
def p_wait_of : List Str := [("plan" : Str), ("rank" : Str)]
abbrev s_wait_of : Scope := defScope (top 26)
noncomputable def b_wait_of (k : Ads) : MS :=
  (sRet (eBin addM (eCall (m_heard_within k) 2 gAll (aCons (eVar 0) (aCons (eFld k.C_Plan ("bears" : Str) (eVar 0)) aNil))) (eBin mulM (eFld k.C_Plan ("gap" : Str) (eVar 0)) (eBin subM (eC (.int 12)) (eVar 1)))))
noncomputable def m_wait_of (k : Ads) : MF := runB (b_wait_of k) N_wait_of
theorem sc_wait_of : FnScope N_wait_of p_wait_of s_wait_of := scope_by (by decide +kernel)
theorem jb_wait_of {S : Stat} (h : Fx S) : JSs (S.body 1 N_wait_of s_wait_of) (defBody (top 26)) (b_wait_of h.k) :=
  (jss_one (js_ret (je_bin o2_add (je_call (Nat.le_of_ble_eq_true rfl) (fn_heard_within h) (bn_heard_within h) rfl h.g_heard_within h.kp_heard_within (ja_cons (jv 0) (ja_cons (je_fld h.k_Plan h.n_Plan_bears (jv 0)) ja_nil))) (je_bin o2_mul (je_fld h.k_Plan h.n_Plan_gap (jv 0)) (je_bin o2_sub (je_gl h.c_TOP) (jv 1))))))
theorem fn_wait_of {S : Stat} (h : Fx S) : FnG S.P S.w S.K S.mg S.base 2 h.a_wait_of h.d_wait_of p_wait_of (m_wait_of h.k) := FnG.of h.F_wait_of sc_wait_of (jb_wait_of h) fun _ _ _ => .rfl'
theorem bn_wait_of {S : Stat} (h : Fx S) : BindG S.K h.d_wait_of p_wait_of 2 [] gAll := bindG_all h.F_wait_of fun _ _ _ _ _ _ us hl => match us, hl with
  | [_, _], _ => rfl

/-! ### first_state -/
def N_first_state : List Str := [("plan" : Str), ("houses" : Str), ("receivers" : Str), ("living" : Str), ("stands" : Str), ("lacks" : Str), ("tables" : Str), ("asks" : Str), ("house" : Str), ("row" : Str), ("rank" : Str), ("host" : Str)]
def p_first_state : List Str := [("plan" : Str)]
abbrev s_first_state : Scope := defScope (top 34)
noncomputable def b_first_state (k : Ads) : MS :=
  (sSeq (sAsg (eUn rangeL (eArg (lenI k.C_Plan (m_Plan_len k)) (aCons (eVar 0) aNil))) (gNm 1))
  (sSeq (sAsg (eBin addM (eArg (lenI k.C_Plan (m_Plan_len k)) (aCons (eVar 0) aNil)) (eFld k.C_Plan ("hosts" : Str) (eVar 0))) (gNm 2))
  (sSeq (sAsg (eArg tupM (aCons (eComp (iSeq (eVar 1)) [8] (gNm 8) tTrue (eC (.int 1))) aNil)) (gNm 3))
  (sSeq (sAsg (eArg tupM (aCons (eComp (iSeq (eFld k.C_Plan ("ranks" : Str) (eVar 0))) [9] (gNm 9) tTrue (eArg tupM (aCons (eComp (iSeq (eVar 9)) [10] (gNm 10) tTrue (eTup (aCons (eC (.str ("waits" : Str))) (aCons (eBin addM (eCall (m_wait_of k) 2 gAll (aCons (eVar 0) (aCons (eVar 10) aNil))) (eFld k.C_Plan ("hold" : Str) (eVar 0))) aNil)))) aNil))) aNil)) (gNm 4))
  (sSeq (sAsg (eArg tupM (aCons (eComp (iSeq (eFld k.C_Plan ("ranks" : Str) (eVar 0))) [9] (gNm 9) tTrue (eArg tupM (aCons (eComp (iSeq (eVar 1)) [8] (gNm 8) tTrue (eBin mulT (eTup (aCons (eC (.int 0)) aNil)) (eVar 2))) aNil))) aNil)) (gNm 5))
  (sSeq (sAsg (eArg tupM (aCons (eComp (iArg rng1 (aCons (eFld k.C_Plan ("hosts" : Str) (eVar 0)) aNil)) [11] (gNm 11) tTrue (eBin mulT (eTup (aCons (eUn negM (eC (.int 1))) aNil)) (eArg lenM (aCons (eFld k.C_Plan ("ranks" : Str) (eVar 0)) aNil)))) aNil)) (gNm 6))
  (sSeq (sAsg (eArg tupM (aCons (eComp (iArg rng1 (aCons (eFld k.C_Plan ("hosts" : Str) (eVar 0)) aNil)) [11] (gNm 11) tTrue (eTup (aCons (eC (.int 0)) (aCons (eC (.int 0)) aNil)))) aNil)) (gNm 7))
  (sRet (eTup (aCons (eVar 3) (aCons (eBin mulT (eTup (aCons (eC (.int 0)) aNil)) (eVar 2)) (aCons (eTup aNil) (aCons (eFld k.C_Plan ("ranks" : Str) (eVar 0)) (aCons (eVar 4) (aCons (eTup aNil) (aCons (eVar 5) (aCons (eVar 6) (aCons (eVar 7) aNil))))))))))))))))))
noncomputable def m_first_state (k : Ads) : MF := runB (b_first_state k) N_first_state
theorem sc_first_state : FnScope N_first_state p_first_state s_first_state := scope_by (by decide +kernel)
theorem jb_first_state {S : Stat} (h : Fx S) : JSs (S.body 2 N_first_state s_first_state) (defBody (top 34)) (b_first_state h.k) :=
  (jss_cons (jsn 1 (je_listR rfl h.f_list rfl h.f_range (je_callB (cb_lenI (Nat.le_of_ble_eq_true rfl) h.k_Plan h.L_Plan_len (fn_Plan_len h) (bn_Plan_len h)) rfl h.f_len rfl (ja_cons (jv 0) ja_nil))))
  (jss_cons (jsn 2 (je_bin o2_add (je_callB (cb_lenI (Nat.le_of_ble_eq_true rfl) h.k_Plan h.L_Plan_len (fn_Plan_len h) (bn_Plan_len h)) rfl h.f_len rfl (ja_cons (jv 0) ja_nil)) (je_fld h.k_Plan h.n_Plan_hosts (jv 0))))
  (jss_cons (jsn 3 (je_callT cb_tuple rfl h.f_tuple rfl (ja_cons (je_comp (own := [(("house" : Str), 8)]) (ji_seq (jv 1)) (by kernel_rfl) (jcn 8) jts_nil je_int) ja_nil)))
  (jss_cons (jsn 4 (je_callT cb_tuple rfl h.f_tuple rfl (ja_cons (je_comp (own := [(("row" : Str), 9)]) (ji_seq (je_fld h.k_Plan h.n_Plan_ranks (jv 0))) (by kernel_rfl) (jcn 9) jts_nil (je_callT cb_tuple rfl h.f_tuple rfl (ja_cons (je_comp (own := [(("rank" : Str), 10)]) (ji_seq (jv 9)) (by kernel_rfl) (jcn 10) jts_nil (je_tup (ja_cons (je_gl h.c_WAITS) (ja_cons (je_bin o2_add (je_call (Nat.le_of_ble_eq_true rfl) (fn_wait_of h) (bn_wait_of h) rfl h.g_wait_of h.kp_wait_of (ja_cons (jv 0) (ja_cons (jv 10) ja_nil))) (je_fld h.k_Plan h.n_Plan_hold (jv 0))) ja_nil)))) ja_nil))) ja_nil)))
  (jss_cons (jsn 5 (je_callT cb_tuple rfl h.f_tuple rfl (ja_cons (je_comp (own := [(("row" : Str), 9)]) (ji_seq (je_fld h.k_Plan h.n_Plan_ranks (jv 0))) (by kernel_rfl) (jcn 9) jts_nil (je_callT cb_tuple rfl h.f_tuple rfl (ja_cons (je_comp (own := [(("house" : Str), 8)]) (ji_seq (jv 1)) (by kernel_rfl) (jcn 8) jts_nil (je_bin o2_mulT (je_tup (ja_cons je_int ja_nil)) (jv 2))) ja_nil))) ja_nil)))
  (jss_cons (jsn 6 (je_callT cb_tuple rfl h.f_tuple rfl (ja_cons (je_comp (own := [(("host" : Str), 11)]) (ji_range1 rfl h.f_range (ja_cons (je_fld h.k_Plan h.n_Plan_hosts (jv 0)) ja_nil)) (by kernel_rfl) (jcn 11) jts_nil (je_bin o2_mulT (je_tup (ja_cons (je_un o1_neg je_int) ja_nil)) (je_callB cb_len rfl h.f_len rfl (ja_cons (je_fld h.k_Plan h.n_Plan_ranks (jv 0)) ja_nil)))) ja_nil)))
  (jss_cons (jsn 7 (je_callT cb_tuple rfl h.f_tuple rfl (ja_cons (je_comp (own := [(("host" : Str), 11)]) (ji_range1 rfl h.f_range (ja_cons (je_fld h.k_Plan h.n_Plan_hosts (jv 0)) ja_nil)) (by kernel_rfl) (jcn 11) jts_nil (je_tup (ja_cons je_int (ja_cons je_int ja_nil)))) ja_nil)))
  (jss_one (js_ret (je_tup (ja_cons (jv 3) (ja_cons (je_bin o2_mulT (je_tup (ja_cons je_int ja_nil)) (jv 2)) (ja_cons (je_tup ja_nil) (ja_cons (je_fld h.k_Plan h.n_Plan_ranks (jv 0)) (ja_cons (jv 4) (ja_cons (je_tup ja_nil) (ja_cons (jv 5) (ja_cons (jv 6) (ja_cons (jv 7) ja_nil)))))))))))))))))))
theorem fn_first_state {S : Stat} (h : Fx S) : FnG S.P S.w S.K S.mg S.base 3 h.a_first_state h.d_first_state p_first_state (m_first_state h.k) := FnG.of h.F_first_state sc_first_state (jb_first_state h) fun _ _ _ => .rfl'
theorem bn_first_state {S : Stat} (h : Fx S) : BindG S.K h.d_first_state p_first_state 1 [] gAll := bindG_all h.F_first_state fun _ _ _ _ _ _ us hl => match us, hl with
  | [_], _ => rfl
abbrev g_first_state_0_plan (k : Ads) : List D → List D → List D := pick [(true, 0)]
theorem bk_first_state_0_plan {S : Stat} (h : Fx S) : BindG S.K h.d_first_state p_first_state 0 [("plan" : Str)] (g_first_state_0_plan h.k) := bind_pick h.F_first_state 0 _ _ (fun _ _ _ _ _ _ us ws h1 h2 => match us, ws, h1, h2 with
  | [], [_], _, _ => rfl) fun xs zs h1 h2 => match xs, zs, h1, h2 with
  | [], [_], _, _ => rfl

/-! ### are_within -/
def N_are_within : List Str := [("thing" : Str), ("many" : Str), ("least" : Str), ("most" : Str), ("one" : Str)]
def p_are_within : List Str := [("thing" : Str), ("many" : Str), ("least" : Str), ("most" : Str)]
abbrev s_are_within : Scope := defScope (top 35)
noncomputable def b_are_within (k : Ads) : MS :=
  (sSeq (sIf (tOrM (tNotM (tTru (eArg (isiM noKc) (aCons (eVar 0) (aCons (eC (.ty "tuple")) aNil))))) (tVal (eBin neM (eArg lenM (aCons (eVar 0) aNil)) (eVar 1)))) (sRet (eC (.bl false))) sNext)
  (sRet (eArg allM (aCons (eComp (iSeq (eVar 0)) [4] (gNm 4) tTrue (eCall (m_is_within k) 3 gAll (aCons (eVar 4) (aCons (eVar 2) (aCons (eVar 3) aNil))))) aNil))))
noncomputable def m_are_within (k : Ads) : MF := runB (b_are_within k) N_are_within
theorem sc_are_within : FnScope N_are_within p_are_within s_are_within := scope_by (by decide +kernel)
theorem jb_are_within {S : Stat} (h : Fx S) : JSs (S.body 2 N_are_within s_are_within) (defBody (top 35)) (b_are_within h.k) :=
  (jss_cons (js_if (jt_w (jw_or (jt_not (jt_truth (je_callB (cb_isi noKc_ok) rfl h.f_isinstance rfl (ja_cons (jv 0) (ja_cons (je_bty rfl h.f_tuple rfl) ja_nil))))) (jw_or1 (jt_cmp o2_ne (je_callB cb_len rfl h.f_len rfl (ja_cons (jv 0) ja_nil)) (jv 1))))) (jss_one (js_ret je_bl)) jss_nil)
  (jss_one (js_ret (je_callB cb_all rfl h.f_all rfl (ja_cons (je_comp (own := [(("one" : Str), 4)]) (ji_seq (jv 0)) (by kernel_rfl) (jcn 4) jts_nil (je_call (Nat.le_of_ble_eq_true rfl) (fn_is_within h) (bn_is_within h) rfl h.g_is_within h.kp_is_within (ja_cons (jv 4) (ja_cons (jv 2) (ja_cons (jv 3) ja_nil))))) ja_nil)))))
theorem fn_are_within {S : Stat} (h : Fx S) : FnG S.P S.w S.K S.mg S.base 3 h.a_are_within h.d_are_within p_are_within (m_are_within h.k) := FnG.of h.F_are_within sc_are_within (jb_are_within h) fun _ _ _ => .rfl'
theorem bn_are_within {S : Stat} (h : Fx S) : BindG S.K h.d_are_within p_are_within 4 [] gAll := bindG_all h.F_are_within fun _ _ _ _ _ _ us hl => match us, hl with
  | [_, _, _, _], _ => rfl

/-! ### is_table -/
def N_is_table : List Str := [("thing" : Str), ("many" : Str)]
def p_is_table : List Str := [("thing" : Str), ("many" : Str)]
abbrev s_is_table : Scope := defScope (top 36)
noncomputable def b_is_table (k : Ads) : MS :=
  (sRet (eAnd (eArg (isiM noKc) (aCons (eVar 0) (aCons (eC (.ty "tuple")) aNil))) (eBin eqM (eArg lenM (aCons (eVar 0) aNil)) (eVar 1))))
noncomputable def m_is_table (k : Ads) : MF := runB (b_is_table k) N_is_table
theorem sc_is_table : FnScope N_is_table p_is_table s_is_table := scope_by (by decide +kernel)
theorem jb_is_table {S : Stat} (h : Fx S) : JSs (S.body 0 N_is_table s_is_table) (defBody (top 36)) (b_is_table h.k) :=
  (jss_one (js_ret (je_and (je_callB (cb_isi noKc_ok) rfl h.f_isinstance rfl (ja_cons (jv 0) (ja_cons (je_bty rfl h.f_tuple rfl) ja_nil))) (je_one (je_cmp o2_eq (je_callB cb_len rfl h.f_len rfl (ja_cons (jv 0) ja_nil)) (jv 1))))))
theorem fn_is_table {S : Stat} (h : Fx S) : FnG S.P S.w S.K S.mg S.base 1 h.a_is_table h.d_is_table p_is_table (m_is_table h.k) := FnG.of h.F_is_table sc_is_table (jb_is_table h) fun _ _ _ => .rfl'
theorem bn_is_table {S : Stat} (h : Fx S) : BindG S.K h.d_is_table p_is_table 2 [] gAll := bindG_all h.F_is_table fun _ _ _ _ _ _ us hl => match us, hl with
  | [_, _], _ => rfl

/-! ### are_asks -/
def N_are_asks : List Str := [("plan" : Str), ("thing" : Str), ("one" : Str), ("asked" : Str), ("dropped" : Str)]
def p_are_asks : List Str := [("plan" : Str), ("thing" : Str)]
abbrev s_are_asks : Scope := defScope (top 42)
noncomputable def b_are_asks (k : Ads) : MS :=
  (sSeq (sIf (tOrM (tNotM (tTru (eCall (m_is_table k) 2 gAll (aCons (eVar 1) (aCons (eFld k.C_Plan ("hosts" : Str) (eVar 0)) aNil))))) (tNotM (tTru (eArg allM (aCons (eComp (iSeq (eVar 1)) [2] (gNm 2) tTrue (eCall (m_are_within k) 4 gAll (aCons (eVar 2) (aCons (eC (.int 2)) (aCons (eC (.int 0)) (aCons (eC (.int 1000000000000000000000000000000000000000000000000000000000000)) aNil)))))) aNil))))) (sRet (eC (.bl false))) sNext)
  (sRet (eArg allM (aCons (eComp (iSeq (eVar 1)) [3, 4] (gTupM 2 (gsCons (gNm 3) (gsCons (gNm 4) gsNil))) tTrue (eBin leM (eVar 4) (eVar 3))) aNil))))
noncomputable def m_are_asks (k : Ads) : MF := runB (b_are_asks k) N_are_asks
theorem sc_are_asks : FnScope N_are_asks p_are_asks s_are_asks := scope_by (by decide +kernel)
theorem jb_are_asks {S : Stat} (h : Fx S) : JSs (S.body 3 N_are_asks s_are_asks) (defBody (top 42)) (b_are_asks h.k) :=
  (jss_cons (js_if (jt_w (jw_or (jt_not (jt_truth (je_call (Nat.le_of_ble_eq_true rfl) (fn_is_table h) (bn_is_table h) rfl h.g_is_table h.kp_is_table (ja_cons (jv 1) (ja_cons (je_fld h.k_Plan h.n_Plan_hosts (jv 0)) ja_nil))))) (jw_or1 (jt_not (jt_truth (je_callB cb_all rfl h.f_all rfl (ja_cons (je_comp (own := [(("one" : Str), 2)]) (ji_seq (jv 1)) (by kernel_rfl) (jcn 2) jts_nil (je_call (Nat.le_of_ble_eq_true rfl) (fn_are_within h) (bn_are_within h) rfl h.g_are_within h.kp_are_within (ja_cons (jv 2) (ja_cons je_int (ja_cons je_int (ja_cons (je_gl h.c_FAR) ja_nil)))))) ja_nil))))))) (jss_one (js_ret je_bl)) jss_nil)
  (jss_one (js_ret (je_callB cb_all rfl h.f_all rfl (ja_cons (je_comp (own := [(("asked" : Str), 3), (("dropped" : Str), 4)]) (ji_seq (jv 1)) (by kernel_rfl) (jc_tup (n := 2) (jcs_cons (jcn 3) (jcs_cons (jcn 4) jcs_nil))) jts_nil (je_cmp o2_le (jv 4) (jv 3))) ja_nil)))))
theorem fn_are_asks {S : Stat} (h : Fx S) : FnG S.P S.w S.K S.mg S.base 4 h.a_are_asks h.d_are_asks p_are_asks (m_are_asks h.k) := FnG.of h.F_are_asks sc_are_asks (jb_are_asks h) fun _ _ _ => .rfl'
theorem bn_are_asks {S : Stat} (h : Fx S) : BindG S.K h.d_are_asks p_are_asks 2 [] gAll := bindG_all h.F_are_asks fun _ _ _ _ _ _ us hl => match us, hl with
  | [_, _], _ => rfl

/-! ### are_downs -/
def N_are_downs : List Str := [("plan" : Str), ("thing" : Str), ("ties" : Str), ("rising" : Str), ("one" : Str), ("house" : Str), ("tie" : Str), ("less" : Str), ("other" : Str)]
def p_are_downs : List Str := [("plan" : Str), ("thing" : Str)]
abbrev s_are_downs : Scope := defScope (top 37)
noncomputable def b_are_downs (k : Ads) : MS :=
  (sSeq (sIf (tOrM (tNotM (tTru (eArg (isiM noKc) (aCons (eVar 1) (aCons (eC (.ty "tuple")) aNil))))) (tNotM (tTru (eArg allM (aCons (eComp (iSeq (eVar 1)) [4] (gNm 4) tTrue (eCall (m_is_within k) 3 gAll (aCons (eVar 4) (aCons (eC (.int 0)) (aCons (eC (.int 1000000000000000000000000000000000000000000000000000000000000)) aNil))))) aNil))))) (sRet (eC (.bl false))) sNext)
  (sSeq (sAsg (eComp (iSeq (eFld k.C_Plan ("ties" : Str) (eVar 0))) [5, 6, 7] (gTupM 3 (gsCons (gNm 5) (gsCons (gNm 6) (gsCons (gNm 7) gsNil)))) tTrue (eVar 6)) (gNm 2))
  (sSeq (sAsg (eArg allM (aCons (eComp (iArg zsM (aCons (eSl slM (eVar 1) oNone (oSome (eUn negM (eC (.int 1))))) (aCons (eSl slM (eVar 1) (oSome (eC (.int 1))) oNone) aNil))) [4, 8] (gTupM 2 (gsCons (gNm 4) (gsCons (gNm 8) gsNil))) tTrue (eBin ltA (eVar 4) (eVar 8))) aNil)) (gNm 3))
  (sRet (eAnd (eVar 3) (eArg allM (aCons (eComp (iSeq (eVar 1)) [4] (gNm 4) tTrue (eBin inM (eVar 4) (eVar 2))) aNil)))))))
noncomputable def m_are_downs (k : Ads) : MF := runB (b_are_downs k) N_are_downs
theorem sc_are_downs : FnScope N_are_downs p_are_downs s_are_downs := scope_by (by decide +kernel)
theorem jb_are_downs {S : Stat} (h : Fx S) : JSs (S.body 2 N_are_downs s_are_downs) (defBody (top 37)) (b_are_downs h.k) :=
  (jss_cons (js_if (jt_w (jw_or (jt_not (jt_truth (je_callB (cb_isi noKc_ok) rfl h.f_isinstance rfl (ja_cons (jv 1) (ja_cons (je_bty rfl h.f_tuple rfl) ja_nil))))) (jw_or1 (jt_not (jt_truth (je_callB cb_all rfl h.f_all rfl (ja_cons (je_comp (own := [(("one" : Str), 4)]) (ji_seq (jv 1)) (by kernel_rfl) (jcn 4) jts_nil (je_call (Nat.le_of_ble_eq_true rfl) (fn_is_within h) (bn_is_within h) rfl h.g_is_within h.kp_is_within (ja_cons (jv 4) (ja_cons je_int (ja_cons (je_gl h.c_FAR) ja_nil))))) ja_nil))))))) (jss_one (js_ret je_bl)) jss_nil)
  (jss_cons (jscC 2 (own := [(("house" : Str), 5), (("tie" : Str), 6), (("less" : Str), 7)]) (ji_seq (je_fld h.k_Plan h.n_Plan_ties (jv 0))) (by kernel_rfl) (jc_tup (n := 3) (jcs_cons (jcn 5) (jcs_cons (jcn 6) (jcs_cons (jcn 7) jcs_nil)))) jts_nil (jv 6))
  (jss_cons (jsn 3 (je_callB cb_all rfl h.f_all rfl (ja_cons (je_comp (own := [(("one" : Str), 4), (("other" : Str), 8)]) (ji_zs rfl h.f_zip (ja_cons (je_sl sl_ok (jv 1) jo_none (jo_some (je_un o1_neg je_int))) (ja_cons (je_sl sl_ok (jv 1) (jo_some je_int) jo_none) ja_nil))) (by kernel_rfl) (jc_tup (n := 2) (jcs_cons (jcn 4) (jcs_cons (jcn 8) jcs_nil))) jts_nil (je_cmp o2_lt (jv 4) (jv 8))) ja_nil)))
  (jss_one (js_ret (je_and (jv 3) (je_one (je_callB cb_all rfl h.f_all rfl (ja_cons (je_comp (own := [(("one" : Str), 4)]) (ji_seq (jv 1)) (by kernel_rfl) (jcn 4) jts_nil (je_cmp o2_in (jv 4) (jv 2))) ja_nil)))))))))
theorem fn_are_downs {S : Stat} (h : Fx S) : FnG S.P S.w S.K S.mg S.base 3 h.a_are_downs h.d_are_downs p_are_downs (m_are_downs h.k) := FnG.of h.F_are_downs sc_are_downs (jb_are_downs h) fun _ _ _ => .rfl'
theorem bn_are_downs {S : Stat} (h : Fx S) : BindG S.K h.d_are_downs p_are_downs 2 [] gAll := bindG_all h.F_are_downs fun _ _ _ _ _ _ us hl => match us, hl with
  | [_, _], _ => rfl

/-! ### are_lacks -/
def N_are_lacks : List Str := [("plan" : Str), ("thing" : Str), ("rows" : Str), ("house" : Str), ("row" : Str)]
def p_are_lacks : List Str := [("plan" : Str), ("thing" : Str)]
abbrev s_are_lacks : Scope := defScope (top 41)
noncomputable def b_are_lacks (k : Ads) : MS :=
  (sSeq (sIf (tOrM (tNotM (tTru (eCall (m_is_table k) 2 gAll (aCons (eVar 1) (aCons (eArg lenM (aCons (eFld k.C_Plan ("ranks" : Str) (eVar 0)) aNil)) aNil))))) (tNotM (tTru (eArg allM (aCons (eComp (iSeq (eVar 1)) [2] (gNm 2) tTrue (eCall (m_is_table k) 2 gAll (aCons (eVar 2) (aCons (eArg (lenI k.C_Plan (m_Plan_len k)) (aCons (eVar 0) aNil)) aNil)))) aNil))))) (sRet (eC (.bl false))) sNext)
  (sSeq (sFor (iSeq (eVar 1)) (gNm 2) (sFor (iArg enumM (aCons (eVar 2) aNil)) (gTupM 2 (gsCons (gNm 3) (gsCons (gNm 4) gsNil))) (sIf (tOrM (tNotM (tTru (eCall (m_are_within k) 4 gAll (aCons (eVar 4) (aCons (eBin addM (eArg (lenI k.C_Plan (m_Plan_len k)) (aCons (eVar 0) aNil)) (eFld k.C_Plan ("hosts" : Str) (eVar 0))) (aCons (eC (.int 0)) (aCons (eFld k.C_Plan ("lost" : Str) (eVar 0)) aNil))))))) (tVal (eBin neM (eBin ixM (eVar 4) (eVar 3)) (eC (.int 0))))) (sRet (eC (.bl false))) sNext)))
  (sRet (eC (.bl true)))))
noncomputable def m_are_lacks (k : Ads) : MF := runB (b_are_lacks k) N_are_lacks
theorem sc_are_lacks : FnScope N_are_lacks p_are_lacks s_are_lacks := scope_by (by decide +kernel)
theorem jb_are_lacks {S : Stat} (h : Fx S) : JSs (S.body 3 N_are_lacks s_are_lacks) (defBody (top 41)) (b_are_lacks h.k) :=
  (jss_cons (js_if (jt_w (jw_or (jt_not (jt_truth (je_call (Nat.le_of_ble_eq_true rfl) (fn_is_table h) (bn_is_table h) rfl h.g_is_table h.kp_is_table (ja_cons (jv 1) (ja_cons (je_callB cb_len rfl h.f_len rfl (ja_cons (je_fld h.k_Plan h.n_Plan_ranks (jv 0)) ja_nil)) ja_nil))))) (jw_or1 (jt_not (jt_truth (je_callB cb_all rfl h.f_all rfl (ja_cons (je_comp (own := [(("rows" : Str), 2)]) (ji_seq (jv 1)) (by kernel_rfl) (jcn 2) jts_nil (je_call (Nat.le_of_ble_eq_true rfl) (fn_is_table h) (bn_is_table h) rfl h.g_is_table h.kp_is_table (ja_cons (jv 2) (ja_cons (je_callB (cb_lenI (Nat.le_of_ble_eq_true rfl) h.k_Plan h.L_Plan_len (fn_Plan_len h) (bn_Plan_len h)) rfl h.f_len rfl (ja_cons (jv 0) ja_nil)) ja_nil)))) ja_nil))))))) (jss_one (js_ret je_bl)) jss_nil)
  (jss_cons (js_for (ji_seq (jv 1)) (jgn 2) (jss_one (js_for (ji_enumT rfl h.f_enumerate (ja_cons (jv 2) ja_nil)) (jg_tup (n := 2) (jgs_cons (jgn 3) (jgs_cons (jgn 4) jgs_nil))) (jss_one (js_if (jt_w (jw_or (jt_not (jt_truth (je_call (Nat.le_of_ble_eq_true rfl) (fn_are_within h) (bn_are_within h) rfl h.g_are_within h.kp_are_within (ja_cons (jv 4) (ja_cons (je_bin o2_add (je_callB (cb_lenI (Nat.le_of_ble_eq_true rfl) h.k_Plan h.L_Plan_len (fn_Plan_len h) (bn_Plan_len h)) rfl h.f_len rfl (ja_cons (jv 0) ja_nil)) (je_fld h.k_Plan h.n_Plan_hosts (jv 0))) (ja_cons je_int (ja_cons (je_fld h.k_Plan h.n_Plan_lost (jv 0)) ja_nil))))))) (jw_or1 (jt_cmp o2_ne (je_ix (jv 4) (jv 3)) je_int)))) (jss_one (js_ret je_bl)) jss_nil)))))
  (jss_one (js_ret je_bl))))
theorem fn_are_lacks {S : Stat} (h : Fx S) : FnG S.P S.w S.K S.mg S.base 4 h.a_are_lacks h.d_are_lacks p_are_lacks (m_are_lacks h.k) := FnG.of h.F_are_lacks sc_are_lacks (jb_are_lacks h) fun _ _ _ => .rfl'
theorem bn_are_lacks {S : Stat} (h : Fx S) : BindG S.K h.d_are_lacks p_are_lacks 2 [] gAll := bindG_all h.F_are_lacks fun _ _ _ _ _ _ us hl => match us, hl with
  | [_, _], _ => rfl

/-! ### is_stand -/
def N_is_stand : List Str := [("plan" : Str), ("lives" : Str), ("thing" : Str), ("role" : Str), ("clock" : Str)]
def p_is_stand : List Str := [("plan" : Str), ("lives" : Str), ("thing" : Str)]
abbrev s_is_stand : Scope := defScope (top 38)
noncomputable def b_is_stand (k : Ads) : MS :=
  (sSeq (sIf (tOrM (tNotM (tTru (eArg (isiM noKc) (aCons (eVar 2) (aCons (eC (.ty "tuple")) aNil))))) (tOrM (tVal (eBin neM (eArg lenM (aCons (eVar 2) aNil)) (eC (.int 2)))) (tNotM (tTru (eArg (isiM noKc) (aCons (eBin ixM (eVar 2) (eC (.int 0))) (aCons (eC (.ty "str")) aNil))))))) (sRet (eC (.bl false))) sNext)
  (sSeq (sAsg (eVar 2) (gTupM 2 (gsCons (gNm 3) (gsCons (gNm 4) gsNil))))
  (sSeq (sIf (tOrM (tVal (eBin eqM (eVar 3) (eC (.str ("rests" : Str))))) (tVal (eBin eqM (eVar 1) (eC (.int 0))))) (sRet (eAnd (eBin eqM (eVar 3) (eC (.str ("rests" : Str)))) (eAnd (eBin eqM (eVar 1) (eC (.int 0))) (eCall (m_is_within k) 3 gAll (aCons (eVar 4) (aCons (eC (.int 0)) (aCons (eC (.int 0)) aNil))))))) sNext)
  (sSeq (sIf (tVal (eBin eqM (eVar 3) (eC (.str ("waits" : Str))))) (sRet (eCall (m_is_within k) 3 gAll (aCons (eVar 4) (aCons (eC (.int 1)) (aCons (eC (.int 1000000000000000000000000000000000000000000000000000000000000)) aNil))))) sNext)
  (sRet (eAnd (eBin eqM (eVar 3) (eC (.str ("serves" : Str)))) (eCall (m_is_within k) 3 gAll (aCons (eVar 4) (aCons (eC (.int 1)) (aCons (eFld k.C_Plan ("every" : Str) (eVar 0)) aNil))))))))))
noncomputable def m_is_stand (k : Ads) : MF := runB (b_is_stand k) N_is_stand
theorem sc_is_stand : FnScope N_is_stand p_is_stand s_is_stand := scope_by (by decide +kernel)
theorem jb_is_stand {S : Stat} (h : Fx S) : JSs (S.body 2 N_is_stand s_is_stand) (defBody (top 38)) (b_is_stand h.k) :=
  (jss_cons (js_if (jt_w (jw_or (jt_not (jt_truth (je_callB (cb_isi noKc_ok) rfl h.f_isinstance rfl (ja_cons (jv 2) (ja_cons (je_bty rfl h.f_tuple rfl) ja_nil))))) (jw_or (jt_cmp o2_ne (je_callB cb_len rfl h.f_len rfl (ja_cons (jv 2) ja_nil)) je_int) (jw_or1 (jt_not (jt_truth (je_callB (cb_isi noKc_ok) rfl h.f_isinstance rfl (ja_cons (je_ix (jv 2) je_int) (ja_cons (je_bty rfl h.f_str rfl) ja_nil))))))))) (jss_one (js_ret je_bl)) jss_nil)
  (jss_cons (js_asg (jv 2) (jg_tup (n := 2) (jgs_cons (jgn 3) (jgs_cons (jgn 4) jgs_nil))))
  (jss_cons (js_if (jt_w (jw_or (jt_cmp o2_eq (jv 3) (je_gl h.c_RESTS)) (jw_or1 (jt_cmp o2_eq (jv 1) je_int)))) (jss_one (js_ret (je_and (je_cmp o2_eq (jv 3) (je_gl h.c_RESTS)) (je_and (je_cmp o2_eq (jv 1) je_int) (je_one (je_call (Nat.le_of_ble_eq_true rfl) (fn_is_within h) (bn_is_within h) rfl h.g_is_within h.kp_is_within (ja_cons (jv 4) (ja_cons je_int (ja_cons je_int ja_nil))))))))) jss_nil)
  (jss_cons (js_if (jt_cmp o2_eq (jv 3) (je_gl h.c_WAITS)) (jss_one (js_ret (je_call (Nat.le_of_ble_eq_true rfl) (fn_is_within h) (bn_is_within h) rfl h.g_is_within h.kp_is_within (ja_cons (jv 4) (ja_cons je_int (ja_cons (je_gl h.c_FAR) ja_nil)))))) jss_nil)
  (jss_one (js_ret (je_and (je_cmp o2_eq (jv 3) (je_gl h.c_SERVES)) (je_one (je_call (Nat.le_of_ble_eq_true rfl) (fn_is_within h) (bn_is_within h) rfl h.g_is_within h.kp_is_within (ja_cons (jv 4) (ja_cons je_int (ja_cons (je_fld h.k_Plan h.n_Plan_every (jv 0)) ja_nil))))))))))))
theorem fn_is_stand {S : Stat} (h : Fx S) : FnG S.P S.w S.K S.mg S.base 3 h.a_is_stand h.d_is_stand p_is_stand (m_is_stand h.k) := FnG.of h.F_is_stand sc_is_stand (jb_is_stand h) fun _ _ _ => .rfl'
theorem bn_is_stand {S : Stat} (h : Fx S) : BindG S.K h.d_is_stand p_is_stand 3 [] gAll := bindG_all h.F_is_stand fun _ _ _ _ _ _ us hl => match us, hl with
  | [_, _, _], _ => rfl

/-! ### are_stands -/
def N_are_stands : List Str := [("plan" : Str), ("living" : Str), ("thing" : Str), ("row" : Str), ("lives" : Str), ("one" : Str)]
def p_are_stands : List Str := [("plan" : Str), ("living" : Str), ("thing" : Str)]
abbrev s_are_stands : Scope := defScope (top 39)
noncomputable def b_are_stands (k : Ads) : MS :=
  (sSeq (sIf (tOrM (tNotM (tTru (eCall (m_is_table k) 2 gAll (aCons (eVar 2) (aCons (eArg lenM (aCons (eFld k.C_Plan ("ranks" : Str) (eVar 0)) aNil)) aNil))))) (tNotM (tTru (eArg allM (aCons (eComp (iSeq (eVar 2)) [3] (gNm 3) tTrue (eCall (m_is_table k) 2 gAll (aCons (eVar 3) (aCons (eArg (lenI k.C_Plan (m_Plan_len k)) (aCons (eVar 0) aNil)) aNil)))) aNil))))) (sRet (eC (.bl false))) sNext)
  (sRet (eArg allM (aCons (eComp2 (iSeq (eVar 2)) [3, 4, 5] (gNm 3) tTrue (iArg zsM (aCons (eVar 1) (aCons (eVar 3) aNil))) [4, 5] (gTupM 2 (gsCons (gNm 4) (gsCons (gNm 5) gsNil))) tTrue (eCall (m_is_stand k) 3 gAll (aCons (eVar 0) (aCons (eVar 4) (aCons (eVar 5) aNil))))) aNil))))
noncomputable def m_are_stands (k : Ads) : MF := runB (b_are_stands k) N_are_stands
theorem sc_are_stands : FnScope N_are_stands p_are_stands s_are_stands := scope_by (by decide +kernel)
theorem jb_are_stands {S : Stat} (h : Fx S) : JSs (S.body 3 N_are_stands s_are_stands) (defBody (top 39)) (b_are_stands h.k) :=
  (jss_cons (js_if (jt_w (jw_or (jt_not (jt_truth (je_call (Nat.le_of_ble_eq_true rfl) (fn_is_table h) (bn_is_table h) rfl h.g_is_table h.kp_is_table (ja_cons (jv 2) (ja_cons (je_callB cb_len rfl h.f_len rfl (ja_cons (je_fld h.k_Plan h.n_Plan_ranks (jv 0)) ja_nil)) ja_nil))))) (jw_or1 (jt_not (jt_truth (je_callB cb_all rfl h.f_all rfl (ja_cons (je_comp (own := [(("row" : Str), 3)]) (ji_seq (jv 2)) (by kernel_rfl) (jcn 3) jts_nil (je_call (Nat.le_of_ble_eq_true rfl) (fn_is_table h) (bn_is_table h) rfl h.g_is_table h.kp_is_table (ja_cons (jv 3) (ja_cons (je_callB (cb_lenI (Nat.le_of_ble_eq_true rfl) h.k_Plan h.L_Plan_len (fn_Plan_len h) (bn_Plan_len h)) rfl h.f_len rfl (ja_cons (jv 0) ja_nil)) ja_nil)))) ja_nil))))))) (jss_one (js_ret je_bl)) jss_nil)
  (jss_one (js_ret (je_callB cb_all rfl h.f_all rfl (ja_cons (je_comp2 (own := [(("row" : Str), 3), (("lives" : Str), 4), (("one" : Str), 5)]) (vs1 := [4, 5]) (ji_seq (jv 2)) (by kernel_rfl) (jcn 3) jts_nil (ji_zs rfl h.f_zip (ja_cons (jv 1) (ja_cons (jv 3) ja_nil))) (jc_tup (n := 2) (jcs_cons (jcn 4) (jcs_cons (jcn 5) jcs_nil))) jts_nil (je_call (Nat.le_of_ble_eq_true rfl) (fn_is_stand h) (bn_is_stand h) rfl h.g_is_stand h.kp_is_stand (ja_cons (jv 0) (ja_cons (jv 4) (ja_cons (jv 5) ja_nil))))) ja_nil)))))
theorem fn_are_stands {S : Stat} (h : Fx S) : FnG S.P S.w S.K S.mg S.base 4 h.a_are_stands h.d_are_stands p_are_stands (m_are_stands h.k) := FnG.of h.F_are_stands sc_are_stands (jb_are_stands h) fun _ _ _ => .rfl'
theorem bn_are_stands {S : Stat} (h : Fx S) : BindG S.K h.d_are_stands p_are_stands 3 [] gAll := bindG_all h.F_are_stands fun _ _ _ _ _ _ us hl => match us, hl with
  | [_, _, _], _ => rfl

/-! ### is_letter -/
def N_is_letter : List Str := [("plan" : Str), ("thing" : Str), ("left" : Str), ("address" : Str), ("sender" : Str), ("receiver" : Str), ("rank" : Str)]
def p_is_letter : List Str := [("plan" : Str), ("thing" : Str)]
abbrev s_is_letter : Scope := defScope (top 40)
noncomputable def b_is_letter (k : Ads) : MS :=
  (sSeq (sIf (tOrM (tNotM (tTru (eArg (isiM noKc) (aCons (eVar 1) (aCons (eC (.ty "tuple")) aNil))))) (tOrM (tVal (eBin neM (eArg lenM (aCons (eVar 1) aNil)) (eC (.int 5)))) (tNotM (tTru (eCall (m_is_within k) 3 gAll (aCons (eBin ixM (eVar 1) (eC (.int 0))) (aCons (eC (.int 1)) (aCons (eFld k.C_Plan ("slow" : Str) (eVar 0)) aNil)))))))) (sRet (eC (.bl false))) sNext)
  (sSeq (sAsg (eVar 1) (gTupM 5 (gsCons (gNm 2) (gsCons (gNm 3) (gsCons (gNm 4) (gsCons (gNm 5) (gsCons (gNm 6) gsNil)))))))
  (sSeq (sIf (tOrM (tNotM (tTru (eCall (m_is_within k) 3 gAll (aCons (eVar 3) (aCons (eC (.int 0)) (aCons (eBin subM (eArg lenM (aCons (eFld k.C_Plan ("ranks" : Str) (eVar 0)) aNil)) (eC (.int 1))) aNil)))))) (tNotM (tTru (eCall (m_is_within k) 3 gAll (aCons (eVar 4) (aCons (eC (.int 0)) (aCons (eBin subM (eArg (lenI k.C_Plan (m_Plan_len k)) (aCons (eVar 0) aNil)) (eC (.int 1))) aNil))))))) (sRet (eC (.bl false))) sNext)
  (sRet (eAnd (eCall (m_is_within k) 3 gAll (aCons (eVar 5) (aCons (eC (.int 0)) (aCons (eBin subM (eBin addM (eArg (lenI k.C_Plan (m_Plan_len k)) (aCons (eVar 0) aNil)) (eFld k.C_Plan ("hosts" : Str) (eVar 0))) (eC (.int 1))) aNil)))) (eAnd (eBin neM (eVar 5) (eVar 4)) (eCall (m_is_within k) 3 gAll (aCons (eVar 6) (aCons (eC (.int 0)) (aCons (eC (.int 12)) aNil))))))))))
noncomputable def m_is_letter (k : Ads) : MF := runB (b_is_letter k) N_is_letter
theorem sc_is_letter : FnScope N_is_letter p_is_letter s_is_letter := scope_by (by decide +kernel)
theorem jb_is_letter {S : Stat} (h : Fx S) : JSs (S.body 2 N_is_letter s_is_letter) (defBody (top 40)) (b_is_letter h.k) :=
  (jss_cons (js_if (jt_w (jw_or (jt_not (jt_truth (je_callB (cb_isi noKc_ok) rfl h.f_isinstance rfl (ja_cons (jv 1) (ja_cons (je_bty rfl h.f_tuple rfl) ja_nil))))) (jw_or (jt_cmp o2_ne (je_callB cb_len rfl h.f_len rfl (ja_cons (jv 1) ja_nil)) (je_gl h.c_LETTER)) (jw_or1 (jt_not (jt_truth (je_call (Nat.le_of_ble_eq_true rfl) (fn_is_within h) (bn_is_within h) rfl h.g_is_within h.kp_is_within (ja_cons (je_ix (jv 1) je_int) (ja_cons je_int (ja_cons (je_fld h.k_Plan h.n_Plan_slow (jv 0)) ja_nil)))))))))) (jss_one (js_ret je_bl)) jss_nil)
  (jss_cons (js_asg (jv 1) (jg_tup (n := 5) (jgs_cons (jgn 2) (jgs_cons (jgn 3) (jgs_cons (jgn 4) (jgs_cons (jgn 5) (jgs_cons (jgn 6) jgs_nil)))))))
  (jss_cons (js_if (jt_w (jw_or (jt_not (jt_truth (je_call (Nat.le_of_ble_eq_true rfl) (fn_is_within h) (bn_is_within h) rfl h.g_is_within h.kp_is_within (ja_cons (jv 3) (ja_cons je_int (ja_cons (je_bin o2_sub (je_callB cb_len rfl h.f_len rfl (ja_cons (je_fld h.k_Plan h.n_Plan_ranks (jv 0)) ja_nil)) je_int) ja_nil)))))) (jw_or1 (jt_not (jt_truth (je_call (Nat.le_of_ble_eq_true rfl) (fn_is_within h) (bn_is_within h) rfl h.g_is_within h.kp_is_within (ja_cons (jv 4) (ja_cons je_int (ja_cons (je_bin o2_sub (je_callB (cb_lenI (Nat.le_of_ble_eq_true rfl) h.k_Plan h.L_Plan_len (fn_Plan_len h) (bn_Plan_len h)) rfl h.f_len rfl (ja_cons (jv 0) ja_nil)) je_int) ja_nil))))))))) (jss_one (js_ret je_bl)) jss_nil)
  (jss_one (js_ret (je_and (je_call (Nat.le_of_ble_eq_true rfl) (fn_is_within h) (bn_is_within h) rfl h.g_is_within h.kp_is_within (ja_cons (jv 5) (ja_cons je_int (ja_cons (je_bin o2_sub (je_bin o2_add (je_callB (cb_lenI (Nat.le_of_ble_eq_true rfl) h.k_Plan h.L_Plan_len (fn_Plan_len h) (bn_Plan_len h)) rfl h.f_len rfl (ja_cons (jv 0) ja_nil)) (je_fld h.k_Plan h.n_Plan_hosts (jv 0))) je_int) ja_nil)))) (je_and (je_cmp o2_ne (jv 5) (jv 4)) (je_one (je_call (Nat.le_of_ble_eq_true rfl) (fn_is_within h) (bn_is_within h) rfl h.g_is_within h.kp_is_within (ja_cons (jv 6) (ja_cons je_int (ja_cons (je_gl h.c_TOP) ja_nil))))))))))))
theorem fn_is_letter {S : Stat} (h : Fx S) : FnG S.P S.w S.K S.mg S.base 3 h.a_is_letter h.d_is_letter p_is_letter (m_is_letter h.k) := FnG.of h.F_is_letter sc_is_letter (jb_is_letter h) fun _ _ _ => .rfl'
theorem bn_is_letter {S : Stat} (h : Fx S) : BindG S.K h.d_is_letter p_is_letter 2 [] gAll := bindG_all h.F_is_letter fun _ _ _ _ _ _ us hl => match us, hl with
  | [_, _], _ => rfl

/-! ### is_state -/
def N_is_state : List Str := [("plan" : Str), ("thing" : Str), ("living" : Str), ("parts" : Str), ("downs" : Str), ("ranks" : Str), ("stands" : Str), ("letters" : Str), ("lacks" : Str), ("tables" : Str), ("asks" : Str), ("row" : Str), ("one" : Str)]
def p_is_state : List Str := [("plan" : Str), ("thing" : Str)]
abbrev s_is_state : Scope := defScope (top 43)
noncomputable def b_is_state (k : Ads) : MS :=
  (sSeq (sIf (tNotM (tTru (eCall (m_is_table k) 2 gAll (aCons (eVar 1) (aCons (eC (.int 9)) aNil))))) (sRet (eC (.bl false))) sNext)
  (sSeq (sAsg (eVar 1) (gTupM 9 (gsCons (gNm 2) (gsCons (gNm 3) (gsCons (gNm 4) (gsCons (gNm 5) (gsCons (gNm 6) (gsCons (gNm 7) (gsCons (gNm 8) (gsCons (gNm 9) (gsCons (gNm 10) gsNil)))))))))))
  (sSeq (sIf (tOrM (tNotM (tTru (eCall (m_are_within k) 4 gAll (aCons (eVar 2) (aCons (eArg (lenI k.C_Plan (m_Plan_len k)) (aCons (eVar 0) aNil)) (aCons (eC (.int 0)) (aCons (eC (.int 1)) aNil))))))) (tNotM (tTru (eCall (m_are_within k) 4 gAll (aCons (eVar 3) (aCons (eBin addM (eArg (lenI k.C_Plan (m_Plan_len k)) (aCons (eVar 0) aNil)) (eFld k.C_Plan ("hosts" : Str) (eVar 0))) (aCons (eC (.int 0)) (aCons (eC (.int 1)) aNil)))))))) (sRet (eC (.bl false))) sNext)
  (sSeq (sIf (tOrM (tNotM (tTru (eCall (m_are_downs k) 2 gAll (aCons (eVar 0) (aCons (eVar 4) aNil))))) (tNotM (tTru (eCall (m_is_table k) 2 gAll (aCons (eVar 5) (aCons (eArg lenM (aCons (eFld k.C_Plan ("ranks" : Str) (eVar 0)) aNil)) aNil)))))) (sRet (eC (.bl false))) sNext)
  (sSeq (sIf (tOrM (tNotM (tTru (eArg allM (aCons (eComp (iSeq (eVar 5)) [11] (gNm 11) tTrue (eCall (m_are_within k) 4 gAll (aCons (eVar 11) (aCons (eArg (lenI k.C_Plan (m_Plan_len k)) (aCons (eVar 0) aNil)) (aCons (eC (.int 1)) (aCons (eC (.int 12)) aNil)))))) aNil)))) (tNotM (tTru (eCall (m_are_stands k) 3 gAll (aCons (eVar 0) (aCons (eVar 2) (aCons (eVar 6) aNil))))))) (sRet (eC (.bl false))) sNext)
  (sSeq (sIf (tOrM (tNotM (tTru (eArg (isiM noKc) (aCons (eVar 7) (aCons (eC (.ty "tuple")) aNil))))) (tNotM (tTru (eArg allM (aCons (eComp (iSeq (eVar 7)) [12] (gNm 12) tTrue (eCall (m_is_letter k) 2 gAll (aCons (eVar 0) (aCons (eVar 12) aNil)))) aNil))))) (sRet (eC (.bl false))) sNext)
  (sSeq (sIf (tOrM (tNotM (tTru (eCall (m_are_lacks k) 2 gAll (aCons (eVar 0) (aCons (eVar 8) aNil))))) (tNotM (tTru (eCall (m_is_table k) 2 gAll (aCons (eVar 9) (aCons (eFld k.C_Plan ("hosts" : Str) (eVar 0)) aNil)))))) (sRet (eC (.bl false))) sNext)
  (sSeq (sIf (tNotM (tTru (eArg allM (aCons (eComp (iSeq (eVar 9)) [11] (gNm 11) tTrue (eCall (m_are_within k) 4 gAll (aCons (eVar 11) (aCons (eArg lenM (aCons (eFld k.C_Plan ("ranks" : Str) (eVar 0)) aNil)) (aCons (eUn negM (eC (.int 1))) (aCons (eBin subM (eArg (lenI k.C_Plan (m_Plan_len k)) (aCons (eVar 0) aNil)) (eC (.int 1))) aNil)))))) aNil)))) (sRet (eC (.bl false))) sNext)
  (sRet (eCall (m_are_asks k) 2 gAll (aCons (eVar 0) (aCons (eVar 10) aNil))))))))))))
noncomputable def m_is_state (k : Ads) : MF := runB (b_is_state k) N_is_state
theorem sc_is_state : FnScope N_is_state p_is_state s_is_state := scope_by (by decide +kernel)
theorem jb_is_state {S : Stat} (h : Fx S) : JSs (S.body 4 N_is_state s_is_state) (defBody (top 43)) (b_is_state h.k) :=
  (jss_cons (js_if (jt_not (jt_truth (je_call (Nat.le_of_ble_eq_true rfl) (fn_is_table h) (bn_is_table h) rfl h.g_is_table h.kp_is_table (ja_cons (jv 1) (ja_cons (je_gl h.c_WORDS) ja_nil))))) (jss_one (js_ret je_bl)) jss_nil)
  (jss_cons (js_asg (jv 1) (jg_tup (n := 9) (jgs_cons (jgn 2) (jgs_cons (jgn 3) (jgs_cons (jgn 4) (jgs_cons (jgn 5) (jgs_cons (jgn 6) (jgs_cons (jgn 7) (jgs_cons (jgn 8) (jgs_cons (jgn 9) (jgs_cons (jgn 10) jgs_nil)))))))))))
  (jss_cons (js_if (jt_w (jw_or (jt_not (jt_truth (je_call (Nat.le_of_ble_eq_true rfl) (fn_are_within h) (bn_are_within h) rfl h.g_are_within h.kp_are_within (ja_cons (jv 2) (ja_cons (je_callB (cb_lenI (Nat.le_of_ble_eq_true rfl) h.k_Plan h.L_Plan_len (fn_Plan_len h) (bn_Plan_len h)) rfl h.f_len rfl (ja_cons (jv 0) ja_nil)) (ja_cons je_int (ja_cons je_int ja_nil))))))) (jw_or1 (jt_not (jt_truth (je_call (Nat.le_of_ble_eq_true rfl) (fn_are_within h) (bn_are_within h) rfl h.g_are_within h.kp_are_within (ja_cons (jv 3) (ja_cons (je_bin o2_add (je_callB (cb_lenI (Nat.le_of_ble_eq_true rfl) h.k_Plan h.L_Plan_len (fn_Plan_len h) (bn_Plan_len h)) rfl h.f_len rfl (ja_cons (jv 0) ja_nil)) (je_fld h.k_Plan h.n_Plan_hosts (jv 0))) (ja_cons je_int (ja_cons je_int ja_nil)))))))))) (jss_one (js_ret je_bl)) jss_nil)
  (jss_cons (js_if (jt_w (jw_or (jt_not (jt_truth (je_call (Nat.le_of_ble_eq_true rfl) (fn_are_downs h) (bn_are_downs h) rfl h.g_are_downs h.kp_are_downs (ja_cons (jv 0) (ja_cons (jv 4) ja_nil))))) (jw_or1 (jt_not (jt_truth (je_call (Nat.le_of_ble_eq_true rfl) (fn_is_table h) (bn_is_table h) rfl h.g_is_table h.kp_is_table (ja_cons (jv 5) (ja_cons (je_callB cb_len rfl h.f_len rfl (ja_cons (je_fld h.k_Plan h.n_Plan_ranks (jv 0)) ja_nil)) ja_nil)))))))) (jss_one (js_ret je_bl)) jss_nil)
  (jss_cons (js_if (jt_w (jw_or (jt_not (jt_truth (je_callB cb_all rfl h.f_all rfl (ja_cons (je_comp (own := [(("row" : Str), 11)]) (ji_seq (jv 5)) (by kernel_rfl) (jcn 11) jts_nil (je_call (Nat.le_of_ble_eq_true rfl) (fn_are_within h) (bn_are_within h) rfl h.g_are_within h.kp_are_within (ja_cons (jv 11) (ja_cons (je_callB (cb_lenI (Nat.le_of_ble_eq_true rfl) h.k_Plan h.L_Plan_len (fn_Plan_len h) (bn_Plan_len h)) rfl h.f_len rfl (ja_cons (jv 0) ja_nil)) (ja_cons je_int (ja_cons (je_gl h.c_TOP) ja_nil)))))) ja_nil)))) (jw_or1 (jt_not (jt_truth (je_call (Nat.le_of_ble_eq_true rfl) (fn_are_stands h) (bn_are_stands h) rfl h.g_are_stands h.kp_are_stands (ja_cons (jv 0) (ja_cons (jv 2) (ja_cons (jv 6) ja_nil))))))))) (jss_one (js_ret je_bl)) jss_nil)
  (jss_cons (js_if (jt_w (jw_or (jt_not (jt_truth (je_callB (cb_isi noKc_ok) rfl h.f_isinstance rfl (ja_cons (jv 7) (ja_cons (je_bty rfl h.f_tuple rfl) ja_nil))))) (jw_or1 (jt_not (jt_truth (je_callB cb_all rfl h.f_all rfl (ja_cons (je_comp (own := [(("one" : Str), 12)]) (ji_seq (jv 7)) (by kernel_rfl) (jcn 12) jts_nil (je_call (Nat.le_of_ble_eq_true rfl) (fn_is_letter h) (bn_is_letter h) rfl h.g_is_letter h.kp_is_letter (ja_cons (jv 0) (ja_cons (jv 12) ja_nil)))) ja_nil))))))) (jss_one (js_ret je_bl)) jss_nil)
  (jss_cons (js_if (jt_w (jw_or (jt_not (jt_truth (je_call (Nat.le_of_ble_eq_true rfl) (fn_are_lacks h) (bn_are_lacks h) rfl h.g_are_lacks h.kp_are_lacks (ja_cons (jv 0) (ja_cons (jv 8) ja_nil))))) (jw_or1 (jt_not (jt_truth (je_call (Nat.le_of_ble_eq_true rfl) (fn_is_table h) (bn_is_table h) rfl h.g_is_table h.kp_is_table (ja_cons (jv 9) (ja_cons (je_fld h.k_Plan h.n_Plan_hosts (jv 0)) ja_nil)))))))) (jss_one (js_ret je_bl)) jss_nil)
  (jss_cons (js_if (jt_not (jt_truth (je_callB cb_all rfl h.f_all rfl (ja_cons (je_comp (own := [(("row" : Str), 11)]) (ji_seq (jv 9)) (by kernel_rfl) (jcn 11) jts_nil (je_call (Nat.le_of_ble_eq_true rfl) (fn_are_within h) (bn_are_within h) rfl h.g_are_within h.kp_are_within (ja_cons (jv 11) (ja_cons (je_callB cb_len rfl h.f_len rfl (ja_cons (je_fld h.k_Plan h.n_Plan_ranks (jv 0)) ja_nil)) (ja_cons (je_un o1_neg je_int) (ja_cons (je_bin o2_sub (je_callB (cb_lenI (Nat.le_of_ble_eq_true rfl) h.k_Plan h.L_Plan_len (fn_Plan_len h) (bn_Plan_len h)) rfl h.f_len rfl (ja_cons (jv 0) ja_nil)) je_int) ja_nil)))))) ja_nil)))) (jss_one (js_ret je_bl)) jss_nil)
  (jss_one (js_ret (je_call (Nat.le_of_ble_eq_true rfl) (fn_are_asks h) (bn_are_asks h) rfl h.g_are_asks h.kp_are_asks (ja_cons (jv 0) (ja_cons (jv 10) ja_nil)))))))))))))
theorem fn_is_state {S : Stat} (h : Fx S) : FnG S.P S.w S.K S.mg S.base 5 h.a_is_state h.d_is_state p_is_state (m_is_state h.k) := FnG.of h.F_is_state sc_is_state (jb_is_state h) fun _ _ _ => .rfl'
theorem bn_is_state {S : Stat} (h : Fx S) : BindG S.K h.d_is_state p_is_state 2 [] gAll := bindG_all h.F_is_state fun _ _ _ _ _ _ us hl => match us, hl with
  | [_, _], _ => rfl

/-! ### law -/
def N_law : List Str := [("_law_script" : Str), ("_law_deck_here" : Str), ("_law_models" : Str), ("_law_turn" : Str), ("_law_model_here" : Str), ("_law_own_plan" : Str), ("_law_due_here" : Str)]
def p_law : List Str := [("_law_script" : Str)]
abbrev s_law : Scope := defScope (top 53)
noncomputable def b_law (k : Ads) : MS :=
  (sSeq (sAsg (eCall (m__law_deck k) 1 gAll (aCons (eVar 0) aNil)) (gNm 1))
  (sSeq (sAsg (eNew aNil) (gNm 2))
  (sSeq (sFor (iArg rng1 (aCons (eC (.int 6)) aNil)) (gNm 3) (sSeq (sDrop (eMeth "list" appendM (eVar 2) (aCons (eCall (m__law_great k) 2 gAll (aCons (eVar 1) (aCons (eCall (m__law_model k) 3 gAll (aCons (eVar 1) (aCons (eBin addM (eC (.int 1)) (eCall (m__law_draw k) 2 gAll (aCons (eVar 1) (aCons (eC (.int 6)) aNil)))) (aCons (eBin addM (eC (.int 1)) (eCall (m__law_draw k) 2 gAll (aCons (eVar 1) (aCons (eC (.int 4)) aNil)))) aNil)))) aNil))) aNil)))
  (sIf (tVal (eBin eqM (eCall (m__law_draw k) 2 gAll (aCons (eVar 1) (aCons (eC (.int 4)) aNil))) (eC (.int 1)))) (sAsg (eCall (m__law_draw k) 2 gAll (aCons (eVar 1) (aCons (eC (.int 4)) aNil))) (gSubM (eBin ixM (eVar 2) (eUn negM (eC (.int 1)))) (eC (.str ("bears" : Str))))) sNext)))
  (sSeq (sFor (iSeq (eBin addR (eVar 2) (eSl slM (eVar 2) oNone (oSome (eC (.int 2)))))) (gNm 4) (sSeq (sPar 5 6 (aCons (eCall (m__law_made k) 1 gAll (aCons (eVar 4) aNil)) (aCons (eArg reprM (aCons (eCall (m__law_due k) 1 gAll (aCons (eVar 4) aNil)) aNil)) aNil)))
  (sSeq (sIf (tOrM (tVal (eBin neM (eArg reprM (aCons (eCall (m_first_state k) 1 gAll (aCons (eVar 5) aNil)) aNil)) (eVar 6))) (tVal (eBin neM (eArg reprM (aCons (eCallK (m_first_state k) 0 1 (g_first_state_0_plan k) aNil (aCons (eVar 5) aNil)) aNil)) (eVar 6)))) (sRet (eC (.bl false))) sNext)
  (sIf (tVal (eBin isNotM (eCall (m_is_state k) 2 gAll (aCons (eVar 5) (aCons (eCall (m_first_state k) 1 gAll (aCons (eVar 5) aNil)) aNil))) (eC (.bl true)))) (sRet (eC (.bl false))) sNext))))
  (sRet (eC (.bl true)))))))
noncomputable def m_law (k : Ads) : MF := runB (b_law k) N_law
theorem sc_law : FnScope N_law p_law s_law := scope_by (by decide +kernel)
theorem jb_law {S : Stat} (h : Fx S) : JSs (S.body 8 N_law s_law) (defBody (top 53)) (b_law h.k) :=
  (jss_cons (jsn 1 (je_call (Nat.le_of_ble_eq_true rfl) (fn__law_deck h) (bn__law_deck h) rfl h.g__law_deck h.kp__law_deck (ja_cons (jv 0) ja_nil)))
  (jss_cons (jsn 2 (je_new ja_nil))
  (jss_cons (js_for (ji_range1 rfl h.f_range (ja_cons je_int ja_nil)) (jgn 3) (jss_cons (js_drop (je_meth PySem.F.plainAttrs_list PySem.F.slot_list_append mb_append (jv 2) (ja_cons (je_call (Nat.le_of_ble_eq_true rfl) (fn__law_great h) (bn__law_great h) rfl h.g__law_great h.kp__law_great (ja_cons (jv 1) (ja_cons (je_call (Nat.le_of_ble_eq_true rfl) (fn__law_model h) (bn__law_model h) rfl h.g__law_model h.kp__law_model (ja_cons (jv 1) (ja_cons (je_bin o2_add je_int (je_call (Nat.le_of_ble_eq_true rfl) (fn__law_draw h) (bn__law_draw h) rfl h.g__law_draw h.kp__law_draw (ja_cons (jv 1) (ja_cons je_int ja_nil)))) (ja_cons (je_bin o2_add je_int (je_call (Nat.le_of_ble_eq_true rfl) (fn__law_draw h) (bn__law_draw h) rfl h.g__law_draw h.kp__law_draw (ja_cons (jv 1) (ja_cons je_int ja_nil)))) ja_nil)))) ja_nil))) ja_nil)))
  (jss_one (js_if (jt_cmp o2_eq (je_call (Nat.le_of_ble_eq_true rfl) (fn__law_draw h) (bn__law_draw h) rfl h.g__law_draw h.kp__law_draw (ja_cons (jv 1) (ja_cons je_int ja_nil))) je_int) (jss_one (js_asg (je_call (Nat.le_of_ble_eq_true rfl) (fn__law_draw h) (bn__law_draw h) rfl h.g__law_draw h.kp__law_draw (ja_cons (jv 1) (ja_cons je_int ja_nil))) (jg_sub (je_ix (jv 2) (je_un o1_neg je_int)) je_str))) jss_nil))))
  (jss_cons (js_for (ji_seq (je_bin o2_addR (jv 2) (je_sl sl_ok (jv 2) jo_none (jo_some je_int)))) (jgn 4) (jss_cons (js_par 5 6 (ja_cons (je_call (Nat.le_of_ble_eq_true rfl) (fn__law_made h) (bn__law_made h) rfl h.g__law_made h.kp__law_made (ja_cons (jv 4) ja_nil)) (ja_cons (je_callB cb_repr rfl h.f_repr rfl (ja_cons (je_call (Nat.le_of_ble_eq_true rfl) (fn__law_due h) (bn__law_due h) rfl h.g__law_due h.kp__law_due (ja_cons (jv 4) ja_nil)) ja_nil)) ja_nil)))
  (jss_cons (js_if (jt_w (jw_or (jt_cmp o2_ne (je_callB cb_repr rfl h.f_repr rfl (ja_cons (je_call (Nat.le_of_ble_eq_true rfl) (fn_first_state h) (bn_first_state h) rfl h.g_first_state h.kp_first_state (ja_cons (jv 5) ja_nil)) ja_nil)) (jv 6)) (jw_or1 (jt_cmp o2_ne (je_callB cb_repr rfl h.f_repr rfl (ja_cons (jck0 (Nat.le_of_ble_eq_true rfl) (fn_first_state h) (bk_first_state_0_plan h) rfl h.g_first_state h.kp_first_state (jk_cons (jv 5) jk_nil)) ja_nil)) (jv 6))))) (jss_one (js_ret je_bl)) jss_nil)
  (jss_one (js_if (jt_cmp o2_isNot (je_call (Nat.le_of_ble_eq_true rfl) (fn_is_state h) (bn_is_state h) rfl h.g_is_state h.kp_is_state (ja_cons (jv 5) (ja_cons (je_call (Nat.le_of_ble_eq_true rfl) (fn_first_state h) (bn_first_state h) rfl h.g_first_state h.kp_first_state (ja_cons (jv 5) ja_nil)) ja_nil))) je_bl) (jss_one (js_ret je_bl)) jss_nil)))))
  (jss_one (js_ret je_bl))))))
theorem fn_law {S : Stat} (h : Fx S) : FnG S.P S.w S.K S.mg S.base 9 h.a_law h.d_law p_law (m_law h.k) := FnG.of h.F_law sc_law (jb_law h) fun _ _ _ => .rfl'
theorem bn_law {S : Stat} (h : Fx S) : BindG S.K h.d_law p_law 1 [] gAll := bindG_all h.F_law fun _ _ _ _ _ _ us hl => match us, hl with
  | [_], _ => rfl

end K12

set_option Elab.async false
set_option linter.all false
set_option maxRecDepth 100000
set_option maxHeartbeats 4000000
set_option autoImplicit false
namespace K12
open PySem PySem.Spec PyProof.Rows L2 Pc Lb
abbrev lk (k : K12.Ads) : Lb.Ads := ⟨k.C_Plan, k.t_NUMBERS⟩
section
variable (k : K12.Ads)
theorem q_draw : K12.m__law_draw k = mDraw := rfl
theorem q_deck : K12.m__law_deck k = mDeck := rfl
theorem q_model : K12.m__law_model k = mModel := rfl
theorem q_made : K12.m__law_made k = Lb.m__law_made (lk k) := rfl
theorem q_first : K12.m_first_state k = Lb.m_first_state (lk k) := rfl
theorem q_state : K12.m_is_state k = Lb.m_is_state (lk k) := rfl
variable {w : W} {P : D → W → Prop} {PF : Fl → W → Prop}
theorem bew (x0 x1 : D) : begin N__law_wait [x0, x1] = [some x0, some x1, none] := rfl
theorem bed (x0 : D) : begin N__law_due [x0] = [some x0, none, none, none, none, none, none, none, none] := rfl
theorem beg (x0 x1 : D) : begin N__law_great [x0, x1] = [some x0, some x1, none, none, none] := rfl
theorem bel (x0 : D) : begin N_law [x0] = [some x0, none, none, none, none, none, none] := rfl
theorem gf (x : D) : g_first_state_0_plan k [] [x] = [x] := rfl
theorem k100 (m : Mo) : m.kvs.length < sizeLine := Nat.lt_of_lt_of_le (m := 100) (Nat.le_of_ble_eq_true rfl) (sz _ (by omega))
theorem t_wait {i h : Nat} {m : Mo} {b r : Int} (hM : w[i]? = some (.dK m.kvs)) (o : MoB m h) (hb : m.bears = .int b) : T (m__law_wait k [.ref i, .int r] w) P = P (.int (waitI m b r)) w := by
  have oe := o.every
  have og := o.gap
  have lg : lookD m.kvs (.inr "gap") = some (.int m.gap) := rfl
  have lb : lookD m.kvs (.inr "bears") = some (.int b) := by rw [← hb]; rfl
  have le : lookD m.kvs (.inr "every") = some (.int m.every) := rfl
  have ls : lookD m.kvs (.inr "slow") = some (.int m.slow) := rfl
  unfold m__law_wait b__law_wait
  rw [T_run, bew, T_seq]
  simp only [T_ixD hM, lb, le, ls, lg, mul_r (y := m.every) ⟨by omega, by omega⟩, mul_l (x := m.gap) ⟨by omega, by omega⟩, waitI, T_run, Then_nx, Then_rt, T_ret, T_drop, T_sif, T_next, T_asg, T_nm, T_gsub, T_setF, T_gtup, T_gtupK, T_gnil, T_gcons, T_C, T_V, T_bin, T_un, T_and, T_or, T_if, T_aNil, T_aCons, T_tup, T_lst, T_new, T_arg, T_meth, T_call, T_callK, T_make, T_fld, T_ch, T_val, T_tru, T_notT, T_andT, T_orT, T_tTrue, T_add, T_sub, T_mul, T_mod, T_fdiv, T_neg, T_lt, T_le, T_gt, T_ge, T_isN, T_isB, T_isNotN, T_isNotB, T_not, T_truB, T_truI, T_truN, T_ok, List.getElem?_cons_zero, List.getElem?_cons_succ, List.set_cons_zero, List.set_cons_succ, List.length_cons, List.length_nil, gAll, true_and, and_true, T_comp, T_iSeq, T_iArg, T_sl, T_oNone, T_oSome, T_for, T_addT, T_addL, T_itT, T_itL, T_ixT, T_ixL, T_ixK, T_atM, if_true, Bool.false_eq_true, if_false, Bool.not_true, Bool.not_false, Bool.true_eq_false, ite_true, ite_false, reduceCtorEq, sl0, sl1, sl2, sl3, sl4, sl5, sl6, sl7, sl8, sl9, sl10, sl11, sl12, exists_eq_left', Option.some.injEq, true_and, and_true, T_dct, T_dCons, T_dNil, lenT, lenL, lenK, eq_len, ne_len, T_iItems]
theorem t_due {i h : Nat} {m : Mo} {b : Int} (hM : w[i]? = some (.dK m.kvs)) (o : MoB m h) (hb : m.bears = .int b) (b0 : 0 ≤ b) (b3 : b ≤ 3)
    (hP : ∀ w', w.length ≤ w'.length → (∀ j, j < w.length → w'[j]? = w[j]?) → P (stD (first m b h)) w') : T (m__law_due k [.ref i] w) P := by
  have n4 := o.n4
  have h1 := o.ranks.h1
  have h6 := o.ranks.h6
  have ho := o.hosts
  have lr : lookD m.kvs (.inr "ranks") = some (.tup (m.ranks.map rowD)) := rfl
  have lh : lookD m.kvs (.inr "hosts") = some (.int m.hosts) := rfl
  have lo : lookD m.kvs (.inr "hold") = some (.int m.hold) := rfl
  have lM : i < w.length := (List.getElem?_eq_some_iff.mp hM).1
  obtain ⟨r, rest, er, el⟩ : ∃ r rest, m.ranks = r :: rest ∧ r.length = h := by
    have := o.n1
    cases hm : m.ranks with
    | nil => rw [hm] at this; simp at this
    | cons a c => exact ⟨a, c, rfl, (o.ranks.row a (by rw [hm]; exact List.mem_cons_self ..)).1⟩
  have z0 : atI (m.ranks.map rowD) 0 = some (rowD r) := by rw [er]; exact at0
  have ln : ∀ (w : W) (Q : D → W → Prop), T (lenM [rowD r] w) Q = Q (.int h) w := fun w Q => by rw [rowD, lenT, List.length_map, el]
  unfold m__law_due b__law_due
  rw [T_run, bed, T_seq]
  simp only [T_par, T_ixD hM, lr, lh, z0, ln, T_run, Then_nx, Then_rt, T_ret, T_drop, T_sif, T_next, T_asg, T_nm, T_gsub, T_setF, T_gtup, T_gtupK, T_gnil, T_gcons, T_C, T_V, T_bin, T_un, T_and, T_or, T_if, T_aNil, T_aCons, T_tup, T_lst, T_new, T_arg, T_meth, T_call, T_callK, T_make, T_fld, T_ch, T_val, T_tru, T_notT, T_andT, T_orT, T_tTrue, T_add, T_sub, T_mul, T_mod, T_fdiv, T_neg, T_lt, T_le, T_gt, T_ge, T_isN, T_isB, T_isNotN, T_isNotB, T_not, T_truB, T_truI, T_truN, T_ok, List.getElem?_cons_zero, List.getElem?_cons_succ, List.set_cons_zero, List.set_cons_succ, List.length_cons, List.length_nil, gAll, true_and, and_true, T_comp, T_iSeq, T_iArg, T_sl, T_oNone, T_oSome, T_for, T_addT, T_addL, T_itT, T_itL, T_ixT, T_ixL, T_ixK, T_atM, if_true, Bool.false_eq_true, if_false, Bool.not_true, Bool.not_false, Bool.true_eq_false, ite_true, ite_false, reduceCtorEq, sl0, sl1, sl2, sl3, sl4, sl5, sl6, sl7, sl8, sl9, sl10, sl11, sl12, exists_eq_left', Option.some.injEq, true_and, and_true, T_dct, T_dCons, T_dNil, lenT, lenL, lenK, eq_len, ne_len, T_iItems]
  rw [T_seq]
  simp only [T_par, T_run, Then_nx, Then_rt, T_ret, T_drop, T_sif, T_next, T_asg, T_nm, T_gsub, T_setF, T_gtup, T_gtupK, T_gnil, T_gcons, T_C, T_V, T_bin, T_un, T_and, T_or, T_if, T_aNil, T_aCons, T_tup, T_lst, T_new, T_arg, T_meth, T_call, T_callK, T_make, T_fld, T_ch, T_val, T_tru, T_notT, T_andT, T_orT, T_tTrue, T_add, T_sub, T_mul, T_mod, T_fdiv, T_neg, T_lt, T_le, T_gt, T_ge, T_isN, T_isB, T_isNotN, T_isNotB, T_not, T_truB, T_truI, T_truN, T_ok, List.getElem?_cons_zero, List.getElem?_cons_succ, List.set_cons_zero, List.set_cons_succ, List.length_cons, List.length_nil, gAll, true_and, and_true, T_comp, T_iSeq, T_iArg, T_sl, T_oNone, T_oSome, T_for, T_addT, T_addL, T_itT, T_itL, T_ixT, T_ixL, T_ixK, T_atM, if_true, Bool.false_eq_true, if_false, Bool.not_true, Bool.not_false, Bool.true_eq_false, ite_true, ite_false, reduceCtorEq, sl0, sl1, sl2, sl3, sl4, sl5, sl6, sl7, sl8, sl9, sl10, sl11, sl12, exists_eq_left', Option.some.injEq, true_and, and_true, T_dct, T_dCons, T_dNil, lenT, lenL, lenK, eq_len, ne_len, T_iItems]
  obtain ⟨w2, hw2⟩ : ∃ w2 : W, w2 = w ++ [MO.lst []] ++ [MO.lst []] := ⟨_, rfl⟩
  obtain ⟨S, hS⟩ : ∃ S, S = w.length := ⟨_, rfl⟩
  have hL : List.length (w ++ [MO.lst []]) = S + 1 := by rw [hS]; simp
  rw [← hw2, hL, ← hS]
  have hs2 : w2[S]? = some (.lst []) := by rw [hw2, List.getElem?_append_left (by omega), hS, List.getElem?_append_right (Nat.le_refl _)]; simp
  have hl2 : w2[S + 1]? = some (.lst []) := by rw [hw2, ← hL, List.getElem?_append_right (Nat.le_refl _)]; simp
  have l2 : w2.length = S + 2 := by rw [hw2, hS]; simp
  have a2 : ∀ x, x < S → w2[x]? = w[x]? := fun x hx => by rw [hw2, List.getElem?_append_left (by omega), List.getElem?_append_left (by omega)]
  have hM2 : w2[i]? = some (.dK m.kvs) := by rw [a2 i (by omega)]; exact hM
  rw [T_seq]
  simp only [T_ixD hM2, lr, T_run, Then_nx, Then_rt, T_ret, T_drop, T_sif, T_next, T_asg, T_nm, T_gsub, T_setF, T_gtup, T_gtupK, T_gnil, T_gcons, T_C, T_V, T_bin, T_un, T_and, T_or, T_if, T_aNil, T_aCons, T_tup, T_lst, T_new, T_arg, T_meth, T_call, T_callK, T_make, T_fld, T_ch, T_val, T_tru, T_notT, T_andT, T_orT, T_tTrue, T_add, T_sub, T_mul, T_mod, T_fdiv, T_neg, T_lt, T_le, T_gt, T_ge, T_isN, T_isB, T_isNotN, T_isNotB, T_not, T_truB, T_truI, T_truN, T_ok, List.getElem?_cons_zero, List.getElem?_cons_succ, List.set_cons_zero, List.set_cons_succ, List.length_cons, List.length_nil, gAll, true_and, and_true, T_comp, T_iSeq, T_iArg, T_sl, T_oNone, T_oSome, T_for, T_addT, T_addL, T_itT, T_itL, T_ixT, T_ixL, T_ixK, T_atM, if_true, Bool.false_eq_true, if_false, Bool.not_true, Bool.not_false, Bool.true_eq_false, ite_true, ite_false, reduceCtorEq, sl0, sl1, sl2, sl3, sl4, sl5, sl6, sl7, sl8, sl9, sl10, sl11, sl12, exists_eq_left', Option.some.injEq, true_and, and_true, T_dct, T_dCons, T_dNil, lenT, lenL, lenK, eq_len, ne_len, T_iItems]
  refine T_forI (it := ⟨m.ranks.map rowD, always⟩) (fun j σ w' => w'.length = S + 2 ∧ (∀ x, x < S → w'[x]? = w[x]?) ∧ w'[S]? = some (.lst ((m.ranks.take j).map fun r => rowsD (r.map fun x => (.waits, waitI m b x + m.hold)))) ∧
      w'[S + 1]? = some (.lst ((m.ranks.take j).map fun _ => lackD (List.replicate h (List.replicate (h + m.hosts.toNat) 0)))) ∧ ∃ s5, σ = [some (.ref i), some (.int h), some (.int (h + m.hosts)), some (.ref S), some (.ref (S + 1)), s5, none, none, none]) (fun _ _ _ _ => trivial)
    ⟨l2, a2, hs2, hl2, none, rfl⟩ (fun j x σ w3 hx hI => ?_) fun σ w3 hI => ?_
  · obtain ⟨l3, a3, hs3, hl3, s5, rfl⟩ := hI
    obtain ⟨r0, hr0, rfl⟩ := map_at hx
    have hm0 := o.ranks.row r0 (List.mem_of_getElem? hr0)
    have hj : j < m.ranks.length := (List.getElem?_eq_some_iff.mp hr0).1
    have hM3 : w3[i]? = some (.dK m.kvs) := by rw [a3 i (by omega)]; exact hM
    have ty3 : tyD (.ref S) w3 = some "list" := by simp only [tyD, hs3]
    rw [T_nm, T_seq]
    simp only [ty3, rowD, T_run, Then_nx, Then_rt, T_ret, T_drop, T_sif, T_next, T_asg, T_nm, T_gsub, T_setF, T_gtup, T_gtupK, T_gnil, T_gcons, T_C, T_V, T_bin, T_un, T_and, T_or, T_if, T_aNil, T_aCons, T_tup, T_lst, T_new, T_arg, T_meth, T_call, T_callK, T_make, T_fld, T_ch, T_val, T_tru, T_notT, T_andT, T_orT, T_tTrue, T_add, T_sub, T_mul, T_mod, T_fdiv, T_neg, T_lt, T_le, T_gt, T_ge, T_isN, T_isB, T_isNotN, T_isNotB, T_not, T_truB, T_truI, T_truN, T_ok, List.getElem?_cons_zero, List.getElem?_cons_succ, List.set_cons_zero, List.set_cons_succ, List.length_cons, List.length_nil, gAll, true_and, and_true, T_comp, T_iSeq, T_iArg, T_sl, T_oNone, T_oSome, T_for, T_addT, T_addL, T_itT, T_itL, T_ixT, T_ixL, T_ixK, T_atM, if_true, Bool.false_eq_true, if_false, Bool.not_true, Bool.not_false, Bool.true_eq_false, ite_true, ite_false, reduceCtorEq, sl0, sl1, sl2, sl3, sl4, sl5, sl6, sl7, sl8, sl9, sl10, sl11, sl12, exists_eq_left', Option.some.injEq, true_and, and_true, T_dct, T_dCons, T_dNil, lenT, lenL, lenK, eq_len, ne_len, T_iItems]
    refine ⟨szz _ (by simp; omega), ?_⟩
    refine T_compE (it := ⟨r0.map D.int, always⟩) r0 D.int (fun x => standD (.waits, waitI m b x + m.hold)) rfl trivial (fun x hx => ?_) ?_
    · simp only [wipeD, t_wait k hM3 o hb, T_ixD hM3, lo, standD, Role.s, T_run, Then_nx, Then_rt, T_ret, T_drop, T_sif, T_next, T_asg, T_nm, T_gsub, T_setF, T_gtup, T_gtupK, T_gnil, T_gcons, T_C, T_V, T_bin, T_un, T_and, T_or, T_if, T_aNil, T_aCons, T_tup, T_lst, T_new, T_arg, T_meth, T_call, T_callK, T_make, T_fld, T_ch, T_val, T_tru, T_notT, T_andT, T_orT, T_tTrue, T_add, T_sub, T_mul, T_mod, T_fdiv, T_neg, T_lt, T_le, T_gt, T_ge, T_isN, T_isB, T_isNotN, T_isNotB, T_not, T_truB, T_truI, T_truN, T_ok, List.getElem?_cons_zero, List.getElem?_cons_succ, List.set_cons_zero, List.set_cons_succ, List.length_cons, List.length_nil, gAll, true_and, and_true, T_comp, T_iSeq, T_iArg, T_sl, T_oNone, T_oSome, T_for, T_addT, T_addL, T_itT, T_itL, T_ixT, T_ixL, T_ixK, T_atM, if_true, Bool.false_eq_true, if_false, Bool.not_true, Bool.not_false, Bool.true_eq_false, ite_true, ite_false, reduceCtorEq, sl0, sl1, sl2, sl3, sl4, sl5, sl6, sl7, sl8, sl9, sl10, sl11, sl12, exists_eq_left', Option.some.injEq, true_and, and_true, T_dct, T_dCons, T_dNil, lenT, lenL, lenK, eq_len, ne_len, T_iItems]
    simp only [tupL, T_append hs3, T_run, Then_nx, Then_rt, T_ret, T_drop, T_sif, T_next, T_asg, T_nm, T_gsub, T_setF, T_gtup, T_gtupK, T_gnil, T_gcons, T_C, T_V, T_bin, T_un, T_and, T_or, T_if, T_aNil, T_aCons, T_tup, T_lst, T_new, T_arg, T_meth, T_call, T_callK, T_make, T_fld, T_ch, T_val, T_tru, T_notT, T_andT, T_orT, T_tTrue, T_add, T_sub, T_mul, T_mod, T_fdiv, T_neg, T_lt, T_le, T_gt, T_ge, T_isN, T_isB, T_isNotN, T_isNotB, T_not, T_truB, T_truI, T_truN, T_ok, List.getElem?_cons_zero, List.getElem?_cons_succ, List.set_cons_zero, List.set_cons_succ, List.length_cons, List.length_nil, gAll, true_and, and_true, T_comp, T_iSeq, T_iArg, T_sl, T_oNone, T_oSome, T_for, T_addT, T_addL, T_itT, T_itL, T_ixT, T_ixL, T_ixK, T_atM, if_true, Bool.false_eq_true, if_false, Bool.not_true, Bool.not_false, Bool.true_eq_false, ite_true, ite_false, reduceCtorEq, sl0, sl1, sl2, sl3, sl4, sl5, sl6, sl7, sl8, sl9, sl10, sl11, sl12, exists_eq_left', Option.some.injEq, true_and, and_true, T_dct, T_dCons, T_dNil, lenT, lenL, lenK, eq_len, ne_len, T_iItems]
    refine ⟨Nat.lt_of_lt_of_le (m := 100) (by simp; omega) (sz _ (by omega)), ?_⟩
    obtain ⟨w4, hw4⟩ : ∃ w4 : W, w4 = w3.set S (.lst ((m.ranks.take j).map (fun r => rowsD (r.map fun x => (.waits, waitI m b x + m.hold))) ++ [D.tup (r0.map fun x => standD (.waits, waitI m b x + m.hold))])) := ⟨_, rfl⟩
    rw [← hw4]
    have l4 : w4.length = S + 2 := by rw [hw4, List.length_set]; exact l3
    have hl4 : w4[S + 1]? = some (.lst ((m.ranks.take j).map fun _ => lackD (List.replicate h (List.replicate (h + m.hosts.toNat) 0)))) := by rw [hw4, List.getElem?_set_ne (by omega)]; exact hl3
    have ty4 : tyD (.ref (S + 1)) w4 = some "list" := by simp only [tyD, hl4]
    simp only [ty4, T_mulT1 (show (0 : Int) ≤ (h : Int) + m.hosts by omega) (by omega), T_mulT1 (show (0 : Int) ≤ (h : Int) by omega) (by omega), T_append hl4, T_run, Then_nx, Then_rt, T_ret, T_drop, T_sif, T_next, T_asg, T_nm, T_gsub, T_setF, T_gtup, T_gtupK, T_gnil, T_gcons, T_C, T_V, T_bin, T_un, T_and, T_or, T_if, T_aNil, T_aCons, T_tup, T_lst, T_new, T_arg, T_meth, T_call, T_callK, T_make, T_fld, T_ch, T_val, T_tru, T_notT, T_andT, T_orT, T_tTrue, T_add, T_sub, T_mul, T_mod, T_fdiv, T_neg, T_lt, T_le, T_gt, T_ge, T_isN, T_isB, T_isNotN, T_isNotB, T_not, T_truB, T_truI, T_truN, T_ok, List.getElem?_cons_zero, List.getElem?_cons_succ, List.set_cons_zero, List.set_cons_succ, List.length_cons, List.length_nil, gAll, true_and, and_true, T_comp, T_iSeq, T_iArg, T_sl, T_oNone, T_oSome, T_for, T_addT, T_addL, T_itT, T_itL, T_ixT, T_ixL, T_ixK, T_atM, if_true, Bool.false_eq_true, if_false, Bool.not_true, Bool.not_false, Bool.true_eq_false, ite_true, ite_false, reduceCtorEq, sl0, sl1, sl2, sl3, sl4, sl5, sl6, sl7, sl8, sl9, sl10, sl11, sl12, exists_eq_left', Option.some.injEq, true_and, and_true, T_dct, T_dCons, T_dNil, lenT, lenL, lenK, eq_len, ne_len, T_iItems]
    refine ⟨Nat.lt_of_lt_of_le (m := 100) (by simp; omega) (sz _ (by omega)), ?_⟩
    rw [Turn_nx]
    have et : m.ranks.take (j + 1) = m.ranks.take j ++ [r0] := by rw [List.take_add_one, hr0]; rfl
    have e1 : ((h : Int) + m.hosts).toNat = h + m.hosts.toNat := by omega
    have e2 : ((h : Int)).toNat = h := by omega
    refine ⟨by rw [List.length_set]; exact l4, fun x hx => ?_, ?_, ?_, _, rfl⟩
    · rw [List.getElem?_set_ne (by omega), hw4, List.getElem?_set_ne (by omega)]; exact a3 x hx
    · rw [List.getElem?_set_ne (by omega), hw4, List.getElem?_set_self (by omega), et]
      simp only [List.map_append, List.map_cons, List.map_nil, rowsD, List.map_map]
      rfl
    · rw [List.getElem?_set_self (by omega), et]
      simp only [List.map_append, List.map_cons, List.map_nil, lackD, List.map_replicate, rowD, e1, e2]
  · obtain ⟨l3, a3, hs3, hl3, s5, rfl⟩ := hI
    have hM3 : w3[i]? = some (.dK m.kvs) := by rw [a3 i (by omega)]; exact hM
    have eln : (m.ranks.map rowD).length = m.ranks.length := by simp
    rw [eln, List.take_length] at hs3 hl3
    have elr : ((m.ranks.map rowD).length : Int) = m.ranks.length := by simp
    have t1 : tupM [.ref S] w3 = .ok (.tup (m.ranks.map fun r => rowsD (r.map fun x => (.waits, waitI m b x + m.hold)))) w3 := by simp only [tupM, listD, hs3]
    have t2 : tupM [.ref (S + 1)] w3 = .ok (.tup (m.ranks.map fun _ => lackD (List.replicate h (List.replicate (h + m.hosts.toNat) 0)))) w3 := by simp only [tupM, listD, hl3]
    simp only [T_run, Then_nx, Then_rt, T_ret, T_drop, T_sif, T_next, T_asg, T_nm, T_gsub, T_setF, T_gtup, T_gtupK, T_gnil, T_gcons, T_C, T_V, T_bin, T_un, T_and, T_or, T_if, T_aNil, T_aCons, T_tup, T_lst, T_new, T_arg, T_meth, T_call, T_callK, T_make, T_fld, T_ch, T_val, T_tru, T_notT, T_andT, T_orT, T_tTrue, T_add, T_sub, T_mul, T_mod, T_fdiv, T_neg, T_lt, T_le, T_gt, T_ge, T_isN, T_isB, T_isNotN, T_isNotB, T_not, T_truB, T_truI, T_truN, T_ok, List.getElem?_cons_zero, List.getElem?_cons_succ, List.set_cons_zero, List.set_cons_succ, List.length_cons, List.length_nil, gAll, true_and, and_true, T_comp, T_iSeq, T_iArg, T_sl, T_oNone, T_oSome, T_for, T_addT, T_addL, T_itT, T_itL, T_ixT, T_ixL, T_ixK, T_atM, if_true, Bool.false_eq_true, if_false, Bool.not_true, Bool.not_false, Bool.true_eq_false, ite_true, ite_false, reduceCtorEq, sl0, sl1, sl2, sl3, sl4, sl5, sl6, sl7, sl8, sl9, sl10, sl11, sl12, exists_eq_left', Option.some.injEq, true_and, and_true, T_dct, T_dCons, T_dNil, lenT, lenL, lenK, eq_len, ne_len, T_iItems]
    rw [T_seq]
    simp only [T_neg, T_ixD hM3, lr, lh, elr, T_mulT1 (show (0 : Int) ≤ (m.ranks.length : Int) by omega) (by omega), T_mulT1 ho.1 (show m.hosts ≤ 1000 by omega), T_run, Then_nx, Then_rt, T_ret, T_drop, T_sif, T_next, T_asg, T_nm, T_gsub, T_setF, T_gtup, T_gtupK, T_gnil, T_gcons, T_C, T_V, T_bin, T_un, T_and, T_or, T_if, T_aNil, T_aCons, T_tup, T_lst, T_new, T_arg, T_meth, T_call, T_callK, T_make, T_fld, T_ch, T_val, T_tru, T_notT, T_andT, T_orT, T_tTrue, T_add, T_sub, T_mul, T_mod, T_fdiv, T_neg, T_lt, T_le, T_gt, T_ge, T_isN, T_isB, T_isNotN, T_isNotB, T_not, T_truB, T_truI, T_truN, T_ok, List.getElem?_cons_zero, List.getElem?_cons_succ, List.set_cons_zero, List.set_cons_succ, List.length_cons, List.length_nil, gAll, true_and, and_true, T_comp, T_iSeq, T_iArg, T_sl, T_oNone, T_oSome, T_for, T_addT, T_addL, T_itT, T_itL, T_ixT, T_ixL, T_ixK, T_atM, if_true, Bool.false_eq_true, if_false, Bool.not_true, Bool.not_false, Bool.true_eq_false, ite_true, ite_false, reduceCtorEq, sl0, sl1, sl2, sl3, sl4, sl5, sl6, sl7, sl8, sl9, sl10, sl11, sl12, exists_eq_left', Option.some.injEq, true_and, and_true, T_dct, T_dCons, T_dNil, lenT, lenL, lenK, eq_len, ne_len, T_iItems]
    rw [T_seq]
    simp only [T_ixD hM3, lr, t1, t2, T_mulT1 (show (0 : Int) ≤ (h : Int) + m.hosts by omega) (by omega), T_mulT1 (show (0 : Int) ≤ (h : Int) by omega) (by omega), T_run, Then_nx, Then_rt, T_ret, T_drop, T_sif, T_next, T_asg, T_nm, T_gsub, T_setF, T_gtup, T_gtupK, T_gnil, T_gcons, T_C, T_V, T_bin, T_un, T_and, T_or, T_if, T_aNil, T_aCons, T_tup, T_lst, T_new, T_arg, T_meth, T_call, T_callK, T_make, T_fld, T_ch, T_val, T_tru, T_notT, T_andT, T_orT, T_tTrue, T_add, T_sub, T_mul, T_mod, T_fdiv, T_neg, T_lt, T_le, T_gt, T_ge, T_isN, T_isB, T_isNotN, T_isNotB, T_not, T_truB, T_truI, T_truN, T_ok, List.getElem?_cons_zero, List.getElem?_cons_succ, List.set_cons_zero, List.set_cons_succ, List.length_cons, List.length_nil, gAll, true_and, and_true, T_comp, T_iSeq, T_iArg, T_sl, T_oNone, T_oSome, T_for, T_addT, T_addL, T_itT, T_itL, T_ixT, T_ixL, T_ixK, T_atM, if_true, Bool.false_eq_true, if_false, Bool.not_true, Bool.not_false, Bool.true_eq_false, ite_true, ite_false, reduceCtorEq, sl0, sl1, sl2, sl3, sl4, sl5, sl6, sl7, sl8, sl9, sl10, sl11, sl12, exists_eq_left', Option.some.injEq, true_and, and_true, T_dct, T_dCons, T_dNil, lenT, lenL, lenK, eq_len, ne_len, T_iItems]
    simp only [T_ixD hM3, lh, T_mulT1 ho.1 (show m.hosts ≤ 1000 by omega), T_run, Then_nx, Then_rt, T_ret, T_drop, T_sif, T_next, T_asg, T_nm, T_gsub, T_setF, T_gtup, T_gtupK, T_gnil, T_gcons, T_C, T_V, T_bin, T_un, T_and, T_or, T_if, T_aNil, T_aCons, T_tup, T_lst, T_new, T_arg, T_meth, T_call, T_callK, T_make, T_fld, T_ch, T_val, T_tru, T_notT, T_andT, T_orT, T_tTrue, T_add, T_sub, T_mul, T_mod, T_fdiv, T_neg, T_lt, T_le, T_gt, T_ge, T_isN, T_isB, T_isNotN, T_isNotB, T_not, T_truB, T_truI, T_truN, T_ok, List.getElem?_cons_zero, List.getElem?_cons_succ, List.set_cons_zero, List.set_cons_succ, List.length_cons, List.length_nil, gAll, true_and, and_true, T_comp, T_iSeq, T_iArg, T_sl, T_oNone, T_oSome, T_for, T_addT, T_addL, T_itT, T_itL, T_ixT, T_ixL, T_ixK, T_atM, if_true, Bool.false_eq_true, if_false, Bool.not_true, Bool.not_false, Bool.true_eq_false, ite_true, ite_false, reduceCtorEq, sl0, sl1, sl2, sl3, sl4, sl5, sl6, sl7, sl8, sl9, sl10, sl11, sl12, exists_eq_left', Option.some.injEq, true_and, and_true, T_dct, T_dCons, T_dNil, lenT, lenL, lenK, eq_len, ne_len, T_iItems]
    refine Eq.mpr (congrArg (fun x => P x w3) ?_) (hP w3 (by omega) fun x hx => a3 x (by omega))
    have e1 : ((h : Int) + m.hosts).toNat = h + m.hosts.toNat := by omega
    have e2 : ((h : Int)).toNat = h := by omega
    have e3 : ((m.ranks.length : Int)).toNat = m.ranks.length := by omega
    simp only [stD, first, rowD, List.map_replicate, List.map_nil, List.map_map, e1, e2, e3, List.cons_append, List.nil_append, Pc.pairD]
    rfl
theorem T_draws {w : W} {n : Nat} {σ : Sg} {P : List D → W → Prop} {vs : List Nat} {ie : Nat} {e : ME} (hn : n ≤ 100) (hd : Deck w 1 0)
    (he : ∀ (x : D) (w' : W) (Q : D → W → Prop), Deck w' 1 0 → (∀ (v : Int) (w'' : W), 1 ≤ v → v ≤ 12 → Deck w'' 1 0 → Pc.Kept w' w'' 1 0 → Q (.int v) w'') → T (e ((wipeD σ vs).set ie (some x)) w') Q)
    (hP : ∀ (row : List Int) w', row.length = n → (∀ x ∈ row, 1 ≤ x ∧ x ≤ 12) → Deck w' 1 0 → Pc.Kept w w' 1 0 → P (row.map D.int) w') :
    T (compL (rangeD 0 n) vs (gNm ie) tTrue e (rangeD 0 n).xs σ w) P := by
  refine T_compI (it := rangeD 0 n) (fun j acc w' => ∃ row : List Int, acc = row.map D.int ∧ row.length = j ∧ (∀ x ∈ row, 1 ≤ x ∧ x ≤ 12) ∧ Deck w' 1 0 ∧ Pc.Kept w w' 1 0) (fun _ _ _ _ => trivial) ⟨[], rfl, rfl, by simp, hd, .refl⟩ (fun j x acc w' hx ⟨row, ea, ej, eb, dk, kk⟩ => ?_) (fun acc w6 ⟨row, ea, ej, eb, d6, k6⟩ => ?_)
  · rw [T_nm]
    simp only [T_tTrue, if_true]
    refine he x w' _ dk fun v w'' v0 v1 dk2 kk2 => ⟨row ++ [v], by rw [ea]; simp, by simp [ej], fun z hz => ?_, dk2, kk.trans kk2⟩
    rcases List.mem_append.mp hz with hz | hz
    · exact eb z hz
    · simp at hz; subst hz; exact ⟨v0, v1⟩
  · subst ea
    exact hP row w6 (by rw [ej, range_len]) eb d6 k6
theorem T_great {i h : Nat} {m : Mo} {w : W} {P : D → W → Prop} (hd : Deck w 1 0) (hM : w[i]? = some (.dK m.kvs)) (o : MoOk m h) (i2 : 2 ≤ i) (l2 : 2 ≤ w.length)
    (hP : ∀ i' h' m' w', 2 ≤ i' → (i' = i ∨ w.length ≤ i') → w'[i']? = some (.dK m'.kvs) → MoOk m' h' → Deck w' 1 0 → Grow w w' 1 0 → P (.ref i') w') : T (m__law_great k [.ref 1, .ref i] w) P := by
  have lM : i < w.length := (List.getElem?_eq_some_iff.mp hM).1
  unfold m__law_great b__law_great
  rw [T_run, beg, T_seq]
  simp only [q_draw, T_run, Then_nx, Then_rt, T_ret, T_drop, T_sif, T_next, T_asg, T_nm, T_gsub, T_setF, T_gtup, T_gtupK, T_gnil, T_gcons, T_C, T_V, T_bin, T_un, T_and, T_or, T_if, T_aNil, T_aCons, T_tup, T_lst, T_new, T_arg, T_meth, T_call, T_callK, T_make, T_fld, T_ch, T_val, T_tru, T_notT, T_andT, T_orT, T_tTrue, T_add, T_sub, T_mul, T_mod, T_fdiv, T_neg, T_lt, T_le, T_gt, T_ge, T_isN, T_isB, T_isNotN, T_isNotB, T_not, T_truB, T_truI, T_truN, T_ok, List.getElem?_cons_zero, List.getElem?_cons_succ, List.set_cons_zero, List.set_cons_succ, List.length_cons, List.length_nil, gAll, true_and, and_true, T_comp, T_iSeq, T_iArg, T_sl, T_oNone, T_oSome, T_for, T_addT, T_addL, T_itT, T_itL, T_ixT, T_ixL, T_ixK, T_atM, if_true, Bool.false_eq_true, if_false, Bool.not_true, Bool.not_false, Bool.true_eq_false, ite_true, ite_false, reduceCtorEq, sl0, sl1, sl2, sl3, sl4, sl5, sl6, sl7, sl8, sl9, sl10, sl11, sl12, exists_eq_left', Option.some.injEq, true_and, and_true, T_dct, T_dCons, T_dNil, lenT, lenL, lenK, eq_len, ne_len, T_iItems]
  refine T_draw hd (by omega) (by omega) fun r w1 r0 r1 d1 k1 => ?_
  have hM1 := k1.obj hM (by omega) (by omega)
  have l1 := k1.1
  simp only [T_run, Then_nx, Then_rt, T_ret, T_drop, T_sif, T_next, T_asg, T_nm, T_gsub, T_setF, T_gtup, T_gtupK, T_gnil, T_gcons, T_C, T_V, T_bin, T_un, T_and, T_or, T_if, T_aNil, T_aCons, T_tup, T_lst, T_new, T_arg, T_meth, T_call, T_callK, T_make, T_fld, T_ch, T_val, T_tru, T_notT, T_andT, T_orT, T_tTrue, T_add, T_sub, T_mul, T_mod, T_fdiv, T_neg, T_lt, T_le, T_gt, T_ge, T_isN, T_isB, T_isNotN, T_isNotB, T_not, T_truB, T_truI, T_truN, T_ok, List.getElem?_cons_zero, List.getElem?_cons_succ, List.set_cons_zero, List.set_cons_succ, List.length_cons, List.length_nil, gAll, true_and, and_true, T_comp, T_iSeq, T_iArg, T_sl, T_oNone, T_oSome, T_for, T_addT, T_addL, T_itT, T_itL, T_ixT, T_ixL, T_ixK, T_atM, if_true, Bool.false_eq_true, if_false, Bool.not_true, Bool.not_false, Bool.true_eq_false, ite_true, ite_false, reduceCtorEq, sl0, sl1, sl2, sl3, sl4, sl5, sl6, sl7, sl8, sl9, sl10, sl11, sl12, exists_eq_left', Option.some.injEq, true_and, and_true, T_dct, T_dCons, T_dNil, lenT, lenL, lenK, eq_len, ne_len, T_iItems]
  by_cases hr : r = 1
  · have hr' : (!(r == 1)) = false := by simp [hr]
    simp only [hr', T_run, Then_nx, Then_rt, T_ret, T_drop, T_sif, T_next, T_asg, T_nm, T_gsub, T_setF, T_gtup, T_gtupK, T_gnil, T_gcons, T_C, T_V, T_bin, T_un, T_and, T_or, T_if, T_aNil, T_aCons, T_tup, T_lst, T_new, T_arg, T_meth, T_call, T_callK, T_make, T_fld, T_ch, T_val, T_tru, T_notT, T_andT, T_orT, T_tTrue, T_add, T_sub, T_mul, T_mod, T_fdiv, T_neg, T_lt, T_le, T_gt, T_ge, T_isN, T_isB, T_isNotN, T_isNotB, T_not, T_truB, T_truI, T_truN, T_ok, List.getElem?_cons_zero, List.getElem?_cons_succ, List.set_cons_zero, List.set_cons_succ, List.length_cons, List.length_nil, gAll, true_and, and_true, T_comp, T_iSeq, T_iArg, T_sl, T_oNone, T_oSome, T_for, T_addT, T_addL, T_itT, T_itL, T_ixT, T_ixL, T_ixK, T_atM, if_true, Bool.false_eq_true, if_false, Bool.not_true, Bool.not_false, Bool.true_eq_false, ite_true, ite_false, reduceCtorEq, sl0, sl1, sl2, sl3, sl4, sl5, sl6, sl7, sl8, sl9, sl10, sl11, sl12, exists_eq_left', Option.some.injEq, true_and, and_true, T_dct, T_dCons, T_dNil, lenT, lenL, lenK, eq_len, ne_len, T_iItems]
    have dn : dictN [.ref i] w1 = .ok (.ref w1.length) (w1 ++ [.dK m.kvs]) := by simp only [dictN, hM1]
    rw [T_seq]
    simp only [dn, T_run, Then_nx, Then_rt, T_ret, T_drop, T_sif, T_next, T_asg, T_nm, T_gsub, T_setF, T_gtup, T_gtupK, T_gnil, T_gcons, T_C, T_V, T_bin, T_un, T_and, T_or, T_if, T_aNil, T_aCons, T_tup, T_lst, T_new, T_arg, T_meth, T_call, T_callK, T_make, T_fld, T_ch, T_val, T_tru, T_notT, T_andT, T_orT, T_tTrue, T_add, T_sub, T_mul, T_mod, T_fdiv, T_neg, T_lt, T_le, T_gt, T_ge, T_isN, T_isB, T_isNotN, T_isNotB, T_not, T_truB, T_truI, T_truN, T_ok, List.getElem?_cons_zero, List.getElem?_cons_succ, List.set_cons_zero, List.set_cons_succ, List.length_cons, List.length_nil, gAll, true_and, and_true, T_comp, T_iSeq, T_iArg, T_sl, T_oNone, T_oSome, T_for, T_addT, T_addL, T_itT, T_itL, T_ixT, T_ixL, T_ixK, T_atM, if_true, Bool.false_eq_true, if_false, Bool.not_true, Bool.not_false, Bool.true_eq_false, ite_true, ite_false, reduceCtorEq, sl0, sl1, sl2, sl3, sl4, sl5, sl6, sl7, sl8, sl9, sl10, sl11, sl12, exists_eq_left', Option.some.injEq, true_and, and_true, T_dct, T_dCons, T_dNil, lenT, lenL, lenK, eq_len, ne_len, T_iItems]
    obtain ⟨q, hq⟩ : ∃ q, q = w1.length := ⟨_, rfl⟩
    obtain ⟨w2, hw2⟩ : ∃ w2 : W, w2 = w1 ++ [.dK m.kvs] := ⟨_, rfl⟩
    rw [← hw2, ← hq]
    have hq2 : w2[q]? = some (.dK m.kvs) := by rw [hw2, hq, List.getElem?_append_right (Nat.le_refl _)]; simp
    have l2' : w2.length = q + 1 := by rw [hw2, hq]; simp
    have a2 : ∀ x, x < q → w2[x]? = w1[x]? := fun x hx => by rw [hw2, List.getElem?_append_left (by omega)]
    have d2 : Deck w2 1 0 := d1.same fun x hx => a2 x (by omega)
    rw [T_seq]
    simp only [T_rng1 (n := 4) (by omega) (by omega), T_run, Then_nx, Then_rt, T_ret, T_drop, T_sif, T_next, T_asg, T_nm, T_gsub, T_setF, T_gtup, T_gtupK, T_gnil, T_gcons, T_C, T_V, T_bin, T_un, T_and, T_or, T_if, T_aNil, T_aCons, T_tup, T_lst, T_new, T_arg, T_meth, T_call, T_callK, T_make, T_fld, T_ch, T_val, T_tru, T_notT, T_andT, T_orT, T_tTrue, T_add, T_sub, T_mul, T_mod, T_fdiv, T_neg, T_lt, T_le, T_gt, T_ge, T_isN, T_isB, T_isNotN, T_isNotB, T_not, T_truB, T_truI, T_truN, T_ok, List.getElem?_cons_zero, List.getElem?_cons_succ, List.set_cons_zero, List.set_cons_succ, List.length_cons, List.length_nil, gAll, true_and, and_true, T_comp, T_iSeq, T_iArg, T_sl, T_oNone, T_oSome, T_for, T_addT, T_addL, T_itT, T_itL, T_ixT, T_ixL, T_ixK, T_atM, if_true, Bool.false_eq_true, if_false, Bool.not_true, Bool.not_false, Bool.true_eq_false, ite_true, ite_false, reduceCtorEq, sl0, sl1, sl2, sl3, sl4, sl5, sl6, sl7, sl8, sl9, sl10, sl11, sl12, exists_eq_left', Option.some.injEq, true_and, and_true, T_dct, T_dCons, T_dNil, lenT, lenL, lenK, eq_len, ne_len, T_iItems]
    refine ⟨by rw [range_len]; exact szz _ (by decide), ?_⟩
    refine T_compI (it := rangeD 0 (4 : Int).toNat) (fun j acc w' => ∃ rows : List (List Int), acc = rows.map rowD ∧ rows.length = j ∧ (∀ r ∈ rows, r.length = 6 ∧ ∀ x ∈ r, 1 ≤ x ∧ x ≤ 12) ∧ Deck w' 1 0 ∧ Pc.Kept w2 w' 1 0) (fun _ _ _ _ => trivial) ⟨[], rfl, rfl, by simp, d2, .refl⟩ (fun j x acc w' hx ⟨rows, ea, ej, eb, dk, kk⟩ => ?_) (fun acc w3 ⟨rows, ea, ej, eb, d3, k3⟩ => ?_)
    · simp only [wipeD, T_rng1 (n := 6) (by omega) (by omega), T_run, Then_nx, Then_rt, T_ret, T_drop, T_sif, T_next, T_asg, T_nm, T_gsub, T_setF, T_gtup, T_gtupK, T_gnil, T_gcons, T_C, T_V, T_bin, T_un, T_and, T_or, T_if, T_aNil, T_aCons, T_tup, T_lst, T_new, T_arg, T_meth, T_call, T_callK, T_make, T_fld, T_ch, T_val, T_tru, T_notT, T_andT, T_orT, T_tTrue, T_add, T_sub, T_mul, T_mod, T_fdiv, T_neg, T_lt, T_le, T_gt, T_ge, T_isN, T_isB, T_isNotN, T_isNotB, T_not, T_truB, T_truI, T_truN, T_ok, List.getElem?_cons_zero, List.getElem?_cons_succ, List.set_cons_zero, List.set_cons_succ, List.length_cons, List.length_nil, gAll, true_and, and_true, T_comp, T_iSeq, T_iArg, T_sl, T_oNone, T_oSome, T_for, T_addT, T_addL, T_itT, T_itL, T_ixT, T_ixL, T_ixK, T_atM, if_true, Bool.false_eq_true, if_false, Bool.not_true, Bool.not_false, Bool.true_eq_false, ite_true, ite_false, reduceCtorEq, sl0, sl1, sl2, sl3, sl4, sl5, sl6, sl7, sl8, sl9, sl10, sl11, sl12, exists_eq_left', Option.some.injEq, true_and, and_true, T_dct, T_dCons, T_dNil, lenT, lenL, lenK, eq_len, ne_len, T_iItems]
      refine ⟨by rw [range_len]; exact szz _ (by decide), ?_⟩
      refine T_draws (n := 6) (by omega) dk (fun x w' Q dk he => ?_) fun row w'' el er dk2 kk2 => ?_
      · simp only [wipeD, T_run, Then_nx, Then_rt, T_ret, T_drop, T_sif, T_next, T_asg, T_nm, T_gsub, T_setF, T_gtup, T_gtupK, T_gnil, T_gcons, T_C, T_V, T_bin, T_un, T_and, T_or, T_if, T_aNil, T_aCons, T_tup, T_lst, T_new, T_arg, T_meth, T_call, T_callK, T_make, T_fld, T_ch, T_val, T_tru, T_notT, T_andT, T_orT, T_tTrue, T_add, T_sub, T_mul, T_mod, T_fdiv, T_neg, T_lt, T_le, T_gt, T_ge, T_isN, T_isB, T_isNotN, T_isNotB, T_not, T_truB, T_truI, T_truN, T_ok, List.getElem?_cons_zero, List.getElem?_cons_succ, List.set_cons_zero, List.set_cons_succ, List.length_cons, List.length_nil, gAll, true_and, and_true, T_comp, T_iSeq, T_iArg, T_sl, T_oNone, T_oSome, T_for, T_addT, T_addL, T_itT, T_itL, T_ixT, T_ixL, T_ixK, T_atM, if_true, Bool.false_eq_true, if_false, Bool.not_true, Bool.not_false, Bool.true_eq_false, ite_true, ite_false, reduceCtorEq, sl0, sl1, sl2, sl3, sl4, sl5, sl6, sl7, sl8, sl9, sl10, sl11, sl12, exists_eq_left', Option.some.injEq, true_and, and_true, T_dct, T_dCons, T_dNil, lenT, lenL, lenK, eq_len, ne_len, T_iItems]
        refine T_draw dk (by omega) (by omega) fun v w'' v0 v1 dk2 kk2 => ?_
        simp only [T_run, Then_nx, Then_rt, T_ret, T_drop, T_sif, T_next, T_asg, T_nm, T_gsub, T_setF, T_gtup, T_gtupK, T_gnil, T_gcons, T_C, T_V, T_bin, T_un, T_and, T_or, T_if, T_aNil, T_aCons, T_tup, T_lst, T_new, T_arg, T_meth, T_call, T_callK, T_make, T_fld, T_ch, T_val, T_tru, T_notT, T_andT, T_orT, T_tTrue, T_add, T_sub, T_mul, T_mod, T_fdiv, T_neg, T_lt, T_le, T_gt, T_ge, T_isN, T_isB, T_isNotN, T_isNotB, T_not, T_truB, T_truI, T_truN, T_ok, List.getElem?_cons_zero, List.getElem?_cons_succ, List.set_cons_zero, List.set_cons_succ, List.length_cons, List.length_nil, gAll, true_and, and_true, T_comp, T_iSeq, T_iArg, T_sl, T_oNone, T_oSome, T_for, T_addT, T_addL, T_itT, T_itL, T_ixT, T_ixL, T_ixK, T_atM, if_true, Bool.false_eq_true, if_false, Bool.not_true, Bool.not_false, Bool.true_eq_false, ite_true, ite_false, reduceCtorEq, sl0, sl1, sl2, sl3, sl4, sl5, sl6, sl7, sl8, sl9, sl10, sl11, sl12, exists_eq_left', Option.some.injEq, true_and, and_true, T_dct, T_dCons, T_dNil, lenT, lenL, lenK, eq_len, ne_len, T_iItems]
        exact he (1 + v) w'' (by omega) (by omega) dk2 kk2
      · simp only [tupL]
        refine ⟨rows ++ [row], by rw [ea]; simp [rowD], by simp [ej], fun z hz => ?_, dk2, kk.trans kk2⟩
        rcases List.mem_append.mp hz with hz | hz
        · exact eb z hz
        · simp at hz; subst hz; exact ⟨el, er⟩
    subst ea
    have hq3 := k3.obj hq2 (by omega) (by omega)
    have lq3 : q < w3.length := by rw [k3.1]; omega
    simp only [tupL, T_setD hq3, put_ranks, kvs_len, T_run, Then_nx, Then_rt, T_ret, T_drop, T_sif, T_next, T_asg, T_nm, T_gsub, T_setF, T_gtup, T_gtupK, T_gnil, T_gcons, T_C, T_V, T_bin, T_un, T_and, T_or, T_if, T_aNil, T_aCons, T_tup, T_lst, T_new, T_arg, T_meth, T_call, T_callK, T_make, T_fld, T_ch, T_val, T_tru, T_notT, T_andT, T_orT, T_tTrue, T_add, T_sub, T_mul, T_mod, T_fdiv, T_neg, T_lt, T_le, T_gt, T_ge, T_isN, T_isB, T_isNotN, T_isNotB, T_not, T_truB, T_truI, T_truN, T_ok, List.getElem?_cons_zero, List.getElem?_cons_succ, List.set_cons_zero, List.set_cons_succ, List.length_cons, List.length_nil, gAll, true_and, and_true, T_comp, T_iSeq, T_iArg, T_sl, T_oNone, T_oSome, T_for, T_addT, T_addL, T_itT, T_itL, T_ixT, T_ixL, T_ixK, T_atM, if_true, Bool.false_eq_true, if_false, Bool.not_true, Bool.not_false, Bool.true_eq_false, ite_true, ite_false, reduceCtorEq, sl0, sl1, sl2, sl3, sl4, sl5, sl6, sl7, sl8, sl9, sl10, sl11, sl12, exists_eq_left', Option.some.injEq, true_and, and_true, T_dct, T_dCons, T_dNil, lenT, lenL, lenK, eq_len, ne_len, T_iItems]
    rw [T_seq]
    simp only [T_rng1 (n := 6) (by omega) (by omega), T_run, Then_nx, Then_rt, T_ret, T_drop, T_sif, T_next, T_asg, T_nm, T_gsub, T_setF, T_gtup, T_gtupK, T_gnil, T_gcons, T_C, T_V, T_bin, T_un, T_and, T_or, T_if, T_aNil, T_aCons, T_tup, T_lst, T_new, T_arg, T_meth, T_call, T_callK, T_make, T_fld, T_ch, T_val, T_tru, T_notT, T_andT, T_orT, T_tTrue, T_add, T_sub, T_mul, T_mod, T_fdiv, T_neg, T_lt, T_le, T_gt, T_ge, T_isN, T_isB, T_isNotN, T_isNotB, T_not, T_truB, T_truI, T_truN, T_ok, List.getElem?_cons_zero, List.getElem?_cons_succ, List.set_cons_zero, List.set_cons_succ, List.length_cons, List.length_nil, gAll, true_and, and_true, T_comp, T_iSeq, T_iArg, T_sl, T_oNone, T_oSome, T_for, T_addT, T_addL, T_itT, T_itL, T_ixT, T_ixL, T_ixK, T_atM, if_true, Bool.false_eq_true, if_false, Bool.not_true, Bool.not_false, Bool.true_eq_false, ite_true, ite_false, reduceCtorEq, sl0, sl1, sl2, sl3, sl4, sl5, sl6, sl7, sl8, sl9, sl10, sl11, sl12, exists_eq_left', Option.some.injEq, true_and, and_true, T_dct, T_dCons, T_dNil, lenT, lenL, lenK, eq_len, ne_len, T_iItems]
    refine ⟨by rw [range_len]; exact szz _ (by decide), ?_⟩
    refine T_compE (it := rangeD 0 (6 : Int).toNat) (List.range 6) (fun k : Nat => D.int (0 + (k : Int))) (fun k : Nat => tieD ((k : Int), 9 - (k : Int), 11)) rfl trivial (fun x hx => ?_) ?_
    · simp only [wipeD, tieD, Int.zero_add, T_run, Then_nx, Then_rt, T_ret, T_drop, T_sif, T_next, T_asg, T_nm, T_gsub, T_setF, T_gtup, T_gtupK, T_gnil, T_gcons, T_C, T_V, T_bin, T_un, T_and, T_or, T_if, T_aNil, T_aCons, T_tup, T_lst, T_new, T_arg, T_meth, T_call, T_callK, T_make, T_fld, T_ch, T_val, T_tru, T_notT, T_andT, T_orT, T_tTrue, T_add, T_sub, T_mul, T_mod, T_fdiv, T_neg, T_lt, T_le, T_gt, T_ge, T_isN, T_isB, T_isNotN, T_isNotB, T_not, T_truB, T_truI, T_truN, T_ok, List.getElem?_cons_zero, List.getElem?_cons_succ, List.set_cons_zero, List.set_cons_succ, List.length_cons, List.length_nil, gAll, true_and, and_true, T_comp, T_iSeq, T_iArg, T_sl, T_oNone, T_oSome, T_for, T_addT, T_addL, T_itT, T_itL, T_ixT, T_ixL, T_ixK, T_atM, if_true, Bool.false_eq_true, if_false, Bool.not_true, Bool.not_false, Bool.true_eq_false, ite_true, ite_false, reduceCtorEq, sl0, sl1, sl2, sl3, sl4, sl5, sl6, sl7, sl8, sl9, sl10, sl11, sl12, exists_eq_left', Option.some.injEq, true_and, and_true, T_dct, T_dCons, T_dNil, lenT, lenL, lenK, eq_len, ne_len, T_iItems]
    have et : (List.range 6).map (fun k : Nat => tieD ((k : Int), 9 - (k : Int), 11)) = ([(0, 9, 11), (1, 8, 11), (2, 7, 11), (3, 6, 11), (4, 5, 11), (5, 4, 11)] : List (Int × Int × Int)).map tieD := rfl
    rw [et]
    simp only [tupL, T_setS lq3, put_hosts, put_ties, kvs_len, T_run, Then_nx, Then_rt, T_ret, T_drop, T_sif, T_next, T_asg, T_nm, T_gsub, T_setF, T_gtup, T_gtupK, T_gnil, T_gcons, T_C, T_V, T_bin, T_un, T_and, T_or, T_if, T_aNil, T_aCons, T_tup, T_lst, T_new, T_arg, T_meth, T_call, T_callK, T_make, T_fld, T_ch, T_val, T_tru, T_notT, T_andT, T_orT, T_tTrue, T_add, T_sub, T_mul, T_mod, T_fdiv, T_neg, T_lt, T_le, T_gt, T_ge, T_isN, T_isB, T_isNotN, T_isNotB, T_not, T_truB, T_truI, T_truN, T_ok, List.getElem?_cons_zero, List.getElem?_cons_succ, List.set_cons_zero, List.set_cons_succ, List.length_cons, List.length_nil, gAll, true_and, and_true, T_comp, T_iSeq, T_iArg, T_sl, T_oNone, T_oSome, T_for, T_addT, T_addL, T_itT, T_itL, T_ixT, T_ixL, T_ixK, T_atM, if_true, Bool.false_eq_true, if_false, Bool.not_true, Bool.not_false, Bool.true_eq_false, ite_true, ite_false, reduceCtorEq, sl0, sl1, sl2, sl3, sl4, sl5, sl6, sl7, sl8, sl9, sl10, sl11, sl12, exists_eq_left', Option.some.injEq, true_and, and_true, T_dct, T_dCons, T_dNil, lenT, lenL, lenK, eq_len, ne_len, T_iItems]
    rw [T_seq]
    simp only [T_setS lq3, put_every, put_lost, put_slow, kvs_len, T_run, Then_nx, Then_rt, T_ret, T_drop, T_sif, T_next, T_asg, T_nm, T_gsub, T_setF, T_gtup, T_gtupK, T_gnil, T_gcons, T_C, T_V, T_bin, T_un, T_and, T_or, T_if, T_aNil, T_aCons, T_tup, T_lst, T_new, T_arg, T_meth, T_call, T_callK, T_make, T_fld, T_ch, T_val, T_tru, T_notT, T_andT, T_orT, T_tTrue, T_add, T_sub, T_mul, T_mod, T_fdiv, T_neg, T_lt, T_le, T_gt, T_ge, T_isN, T_isB, T_isNotN, T_isNotB, T_not, T_truB, T_truI, T_truN, T_ok, List.getElem?_cons_zero, List.getElem?_cons_succ, List.set_cons_zero, List.set_cons_succ, List.length_cons, List.length_nil, gAll, true_and, and_true, T_comp, T_iSeq, T_iArg, T_sl, T_oNone, T_oSome, T_for, T_addT, T_addL, T_itT, T_itL, T_ixT, T_ixL, T_ixK, T_atM, if_true, Bool.false_eq_true, if_false, Bool.not_true, Bool.not_false, Bool.true_eq_false, ite_true, ite_false, reduceCtorEq, sl0, sl1, sl2, sl3, sl4, sl5, sl6, sl7, sl8, sl9, sl10, sl11, sl12, exists_eq_left', Option.some.injEq, true_and, and_true, T_dct, T_dCons, T_dNil, lenT, lenL, lenK, eq_len, ne_len, T_iItems]
    rw [T_seq]
    simp only [T_setS lq3, put_bears, put_gap, put_hold, kvs_len, T_run, Then_nx, Then_rt, T_ret, T_drop, T_sif, T_next, T_asg, T_nm, T_gsub, T_setF, T_gtup, T_gtupK, T_gnil, T_gcons, T_C, T_V, T_bin, T_un, T_and, T_or, T_if, T_aNil, T_aCons, T_tup, T_lst, T_new, T_arg, T_meth, T_call, T_callK, T_make, T_fld, T_ch, T_val, T_tru, T_notT, T_andT, T_orT, T_tTrue, T_add, T_sub, T_mul, T_mod, T_fdiv, T_neg, T_lt, T_le, T_gt, T_ge, T_isN, T_isB, T_isNotN, T_isNotB, T_not, T_truB, T_truI, T_truN, T_ok, List.getElem?_cons_zero, List.getElem?_cons_succ, List.set_cons_zero, List.set_cons_succ, List.length_cons, List.length_nil, gAll, true_and, and_true, T_comp, T_iSeq, T_iArg, T_sl, T_oNone, T_oSome, T_for, T_addT, T_addL, T_itT, T_itL, T_ixT, T_ixL, T_ixK, T_atM, if_true, Bool.false_eq_true, if_false, Bool.not_true, Bool.not_false, Bool.true_eq_false, ite_true, ite_false, reduceCtorEq, sl0, sl1, sl2, sl3, sl4, sl5, sl6, sl7, sl8, sl9, sl10, sl11, sl12, exists_eq_left', Option.some.injEq, true_and, and_true, T_dct, T_dCons, T_dNil, lenT, lenL, lenK, eq_len, ne_len, T_iItems]
    have ej4 : rows.length = 4 := by rw [ej, range_len]; rfl
    refine hP q 6 { m with ranks := rows, hosts := 4, ties := [(0, 9, 11), (1, 8, 11), (2, 7, 11), (3, 6, 11), (4, 5, 11), (5, 4, 11)], every := 5, lost := 3, slow := 4, bears := .int 3, gap := 3, hold := 20 } _ (by omega) (.inr (by omega)) ?_ ?_ (d3.set (by omega) (by omega)) ⟨by rw [List.length_set, k3.1]; omega, fun x g0 g1 g2 => ?_⟩
    · rw [List.getElem?_set_self lq3]
    · refine ⟨⟨by omega, by omega, eb⟩, by simp only []; omega, by simp only []; omega, by simp, by simp, by simp, ⟨3, rfl, by decide, by decide⟩, by simp, by simp, ⟨by simp, ?_, ?_⟩, by simp⟩
      · intro t ht
        simp only [List.mem_cons, List.not_mem_nil, or_false] at ht
        rcases ht with rfl | rfl | rfl | rfl | rfl | rfl <;> decide
      · simp only [List.pairwise_cons, List.mem_cons, List.not_mem_nil, or_false]
        refine ⟨?_, ?_, ?_, ?_, ?_, ?_, List.Pairwise.nil⟩ <;> intro a ha <;> first | exact ha.elim | (rcases ha with rfl | rfl | rfl | rfl | rfl <;> decide) | (rcases ha with rfl | rfl | rfl | rfl <;> decide) | (rcases ha with rfl | rfl | rfl <;> decide) | (rcases ha with rfl | rfl <;> decide) | (subst ha; decide)
    · rw [List.getElem?_set_ne (by omega), k3.2 x g1 g2, a2 x (by omega)]
      exact k1.2 x g1 g2
  · have hr' : (!(r == 1)) = true := by simpa using hr
    simp only [hr', T_run, Then_nx, Then_rt, T_ret, T_drop, T_sif, T_next, T_asg, T_nm, T_gsub, T_setF, T_gtup, T_gtupK, T_gnil, T_gcons, T_C, T_V, T_bin, T_un, T_and, T_or, T_if, T_aNil, T_aCons, T_tup, T_lst, T_new, T_arg, T_meth, T_call, T_callK, T_make, T_fld, T_ch, T_val, T_tru, T_notT, T_andT, T_orT, T_tTrue, T_add, T_sub, T_mul, T_mod, T_fdiv, T_neg, T_lt, T_le, T_gt, T_ge, T_isN, T_isB, T_isNotN, T_isNotB, T_not, T_truB, T_truI, T_truN, T_ok, List.getElem?_cons_zero, List.getElem?_cons_succ, List.set_cons_zero, List.set_cons_succ, List.length_cons, List.length_nil, gAll, true_and, and_true, T_comp, T_iSeq, T_iArg, T_sl, T_oNone, T_oSome, T_for, T_addT, T_addL, T_itT, T_itL, T_ixT, T_ixL, T_ixK, T_atM, if_true, Bool.false_eq_true, if_false, Bool.not_true, Bool.not_false, Bool.true_eq_false, ite_true, ite_false, reduceCtorEq, sl0, sl1, sl2, sl3, sl4, sl5, sl6, sl7, sl8, sl9, sl10, sl11, sl12, exists_eq_left', Option.some.injEq, true_and, and_true, T_dct, T_dCons, T_dNil, lenT, lenL, lenK, eq_len, ne_len, T_iItems]
    exact hP i h m w1 i2 (.inl rfl) hM1 o d1 k1.grow
theorem one_right {p h : Nat} {m : Mo} {b : Int} {w : W} {P : D → W → Prop} (hp : PlanAt (lk k) w p m b) (o : MoB m h) (b0 : 0 ≤ b) (b3 : b ≤ 3) : True := trivial
/-- a model by its place -/
def Entry (w : W) (i : Nat) : Prop := 3 ≤ i ∧ ∃ (m : Mo) (h : Nat), w[i]? = some (.dK m.kvs) ∧ MoOk m h
theorem Entry.keep {w w' : W} {i : Nat} (h : Entry w i) (q : ∀ i, 3 ≤ i → i < w.length → w'[i]? = w[i]?) : Entry w' i := by
  obtain ⟨h1, m, hh, a1, a2⟩ := h
  exact ⟨h1, m, hh, by rw [q _ h1 (List.getElem?_eq_some_iff.mp a1).1]; exact a1, a2⟩
def Inv (sc : D) (j : Nat) (σ : Sg) (w : W) : Prop := Deck w 1 0 ∧ (∃ es : List Nat, w[2]? = some (.lst (es.map D.ref)) ∧ es.length ≤ j ∧ ∀ e ∈ es, Entry w e) ∧ ∃ s3, σ = [some sc, some (.ref 1), some (.ref 2), s3, none, none, none]
theorem good (ns : List Int) (hl : ns.length ≤ 63) (hP : ∀ w', P (.bl true) w') : T (m_law k [.scr (ns.map D.int)] []) P := by
  unfold m_law b_law
  rw [T_run, bel, T_seq]
  simp only [q_deck, T_run, Then_nx, Then_rt, T_ret, T_drop, T_sif, T_next, T_asg, T_nm, T_gsub, T_setF, T_gtup, T_gtupK, T_gnil, T_gcons, T_C, T_V, T_bin, T_un, T_and, T_or, T_if, T_aNil, T_aCons, T_tup, T_lst, T_new, T_arg, T_meth, T_call, T_callK, T_make, T_fld, T_ch, T_val, T_tru, T_notT, T_andT, T_orT, T_tTrue, T_add, T_sub, T_mul, T_mod, T_fdiv, T_neg, T_lt, T_le, T_gt, T_ge, T_isN, T_isB, T_isNotN, T_isNotB, T_not, T_truB, T_truI, T_truN, T_ok, List.getElem?_cons_zero, List.getElem?_cons_succ, List.set_cons_zero, List.set_cons_succ, List.length_cons, List.length_nil, gAll, true_and, and_true, T_comp, T_iSeq, T_iArg, T_sl, T_oNone, T_oSome, T_for, T_addT, T_addL, T_itT, T_itL, T_ixT, T_ixL, T_ixK, T_atM, if_true, Bool.false_eq_true, if_false, Bool.not_true, Bool.not_false, Bool.true_eq_false, ite_true, ite_false, reduceCtorEq, sl0, sl1, sl2, sl3, sl4, sl5, sl6, sl7, sl8, sl9, sl10, sl11, sl12, exists_eq_left', Option.some.injEq, true_and, and_true, T_dct, T_dCons, T_dNil, lenT, lenL, lenK, eq_len, ne_len, T_iItems]
  refine (T_deck hl).mono fun r w0 _ ⟨er, l0, d0⟩ => ?_
  subst er
  try simp only [T_run, Then_nx, Then_rt, T_ret, T_drop, T_sif, T_next, T_asg, T_nm, T_gsub, T_setF, T_gtup, T_gtupK, T_gnil, T_gcons, T_C, T_V, T_bin, T_un, T_and, T_or, T_if, T_aNil, T_aCons, T_tup, T_lst, T_new, T_arg, T_meth, T_call, T_callK, T_make, T_fld, T_ch, T_val, T_tru, T_notT, T_andT, T_orT, T_tTrue, T_add, T_sub, T_mul, T_mod, T_fdiv, T_neg, T_lt, T_le, T_gt, T_ge, T_isN, T_isB, T_isNotN, T_isNotB, T_not, T_truB, T_truI, T_truN, T_ok, List.getElem?_cons_zero, List.getElem?_cons_succ, List.set_cons_zero, List.set_cons_succ, List.length_cons, List.length_nil, gAll, true_and, and_true, T_comp, T_iSeq, T_iArg, T_sl, T_oNone, T_oSome, T_for, T_addT, T_addL, T_itT, T_itL, T_ixT, T_ixL, T_ixK, T_atM, if_true, Bool.false_eq_true, if_false, Bool.not_true, Bool.not_false, Bool.true_eq_false, ite_true, ite_false, reduceCtorEq, sl0, sl1, sl2, sl3, sl4, sl5, sl6, sl7, sl8, sl9, sl10, sl11, sl12, exists_eq_left', Option.some.injEq, true_and, and_true, T_dct, T_dCons, T_dNil, lenT, lenL, lenK, eq_len, ne_len, T_iItems]
  rw [T_seq]
  simp only [l0, T_run, Then_nx, Then_rt, T_ret, T_drop, T_sif, T_next, T_asg, T_nm, T_gsub, T_setF, T_gtup, T_gtupK, T_gnil, T_gcons, T_C, T_V, T_bin, T_un, T_and, T_or, T_if, T_aNil, T_aCons, T_tup, T_lst, T_new, T_arg, T_meth, T_call, T_callK, T_make, T_fld, T_ch, T_val, T_tru, T_notT, T_andT, T_orT, T_tTrue, T_add, T_sub, T_mul, T_mod, T_fdiv, T_neg, T_lt, T_le, T_gt, T_ge, T_isN, T_isB, T_isNotN, T_isNotB, T_not, T_truB, T_truI, T_truN, T_ok, List.getElem?_cons_zero, List.getElem?_cons_succ, List.set_cons_zero, List.set_cons_succ, List.length_cons, List.length_nil, gAll, true_and, and_true, T_comp, T_iSeq, T_iArg, T_sl, T_oNone, T_oSome, T_for, T_addT, T_addL, T_itT, T_itL, T_ixT, T_ixL, T_ixK, T_atM, if_true, Bool.false_eq_true, if_false, Bool.not_true, Bool.not_false, Bool.true_eq_false, ite_true, ite_false, reduceCtorEq, sl0, sl1, sl2, sl3, sl4, sl5, sl6, sl7, sl8, sl9, sl10, sl11, sl12, exists_eq_left', Option.some.injEq, true_and, and_true, T_dct, T_dCons, T_dNil, lenT, lenL, lenK, eq_len, ne_len, T_iItems]
  rw [T_seq]
  simp only [T_rng1 (n := 6) (by omega) (by omega), T_run, Then_nx, Then_rt, T_ret, T_drop, T_sif, T_next, T_asg, T_nm, T_gsub, T_setF, T_gtup, T_gtupK, T_gnil, T_gcons, T_C, T_V, T_bin, T_un, T_and, T_or, T_if, T_aNil, T_aCons, T_tup, T_lst, T_new, T_arg, T_meth, T_call, T_callK, T_make, T_fld, T_ch, T_val, T_tru, T_notT, T_andT, T_orT, T_tTrue, T_add, T_sub, T_mul, T_mod, T_fdiv, T_neg, T_lt, T_le, T_gt, T_ge, T_isN, T_isB, T_isNotN, T_isNotB, T_not, T_truB, T_truI, T_truN, T_ok, List.getElem?_cons_zero, List.getElem?_cons_succ, List.set_cons_zero, List.set_cons_succ, List.length_cons, List.length_nil, gAll, true_and, and_true, T_comp, T_iSeq, T_iArg, T_sl, T_oNone, T_oSome, T_for, T_addT, T_addL, T_itT, T_itL, T_ixT, T_ixL, T_ixK, T_atM, if_true, Bool.false_eq_true, if_false, Bool.not_true, Bool.not_false, Bool.true_eq_false, ite_true, ite_false, reduceCtorEq, sl0, sl1, sl2, sl3, sl4, sl5, sl6, sl7, sl8, sl9, sl10, sl11, sl12, exists_eq_left', Option.some.injEq, true_and, and_true, T_dct, T_dCons, T_dNil, lenT, lenL, lenK, eq_len, ne_len, T_iItems]
  have h2 : (w0 ++ [MO.lst []] : W)[2]? = some (.lst []) := by rw [← l0, List.getElem?_append_right (Nat.le_refl _)]; simp
  refine T_forI (Inv (.scr (ns.map D.int))) (fun _ _ _ _ => trivial) ⟨d0.app, ⟨[], h2, Nat.le_refl _, by simp⟩, none, rfl⟩ (fun j x σ w1 hx hI => ?_) fun σ w1 hI => ?_
  · obtain ⟨hd, ⟨es, hs, hj, he⟩, s3, rfl⟩ := hI
    have hj6 := (range_at hx).1
    have l2 : 2 < w1.length := (List.getElem?_eq_some_iff.mp hs).1
    have ty : tyD (.ref 2) w1 = some "list" := by simp only [tyD, hs]
    rw [T_nm, T_seq]
    simp only [ty, q_draw, q_model, T_run, Then_nx, Then_rt, T_ret, T_drop, T_sif, T_next, T_asg, T_nm, T_gsub, T_setF, T_gtup, T_gtupK, T_gnil, T_gcons, T_C, T_V, T_bin, T_un, T_and, T_or, T_if, T_aNil, T_aCons, T_tup, T_lst, T_new, T_arg, T_meth, T_call, T_callK, T_make, T_fld, T_ch, T_val, T_tru, T_notT, T_andT, T_orT, T_tTrue, T_add, T_sub, T_mul, T_mod, T_fdiv, T_neg, T_lt, T_le, T_gt, T_ge, T_isN, T_isB, T_isNotN, T_isNotB, T_not, T_truB, T_truI, T_truN, T_ok, List.getElem?_cons_zero, List.getElem?_cons_succ, List.set_cons_zero, List.set_cons_succ, List.length_cons, List.length_nil, gAll, true_and, and_true, T_comp, T_iSeq, T_iArg, T_sl, T_oNone, T_oSome, T_for, T_addT, T_addL, T_itT, T_itL, T_ixT, T_ixL, T_ixK, T_atM, if_true, Bool.false_eq_true, if_false, Bool.not_true, Bool.not_false, Bool.true_eq_false, ite_true, ite_false, reduceCtorEq, sl0, sl1, sl2, sl3, sl4, sl5, sl6, sl7, sl8, sl9, sl10, sl11, sl12, exists_eq_left', Option.some.injEq, true_and, and_true, T_dct, T_dCons, T_dNil, lenT, lenL, lenK, eq_len, ne_len, T_iItems]
    refine T_draw hd (by omega) (by omega) fun hh w2 hh0 hh1 d2 k2 => ?_
    simp only [T_run, Then_nx, Then_rt, T_ret, T_drop, T_sif, T_next, T_asg, T_nm, T_gsub, T_setF, T_gtup, T_gtupK, T_gnil, T_gcons, T_C, T_V, T_bin, T_un, T_and, T_or, T_if, T_aNil, T_aCons, T_tup, T_lst, T_new, T_arg, T_meth, T_call, T_callK, T_make, T_fld, T_ch, T_val, T_tru, T_notT, T_andT, T_orT, T_tTrue, T_add, T_sub, T_mul, T_mod, T_fdiv, T_neg, T_lt, T_le, T_gt, T_ge, T_isN, T_isB, T_isNotN, T_isNotB, T_not, T_truB, T_truI, T_truN, T_ok, List.getElem?_cons_zero, List.getElem?_cons_succ, List.set_cons_zero, List.set_cons_succ, List.length_cons, List.length_nil, gAll, true_and, and_true, T_comp, T_iSeq, T_iArg, T_sl, T_oNone, T_oSome, T_for, T_addT, T_addL, T_itT, T_itL, T_ixT, T_ixL, T_ixK, T_atM, if_true, Bool.false_eq_true, if_false, Bool.not_true, Bool.not_false, Bool.true_eq_false, ite_true, ite_false, reduceCtorEq, sl0, sl1, sl2, sl3, sl4, sl5, sl6, sl7, sl8, sl9, sl10, sl11, sl12, exists_eq_left', Option.some.injEq, true_and, and_true, T_dct, T_dCons, T_dNil, lenT, lenL, lenK, eq_len, ne_len, T_iItems]
    refine T_draw d2 (by omega) (by omega) fun n w3 n0 n1 d3 k3 => ?_
    obtain ⟨hh, rfl⟩ : ∃ h : Nat, hh = (h : Int) := ⟨hh.toNat, by omega⟩
    obtain ⟨n, rfl⟩ : ∃ n' : Nat, n = (n' : Int) := ⟨n.toNat, by omega⟩
    have en : (1 : Int) + (n : Int) = ((n + 1 : Nat) : Int) := by omega
    have eh : (1 : Int) + (hh : Int) = ((hh + 1 : Nat) : Int) := by omega
    simp only [T_run, Then_nx, Then_rt, T_ret, T_drop, T_sif, T_next, T_asg, T_nm, T_gsub, T_setF, T_gtup, T_gtupK, T_gnil, T_gcons, T_C, T_V, T_bin, T_un, T_and, T_or, T_if, T_aNil, T_aCons, T_tup, T_lst, T_new, T_arg, T_meth, T_call, T_callK, T_make, T_fld, T_ch, T_val, T_tru, T_notT, T_andT, T_orT, T_tTrue, T_add, T_sub, T_mul, T_mod, T_fdiv, T_neg, T_lt, T_le, T_gt, T_ge, T_isN, T_isB, T_isNotN, T_isNotB, T_not, T_truB, T_truI, T_truN, T_ok, List.getElem?_cons_zero, List.getElem?_cons_succ, List.set_cons_zero, List.set_cons_succ, List.length_cons, List.length_nil, gAll, true_and, and_true, T_comp, T_iSeq, T_iArg, T_sl, T_oNone, T_oSome, T_for, T_addT, T_addL, T_itT, T_itL, T_ixT, T_ixL, T_ixK, T_atM, if_true, Bool.false_eq_true, if_false, Bool.not_true, Bool.not_false, Bool.true_eq_false, ite_true, ite_false, reduceCtorEq, sl0, sl1, sl2, sl3, sl4, sl5, sl6, sl7, sl8, sl9, sl10, sl11, sl12, exists_eq_left', Option.some.injEq, true_and, and_true, T_dct, T_dCons, T_dNil, lenT, lenL, lenK, eq_len, ne_len, T_iItems]
    rw [en, eh]
    have l3 : w3.length = w1.length := by rw [k3.1, k2.1]
    refine T_model d3 ⟨by omega, by omega⟩ ⟨by omega, by omega⟩ fun i m w4 li hM o er d4 g4 => ?_
    have gl4 := g4.le
    try simp only [T_run, Then_nx, Then_rt, T_ret, T_drop, T_sif, T_next, T_asg, T_nm, T_gsub, T_setF, T_gtup, T_gtupK, T_gnil, T_gcons, T_C, T_V, T_bin, T_un, T_and, T_or, T_if, T_aNil, T_aCons, T_tup, T_lst, T_new, T_arg, T_meth, T_call, T_callK, T_make, T_fld, T_ch, T_val, T_tru, T_notT, T_andT, T_orT, T_tTrue, T_add, T_sub, T_mul, T_mod, T_fdiv, T_neg, T_lt, T_le, T_gt, T_ge, T_isN, T_isB, T_isNotN, T_isNotB, T_not, T_truB, T_truI, T_truN, T_ok, List.getElem?_cons_zero, List.getElem?_cons_succ, List.set_cons_zero, List.set_cons_succ, List.length_cons, List.length_nil, gAll, true_and, and_true, T_comp, T_iSeq, T_iArg, T_sl, T_oNone, T_oSome, T_for, T_addT, T_addL, T_itT, T_itL, T_ixT, T_ixL, T_ixK, T_atM, if_true, Bool.false_eq_true, if_false, Bool.not_true, Bool.not_false, Bool.true_eq_false, ite_true, ite_false, reduceCtorEq, sl0, sl1, sl2, sl3, sl4, sl5, sl6, sl7, sl8, sl9, sl10, sl11, sl12, exists_eq_left', Option.some.injEq, true_and, and_true, T_dct, T_dCons, T_dNil, lenT, lenL, lenK, eq_len, ne_len, T_iItems]
    refine T_great k d4 hM o (by omega) (by omega) fun i' h' m' w5 i2 il hM' o' d5 g5 => ?_
    have gl5 := g5.le
    have gg : Grow w1 w5 1 0 := (((k2.trans k3).grow).trans g4).trans g5
    have hs5 := gg.obj hs (by omega) (by omega)
    have l5 : 2 < w5.length := (List.getElem?_eq_some_iff.mp hs5).1
    simp only [T_append hs5, T_run, Then_nx, Then_rt, T_ret, T_drop, T_sif, T_next, T_asg, T_nm, T_gsub, T_setF, T_gtup, T_gtupK, T_gnil, T_gcons, T_C, T_V, T_bin, T_un, T_and, T_or, T_if, T_aNil, T_aCons, T_tup, T_lst, T_new, T_arg, T_meth, T_call, T_callK, T_make, T_fld, T_ch, T_val, T_tru, T_notT, T_andT, T_orT, T_tTrue, T_add, T_sub, T_mul, T_mod, T_fdiv, T_neg, T_lt, T_le, T_gt, T_ge, T_isN, T_isB, T_isNotN, T_isNotB, T_not, T_truB, T_truI, T_truN, T_ok, List.getElem?_cons_zero, List.getElem?_cons_succ, List.set_cons_zero, List.set_cons_succ, List.length_cons, List.length_nil, gAll, true_and, and_true, T_comp, T_iSeq, T_iArg, T_sl, T_oNone, T_oSome, T_for, T_addT, T_addL, T_itT, T_itL, T_ixT, T_ixL, T_ixK, T_atM, if_true, Bool.false_eq_true, if_false, Bool.not_true, Bool.not_false, Bool.true_eq_false, ite_true, ite_false, reduceCtorEq, sl0, sl1, sl2, sl3, sl4, sl5, sl6, sl7, sl8, sl9, sl10, sl11, sl12, exists_eq_left', Option.some.injEq, true_and, and_true, T_dct, T_dCons, T_dNil, lenT, lenL, lenK, eq_len, ne_len, T_iItems]
    refine ⟨Nat.lt_of_lt_of_le (m := 100) (by rw [List.length_map]; omega) (sz _ (by omega)), ?_⟩
    obtain ⟨w6, hw6⟩ : ∃ w6 : W, w6 = w5.set 2 (.lst (es.map D.ref ++ [D.ref i'])) := ⟨_, rfl⟩
    rw [← hw6]
    have d6 : Deck w6 1 0 := by rw [hw6]; exact d5.set (by omega) (by omega)
    have l6 : w6.length = w5.length := by rw [hw6, List.length_set]
    have a6 : ∀ x, 3 ≤ x → w6[x]? = w5[x]? := fun x hx => by rw [hw6, List.getElem?_set_ne (by omega)]
    have hs6 : w6[2]? = some (.lst ((es ++ [i']).map D.ref)) := by rw [hw6, List.getElem?_set_self l5]; simp
    have i3 : 3 ≤ i' := by omega
    have hM6 : w6[i']? = some (.dK m'.kvs) := by rw [a6 i' i3]; exact hM'
    have he6 : ∀ e ∈ es, Entry w6 e := fun e hm => (he e hm).keep fun x h3 hx => by rw [a6 x h3]; exact gg.at_ x hx (by omega) (by omega)
    refine T_draw d6 (by omega) (by omega) fun c w7 c0 c1 d7 k7 => ?_
    have hs7 := k7.obj hs6 (by omega) (by omega)
    have hM7 := k7.obj hM6 (by omega) (by omega)
    have he7 : ∀ e ∈ es, Entry w7 e := fun e hm => (he6 e hm).keep fun x h3 _ => k7.2 x (by omega) (by omega)
    have lel : (es ++ [i']).length ≤ j + 1 := by simp; omega
    simp only [T_run, Then_nx, Then_rt, T_ret, T_drop, T_sif, T_next, T_asg, T_nm, T_gsub, T_setF, T_gtup, T_gtupK, T_gnil, T_gcons, T_C, T_V, T_bin, T_un, T_and, T_or, T_if, T_aNil, T_aCons, T_tup, T_lst, T_new, T_arg, T_meth, T_call, T_callK, T_make, T_fld, T_ch, T_val, T_tru, T_notT, T_andT, T_orT, T_tTrue, T_add, T_sub, T_mul, T_mod, T_fdiv, T_neg, T_lt, T_le, T_gt, T_ge, T_isN, T_isB, T_isNotN, T_isNotB, T_not, T_truB, T_truI, T_truN, T_ok, List.getElem?_cons_zero, List.getElem?_cons_succ, List.set_cons_zero, List.set_cons_succ, List.length_cons, List.length_nil, gAll, true_and, and_true, T_comp, T_iSeq, T_iArg, T_sl, T_oNone, T_oSome, T_for, T_addT, T_addL, T_itT, T_itL, T_ixT, T_ixL, T_ixK, T_atM, if_true, Bool.false_eq_true, if_false, Bool.not_true, Bool.not_false, Bool.true_eq_false, ite_true, ite_false, reduceCtorEq, sl0, sl1, sl2, sl3, sl4, sl5, sl6, sl7, sl8, sl9, sl10, sl11, sl12, exists_eq_left', Option.some.injEq, true_and, and_true, T_dct, T_dCons, T_dNil, lenT, lenL, lenK, eq_len, ne_len, T_iItems]
    by_cases hc : c = 1
    · have hc' : (c == 1) = true := by simpa using hc
      simp only [hc', T_run, Then_nx, Then_rt, T_ret, T_drop, T_sif, T_next, T_asg, T_nm, T_gsub, T_setF, T_gtup, T_gtupK, T_gnil, T_gcons, T_C, T_V, T_bin, T_un, T_and, T_or, T_if, T_aNil, T_aCons, T_tup, T_lst, T_new, T_arg, T_meth, T_call, T_callK, T_make, T_fld, T_ch, T_val, T_tru, T_notT, T_andT, T_orT, T_tTrue, T_add, T_sub, T_mul, T_mod, T_fdiv, T_neg, T_lt, T_le, T_gt, T_ge, T_isN, T_isB, T_isNotN, T_isNotB, T_not, T_truB, T_truI, T_truN, T_ok, List.getElem?_cons_zero, List.getElem?_cons_succ, List.set_cons_zero, List.set_cons_succ, List.length_cons, List.length_nil, gAll, true_and, and_true, T_comp, T_iSeq, T_iArg, T_sl, T_oNone, T_oSome, T_for, T_addT, T_addL, T_itT, T_itL, T_ixT, T_ixL, T_ixK, T_atM, if_true, Bool.false_eq_true, if_false, Bool.not_true, Bool.not_false, Bool.true_eq_false, ite_true, ite_false, reduceCtorEq, sl0, sl1, sl2, sl3, sl4, sl5, sl6, sl7, sl8, sl9, sl10, sl11, sl12, exists_eq_left', Option.some.injEq, true_and, and_true, T_dct, T_dCons, T_dNil, lenT, lenL, lenK, eq_len, ne_len, T_iItems]
      refine T_draw d7 (by omega) (by omega) fun v w8 v0 v1 d8 k8 => ?_
      have hs8 := k8.obj hs7 (by omega) (by omega)
      have hM8 := k8.obj hM7 (by omega) (by omega)
      have lM8 : i' < w8.length := (List.getElem?_eq_some_iff.mp hM8).1
      have he8 : ∀ e ∈ es, Entry w8 e := fun e hm => (he7 e hm).keep fun x h3 _ => k8.2 x (by omega) (by omega)
      have am : atI ((es ++ [i']).map D.ref) (-1) = some (.ref i') := by
        have ln : ((es ++ [i']).map D.ref).length = es.length + 1 := by simp
        unfold atI ixN
        rw [if_neg (by omega), if_pos (by omega)]
        show ((es ++ [i']).map D.ref)[(-1 + (((es ++ [i']).map D.ref).length : Int)).toNat]? = _
        have e1 : (-1 + ((es.length + 1 : Nat) : Int)).toNat = es.length := by omega
        rw [ln, e1, List.map_append, List.getElem?_append_right (by simp)]
        simp
      simp only [T_neg, T_ixR hs8, am, T_setD hM8, put_bears, kvs_len, T_run, Then_nx, Then_rt, T_ret, T_drop, T_sif, T_next, T_asg, T_nm, T_gsub, T_setF, T_gtup, T_gtupK, T_gnil, T_gcons, T_C, T_V, T_bin, T_un, T_and, T_or, T_if, T_aNil, T_aCons, T_tup, T_lst, T_new, T_arg, T_meth, T_call, T_callK, T_make, T_fld, T_ch, T_val, T_tru, T_notT, T_andT, T_orT, T_tTrue, T_add, T_sub, T_mul, T_mod, T_fdiv, T_neg, T_lt, T_le, T_gt, T_ge, T_isN, T_isB, T_isNotN, T_isNotB, T_not, T_truB, T_truI, T_truN, T_ok, List.getElem?_cons_zero, List.getElem?_cons_succ, List.set_cons_zero, List.set_cons_succ, List.length_cons, List.length_nil, gAll, true_and, and_true, T_comp, T_iSeq, T_iArg, T_sl, T_oNone, T_oSome, T_for, T_addT, T_addL, T_itT, T_itL, T_ixT, T_ixL, T_ixK, T_atM, if_true, Bool.false_eq_true, if_false, Bool.not_true, Bool.not_false, Bool.true_eq_false, ite_true, ite_false, reduceCtorEq, sl0, sl1, sl2, sl3, sl4, sl5, sl6, sl7, sl8, sl9, sl10, sl11, sl12, exists_eq_left', Option.some.injEq, true_and, and_true, T_dct, T_dCons, T_dNil, lenT, lenL, lenK, eq_len, ne_len, T_iItems]
      rw [Turn_nx]
      refine ⟨d8.set (by omega) (by omega), ⟨es ++ [i'], by rw [List.getElem?_set_ne (by omega)]; exact hs8, lel, fun e hm => ?_⟩, _, rfl⟩
      by_cases hei : e = i'
      · subst hei
        refine ⟨i3, { m' with bears := .int v }, h', List.getElem?_set_self lM8, ⟨o'.ranks, o'.n1, o'.n4, o'.every, o'.lost, o'.slow, ⟨v, rfl, v0, by omega⟩, o'.gap, o'.hold, o'.ties, o'.hosts⟩⟩
      · rcases List.mem_append.mp hm with hm | hm
        · obtain ⟨h1, mm, hh', a1, a2⟩ := he8 e hm
          exact ⟨h1, mm, hh', by rw [List.getElem?_set_ne (Ne.symm hei)]; exact a1, a2⟩
        · simp at hm; exact absurd hm hei
    · have hc' : (c == 1) = false := by simpa using hc
      simp only [hc', T_run, Then_nx, Then_rt, T_ret, T_drop, T_sif, T_next, T_asg, T_nm, T_gsub, T_setF, T_gtup, T_gtupK, T_gnil, T_gcons, T_C, T_V, T_bin, T_un, T_and, T_or, T_if, T_aNil, T_aCons, T_tup, T_lst, T_new, T_arg, T_meth, T_call, T_callK, T_make, T_fld, T_ch, T_val, T_tru, T_notT, T_andT, T_orT, T_tTrue, T_add, T_sub, T_mul, T_mod, T_fdiv, T_neg, T_lt, T_le, T_gt, T_ge, T_isN, T_isB, T_isNotN, T_isNotB, T_not, T_truB, T_truI, T_truN, T_ok, List.getElem?_cons_zero, List.getElem?_cons_succ, List.set_cons_zero, List.set_cons_succ, List.length_cons, List.length_nil, gAll, true_and, and_true, T_comp, T_iSeq, T_iArg, T_sl, T_oNone, T_oSome, T_for, T_addT, T_addL, T_itT, T_itL, T_ixT, T_ixL, T_ixK, T_atM, if_true, Bool.false_eq_true, if_false, Bool.not_true, Bool.not_false, Bool.true_eq_false, ite_true, ite_false, reduceCtorEq, sl0, sl1, sl2, sl3, sl4, sl5, sl6, sl7, sl8, sl9, sl10, sl11, sl12, exists_eq_left', Option.some.injEq, true_and, and_true, T_dct, T_dCons, T_dNil, lenT, lenL, lenK, eq_len, ne_len, T_iItems]
      rw [Turn_nx]
      refine ⟨d7, ⟨es ++ [i'], hs7, lel, fun e hm => ?_⟩, _, rfl⟩
      rcases List.mem_append.mp hm with hm | hm
      · exact he7 e hm
      · simp at hm; subst hm; exact ⟨i3, m', h', hM7, o'⟩
  · obtain ⟨hd, ⟨es, hs, hj, he⟩, s3, rfl⟩ := hI
    have hj6 : es.length ≤ 6 := by simpa [rangeD] using hj
    obtain ⟨gs, hg, hgm, hgl⟩ : ∃ gs : List Nat, Pc.cutD (es.map D.ref) none (some 2) = gs.map D.ref ∧ (∀ g ∈ gs, g ∈ es) ∧ gs.length ≤ es.length := by
      unfold Pc.cutD
      rw [← List.map_drop, ← List.map_take]
      exact ⟨_, rfl, fun g hg => List.mem_of_mem_drop (List.mem_of_mem_take hg), by simp; omega⟩
    have sl : slM (.ref 2) none (some 2) w1 = .ok (.lst (gs.map D.ref)) w1 := by simp only [slM, hs, hg]
    have ad : addR (.ref 2) (.lst (gs.map D.ref)) w1 = .ok (.lst ((es ++ gs).map D.ref)) w1 := by
      simp only [addR, lstD, hs]
      rw [if_pos (szz _ (by simp; omega)), List.map_append]
    have hf : ∀ e ∈ es ++ gs, Entry w1 e := fun e hm => by
      rcases List.mem_append.mp hm with hm | hm
      · exact he e hm
      · exact he e (hgm e hm)
    try simp only [T_run, Then_nx, Then_rt, T_ret, T_drop, T_sif, T_next, T_asg, T_nm, T_gsub, T_setF, T_gtup, T_gtupK, T_gnil, T_gcons, T_C, T_V, T_bin, T_un, T_and, T_or, T_if, T_aNil, T_aCons, T_tup, T_lst, T_new, T_arg, T_meth, T_call, T_callK, T_make, T_fld, T_ch, T_val, T_tru, T_notT, T_andT, T_orT, T_tTrue, T_add, T_sub, T_mul, T_mod, T_fdiv, T_neg, T_lt, T_le, T_gt, T_ge, T_isN, T_isB, T_isNotN, T_isNotB, T_not, T_truB, T_truI, T_truN, T_ok, List.getElem?_cons_zero, List.getElem?_cons_succ, List.set_cons_zero, List.set_cons_succ, List.length_cons, List.length_nil, gAll, true_and, and_true, T_comp, T_iSeq, T_iArg, T_sl, T_oNone, T_oSome, T_for, T_addT, T_addL, T_itT, T_itL, T_ixT, T_ixL, T_ixK, T_atM, if_true, Bool.false_eq_true, if_false, Bool.not_true, Bool.not_false, Bool.true_eq_false, ite_true, ite_false, reduceCtorEq, sl0, sl1, sl2, sl3, sl4, sl5, sl6, sl7, sl8, sl9, sl10, sl11, sl12, exists_eq_left', Option.some.injEq, true_and, and_true, T_dct, T_dCons, T_dNil, lenT, lenL, lenK, eq_len, ne_len, T_iItems]
    rw [T_seq]
    simp only [sl, ad, T_run, Then_nx, Then_rt, T_ret, T_drop, T_sif, T_next, T_asg, T_nm, T_gsub, T_setF, T_gtup, T_gtupK, T_gnil, T_gcons, T_C, T_V, T_bin, T_un, T_and, T_or, T_if, T_aNil, T_aCons, T_tup, T_lst, T_new, T_arg, T_meth, T_call, T_callK, T_make, T_fld, T_ch, T_val, T_tru, T_notT, T_andT, T_orT, T_tTrue, T_add, T_sub, T_mul, T_mod, T_fdiv, T_neg, T_lt, T_le, T_gt, T_ge, T_isN, T_isB, T_isNotN, T_isNotB, T_not, T_truB, T_truI, T_truN, T_ok, List.getElem?_cons_zero, List.getElem?_cons_succ, List.set_cons_zero, List.set_cons_succ, List.length_cons, List.length_nil, gAll, true_and, and_true, T_comp, T_iSeq, T_iArg, T_sl, T_oNone, T_oSome, T_for, T_addT, T_addL, T_itT, T_itL, T_ixT, T_ixL, T_ixK, T_atM, if_true, Bool.false_eq_true, if_false, Bool.not_true, Bool.not_false, Bool.true_eq_false, ite_true, ite_false, reduceCtorEq, sl0, sl1, sl2, sl3, sl4, sl5, sl6, sl7, sl8, sl9, sl10, sl11, sl12, exists_eq_left', Option.some.injEq, true_and, and_true, T_dct, T_dCons, T_dNil, lenT, lenL, lenK, eq_len, ne_len, T_iItems]
    refine T_forI (it := ⟨(es ++ gs).map D.ref, always⟩) (fun j σ w' => (∀ e ∈ es ++ gs, Entry w' e) ∧ ∃ s4 s5 s6, σ = [some (.scr (ns.map D.int)), some (.ref 1), some (.ref 2), s3, s4, s5, s6]) (fun _ _ _ _ => trivial) ⟨hf, none, none, none, rfl⟩ (fun j x σ w2 hx hI => ?_) fun σ w2 hI => ?_
    · obtain ⟨hf2, s4, s5, s6, rfl⟩ := hI
      obtain ⟨i, hi, rfl⟩ := map_at hx
      obtain ⟨i3, m, h, hM, o⟩ := hf2 i (List.mem_of_getElem? hi)
      obtain ⟨b, hb, b0, b3⟩ := o.bears
      have ob := MoOk.b o
      rw [T_nm, T_seq]
      simp only [T_par, q_made, T_run, Then_nx, Then_rt, T_ret, T_drop, T_sif, T_next, T_asg, T_nm, T_gsub, T_setF, T_gtup, T_gtupK, T_gnil, T_gcons, T_C, T_V, T_bin, T_un, T_and, T_or, T_if, T_aNil, T_aCons, T_tup, T_lst, T_new, T_arg, T_meth, T_call, T_callK, T_make, T_fld, T_ch, T_val, T_tru, T_notT, T_andT, T_orT, T_tTrue, T_add, T_sub, T_mul, T_mod, T_fdiv, T_neg, T_lt, T_le, T_gt, T_ge, T_isN, T_isB, T_isNotN, T_isNotB, T_not, T_truB, T_truI, T_truN, T_ok, List.getElem?_cons_zero, List.getElem?_cons_succ, List.set_cons_zero, List.set_cons_succ, List.length_cons, List.length_nil, gAll, true_and, and_true, T_comp, T_iSeq, T_iArg, T_sl, T_oNone, T_oSome, T_for, T_addT, T_addL, T_itT, T_itL, T_ixT, T_ixL, T_ixK, T_atM, if_true, Bool.false_eq_true, if_false, Bool.not_true, Bool.not_false, Bool.true_eq_false, ite_true, ite_false, reduceCtorEq, sl0, sl1, sl2, sl3, sl4, sl5, sl6, sl7, sl8, sl9, sl10, sl11, sl12, exists_eq_left', Option.some.injEq, true_and, and_true, T_dct, T_dCons, T_dNil, lenT, lenL, lenK, eq_len, ne_len, T_iItems]
      refine T_made (lk k) (b := b) hM ob ⟨.inr hb, b0, b3⟩ fun p w3 lp hp l3 a3 => ?_
      have lM : i < w2.length := (List.getElem?_eq_some_iff.mp hM).1
      have hM3 : w3[i]? = some (.dK m.kvs) := by rw [a3 i lM]; exact hM
      try simp only [T_run, Then_nx, Then_rt, T_ret, T_drop, T_sif, T_next, T_asg, T_nm, T_gsub, T_setF, T_gtup, T_gtupK, T_gnil, T_gcons, T_C, T_V, T_bin, T_un, T_and, T_or, T_if, T_aNil, T_aCons, T_tup, T_lst, T_new, T_arg, T_meth, T_call, T_callK, T_make, T_fld, T_ch, T_val, T_tru, T_notT, T_andT, T_orT, T_tTrue, T_add, T_sub, T_mul, T_mod, T_fdiv, T_neg, T_lt, T_le, T_gt, T_ge, T_isN, T_isB, T_isNotN, T_isNotB, T_not, T_truB, T_truI, T_truN, T_ok, List.getElem?_cons_zero, List.getElem?_cons_succ, List.set_cons_zero, List.set_cons_succ, List.length_cons, List.length_nil, gAll, true_and, and_true, T_comp, T_iSeq, T_iArg, T_sl, T_oNone, T_oSome, T_for, T_addT, T_addL, T_itT, T_itL, T_ixT, T_ixL, T_ixK, T_atM, if_true, Bool.false_eq_true, if_false, Bool.not_true, Bool.not_false, Bool.true_eq_false, ite_true, ite_false, reduceCtorEq, sl0, sl1, sl2, sl3, sl4, sl5, sl6, sl7, sl8, sl9, sl10, sl11, sl12, exists_eq_left', Option.some.injEq, true_and, and_true, T_dct, T_dCons, T_dNil, lenT, lenL, lenK, eq_len, ne_len, T_iItems]
      refine t_due k hM3 ob hb b0 b3 fun w4 l4 a4 => ?_
      have lP : p < w3.length := (List.getElem?_eq_some_iff.mp hp).1
      have hp4 : PlanAt (lk k) w4 p m b := by
        unfold PlanAt
        rw [a4 p lP]; exact hp
      obtain ⟨q, py, fit⟩ := (st_fit ob (first_ok ob b0 b3) (first_small ob b0 b3)).fit (by omega) (by omega)
      rw [Lb.t_repr (py _) fit]
      try simp only [T_run, Then_nx, Then_rt, T_ret, T_drop, T_sif, T_next, T_asg, T_nm, T_gsub, T_setF, T_gtup, T_gtupK, T_gnil, T_gcons, T_C, T_V, T_bin, T_un, T_and, T_or, T_if, T_aNil, T_aCons, T_tup, T_lst, T_new, T_arg, T_meth, T_call, T_callK, T_make, T_fld, T_ch, T_val, T_tru, T_notT, T_andT, T_orT, T_tTrue, T_add, T_sub, T_mul, T_mod, T_fdiv, T_neg, T_lt, T_le, T_gt, T_ge, T_isN, T_isB, T_isNotN, T_isNotB, T_not, T_truB, T_truI, T_truN, T_ok, List.getElem?_cons_zero, List.getElem?_cons_succ, List.set_cons_zero, List.set_cons_succ, List.length_cons, List.length_nil, gAll, true_and, and_true, T_comp, T_iSeq, T_iArg, T_sl, T_oNone, T_oSome, T_for, T_addT, T_addL, T_itT, T_itL, T_ixT, T_ixL, T_ixK, T_atM, if_true, Bool.false_eq_true, if_false, Bool.not_true, Bool.not_false, Bool.true_eq_false, ite_true, ite_false, reduceCtorEq, sl0, sl1, sl2, sl3, sl4, sl5, sl6, sl7, sl8, sl9, sl10, sl11, sl12, exists_eq_left', Option.some.injEq, true_and, and_true, T_dct, T_dCons, T_dNil, lenT, lenL, lenK, eq_len, ne_len, T_iItems]
      rw [T_seq]
      simp only [q_first, T_run, Then_nx, Then_rt, T_ret, T_drop, T_sif, T_next, T_asg, T_nm, T_gsub, T_setF, T_gtup, T_gtupK, T_gnil, T_gcons, T_C, T_V, T_bin, T_un, T_and, T_or, T_if, T_aNil, T_aCons, T_tup, T_lst, T_new, T_arg, T_meth, T_call, T_callK, T_make, T_fld, T_ch, T_val, T_tru, T_notT, T_andT, T_orT, T_tTrue, T_add, T_sub, T_mul, T_mod, T_fdiv, T_neg, T_lt, T_le, T_gt, T_ge, T_isN, T_isB, T_isNotN, T_isNotB, T_not, T_truB, T_truI, T_truN, T_ok, List.getElem?_cons_zero, List.getElem?_cons_succ, List.set_cons_zero, List.set_cons_succ, List.length_cons, List.length_nil, gAll, true_and, and_true, T_comp, T_iSeq, T_iArg, T_sl, T_oNone, T_oSome, T_for, T_addT, T_addL, T_itT, T_itL, T_ixT, T_ixL, T_ixK, T_atM, if_true, Bool.false_eq_true, if_false, Bool.not_true, Bool.not_false, Bool.true_eq_false, ite_true, ite_false, reduceCtorEq, sl0, sl1, sl2, sl3, sl4, sl5, sl6, sl7, sl8, sl9, sl10, sl11, sl12, exists_eq_left', Option.some.injEq, true_and, and_true, T_dct, T_dCons, T_dNil, lenT, lenL, lenK, eq_len, ne_len, T_iItems]
      refine t_first hp4 ob ?_
      rw [Lb.t_repr (py _) fit]
      simp only [ne_shown fit fit, decide_true, gf, T_run, Then_nx, Then_rt, T_ret, T_drop, T_sif, T_next, T_asg, T_nm, T_gsub, T_setF, T_gtup, T_gtupK, T_gnil, T_gcons, T_C, T_V, T_bin, T_un, T_and, T_or, T_if, T_aNil, T_aCons, T_tup, T_lst, T_new, T_arg, T_meth, T_call, T_callK, T_make, T_fld, T_ch, T_val, T_tru, T_notT, T_andT, T_orT, T_tTrue, T_add, T_sub, T_mul, T_mod, T_fdiv, T_neg, T_lt, T_le, T_gt, T_ge, T_isN, T_isB, T_isNotN, T_isNotB, T_not, T_truB, T_truI, T_truN, T_ok, List.getElem?_cons_zero, List.getElem?_cons_succ, List.set_cons_zero, List.set_cons_succ, List.length_cons, List.length_nil, gAll, true_and, and_true, T_comp, T_iSeq, T_iArg, T_sl, T_oNone, T_oSome, T_for, T_addT, T_addL, T_itT, T_itL, T_ixT, T_ixL, T_ixK, T_atM, if_true, Bool.false_eq_true, if_false, Bool.not_true, Bool.not_false, Bool.true_eq_false, ite_true, ite_false, reduceCtorEq, sl0, sl1, sl2, sl3, sl4, sl5, sl6, sl7, sl8, sl9, sl10, sl11, sl12, exists_eq_left', Option.some.injEq, true_and, and_true, T_dct, T_dCons, T_dNil, lenT, lenL, lenK, eq_len, ne_len, T_iItems]
      refine t_first hp4 ob ?_
      rw [Lb.t_repr (py _) fit]
      simp only [ne_shown fit fit, decide_true, T_run, Then_nx, Then_rt, T_ret, T_drop, T_sif, T_next, T_asg, T_nm, T_gsub, T_setF, T_gtup, T_gtupK, T_gnil, T_gcons, T_C, T_V, T_bin, T_un, T_and, T_or, T_if, T_aNil, T_aCons, T_tup, T_lst, T_new, T_arg, T_meth, T_call, T_callK, T_make, T_fld, T_ch, T_val, T_tru, T_notT, T_andT, T_orT, T_tTrue, T_add, T_sub, T_mul, T_mod, T_fdiv, T_neg, T_lt, T_le, T_gt, T_ge, T_isN, T_isB, T_isNotN, T_isNotB, T_not, T_truB, T_truI, T_truN, T_ok, List.getElem?_cons_zero, List.getElem?_cons_succ, List.set_cons_zero, List.set_cons_succ, List.length_cons, List.length_nil, gAll, true_and, and_true, T_comp, T_iSeq, T_iArg, T_sl, T_oNone, T_oSome, T_for, T_addT, T_addL, T_itT, T_itL, T_ixT, T_ixL, T_ixK, T_atM, if_true, Bool.false_eq_true, if_false, Bool.not_true, Bool.not_false, Bool.true_eq_false, ite_true, ite_false, reduceCtorEq, sl0, sl1, sl2, sl3, sl4, sl5, sl6, sl7, sl8, sl9, sl10, sl11, sl12, exists_eq_left', Option.some.injEq, true_and, and_true, T_dct, T_dCons, T_dNil, lenT, lenL, lenK, eq_len, ne_len, T_iItems]
      refine t_first hp4 ob ?_
      simp only [q_state, T_run, Then_nx, Then_rt, T_ret, T_drop, T_sif, T_next, T_asg, T_nm, T_gsub, T_setF, T_gtup, T_gtupK, T_gnil, T_gcons, T_C, T_V, T_bin, T_un, T_and, T_or, T_if, T_aNil, T_aCons, T_tup, T_lst, T_new, T_arg, T_meth, T_call, T_callK, T_make, T_fld, T_ch, T_val, T_tru, T_notT, T_andT, T_orT, T_tTrue, T_add, T_sub, T_mul, T_mod, T_fdiv, T_neg, T_lt, T_le, T_gt, T_ge, T_isN, T_isB, T_isNotN, T_isNotB, T_not, T_truB, T_truI, T_truN, T_ok, List.getElem?_cons_zero, List.getElem?_cons_succ, List.set_cons_zero, List.set_cons_succ, List.length_cons, List.length_nil, gAll, true_and, and_true, T_comp, T_iSeq, T_iArg, T_sl, T_oNone, T_oSome, T_for, T_addT, T_addL, T_itT, T_itL, T_ixT, T_ixL, T_ixK, T_atM, if_true, Bool.false_eq_true, if_false, Bool.not_true, Bool.not_false, Bool.true_eq_false, ite_true, ite_false, reduceCtorEq, sl0, sl1, sl2, sl3, sl4, sl5, sl6, sl7, sl8, sl9, sl10, sl11, sl12, exists_eq_left', Option.some.injEq, true_and, and_true, T_dct, T_dCons, T_dNil, lenT, lenL, lenK, eq_len, ne_len, T_iItems]
      refine t_is_state hp4 ob (first_ok ob b0 b3) ?_
      simp only [decide_true, T_run, Then_nx, Then_rt, T_ret, T_drop, T_sif, T_next, T_asg, T_nm, T_gsub, T_setF, T_gtup, T_gtupK, T_gnil, T_gcons, T_C, T_V, T_bin, T_un, T_and, T_or, T_if, T_aNil, T_aCons, T_tup, T_lst, T_new, T_arg, T_meth, T_call, T_callK, T_make, T_fld, T_ch, T_val, T_tru, T_notT, T_andT, T_orT, T_tTrue, T_add, T_sub, T_mul, T_mod, T_fdiv, T_neg, T_lt, T_le, T_gt, T_ge, T_isN, T_isB, T_isNotN, T_isNotB, T_not, T_truB, T_truI, T_truN, T_ok, List.getElem?_cons_zero, List.getElem?_cons_succ, List.set_cons_zero, List.set_cons_succ, List.length_cons, List.length_nil, gAll, true_and, and_true, T_comp, T_iSeq, T_iArg, T_sl, T_oNone, T_oSome, T_for, T_addT, T_addL, T_itT, T_itL, T_ixT, T_ixL, T_ixK, T_atM, if_true, Bool.false_eq_true, if_false, Bool.not_true, Bool.not_false, Bool.true_eq_false, ite_true, ite_false, reduceCtorEq, sl0, sl1, sl2, sl3, sl4, sl5, sl6, sl7, sl8, sl9, sl10, sl11, sl12, exists_eq_left', Option.some.injEq, true_and, and_true, T_dct, T_dCons, T_dNil, lenT, lenL, lenK, eq_len, ne_len, T_iItems]
      rw [Turn_nx]
      exact ⟨fun e hm => (hf2 e hm).keep fun x h3 hx => by rw [a4 x (by omega), a3 x hx], _, _, _, rfl⟩
    · obtain ⟨hf2, s4, s5, s6, rfl⟩ := hI
      try simp only [T_run, Then_nx, Then_rt, T_ret, T_drop, T_sif, T_next, T_asg, T_nm, T_gsub, T_setF, T_gtup, T_gtupK, T_gnil, T_gcons, T_C, T_V, T_bin, T_un, T_and, T_or, T_if, T_aNil, T_aCons, T_tup, T_lst, T_new, T_arg, T_meth, T_call, T_callK, T_make, T_fld, T_ch, T_val, T_tru, T_notT, T_andT, T_orT, T_tTrue, T_add, T_sub, T_mul, T_mod, T_fdiv, T_neg, T_lt, T_le, T_gt, T_ge, T_isN, T_isB, T_isNotN, T_isNotB, T_not, T_truB, T_truI, T_truN, T_ok, List.getElem?_cons_zero, List.getElem?_cons_succ, List.set_cons_zero, List.set_cons_succ, List.length_cons, List.length_nil, gAll, true_and, and_true, T_comp, T_iSeq, T_iArg, T_sl, T_oNone, T_oSome, T_for, T_addT, T_addL, T_itT, T_itL, T_ixT, T_ixL, T_ixK, T_atM, if_true, Bool.false_eq_true, if_false, Bool.not_true, Bool.not_false, Bool.true_eq_false, ite_true, ite_false, reduceCtorEq, sl0, sl1, sl2, sl3, sl4, sl5, sl6, sl7, sl8, sl9, sl10, sl11, sl12, exists_eq_left', Option.some.injEq, true_and, and_true, T_dct, T_dCons, T_dNil, lenT, lenL, lenK, eq_len, ne_len, T_iItems]
      exact hP _
end
theorem K12_good (k : K12.Ads) (ns : List Int) (h : ns.length ≤ 63) : ∃ w', K12.m_law k [.scr (ns.map Pc.D.int)] [] = .ok (.bl true) w' := by
  obtain ⟨a, w, e, p⟩ := (good k (P := fun d _ => d = .bl true) ns h fun _ => rfl).ex
  exact ⟨w, by rw [e, p]⟩
end K12

set_option Elab.async false
set_option linter.all false
set_option maxRecDepth 100000
set_option maxHeartbeats 4000000
set_option autoImplicit false

set_option maxHeartbeats 0
namespace K12H
open PySem PySem.Spec PyProof.Rows L2 Pc K12
def e__law_deck : He.DefD := ⟨("_law_deck", none), "_law_deck", "_law_deck", defArgs (top 45), defBody (top 45), defScope (top 45), [], []⟩
def e__law_draw : He.DefD := ⟨("_law_draw", none), "_law_draw", "_law_draw", defArgs (top 46), defBody (top 46), defScope (top 46), [], []⟩
def e__law_wait : He.DefD := ⟨("_law_wait", none), "_law_wait", "_law_wait", defArgs (top 50), defBody (top 50), defScope (top 50), [], []⟩
def e__law_due : He.DefD := ⟨("_law_due", none), "_law_due", "_law_due", defArgs (top 52), defBody (top 52), defScope (top 52), [], []⟩
def e__law_great : He.DefD := ⟨("_law_great", none), "_law_great", "_law_great", defArgs (top 51), defBody (top 51), defScope (top 51), [], []⟩
def e_is_whole : He.DefD := ⟨("is_whole", none), "is_whole", "is_whole", defArgs (top 16), defBody (top 16), defScope (top 16), [], []⟩
def e_is_within : He.DefD := ⟨("is_within", none), "is_within", "is_within", defArgs (top 17), defBody (top 17), defScope (top 17), [], []⟩
def e_are_ranks : He.DefD := ⟨("are_ranks", none), "are_ranks", "are_ranks", defArgs (top 18), defBody (top 18), defScope (top 18), [], []⟩
def e_is_tie : He.DefD := ⟨("is_tie", none), "is_tie", "is_tie", defArgs (top 19), defBody (top 19), defScope (top 19), [], []⟩
def e_are_ties : He.DefD := ⟨("are_ties", none), "are_ties", "are_ties", defArgs (top 20), defBody (top 20), defScope (top 20), [], []⟩
def e_is_field : He.DefD := ⟨("is_field", none), "is_field", "is_field", defArgs (top 21), defBody (top 21), defScope (top 21), [], []⟩
def e_Plan_init : He.DefD := ⟨("Plan", some "__init__"), "__init__", "Plan.__init__", defArgs (inClass (top 23) 0), defBody (inClass (top 23) 0), defScope (inClass (top 23) 0), [], [(("every" : Str), (.int 1)), (("lost" : Str), (.int 1)), (("slow" : Str), (.int 1)), (("bears" : Str), .non), (("gap" : Str), (.int 1)), (("hold" : Str), (.int 0)), (("takes" : Str), (.bl true)), (("ties" : Str), (.adr (Pc.kwAt ("Plan", some "__init__") "ties"))), (("hosts" : Str), (.int 0))]⟩
def e__law_made : He.DefD := ⟨("_law_made", none), "_law_made", "_law_made", defArgs (top 49), defBody (top 49), defScope (top 49), [], []⟩
def e__law_pick : He.DefD := ⟨("_law_pick", none), "_law_pick", "_law_pick", defArgs (top 47), defBody (top 47), defScope (top 47), [], []⟩
def e__law_model : He.DefD := ⟨("_law_model", none), "_law_model", "_law_model", defArgs (top 48), defBody (top 48), defScope (top 48), [], []⟩
def e_Plan_len : He.DefD := ⟨("Plan", some "__len__"), "__len__", "Plan.__len__", defArgs (inClass (top 23) 2), defBody (inClass (top 23) 2), defScope (inClass (top 23) 2), [], []⟩
def e_heard_within : He.DefD := ⟨("heard_within", none), "heard_within", "heard_within", defArgs (top 25), defBody (top 25), defScope (top 25), [], []⟩
def e_wait_of : He.DefD := ⟨("wait_of", none), "wait_of", "wait_of", defArgs (top 26), defBody (top 26), defScope (top 26), [], []⟩
def e_first_state : He.DefD := ⟨("first_state", none), "first_state", "first_state", defArgs (top 34), defBody (top 34), defScope (top 34), [], []⟩
def e_are_within : He.DefD := ⟨("are_within", none), "are_within", "are_within", defArgs (top 35), defBody (top 35), defScope (top 35), [], []⟩
def e_is_table : He.DefD := ⟨("is_table", none), "is_table", "is_table", defArgs (top 36), defBody (top 36), defScope (top 36), [], []⟩
def e_are_asks : He.DefD := ⟨("are_asks", none), "are_asks", "are_asks", defArgs (top 42), defBody (top 42), defScope (top 42), [], []⟩
def e_are_downs : He.DefD := ⟨("are_downs", none), "are_downs", "are_downs", defArgs (top 37), defBody (top 37), defScope (top 37), [], []⟩
def e_are_lacks : He.DefD := ⟨("are_lacks", none), "are_lacks", "are_lacks", defArgs (top 41), defBody (top 41), defScope (top 41), [], []⟩
def e_is_stand : He.DefD := ⟨("is_stand", none), "is_stand", "is_stand", defArgs (top 38), defBody (top 38), defScope (top 38), [], []⟩
def e_are_stands : He.DefD := ⟨("are_stands", none), "are_stands", "are_stands", defArgs (top 39), defBody (top 39), defScope (top 39), [], []⟩
def e_is_letter : He.DefD := ⟨("is_letter", none), "is_letter", "is_letter", defArgs (top 40), defBody (top 40), defScope (top 40), [], []⟩
def e_is_state : He.DefD := ⟨("is_state", none), "is_state", "is_state", defArgs (top 43), defBody (top 43), defScope (top 43), [], []⟩
def e_law : He.DefD := ⟨("law", none), "law", "law", defArgs (top 53), defBody (top 53), defScope (top 53), [], []⟩
def fn : List He.DefD := [e__law_deck, e__law_draw, e__law_wait, e__law_due, e__law_great, e_is_whole, e_is_within, e_are_ranks, e_is_tie, e_are_ties, e_is_field, e_Plan_init, e__law_made, e__law_pick, e__law_model, e_Plan_len, e_heard_within, e_wait_of, e_first_state, e_are_within, e_is_table, e_are_asks, e_are_downs, e_are_lacks, e_is_stand, e_are_stands, e_is_letter, e_is_state, e_law]
def fa : List He.Fa := [.free "all", .free "bool", .free "dict", .free "enumerate", .free "int", .free "isinstance", .free "len", .free "list", .free "range", .free "repr", .free "sorted", .free "str", .free "sum", .free "tuple", .free "zip", .glo "_law_deck", .glo "_law_draw", .glo "_law_wait", .glo "_law_due", .glo "_law_great", .glo "is_whole", .glo "is_within", .glo "are_ranks", .glo "is_tie", .glo "are_ties", .glo "is_field", .glo "_law_made", .glo "_law_pick", .glo "_law_model", .glo "heard_within", .glo "wait_of", .glo "first_state", .glo "are_within", .glo "is_table", .glo "are_asks", .glo "are_downs", .glo "are_lacks", .glo "is_stand", .glo "are_stands", .glo "is_letter", .glo "is_state", .glo "law", .glo "NUMBERS", .glo "Plan", .cls "Plan", .meth "Plan" "__len__", .noat "Plan" "bears", .noat "Plan" "every", .noat "Plan" "gap", .noat "Plan" "hold", .noat "Plan" "hosts", .noat "Plan" "lost", .noat "Plan" "ranks", .noat "Plan" "slow", .noat "Plan" "takes", .noat "Plan" "ties", .mkr "Plan"]
def ts : List He.Tab := [((fun K => He.ga K "NUMBERS"), [("every" : Str), ("lost" : Str), ("slow" : Str), ("bears" : Str), ("gap" : Str), ("hold" : Str), ("hosts" : Str)])]
def exl (K : PySem.W.Frag) : List Bool := [gloB K "FAR" (.int 1000000000000000000000000000000000000000000000000000000000000), gloB K "LETTER" (.int 5), gloB K "MOST_ADDRESSES" (.int 4), gloB K "MOST_HOUSES" (.int 6), gloB K "MOST_LESS" (.int 11), gloB K "MOST_TIE" (.int 9), gloB K "MOST_TIES" (.int 6), gloB K "RESTS" (.str ("rests" : Str)), gloB K "SERVES" (.str ("serves" : Str)), gloB K "TOP" (.int 12), gloB K "WAITS" (.str ("waits" : Str)), gloB K "WORDS" (.int 9), ktabB K (He.ga K "NUMBERS") tab_NUMBERS]
def ex (K : PySem.W.Frag) : Bool := (exl K).all id
theorem ex_at {K : PySem.W.Frag} (h : ex K = true) (i : Nat) {b : Bool} (hi : (exl K)[i]? = some b) : b = true := by
  unfold ex at h
  rw [List.all_eq_true] at h
  exact h b (List.mem_of_getElem? hi)
def loose : List PySem.Str := (["EVERY", "LOST", "SLOW", "GAP", "HOLD", "TOP", "NetError", "NoPlan", "MOST_ADDRESSES", "MOST_HOUSES", "MOST_TIES", "MOST_TIE", "MOST_LESS", "NUMBERS", "is_whole", "is_within", "are_ranks", "is_tie", "are_ties", "is_field", "in_words", "Plan", "heard_within", "wait_of", "RESTS", "WAITS", "SERVES", "WORDS", "LETTER", "FAR"] : List PySem.Str) ++ (["first_state", "are_within", "is_table", "are_downs", "is_stand", "are_stands", "is_letter", "are_lacks", "are_asks", "is_state", "_law_deck", "_law_draw", "_law_pick", "_law_model", "_law_made", "_law_wait", "_law_great", "_law_due"] : List PySem.Str)
abbrev R : PySem.W.OpenRow := PySem.W.OpenLaw.row PySem.Challenge.rw_onemaster_k12_first_states
abbrev hk : PySem.W.Hook := He.hookX 4 fa fn ts [] ex
def ob (s : PySem.W.SharedT) : He.AlX := He.obsX 4 fa fn ts [] ex (HandSHeadRun.getT s)
theorem ob_eq (s : PySem.W.SharedT) : ob s = hk.obs s.abs := He.obsX_eq (HandSHeadRun.getT_eq s)
theorem run_false (w : World) : HandSHeadRun.RunEq R (PySem.W.view R.prog [53]) hk ob 8000 loose (w.withFollow "special-get-raises" false) := by
  intro os
  kernel_rfl
theorem run_true (w : World) : HandSHeadRun.RunEq R (PySem.W.view R.prog [53]) hk ob 8000 loose (w.withFollow "special-get-raises" true) := by
  intro os
  kernel_rfl
theorem run (w : World) : HandSHeadRun.RunEq R (PySem.W.view R.prog [53]) hk ob 8000 loose w := PySem.W.byRow2 "special-get-raises" (P := fun w => HandSHeadRun.RunEq R (PySem.W.view R.prog [53]) hk ob 8000 loose w) run_false run_true w
abbrev St (w : World) (K : PySem.W.Frag) (mg : Str → Option Value) (base : Heap) : Stat := ⟨PySem.Challenge.pw_onemaster_k12_first_states, w, K, mg, base, 0, [], defScope (top 53), fun _ => true⟩
theorem facts {w : World} {K : PySem.W.Frag} {h : Heap} {mg : Str → Option Value} (X : K.In h) (G : h.Ns mainGlobals mg) (c : He.SaysX fa fn ts [] ex w h K) :
    ∃ (d : FuncData) (kk : Ads), (FunD K ("law" : Str) ("law" : Str) (defArgs (top 53)) (defBody (top 53)) (defScope (top 53)) [] [] (He.ga K "law") d) ∧ ∀ base, ∃ x : Fx (St w K mg base), x.k = kk ∧ x.a_law = He.ga K "law" ∧ x.d_law = d := by
  obtain ⟨d0, F0⟩ := c.t.d.def_ 0 (d := e__law_deck) rfl
  obtain ⟨d1, F1⟩ := c.t.d.def_ 1 (d := e__law_draw) rfl
  obtain ⟨d2, F2⟩ := c.t.d.def_ 2 (d := e__law_wait) rfl
  obtain ⟨d3, F3⟩ := c.t.d.def_ 3 (d := e__law_due) rfl
  obtain ⟨d4, F4⟩ := c.t.d.def_ 4 (d := e__law_great) rfl
  obtain ⟨d5, F5⟩ := c.t.d.def_ 5 (d := e_is_whole) rfl
  obtain ⟨d6, F6⟩ := c.t.d.def_ 6 (d := e_is_within) rfl
  obtain ⟨d7, F7⟩ := c.t.d.def_ 7 (d := e_are_ranks) rfl
  obtain ⟨d8, F8⟩ := c.t.d.def_ 8 (d := e_is_tie) rfl
  obtain ⟨d9, F9⟩ := c.t.d.def_ 9 (d := e_are_ties) rfl
  obtain ⟨d10, F10⟩ := c.t.d.def_ 10 (d := e_is_field) rfl
  obtain ⟨d11, F11⟩ := c.t.d.def_ 11 (d := e_Plan_init) rfl
  obtain ⟨d12, F12⟩ := c.t.d.def_ 12 (d := e__law_made) rfl
  obtain ⟨d13, F13⟩ := c.t.d.def_ 13 (d := e__law_pick) rfl
  obtain ⟨d14, F14⟩ := c.t.d.def_ 14 (d := e__law_model) rfl
  obtain ⟨d15, F15⟩ := c.t.d.def_ 15 (d := e_Plan_len) rfl
  obtain ⟨d16, F16⟩ := c.t.d.def_ 16 (d := e_heard_within) rfl
  obtain ⟨d17, F17⟩ := c.t.d.def_ 17 (d := e_wait_of) rfl
  obtain ⟨d18, F18⟩ := c.t.d.def_ 18 (d := e_first_state) rfl
  obtain ⟨d19, F19⟩ := c.t.d.def_ 19 (d := e_are_within) rfl
  obtain ⟨d20, F20⟩ := c.t.d.def_ 20 (d := e_is_table) rfl
  obtain ⟨d21, F21⟩ := c.t.d.def_ 21 (d := e_are_asks) rfl
  obtain ⟨d22, F22⟩ := c.t.d.def_ 22 (d := e_are_downs) rfl
  obtain ⟨d23, F23⟩ := c.t.d.def_ 23 (d := e_are_lacks) rfl
  obtain ⟨d24, F24⟩ := c.t.d.def_ 24 (d := e_is_stand) rfl
  obtain ⟨d25, F25⟩ := c.t.d.def_ 25 (d := e_are_stands) rfl
  obtain ⟨d26, F26⟩ := c.t.d.def_ 26 (d := e_is_letter) rfl
  obtain ⟨d27, F27⟩ := c.t.d.def_ 27 (d := e_is_state) rfl
  obtain ⟨d28, F28⟩ := c.t.d.def_ 28 (d := e_law) rfl
  refine ⟨d28, { C_Plan := He.ga K "Plan", t_NUMBERS := He.ga K "NUMBERS", w_Plan_init_ties := kwAt ("Plan", some "__init__") "ties" K }, F28, fun base => ⟨{
    k := { C_Plan := He.ga K "Plan", t_NUMBERS := He.ga K "NUMBERS", w_Plan_init_ties := kwAt ("Plan", some "__init__") "ties" K },
    f_all := He.free_ok X G (c.t.d.fact 0 (f := .free "all") rfl),
    f_bool := He.free_ok X G (c.t.d.fact 1 (f := .free "bool") rfl),
    f_dict := He.free_ok X G (c.t.d.fact 2 (f := .free "dict") rfl),
    f_enumerate := He.free_ok X G (c.t.d.fact 3 (f := .free "enumerate") rfl),
    f_int := He.free_ok X G (c.t.d.fact 4 (f := .free "int") rfl),
    f_isinstance := He.free_ok X G (c.t.d.fact 5 (f := .free "isinstance") rfl),
    f_len := He.free_ok X G (c.t.d.fact 6 (f := .free "len") rfl),
    f_list := He.free_ok X G (c.t.d.fact 7 (f := .free "list") rfl),
    f_range := He.free_ok X G (c.t.d.fact 8 (f := .free "range") rfl),
    f_repr := He.free_ok X G (c.t.d.fact 9 (f := .free "repr") rfl),
    f_sorted := He.free_ok X G (c.t.d.fact 10 (f := .free "sorted") rfl),
    f_str := He.free_ok X G (c.t.d.fact 11 (f := .free "str") rfl),
    f_sum := He.free_ok X G (c.t.d.fact 12 (f := .free "sum") rfl),
    f_tuple := He.free_ok X G (c.t.d.fact 13 (f := .free "tuple") rfl),
    f_zip := He.free_ok X G (c.t.d.fact 14 (f := .free "zip") rfl),
    c_FAR := gloB_ok X G (ex_at c.more 0 rfl),
    c_LETTER := gloB_ok X G (ex_at c.more 1 rfl),
    c_MOST_ADDRESSES := gloB_ok X G (ex_at c.more 2 rfl),
    c_MOST_HOUSES := gloB_ok X G (ex_at c.more 3 rfl),
    c_MOST_LESS := gloB_ok X G (ex_at c.more 4 rfl),
    c_MOST_TIE := gloB_ok X G (ex_at c.more 5 rfl),
    c_MOST_TIES := gloB_ok X G (ex_at c.more 6 rfl),
    c_RESTS := gloB_ok X G (ex_at c.more 7 rfl),
    c_SERVES := gloB_ok X G (ex_at c.more 8 rfl),
    c_TOP := gloB_ok X G (ex_at c.more 9 rfl),
    c_WAITS := gloB_ok X G (ex_at c.more 10 rfl),
    c_WORDS := gloB_ok X G (ex_at c.more 11 rfl),
    c_NUMBERS := ⟨.ref _, .ref _, He.glo_ok X G (c.t.d.fact 42 (f := .glo "NUMBERS") rfl), rfl, fun _ _ => by simp [RepV]⟩,
    T_NUMBERS := ktabB_ok (c.t.tab 0 rfl) (ex_at c.more 12 rfl),
    gc_Plan := He.glo_ok X G (c.t.d.fact 43 (f := .glo "Plan") rfl),
    y_Plan := ⟨.ref _, .ref _, He.glo_ok X G (c.t.d.fact 43 (f := .glo "Plan") rfl), rfl, fun _ _ => by simp [RepV]⟩,
    k_Plan := He.cls_ok (c.t.d.fact 44 (f := .cls "Plan") rfl),
    n_Plan_bears := He.noat_ok (c.t.d.fact 46 (f := .noat "Plan" "bears") rfl),
    n_Plan_every := He.noat_ok (c.t.d.fact 47 (f := .noat "Plan" "every") rfl),
    n_Plan_gap := He.noat_ok (c.t.d.fact 48 (f := .noat "Plan" "gap") rfl),
    n_Plan_hold := He.noat_ok (c.t.d.fact 49 (f := .noat "Plan" "hold") rfl),
    n_Plan_hosts := He.noat_ok (c.t.d.fact 50 (f := .noat "Plan" "hosts") rfl),
    n_Plan_lost := He.noat_ok (c.t.d.fact 51 (f := .noat "Plan" "lost") rfl),
    n_Plan_ranks := He.noat_ok (c.t.d.fact 52 (f := .noat "Plan" "ranks") rfl),
    n_Plan_slow := He.noat_ok (c.t.d.fact 53 (f := .noat "Plan" "slow") rfl),
    n_Plan_takes := He.noat_ok (c.t.d.fact 54 (f := .noat "Plan" "takes") rfl),
    n_Plan_ties := He.noat_ok (c.t.d.fact 55 (f := .noat "Plan" "ties") rfl),
    a__law_deck := He.fAd K e__law_deck.at_,
    d__law_deck := d0,
    F__law_deck := F0,
    g__law_deck := He.glo_ok X G (c.t.d.fact 15 (f := .glo "_law_deck") rfl),
    kp__law_deck := F0.kp,
    a__law_draw := He.fAd K e__law_draw.at_,
    d__law_draw := d1,
    F__law_draw := F1,
    g__law_draw := He.glo_ok X G (c.t.d.fact 16 (f := .glo "_law_draw") rfl),
    kp__law_draw := F1.kp,
    a__law_wait := He.fAd K e__law_wait.at_,
    d__law_wait := d2,
    F__law_wait := F2,
    g__law_wait := He.glo_ok X G (c.t.d.fact 17 (f := .glo "_law_wait") rfl),
    kp__law_wait := F2.kp,
    a__law_due := He.fAd K e__law_due.at_,
    d__law_due := d3,
    F__law_due := F3,
    g__law_due := He.glo_ok X G (c.t.d.fact 18 (f := .glo "_law_due") rfl),
    kp__law_due := F3.kp,
    a__law_great := He.fAd K e__law_great.at_,
    d__law_great := d4,
    F__law_great := F4,
    g__law_great := He.glo_ok X G (c.t.d.fact 19 (f := .glo "_law_great") rfl),
    kp__law_great := F4.kp,
    a_is_whole := He.fAd K e_is_whole.at_,
    d_is_whole := d5,
    F_is_whole := F5,
    g_is_whole := He.glo_ok X G (c.t.d.fact 20 (f := .glo "is_whole") rfl),
    kp_is_whole := F5.kp,
    a_is_within := He.fAd K e_is_within.at_,
    d_is_within := d6,
    F_is_within := F6,
    g_is_within := He.glo_ok X G (c.t.d.fact 21 (f := .glo "is_within") rfl),
    kp_is_within := F6.kp,
    a_are_ranks := He.fAd K e_are_ranks.at_,
    d_are_ranks := d7,
    F_are_ranks := F7,
    g_are_ranks := He.glo_ok X G (c.t.d.fact 22 (f := .glo "are_ranks") rfl),
    kp_are_ranks := F7.kp,
    a_is_tie := He.fAd K e_is_tie.at_,
    d_is_tie := d8,
    F_is_tie := F8,
    g_is_tie := He.glo_ok X G (c.t.d.fact 23 (f := .glo "is_tie") rfl),
    kp_is_tie := F8.kp,
    a_are_ties := He.fAd K e_are_ties.at_,
    d_are_ties := d9,
    F_are_ties := F9,
    g_are_ties := He.glo_ok X G (c.t.d.fact 24 (f := .glo "are_ties") rfl),
    kp_are_ties := F9.kp,
    a_is_field := He.fAd K e_is_field.at_,
    d_is_field := d10,
    F_is_field := F10,
    g_is_field := He.glo_ok X G (c.t.d.fact 25 (f := .glo "is_field") rfl),
    kp_is_field := F10.kp,
    a_Plan_init := He.fAd K e_Plan_init.at_,
    d_Plan_init := d11,
    F_Plan_init := F11,
    M_Plan := He.mkr_ok (c.t.d.fact 56 (f := .mkr "Plan") rfl),
    a__law_made := He.fAd K e__law_made.at_,
    d__law_made := d12,
    F__law_made := F12,
    g__law_made := He.glo_ok X G (c.t.d.fact 26 (f := .glo "_law_made") rfl),
    kp__law_made := F12.kp,
    a__law_pick := He.fAd K e__law_pick.at_,
    d__law_pick := d13,
    F__law_pick := F13,
    g__law_pick := He.glo_ok X G (c.t.d.fact 27 (f := .glo "_law_pick") rfl),
    kp__law_pick := F13.kp,
    a__law_model := He.fAd K e__law_model.at_,
    d__law_model := d14,
    F__law_model := F14,
    g__law_model := He.glo_ok X G (c.t.d.fact 28 (f := .glo "_law_model") rfl),
    kp__law_model := F14.kp,
    a_Plan_len := He.fAd K e_Plan_len.at_,
    d_Plan_len := d15,
    F_Plan_len := F15,
    L_Plan_len := He.meth_ok (c.t.d.fact 45 (f := .meth "Plan" "__len__") rfl),
    a_heard_within := He.fAd K e_heard_within.at_,
    d_heard_within := d16,
    F_heard_within := F16,
    g_heard_within := He.glo_ok X G (c.t.d.fact 29 (f := .glo "heard_within") rfl),
    kp_heard_within := F16.kp,
    a_wait_of := He.fAd K e_wait_of.at_,
    d_wait_of := d17,
    F_wait_of := F17,
    g_wait_of := He.glo_ok X G (c.t.d.fact 30 (f := .glo "wait_of") rfl),
    kp_wait_of := F17.kp,
    a_first_state := He.fAd K e_first_state.at_,
    d_first_state := d18,
    F_first_state := F18,
    g_first_state := He.glo_ok X G (c.t.d.fact 31 (f := .glo "first_state") rfl),
    kp_first_state := F18.kp,
    a_are_within := He.fAd K e_are_within.at_,
    d_are_within := d19,
    F_are_within := F19,
    g_are_within := He.glo_ok X G (c.t.d.fact 32 (f := .glo "are_within") rfl),
    kp_are_within := F19.kp,
    a_is_table := He.fAd K e_is_table.at_,
    d_is_table := d20,
    F_is_table := F20,
    g_is_table := He.glo_ok X G (c.t.d.fact 33 (f := .glo "is_table") rfl),
    kp_is_table := F20.kp,
    a_are_asks := He.fAd K e_are_asks.at_,
    d_are_asks := d21,
    F_are_asks := F21,
    g_are_asks := He.glo_ok X G (c.t.d.fact 34 (f := .glo "are_asks") rfl),
    kp_are_asks := F21.kp,
    a_are_downs := He.fAd K e_are_downs.at_,
    d_are_downs := d22,
    F_are_downs := F22,
    g_are_downs := He.glo_ok X G (c.t.d.fact 35 (f := .glo "are_downs") rfl),
    kp_are_downs := F22.kp,
    a_are_lacks := He.fAd K e_are_lacks.at_,
    d_are_lacks := d23,
    F_are_lacks := F23,
    g_are_lacks := He.glo_ok X G (c.t.d.fact 36 (f := .glo "are_lacks") rfl),
    kp_are_lacks := F23.kp,
    a_is_stand := He.fAd K e_is_stand.at_,
    d_is_stand := d24,
    F_is_stand := F24,
    g_is_stand := He.glo_ok X G (c.t.d.fact 37 (f := .glo "is_stand") rfl),
    kp_is_stand := F24.kp,
    a_are_stands := He.fAd K e_are_stands.at_,
    d_are_stands := d25,
    F_are_stands := F25,
    g_are_stands := He.glo_ok X G (c.t.d.fact 38 (f := .glo "are_stands") rfl),
    kp_are_stands := F25.kp,
    a_is_letter := He.fAd K e_is_letter.at_,
    d_is_letter := d26,
    F_is_letter := F26,
    g_is_letter := He.glo_ok X G (c.t.d.fact 39 (f := .glo "is_letter") rfl),
    kp_is_letter := F26.kp,
    a_is_state := He.fAd K e_is_state.at_,
    d_is_state := d27,
    F_is_state := F27,
    g_is_state := He.glo_ok X G (c.t.d.fact 40 (f := .glo "is_state") rfl),
    kp_is_state := F27.kp,
    a_law := He.fAd K e_law.at_,
    d_law := d28,
    F_law := F28,
    g_law := He.glo_ok X G (c.t.d.fact 41 (f := .glo "law") rfl),
    kp_law := F28.kp }, rfl, rfl, rfl⟩⟩
end K12H

set_option Elab.async false
set_option linter.all false
set_option maxRecDepth 100000
set_option maxHeartbeats 4000000
set_option autoImplicit false
set_option maxHeartbeats 0
open PySem PySem.W PySem.Calls PyProof.Rows
theorem PySem.Challenge.cw_onemaster_k12_first_states_holds : PySem.Challenge.rw_onemaster_k12_first_states.Holds := by
  w_on; o_law
  refine HandSHeadRun.head_any (r := OpenLaw.row PySem.Challenge.rw_onemaster_k12_first_states) (q := view (OpenLaw.row PySem.Challenge.rw_onemaster_k12_first_states).prog [53]) (H := K12H.hk) (ob := K12H.ob) (M := 8000) (loose := K12H.loose) (d := HandSHeadRun.topDef (OpenLaw.row PySem.Challenge.rw_onemaster_k12_first_states).prog 53) (kwd := []) K12H.ob_eq
    (by kernel_rfl) (fun s => by kernel_rfl) K12H.run (by kernel_rfl) (by kernel_rfl) (by kernel_rfl) (by rfl) (by first | assumption | decide +kernel) (by decide +kernel) ⟨rfl, rfl, rfl, rfl, rfl, by decide +kernel⟩ ?hw ?hc
  case hw => w_witness2
  case hc =>
    refine Pc.walk_ofG (l := PySem.Challenge.rw_onemaster_k12_first_states) (n := 63) (k := 9) (x := "_law_script") rfl (by decide) (by kernel_rfl) ⟨rfl, by decide, by decide⟩ ?F
    intro w mg fa h Y G hmg0
    obtain ⟨K, KX, c⟩ := Y
    have hmg : mg ("law" : PySem.Str) = some (.ref fa) := by
      have e : (HandSHeadRun.topDef (OpenLaw.row PySem.Challenge.rw_onemaster_k12_first_states).prog 53).name = ("law" : PySem.Str) := by kernel_rfl
      rw [← e]
      exact hmg0
    obtain ⟨d, kk, F, fx⟩ := K12H.facts KX G c
    have hx : fa = He.ga K "law" := by
      obtain ⟨x0, _, e1, _⟩ := fx {}
      have z := x0.g_law
      rw [e1] at z
      have z2 := hmg.symm.trans z
      cases z2
      rfl
    have bd := L2.FunD.bindsA (ps := ["_law_script"]) F fun _ _ _ _ _ _ us hl => match us, hl with | [_], _ => rfl
    refine ⟨K, d, K12.m_law kk, KX, fun s v => bd s [v] rfl, fun ns hl => K12.K12_good kk ns hl, fun base _ _ => ?_⟩
    obtain ⟨x, e0, e1, e2⟩ := fx base
    have z := K12.fn_law x
    rw [e0, e1, e2] at z
    rw [hx]
    exact z

