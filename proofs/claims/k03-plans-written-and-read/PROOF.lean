import PyProof.Rows.All
import Wide.All
import OpenK.AllK
import Wide.FinOn
import HandS.ForMost
import HandS.ForExc
import HandS.TupAny
import HandS.Style
import HandS.Flow
import HandS.Deep
import PyProof.NeKinds
import HandS.Defaults
import HandS.WordsDict
import HandS.IsInst
import HandS.Conv
import KE.SortKeyHeap
import HandS.MakeKwOnly
import HandS.More
import HandS.ListItems
import HandS.Zip
import KE.GoesEnumKw
import HandS.Head0
import HandS.Head1
import HandS.Head2
import HandS.HeadEnd
import HandS.HeadHook1
import HandS.HeadHook2
import HandS.HeadHook3
import HandS.HeadHook4
import HandS.NamedTupGet
import PyProof.FactsLen
import HandS.TupMul
import KE.GoesEnum
import HandS.Zip0
import HandS.SetFor
import HandS.Strs
import KE.DataAny
import KE.KDictPairs
import HandS.DictComp
import HandS.NoneIn
import KE.KEqDict
import HandS.TupLe
import KE.KAssignIn
import HandS.Finally
import HandS.SlotsOwn
import PyProof.InstNe
import HandS.Dict
import HandS.Iter
import KE.KDictCopyH
import KE.DataMinMax
import KE.SortData
import PyProof.Rows.RowBridgeK
import HandS.Exc
import HandS.ExcInit
import HandS.ExcField
import HandS.ClsMeth
import HandS.Text
import HandS.TryMany
import HandS.ExcIs
import HandS.RaiseMore
import HandS.DictTup
import PyProof.ExcBaseAll.IndexError
import HandS.ExcBuiltin
import KE.KExcInit
import KE.SortUse
import HandS.SortKw
import HandS.TupLen
import HandS.FStr
import KE.KCallOwn
import PyProof.Walks
import HandS.Ends
import PySem.Challenge.RW_onemaster_k03_plans_written_and_read
import KE.KStateDown
import PyProof.Rows.ReprOcc
noncomputable section
set_option linter.all false
def aa := @Nat.le_of_ble_eq_true
def ab := @if_false
def ae := @if_true
def ag := @List.getElem?_eq_some_iff
def ah := @Option.some.injEq
def ai := @Option.map_eq_some_iff
def aj := @Bool.and_eq_true
def ak := @decide_eq_true_eq
def ao := @List.length_map
def aq := @List.getElem?_append_left
def au := @List.getElem?_set_self
def av := @List.getElem?_set_ne
def az := @Nat.le_refl
def bc := @List.mem_cons_self
def bf := @List.getElem?_append_right
def bg := @List.mem_cons
def bh := @List.mem_cons_of_mem
def bj := @List.all_eq_true
def bp := @Bool.false_eq_true
def bq := @exists_eq_left'
def br := @List.getElem?_eq_getElem
def bu := @List.not_mem_nil
def bw := @List.mem_of_getElem?
def bx := @List.mem_map
def bz := @List.getElem?_map
def cb := @List.append_assoc
def cc := @List.length_append
def cf := @List.mem_append
def cg := @List.mem_singleton
def cj := @Option.bind_eq_some_iff
def ck := @List.length_set
def cq := @Nat.le_trans
def cu := @List.map_append
set_option Elab.async false
set_option linter.all false
set_option maxRecDepth 100000
set_option maxHeartbeats 4000000
set_option autoImplicit false
namespace Pc
open PySem PySem.Spec PyProof.Rows L2
inductive D where
 | non | bl (b : Bool) | int (i : Int) | str (x : Str) | ty (n : String) | con (a : Addr)
 | tup (xs : List D) | lst (xs : List D) | qG (xs : List D) | jA (xs : List D) | H0 (ks vs : List D) | ref (i : Nat)
inductive MO where
 | lst (xs : List D) | dK (kvs : List (Key × D)) | dT (kvs : List (List Key × D)) | dF (kvs : List (Key × D)) | dG (kvs : List (List Key × D)) | ins (C : Addr) (fs : List (Str × D))
def MO.fz : MO → Bool
 | .dF _ => true
 | .dG _ => true
 | _ => false
abbrev W := List MO
structure XD where
 cls : Value
 fs : Option (List (Str × D))
inductive Res (α : Type) where
 | ok (a : α) (w : W)
 | HF (x : XD) (w : W)
 | bad
def Res.bind {α β : Type} (r : Res α) (f : α → W → Res β) : Res β := match r with
 | .ok a w => f a w
 | .HF x w => .HF x w
 | .bad => .bad
@[simp] theorem Res.KJ {α β : Type} (a : α) (w : W) (f : α → W → Res β) : (Res.ok a w).bind f = f a w := rfl
@[simp] theorem Res.aF7 {α β : Type} (x : XD) (w : W) (f : α → W → Res β) : (Res.HF x w : Res α).bind f = .HF x w := rfl
@[simp] theorem Res.aFV {α β : Type} (f : α → W → Res β) : (Res.bad : Res α).bind f = .bad := rfl
theorem Res.bind_assoc {α β γ : Type} (r : Res α) (f : α → W → Res β) (g : β → W → Res γ) : (r.bind f).bind g = r.bind fun a w => (f a w).bind g := by
 cases r <;> rfl
mutual
def aF (K : PySem.W.Frag) (I : List Addr) (F : Hp) : D → V → Prop
 | .non, v => v = .non
 | .bl b, v => v = .bl b
 | .int i, v => v = .int i
 | .str x, v => v = .str x
 | .ty n, v => v = .ty n
 | .con a, v => v = .ref a
 | .tup xs, v => ∃ a vs, v = .ref a ∧ F a = some (.tup vs) ∧ RepL K I F xs vs
 | .lst xs, v => ∃ a vs, v = .ref a ∧ F a = some (.lst vs) ∧ RepL K I F xs vs
 | .qG xs, v => ∃ a vs, v = .ref a ∧ SqL K F a vs ∧ RepL K I F xs vs
 | .jA xs, v => ∃ a vs, v = .ref a ∧ SqT K F a vs ∧ RepL K I F xs vs
 | .H0 ks xs, v => ∃ a kvs, v = .ref a ∧ Rd F a (.dK kvs) ∧ RepL K I F ks (kvs.map fun p => kV p.1) ∧ RepL K I F xs (kvs.map fun p => p.2)
 | .ref i, v => ∃ a, v = .ref a ∧ I[i]? = some a
def RepL (K : PySem.W.Frag) (I : List Addr) (F : Hp) : List D → List V → Prop
 | [], vs => vs = []
 | d :: ds, vs => ∃ v r, vs = v :: r ∧ aF K I F d v ∧ RepL K I F ds r
end
def aS {κ : Type} (K : PySem.W.Frag) (I : List Addr) (F : Hp) : List (κ × D) → List (κ × V) → Prop
 | [], vs => vs = []
 | (k, d) :: ds, vs => ∃ v r, vs = (k, v) :: r ∧ aF K I F d v ∧ aS K I F ds r
def k9 (K : PySem.W.Frag) (I : List Addr) (F : Hp) : MO → HO → Prop
 | .lst xs, u => ∃ vs, u = .lst vs ∧ RepL K I F xs vs
 | .dK kvs, u => ∃ r, u = .dK r ∧ aS K I F kvs r
 | .dT kvs, u => ∃ r, u = .dT r ∧ aS K I F kvs r
 | .dF kvs, u => ∃ o r, u = .frz o (.dK r) ∧ aS K I F kvs r
 | .dG kvs, u => ∃ o r, u = .frz o (.dT r) ∧ aS K I F kvs r
 | .ins C fs, u => ∃ dx r, u = .ins C dx r ∧ aS K I F fs r
structure Rel (K : PySem.W.Frag) (I : List Addr) (F : Hp) (G : Hp) (w : W) (H : Hp) : Prop where
 len : I.length = w.length
 nd : I.Nodup
 ob : ∀ (i : Nat) (a : Addr) (o : MO), I[i]? = some a → w[i]? = some o → ∃ u, H a = some u ∧ k9 K I F o u
 fz : ∀ a u, F a = some u → H a = some u
 ap : ∀ (i : Nat) (a : Addr) (o : MO), I[i]? = some a → w[i]? = some o → o.fz = false → F a = none
 gz : ∀ a u, G a = some u → H a = some u
 gf : ∀ a u, G a = some u → F a = none ∧ a ∉ I
 gt : ∀ a xs, ¬ G a = some (.tup xs)
structure Ext (I : List Addr) (F : Hp) (I' : List Addr) (F' : Hp) : Prop where
 i : I <+: I'
 f : ∀ a u, F a = some u → F' a = some u
theorem Ext.refl {I : List Addr} {F : Hp} : Ext I F I F := ⟨List.prefix_refl _, fun _ _ h => h⟩
theorem Ext.trans {I I1 I2 : List Addr} {F F1 F2 : Hp} (a : Ext I F I1 F1) (b : Ext I1 F1 I2 F2) : Ext I F I2 F2 := ⟨a.i.trans b.i, fun x u h => b.f x u (a.f x u h)⟩
theorem Ext.get {I I1 : List Addr} {F F1 : Hp} (e : Ext I F I1 F1) {i : Nat} {a : Addr} (h : I[i]? = some a) : I1[i]? = some a := by
 obtain ⟨t, rfl⟩ := e.i
 have hi : i < I.length := (ag.mp h).1
 rw [aq hi]; exact h
section
variable {K : PySem.W.Frag} {I I1 I2 : List Addr} {F F1 F2 : Hp}
theorem S1 (e : Ext I F I1 F1) {a : Addr} {u : HO} (h : Rd F a u) : Rd F1 a u := by
 rcases h with h | ⟨o, h⟩
 ·exact .inl (e.f _ _ h)
 ·exact .inr ⟨o, e.f _ _ h⟩
theorem DY (e : Ext I F I1 F1) {a : Addr} {vs : List V} (h : SqT K F a vs) : SqT K F1 a vs := by
 rcases h with h | h
 ·exact .inl (S1 e h)
 ·exact .inr h
theorem V5 (e : Ext I F I1 F1) {a : Addr} {vs : List V} (h : SqL K F a vs) : SqL K F1 a vs := by
 rcases h with h | h
 ·exact .inl (S1 e h)
 ·exact .inr h
mutual
theorem aF.ext (e : Ext I F I1 F1) : ∀ (d : D) (v : V), aF K I F d v → aF K I1 F1 d v
 | .non, _, h => h
 | .bl _, _, h => h
 | .int _, _, h => h
 | .str _, _, h => h
 | .ty _, _, h => h
 | .con _, _, h => h
 | .tup xs, v, h => by
  simp only [aF] at h ⊢
  obtain ⟨a, vs, h1, h2, h3⟩ := h
  exact ⟨a, vs, h1, e.f _ _ h2, RepL.ext e xs vs h3⟩
 | .jA xs, v, h => by
  simp only [aF] at h ⊢
  obtain ⟨a, vs, h1, h2, h3⟩ := h
  exact ⟨a, vs, h1, DY e h2, RepL.ext e xs vs h3⟩
 | .lst xs, v, h => by
  simp only [aF] at h ⊢
  obtain ⟨a, vs, h1, h2, h3⟩ := h
  exact ⟨a, vs, h1, e.f _ _ h2, RepL.ext e xs vs h3⟩
 | .qG xs, v, h => by
  simp only [aF] at h ⊢
  obtain ⟨a, vs, h1, h2, h3⟩ := h
  exact ⟨a, vs, h1, V5 e h2, RepL.ext e xs vs h3⟩
 | .H0 ks xs, v, h => by
  simp only [aF] at h ⊢
  obtain ⟨a, kvs, h1, h2, h3, h4⟩ := h
  exact ⟨a, kvs, h1, S1 e h2, RepL.ext e ks _ h3, RepL.ext e xs _ h4⟩
 | .ref i, v, h => by
  simp only [aF] at h ⊢
  obtain ⟨a, h1, h2⟩ := h
  exact ⟨a, h1, e.get h2⟩
theorem RepL.ext (e : Ext I F I1 F1) : ∀ (ds : List D) (vs : List V), RepL K I F ds vs → RepL K I1 F1 ds vs
 | [], _, h => h
 | d :: ds, vs, h => by
  simp only [RepL] at h ⊢
  obtain ⟨v, r, h1, h2, h3⟩ := h
  exact ⟨v, r, h1, aF.ext e d v h2, RepL.ext e ds r h3⟩
end
theorem aS.ext {κ : Type} (e : Ext I F I1 F1) : ∀ (ds : List (κ × D)) (vs : List (κ × V)), aS K I F ds vs → aS K I1 F1 ds vs
 | [], _, h => h
 | (k, d) :: ds, vs, h => by
  simp only [aS] at h ⊢
  obtain ⟨v, r, h1, h2, h3⟩ := h
  exact ⟨v, r, h1, aF.ext e d v h2, aS.ext e ds r h3⟩
theorem k9.ext (e : Ext I F I1 F1) {o : MO} {u : HO} (h : k9 K I F o u) : k9 K I1 F1 o u := by
 cases o with
 | lst xs => obtain ⟨vs, h1, h2⟩ := h; exact ⟨vs, h1, RepL.ext e _ _ h2⟩
 | dK xs => obtain ⟨vs, h1, h2⟩ := h; exact ⟨vs, h1, aS.ext e _ _ h2⟩
 | dT xs => obtain ⟨vs, h1, h2⟩ := h; exact ⟨vs, h1, aS.ext e _ _ h2⟩
 | dF xs => obtain ⟨o, vs, h1, h2⟩ := h; exact ⟨o, vs, h1, aS.ext e _ _ h2⟩
 | dG xs => obtain ⟨o, vs, h1, h2⟩ := h; exact ⟨o, vs, h1, aS.ext e _ _ h2⟩
 | ins C xs => obtain ⟨dx, vs, h1, h2⟩ := h; exact ⟨dx, vs, h1, aS.ext e _ _ h2⟩
theorem RepL.length : ∀ {ds : List D} {vs : List V}, RepL K I F ds vs → ds.length = vs.length
 | [], vs, h => by simp only [RepL] at h; subst h; rfl
 | d :: ds, vs, h => by
  simp only [RepL] at h
  obtain ⟨v, r, rfl, _, h3⟩ := h
  simp [RepL.length h3]
theorem RepL.cons {d : D} {ds : List D} {v : V} {vs : List V} (h : aF K I F d v) (t : RepL K I F ds vs) : RepL K I F (d :: ds) (v :: vs) := by
 simp only [RepL]; exact ⟨v, vs, rfl, h, t⟩
theorem RepL.append : ∀ {ds es : List D} {vs us : List V}, RepL K I F ds vs → RepL K I F es us → RepL K I F (ds ++ es) (vs ++ us)
 | [], _, _, _, h, t => by simp only [RepL] at h; subst h; exact t
 | d :: ds, es, vs, us, h, t => by
  simp only [RepL] at h
  obtain ⟨v, r, rfl, h2, h3⟩ := h
  exact RepL.cons h2 (RepL.append h3 t)
theorem RepL.get : ∀ {ds : List D} {vs : List V} {i : Nat} {d : D}, RepL K I F ds vs → ds[i]? = some d → ∃ v, vs[i]? = some v ∧ aF K I F d v
 | [], _, _, _, _, e => by simp at e
 | d :: ds, vs, 0, x, h, e => by
  simp only [RepL] at h
  obtain ⟨v, r, rfl, h2, _⟩ := h
  simp at e; subst e
  exact ⟨v, rfl, h2⟩
 | d :: ds, vs, i + 1, x, h, e => by
  simp only [RepL] at h
  obtain ⟨v, r, rfl, _, h3⟩ := h
  obtain ⟨u, h4, h5⟩ := RepL.get (i := i) h3 (by simpa using e)
  exact ⟨u, by simpa using h4, h5⟩
theorem RepL.set : ∀ {ds : List D} {vs : List V} (i : Nat) {d : D} {v : V}, RepL K I F ds vs → aF K I F d v → RepL K I F (ds.set i d) (vs.set i v)
 | [], vs, _, _, _, h, _ => by simp only [RepL] at h; subst h; simp [RepL]
 | d :: ds, vs, 0, x, u, h, hv => by
  simp only [RepL] at h
  obtain ⟨v, r, rfl, _, h3⟩ := h
  exact RepL.cons hv h3
 | d :: ds, vs, i + 1, x, u, h, hv => by
  simp only [RepL] at h
  obtain ⟨v, r, rfl, h2, h3⟩ := h
  exact RepL.cons h2 (RepL.set i h3 hv)
theorem RepL.take : ∀ {ds : List D} {vs : List V} (n : Nat), RepL K I F ds vs → RepL K I F (ds.take n) (vs.take n)
 | _, _, 0, _ => by simp [RepL]
 | [], vs, n + 1, h => by simp only [RepL] at h; subst h; simp [RepL]
 | d :: ds, vs, n + 1, h => by
  simp only [RepL] at h
  obtain ⟨v, r, rfl, h2, h3⟩ := h
  exact RepL.cons h2 (RepL.take n h3)
theorem RepL.drop : ∀ {ds : List D} {vs : List V} (n : Nat), RepL K I F ds vs → RepL K I F (ds.drop n) (vs.drop n)
 | _, _, 0, h => h
 | [], vs, n + 1, h => by simp only [RepL] at h; subst h; simp [RepL]
 | d :: ds, vs, n + 1, h => by
  simp only [RepL] at h
  obtain ⟨v, r, rfl, h2, h3⟩ := h
  exact RepL.drop n h3
theorem RepL.ints (ns : List Int) : RepL K I F (ns.map D.int) (ns.map V.int) := by
 induction ns with
 | nil => simp [RepL]
 | cons n ns ih => exact RepL.cons (by simp [aF]) ih
end
abbrev Sg := List (Option D)
def fX (K : PySem.W.Frag) (I : List Addr) (F : Hp) (ds : Sg) (s : L2.St) : Prop := ds.length = s.length ∧ ∀ (i : Nat) (d : D), ds[i]? = some (some d) → ∃ v, s[i]? = some (some v) ∧ aF K I F d v
theorem fX.ext {K : PySem.W.Frag} {I I1 : List Addr} {F F1 : Hp} {ds : Sg} {s : L2.St} (h : fX K I F ds s) (e : Ext I F I1 F1) : fX K I1 F1 ds s :=
 ⟨h.1, fun i d q => let ⟨v, h1, h2⟩ := h.2 i d q; ⟨v, h1, aF.ext e d v h2⟩⟩
theorem fX.set {K : PySem.W.Frag} {I : List Addr} {F : Hp} {ds : Sg} {s : L2.St} (h : fX K I F ds s) (i : Nat) {d : D} {v : V} (hv : aF K I F d v) : fX K I F (ds.set i (some d)) (s.set i (some v)) := by
 refine ⟨by simp [h.1], fun j e q => ?_⟩
 by_cases hj : i = j
 ·subst hj
  by_cases hl : i < ds.length
  ·rw [au hl] at q
   cases q
   exact ⟨v, au (by rw [← h.1]; exact hl), hv⟩
  ·rw [List.getElem?_eq_none (by simpa using hl)] at q; cases q
 ·rw [av hj] at q
  rw [av hj]
  exact h.2 j e q
theorem fX.unset {K : PySem.W.Frag} {I : List Addr} {F : Hp} {ds : Sg} {s : L2.St} (h : fX K I F ds s) (i : Nat) (x : Option V) : fX K I F (ds.set i none) (s.set i x) := by
 refine ⟨by simp [h.1], fun j e q => ?_⟩
 by_cases hj : i = j
 ·subst hj
  by_cases hl : i < ds.length
  ·rw [au hl] at q; cases q
  ·rw [List.getElem?_eq_none (by simpa using hl)] at q; cases q
 ·rw [av hj] at q
  rw [av hj]
  exact h.2 j e q
def GR (K : PySem.W.Frag) (I : List Addr) (F H : Hp) (x : XD) (c : Value) (d : Option Addr) : Prop :=
 c = x.cls ∧ match x.fs with
  | none => d = none
  | some fs => ∃ a r, d = some a ∧ H a = some (.xd r) ∧ aS K I F fs r
def a7 {α : Type} (K : PySem.W.Frag) (I : List Addr) (F G : Hp) (E : XK) (R : List Addr → Hp → Hp → α → W → Prop) : Res α → Prop
 | .ok a w => ∀ I' F' H', Ext I F I' F' → Rel K I' F' G w H' → R I' F' H' a w
 | .HF x w => ∀ I' F' H' c d, Ext I F I' F' → Rel K I' F' G w H' → GR K I' F' H' x c d → E c d H'
 | .bad => False
section
variable {α β : Type} {K : PySem.W.Frag} {I I1 : List Addr} {F F1 G : Hp} {E : XK} {R R' : List Addr → Hp → Hp → α → W → Prop} {r : Res α}
theorem a7.ext (h : a7 K I F G E R r) (e : Ext I F I1 F1) : a7 K I1 F1 G E R r := by
 cases r with
 | ok a w => exact fun I' F' H' e' q => h I' F' H' (e.trans e') q
 | HF x w => exact fun I' F' H' c d e' q y => h I' F' H' c d (e.trans e') q y
 | bad => exact h
theorem a7.mono (h : a7 K I F G E R r) (k : ∀ I' F' H' a w, r = .ok a w → Ext I F I' F' → Rel K I' F' G w H' → R I' F' H' a w → R' I' F' H' a w) : a7 K I F G E R' r := by
 cases r with
 | ok a w => exact fun I' F' H' e' q => k I' F' H' a w rfl e' q (h I' F' H' e' q)
 | HF x w => exact h
 | bad => exact h
theorem a7.bind {f : α → W → Res β} {R2 : List Addr → Hp → Hp → β → W → Prop} (h : a7 K I F G E R2 (r.bind f)) : a7 K I F G E (fun I' F' _ a w => a7 K I' F' G E R2 (f a w)) r := by
 cases r with
 | ok a w => exact fun I' F' H' e' q => a7.ext (K := K) (R := R2) h e'
 | HF x w => exact h
 | bad => exact h
end
def RV (K : PySem.W.Frag) (Q : VK) : List Addr → Hp → Hp → D → W → Prop := fun I' F' H' d _ => ∀ v, aF K I' F' d v → Q v H'
structure aQ where
 P : Program
 w : World
 K : PySem.W.Frag
 mg : Str → Option Value
 base : Heap
 k : Nat
 N : List Str
 sc : Scope
 fn : Str → Bool
structure Ctx (S : aQ) (X : Cx) : Prop where
 P : X.prog = S.P
 w : X.w = S.w
 K : X.K = S.K
 mg : X.mg = S.mg
 base : X.base = S.base
 N : X.N = S.N
 sc : X.env.scope = S.sc
 fn : ∀ x, S.fn x = true → X.fn x = true
 calm : X.calm = true
 room : Room S.k X.A
 W5 : X.A.guards = some []
 nd : X.N.Nodup
structure rP (X : Cx) (E : XK) : Prop where
 tk : Takes X (fun cls d _ H => E cls d H)
 own : PassesOwn (model X.prog X.w) X.A X.env X.xe
abbrev ME := Sg → W → Res D
abbrev MT := Sg → W → Res Bool
abbrev MA := Sg → W → Res (List D)
inductive Fl where
 | nx (s : Sg) | rt (d : D) | bk (s : Sg) | ct (s : Sg)
abbrev MS := Sg → W → Res Fl
def RL (K : PySem.W.Frag) (Q : List V → Hp → Prop) : List Addr → Hp → Hp → List D → W → Prop := fun I' F' H' ds _ => ∀ vs, RepL K I' F' ds vs → Q vs H'
def RB (Q : Bool → Hp → Prop) : List Addr → Hp → Hp → Bool → W → Prop := fun _ _ H' b _ => Q b H'
def RFl (K : PySem.W.Frag) (Z : Ends) : List Addr → Hp → Hp → Fl → W → Prop := fun I' F' H' f _ => match f with
 | .nx s => ∀ s', fX K I' F' s s' → Z.nx s' H'
 | .rt d => ∀ v, aF K I' F' d v → Z.rt v H'
 | .bk s => ∀ s', fX K I' F' s s' → Z.bk s' H'
 | .ct s => ∀ s', fX K I' F' s s' → Z.ct s' H'
def r5 (K : PySem.W.Frag) (E : XK) (m : ME) : TE := fun σ H Q => ∃ I F G ds w, Rel K I F G w H ∧ fX K I F ds σ ∧ a7 K I F G E (RV K Q) (m ds w)
def UM (K : PySem.W.Frag) (E : XK) (m : MT) : TT := fun σ H Q => ∃ I F G ds w, Rel K I F G w H ∧ fX K I F ds σ ∧ a7 K I F G E (RB Q) (m ds w)
def aCu (K : PySem.W.Frag) (E : XK) (m : MA) : TA := fun σ H Q => ∃ I F G ds w, Rel K I F G w H ∧ fX K I F ds σ ∧ a7 K I F G E (RL K Q) (m ds w)
def OL (K : PySem.W.Frag) (E : XK) (m : MS) : TS := fun Z σ H => ∃ I F G ds w, Rel K I F G w H ∧ fX K I F ds σ ∧ a7 K I F G E (RFl K Z) (m ds w)
def JE (S : aQ) (e : Expr) (m : ME) : Prop := ∀ X E, Ctx S X → rP X E → PE X e (r5 X.K E m)
def JT (S : aQ) (e : Expr) (m : MT) : Prop := ∀ X E, Ctx S X → rP X E → PT X e (UM X.K E m)
def JW (S : aQ) (e : Expr) (m : MT) : Prop := ∀ X E, Ctx S X → rP X E → PW X e (UM X.K E m)
def JA (S : aQ) (es : List Expr) (m : MA) : Prop := ∀ X E, Ctx S X → rP X E → PA X es (aCu X.K E m)
def JS (S : aQ) (st : Stmt) (m : MS) : Prop := ∀ X E, Ctx S X → rP X E → PS X st (OL X.K E m)
def q8 (S : aQ) (st : List Stmt) (m : MS) : Prop := ∀ X E, Ctx S X → rP X E → PSs X st (OL X.K E m)
section
variable {X : Cx} {e : Expr} {es : List Expr} {st : Stmt} {sts : List Stmt}
theorem cF {t t' : TE} (h : PE X e t) (k : ∀ σ H Q, t' σ H Q → t σ H Q) : PE X e t' := ⟨fun pins s σ H Q I q => h.run pins s σ H Q I (k σ H Q q)⟩
theorem DV {t t' : TT} (h : PT X e t) (k : ∀ σ H Q, t' σ H Q → t σ H Q) : PT X e t' := ⟨fun pins s σ H Q I q => h.run pins s σ H Q I (k σ H Q q)⟩
theorem VS {t t' : TT} (h : PW X e t) (k : ∀ σ H Q, t' σ H Q → t σ H Q) : PW X e t' := ⟨fun wh pins s σ H Q I q => h.run wh pins s σ H Q I (k σ H Q q)⟩
theorem VJ {t t' : TA} (h : PA X es t) (k : ∀ σ H Q, t' σ H Q → t σ H Q) : PA X es t' := ⟨fun pos pins s σ H Q I q => h.run pos pins s σ H Q I (k σ H Q q)⟩
theorem jQ {t t' : TS} (h : PS X st t) (k : ∀ D σ H, t' D σ H → t D σ H) : PS X st t' := ⟨fun pins s σ H D I q => h.run pins s σ H D I (k D σ H q)⟩
theorem QQ {t t' : TS} (h : PSs X sts t) (k : ∀ D σ H, t' D σ H → t D σ H) : PSs X sts t' := ⟨fun pins s σ H D I q => h.run pins s σ H D I (k D σ H q)⟩
end
def aB (i : Nat) : ME := fun σ w => match σ[i]? with
 | some (some d) => .ok d w
 | _ => .bad
def eC (d : D) : ME := fun _ w => .ok d w
section
variable {S : aQ} {pos : Pos}
theorem aEt (i : Nat) {x : Str} (hN : S.N[i]? = some x) (hv : Vis S.sc x) (hd : (x == ("__debug__" : Str)) = false := by decide) (hcd : (x == ("__classdict__" : Str)) = false := by decide) : JE S (.Name x pos) (aB i) := by
 intro X E c xo
 refine cF (pe_var (i := i) (by rw [c.N]; exact hN) (by rw [c.sc]; exact hv) hd hcd) fun σ H Q h => ?_
 obtain ⟨I, F, G, ds, w, rel, rs, p⟩ := h
 unfold aB at p
 split at p
 ·rename_i d hi
  obtain ⟨v, hv, hr⟩ := rs.2 i d hi
  exact ⟨v, hv, p I F H .refl rel v hr⟩
 ·exact p.elim
theorem aBP {e : Expr} {d : D} {v : V} (h : ∀ X, PE X e (tC v)) (hr : ∀ K I F, aF K I F d v) : JE S e (eC d) := by
 intro X E c xo
 refine cF (h X) fun σ H Q h => ?_
 obtain ⟨I, F, G, ds, w, rel, rs, p⟩ := h
 exact p I F H .refl rel v (hr _ _ _)
theorem aP {i : Int} {j : Nat} : JE S (.Constant (.int i) j pos) (eC (.int i)) := aBP (fun _ => pe_int) fun _ _ _ => by simp [aF]
theorem mK {b : Bool} {j : Nat} : JE S (.Constant (.bool b) j pos) (eC (.bl b)) := aBP (fun _ => pe_bl) fun _ _ _ => by simp [aF]
theorem qA {j : Nat} : JE S (.Constant .none j pos) (eC .non) := aBP (fun _ => pe_non) fun _ _ _ => by simp [aF]
theorem bJ {x : Str} {j : Nat} : JE S (.Constant (.str x) j pos) (eC (.str x)) := aBP (fun _ => pe_str) fun _ _ _ => by simp [aF]
theorem aCM {x : Str} {d : D} {v : V} {u : Value} (hg : S.sc.names.lookup x = some .globalImplicit) (hm : S.mg x = some u) (r : RelV v u) (hr : ∀ I F, aF S.K I F d v) (hd : (x == ("__debug__" : Str)) = false := by decide) : JE S (.Name x pos) (eC d) := by
 intro X E c xo
 refine cF (pe_glob (x := x) (v := v) (u := u) (by show X.env.scope.names.lookup x = _; rw [c.sc]; exact hg) (by rw [c.mg]; exact hm) r hd) fun σ H Q h => ?_
 obtain ⟨I, F, G, ds, w, rel, rs, p⟩ := h
 exact p I F H .refl rel v (by rw [c.K]; exact hr _ _)
end
def aD (f : D → D → W → Res D) (a b : ME) : ME := fun σ w => (a σ w).bind fun x w1 => (b σ w1).bind fun y w2 => f x y w2
def AQ (f : D → W → Res D) (a : ME) : ME := fun σ w => (a σ w).bind fun x w1 => f x w1
def aAj (K : PySem.W.Frag) (E : XK) (f : D → D → W → Res D) : R2 := fun x y H Q => ∃ I F G d e w, Rel K I F G w H ∧ aF K I F d x ∧ aF K I F e y ∧ a7 K I F G E (RV K Q) (f d e w)
def aGg (K : PySem.W.Frag) (E : XK) (f : D → W → Res D) : V → Hp → VK → Prop := fun x H Q => ∃ I F G d w, Rel K I F G w H ∧ aF K I F d x ∧ a7 K I F G E (RV K Q) (f d w)
def O2 (S : aQ) (o : Value → Value → Sem Value) (f : D → D → W → Res D) : Prop := ∀ X E, Ctx S X → rP X E → OpR X o (aAj X.K E f)
def O1 (S : aQ) (o : Value → Sem Value) (f : D → W → Res D) : Prop := ∀ X E, Ctx S X → rP X E → UnR X o (aGg X.K E f)
section
variable {S : aQ} {pos : Pos} {a b : Expr} {ma mb : ME}
theorem zK {K : PySem.W.Frag} {E : XK} {f : D → D → W → Res D} {σ : L2.St} {H : Hp} {Q : VK} (h : r5 K E (aD f ma mb) σ H Q) : tOp (aAj K E f) (r5 K E ma) (r5 K E mb) σ H Q := by
 obtain ⟨I, F, G, ds, w, rel, rs, p⟩ := h
 refine ⟨I, F, G, ds, w, rel, rs, (a7.bind p).mono fun I1 F1 H1 x w1 _ e1 rel1 p1 v rv => ?_⟩
 refine ⟨I1, F1, G, ds, w1, rel1, rs.ext e1, (a7.bind p1).mono fun I2 F2 H2 y w2 _ e2 rel2 p2 u ru => ?_⟩
 exact ⟨I2, F2, G, x, y, w2, rel2, aF.ext e2 _ _ rv, ru, p2⟩
theorem bF {op : Operator} {f : D → D → W → Res D} (ho : O2 S (binaryOp op) f) (ha : JE S a ma) (hb : JE S b mb) : JE S (.BinOp a op b pos) (aD f ma mb) := fun X E c xo =>
 cF (pe_op (ho X E c xo) (ha X E c xo) (hb X E c xo)) fun _ _ _ h => zK h
theorem oD {op : CmpOp} {f : D → D → W → Res D} (ho : O2 S (compareOp op) f) (ha : JE S a ma) (hb : JE S b mb) (hm : behindInMarks op b = false := by first | exact nobehind _ (by decide) (by decide) | rfl) : JE S (.Compare a [op] [b] pos) (aD f ma mb) := fun X E c xo =>
 cF (pe_cmpR (ho X E c xo) (ha X E c xo) (hb X E c xo) hm) fun _ _ _ h => zK h
theorem J7 {op : UnaryOp} {f : D → W → Res D} (ho : O1 S (unaryOp op) f) (ha : JE S a ma) : JE S (.UnaryOp op a pos) (AQ f ma) := fun X E c xo =>
 cF (pe_un (ho X E c xo) (ha X E c xo)) fun σ H Q h => by
  obtain ⟨I, F, G, ds, w, rel, rs, p⟩ := h
  refine ⟨I, F, G, ds, w, rel, rs, (a7.bind p).mono fun I1 F1 H1 x w1 _ e1 rel1 p1 v rv => ?_⟩
  exact ⟨I1, F1, G, x, w1, rel1, rv, p1⟩
def aGo (d : D) (w : W) : Res Bool := match d with
 | .bl b => .ok b w
 | _ => .bad
def a8 (m : ME) : MT := fun σ w => (m σ w).bind aGo
theorem cW {op : CmpOp} {f : D → D → W → Res D} (ho : O2 S (compareOp op) f) (ha : JE S a ma) (hb : JE S b mb) (hm : behindInMarks op b = false := by first | exact nobehind _ (by decide) (by decide) | rfl) : JT S (.Compare a [op] [b] pos) (a8 (aD f ma mb)) := fun X E c xo =>
 DV (pt_cmpR (ho X E c xo) (ha X E c xo) (hb X E c xo) hm) fun σ H Q h => by
  obtain ⟨I, F, G, ds, w, rel, rs, p⟩ := h
  show tOp _ _ _ σ H fun x H' => ∃ k, x = .bl k ∧ Q k H'
  refine zK ⟨I, F, G, ds, w, rel, rs, (a7.bind p).mono fun I1 F1 H1 x w1 _ e1 rel1 p1 v rv => ?_⟩
  cases x <;> first | exact p1.elim | skip
  simp only [aF] at rv
  exact ⟨_, rv, p1 I1 F1 H1 .refl rel1⟩
end
mutual
def D.fZ (f : Nat → Option PyData) : D → Option PyData
 | .non => some .none
 | .bl b => some (.bool b)
 | .int i => some (.int i)
 | .str x => some (.str x)
 | .ty _ => none
 | .con _ => none
 | .tup xs => (D.pysR f xs).map .tuple
 | .lst xs => (D.pysR f xs).map .list
 | .qG xs => (D.pysR f xs).map .list
 | .jA xs => (D.pysR f xs).map .tuple
 | .H0 _ _ => none
 | .ref i => f i
def D.pysR (f : Nat → Option PyData) : List D → Option (List PyData)
 | [] => some []
 | d :: ds => match D.fZ f d, D.pysR f ds with
  | some p, some ps => some (p :: ps)
  | _, _ => none
end
def QS : Nat → W → Nat → Option PyData
 | 0, _, _ => none
 | n + 1, w, i => match w[i]? with
  | some (.lst xs) => (D.pysR (QS n w) xs).map .list
  | _ => none
def D.py (w : W) (d : D) : Option PyData := d.fZ (QS 8 w)
section
variable {K : PySem.W.Frag} {I : List Addr} {F G H : Hp} {w : W}
theorem Rel.XY (rel : Rel K I F G w H) {a : Addr} {vs : List V} (h : SqL K F a vs) : SqL K H a vs := by
 rcases h with (h | ⟨o, h⟩) | h
 ·exact .inl (.inl (rel.fz _ _ h))
 ·exact .inl (.inr ⟨o, rel.fz _ _ h⟩)
 ·exact .inr h
theorem Rel.K2 (rel : Rel K I F G w H) {a : Addr} {vs : List V} (h : SqT K F a vs) : SqT K H a vs := by
 rcases h with (h | ⟨o, h⟩) | h
 ·exact .inl (.inl (rel.fz _ _ h))
 ·exact .inl (.inr ⟨o, rel.fz _ _ h⟩)
 ·exact .inr h
mutual
theorem ZK (rel : Rel K I F G w H) {f : Nat → Option PyData} (hf : ∀ i a p, I[i]? = some a → f i = some p → Dp K H (.ref a) p) : ∀ (d : D) (v : V) (p : PyData), aF K I F d v → d.fZ f = some p → Dp K H v p
 | .non, v, p, h, e => by simp only [aF] at h; simp only [D.fZ, ah] at e; subst h; subst e; exact .non
 | .bl b, v, p, h, e => by simp only [aF] at h; simp only [D.fZ, ah] at e; subst h; subst e; exact .bl b
 | .int i, v, p, h, e => by simp only [aF] at h; simp only [D.fZ, ah] at e; subst h; subst e; exact .int i
 | .str x, v, p, h, e => by simp only [aF] at h; simp only [D.fZ, ah] at e; subst h; subst e; exact .str x
 | .ty _, v, p, h, e => by simp [D.fZ] at e
 | .con _, v, p, h, e => by simp [D.fZ] at e
 | .H0 _ _, v, p, h, e => by simp [D.fZ] at e
 | .tup xs, v, p, h, e => by
  simp only [aF] at h
  obtain ⟨a, vs, rfl, h2, h3⟩ := h
  simp only [D.fZ, ai] at e
  obtain ⟨ps, e1, rfl⟩ := e
  exact .tup (.of (rel.fz _ _ h2)) (dp_pysR rel hf xs vs ps h3 e1)
 | .jA xs, v, p, h, e => by
  simp only [aF] at h
  obtain ⟨a, vs, rfl, h2, h3⟩ := h
  simp only [D.fZ, ai] at e
  obtain ⟨ps, e1, rfl⟩ := e
  exact .tup (rel.K2 h2) (dp_pysR rel hf xs vs ps h3 e1)
 | .lst xs, v, p, h, e => by
  simp only [aF] at h
  obtain ⟨a, vs, rfl, h2, h3⟩ := h
  simp only [D.fZ, ai] at e
  obtain ⟨ps, e1, rfl⟩ := e
  exact .lst (.of (rel.fz _ _ h2)) (dp_pysR rel hf xs vs ps h3 e1)
 | .qG xs, v, p, h, e => by
  simp only [aF] at h
  obtain ⟨a, vs, rfl, h2, h3⟩ := h
  simp only [D.fZ, ai] at e
  obtain ⟨ps, e1, rfl⟩ := e
  exact .lst (rel.XY h2) (dp_pysR rel hf xs vs ps h3 e1)
 | .ref i, v, p, h, e => by
  simp only [aF] at h
  obtain ⟨a, rfl, h2⟩ := h
  simp only [D.fZ] at e
  exact hf i a p h2 e
theorem dp_pysR (rel : Rel K I F G w H) {f : Nat → Option PyData} (hf : ∀ i a p, I[i]? = some a → f i = some p → Dp K H (.ref a) p) : ∀ (ds : List D) (vs : List V) (ps : List PyData), RepL K I F ds vs → D.pysR f ds = some ps → DpAll K H vs ps
 | [], vs, ps, h, e => by simp only [RepL] at h; simp only [D.pysR, ah] at e; subst h; subst e; exact .nil
 | d :: ds, vs, ps, h, e => by
  simp only [RepL] at h
  obtain ⟨v, r, rfl, h2, h3⟩ := h
  simp only [D.pysR] at e
  split at e
  ·rename_i p ps' e1 e2
   cases e
   exact .cons (ZK rel hf d v p h2 e1) (dp_pysR rel hf ds r ps' h3 e2)
  ·cases e
end
theorem aDI (rel : Rel K I F G w H) : ∀ (n : Nat) (i : Nat) (a : Addr) (p : PyData), I[i]? = some a → QS n w i = some p → Dp K H (.ref a) p
 | 0, i, a, p, _, e => by simp [QS] at e
 | n + 1, i, a, p, h, e => by
  simp only [QS] at e
  split at e
  ·rename_i xs hw
   simp only [ai] at e
   obtain ⟨ps, e1, rfl⟩ := e
   obtain ⟨u, hu, ho⟩ := rel.ob i a _ h hw
   obtain ⟨vs, rfl, h3⟩ := ho
   exact .lst (.of hu) (dp_pysR rel (fun i a p => aDI rel n i a p) xs vs ps h3 e1)
  ·cases e
theorem wY (rel : Rel K I F G w H) {d : D} {v : V} {p : PyData} (h : aF K I F d v) (e : d.py w = some p) : Dp K H v p :=
 ZK rel (fun i a p => aDI rel 8 i a p) d v p h e
end
def bH (x y : D) (w : W) : Res D := match x, y with
 | .int a, .int b => .ok (.int (a + b)) w
 | .str a, .str b => if a.length + b.length ≤ sizeLine then .ok (.str (a ++ b)) w else .bad
 | .tup a, .tup b => if a.length + b.length ≤ sizeLine then .ok (.tup (a ++ b)) w else .bad
 | .lst a, .lst b => if a.length + b.length ≤ sizeLine then .ok (.lst (a ++ b)) w else .bad
 | _, _ => .bad
def lO (x y : D) (w : W) : Res D := match x, y with
 | .int a, .int b => .ok (.int (a - b)) w
 | _, _ => .bad
def EK (a b : Int) : Bool := (decide (-(2 ^ 64) < a) && decide (a < 2 ^ 64)) || (decide (-(2 ^ 64) < b) && decide (b < 2 ^ 64))
def mulM (x y : D) (w : W) : Res D := match x, y with
 | .int a, .int b => if EK a b then .ok (.int (a * b)) w else .bad
 | .lst a, .int k => if -(2 ^ 63) ≤ k ∧ k < 2 ^ 63 ∧ a.length * k.toNat ≤ sizeLine then .ok (.lst (List.replicate k.toNat a).flatten) w else .bad
 | _, _ => .bad
def wR (x y : D) (w : W) : Res D := match x, y with
 | .int a, .int b => if 0 < b ∧ b < 1073741824 then .ok (.int (a / b)) w else .bad
 | _, _ => .bad
def kH (x y : D) (w : W) : Res D := match x, y with
 | .int a, .int b => if 0 < b then .ok (.int (a % b)) w else .bad
 | _, _ => .bad
def TN (x y : D) (w : W) : Res D := match x, y with
 | .int a, .int b => if 0 ≤ b ∧ b ≤ 1000000 ∧ a.natAbs < 2 ^ 64 then .ok (.int (a ^ b.toNat)) w else .bad
 | _, _ => .bad
def sO (x : D) (w : W) : Res D := match x with
 | .int a => .ok (.int (-a)) w
 | _ => .bad
def wF (x y : D) (w : W) : Option Bool := match x.py w, y.py w with
 | some p, some q => if SeqAt.shaped p = true ∧ SeqAt.shaped q = true then some (PyData.eqv p q) else none
 | _, _ => none
def aE6 (x y : D) (w : W) : Res D := match wF x y w with
 | some b => .ok (.bl b) w
 | none => .bad
def aEE (x y : D) (w : W) : Res D := match wF x y w with
 | some b => .ok (.bl (!b)) w
 | none => .bad
def aAz : D → D → Option Bool
 | .tup xs, .tup [] => some xs.isEmpty
 | .lst xs, .lst [] => some xs.isEmpty
 | _, _ => none
def yR (x y : D) (w : W) : Option Bool := match wF x y w with
 | some b => some b
 | none => aAz x y
def fN (x y : D) (w : W) : Res D := match yR x y w with
 | some b => .ok (.bl b) w
 | none => .bad
def qX (x y : D) (w : W) : Res D := match yR x y w with
 | some b => .ok (.bl (!b)) w
 | none => .bad
def HH (x y : D) (w : W) : Res D := match x, y with
 | .int a, .int b => .ok (.bl (decide (a ≤ b))) w
 | _, _ => .bad
def NJ (x y : D) (w : W) : Res D := match x, y with
 | .int a, .int b => .ok (.bl (decide (b < a))) w
 | _, _ => .bad
def geM (x y : D) (w : W) : Res D := match x, y with
 | .int a, .int b => .ok (.bl (decide (b ≤ a))) w
 | _, _ => .bad
def D.isNon : D → Bool
 | .non => true
 | _ => false
def Y4 (x y : D) (w : W) : Res D := match x, y with
 | x, .non => .ok (.bl x.isNon) w
 | .bl a, .bl b => .ok (.bl (decide (a = b))) w
 | _, _ => .bad
def aBm (x y : D) (w : W) : Res D := match x, y with
 | x, .non => .ok (.bl (!x.isNon)) w
 | .bl a, .bl b => .ok (.bl (!decide (a = b))) w
 | _, _ => .bad
def D.items (w : W) : D → Option (List D)
 | .tup xs => some xs
 | .lst xs => some xs
 | .qG xs => some xs
 | .jA xs => some xs
 | .ref i => match w[i]? with
  | some (.lst xs) => some xs
  | _ => none
 | _ => none
section
variable {S : aQ}
theorem gC {o : Value → Value → Sem Value} {f : D → D → W → Res D}
  (h : ∀ (X : Cx) (E : XK), Ctx S X → rP X E → ∀ (I : List Addr) (F G : Hp) (d e : D) (w : W) (H : Hp) (x y : V) (Q : VK), Rel X.K I F G w H → aF X.K I F d x → aF X.K I F e y → a7 X.K I F G E (RV X.K Q) (f d e w) →
   ∃ r : R2, OpR X o r ∧ r x y H Q) : O2 S o f := fun X E c xo pins s σ H x y v u Q I rx ry ⟨J, F, G, d, e, w, rel, rd, re, p⟩ => by
 obtain ⟨r, ho, hr⟩ := h X E c xo J F G d e w H x y Q rel rd re p
 exact ho pins s σ H x y v u Q I rx ry hr
theorem xT {o : Value → Value → Sem Value} {f : D → D → W → Res D} {C : Int → Int → Prop} {g : Int → Int → V} {gd : Int → Int → D} (ho : ∀ X : Cx, OpR X o (rI C g))
  (hg : ∀ K I F a b, aF K I F (gd a b) (g a b)) (hf : ∀ d e w r, f d e w = r → r = .bad ∨ ∃ a b, d = .int a ∧ e = .int b ∧ C a b ∧ r = .ok (gd a b) w) : O2 S o f :=
 gC fun X E c xo I F G d e w H x y Q rel rd re p => by
  rcases hf d e w _ rfl with h | ⟨a, b, rfl, rfl, hc, h⟩
  ·rw [h] at p; exact p.elim
  ·rw [h] at p
   simp only [aF] at rd re
   exact ⟨_, ho X, a, b, rd, re, hc, p I F H .refl rel _ (hg _ _ _ _ _)⟩
theorem PR {o : Value → Value → Sem Value} {X : Cx} {g : Int → Int → V} (h : OpR X o (rI0 g)) : OpR X o (rI (fun _ _ => True) g) := fun pins s σ H x y v u Q I rx ry ⟨i, j, e1, e2, _, q⟩ => h pins s σ H x y v u Q I rx ry ⟨i, j, e1, e2, q⟩
theorem ZL : O2 S (binaryOp .Sub) lO := xT (gd := fun a b => .int (a - b)) (fun _ => PR op_sub) (fun _ _ _ _ _ => by simp [aF]) fun d e w r h => by
 subst h; cases d <;> cases e <;> simp [lO]
theorem tN : O2 S (compareOp .LtE) HH := xT (gd := fun a b => .bl (decide (a ≤ b))) (fun _ => PR op_le) (fun _ _ _ _ _ => by simp [aF]) fun d e w r h => by
 subst h; cases d <;> cases e <;> simp [HH]
theorem aFB : O2 S (compareOp .Gt) NJ := xT (gd := fun a b => .bl (decide (b < a))) (fun _ => PR op_gt) (fun _ _ _ _ _ => by simp [aF]) fun d e w r h => by
 subst h; cases d <;> cases e <;> simp [NJ]
theorem aFM : O2 S (compareOp .GtE) geM := xT (gd := fun a b => .bl (decide (b ≤ a))) (fun _ => PR op_ge) (fun _ _ _ _ _ => by simp [aF]) fun d e w r h => by
 subst h; cases d <;> cases e <;> simp [geM]
theorem VD : O2 S (binaryOp .FloorDiv) wR := xT (gd := fun a b => .int (a / b)) (fun _ => op_fdiv) (fun _ _ _ _ _ => by simp [aF]) fun d e w r h => by
 subst h; cases d <;> cases e <;> simp only [wR, true_or, reduceCtorEq, false_and, and_false, exists_const, or_false]
 rename_i a b
 by_cases hc : 0 < b ∧ b < 1073741824
 ·rw [if_pos hc]; exact .inr ⟨a, b, rfl, rfl, hc, rfl⟩
 ·rw [if_neg hc]; exact .inl rfl
theorem xW : O2 S (binaryOp .Mod) kH := xT (gd := fun a b => .int (a % b)) (fun _ => op_mod) (fun _ _ _ _ _ => by simp [aF]) fun d e w r h => by
 subst h; cases d <;> cases e <;> simp only [kH, true_or, reduceCtorEq, false_and, and_false, exists_const, or_false]
 rename_i a b
 by_cases hc : 0 < b
 ·rw [if_pos hc]; exact .inr ⟨a, b, rfl, rfl, hc, rfl⟩
 ·rw [if_neg hc]; exact .inl rfl
theorem aFj : O2 S (binaryOp .Pow) TN := xT (gd := fun a b => .int (a ^ b.toNat)) (fun _ => op_pow) (fun _ _ _ _ _ => by simp [aF]) fun d e w r h => by
 subst h; cases d <;> cases e <;> simp only [TN, true_or, reduceCtorEq, false_and, and_false, exists_const, or_false]
 rename_i a b
 by_cases hc : 0 ≤ b ∧ b ≤ 1000000 ∧ a.natAbs < 2 ^ 64
 ·rw [if_pos hc]; exact .inr ⟨a, b, rfl, rfl, hc, rfl⟩
 ·rw [if_neg hc]; exact .inl rfl
theorem jX {K : PySem.W.Frag} {I : List Addr} {F G H : Hp} {E : XK} {w : W} {ds : List D} {vs : List V} {Q : VK} (rel : Rel K I F G w H) (r : RepL K I F ds vs) (p : a7 K I F G E (RV K Q) (.ok (.lst ds) w)) : ∀ q, H q = none → Q (.ref q) (upd H q (.lst vs)) := fun q hq => by
 have hF : F q = none := by
  cases h : F q with
  | none => rfl
  | some u => rw [rel.fz _ _ h] at hq; cases hq
 have e : Ext I F I (upd F q (.lst vs)) := ⟨List.prefix_refl _, fun a u h => by rw [upd_ne (ne_of_none h hF)]; exact h⟩
 refine p I (upd F q (.lst vs)) (upd H q (.lst vs)) e ⟨rel.len, rel.nd, fun i a o h1 h2 => ?_, fun a u h => ?_, fun i a o h h0 hf => ?_, fun a u h => ?_, fun a u h => ?_, rel.gt⟩ _ ?_
 ·obtain ⟨u, h3, h4⟩ := rel.ob i a o h1 h2
  exact ⟨u, by rw [upd_ne (ne_of_none h3 hq)]; exact h3, k9.ext e h4⟩
 ·by_cases ha : a = q
  ·subst ha; rw [upd_same] at h ⊢; exact h
  ·rw [upd_ne ha] at h ⊢; exact rel.fz a u h
 ·obtain ⟨u, h3, _⟩ := rel.ob i a o h h0
  rw [upd_ne (ne_of_none h3 hq)]; exact rel.ap i a o h h0 hf
 ·rw [upd_ne (ne_of_none (rel.gz a u h) hq)]; exact rel.gz a u h
 ·rw [upd_ne (ne_of_none (rel.gz a u h) hq)]; exact rel.gf a u h
 ·simp only [aF]
  exact ⟨q, vs, rfl, upd_same, RepL.ext e _ _ r⟩
theorem zJ {K : PySem.W.Frag} {I : List Addr} {F G H : Hp} {E : XK} {w : W} {ds : List D} {vs : List V} {Q : VK} (rel : Rel K I F G w H) (r : RepL K I F ds vs) (p : a7 K I F G E (RV K Q) (.ok (.tup ds) w)) : ∀ q, H q = none → Q (.ref q) (upd H q (.tup vs)) := fun q hq => by
 have hF : F q = none := by
  cases h : F q with
  | none => rfl
  | some u => rw [rel.fz _ _ h] at hq; cases hq
 have e : Ext I F I (upd F q (.tup vs)) := ⟨List.prefix_refl _, fun a u h => by rw [upd_ne (ne_of_none h hF)]; exact h⟩
 refine p I (upd F q (.tup vs)) (upd H q (.tup vs)) e ⟨rel.len, rel.nd, fun i a o h1 h2 => ?_, fun a u h => ?_, fun i a o h h0 hf => ?_, fun a u h => ?_, fun a u h => ?_, rel.gt⟩ _ ?_
 ·obtain ⟨u, h3, h4⟩ := rel.ob i a o h1 h2
  exact ⟨u, by rw [upd_ne (ne_of_none h3 hq)]; exact h3, k9.ext e h4⟩
 ·by_cases ha : a = q
  ·subst ha; rw [upd_same] at h ⊢; exact h
  ·rw [upd_ne ha] at h ⊢; exact rel.fz a u h
 ·obtain ⟨u, h3, _⟩ := rel.ob i a o h h0
  rw [upd_ne (ne_of_none h3 hq)]; exact rel.ap i a o h h0 hf
 ·rw [upd_ne (ne_of_none (rel.gz a u h) hq)]; exact rel.gz a u h
 ·rw [upd_ne (ne_of_none (rel.gz a u h) hq)]; exact rel.gf a u h
 ·simp only [aF]
  exact ⟨q, vs, rfl, upd_same, RepL.ext e _ _ r⟩
theorem RepL.eq_nil {K : PySem.W.Frag} {I : List Addr} {F : Hp} {ds : List D} (r : RepL K I F ds []) : ds = [] := by
 have := r.length
 exact List.eq_nil_of_length_eq_zero (by simpa using this)
theorem cH : O2 S (binaryOp .Add) bH := gC fun X E c xo I F G d e w H x y Q rel rd re p => by
 cases d <;> cases e <;> first | exact p.elim | skip
 ·simp only [aF] at rd re
  exact ⟨_, op_add, _, _, rd, re, p I F H .refl rel _ (by simp [aF])⟩
 ·rename_i a b
  simp only [aF] at rd re
  simp only [bH] at p
  split at p
  ·rename_i hl
   exact ⟨_, op_add_str, _, _, rd, re, hl, p I F H .refl rel _ (by simp [aF])⟩
  ·exact p.elim
 ·rename_i a b
  simp only [aF] at rd re
  obtain ⟨q, vs, rfl, h1, h2⟩ := rd
  obtain ⟨q', vs', rfl, h1', h2'⟩ := re
  simp only [bH] at p
  split at p
  ·rename_i hl
   refine ⟨_, op_catA, q, q', vs, vs', rfl, rfl, .of (rel.fz _ _ h1), .of (rel.fz _ _ h1'), by rw [← h2.length, ← h2'.length]; exact hl, fun hn => ?_, fun _ hn => ?_, fun _ _ => ?_⟩
   ·subst hn
    obtain rfl := h2.eq_nil
    exact p I F H .refl rel _ (by simp only [aF, List.nil_append]; exact ⟨_, _, rfl, h1', h2'⟩)
   ·subst hn
    obtain rfl := h2'.eq_nil
    exact p I F H .refl rel _ (by simp only [aF, List.append_nil]; exact ⟨_, _, rfl, h1, h2⟩)
   ·exact zJ rel (h2.append h2') p
  ·exact p.elim
 ·rename_i a b
  simp only [aF] at rd re
  obtain ⟨q, vs, rfl, h1, h2⟩ := rd
  obtain ⟨q', vs', rfl, h1', h2'⟩ := re
  simp only [bH] at p
  split at p
  ·rename_i hl
   exact ⟨_, op_cat, q, q', vs, vs', rfl, rfl, rel.fz _ _ h1, rel.fz _ _ h1', by rw [← h2.length, ← h2'.length]; exact hl, jX rel (h2.append h2') p⟩
  ·exact p.elim
theorem RepL.rep {K : PySem.W.Frag} {I : List Addr} {F : Hp} {ds : List D} {vs : List V} (r : RepL K I F ds vs) : ∀ n : Nat, RepL K I F (List.replicate n ds).flatten (List.replicate n vs).flatten
 | 0 => by simp [RepL]
 | n + 1 => by
  rw [List.replicate_succ, List.replicate_succ, List.flatten_cons, List.flatten_cons]
  exact r.append (r.rep n)
theorem A9 : O2 S (binaryOp .Mult) mulM := gC fun X E c xo I F G d e w H x y Q rel rd re p => by
 cases d <;> cases e <;> first | exact p.elim | skip
 ·rename_i a b
  simp only [aF] at rd re
  simp only [mulM] at p
  split at p
  ·rename_i hl
   refine ⟨_, op_mul, _, _, rd, re, ?_, p I F H .refl rel _ (by simp [aF])⟩
   simpa [EK, CMul] using hl
  ·exact p.elim
 ·rename_i a b
  simp only [aF] at rd re
  obtain ⟨q, vs, rfl, h1, h2⟩ := rd
  simp only [mulM] at p
  split at p
  ·rename_i hl
   exact ⟨_, op_rep, q, b, vs, rfl, re, rel.fz _ _ h1, hl.1, hl.2.1, by rw [← h2.length]; exact hl.2.2, jX rel (h2.rep _) p⟩
  ·exact p.elim
theorem aEx : O2 S (compareOp .Eq) aE6 := gC fun X E c xo I F G d e w H x y Q rel rd re p => by
 unfold aE6 wF at p
 split at p
 ·rename_i b hb
  split at hb
  ·rename_i p1 q1 e1 e2
   split at hb
   ·rename_i hs
    cases hb
    exact ⟨_, op_eqD c.room.units, p1, q1, wY rel rd e1, wY rel re e2, hs.1, hs.2, p I F H .refl rel _ (by simp [aF])⟩
   ·cases hb
  ·cases hb
 ·exact p.elim
theorem aEn : O2 S (compareOp .NotEq) aEE := gC fun X E c xo I F G d e w H x y Q rel rd re p => by
 unfold aEE wF at p
 split at p
 ·rename_i b hb
  split at hb
  ·rename_i p1 q1 e1 e2
   split at hb
   ·rename_i hs
    cases hb
    exact ⟨_, op_neD c.room.units, p1, q1, wY rel rd e1, wY rel re e2, hs.1, hs.2, p I F H .refl rel _ (by simp [aF])⟩
   ·cases hb
  ·cases hb
 ·exact p.elim
theorem WN {K : PySem.W.Frag} {I : List Addr} {F : Hp} {d : D} {v : V} (h : aF K I F d v) : decide (v = .non) = d.isNon := by
 cases d <;> simp only [aF] at h
 case non => subst h; rfl
 case bl => subst h; rfl
 case int => subst h; rfl
 case str => subst h; rfl
 case ty => subst h; rfl
 case con => subst h; rfl
 case tup => obtain ⟨a, vs, rfl, _⟩ := h; rfl
 case lst => obtain ⟨a, vs, rfl, _⟩ := h; rfl
 case qG => obtain ⟨a, vs, rfl, _⟩ := h; rfl
 case jA => obtain ⟨a, vs, rfl, _⟩ := h; rfl
 case H0 => obtain ⟨a, vs, rfl, _⟩ := h; rfl
 case ref => obtain ⟨a, rfl, _⟩ := h; rfl
theorem aCh {x : D} {w : W} : Y4 x .non w = .ok (.bl x.isNon) w := by cases x <;> rfl
theorem EB {n : Nat} {xs : List D} (h : n = xs.length) : ((List.range (min n 0)).all (fun _ => true) && n == 0) = xs.isEmpty := by
 subst h
 cases xs <;> simp
theorem DW {X : Cx} {pins : List (Addr × Obj)} {σ : L2.St} {H : Hp} {s : Shared} (J : Inv X pins σ H s) {a : Addr} {vs : List V} (h : H a = some (.tup vs)) : ∃ its : Array Value, s.heap.IsTuple a its ∧ its.size = vs.length := by
 obtain ⟨its, rv, ht, _⟩ := J.tuple (show SqT X.K H a vs from .of h)
 refine ⟨its.toArray, ht, ?_⟩
 rw [List.size_toArray]
 exact (Vals.length rv).symm
theorem DO {X : Cx} {pins : List (Addr × Obj)} {σ : L2.St} {H : Hp} {s : Shared} (J : Inv X pins σ H s) {a : Addr} {vs : List V} (h : H a = some (.lst vs)) : ∃ its : Array Value, s.heap.IsList a its ∧ its.size = vs.length := by
 obtain ⟨its, rv, ⟨o, n, ho, hc, _, hd⟩, _⟩ := J.list (show SqL X.K H a vs from .of h)
 refine ⟨its.toArray, ⟨o, ho, hc, n, hd⟩, ?_⟩
 rw [List.size_toArray]
 exact (Vals.length rv).symm
theorem nA : O2 S (compareOp .Eq) fN := fun X E c xo pins s σ H x y v u Q J rx ry ⟨I, F, G, d, e, w, rel, rd, re, p⟩ => by
 unfold fN yR at p
 cases h0 : wF d e w with
 | some b =>
  rw [h0] at p
  exact aEx X E c xo pins s σ H x y v u Q J rx ry ⟨I, F, G, d, e, w, rel, rd, re, by unfold aE6; rw [h0]; exact p⟩
 | none =>
  rw [h0] at p
  simp only at p
  have hu : X.A.units < cLine := by have := c.room.units; omega
  unfold aAz at p
  split at p
  ·rename_i b hb
   split at hb
   ·rename_i xs
    cases hb
    simp only [aF, RepL] at rd re
    obtain ⟨a, vs, rfl, h2, h3⟩ := rd
    obtain ⟨b, us, rfl, h4, rfl⟩ := re
    obtain rfl : v = Value.ref a := rx
    obtain rfl : u = Value.ref b := ry
    obtain ⟨i1, t1, l1⟩ := DW J (rel.fz _ _ h2)
    obtain ⟨i2, t2, l2⟩ := DW J (rel.fz _ _ h4)
    have z : i2.size = 0 := l2
    refine SeqAt.eq_tupleAt (e := fun _ => true) t1 t2 hu (fun j h1 h2 => absurd h2 (by omega)) ?_
    rw [z, EB (l1.trans h3.length.symm)]
    exact ⟨.bl xs.isEmpty, H, J, rfl, p I F H .refl rel _ (by simp [aF])⟩
   ·rename_i xs
    cases hb
    simp only [aF, RepL] at rd re
    obtain ⟨a, vs, rfl, h2, h3⟩ := rd
    obtain ⟨b, us, rfl, h4, rfl⟩ := re
    obtain rfl : v = Value.ref a := rx
    obtain rfl : u = Value.ref b := ry
    obtain ⟨i1, t1, l1⟩ := DO J (rel.fz _ _ h2)
    obtain ⟨i2, t2, l2⟩ := DO J (rel.fz _ _ h4)
    have z : i2.size = 0 := l2
    have lx : i1.size = xs.length := l1.trans h3.length.symm
    cases xs with
    | nil =>
     refine SeqAt.eq_listAt (e := fun _ => true) t1 t2 (lx.trans z.symm) hu (fun j h1 h2 => absurd h2 (by omega)) ?_
     have : (List.range i1.size).all (fun _ => true) = true := by simp
     rw [this]
     exact ⟨.bl true, H, J, rfl, p I F H .refl rel _ (by simp [aF])⟩
    | cons x xs =>
     refine SeqAt.eq_list_lengthsAt t1 t2 (by rw [lx, z]; rfl) hu ?_
     exact ⟨.bl false, H, J, rfl, p I F H .refl rel _ (by simp [aF])⟩
   ·cases hb
  ·exact p.elim
theorem uZ : O2 S (compareOp .NotEq) qX := fun X E c xo pins s σ H x y v u Q J rx ry ⟨I, F, G, d, e, w, rel, rd, re, p⟩ => by
 unfold qX yR at p
 cases h0 : wF d e w with
 | some b =>
  rw [h0] at p
  exact aEn X E c xo pins s σ H x y v u Q J rx ry ⟨I, F, G, d, e, w, rel, rd, re, by unfold aEE; rw [h0]; exact p⟩
 | none =>
  rw [h0] at p
  simp only at p
  have hu : X.A.units < cLine := by have := c.room.units; omega
  unfold aAz at p
  split at p
  ·rename_i b hb
   split at hb
   ·rename_i xs
    cases hb
    simp only [aF, RepL] at rd re
    obtain ⟨a, vs, rfl, h2, h3⟩ := rd
    obtain ⟨b, us, rfl, h4, rfl⟩ := re
    obtain rfl : v = Value.ref a := rx
    obtain rfl : u = Value.ref b := ry
    obtain ⟨i1, t1, l1⟩ := DW J (rel.fz _ _ h2)
    obtain ⟨i2, t2, l2⟩ := DW J (rel.fz _ _ h4)
    have z : i2.size = 0 := l2
    refine SeqAt.RcNeAt.tuples (e := fun _ => true) t1 t2 hu (fun j h1 h2 => absurd h2 (by omega)) _ _ _ _ ?_
    rw [z, EB (l1.trans h3.length.symm)]
    exact ⟨.bl (!xs.isEmpty), H, J, rfl, p I F H .refl rel _ (by simp [aF])⟩
   ·rename_i xs
    cases hb
    simp only [aF, RepL] at rd re
    obtain ⟨a, vs, rfl, h2, h3⟩ := rd
    obtain ⟨b, us, rfl, h4, rfl⟩ := re
    obtain rfl : v = Value.ref a := rx
    obtain rfl : u = Value.ref b := ry
    obtain ⟨i1, t1, l1⟩ := DO J (rel.fz _ _ h2)
    obtain ⟨i2, t2, l2⟩ := DO J (rel.fz _ _ h4)
    have z : i2.size = 0 := l2
    have lx : i1.size = xs.length := l1.trans h3.length.symm
    cases xs with
    | nil =>
     refine SeqAt.RcNeAt.lists (e := fun _ => true) t1 t2 (lx.trans z.symm) hu (fun j h1 h2 => absurd h2 (by omega)) _ _ _ _ ?_
     have : (List.range i1.size).all (fun _ => true) = true := by simp
     rw [this]
     exact ⟨.bl false, H, J, rfl, p I F H .refl rel _ (by simp [aF])⟩
    | cons x xs =>
     refine SeqAt.RcNeAt.lists_lengths t1 t2 (by rw [lx, z]; rfl) hu _ _ _ _ ?_
     exact ⟨.bl true, H, J, rfl, p I F H .refl rel _ (by simp [aF])⟩
   ·cases hb
  ·exact p.elim
theorem UZ : O2 S (compareOp .Is) Y4 := gC fun X E c xo I F G d e w H x y Q rel rd re p => by
 cases e
 case non =>
  simp only [aCh] at p
  simp only [aF] at re
  exact ⟨_, op_isN, re, p I F H .refl rel _ (by simp [aF, WN rd])⟩
 case bl b =>
  cases d <;> first | exact p.elim | skip
  simp only [aF] at rd re
  exact ⟨_, op_isBl, _, _, rd, re, p I F H .refl rel _ (by simp [aF])⟩
 all_goals (cases d <;> exact p.elim)
theorem BN : O1 S (unaryOp .USub) sO := fun X E c xo pins s σ H x v Q I rx ⟨J, F, G, d, w, rel, rd, p⟩ => by
 cases d <;> first | exact p.elim | skip
 simp only [aF] at rd
 exact un_neg pins s σ H x v Q I rx ⟨_, rd, p J F H .refl rel _ (by simp [aF])⟩
end
def n8 (d : D) (w : W) : Option Bool := match d with
 | .non => some false
 | .bl b => some b
 | .int i => some (i != 0)
 | .str x => if x.length ≤ sizeLine then some ((x.length : Int) != 0) else none
 | .tup xs => some (!xs.isEmpty)
 | .lst xs => some (!xs.isEmpty)
 | .qG xs => some (!xs.isEmpty)
 | .jA xs => some (!xs.isEmpty)
 | .ref i => (match w[i]? with
  | some (.lst xs) => some (!xs.isEmpty)
  | some (.dK kvs) => some (!kvs.isEmpty)
  | _ => none)
 | _ => none
theorem RepL.isEmpty {K : PySem.W.Frag} {I : List Addr} {F : Hp} {ds : List D} {vs : List V} (r : RepL K I F ds vs) : vs.isEmpty = ds.isEmpty := by
 cases ds with
 | nil => simp only [RepL] at r; subst r; rfl
 | cons d ds => simp only [RepL] at r; obtain ⟨v, t, rfl, _⟩ := r; rfl
theorem aS.isEmpty {κ : Type} {K : PySem.W.Frag} {I : List Addr} {F : Hp} {ds : List (κ × D)} {vs : List (κ × V)} (r : aS K I F ds vs) : vs.isEmpty = ds.isEmpty := by
 cases ds with
 | nil => simp only [aS] at r; subst r; rfl
 | cons d ds => obtain ⟨k, d⟩ := d; simp only [aS] at r; obtain ⟨v, t, rfl, _⟩ := r; rfl
theorem aCv {K : PySem.W.Frag} {I : List Addr} {F G H : Hp} {w : W} (rel : Rel K I F G w H) {d : D} {v : V} (h : aF K I F d v) {b : Bool} (e : n8 d w = some b) : TruV K v H b := by
 cases d <;> simp only [aF] at h
 case non => subst h; simp only [n8, ah] at e; exact e.symm
 case bl => subst h; simp only [n8, ah] at e; exact e.symm
 case int => subst h; simp only [n8, ah] at e; exact e.symm
 case str x =>
  subst h
  simp only [n8] at e
  split at e
  ·rename_i hl
   cases e; exact ⟨hl, rfl⟩
  ·cases e
 case ty => cases e
 case con => cases e
 case H0 => cases e
 case tup xs =>
  obtain ⟨a, vs, rfl, h1, h2⟩ := h
  simp only [n8, ah] at e
  exact .inr (.inl ⟨vs, .of (rel.fz _ _ h1), by rw [h2.isEmpty]; exact e.symm⟩)
 case jA xs =>
  obtain ⟨a, vs, rfl, h1, h2⟩ := h
  simp only [n8, ah] at e
  exact .inr (.inl ⟨vs, rel.K2 h1, by rw [h2.isEmpty]; exact e.symm⟩)
 case lst xs =>
  obtain ⟨a, vs, rfl, h1, h2⟩ := h
  simp only [n8, ah] at e
  exact .inl ⟨vs, .of (rel.fz _ _ h1), by rw [h2.isEmpty]; exact e.symm⟩
 case qG xs =>
  obtain ⟨a, vs, rfl, h1, h2⟩ := h
  simp only [n8, ah] at e
  exact .inl ⟨vs, rel.XY h1, by rw [h2.isEmpty]; exact e.symm⟩
 case ref i =>
  obtain ⟨a, rfl, h1⟩ := h
  simp only [n8] at e
  split at e
  ·rename_i xs hw
   cases e
   obtain ⟨u, hu, vs, rfl, h2⟩ := rel.ob i a _ h1 hw
   exact .inl ⟨vs, .of hu, by rw [h2.isEmpty]⟩
  ·rename_i kvs hw
   cases e
   obtain ⟨u, hu, vs, rfl, h2⟩ := rel.ob i a _ h1 hw
   exact .inr (.inr ⟨vs, hu, by rw [h2.isEmpty]⟩)
  ·cases e
def iA (d : D) (w : W) : Res Bool := match n8 d w with
 | some b => .ok b w
 | none => .bad
def eQ (m : ME) : MT := fun σ w => (m σ w).bind iA
def gG (a b : MT) : MT := fun σ w => (a σ w).bind fun c w1 => if c = true then b σ w1 else .ok false w1
def h8 (a b : MT) : MT := fun σ w => (a σ w).bind fun c w1 => if c = true then .ok true w1 else b σ w1
def cN (a : MT) : MT := fun σ w => (a σ w).bind fun c w1 => .ok (!c) w1
def jC (a b : ME) : ME := fun σ w => (a σ w).bind fun x w1 => (iA x w1).bind fun c _ => if c = true then b σ w1 else .ok x w1
def eOr (a b : ME) : ME := fun σ w => (a σ w).bind fun x w1 => (iA x w1).bind fun c _ => if c = true then .ok x w1 else b σ w1
def notM (x : D) (w : W) : Res D := (iA x w).bind fun c _ => .ok (.bl (!c)) w
def W6 (t : MT) (a b : ME) : ME := fun σ w => (t σ w).bind fun c w1 => if c = true then a σ w1 else b σ w1
section
variable {S : aQ} {pos : Pos} {a b c : Expr} {ma mb : ME} {ta tb : MT} {rest : List Expr}
theorem bM {α : Type} {K : PySem.W.Frag} {E : XK} {m : ME} {f : Sg → D → W → Res α} {I : List Addr} {F G H : Hp} {ds : Sg} {w : W} {σ : L2.St} {R : List Addr → Hp → Hp → α → W → Prop} (rel : Rel K I F G w H) (rs : fX K I F ds σ)
  (p : a7 K I F G E R ((m ds w).bind (f ds))) {Q : VK} (k : ∀ I1 F1 H1 x w1 v, Ext I F I1 F1 → Rel K I1 F1 G w1 H1 → fX K I1 F1 ds σ → aF K I1 F1 x v → a7 K I1 F1 G E R (f ds x w1) → Q v H1) : r5 K E m σ H Q :=
 ⟨I, F, G, ds, w, rel, rs, (a7.bind p).mono fun I1 F1 H1 x w1 _ e1 rel1 p1 v rv => k I1 F1 H1 x w1 v e1 rel1 (rs.ext e1) rv p1⟩
theorem qV {α : Type} {K : PySem.W.Frag} {E : XK} {m : MT} {f : Sg → Bool → W → Res α} {I : List Addr} {F G H : Hp} {ds : Sg} {w : W} {σ : L2.St} {R : List Addr → Hp → Hp → α → W → Prop} (rel : Rel K I F G w H) (rs : fX K I F ds σ)
  (p : a7 K I F G E R ((m ds w).bind (f ds))) {Q : Bool → Hp → Prop} (k : ∀ I1 F1 H1 c w1, Ext I F I1 F1 → Rel K I1 F1 G w1 H1 → fX K I1 F1 ds σ → a7 K I1 F1 G E R (f ds c w1) → Q c H1) : UM K E m σ H Q :=
 ⟨I, F, G, ds, w, rel, rs, (a7.bind p).mono fun I1 F1 H1 x w1 _ e1 rel1 p1 => k I1 F1 H1 x w1 e1 rel1 (rs.ext e1) p1⟩
theorem cX {α : Type} {K : PySem.W.Frag} {E : XK} {m : MA} {f : Sg → List D → W → Res α} {I : List Addr} {F G H : Hp} {ds : Sg} {w : W} {σ : L2.St} {R : List Addr → Hp → Hp → α → W → Prop} (rel : Rel K I F G w H) (rs : fX K I F ds σ)
  (p : a7 K I F G E R ((m ds w).bind (f ds))) {Q : List V → Hp → Prop} (k : ∀ I1 F1 H1 xs w1 vs, Ext I F I1 F1 → Rel K I1 F1 G w1 H1 → fX K I1 F1 ds σ → RepL K I1 F1 xs vs → a7 K I1 F1 G E R (f ds xs w1) → Q vs H1) : aCu K E m σ H Q :=
 ⟨I, F, G, ds, w, rel, rs, (a7.bind p).mono fun I1 F1 H1 x w1 _ e1 rel1 p1 v rv => k I1 F1 H1 x w1 v e1 rel1 (rs.ext e1) rv p1⟩
theorem a7.mU {K : PySem.W.Frag} {I : List Addr} {F G H : Hp} {E : XK} {Q : VK} {d : D} {w : W} (p : a7 K I F G E (RV K Q) (.ok d w)) (rel : Rel K I F G w H) {v : V} (h : aF K I F d v) : Q v H := p I F H .refl rel v h
theorem a7.okB {K : PySem.W.Frag} {I : List Addr} {F G H : Hp} {E : XK} {Q : Bool → Hp → Prop} {b : Bool} {w : W} (p : a7 K I F G E (RB Q) (.ok b w)) (rel : Rel K I F G w H) : Q b H := p I F H .refl rel
theorem a7.truth {α : Type} {K : PySem.W.Frag} {I : List Addr} {F G H : Hp} {E : XK} {R : List Addr → Hp → Hp → α → W → Prop} {d : D} {w : W} {v : V} {f : Bool → W → Res α} (p : a7 K I F G E R ((iA d w).bind f)) (rel : Rel K I F G w H) (h : aF K I F d v) :
  ∃ b, TruV K v H b ∧ a7 K I F G E R (f b w) := by
 unfold iA at p
 split at p
 ·rename_i b e
  exact ⟨b, aCv rel h e, p⟩
 ·exact p.elim
theorem fB (ha : JE S a ma) (he : ∀ (env : Env) (whole : Sem Value), isTrue a env whole = (do let v ← whole; standAt a.pos; holding [v] (truthy v)) := by intro _ _; rfl) : JT S a (eQ ma) := fun X E cx xo =>
 DV (pt_truth (ha X E cx xo) (he X.env)) fun σ H Q ⟨I, F, G, ds, w, rel, rs, p⟩ => bM (f := fun _ => iA) rel rs p fun I1 F1 H1 x w1 v e1 rel1 rs1 rv p1 => by
  have p2 : a7 X.K I1 F1 G E (RB Q) ((iA x w1).bind fun b w => .ok b w) := by
   cases h : iA x w1 <;> rw [h] at p1 <;> exact p1
  obtain ⟨b, hb, p3⟩ := p2.truth rel1 rv
  exact ⟨b, hb, p3.okB rel1⟩
theorem zB (h : JW S a ta) : JT S a ta := fun X E cx xo => (h X E cx xo).pt
theorem DN (ha : JT S a ta) : JW S (.BoolOp .And [a] pos) ta := fun X E cx xo => pw_and1 (ha X E cx xo)
theorem pQ (ha : JT S a ta) : JW S (.BoolOp .Or [a] pos) ta := fun X E cx xo => pw_or1 (ha X E cx xo)
theorem K6 (ha : JT S a ta) (hb : JW S (.BoolOp .And (b :: rest) pos) tb) : JW S (.BoolOp .And (a :: b :: rest) pos) (gG ta tb) := fun X E cx xo =>
 VS (pw_and (ha X E cx xo) (hb X E cx xo)) fun σ H Q ⟨I, F, G, ds, w, rel, rs, p⟩ => qV (f := fun ds c w1 => if c = true then tb ds w1 else .ok false w1) rel rs p fun I1 F1 H1 c w1 e1 rel1 rs1 p1 => by
  cases c with
  | true => exact ⟨I1, F1, G, ds, w1, rel1, rs1, p1⟩
  | false => exact p1.okB rel1
theorem qH (ha : JT S a ta) (hb : JW S (.BoolOp .Or (b :: rest) pos) tb) : JW S (.BoolOp .Or (a :: b :: rest) pos) (h8 ta tb) := fun X E cx xo =>
 VS (pw_or (ha X E cx xo) (hb X E cx xo)) fun σ H Q ⟨I, F, G, ds, w, rel, rs, p⟩ => qV (f := fun ds c w1 => if c = true then .ok true w1 else tb ds w1) rel rs p fun I1 F1 H1 c w1 e1 rel1 rs1 p1 => by
  cases c with
  | true => exact p1.okB rel1
  | false => exact ⟨I1, F1, G, ds, w1, rel1, rs1, p1⟩
theorem hZ (ha : JT S a ta) : JT S (.UnaryOp .Not a pos) (cN ta) := fun X E cx xo =>
 DV (pt_not (ha X E cx xo)) fun σ H Q ⟨I, F, G, ds, w, rel, rs, p⟩ => qV (f := fun _ c w1 => .ok (!c) w1) rel rs p fun I1 F1 H1 c w1 e1 rel1 rs1 p1 => p1.okB rel1
theorem yG {op : BoolOp} (h : JE S a ma) : JE S (.BoolOp op [a] pos) ma := fun X E cx xo => pe_one (h X E cx xo)
theorem r6 (ha : JE S a ma) (hb : JE S (.BoolOp .And (b :: rest) pos) mb) : JE S (.BoolOp .And (a :: b :: rest) pos) (jC ma mb) := fun X E cx xo =>
 cF (pe_andT (ha X E cx xo) (hb X E cx xo)) fun σ H Q ⟨I, F, G, ds, w, rel, rs, p⟩ => bM (f := fun ds x w1 => (iA x w1).bind fun c _ => if c = true then mb ds w1 else .ok x w1) rel rs p fun I1 F1 H1 x w1 v e1 rel1 rs1 rv p1 => by
  obtain ⟨k, hk, p2⟩ := p1.truth rel1 rv
  refine ⟨k, hk, ?_⟩
  cases k with
  | true => exact ⟨I1, F1, G, ds, w1, rel1, rs1, p2⟩
  | false => exact p2.mU rel1 rv
theorem aFm (ha : JE S a ma) : JE S (.UnaryOp .Not a pos) (AQ notM ma) := fun X E cx xo =>
 cF (pe_notT (ha X E cx xo)) fun σ H Q ⟨I, F, G, ds, w, rel, rs, p⟩ => bM (f := fun _ => notM) rel rs p fun I1 F1 H1 x w1 v e1 rel1 rs1 rv p1 => by
  obtain ⟨k, hk, p2⟩ := a7.truth p1 rel1 rv
  exact ⟨k, hk, p2.mU rel1 (by simp [aF])⟩
theorem P0 (ht : JT S c ta) (ha : JE S a ma) (hb : JE S b mb) : JE S (.IfExp c a b pos) (W6 ta ma mb) := fun X E cx xo =>
 cF (pe_ifExp (ht X E cx xo) (ha X E cx xo) (hb X E cx xo)) fun σ H Q ⟨I, F, G, ds, w, rel, rs, p⟩ => qV (f := fun ds c w1 => if c = true then ma ds w1 else mb ds w1) rel rs p fun I1 F1 H1 c w1 e1 rel1 rs1 p1 => by
  cases c with
  | true => exact ⟨I1, F1, G, ds, w1, rel1, rs1, p1⟩
  | false => exact ⟨I1, F1, G, ds, w1, rel1, rs1, p1⟩
end
def aE : MA := fun _ w => .ok [] w
def aA (a : ME) (r : MA) : MA := fun σ w => (a σ w).bind fun x w1 => (r σ w1).bind fun xs w2 => .ok (x :: xs) w2
def bR (a : MA) : ME := fun σ w => (a σ w).bind fun xs w1 => if xs.length ≤ sizeLine then .ok (.tup xs) w1 else .bad
def fP (a : MA) : ME := fun σ w => (a σ w).bind fun xs w1 => if xs.length ≤ sizeLine then .ok (.lst xs) w1 else .bad
def eNew (a : MA) : ME := fun σ w => (a σ w).bind fun xs w1 => if xs.length ≤ sizeLine then .ok (.ref w1.length) (w1 ++ [.lst xs]) else .bad
theorem vR {K : PySem.W.Frag} {I : List Addr} {F G H : Hp} {E : XK} {w : W} {o : MO} {u : HO} {Q : VK} (rel : Rel K I F G w H) (r : k9 K I F o u) (p : a7 K I F G E (RV K Q) (.ok (.ref w.length) (w ++ [o]))) : ∀ q, H q = none → Q (.ref q) (upd H q u) := fun q hq => by
 have hF : F q = none := by
  cases h : F q with
  | none => rfl
  | some u => rw [rel.fz _ _ h] at hq; cases hq
 have hI : q ∉ I := fun z => by
  obtain ⟨i, hi⟩ := List.mem_iff_getElem?.mp z
  have hl : i < w.length := by rw [← rel.len]; exact (ag.mp hi).1
  obtain ⟨u, h3, _⟩ := rel.ob i q _ hi (br hl)
  rw [h3] at hq; cases hq
 have e : Ext I F (I ++ [q]) F := ⟨List.prefix_append _ _, fun _ _ h => h⟩
 refine p (I ++ [q]) F (upd H q u) e ⟨by simp [rel.len], ?_, fun i a o' h1 h2 => ?_, fun a u' h => ?_, fun i a o' h h0 hf => ?_, fun a u' h => ?_, fun a u' h => ?_, rel.gt⟩ _ ?_
 ·rw [List.nodup_append]
  exact ⟨rel.nd, by simp, fun a ha b hb => by simp at hb; subst hb; exact fun z => hI (z ▸ ha)⟩
 ·by_cases hi : i < I.length
  ·rw [aq hi] at h1
   rw [aq (by rw [← rel.len]; exact hi)] at h2
   obtain ⟨u', h3, h4⟩ := rel.ob i a o' h1 h2
   exact ⟨u', by rw [upd_ne (ne_of_none h3 hq)]; exact h3, k9.ext e h4⟩
  ·have hi2 : i = I.length := by
    have := (ag.mp h1).1
    simp at this; omega
   subst hi2
   rw [bf (az _)] at h1
   simp at h1
   rw [rel.len, bf (az _)] at h2
   simp at h2
   subst h1 h2
   exact ⟨u, upd_same, k9.ext e r⟩
 ·rw [upd_ne (ne_of_none h hF)]; exact rel.fz a u' h
 ·by_cases hi : i < I.length
  ·rw [aq hi] at h
   rw [aq (by rw [← rel.len]; exact hi)] at h0
   exact rel.ap i a o' h h0 hf
  ·have hi2 : i = I.length := by
    have := (ag.mp h).1
    simp at this; omega
   subst hi2
   rw [bf (az _)] at h
   simp at h
   subst h; exact hF
 ·rw [upd_ne (ne_of_none (rel.gz a u' h) hq)]; exact rel.gz a u' h
 ·refine ⟨(rel.gf a u' h).1, fun z => ?_⟩
  rcases cf.mp z with z | z
  ·exact (rel.gf a u' h).2 z
  ·simp at z; subst z; rw [rel.gz a u' h] at hq; cases hq
 ·simp only [aF]
  refine ⟨q, rfl, ?_⟩
  rw [← rel.len, bf (az _)]
  simp
section
variable {S : aQ} {pos : Pos} {e : Expr} {es : List Expr} {m : ME} {ma : MA}
theorem aG : JA S [] aE := fun X E cx xo => VJ pa_nil fun σ H Q ⟨I, F, G, ds, w, rel, rs, p⟩ => p I F H .refl rel [] (by simp [RepL])
theorem aC (he : JE S e m) (hr : JA S es ma) (hs : ∀ env : Env, starEach (e :: es) env = (false, eval e env) :: starEach es env := by intro _; rfl) : JA S (e :: es) (aA m ma) := fun X E cx xo =>
 VJ (pa_cons (he X E cx xo) (hr X E cx xo) (hs X.env)) fun σ H Q ⟨I, F, G, ds, w, rel, rs, p⟩ =>
  bM (f := fun ds x w1 => (ma ds w1).bind fun xs w2 => .ok (x :: xs) w2) rel rs p fun I1 F1 H1 x w1 v e1 rel1 rs1 rv p1 =>
   cX (f := fun _ xs w2 => .ok (x :: xs) w2) rel1 rs1 p1 fun I2 F2 H2 xs w2 vs e2 rel2 rs2 rvs p2 => p2 I2 F2 H2 .refl rel2 _ (RepL.cons (aF.ext e2 _ _ rv) rvs)
theorem fW {k : Nat} (h : JA S es ma) : JE S (.Tuple es k pos) (bR ma) := fun X E cx xo =>
 cF (pe_tup (h X E cx xo)) fun σ H Q ⟨I, F, G, ds, w, rel, rs, p⟩ =>
  cX (f := fun _ xs w1 => if xs.length ≤ sizeLine then Res.ok (D.tup xs) w1 else .bad) rel rs p fun I1 F1 H1 xs w1 vs e1 rel1 rs1 rvs p1 => by
   split at p1
   ·rename_i hl
    exact ⟨by rw [← rvs.length]; exact hl, zJ rel1 rvs p1⟩
   ·exact p1.elim
theorem eE (h : JA S es ma) : JE S (.List es pos) (fP ma) := fun X E cx xo =>
 cF (pe_lst (h X E cx xo)) fun σ H Q ⟨I, F, G, ds, w, rel, rs, p⟩ =>
  cX (f := fun _ xs w1 => if xs.length ≤ sizeLine then Res.ok (D.lst xs) w1 else .bad) rel rs p fun I1 F1 H1 xs w1 vs e1 rel1 rs1 rvs p1 => by
   split at p1
   ·rename_i hl
    exact ⟨by rw [← rvs.length]; exact hl, jX rel1 rvs p1⟩
   ·exact p1.elim
theorem aEP (h : JA S es ma) : JE S (.List es pos) (eNew ma) := fun X E cx xo =>
 cF (pe_lst (h X E cx xo)) fun σ H Q ⟨I, F, G, ds, w, rel, rs, p⟩ =>
  cX (f := fun _ xs w1 => if xs.length ≤ sizeLine then Res.ok (D.ref w1.length) (w1 ++ [.lst xs]) else .bad) rel rs p fun I1 F1 H1 xs w1 vs e1 rel1 rs1 rvs p1 => by
   split at p1
   ·rename_i hl
    exact ⟨by rw [← rvs.length]; exact hl, vR (o := .lst xs) rel1 ⟨vs, rfl, rvs⟩ p1⟩
   ·exact p1.elim
end
def aX : MS := fun σ w => .ok (.nx σ) w
def aI (a b : MS) : MS := fun σ w => (a σ w).bind fun f w1 => match f with
 | .nx σ1 => b σ1 w1
 | f => .ok f w1
def aY (e : ME) : MS := fun σ w => (e σ w).bind fun d w1 => .ok (.rt d) w1
def cS (e : ME) : MS := fun σ w => (e σ w).bind fun _ w1 => .ok (.nx σ) w1
def dR (t : MT) (a b : MS) : MS := fun σ w => (t σ w).bind fun c w1 => if c = true then a σ w1 else b σ w1
abbrev MG := D → Sg → W → Res Sg
def aU (i : Nat) : MG := fun d σ w => .ok (σ.set i (some d)) w
def aT (e : ME) (g : MG) : MS := fun σ w => (e σ w).bind fun d w1 => (g d σ w1).bind fun σ2 w2 => .ok (.nx σ2) w2
def DD : MS := fun _ _ => .bad
def RSg (K : PySem.W.Frag) (Q : L2.St → Hp → Prop) : List Addr → Hp → Hp → Sg → W → Prop := fun I' F' H' s _ => ∀ s', fX K I' F' s s' → Q s' H'
def lowG (K : PySem.W.Frag) (E : XK) (g : MG) : TG := fun v σ H Q => ∃ I F G d ds w, Rel K I F G w H ∧ fX K I F ds σ ∧ aF K I F d v ∧ a7 K I F G E (RSg K Q) (g d ds w)
def JG (S : aQ) (t : Expr) (g : MG) : Prop := ∀ X E, Ctx S X → rP X E → PG X t (lowG X.K E g)
theorem wA {X : Cx} {e : Expr} {t t' : TG} (h : PG X e t) (k : ∀ v σ H Q, t' v σ H Q → t v σ H Q) : PG X e t' := ⟨fun pins s σ H v u Q I r q => h.run pins s σ H v u Q I r (k v σ H Q q)⟩
section
variable {S : aQ} {pos pos' : Pos} {e : Expr} {st : Stmt} {sts : List Stmt} {m : ME} {a b : MS} {g : MG} {t : MT}
theorem cP : q8 S [] aX := fun X E cx xo => QQ pss_nil fun Z σ H ⟨I, F, G, ds, w, rel, rs, p⟩ => p I F H .refl rel _ rs
theorem aAf {K : PySem.W.Frag} {E : XK} {Z : Ends} {σ : L2.St} {H : Hp} (h : OL K E (aI a b) Z σ H) : OL K E a { Z with nx := OL K E b Z } σ H := by
 obtain ⟨I, F, G, ds, w, rel, rs, p⟩ := h
 refine ⟨I, F, G, ds, w, rel, rs, (a7.bind p).mono fun I1 F1 H1 f w1 _ e1 rel1 p1 => ?_⟩
 cases f with
 | nx s => exact fun s' rs' => ⟨I1, F1, G, s, w1, rel1, rs', p1⟩
 | rt d => exact fun v rv => p1 I1 F1 H1 .refl rel1 v rv
 | bk s => exact fun s' rs' => p1 I1 F1 H1 .refl rel1 s' rs'
 | ct s => exact fun s' rs' => p1 I1 F1 H1 .refl rel1 s' rs'
theorem aL (h1 : JS S st a) (h2 : q8 S sts b) : q8 S (st :: sts) (aI a b) := fun X E cx xo =>
 QQ (pss_cons (h1 X E cx xo) (h2 X E cx xo)) fun Z σ H h => aAf h
theorem aW (h1 : JS S st a) : q8 S [st] a := fun X E cx xo => pss_one (h1 X E cx xo)
theorem bT (he : JE S e m) : JS S (.Return (some e) pos) (aY m) := fun X E cx xo =>
 jQ (ps_ret (he X E cx xo)) fun Z σ H ⟨I, F, G, ds, w, rel, rs, p⟩ => bM (f := fun _ d w1 => Res.ok (Fl.rt d) w1) rel rs p fun I1 F1 H1 x w1 v e1 rel1 rs1 rv p1 => p1 I1 F1 H1 .refl rel1 v rv
theorem yY (he : JE S e m) (hs : ∀ env : Env, swapsWith e none pos.line env = pure false := by intro _; rfl) : JS S (.Expr e pos) (cS m) := fun X E cx xo =>
 jQ (ps_expr (he X E cx xo) (hs X.env)) fun Z σ H ⟨I, F, G, ds, w, rel, rs, p⟩ => bM (f := fun ds _ w1 => Res.ok (Fl.nx ds) w1) rel rs p fun I1 F1 H1 x w1 v e1 rel1 rs1 rv p1 => p1 I1 F1 H1 .refl rel1 σ rs1
theorem f7 {x : Expr} {sa sb : List Stmt} (ht : JT S x t) (ha : q8 S sa a) (hb : q8 S sb b) : JS S (.If x sa sb pos) (dR t a b) := fun X E cx xo =>
 jQ (ps_if (ht X E cx xo) (ha X E cx xo) (hb X E cx xo)) fun Z σ H ⟨I, F, G, ds, w, rel, rs, p⟩ => qV (f := fun ds c w1 => if c = true then a ds w1 else b ds w1) rel rs p fun I1 F1 H1 c w1 e1 rel1 rs1 p1 => by
  cases c with
  | true => exact ⟨I1, F1, G, ds, w1, rel1, rs1, p1⟩
  | false => exact ⟨I1, F1, G, ds, w1, rel1, rs1, p1⟩
theorem G9 : JS S st DD := fun X E cx xo => jQ ps_never fun Z σ H ⟨I, F, G, ds, w, rel, rs, p⟩ => p.elim
def Sto (S : aQ) (x : Str) : Prop := Loc S.sc x ∧ (S.fn x = true ∨ S.sc.names.lookup x = some .local)
theorem aDq {i : Nat} {x : Str} (hi : S.N[i]? = some x) (hx : Sto S x) : JG S (.Name x pos) (aU i) := fun X E cx xo =>
 wA (pg_name (i := i) (x := x) cx.nd (by rw [cx.N]; exact hi) (by rw [cx.sc]; exact hx.1) (by rw [cx.sc]; exact hx.2.imp (cx.fn x) id)) fun v σ H Q ⟨I, F, G, d, ds, w, rel, rs, rv, p⟩ => p I F H .refl rel _ (rs.set i rv)
theorem V7 {K : PySem.W.Frag} {E : XK} {Z : Ends} {σ : L2.St} {H : Hp} (h : OL K E (aT m g) Z σ H) : r5 K E m σ H fun v H1 => lowG K E g v σ H1 Z.nx := by
 obtain ⟨I, F, G, ds, w, rel, rs, p⟩ := h
 exact bM (f := fun ds d w1 => (g d ds w1).bind fun σ2 w2 => Res.ok (Fl.nx σ2) w2) rel rs p fun I1 F1 H1 x w1 v e1 rel1 rs1 rv p1 =>
  ⟨I1, F1, G, x, ds, w1, rel1, rs1, rv, (a7.bind p1).mono fun I2 F2 H2 s w2 _ e2 rel2 p2 s' rs2 => p2 I2 F2 H2 .refl rel2 s' rs2⟩
theorem aEz {i : Nat} {x : Str} (hi : S.N[i]? = some x) (hx : Sto S x) (he : JE S e m) (hs : ∀ env : Env, swapsWith e (some (.Name x pos')) pos.line env = pure false := by intro _; rfl) : JS S (.Assign [.Name x pos'] e pos) (aT m (aU i)) := fun X E cx xo =>
 jQ (ps_set (i := i) (x := x) cx.nd (by rw [cx.N]; exact hi) (by rw [cx.sc]; exact hx.1) (he X E cx xo) (hs X.env) (by rw [cx.sc]; exact hx.2.imp (cx.fn x) id)) fun Z σ H ⟨I, F, G, ds, w, rel, rs, p⟩ =>
  bM (f := fun ds d w1 => (aU i d ds w1).bind fun σ2 w2 => Res.ok (Fl.nx σ2) w2) rel rs p fun I1 F1 H1 x w1 v e1 rel1 rs1 rv p1 => p1 I1 F1 H1 .refl rel1 _ (rs1.set i rv)
theorem sV {tg : Expr} (he : JE S e m) (hg : JG S tg g) (hs : ∀ env : Env, swapsWithSole [tg] e pos.line env = pure false := by intro _; rfl) (hw : ∀ env : Env, swappedStores [tg] e env = pure none := by intro _; rfl)
  (h1 : ∀ env : Env, (assignEach [tg] env).map (·.2) = [assign tg env] := by intro _; rfl) : JS S (.Assign [tg] e pos) (aT m g) := fun X E cx xo =>
 jQ (ps_asg (he X E cx xo) (hg X E cx xo) (hs X.env) (hw X.env) (h1 X.env)) fun Z σ H h => V7 h
end
abbrev NQ := List D → Sg → W → Res Sg
def bU : NQ := fun ds σ w => match ds with
 | [] => .ok σ w
 | _ => .bad
def aJ (g : MG) (r : NQ) : NQ := fun ds σ w => match ds with
 | d :: ds => (g d σ w).bind fun σ1 w1 => r ds σ1 w1
 | [] => .bad
def bX (n : Nat) (r : NQ) : MG := fun d σ w => match d with
 | .tup xs => if xs.length = n then r xs σ w else .bad
 | .jA xs => if xs.length = n then r xs σ w else .bad
 | _ => .bad
def aGk (K : PySem.W.Frag) (E : XK) (g : NQ) : TGs := fun vs σ H Q => ∃ I F G xs ds w, Rel K I F G w H ∧ fX K I F ds σ ∧ RepL K I F xs vs ∧ a7 K I F G E (RSg K Q) (g xs ds w)
def JGs (S : aQ) (ts : List Expr) (g : NQ) : Prop := ∀ X E, Ctx S X → rP X E → PGs X ts (aGk X.K E g)
theorem tI {X : Cx} {e : List Expr} {t t' : TGs} (h : PGs X e t) (k : ∀ v σ H Q, t' v σ H Q → t v σ H Q) : PGs X e t' := ⟨fun pins s σ H v u Q I r q => h.run pins s σ H v u Q I r (k v σ H Q q)⟩
section
variable {S : aQ} {pos pos' : Pos} {e : Expr} {es : List Expr} {g : MG} {r : NQ}
theorem rX : JGs S [] bU := fun X E cx xo => tI pgs_nil fun vs σ H Q ⟨I, F, G, xs, ds, w, rel, rs, rv, p⟩ => by
 cases xs with
 | nil =>
  simp only [RepL] at rv
  exact ⟨rv, p I F H .refl rel _ rs⟩
 | cons => exact p.elim
theorem eI (h1 : JG S e g) (h2 : JGs S es r) (hs : ∀ env : Env, (assignEach (e :: es) env).map (·.2) = assign e env :: (assignEach es env).map (·.2) := by intro _; rfl) : JGs S (e :: es) (aJ g r) := fun X E cx xo =>
 tI (pgs_cons (h1 X E cx xo) (h2 X E cx xo) (hs X.env)) fun vs σ H Q ⟨I, F, G, xs, ds, w, rel, rs, rv, p⟩ => by
  cases xs with
  | nil => exact p.elim
  | cons x xs =>
   simp only [RepL] at rv
   obtain ⟨v, t, rfl, rv1, rvs⟩ := rv
   exact ⟨v, t, rfl, I, F, G, x, ds, w, rel, rs, rv1, (a7.bind p).mono fun I1 F1 H1 s w1 _ e1 rel1 p1 s' rs1 => ⟨I1, F1, G, xs, s, w1, rel1, rs1, RepL.ext e1 _ _ rvs, p1⟩⟩
theorem yC {k n : Nat} (h : JGs S es r) (hn : ∀ env : Env, (assignEach es env).length = n := by intro _; rfl) (hst : ∀ env : Env, (assignEach es env).findIdx? (·.1) = none := by intro _; rfl) : JG S (.Tuple es k pos) (bX n r) := fun X E cx xo =>
 wA (pg_tup cx.calm (h X E cx xo) (hn X.env) (hst X.env)) fun v σ H Q ⟨I, F, G, d, ds, w, rel, rs, rv, p⟩ => by
  cases d <;> first | exact p.elim | skip
  all_goals
   rename_i xs
   simp only [aF] at rv
   obtain ⟨a, vs, rfl, h1, h2⟩ := rv
   simp only [bX] at p
   split at p
   ·rename_i hl
    exact ⟨a, vs, rfl, (by first | exact .of (rel.fz _ _ h1) | exact rel.K2 h1), by rw [← h2.length]; exact hl, I, F, G, xs, ds, w, rel, rs, h2, p⟩
   ·exact p.elim
end
mutual
def D.cl (n : Nat) : D → Bool
 | .tup xs => D.cls n xs
 | .lst xs => D.cls n xs
 | .qG xs => D.cls n xs
 | .jA xs => D.cls n xs
 | .H0 ks xs => D.cls n ks && D.cls n xs
 | .ref i => decide (i < n)
 | .non => true
 | .bl _ => true
 | .int _ => true
 | .str _ => true
 | .ty _ => true
 | .con _ => true
def D.cls (n : Nat) : List D → Bool
 | [] => true
 | d :: ds => D.cl n d && D.cls n ds
end
def MO.cl (n : Nat) : MO → Bool
 | .lst xs => D.cls n xs
 | .dK kvs => D.cls n (kvs.map (·.2))
 | .dT kvs => D.cls n (kvs.map (·.2))
 | .dF kvs => D.cls n (kvs.map (·.2))
 | .dG kvs => D.cls n (kvs.map (·.2))
 | .ins _ fs => D.cls n (fs.map (·.2))
section
variable {K : PySem.W.Frag} {I : List Addr} {F : Hp} {n : Nat}
theorem aAx {n i : Nat} {a : Addr} (h : I[i]? = some a) (hi : i < n) : (I.take n)[i]? = some a := by
 rw [List.getElem?_take_of_lt hi]; exact h
mutual
theorem aF.cut : ∀ (d : D) (v : V), aF K I F d v → d.cl n = true → aF K (I.take n) F d v
 | .non, _, h, _ => by simpa only [aF] using h
 | .bl _, _, h, _ => by simpa only [aF] using h
 | .int _, _, h, _ => by simpa only [aF] using h
 | .str _, _, h, _ => by simpa only [aF] using h
 | .ty _, _, h, _ => by simpa only [aF] using h
 | .con _, _, h, _ => by simpa only [aF] using h
 | .tup xs, v, h, c => by
  simp only [aF, D.cl] at h c ⊢
  obtain ⟨a, vs, h1, h2, h3⟩ := h
  exact ⟨a, vs, h1, h2, RepL.cut xs vs h3 c⟩
 | .lst xs, v, h, c => by
  simp only [aF, D.cl] at h c ⊢
  obtain ⟨a, vs, h1, h2, h3⟩ := h
  exact ⟨a, vs, h1, h2, RepL.cut xs vs h3 c⟩
 | .qG xs, v, h, c => by
  simp only [aF, D.cl] at h c ⊢
  obtain ⟨a, vs, h1, h2, h3⟩ := h
  exact ⟨a, vs, h1, h2, RepL.cut xs vs h3 c⟩
 | .jA xs, v, h, c => by
  simp only [aF, D.cl] at h c ⊢
  obtain ⟨a, vs, h1, h2, h3⟩ := h
  exact ⟨a, vs, h1, h2, RepL.cut xs vs h3 c⟩
 | .H0 ks xs, v, h, c => by
  simp only [aF, D.cl, aj] at h c ⊢
  obtain ⟨a, kvs, h1, h2, h3, h4⟩ := h
  exact ⟨a, kvs, h1, h2, RepL.cut ks _ h3 c.1, RepL.cut xs _ h4 c.2⟩
 | .ref i, v, h, c => by
  simp only [aF, D.cl, ak] at h c ⊢
  obtain ⟨a, h1, h2⟩ := h
  exact ⟨a, h1, aAx h2 c⟩
theorem RepL.cut : ∀ (ds : List D) (vs : List V), RepL K I F ds vs → D.cls n ds = true → RepL K (I.take n) F ds vs
 | [], _, h, _ => by simpa only [RepL] using h
 | d :: ds, vs, h, c => by
  simp only [RepL, D.cls, aj] at h c ⊢
  obtain ⟨v, r, h1, h2, h3⟩ := h
  exact ⟨v, r, h1, aF.cut d v h2 c.1, RepL.cut ds r h3 c.2⟩
end
theorem aS.cut {κ : Type} : ∀ (ds : List (κ × D)) (vs : List (κ × V)), aS K I F ds vs → D.cls n (ds.map (·.2)) = true → aS K (I.take n) F ds vs
 | [], _, h, _ => by simpa only [aS] using h
 | (k, d) :: ds, vs, h, c => by
  simp only [aS, List.map_cons, D.cls, aj] at h c ⊢
  obtain ⟨v, r, h1, h2, h3⟩ := h
  exact ⟨v, r, h1, aF.cut d v h2 c.1, aS.cut ds r h3 c.2⟩
theorem k9.cut {o : MO} {u : HO} (h : k9 K I F o u) (c : o.cl n = true) : k9 K (I.take n) F o u := by
 cases o with
 | lst xs => obtain ⟨vs, h1, h2⟩ := h; exact ⟨vs, h1, RepL.cut _ _ h2 c⟩
 | dK xs => obtain ⟨vs, h1, h2⟩ := h; exact ⟨vs, h1, aS.cut _ _ h2 c⟩
 | dT xs => obtain ⟨vs, h1, h2⟩ := h; exact ⟨vs, h1, aS.cut _ _ h2 c⟩
 | dF xs => obtain ⟨o, vs, h1, h2⟩ := h; exact ⟨o, vs, h1, aS.cut _ _ h2 c⟩
 | dG xs => obtain ⟨o, vs, h1, h2⟩ := h; exact ⟨o, vs, h1, aS.cut _ _ h2 c⟩
 | ins C xs => obtain ⟨dx, vs, h1, h2⟩ := h; exact ⟨dx, vs, h1, aS.cut _ _ h2 c⟩
mutual
theorem aF.cl : ∀ (d : D) (v : V), aF K I F d v → I.length ≤ n → d.cl n = true
 | .non, _, _, _ => by simp [D.cl]
 | .bl _, _, _, _ => by simp [D.cl]
 | .int _, _, _, _ => by simp [D.cl]
 | .str _, _, _, _ => by simp [D.cl]
 | .ty _, _, _, _ => by simp [D.cl]
 | .con _, _, _, _ => by simp [D.cl]
 | .tup xs, v, h, l => by
  simp only [aF, D.cl] at h ⊢
  obtain ⟨a, vs, h1, h2, h3⟩ := h
  exact RepL.cl xs vs h3 l
 | .lst xs, v, h, l => by
  simp only [aF, D.cl] at h ⊢
  obtain ⟨a, vs, h1, h2, h3⟩ := h
  exact RepL.cl xs vs h3 l
 | .qG xs, v, h, l => by
  simp only [aF, D.cl] at h ⊢
  obtain ⟨a, vs, h1, h2, h3⟩ := h
  exact RepL.cl xs vs h3 l
 | .jA xs, v, h, l => by
  simp only [aF, D.cl] at h ⊢
  obtain ⟨a, vs, h1, h2, h3⟩ := h
  exact RepL.cl xs vs h3 l
 | .H0 ks xs, v, h, l => by
  simp only [aF, D.cl, aj] at h ⊢
  obtain ⟨a, kvs, h1, h2, h3, h4⟩ := h
  exact ⟨RepL.cl ks _ h3 l, RepL.cl xs _ h4 l⟩
 | .ref i, v, h, l => by
  simp only [aF, D.cl, ak] at h ⊢
  obtain ⟨a, h1, h2⟩ := h
  have := (ag.mp h2).1
  omega
theorem RepL.cl : ∀ (ds : List D) (vs : List V), RepL K I F ds vs → I.length ≤ n → D.cls n ds = true
 | [], _, _, _ => by simp [D.cls]
 | d :: ds, vs, h, l => by
  simp only [RepL, D.cls, aj] at h ⊢
  obtain ⟨v, r, h1, h2, h3⟩ := h
  exact ⟨aF.cl d v h2 l, RepL.cl ds r h3 l⟩
end
theorem aS.cl {κ : Type} : ∀ (ds : List (κ × D)) (vs : List (κ × V)), aS K I F ds vs → I.length ≤ n → D.cls n (ds.map (·.2)) = true
 | [], _, _, _ => by simp [D.cls]
 | (k, d) :: ds, vs, h, l => by
  simp only [aS, List.map_cons, D.cls, aj] at h ⊢
  obtain ⟨v, r, h1, h2, h3⟩ := h
  exact ⟨aF.cl d v h2 l, aS.cl ds r h3 l⟩
theorem k9.cl {o : MO} {u : HO} (h : k9 K I F o u) (l : I.length ≤ n) : o.cl n = true := by
 cases o with
 | lst xs => obtain ⟨vs, h1, h2⟩ := h; exact RepL.cl _ _ h2 l
 | dK xs => obtain ⟨vs, h1, h2⟩ := h; exact aS.cl _ _ h2 l
 | dT xs => obtain ⟨vs, h1, h2⟩ := h; exact aS.cl _ _ h2 l
 | dF xs => obtain ⟨o, vs, h1, h2⟩ := h; exact aS.cl _ _ h2 l
 | dG xs => obtain ⟨o, vs, h1, h2⟩ := h; exact aS.cl _ _ h2 l
 | ins C xs => obtain ⟨dx, vs, h1, h2⟩ := h; exact aS.cl _ _ h2 l
end
def aFg (w0 w : W) : Prop := w0.length ≤ w.length ∧ ∀ (i : Nat) (o : MO), w[i]? = some o → w0[i]? = some o ∨ o.cl w.length = true
def XD.cl (n : Nat) (x : XD) : Bool := match x.fs with
 | none => true
 | some fs => D.cls n (fs.map (·.2))
def Fits (w0 : W) (r r' : Res D) : Prop := match r with
 | .bad => True
 | .ok d w => ∃ g, r' = .ok d (w ++ g) ∧ (g = [] ∨ (d.cl w.length = true ∧ aFg w0 w))
 | .HF x w => ∃ g, r' = .HF x (w ++ g) ∧ (g = [] ∨ (x.cl w.length = true ∧ aFg w0 w))
theorem Fits.iT {w0 : W} {r : Res D} : Fits w0 r r := by
 cases r with
 | ok d w => exact ⟨[], by simp, .inl rfl⟩
 | HF x w => exact ⟨[], by simp, .inl rfl⟩
 | bad => trivial
theorem Fits.of_eq {w0 : W} {r r' : Res D} (h : r' = r) : Fits w0 r r' := h ▸ Fits.iT
theorem VO {K : PySem.W.Frag} {I I' : List Addr} {F F' G H H' : Hp} {w0 w g : W} (rel0 : Rel K I F G w0 H) (e : Ext I F I' F') (rel : Rel K I' F' G (w ++ g) H') (s : aFg w0 w) : Ext I F (I'.take w.length) F' ∧ Rel K (I'.take w.length) F' G w H' := by
 have hl : I'.length = w.length + g.length := by rw [rel.len, cc]
 have e2 : Ext I F (I'.take w.length) F' := ⟨by
  obtain ⟨t, rfl⟩ := e.i
  rw [List.take_append, List.take_of_length_le (by rw [rel0.len]; exact s.1)]
  exact List.prefix_append _ _, e.f⟩
 refine ⟨e2, ⟨by simp [hl], rel.nd.sublist (List.take_sublist _ _), fun i a o h1 h2 => ?_, rel.fz, fun i a o h h0 hf => rel.ap i a o (List.getElem?_take_of_lt (ag.mp h0).1 ▸ h) (by rw [aq (ag.mp h0).1]; exact h0) hf, rel.gz, fun a u h => ⟨(rel.gf a u h).1, fun z => (rel.gf a u h).2 (List.mem_of_mem_take z)⟩, rel.gt⟩⟩
 have hi : i < w.length := (ag.mp h2).1
 rw [List.getElem?_take_of_lt hi] at h1
 obtain ⟨u, h3, h4⟩ := rel.ob i a o h1 (by rw [aq hi]; exact h2)
 refine ⟨u, h3, ?_⟩
 rcases s.2 i o h2 with q | q
 ·refine k9.cut h4 ?_
  have hi0 : i < w0.length := (ag.mp q).1
  obtain ⟨u0, _, h6⟩ := rel0.ob i _ o (br (by rw [rel0.len]; exact hi0)) q
  exact h6.cl (by rw [rel0.len]; exact s.1)
 ·exact k9.cut h4 q
theorem GR.cut {K : PySem.W.Frag} {I : List Addr} {F H : Hp} {x : XD} {c : Value} {d : Option Addr} {n : Nat} (h : GR K (I.take n) F H x c d) (hn : n ≤ I.length) : GR K I F H x c d := by
 have e : Ext (I.take n) F I F := ⟨List.take_prefix _ _, fun _ _ h => h⟩
 obtain ⟨h1, h2⟩ := h
 refine ⟨h1, ?_⟩
 cases hf : x.fs with
 | none => rw [hf] at h2; exact h2
 | some fs =>
  rw [hf] at h2
  obtain ⟨a, r, q1, q2, q3⟩ := h2
  exact ⟨a, r, q1, q2, aS.ext e _ _ q3⟩
theorem GR.aGP {K : PySem.W.Frag} {I : List Addr} {F H : Hp} {x : XD} {c : Value} {d : Option Addr} {n : Nat} (h : GR K I F H x c d) (hx : x.cl n = true) : GR K (I.take n) F H x c d := by
 obtain ⟨h1, h2⟩ := h
 refine ⟨h1, ?_⟩
 unfold XD.cl at hx
 cases hf : x.fs with
 | none => rw [hf] at h2; exact h2
 | some fs =>
  rw [hf] at h2 hx
  obtain ⟨a, r, q1, q2, q3⟩ := h2
  exact ⟨a, r, q1, q2, aS.cut _ _ q3 hx⟩
theorem a7.fits {K : PySem.W.Frag} {I : List Addr} {F G H : Hp} {E : XK} {Q : VK} {w0 : W} {r r' : Res D} (rel0 : Rel K I F G w0 H) (p : a7 K I F G E (RV K Q) r) (f : Fits w0 r r') : a7 K I F G E (RV K Q) r' := by
 cases r with
 | bad => exact p.elim
 | ok d w =>
  obtain ⟨g, rfl, hg⟩ := f
  rcases hg with rfl | ⟨hd, hs⟩
  ·rw [List.append_nil]; exact p
  ·intro I' F' H' e rel v rv
   obtain ⟨e2, rel2⟩ := VO rel0 e rel hs
   exact p _ F' H' e2 rel2 v (aF.cut d v rv hd)
 | HF x w =>
  obtain ⟨g, rfl, hg⟩ := f
  rcases hg with rfl | ⟨hd, hs⟩
  ·rw [List.append_nil]; exact p
  ·intro I' F' H' c d e rel rx
   obtain ⟨e2, rel2⟩ := VO rel0 e rel hs
   exact p _ F' H' c d e2 rel2 (GR.aGP rx hd)
abbrev MF := List D → W → Res D
def spM (K : PySem.W.Frag) (m : MF) : Sp := fun vs H Q E => ∃ I F G ds w, Rel K I F G w H ∧ RepL K I F ds vs ∧ a7 K I F G E (RV K Q) (m ds w)
structure eY (P : Program) (w : World) (K : PySem.W.Frag) (mg : Str → Option Value) (base : Heap) (k : Nat) (f : Addr) (fd : FuncData) (ps : List Str) (m : MF) : Prop where
 run : ∀ (A : Around) (outer : List Env) (s : Shared) (H : Hp) (args : Args) (us : List Value) (vs : List V) (Q : VK) (E : XK), Room k A → A.guards = some [] → Env0 P w K mg base A outer s H → BindsTo s fd args (ps.zip us) → Vals vs us →
  vs.length = ps.length → spM K m vs H Q E → codeAny (model P w) A (.call (.ref f) args) (CR (L2.CX P w) outer P w H s Q E) s
theorem eY.mono {P : Program} {w : World} {K : PySem.W.Frag} {mg : Str → Option Value} {base : Heap} {j k : Nat} {f : Addr} {fd : FuncData} {ps : List Str} {m : MF} (G : eY P w K mg base j f fd ps m) (h : j ≤ k) : eY P w K mg base k f fd ps m :=
 ⟨fun A outer s H args us vs Q E hr => G.run A outer s H args us vs Q E (hr.mono h)⟩
def begin (N : List Str) (ds : List D) : Sg := ds.map some ++ List.replicate (N.length - ds.length) none
def bL (mb : MS) (N : List Str) (ds : List D) (w : W) : Res D := (mb (begin N ds) w).bind fun f w1 => match f with
 | .nx _ => .ok .non w1
 | .rt d => .ok d w1
 | _ => .bad
theorem RepL.aEb {K : PySem.W.Frag} {I : List Addr} {F : Hp} {ds : List D} {vs : List V} (r : RepL K I F ds vs) (N : List Str) : fX K I F (begin N ds) (L2.start N vs) := by
 unfold begin L2.start
 refine ⟨by simp [r.length], fun i d h => ?_⟩
 by_cases hi : i < ds.length
 ·rw [aq (by simpa using hi), bz] at h
  cases q : ds[i]? with
  | none => rw [q] at h; cases h
  | some x =>
   rw [q] at h; cases h
   obtain ⟨v, h1, h2⟩ := r.get q
   exact ⟨v, by rw [aq (by simpa [← r.length] using hi), bz, h1]; rfl, h2⟩
 ·rw [bf (by simpa using hi), List.getElem?_replicate] at h
  split at h <;> cases h
abbrev aQ.body (S : aQ) (k : Nat) (N : List Str) (sc : Scope) : aQ := { S with k := k, N := N, sc := sc, fn := fun _ => true }
theorem eY.of {S : aQ} {x qual : Str} {params : Arguments} {body : List Stmt} {scope : Scope} {dvs : List V} {kws : List (Str × V)} {f : Addr} {fd : FuncData} {N ps : List Str} {k : Nat} {mb : MS} {m : MF}
  (F : FunD S.K x qual params body scope dvs kws f fd) (Sc : FnScope N ps scope) (hb : q8 (S.body k N scope) body mb) (hm : ∀ ds w, ds.length = ps.length → Fits w (m ds w) (bL mb N ds w)) : eY S.P S.w S.K S.mg S.base (k + 1) f fd ps m := by
 refine ⟨fun A outer s H args us vs Q E hr hg e0 hbt r hl hsp => ?_⟩
 obtain ⟨oc, od, dV, kV, doc, pm, an, cdv, ct, osl, rfl, lk, hcd, _, _⟩ := F.ex
 have KX : S.K.In s.heap := e0.mod.kin.keeps fun b o e => (e0.bs b o e).1
 have lim : s.heap.NoLimit := e0.mod.nolimit.keeps fun b o e => (e0.bs b o e).1
 have kinds : ∀ y ∈ ps.zip us, scope.names.lookup y.1 = some .local ∨ (scope.names.lookup y.1 = some .cell ∧ ((cellsFrom (s.heap.objs.size + 1) scope.names []).lookup y.1).isSome = true) := by
  rintro ⟨n, v⟩ hy
  have hn : n ∈ ps := (List.of_mem_zip hy).1
  rcases Sc.par n hn with q | q
  ·exact Or.inl q
  ·exact Or.inr ⟨q, PySem.W.cellsFrom_some _ _ _ (.inl q)⟩
 refine codeAny_call_function hr.depth (KX _ _ lk) rfl Sc.co Sc.gen rfl (PySem.W.codeRec_of KX hcd) (hbt _ _ _ _ ?_)
 refine wpAny_newFunctionEnv_cells Sc.kind kinds fun env he s1 y => ?_
 subst he
 refine ⟨lim.keeps y.toInCall.keep, codeAny_func ?_⟩
 obtain ⟨I, F0, G, ds, w, rel, rl, p⟩ := hsp
 have J : Inv (cxOf (L2.CX S.P S.w) S.P S.w S.K S.mg S.base N qual scope f cdv A outer s H E) [] (start N vs) H s1 := inv_start Sc hr.hd e0 hl r y
 have cx : Ctx (S.body k N scope) (cxOf (L2.CX S.P S.w) S.P S.w S.K S.mg S.base N qual scope f cdv A outer s H E) := ⟨rfl, rfl, rfl, rfl, rfl, rfl, rfl, fun _ _ => rfl, rfl, hr.deeper _, hg, Sc.nd⟩
 have xo : rP (cxOf (L2.CX S.P S.w) S.P S.w S.K S.mg S.base N qual scope f cdv A outer s H E) E := ⟨takes_of rfl rfl rfl rfl, passes_of rfl⟩
 have p' : a7 S.K I F0 G E (RV S.K Q) (bL mb N ds w) := p.fits rel (hm ds w (by rw [rl.length]; exact hl))
 have go := (hb _ E cx xo).run [] s1 (start N vs) H { nx := fun _ H' => Q .non H', rt := Q } J ⟨I, F0, G, begin N ds, w, rel, rl.aEb N, (a7.bind p').mono fun I1 F1 H1 fl w1 _ e1 rel1 p1 => ?_⟩
 ·refine wpAny_mono go (fun fl s' hs => ?_) fun e s' hs => hs
  cases fl with
  | ret u =>
   obtain ⟨v, σ', H', J', rv, q⟩ := hs
   exact ⟨v, H', J'.os, J'.bare, J'.base, J'.hok, rv, q⟩
  | next =>
   obtain ⟨σ', H', J', q⟩ := hs
   exact ⟨V.non, H', J'.os, J'.bare, J'.base, J'.hok, rfl, q⟩
  | brk =>
   obtain ⟨_, _, _, q⟩ := hs
   exact q.elim
  | cont =>
   obtain ⟨_, _, _, q⟩ := hs
   exact q.elim
 ·cases fl with
  | nx z => exact fun s' _ => p1.mU rel1 (by simp [aF])
  | rt d => exact fun v rv => p1.mU rel1 rv
  | bk z => exact p1.elim
  | ct z => exact p1.elim
structure b5 (K : PySem.W.Frag) (fd : FuncData) (ps : List Str) (n : Nat) (ks : List Str) (gd : List D → List D → List D) : Prop where
 ex : ∃ (g : List Value → List Value → List Value) (gV : List V → List V → List V), KBn K fd ps n ks g gV ∧
  ∀ I F xs vs zs us, RepL K I F xs vs → RepL K I F zs us → RepL K I F (gd xs zs) (gV vs us)
 len : ∀ xs zs, xs.length = n → zs.length = ks.length → (gd xs zs).length = ps.length
def aK (m : MF) (n : Nat) (gd : List D → List D → List D) (ma : MA) : ME := fun σ w => (ma σ w).bind fun xs w1 => if xs.length = n then m (gd xs []) w1 else .bad
def yM (m : MF) (n j : Nat) (gd : List D → List D → List D) (ma mk : MA) : ME := fun σ w => (ma σ w).bind fun xs w1 => (mk σ w1).bind fun zs w2 => if xs.length = n ∧ zs.length = j then m (gd xs zs) w2 else .bad
def JK (S : aQ) (kws : List Keyword) (m : MA) : Prop := ∀ X E, Ctx S X → rP X E → PK X kws (aCu X.K E m)
theorem QR {X : Cx} {pins : List (Addr × Obj)} {σ : L2.St} {H : Hp} {s : Shared} {Q : VK} {E : XK} {k : Nat} {f : Addr} {fd : FuncData} {ps ks : List Str} {m : MF} {n : Nat} {gd : List D → List D → List D} {I : List Addr} {F G : Hp} {xs zs : List D} {w : W} {us ws : List Value} {vs ys : List V}
  (xo : rP X E) (Gf : eY X.prog X.w X.K X.mg X.base k f fd ps m) (B : b5 X.K fd ps n ks gd) (hr : Room k X.A) (hg : X.A.guards = some []) (J : Inv X pins σ H s) (rel : Rel X.K I F G w H) (rx : RepL X.K I F xs vs) (rz : RepL X.K I F zs ys)
  (r : Vals vs us) (q : Vals ys ws) (h1 : xs.length = n) (h2 : zs.length = ks.length) (p : a7 X.K I F G E (RV X.K Q) (m (gd xs zs) w)) : wpAny (model X.prog X.w) X.A (call (.ref f) us (ks.zip ws)) (EP X pins σ Q) X.xe s := by
 obtain ⟨g, gV, kb, rep⟩ := B.ex
 have r2 := kb.rel r q
 have r3 := rep I F xs vs zs ys rx rz
 have hl : (gV vs ys).length = ps.length := by rw [← r3.length]; exact B.len xs zs h1 h2
 refine wpAny_call (codeAny_mono (Gf.run X.A X.stack s H ⟨us, ks.zip ws⟩ (g us ws) (gV vs ys) Q E hr hg J.env0 (kb.to s us ws J.kIn (by rw [← r.length, ← rx.length]; exact h1) (by rw [← q.length, ← rz.length]; exact h2)) r2 hl ⟨I, F, G, _, w, rel, r3, p⟩) fun fl s' hq => ?_)
 cases fl with
 | error e => exact passes_call xo.tk (fun _ _ _ _ h => h) pins σ H s e s' J hq
 | ok fl =>
  cases fl with
  | ret u => exact J.after hq
  | next => exact hq.elim
  | brk => exact hq.elim
  | cont => exact hq.elim
section
variable {S : aQ} {k n : Nat} {f : Addr} {fd : FuncData} {ps ks : List Str} {m : MF} {gd : List D → List D → List D} {x : Str} {p pos kpos : Pos} {e : Expr} {es : List Expr} {kws : List Keyword} {ma mk : MA} {me : ME} {nm : Option Str}
theorem SW : JK S [] aE := fun X E cx xo => ⟨fun pos pins s σ H Q J ⟨I, F, G, ds, w, rel, rs, p⟩ => pk_nil.run pos pins s σ H Q J (p I F H .refl rel [] (by simp [RepL]))⟩
theorem eJ (he : JE S e me) (hr : JK S kws mk) : JK S (⟨nm, e, kpos⟩ :: kws) (aA me mk) := fun X E cx xo =>
 ⟨fun pos pins s σ H Q J ⟨I, F, G, ds, w, rel, rs, p⟩ => (pk_cons (he X E cx xo) (hr X E cx xo)).run pos pins s σ H Q J
  (bM (f := fun ds x w1 => (mk ds w1).bind fun xs w2 => Res.ok (x :: xs) w2) rel rs p fun I1 F1 H1 x w1 v e1 rel1 rs1 rv p1 =>
   cX (f := fun _ xs w2 => Res.ok (x :: xs) w2) rel1 rs1 p1 fun I2 F2 H2 xs w2 vs e2 rel2 rs2 rvs p2 => p2 I2 F2 H2 .refl rel2 _ (RepL.cons (aF.ext e2 _ _ rv) rvs))⟩
theorem bG (hk : k ≤ S.k) (Gf : eY S.P S.w S.K S.mg S.base k f fd ps m) (B : b5 S.K fd ps n [] gd) (hg : S.sc.names.lookup x = some .globalImplicit) (hm : S.mg x = some (.ref f)) (kp : PySem.W.keepIn S.K (.ref f) = true) (ha : JA S (e :: es) ma)
  (hdb : (x == ("__debug__" : Str)) = false := by decide) (he : ∀ env : Env, starEach (e :: es) env = (false, eval e env) :: starEach es env := by intro _; rfl) (hpl : ∀ env : Env, (backTo pos (starEach es env)).any (·.1) = false := by intro _; rfl) :
  JE S (.Call (.Name x p) (e :: es) [] pos) (aK m n gd ma) := fun X E cx xo => by
 refine ⟨fun pins s σ H Q J ⟨I, F, G, ds, w, rel, rs, p⟩ => ?_⟩
 refine wpAny_Call_Name_kw (ld_glob J (by show X.env.scope.names.lookup x = _; rw [cx.sc]; exact hg) (by rw [cx.mg]; exact hm) ?_ hdb)
 refine PySem.W.callWith_K (h₀ := X.base) J.ok.mod.kin (by rw [cx.K]; exact kp) (thn ((ha X E cx xo).run pos pins s σ H _ J (cX (f := fun _ xs w1 => if xs.length = n then m (gd xs []) w1 else .bad) (Q := fun vs H1 => ∃ I1 F1 xs w1, Rel X.K I1 F1 G w1 H1 ∧ RepL X.K I1 F1 xs vs ∧ xs.length = n ∧ a7 X.K I1 F1 G E (RV X.K Q) (m (gd xs []) w1)) rel rs p fun I1 F1 H1 xs w1 vs e1 rel1 rs1 rvs p1 => ?_)) fun us s1 hq => ?_) (he X.env) (hpl X.env)
 ·split at p1
  ·rename_i hl
   exact ⟨I1, F1, xs, w1, rel1, rvs, hl, p1⟩
  ·exact p1.elim
 ·obtain ⟨vs, H1, J1, r, I1, F1, xs, w1, rel1, rvs, hl, p1⟩ := hq
  refine ⟨J1.kIn, ?_⟩
  have Gf' : eY X.prog X.w X.K X.mg X.base k f fd ps m := by rw [cx.P, cx.w, cx.K, cx.mg, cx.base]; exact Gf
  have B' : b5 X.K fd ps n [] gd := by rw [cx.K]; exact B
  exact QR (ks := []) (ws := []) (zs := []) (ys := []) xo Gf' B' (cx.room.mono hk) cx.W5 J1 rel1 rvs (by simp [RepL]) r .nil hl rfl p1
end
theorem bP {K : PySem.W.Frag} {x qual : Str} {params : Arguments} {body : List Stmt} {scope : Scope} {kws : List (Str × V)} {f : Addr} {fd : FuncData} {ps : List Str} (F : FunD K x qual params body scope [] kws f fd)
  (h : ∀ (kV doc pm : Value) (an : Option Addr) (cdv ct : Value) (us : List Value), us.length = ps.length → bindArgs (PySem.W.fnOf x qual params body scope .none kV doc pm an cdv ct) ⟨us, []⟩ = pure (ps.zip us)) : b5 K fd ps ps.length [] fun xs _ => xs := by
 refine ⟨⟨fun us _ => us, fun vs _ => vs, ⟨fun s us ws KX h1 h2 => ?_, fun r _ => r⟩, fun _ _ _ _ _ _ r _ => r⟩, fun xs zs h1 _ => h1⟩
 have e : ws = [] := List.eq_nil_of_length_eq_zero (by simpa using h2)
 subst e
 exact F.bindsA h s us h1
theorem aAD {K : PySem.W.Frag} {x qual : Str} {params : Arguments} {body : List Stmt} {scope : Scope} {kws : List (Str × V)} {f : Addr} {fd : FuncData} {ps : List Str} (F : FunD K x qual params body scope [] kws f fd) (n : Nat) (ks : List Str) (g : {α : Type} → List α → List α → List α)
  (h : ∀ (kV doc pm : Value) (an : Option Addr) (cdv ct : Value) (us ws : List Value), us.length = n → ws.length = ks.length → bindArgs (PySem.W.fnOf x qual params body scope .none kV doc pm an cdv ct) ⟨us, ks.zip ws⟩ = pure (ps.zip (g us ws)))
  (hrel : ∀ {vs zs : List V} {us ws : List Value}, Vals vs us → Vals zs ws → Vals (g vs zs) (g us ws)) (hrep : ∀ I F' xs vs zs us, RepL K I F' xs vs → RepL K I F' zs us → RepL K I F' (g xs zs) (g vs us))
  (hlen : ∀ xs zs : List D, xs.length = n → zs.length = ks.length → (g xs zs).length = ps.length) : b5 K fd ps n ks g := by
 refine ⟨⟨fun us ws => g us ws, fun vs zs => g vs zs, ⟨fun s us ws KX h1 h2 => ?_, hrel⟩, hrep⟩, hlen⟩
 obtain ⟨oc, od, dV, kV, doc, pm, an, cdv, ct, osl, rfl, lk, hcd, hD, hK⟩ := F.ex
 rcases hD with ⟨_, rfl⟩ | ⟨e, _⟩
 ·exact .of_eq (h kV doc pm an cdv ct us ws h1 h2)
 ·exact absurd rfl e
structure kL where
 xs : List D
 okp : W → Prop
def kL.ok (it : kL) (w : W) : Prop := it.okp w
def always : W → Prop := fun _ => True
def holds (i : Nat) (o : MO) : W → Prop := fun w => w[i]? = some o
def xK (K : PySem.W.Frag) (I : List Addr) (F : Hp) (J : It) (it : kL) : Prop :=
 ∀ I' F' G w H j, Ext I F I' F' → Rel K I' F' G w H → it.ok w →
  (∀ x, it.xs[j]? = some x → J.go j H ∧ ∀ v H', J.yld j H v H' → ∃ F2, Ext I' F' I' F2 ∧ Rel K I' F2 G w H' ∧ aF K I' F2 x v) ∧ (it.xs.length = j → J.stop j H)
abbrev MI := Sg → W → Res kL
def RI (K : PySem.W.Frag) (R : It → Hp → Prop) : List Addr → Hp → Hp → kL → W → Prop := fun I' F' H' it w' => it.ok w' → ∀ J, xK K I' F' J it → R J H'
def aCd (K : PySem.W.Frag) (E : XK) (m : MI) : TI := fun σ H R => ∃ I F G ds w, Rel K I F G w H ∧ fX K I F ds σ ∧ a7 K I F G E (RI K R) (m ds w)
def JI (S : aQ) (tg iter : Expr) (m : MI) : Prop := ∀ X E, Ctx S X → rP X E → PI X tg iter (aCd X.K E m)
theorem pL {X : Cx} {tg e : Expr} {t t' : TI} (h : PI X tg e t) (k : ∀ σ H R, t' σ H R → t σ H R) : PI X tg e t' := ⟨fun pins s σ H R I q => h.run pins s σ H R I (k σ H R q)⟩
def aFR (K : PySem.W.Frag) (tl : TE) : TI := fun σ H R => tl σ H fun x H1 => ∃ a, x = .ref a ∧ (((∃ xs, SqL K H1 a xs) ∧ R (Itl K a) H1) ∨ ((∃ xs, SqT K H1 a xs) ∧ R (Itt K a) H1))
theorem aCO {X : Cx} {tg l : Expr} {tl : TE} (hl : PE X l tl) : PI X tg l (aFR X.K tl) := by
 constructor
 intro pins s σ H R J h
 apply thn (hl.run pins s σ H _ J h)
 rintro v s1 ⟨x, H1, J1, r1, a, ex, q⟩
 subst ex
 cases r1
 have fp : ∀ b ∈ [s1.heap.objs.size], FpOk X pins H1 b := fun b hb => by
  rw [cg.mp hb]
  exact J1.fpOk (az _) (J1.hok.fresh (az _))
 rcases q with ⟨⟨xs, hq⟩, q⟩ | ⟨⟨xs, hq⟩, q⟩
 ·obtain ⟨its, rv, p, hz⟩ := J1.list hq
  apply wpAny_pyIter_list p.isList
  exact ⟨s1.heap.objs.size, [s1.heap.objs.size], _, _, H1, rfl, J1.kept (t' := s1.toks) fun b o e => Heap.get?_push_of_some _ e, turn_list a _, ⟨_, Heap.get?_push_size _ rfl, rfl, rfl⟩, fp, q⟩
 ·obtain ⟨its, rv, p, hz⟩ := J1.tuple hq
  apply wpAny_pyIter_tuple (show s1.heap.IsTuple a its.toArray from p)
  exact ⟨s1.heap.objs.size, [s1.heap.objs.size], _, _, H1, rfl, J1.kept (t' := s1.toks) fun b o e => Heap.get?_push_of_some _ e, turn_tuple a _, ⟨_, Heap.get?_push_size _ rfl, rfl, rfl⟩, fp, q⟩
def iterM (d : D) (w : W) : Res kL := match d with
 | .tup xs => .ok ⟨xs, always⟩ w
 | .jA xs => .ok ⟨xs, always⟩ w
 | .lst xs => .ok ⟨xs, always⟩ w
 | .qG xs => .ok ⟨xs, always⟩ w
 | .ref i => (match w[i]? with
  | some (.lst xs) => .ok ⟨xs, holds i (.lst xs)⟩ w
  | _ => .bad)
 | _ => .bad
def dM (m : ME) : MI := fun σ w => (m σ w).bind iterM
section
variable {K : PySem.W.Frag} {I : List Addr} {F : Hp} {a : Addr} {it : kL}
theorem SM (h : ∀ I' F' G w H, Ext I F I' F' → Rel K I' F' G w H → it.ok w → ∃ vs, SqL K H a vs ∧ RepL K I' F' it.xs vs) : xK K I F (Itl K a) it := fun I' F' G w H j e rel ok => by
 obtain ⟨vs, hq, r⟩ := h I' F' G w H e rel ok
 refine ⟨fun x hx => ?_, fun hl => ⟨vs, hq, by rw [← r.length, hl]; exact az _⟩⟩
 obtain ⟨v, hv, rv⟩ := r.get hx
 refine ⟨⟨vs, v, hq, hv⟩, fun u H' y => ?_⟩
 obtain ⟨rfl, y⟩ := y
 have := y vs hq
 rw [hv] at this; cases this
 exact ⟨F', .refl, rel, rv⟩
theorem aA7 (h : ∀ I' F' G w H, Ext I F I' F' → Rel K I' F' G w H → it.ok w → ∃ vs, SqT K H a vs ∧ RepL K I' F' it.xs vs) : xK K I F (Itt K a) it := fun I' F' G w H j e rel ok => by
 obtain ⟨vs, hq, r⟩ := h I' F' G w H e rel ok
 refine ⟨fun x hx => ?_, fun hl => ⟨vs, hq, by rw [← r.length, hl]; exact az _⟩⟩
 obtain ⟨v, hv, rv⟩ := r.get hx
 refine ⟨⟨vs, v, hq, hv⟩, fun u H' y => ?_⟩
 obtain ⟨rfl, y⟩ := y
 have := y vs hq
 rw [hv] at this; cases this
 exact ⟨F', .refl, rel, rv⟩
theorem aEy {lo : Int} {n : Nat} (hx : it.xs = (List.range n).map fun k : Nat => D.int (lo + (k : Int))) : xK K I F (Itr lo n) it := fun I' F' G w H j e rel ok => by
 refine ⟨fun x h => ?_, fun hl => ?_⟩
 ·rw [hx, bz] at h
  by_cases hj : j < n
  ·rw [List.getElem?_range hj] at h
   cases h
   refine ⟨hj, fun v H' y => ?_⟩
   obtain ⟨rfl, rfl⟩ := y
   exact ⟨F', .refl, rel, by simp [aF]⟩
  ·rw [List.getElem?_eq_none (by simpa using hj)] at h; cases h
 ·rw [hx] at hl
  simp at hl
  show n ≤ j
  omega
end
section
variable {S : aQ} {pos p : Pos} {tg l e e2 : Expr} {m : ME} {ma : MA} {x : Str}
theorem h9 (hl : JE S l m) : JI S tg l (dM m) := fun X E cx xo =>
 pL (aCO (hl X E cx xo)) fun σ H R ⟨I, F, G, ds, w, rel, rs, p⟩ => bM (f := fun _ => iterM) rel rs p fun I1 F1 H1 d w1 v e1 rel1 rs1 rv p1 => by
  cases d <;> first | exact p1.elim | skip
  case tup xs =>
   simp only [aF] at rv
   obtain ⟨a, vs, rfl, h1, h2⟩ := rv
   exact ⟨a, rfl, .inr ⟨⟨vs, .of (rel1.fz _ _ h1)⟩, p1 I1 F1 H1 .refl rel1 trivial _ (aA7 fun I' F' G w H e rel ok => ⟨vs, .of (rel.fz _ _ (e.f _ _ h1)), RepL.ext e _ _ h2⟩)⟩⟩
  case jA xs =>
   simp only [aF] at rv
   obtain ⟨a, vs, rfl, h1, h2⟩ := rv
   exact ⟨a, rfl, .inr ⟨⟨vs, rel1.K2 h1⟩, p1 I1 F1 H1 .refl rel1 trivial _ (aA7 fun I' F' G w H e rel ok => ⟨vs, rel.K2 (DY e h1), RepL.ext e _ _ h2⟩)⟩⟩
  case lst xs =>
   simp only [aF] at rv
   obtain ⟨a, vs, rfl, h1, h2⟩ := rv
   exact ⟨a, rfl, .inl ⟨⟨vs, .of (rel1.fz _ _ h1)⟩, p1 I1 F1 H1 .refl rel1 trivial _ (SM fun I' F' G w H e rel ok => ⟨vs, .of (rel.fz _ _ (e.f _ _ h1)), RepL.ext e _ _ h2⟩)⟩⟩
  case qG xs =>
   simp only [aF] at rv
   obtain ⟨a, vs, rfl, h1, h2⟩ := rv
   exact ⟨a, rfl, .inl ⟨⟨vs, rel1.XY h1⟩, p1 I1 F1 H1 .refl rel1 trivial _ (SM fun I' F' G w H e rel ok => ⟨vs, rel.XY (V5 e h1), RepL.ext e _ _ h2⟩)⟩⟩
  case ref i =>
   simp only [aF] at rv
   obtain ⟨a, rfl, h1⟩ := rv
   simp only [iterM] at p1
   split at p1
   ·rename_i xs hw
    obtain ⟨u, hu, vs, rfl, h2⟩ := rel1.ob i a _ h1 hw
    refine ⟨a, rfl, .inl ⟨⟨vs, .of hu⟩, p1 I1 F1 H1 .refl rel1 hw _ (SM fun I' F' G w H e rel ok => ?_)⟩⟩
    obtain ⟨u', hu', vs', rfl, h2'⟩ := rel.ob i a _ (e.get h1) ok
    exact ⟨vs', .of hu', h2'⟩
   ·exact p1.elim
def nZ (lo : Int) (n : Nat) : kL := ⟨(List.range n).map fun k : Nat => D.int (lo + (k : Int)), always⟩
def l9 (ds : List D) (w : W) : Res kL := match ds with
 | [.int n] => if -(2 ^ 62) ≤ n ∧ n < 2 ^ 62 then .ok (nZ 0 n.toNat) w else .bad
 | _ => .bad
def eT (f : List D → W → Res kL) (ma : MA) : MI := fun σ w => (ma σ w).bind f
theorem vW (hg : S.sc.names.lookup ("range" : Str) = some .globalImplicit) (hm : S.mg "range" = none) (ha : JA S [e] ma) (hs : ∀ env : Env, starEach [e] env = [(false, eval e env)] := by intro _; rfl) : JI S tg (.Call (.Name "range" p) [e] [] pos) (eT l9 ma) := fun X E cx xo =>
 pL (pi_range1 (by show X.env.scope.names.lookup _ = _; rw [cx.sc]; exact hg) (by rw [cx.mg]; exact hm) (ha X E cx xo) (hs X.env)) fun σ H R ⟨I, F, G, ds, w, rel, rs, p⟩ => cX (f := fun _ => l9) rel rs p fun I1 F1 H1 xs w1 vs e1 rel1 rs1 rv p1 => by
  unfold l9 at p1
  split at p1
  ·rename_i n
   split at p1
   ·rename_i hn
    simp only [RepL, aF] at rv
    obtain ⟨v, r, rfl, rfl, rfl⟩ := rv
    exact ⟨n, rfl, hn.1, hn.2, p1 I1 F1 H1 .refl rel1 trivial _ (aEy rfl)⟩
   ·exact p1.elim
  ·exact p1.elim
end
open Classical in
def forL (it : kL) (g : MG) (body : MS) : List D → Sg → W → Res Fl
 | [], σ, w => if it.ok w then .ok (.nx σ) w else .bad
 | x :: xs, σ, w => if it.ok w then (g x σ w).bind fun σ1 w1 => (body σ1 w1).bind fun f w2 => match f with
   | .nx s => forL it g body xs s w2
   | .ct s => forL it g body xs s w2
   | .bk s => .ok (.nx s) w2
   | .rt d => .ok (.rt d) w2
  else .bad
def gZ (m : MI) (g : MG) (body : MS) : MS := fun σ w => (m σ w).bind fun it w1 => forL it g body it.xs σ w1
section
variable {S : aQ} {pos : Pos} {tg iter : Expr} {body : List Stmt} {m : MI} {g : MG} {b : MS}
theorem GH (hi : JI S tg iter m) (hg : JG S tg g) (hb : q8 S body b) (hs : ∀ (env : Env) x, foldedSetIterable iter env x = pure x := by intro _ _; rfl) : JS S (.For tg iter body [] pos) (gZ m g b) := fun X E cx xo =>
 jQ (ps_for xo.own cx.calm (hi X E cx xo) (hg X E cx xo) (hb X E cx xo) (hs X.env)) fun Z σ H ⟨I, F, G, ds, w, rel, rs, p⟩ => by
  refine ⟨I, F, G, ds, w, rel, rs, (a7.bind p).mono fun I1 F1 H1 it w1 _ e1 rel1 p1 hok J hJ => ?_⟩
  refine ⟨fun i n σ' H' => n = it.xs.length - i ∧ i ≤ it.xs.length ∧ ∃ I' F' ds' w', Ext I1 F1 I' F' ∧ Rel X.K I' F' G w' H' ∧ fX X.K I' F' ds' σ' ∧ a7 X.K I' F' G E (RFl X.K Z) (forL it g b (it.xs.drop i) ds' w'),
   ⟨it.xs.length, by simp, Nat.zero_le _, I1, F1, ds, w1, .refl, rel1, rs.ext e1, p1⟩, ?_⟩
  rintro i n σ' H' ⟨rfl, hi, I', F', ds', w', e', rel', rs', p'⟩
  by_cases hlt : i < it.xs.length
  ·rw [List.drop_eq_getElem_cons hlt] at p'
   unfold forL at p'
   split at p'
   ·rename_i hw
    obtain ⟨h1, _⟩ := hJ I' F' G w' H' i e' rel' hw
    obtain ⟨hgo, hy⟩ := h1 _ (br hlt)
    refine .inr ⟨hgo, fun σ2 H2 => ∃ I2 F2 ds2 w2, Ext I1 F1 I2 F2 ∧ Rel X.K I2 F2 G w2 H2 ∧ fX X.K I2 F2 ds2 σ2 ∧ a7 X.K I2 F2 G E (RFl X.K Z) (forL it g b (it.xs.drop (i + 1)) ds2 w2), fun σ2 H2 q => ⟨it.xs.length - (i + 1), by omega, rfl, hlt, q⟩, fun v H2 y => ?_⟩
    obtain ⟨F2, e2, rel2, rv⟩ := hy v H2 y
    refine ⟨I', F2, G, _, ds', w', rel2, rs'.ext e2, rv, (a7.bind (p'.ext e2)).mono fun I3 F3 H3 s3 w3 _ e3 rel3 p3 σ3 rs3 => ?_⟩
    refine ⟨I3, F3, G, s3, w3, rel3, rs3, (a7.bind p3).mono fun I4 F4 H4 f w4 _ e4 rel4 p4 => ?_⟩
    have ee : Ext I1 F1 I4 F4 := ((e'.trans e2).trans e3).trans e4
    cases f with
    | nx s => exact fun s' rs4 => ⟨I4, F4, s, w4, ee, rel4, rs4, p4⟩
    | ct s => exact fun s' rs4 => ⟨I4, F4, s, w4, ee, rel4, rs4, p4⟩
    | bk s => exact fun s' rs4 => p4 I4 F4 H4 .refl rel4 s' rs4
    | rt d => exact fun v rv => p4 I4 F4 H4 .refl rel4 v rv
   ·exact p'.elim
  ·have hl : i = it.xs.length := by omega
   subst hl
   rw [List.drop_length] at p'
   unfold forL at p'
   split at p'
   ·rename_i hw
    exact .inl ⟨(hJ I' F' G w' H' _ e' rel' hw).2 rfl, p' I' F' H' .refl rel' σ' rs'⟩
   ·exact p'.elim
end
def Res.NK {α : Type} (r : Res α) : Res α := match r with
 | .HF _ _ => .bad
 | r => r
@[simp] theorem Res.aG8 {α : Type} (a : α) (w : W) : (Res.ok a w).NK = .ok a w := rfl
@[simp] theorem Res.aGB {α : Type} (x : XD) (w : W) : (Res.HF x w : Res α).NK = .bad := rfl
@[simp] theorem Res.aGz {α : Type} : (Res.bad : Res α).NK = .bad := rfl
abbrev E0 : XK := fun _ _ _ => False
theorem a7.zD {α β : Type} {K : PySem.W.Frag} {I : List Addr} {F G : Hp} {E : XK} {r : Res α} {f : α → W → Res β} {R2 : List Addr → Hp → Hp → β → W → Prop} (h : a7 K I F G E R2 (r.NK.bind f)) :
  a7 K I F G E0 (fun I' F' _ a w => a7 K I' F' G E R2 (f a w)) r := by
 cases r with
 | ok a w => exact fun I' F' H' e' q => a7.ext (K := K) (R := R2) h e'
 | HF x w => exact h.elim
 | bad => exact h
theorem Rel.keep {K : PySem.W.Frag} {I : List Addr} {F G H : Hp} {w : W} (rel : Rel K I F G w H) {q : Addr} {u : HO} (hq : H q = none) (hu : ∀ xs, u ≠ .tup xs := by intro _ h; cases h) : Rel K I F (upd G q u) w (upd H q u) := by
 have hI : q ∉ I := fun z => by
  obtain ⟨i, hi⟩ := List.mem_iff_getElem?.mp z
  have hl : i < w.length := by rw [← rel.len]; exact (ag.mp hi).1
  obtain ⟨u, h3, _⟩ := rel.ob i q _ hi (br hl)
  rw [h3] at hq; cases hq
 have hF : F q = none := by
  cases h : F q with
  | none => rfl
  | some u => rw [rel.fz _ _ h] at hq; cases hq
 refine ⟨rel.len, rel.nd, fun i a o h1 h2 => ?_, fun a u' h => ?_, rel.ap, fun a u' h => ?_, fun a u' h => ?_, fun a xs h => ?_⟩
 ·obtain ⟨u', h3, h4⟩ := rel.ob i a o h1 h2
  exact ⟨u', by rw [upd_ne (ne_of_none h3 hq)]; exact h3, h4⟩
 ·rw [upd_ne (ne_of_none h hF)]; exact rel.fz a u' h
 ·by_cases ha : a = q
  ·subst ha; rw [upd_same] at h ⊢; exact h
  ·rw [upd_ne ha] at h ⊢; exact rel.gz a u' h
 ·by_cases ha : a = q
  ·subst ha; exact ⟨hF, hI⟩
  ·rw [upd_ne ha] at h; exact rel.gf a u' h
 ·by_cases ha : a = q
  ·subst ha; rw [upd_same] at h; exact hu xs (Option.some.inj h)
  ·rw [upd_ne ha] at h; exact rel.gt a xs h
theorem Rel.UC {K : PySem.W.Frag} {I : List Addr} {F G H : Hp} {w : W} {q : Addr} {u u' : HO} (rel : Rel K I F (upd G q u) w H) (hu : ∀ xs, u' ≠ .tup xs := by intro _ h; cases h) : Rel K I F (upd G q u') w (upd H q u') := by
 obtain ⟨hF, hI⟩ := rel.gf q u upd_same
 refine ⟨rel.len, rel.nd, fun i a o h1 h2 => ?_, fun a v h => ?_, rel.ap, fun a v h => ?_, fun a v h => ?_, fun a xs h => ?_⟩
 ·obtain ⟨v, h3, h4⟩ := rel.ob i a o h1 h2
  have ha : a ≠ q := fun z => hI (by rw [← z]; exact bw h1)
  exact ⟨v, by rw [upd_ne ha]; exact h3, h4⟩
 ·rw [upd_ne (ne_of_none h hF)]; exact rel.fz a v h
 ·by_cases ha : a = q
  ·subst ha; rw [upd_same] at h ⊢; exact h
  ·rw [upd_ne ha] at h ⊢; exact rel.gz a v (by rw [upd_ne ha]; exact h)
 ·by_cases ha : a = q
  ·subst ha; exact ⟨hF, hI⟩
  ·rw [upd_ne ha] at h; exact rel.gf a v (by rw [upd_ne ha]; exact h)
 ·by_cases ha : a = q
  ·subst ha; rw [upd_same] at h; exact hu xs (Option.some.inj h)
  ·rw [upd_ne ha] at h; exact rel.gt a xs (by rw [upd_ne ha]; exact h)
theorem Rel.aF4 {K : PySem.W.Frag} {I : List Addr} {F G H : Hp} {w : W} {q : Addr} {u : HO} (rel : Rel K I F (upd G q u) w H) (hG : G q = none) : Ext I F I (upd F q u) ∧ Rel K I (upd F q u) G w H := by
 obtain ⟨hF, hI⟩ := rel.gf q u upd_same
 have e : Ext I F I (upd F q u) := ⟨List.prefix_refl _, fun a v h => by rw [upd_ne (ne_of_none h hF)]; exact h⟩
 refine ⟨e, rel.len, rel.nd, fun i a o h1 h2 => ?_, fun a v h => ?_, fun i a o h h0 hf => ?_, fun a v h => ?_, fun a v h => ?_, fun a xs h => rel.gt a xs (by rw [upd_ne (ne_of_none h hG)]; exact h)⟩
 ·obtain ⟨v, h3, h4⟩ := rel.ob i a o h1 h2
  exact ⟨v, h3, k9.ext e h4⟩
 ·by_cases ha : a = q
  ·subst ha; rw [upd_same] at h; cases h; exact rel.gz a u upd_same
  ·rw [upd_ne ha] at h; exact rel.fz a v h
 ·have ha : a ≠ q := fun z => hI (by rw [← z]; exact bw h)
  rw [upd_ne ha]; exact rel.ap i a o h h0 hf
 ·have ha : a ≠ q := ne_of_none h hG
  exact rel.gz a v (by rw [upd_ne ha]; exact h)
 ·have ha : a ≠ q := ne_of_none h hG
  rw [upd_ne ha]
  exact rel.gf a v (by rw [upd_ne ha]; exact h)
theorem Rel.owned {K : PySem.W.Frag} {I : List Addr} {F G H : Hp} {w : W} {q : Addr} {u : HO} {o : MO} (rel : Rel K I F (upd G q u) w H) (hG : G q = none) (r : k9 K I F o u) : Ext I F (I ++ [q]) F ∧ Rel K (I ++ [q]) F G (w ++ [o]) H := by
 obtain ⟨hF, hI⟩ := rel.gf q u upd_same
 have e : Ext I F (I ++ [q]) F := ⟨List.prefix_append _ _, fun _ _ h => h⟩
 refine ⟨e, by simp [rel.len], ?_, fun i a o' h1 h2 => ?_, rel.fz, fun i a o' h h0 hf => ?_, fun a v h => ?_, fun a v h => ?_, fun a xs h => rel.gt a xs (by rw [upd_ne (ne_of_none h hG)]; exact h)⟩
 ·rw [List.nodup_append]
  exact ⟨rel.nd, by simp, fun a ha b hb => by simp at hb; subst hb; exact fun z => hI (z ▸ ha)⟩
 ·by_cases hi : i < I.length
  ·rw [aq hi] at h1
   rw [aq (by rw [← rel.len]; exact hi)] at h2
   obtain ⟨v, h3, h4⟩ := rel.ob i a o' h1 h2
   exact ⟨v, h3, k9.ext e h4⟩
  ·have hi2 : i = I.length := by
    have := (ag.mp h1).1
    simp at this; omega
   subst hi2
   rw [bf (az _)] at h1
   simp at h1
   rw [rel.len, bf (az _)] at h2
   simp at h2
   subst h1 h2
   exact ⟨u, rel.gz _ _ upd_same, k9.ext e r⟩
 ·by_cases hi : i < I.length
  ·rw [aq hi] at h
   rw [aq (by rw [← rel.len]; exact hi)] at h0
   exact rel.ap i a o' h h0 hf
  ·have hi2 : i = I.length := by
    have := (ag.mp h).1
    simp at this; omega
   subst hi2
   rw [bf (az _)] at h
   simp at h
   subst h; exact hF
 ·have ha : a ≠ q := ne_of_none h hG
  exact rel.gz a v (by rw [upd_ne ha]; exact h)
 ·have ha : a ≠ q := ne_of_none h hG
  have := rel.gf a v (by rw [upd_ne ha]; exact h)
  refine ⟨this.1, fun z => ?_⟩
  rcases cf.mp z with z | z
  ·exact this.2 z
  ·simp at z; exact ha z
def c0 (σ : Sg) : List Nat → Sg
 | [] => σ
 | v :: vs => (c0 σ vs).set v none
theorem fX.wipe {K : PySem.W.Frag} {I : List Addr} {F : Hp} {ds : Sg} {s : L2.St} (h : fX K I F ds s) : ∀ vs : List Nat, fX K I F (c0 ds vs) (L2.wipe s vs)
 | [] => h
 | v :: vs => (h.wipe vs).unset v none
theorem FQ {s : L2.St} {i : Nat} {x : Option V} : ∀ {vs : List Nat}, i ∈ vs → L2.wipe (s.set i x) vs = L2.wipe s vs
 | [], h => by cases h
 | v :: vs, h => by
  show (L2.wipe (s.set i x) vs).set v none = (L2.wipe s vs).set v none
  by_cases hi : i ∈ vs
  ·rw [FQ hi]
  ·have hv : i = v := by
    rcases bg.mp h with e | e
    ·exact e
    ·exact absurd e hi
   subst hv
   have key : ∀ ws : List Nat, i ∉ ws → L2.wipe (s.set i x) ws = (L2.wipe s ws).set i x := by
    intro ws
    induction ws with
    | nil => intro _; rfl
    | cons b bs ih =>
     intro hn
     show (L2.wipe (s.set i x) bs).set b none = ((L2.wipe s bs).set b none).set i x
     rw [ih (fun z => hn (bh _ z))]
     rw [List.set_comm _ _ (fun z => hn (by rw [z]; exact bc ..))]
   rw [key vs hi, List.set_set]
theorem BC {s : L2.St} : ∀ {vs : List Nat}, L2.wipe (L2.wipe s vs) vs = L2.wipe s vs := by
 intro vs
 have key : ∀ ws : List Nat, (∀ v ∈ ws, v ∈ vs) → L2.wipe (L2.wipe s ws) vs = L2.wipe s vs := by
  intro ws
  induction ws with
  | nil => intro _; rfl
  | cons b bs ih =>
   intro h
   show L2.wipe ((L2.wipe s bs).set b none) vs = _
   rw [FQ (h b (bc ..)), ih fun v hv => h v (bh _ hv)]
 exact key vs fun _ h => h
def RSw (K : PySem.W.Frag) (vs : List Nat) (σ : L2.St) (Q : L2.St → Hp → Prop) : List Addr → Hp → Hp → Sg → W → Prop := fun I' F' H' s _ => ∀ s', fX K I' F' s s' → L2.wipe s' vs = L2.wipe σ vs → Q s' H'
def aBE (K : PySem.W.Frag) (E : XK) (vs : List Nat) (g : MG) : TG := fun v σ H Q => ∃ I F G d ds w, Rel K I F G w H ∧ fX K I F ds σ ∧ aF K I F d v ∧ a7 K I F G E (RSw K vs σ Q) (g d ds w)
def aFQ (K : PySem.W.Frag) (E : XK) (vs : List Nat) (g : NQ) : TGs := fun v σ H Q => ∃ I F G d ds w, Rel K I F G w H ∧ fX K I F ds σ ∧ RepL K I F d v ∧ a7 K I F G E (RSw K vs σ Q) (g d ds w)
def JC (S : aQ) (vs : List Nat) (t : Expr) (g : MG) : Prop := ∀ X E, Ctx S X → rP X E → PG X t (aBE X.K E vs g)
def JCs (S : aQ) (vs : List Nat) (t : List Expr) (g : NQ) : Prop := ∀ X E, Ctx S X → rP X E → PGs X t (aFQ X.K E vs g)
section
variable {S : aQ} {pos : Pos} {vs : List Nat} {e : Expr} {es : List Expr} {g : MG} {r : NQ}
theorem aDb {i : Nat} {x : Str} (hi : S.N[i]? = some x) (hx : Sto S x) (hv : i ∈ vs) : JC S vs (.Name x pos) (aU i) := fun X E cx xo =>
 wA (pg_name (i := i) (x := x) cx.nd (by rw [cx.N]; exact hi) (by rw [cx.sc]; exact hx.1) (by rw [cx.sc]; exact hx.2.imp (cx.fn x) id)) fun v σ H Q ⟨I, F, G, d, ds, w, rel, rs, rv, p⟩ => p I F H .refl rel _ (rs.set i rv) (FQ hv)
theorem aCt : JCs S vs [] bU := fun X E cx xo => tI pgs_nil fun v σ H Q ⟨I, F, G, xs, ds, w, rel, rs, rv, p⟩ => by
 cases xs with
 | nil =>
  simp only [RepL] at rv
  exact ⟨rv, p I F H .refl rel _ rs rfl⟩
 | cons => exact p.elim
theorem RA (h1 : JC S vs e g) (h2 : JCs S vs es r) (hs : ∀ env : Env, (assignEach (e :: es) env).map (·.2) = assign e env :: (assignEach es env).map (·.2) := by intro _; rfl) : JCs S vs (e :: es) (aJ g r) := fun X E cx xo =>
 tI (pgs_cons (h1 X E cx xo) (h2 X E cx xo) (hs X.env)) fun v σ H Q ⟨I, F, G, xs, ds, w, rel, rs, rv, p⟩ => by
  cases xs with
  | nil => exact p.elim
  | cons x xs =>
   simp only [RepL] at rv
   obtain ⟨v, t, rfl, rv1, rvs⟩ := rv
   refine ⟨v, t, rfl, I, F, G, x, ds, w, rel, rs, rv1, (a7.bind p).mono fun I1 F1 H1 s w1 _ e1 rel1 p1 s' rs1 ew => ⟨I1, F1, G, xs, s, w1, rel1, rs1, RepL.ext e1 _ _ rvs, p1.mono fun I2 F2 H2 s2 w2 _ e2 rel2 p2 s3 rs3 ew3 => p2 s3 rs3 (ew3.trans ew)⟩⟩
theorem aE7 {k n : Nat} (h : JCs S vs es r) (hn : ∀ env : Env, (assignEach es env).length = n := by intro _; rfl) (hst : ∀ env : Env, (assignEach es env).findIdx? (·.1) = none := by intro _; rfl) : JC S vs (.Tuple es k pos) (bX n r) := fun X E cx xo =>
 wA (pg_tup cx.calm (h X E cx xo) (hn X.env) (hst X.env)) fun v σ H Q ⟨I, F, G, d, ds, w, rel, rs, rv, p⟩ => by
  cases d <;> first | exact p.elim | skip
  all_goals
   rename_i xs
   simp only [aF] at rv
   obtain ⟨a, us, rfl, h1, h2⟩ := rv
   simp only [bX] at p
   split at p
   ·rename_i hl
    exact ⟨a, us, rfl, (by first | exact .of (rel.fz _ _ h1) | exact rel.K2 h1), by rw [← h2.length]; exact hl, I, F, G, xs, ds, w, rel, rs, h2, p⟩
   ·exact p.elim
end
open Classical in
def nM (it : kL) (vs : List Nat) (g : MG) (t : MT) (e : ME) : List D → Sg → W → Res (List D)
 | [], σ, w => if it.ok w then .ok [] w else .bad
 | x :: xs, σ, w => if it.ok w then (g x (c0 σ vs) w).NK.bind fun σ1 w1 => (t σ1 w1).NK.bind fun b w2 =>
   if b = true then (e σ1 w2).NK.bind fun y w3 => (nM it vs g t e xs σ w3).bind fun ys w4 => .ok (y :: ys) w4 else nM it vs g t e xs σ w2
  else .bad
def VY (m : MI) (vs : List Nat) (g : MG) (t : MT) (e : ME) : MA := fun σ w => (m σ w).bind fun it w1 => if it.xs.length ≤ sizeLine then nM it vs g t e it.xs σ w1 else .bad
def bQ (m : MI) (vs : List Nat) (g : MG) (t : MT) (e : ME) : ME := fun σ w => (VY m vs g t e σ w).bind fun ys w1 => .ok (.lst ys) w1
def SK (m : MI) (vs : List Nat) (g : MG) (t : MT) (e : ME) : ME := fun σ w => (VY m vs g t e σ w).bind fun ys w1 => .ok (.ref w1.length) (w1 ++ [.lst ys])
def JTs (S : aQ) (ifs : List Expr) (t : MT) : Prop := ∀ X E, Ctx S X → rP X E → PTs X ifs (UM X.K E t)
def bS : MT := fun _ w => .ok true w
abbrev aQ.blk (S : aQ) (scope : Scope) : aQ := { S with sc := relS scope S.sc, fn := fun x => scope.names.lookup x == some .cell }
theorem iN {S : aQ} {X : Cx} (c : Ctx S X) (s : Shared) (H : Hp) (scope : Scope) (C : Addr) (cl : List (Str × Addr)) (fp : List Addr) : Ctx (S.blk scope) (X.blk s H scope (compEnvC scope cl C X.env) fp) :=
 ⟨c.P, c.w, c.K, c.mg, c.base, c.N, by show relS scope X.env.scope = relS scope S.sc; rw [c.sc], fun _ h => h, c.calm, c.room, c.W5, c.nd⟩
theorem iM {X : Cx} (s : Shared) (H : Hp) (scope : Scope) (cenv : Env) (fp : List Addr) : rP (X.blk s H scope cenv fp) E0 :=
 ⟨fun _ _ ⟨_, _, _, _, _, _, _, _, _, _, _, _, _, _, _, _, h⟩ => h.elim, PassesOwn.never⟩
section
variable {S : aQ} {pos : Pos} {elt tg iter c : Expr} {ifs : List Expr} {scope : Scope} {own : List (Str × Nat)} {mi : MI} {g : MG} {t : MT} {me : ME}
theorem dU : JTs S [] bS := fun X E cx xo => ⟨fun pins s σ H Q J ⟨I, F, G, ds, w, rel, rs, p⟩ => pts_nil.run pins s σ H Q J (p I F H .refl rel)⟩
theorem aB6 (h : JT S c t) : JTs S [c] t := fun X E cx xo => pts_one (h X E cx xo)
theorem PM {K : PySem.W.Frag} {E : XK} {vs : List Nat} {f : List D → W → Res D} {σ : L2.St} {H : Hp} {Q : VK} (h : r5 K E (fun σ w => (VY mi vs g t me σ w).bind f) σ H Q)
  (fin : ∀ I F G w H q xs us, Rel K I F (upd G q (.lst us)) w H → G q = none → RepL K I F xs us → a7 K I F G E (RV K Q) (f xs w) → Q (.ref q) H) :
  tLc (aCd K E mi) (aBE K E0 vs g) (UM K E0 t) (r5 K E0 me) vs σ H Q := by
 obtain ⟨I, F, G, ds, w, rel, rs, p⟩ := h
 have p0 : a7 K I F G E (RV K Q) ((mi ds w).bind fun it w1 => (if it.xs.length ≤ sizeLine then nM it vs g t me it.xs ds w1 else .bad).bind f) := by
  rw [← Res.bind_assoc]; exact p
 refine ⟨I, F, G, ds, w, rel, rs, (a7.bind p0).mono fun I1 F1 H1 it w1 _ e1 rel1 p1 hok J hJ q hq => ?_⟩
 have hG : G q = none := by
  cases h : G q with
  | none => rfl
  | some u => rw [rel1.gz _ _ h] at hq; cases hq
 split at p1
 ·rename_i hz
  refine ⟨fun i n H' => n = it.xs.length - i ∧ i ≤ it.xs.length ∧ ∃ I' F' w' xs us, Ext I1 F1 I' F' ∧ Rel K I' F' (upd G q (.lst us)) w' H' ∧ RepL K I' F' xs us ∧ xs.length ≤ i ∧
    a7 K I' F' G E (RV K Q) ((nM it vs g t me (it.xs.drop i) ds w').bind fun ys w2 => f (xs ++ ys) w2),
   ⟨it.xs.length, by simp, Nat.zero_le _, I1, F1, w1, [], [], .refl, rel1.keep hq, by simp [RepL], az _, by simpa using p1⟩, ?_⟩
  rintro i n H' ⟨rfl, hi, I', F', w', xs, us, e', rel', rx, hxi, p'⟩
  by_cases hlt : i < it.xs.length
  ·rw [List.drop_eq_getElem_cons hlt] at p'
   unfold nM at p'
   split at p'
   ·rename_i hw
    obtain ⟨h1, _⟩ := hJ I' F' _ w' H' i e' rel' hw
    obtain ⟨hgo, hy⟩ := h1 _ (br hlt)
    refine .inr ⟨hgo, fun H2 => ∃ I2 F2 w2 xs2 us2, Ext I1 F1 I2 F2 ∧ Rel K I2 F2 (upd G q (.lst us2)) w2 H2 ∧ RepL K I2 F2 xs2 us2 ∧ xs2.length ≤ i + 1 ∧ a7 K I2 F2 G E (RV K Q) ((nM it vs g t me (it.xs.drop (i + 1)) ds w2).bind fun ys w2 => f (xs2 ++ ys) w2),
     fun H2 q => ⟨it.xs.length - (i + 1), by omega, rfl, hlt, q⟩, fun v H2 y => ?_⟩
    obtain ⟨F2, e2, rel2, rv⟩ := hy v H2 y
    have p2 := p'.ext e2
    rw [Res.bind_assoc] at p2
    -- from here on the list at q lies still
    have still : ∀ {α : Type} {R : List Addr → Hp → Hp → α → W → Prop} {r : Res α} {I3 : List Addr} {F3 : Hp}, a7 K I3 F3 G E0 R r → a7 K I3 F3 (upd G q (.lst us)) E0 (fun I' F' H' a w => Rel K I' F' (upd G q (.lst us)) w H' ∧ ∀ H'', Rel K I' F' G w H'' → R I' F' H'' a w) r := by
     intro α R r I3 F3 hp
     cases r with
     | ok a w => exact fun I' F' H' e q => ⟨q, fun H'' q' => hp I' F' H'' e q'⟩
     | HF x w =>
      intro I' F' H' c d e q rx
      exact hp I' F' H' c d e ⟨q.len, q.nd, q.ob, q.fz, q.ap, fun a u h => q.gz a u (by rw [upd_ne (ne_of_none h hG)]; exact h), fun a u h => q.gf a u (by rw [upd_ne (ne_of_none h hG)]; exact h), fun a xs h => q.gt a xs (by rw [upd_ne (ne_of_none h hG)]; exact h)⟩ rx
     | bad => exact hp
    have less : ∀ {I3 : List Addr} {F3 : Hp} {w3 : W} {H3 : Hp}, Rel K I3 F3 (upd G q (.lst us)) w3 H3 → Rel K I3 F3 G w3 H3 := fun {I3 F3 w3 H3} q => ⟨q.len, q.nd, q.ob, q.fz, q.ap, fun a u h => q.gz a u (by rw [upd_ne (ne_of_none h hG)]; exact h), fun a u h => q.gf a u (by rw [upd_ne (ne_of_none h hG)]; exact h), fun a xs h => q.gt a xs (by rw [upd_ne (ne_of_none h hG)]; exact h)⟩
    refine ⟨I', F2, upd G q (.lst us), _, c0 ds vs, w', rel2, (((rs.ext e1).ext e').ext e2).wipe vs, rv, (still (a7.zD p2)).mono fun I3 F3 H3 s3 w3 _ e3 rel3 p3 σ3 rs3 ew => ⟨ew.trans BC, ?_⟩⟩
    have p3' := p3.2 H3 (less rel3)
    rw [Res.bind_assoc] at p3'
    refine ⟨I3, F3, upd G q (.lst us), s3, w3, rel3, rs3, (still (a7.zD p3')).mono fun I4 F4 H4 b w4 _ e4 rel4 p4 => ?_⟩
    have p4' := p4.2 H4 (less rel4)
    cases b with
    | true =>
     simp only [ae] at p4' ⊢
     rw [Res.bind_assoc] at p4'
     refine ⟨I4, F4, upd G q (.lst us), s3, w4, rel4, rs3.ext e4, (still (a7.zD p4')).mono fun I5 F5 H5 y w5 _ e5 rel5 p5 u ru => ?_⟩
     have p5' := p5.2 H5 (less rel5)
     rw [Res.bind_assoc] at p5'
     have ee : Ext I' F' I5 F5 := ((e2.trans e3).trans e4).trans e5
     refine ⟨us, rel5.gz _ _ upd_same, by rw [← rx.length]; omega, I5, F5, w5, xs ++ [y], us ++ [u], e'.trans ee, rel5.UC, (RepL.ext ee _ _ rx).append (RepL.cons ru (by simp [RepL])), by simp; omega, ?_⟩
     simpa using p5'
    | false =>
     simp only [bp, ab] at p4' ⊢
     exact ⟨I4, F4, w4, xs, us, (e'.trans e2).trans (e3.trans e4), rel4, RepL.ext ((e2.trans e3).trans e4) _ _ rx, by omega, p4'⟩
   ·exact p'.elim
  ·have hl : i = it.xs.length := by omega
   subst hl
   rw [List.drop_length] at p'
   unfold nM at p'
   split at p'
   ·rename_i hw
    refine .inl ⟨(hJ I' F' _ w' H' _ e' rel' hw).2 rfl, fin I' F' G w' H' q xs us rel' hG rx ?_⟩
    simpa using p'
   ·exact p'.elim
 ·exact p1.elim
theorem M6 {K : PySem.W.Frag} {E : XK} {Q : VK} (I : List Addr) (F G : Hp) (w : W) (H : Hp) (q : Addr) (xs : List D) (us : List V) (rel : Rel K I F (upd G q (.lst us)) w H) (hG : G q = none) (rx : RepL K I F xs us)
  (p : a7 K I F G E (RV K Q) (.ok (.lst xs) w)) : Q (.ref q) H := by
 obtain ⟨e, rel2⟩ := rel.aF4 hG
 exact p _ _ H e rel2 _ (by simp only [aF]; exact ⟨q, us, rfl, upd_same, RepL.ext e _ _ rx⟩)
theorem eU (hi : JI S tg iter mi) (hb : blkC S.N S.sc scope own = true) (hg : JC (S.blk scope) (own.map (·.2)) tg g) (ht : JTs (S.blk scope) ifs t) (he : JE (S.blk scope) elt me)
  (hs : ∀ (env : Env) x, foldedSetIterable iter env x = pure x := by intro _ _; rfl) : JE S (.ListComp elt [⟨tg, iter, ifs, 0⟩] scope pos) (bQ mi (own.map (·.2)) g t me) := fun X E cx xo =>
 cF (pe_lc (own := own) cx.calm cx.nd (hi X E cx xo) (blkOk_by (by rw [cx.N, cx.sc]; exact hb)) (fun s H C cl fp => hg _ E0 (iN cx s H scope C cl fp) (iM ..)) (fun s H C cl fp => ht _ E0 (iN cx s H scope C cl fp) (iM ..))
  (fun s H C cl fp => he _ E0 (iN cx s H scope C cl fp) (iM ..)) (hs X.env)) fun σ H Q h => PM h M6
theorem SJ {i : Nat} {y : Str} {py spos : Pos} (hy : S.N[i]? = some y) (hyl : S.sc.names.lookup y = some .local) (hsw : ∀ env : Env, env.scope = S.sc → env.scope.kind = .function → swapsWith (.ListComp elt [⟨tg, iter, ifs, 0⟩] scope pos) (some (.Name y py)) spos.line env = pure true)
  (hi : JI S tg iter mi) (hb : blkC S.N S.sc scope own = true) (hg : JC (S.blk scope) (own.map (·.2)) tg g) (ht : JTs (S.blk scope) ifs t) (he : JE (S.blk scope) elt me)
  (hk : S.sc.kind = .function) (hs : ∀ (env : Env) x, foldedSetIterable iter env x = pure x := by intro _ _; rfl) : JS S (.Assign [.Name y py] (.ListComp elt [⟨tg, iter, ifs, 0⟩] scope pos) spos) (aT (bQ mi (own.map (·.2)) g t me) (aU i)) := fun X E cx xo =>
 jQ (ps_setLc (i := i) (own := own) cx.calm cx.nd (by rw [cx.N]; exact hy) (by rw [cx.sc]; exact hyl) (hsw X.env cx.sc (by rw [cx.sc]; exact hk)) (hi X E cx xo) (blkOk_by (by rw [cx.N, cx.sc]; exact hb)) (fun s H C cl fp => hg _ E0 (iN cx s H scope C cl fp) (iM ..)) (fun s H C cl fp => ht _ E0 (iN cx s H scope C cl fp) (iM ..))
  (fun s H C cl fp => he _ E0 (iN cx s H scope C cl fp) (iM ..)) (hs X.env)) fun Z σ H ⟨I, F, G, ds, w, rel, rs, p⟩ => by
  obtain ⟨I, F, G, ds, w, rel, rs, q⟩ : r5 X.K E (bQ mi (own.map (·.2)) g t me) σ H (fun x H1 => gName i x σ H1 Z.nx) := bM (f := fun ds d w1 => (aU i d ds w1).bind fun σ2 w2 => Res.ok (Fl.nx σ2) w2) rel rs p fun I1 F1 H1 x w1 v e1 rel1 rs1 rv p1 => p1 I1 F1 H1 .refl rel1 _ (rs1.set i rv)
  exact PM (f := fun ys w1 => Res.ok (D.lst ys) w1) ⟨I, F, G, ds, w, rel, rs, q⟩ M6
end
def keyD : D → Option Key
 | .int i => some (.inl i)
 | .str x => some (.inr x)
 | _ => none
def xC : List D → Option (List Key)
 | [] => some []
 | d :: ds => match keyD d, xC ds with
  | some k, some ks => some (k :: ks)
  | _, _ => none
def jH {κ : Type} [DecidableEq κ] : List (κ × D) → κ → Option D
 | [], _ => none
 | (j, d) :: r, k => if j = k then some d else jH r k
def putD {κ : Type} [DecidableEq κ] (kvs : List (κ × D)) (k : κ) (d : D) : List (κ × D) :=
 if (jH kvs k).isSome then kvs.map (fun p => if p.1 = k then (p.1, d) else p) else kvs ++ [(k, d)]
section
variable {K : PySem.W.Frag} {I : List Addr} {F G H : Hp} {w : W} {κ : Type} [DecidableEq κ]
def QV (K : PySem.W.Frag) (I : List Addr) (F : Hp) : Option D → Option V → Prop
 | some d, q => ∃ v, q = some v ∧ aF K I F d v
 | none, q => q = none
theorem aS.look : ∀ {kvs : List (κ × D)} {r : List (κ × V)} (k : κ), aS K I F kvs r → QV K I F (jH kvs k) (valV r k)
 | [], r, k, h => by simp only [aS] at h; subst h; rfl
 | (j, d) :: kvs, r, k, h => by
  simp only [aS] at h
  obtain ⟨v, t, rfl, h1, h2⟩ := h
  simp only [jH]
  by_cases e : j = k
  ·rw [if_pos e]; exact ⟨v, by rw [valV_pos e], h1⟩
  ·rw [if_neg e]
   have := aS.look k h2
   rw [valV_neg (by exact e)]
   exact this
theorem aS.length : ∀ {kvs : List (κ × D)} {r : List (κ × V)}, aS K I F kvs r → kvs.length = r.length
 | [], r, h => by simp only [aS] at h; subst h; rfl
 | (j, d) :: kvs, r, h => by
  simp only [aS] at h
  obtain ⟨v, t, rfl, h1, h2⟩ := h
  simp [aS.length h2]
theorem aS.repl {d : D} {v : V} (k : κ) (hv : aF K I F d v) : ∀ {kvs : List (κ × D)} {r : List (κ × V)}, aS K I F kvs r → aS K I F (kvs.map (fun p => if p.1 = k then (p.1, d) else p)) (r.map (fun p => if p.1 = k then (p.1, v) else p))
 | [], r, h => by simp only [aS] at h; subst h; simp [aS]
 | (j, x) :: kvs, r, h => by
  simp only [aS] at h
  obtain ⟨u, t, rfl, h1, h2⟩ := h
  simp only [List.map_cons]
  by_cases e : j = k
  ·rw [if_pos e, if_pos e]; simp only [aS]; exact ⟨v, _, rfl, hv, aS.repl k hv h2⟩
  ·rw [if_neg e, if_neg e]; simp only [aS]; exact ⟨u, _, rfl, h1, aS.repl k hv h2⟩
theorem aS.snoc {d : D} {v : V} (k : κ) (hv : aF K I F d v) : ∀ {kvs : List (κ × D)} {r : List (κ × V)}, aS K I F kvs r → aS K I F (kvs ++ [(k, d)]) (r ++ [(k, v)])
 | [], r, h => by simp only [aS] at h; subst h; simp only [List.nil_append, aS]; exact ⟨v, [], rfl, hv, rfl⟩
 | (j, x) :: kvs, r, h => by
  simp only [aS] at h
  obtain ⟨u, t, rfl, h1, h2⟩ := h
  simp only [List.cons_append, aS]
  exact ⟨u, _, rfl, h1, aS.snoc k hv h2⟩
theorem aBQ (r : List (κ × V)) (k : κ) (v : V) : putK r k v = if (valV r k).isSome then r.map (fun p => if p.1 = k then (p.1, v) else p) else r ++ [(k, v)] := by
 unfold putK
 rw [valV_any]
theorem aS.put {d : D} {v : V} (k : κ) (hv : aF K I F d v) {kvs : List (κ × D)} {r : List (κ × V)} (h : aS K I F kvs r) : aS K I F (putD kvs k d) (putK r k v) := by
 rw [aBQ]
 unfold putD
 have hl := h.look k
 cases e : jH kvs k with
 | some x =>
  rw [e] at hl
  obtain ⟨u, hu, _⟩ := hl
  rw [hu]
  exact h.repl k hv
 | none =>
  rw [e] at hl
  rw [hl]
  exact h.snoc k hv
theorem uW {d : D} {v : V} {k : Key} (h : aF K I F d v) (e : keyD d = some k) : v = kV k := by
 cases d <;> simp only [keyD, ah, reduceCtorEq] at e
 ·subst e; simp only [aF] at h; exact h
 ·subst e; simp only [aF] at h; exact h
theorem vN : ∀ {ds : List D} {vs : List V} {ks : List Key}, RepL K I F ds vs → xC ds = some ks → vs = ks.map kV
 | [], vs, ks, h, e => by simp only [xC, ah] at e; subst e; simp only [RepL] at h; exact h
 | d :: ds, vs, ks, h, e => by
  simp only [RepL] at h
  obtain ⟨v, r, rfl, h1, h2⟩ := h
  simp only [xC] at e
  split at e
  ·rename_i k ks' e1 e2
   cases e
   rw [uW h1 e1, vN h2 e2]
   rfl
  ·cases e
theorem Rel.upd {i : Nat} {a : Addr} {o o' : MO} {u' : HO} (rel : Rel K I F G w H) (hi : I[i]? = some a) (ho : w[i]? = some o) (r : k9 K I F o' u') (hf : o.fz = false := by rfl) : Rel K I F G (w.set i o') (upd H a u') := by
 have hF : F a = none := rel.ap i a o hi ho hf
 have hil : i < w.length := (ag.mp ho).1
 refine ⟨by simp [rel.len], rel.nd, fun j b q h1 h2 => ?_, fun b u h => ?_, fun j b q h1 h2 h3 => ?_, fun b u h => ?_, rel.gf, rel.gt⟩
 ·by_cases hj : i = j
  ·subst hj
   rw [au hil] at h2
   cases h2
   rw [hi] at h1; cases h1
   exact ⟨u', upd_same, r⟩
  ·rw [av hj] at h2
   obtain ⟨u, h3, h4⟩ := rel.ob j b q h1 h2
   have hb : b ≠ a := fun z => by
    subst z
    obtain ⟨l1, e1⟩ := ag.mp hi
    obtain ⟨l2, e2⟩ := ag.mp h1
    exact hj ((List.getElem_inj rel.nd).mp (e1.trans e2.symm))
   exact ⟨u, by rw [upd_ne hb]; exact h3, h4⟩
 ·rw [upd_ne (ne_of_none h hF)]; exact rel.fz b u h
 ·by_cases hj : i = j
  ·subst hj
   rw [hi] at h1; cases h1; exact hF
  ·rw [av hj] at h2
   exact rel.ap j b q h1 h2 h3
 ·have hb : b ≠ a := fun z => (rel.gf b u h).2 (z ▸ bw hi)
  rw [upd_ne hb]; exact rel.gz b u h
end
theorem RepL.at' {K : PySem.W.Frag} {I : List Addr} {F : Hp} {ds : List D} {vs : List V} (r : RepL K I F ds vs) {i : Int} {d : D} (h : atI ds i = some d) : ∃ v, atI vs i = some v ∧ aF K I F d v := by
 unfold atI at h ⊢
 rw [← r.length]
 cases e : ixN ds.length i with
 | none => rw [e] at h; cases h
 | some j => rw [e] at h; exact r.get h
def qR (o : MO) (y : D) : Option (Option D) := match o, y with
 | .dK kvs, y => (keyD y).map (jH kvs)
 | .dF kvs, y => (keyD y).map (jH kvs)
 | .dT kvs, .tup ys => (xC ys).map (jH kvs)
 | .dG kvs, .tup ys => (xC ys).map (jH kvs)
 | _, _ => none
def atM (xs : List D) (y : D) (w : W) : Res D := match y with
 | .int i => (match atI xs i with
  | some d => .ok d w
  | none => .bad)
 | _ => .bad
def atS (z : Str) (y : D) (w : W) : Res D := match y with
 | .int i => if z.length ≤ sizeLine then (match atI z.cps.toList i with
   | some c => .ok (.str ⟨#[c]⟩) w
   | none => .bad) else .bad
 | _ => .bad
def aV (x y : D) (w : W) : Res D := match x with
 | .tup xs => atM xs y w
 | .jA xs => atM xs y w
 | .lst xs => atM xs y w
 | .qG xs => atM xs y w
 | .str z => atS z y w
 | .ref r => (match w[r]? with
  | some (.lst xs) => atM xs y w
  | some o => (match qR o y with
   | some (some d) => .ok d w
   | _ => .bad)
  | none => .bad)
 | _ => .bad
theorem aC1 {X : Cx} (hu : X.A.units + 1 < cLine) : IxR X (fun x y H Q => ∃ a v, x = .ref a ∧ DGet H a y (some v) ∧ Q v H) := by
 intro value slice pins s σ H x y ov iv Q J rx ry h hs
 obtain ⟨a, v, ex, g, q⟩ := h
 subst ex
 cases rx
 have hT : s.TypeIs (.ref a) "dict" := dict_typeIs J g
 unfold subscriptTail
 apply wpAny_bind
 rw [getitemInPython_of_ne hT.not_modules]
 apply wpAny_bind
 apply wpAny_specialOf hT PySem.F.slot_dict_getitem.lookup
 have fin : wpAny (model X.prog X.w) X.A (subscripted slice false (.ref a) iv) (fun r s₃ => wpAny (model X.prog X.w) X.A (letTemporaryGo value (.ref a) r >>= fun _ => pure r) (EP X pins σ Q) X.xe s₃) X.xe s := by
  rw [hs]
  apply wpAny_operating
  exact d_getItem hu J g ry fun w' s3 J3 rw' => wpAny_bind (wpAny_letTemporaryGo (wpAny_pure ⟨v, H, J3, rw', q⟩))
 first
  | exact wpAny_pure (wpAny_bind fin)
  | exact wpAny_bind (wpAny_pure (wpAny_bind fin))
  | exact wpAny_bind fin
theorem MZ {K : PySem.W.Frag} {I : List Addr} {F G H : Hp} {w : W} (rel : Rel K I F G w H) {i : Nat} {a : Addr} {o : MO} {y : D} {v : V} {r : Option D} (hi : I[i]? = some a) (ho : w[i]? = some o) (ry : aF K I F y v) (e : qR o y = some r) :
  ∃ q, DGet H a v q ∧ QV K I F r q := by
 obtain ⟨u, hu, ro⟩ := rel.ob i a o hi ho
 cases o with
 | lst => simp [qR] at e
 | ins => simp [qR] at e
 | dK kvs =>
  obtain ⟨t, rfl, rk⟩ := ro
  simp only [qR, ai] at e
  obtain ⟨k, ek, rfl⟩ := e
  exact ⟨valV t k, .inl ⟨t, k, .inl hu, uW ry ek, rfl⟩, rk.look k⟩
 | dF kvs =>
  obtain ⟨ob, t, rfl, rk⟩ := ro
  simp only [qR, ai] at e
  obtain ⟨k, ek, rfl⟩ := e
  exact ⟨valV t k, .inl ⟨t, k, .inr ⟨ob, hu⟩, uW ry ek, rfl⟩, rk.look k⟩
 | dT kvs =>
  obtain ⟨t, rfl, rk⟩ := ro
  cases y <;> simp only [qR, ai, reduceCtorEq] at e
  obtain ⟨k, ek, rfl⟩ := e
  simp only [aF] at ry
  obtain ⟨b, us, rfl, hb, rl⟩ := ry
  obtain rfl := vN rl ek
  exact ⟨valV t k, .inr ⟨t, k, b, .inl hu, rfl, rel.fz _ _ hb, rfl⟩, rk.look k⟩
 | dG kvs =>
  obtain ⟨ob, t, rfl, rk⟩ := ro
  cases y <;> simp only [qR, ai, reduceCtorEq] at e
  obtain ⟨k, ek, rfl⟩ := e
  simp only [aF] at ry
  obtain ⟨b, us, rfl, hb, rl⟩ := ry
  obtain rfl := vN rl ek
  exact ⟨valV t k, .inr ⟨t, k, b, .inr ⟨ob, hu⟩, rfl, rel.fz _ _ hb, rfl⟩, rk.look k⟩
def Z4 (S : aQ) (f : D → D → W → Res D) : Prop := ∀ X E, Ctx S X → rP X E → IxR X (aAj X.K E f)
section
variable {S : aQ} {pos : Pos} {a b : Expr} {ma mb : ME}
theorem RJ {f : D → D → W → Res D}
  (h : ∀ (X : Cx) (E : XK), Ctx S X → rP X E → ∀ (I : List Addr) (F G : Hp) (d e : D) (w : W) (H : Hp) (x y : V) (Q : VK), Rel X.K I F G w H → aF X.K I F d x → aF X.K I F e y → a7 X.K I F G E (RV X.K Q) (f d e w) →
   ∃ r : R2, IxR X r ∧ r x y H Q) : Z4 S f := fun X E c xo value slice pins s σ H x y v u Q J rx ry ⟨I, F, G, d, e, w, rel, rd, re, p⟩ hs => by
 obtain ⟨r, ho, hr⟩ := h X E c xo I F G d e w H x y Q rel rd re p
 exact ho value slice pins s σ H x y v u Q J rx ry hr hs
theorem GA {X : Cx} {E : XK} {I : List Addr} {F G : Hp} {e : D} {w : W} {H : Hp} {x y : V} {Q : VK} (rel : Rel X.K I F G w H) (re : aF X.K I F e y) {xs : List D} {vs : List V} {q : Addr} (h1 : SqL X.K H q vs ∨ SqT X.K H q vs) (h2 : RepL X.K I F xs vs) (ex : x = .ref q)
  (p : a7 X.K I F G E (RV X.K Q) (atM xs e w)) : ∃ r : R2, IxR X r ∧ r x y H Q := by
 cases e <;> first | exact p.elim | skip
 rename_i i
 simp only [aF] at re
 simp only [atM] at p
 cases ha : atI xs i with
 | none => rw [ha] at p; exact p.elim
 | some d =>
  rw [ha] at p
  obtain ⟨v, hv, rv⟩ := h2.at' ha
  rcases h1 with h1 | h1
  ·exact ⟨_, ix_list, q, vs, i, v, ex, re, h1, hv, p.mU rel rv⟩
  ·exact ⟨_, ix_tup, q, vs, i, v, ex, re, h1, hv, p.mU rel rv⟩
theorem aFG : Z4 S aV := RJ fun X E c xo I F G d e w H x y Q rel rd re p => by
 cases d <;> first | exact p.elim | skip
 case str z =>
  cases e <;> first | exact p.elim | skip
  rename_i i
  simp only [aF] at rd re
  simp only [aV, atS] at p
  split at p
  ·rename_i hz
   split at p
   ·rename_i c hc
    exact ⟨_, ix_str, z, i, c, rd, re, hz, hc, p.mU rel (by simp [aF])⟩
   ·exact p.elim
  ·exact p.elim
 case tup xs =>
  simp only [aF] at rd
  obtain ⟨q, vs, ex, h1, h2⟩ := rd
  exact GA rel re (.inr (.of (rel.fz _ _ h1))) h2 ex p
 case jA xs =>
  simp only [aF] at rd
  obtain ⟨q, vs, ex, h1, h2⟩ := rd
  exact GA rel re (.inr (rel.K2 h1)) h2 ex p
 case lst xs =>
  simp only [aF] at rd
  obtain ⟨q, vs, ex, h1, h2⟩ := rd
  exact GA rel re (.inl (.of (rel.fz _ _ h1))) h2 ex p
 case qG xs =>
  simp only [aF] at rd
  obtain ⟨q, vs, ex, h1, h2⟩ := rd
  exact GA rel re (.inl (rel.XY h1)) h2 ex p
 case ref i =>
  simp only [aF] at rd
  obtain ⟨q, ex, h1⟩ := rd
  simp only [aV] at p
  split at p
  ·rename_i xs hw
   obtain ⟨u, hu, vs, rfl, h2⟩ := rel.ob i q _ h1 hw
   exact GA rel re (.inl (.of hu)) h2 ex p
  ·rename_i o hn hw
   split at p
   ·rename_i d hd
    obtain ⟨r, hr, u, rfl, ru⟩ := MZ rel h1 hw re hd
    exact ⟨_, aC1 (by have := c.room.units; omega), q, u, ex, hr, p.mU rel ru⟩
   ·exact p.elim
  ·exact p.elim
theorem cK (ha : JE S a ma) (hb : JE S b mb) (hs : PlainIx b := by intro _ _; rfl) : JE S (.Subscript a b pos) (aD aV ma mb) := fun X E c xo =>
 cF (pe_ix (aFG X E c xo) (ha X E c xo) (hb X E c xo) hs) fun _ _ _ h => zK h
end
abbrev MO' := Sg → W → Res (Option Int)
def dB : MO' := fun _ w => .ok none w
def cR (m : ME) : MO' := fun σ w => (m σ w).bind fun d w1 => match d with
 | .int i => .ok (some i) w1
 | _ => .bad
def RO (Q : Option Int → Hp → Prop) : List Addr → Hp → Hp → Option Int → W → Prop := fun _ _ H' o _ => Q o H'
def aGZ (K : PySem.W.Frag) (E : XK) (m : MO') : TO := fun σ H Q => ∃ I F G ds w, Rel K I F G w H ∧ fX K I F ds σ ∧ a7 K I F G E (RO Q) (m ds w)
def JO (S : aQ) (e : Option Expr) (m : MO') : Prop := ∀ X E, Ctx S X → rP X E → PO X e (aGZ X.K E m)
def cutD (xs : List D) (lo hi : Option Int) : List D := (xs.drop (HT.sIx xs.length 0 lo)).take (HT.sIx xs.length xs.length hi - HT.sIx xs.length 0 lo)
def mS (x : D) (lo hi : Option Int) (w : W) : Res D := match x with
 | .tup xs => .ok (.tup (cutD xs lo hi)) w
 | .str z => if z.length ≤ sizeLine then .ok (.str (cutS z lo hi)) w else .bad
 | .lst xs => .ok (.lst (cutD xs lo hi)) w
 | .qG xs => .ok (.lst (cutD xs lo hi)) w
 | .ref i => (match w[i]? with
  | some (.lst xs) => .ok (.lst (cutD xs lo hi)) w
  | _ => .bad)
 | _ => .bad
def qF (f : D → Option Int → Option Int → W → Res D) (a : ME) (lo hi : MO') : ME := fun σ w => (a σ w).bind fun x w1 => (lo σ w1).bind fun l w2 => (hi σ w2).bind fun u w3 => f x l u w3
theorem RepL.cutV {K : PySem.W.Frag} {I : List Addr} {F : Hp} {ds : List D} {vs : List V} (r : RepL K I F ds vs) (lo hi : Option Int) : RepL K I F (cutD ds lo hi) (L2.cutV vs lo hi) := by
 unfold cutD L2.cutV
 rw [← r.length]
 exact (r.drop _).take _
theorem W9 {xs : List D} {lo hi : Option Int} (h : HT.sIx xs.length 0 lo = 0 ∧ HT.sIx xs.length xs.length hi = xs.length) : cutD xs lo hi = xs := by
 unfold cutD
 rw [h.1, h.2]
 simp
def SlM (S : aQ) (f : D → Option Int → Option Int → W → Res D) : Prop := ∀ X E, Ctx S X → rP X E → ∀ (I : List Addr) (F G : Hp) (d : D) (w : W) (H : Hp) (x : V) (lo hi : Option Int) (Q : VK), Rel X.K I F G w H → aF X.K I F d x → a7 X.K I F G E (RV X.K Q) (f d lo hi w) →
   ∃ r, SlR X r ∧ r x lo hi H Q
def aFE (K : PySem.W.Frag) (E : XK) (f : D → Option Int → Option Int → W → Res D) : V → Option Int → Option Int → Hp → VK → Prop := fun x lo hi H Q => ∃ I F G d w, Rel K I F G w H ∧ aF K I F d x ∧ a7 K I F G E (RV K Q) (f d lo hi w)
section
variable {S : aQ} {pos p2 : Pos} {a e : Expr} {ma m : ME} {lo hi : Option Expr} {ml mh : MO'} {f : D → Option Int → Option Int → W → Res D}
theorem gY : JO S none dB := fun X E c xo => ⟨fun pins s σ H Q J ⟨I, F, G, ds, w, rel, rs, p⟩ => po_none.run pins s σ H Q J (p I F H .refl rel)⟩
theorem fS (h : JE S e m) : JO S (some e) (cR m) := fun X E c xo => ⟨fun pins s σ H Q J ⟨I, F, G, ds, w, rel, rs, p⟩ => (po_some (h X E c xo)).run pins s σ H Q J
 (bM (f := fun _ d w1 => match d with
  | .int i => Res.ok (some i) w1
  | _ => .bad) rel rs p fun I1 F1 H1 x w1 v e1 rel1 rs1 rv p1 => by
  cases x <;> first | exact p1.elim | skip
  simp only [aF] at rv
  exact ⟨_, rv, p1 I1 F1 H1 .refl rel1⟩)⟩
theorem oE : SlM S mS := fun X E c xo I F G d w H x lo hi Q rel rd p => by
 cases d <;> first | exact p.elim | skip
 case tup xs =>
  simp only [aF] at rd
  obtain ⟨q, vs, ex, h1, h2⟩ := rd
  refine ⟨_, sl_tupA, q, vs, ex, .of (rel.fz _ _ h1), fun hw => ?_, fun hw => ?_⟩
  ·rw [← h2.length] at hw
   refine p.mU rel ?_
   rw [W9 hw]
   simp only [aF]
   exact ⟨q, vs, ex ▸ rfl, h1, h2⟩
  ·exact zJ rel (h2.cutV lo hi) p
 case str z =>
  simp only [aF] at rd
  simp only [mS] at p
  split at p
  ·rename_i hz
   exact ⟨_, sl_str, z, rd, hz, p.mU rel (by simp [aF])⟩
  ·exact p.elim
 case lst xs =>
  simp only [aF] at rd
  obtain ⟨q, vs, ex, h1, h2⟩ := rd
  exact ⟨_, sl_list, q, vs, ex, .of (rel.fz _ _ h1), jX rel (h2.cutV lo hi) p⟩
 case qG xs =>
  simp only [aF] at rd
  obtain ⟨q, vs, ex, h1, h2⟩ := rd
  exact ⟨_, sl_list, q, vs, ex, rel.XY h1, jX rel (h2.cutV lo hi) p⟩
 case ref i =>
  simp only [aF] at rd
  obtain ⟨q, ex, h1⟩ := rd
  simp only [mS] at p
  split at p
  ·rename_i xs hw
   obtain ⟨u, hu, vs, rfl, h2⟩ := rel.ob i q _ h1 hw
   exact ⟨_, sl_list, q, vs, ex, .of hu, jX rel (h2.cutV lo hi) p⟩
  ·exact p.elim
theorem n7 (hf : SlM S f) (ha : JE S a ma) (hl : JO S lo ml) (hh : JO S hi mh) : JE S (.Subscript a (.Slice lo hi none p2) pos) (qF f ma ml mh) := fun X E c xo => by
 have hr : SlR X (aFE X.K E f) := fun pins s σ H x v vl vu l u sl Q J rx hs pl pu ⟨I, F, G, d, w, rel, rd, p⟩ => by
  obtain ⟨r, h1, h2⟩ := hf X E c xo I F G d w H x l u Q rel rd p
  exact h1 pins s σ H x v vl vu l u sl Q J rx hs pl pu h2
 refine cF (pe_slice hr (ha X E c xo) (hl X E c xo) (hh X E c xo)) fun σ H Q ⟨I, F, G, ds, w, rel, rs, p⟩ => ?_
 refine bM (f := fun ds x w1 => (ml ds w1).bind fun l w2 => (mh ds w2).bind fun u w3 => f x l u w3) rel rs p fun I1 F1 H1 x w1 v e1 rel1 rs1 rv p1 => ?_
 refine ⟨I1, F1, G, ds, w1, rel1, rs1, (a7.bind p1).mono fun I2 F2 H2 l w2 _ e2 rel2 p2 => ?_⟩
 refine ⟨I2, F2, G, ds, w2, rel2, rs1.ext e2, (a7.bind p2).mono fun I3 F3 H3 u w3 _ e3 rel3 p3 => ?_⟩
 exact ⟨I3, F3, G, x, w3, rel3, aF.ext (e2.trans e3) _ _ rv, p3⟩
end
def setM (o i d : D) (w : W) : Res Unit := match o with
 | .ref r => (match w[r]? with
  | some (.lst xs) => (match i with
   | .int k => (match ixN xs.length k with
    | some j => .ok () (w.set r (.lst (xs.set j d)))
    | none => .bad)
   | _ => .bad)
  | some (.dK kvs) => (match keyD i with
   | some k => if kvs.length < sizeLine then .ok () (w.set r (.dK (putD kvs k d))) else .bad
   | none => .bad)
  | some (.dT kvs) => (match i with
   | .tup ys => (match xC ys with
    | some k => if kvs.length < sizeLine then .ok () (w.set r (.dT (putD kvs k d))) else .bad
    | none => .bad)
   | _ => .bad)
  | _ => .bad)
 | _ => .bad
def dQ (mo mi : ME) : MG := fun d σ w => (mo σ w).bind fun o w1 => (mi σ w1).bind fun i w2 => (setM o i d w2).bind fun _ w3 => .ok σ w3
def aEF (K : PySem.W.Frag) (E : XK) : TSet := fun o i v H Q => ∃ I F G x y d w, Rel K I F G w H ∧ aF K I F x o ∧ aF K I F y i ∧ aF K I F d v ∧ a7 K I F G E (fun _ _ H' _ _ => Q H') (setM x y d w)
theorem aEr {X : Cx} {E : XK} (hu : X.A.units + 1 < cLine) : PSet X (aEF X.K E) := by
 intro pins s σ H o i v ov iv u Q J ro ri rv ⟨I, F, G, x, y, d, w, rel, rx, ry, rd, p⟩
 cases x <;> first | exact p.elim | skip
 rename_i r
 simp only [aF] at rx
 obtain ⟨a, rfl, h1⟩ := rx
 simp only [setM] at p
 split at p
 ·rename_i xs hw
  obtain ⟨t, hu', vs, rfl, h2⟩ := rel.ob r a _ h1 hw
  cases y <;> first | exact p.elim | skip
  rename_i k
  simp only [aF] at ry
  subst ry
  dsimp only at p
  split at p
  ·rename_i j hj
   exact set_list pins s σ H _ _ v ov iv u Q J ro ri rv ⟨a, vs, k, j, rfl, rfl, hu', by rw [← h2.length]; exact hj, p I F _ .refl (rel.upd h1 hw ⟨_, rfl, h2.set j rd⟩)⟩
  ·exact p.elim
 ·rename_i kvs hw
  obtain ⟨t, hu', vs, rfl, h2⟩ := rel.ob r a _ h1 hw
  split at p
  ·rename_i k hk
   split at p
   ·rename_i hl
    obtain rfl := uW ry hk
    cases ro
    exact d_setItem hu J (.inl ⟨vs, k, hu', rfl, by rw [← h2.length]; exact hl, rfl⟩) ri rv fun s' J' => ⟨_, J', p I F _ .refl (rel.upd h1 hw ⟨_, rfl, h2.put k rd⟩)⟩
   ·exact p.elim
  ·exact p.elim
 ·rename_i kvs hw
  obtain ⟨t, hu', vs, rfl, h2⟩ := rel.ob r a _ h1 hw
  cases y <;> first | exact p.elim | skip
  rename_i ys
  dsimp only at p
  split at p
  ·rename_i k hk
   split at p
   ·rename_i hl
    simp only [aF] at ry
    obtain ⟨b, us, rfl, hb, rl⟩ := ry
    obtain rfl := vN rl hk
    cases ro
    exact d_setItem hu J (.inr ⟨vs, k, b, hu', rfl, rel.fz _ _ hb, by rw [← h2.length]; exact hl, rfl⟩) ri rv fun s' J' => ⟨_, J', p I F _ .refl (rel.upd h1 hw ⟨_, rfl, h2.put k rd⟩)⟩
   ·exact p.elim
  ·exact p.elim
 ·exact p.elim
section
variable {S : aQ} {pos : Pos} {o i : Expr} {mo mi : ME}
theorem K1 (ho : JE S o mo) (hi : JE S i mi)
  (ha : ∀ (env : Env) v, assign (.Subscript o i pos) env v = (do
   let ov ← holding [v] (eval o env)
   let iv ← holding [v, ov] (eval i env)
   standAt pos
   holding [v, ov, iv] (setItem ov iv v)
   release [v, ov, iv] []) := by intro _ _; rfl) : JG S (.Subscript o i pos) (dQ mo mi) := fun X E c xo =>
 wA (pg_sub (ho X E c xo) (hi X E c xo) (aEr (E := E) (by have := c.room.units; omega)) (ha X.env)) fun v σ H Q ⟨I, F, G, d, ds, w, rel, rs, rv, p⟩ => by
  refine bM (f := fun ds x w1 => (mi ds w1).bind fun y w2 => (setM x y d w2).bind fun _ w3 => Res.ok ds w3) rel rs p fun I1 F1 H1 x w1 u e1 rel1 rs1 ru p1 => ?_
  refine bM (f := fun ds y w2 => (setM x y d w2).bind fun _ w3 => Res.ok ds w3) rel1 rs1 p1 fun I2 F2 H2 y w2 t e2 rel2 rs2 rt p2 => ?_
  exact ⟨I2, F2, G, x, y, d, w2, rel2, aF.ext e2 _ _ ru, rt, aF.ext (e1.trans e2) _ _ rv, (a7.bind p2).mono fun I3 F3 H3 z w3 _ e3 rel3 p3 => p3 I3 F3 H3 .refl rel3 σ (rs2.ext e3)⟩
end
def aFP (K : PySem.W.Frag) (E : XK) (m : MF) : List V → Hp → VK → Prop := fun vs H Q => ∃ I F G ds w, Rel K I F G w H ∧ RepL K I F ds vs ∧ a7 K I F G E (RV K Q) (m ds w)
def CB (S : aQ) (f : Value) (m : MF) : Prop := ∀ X E, Ctx S X → rP X E → CallR X f (aFP X.K E m)
def aR (m : MF) (ma : MA) : ME := fun σ w => (ma σ w).bind fun xs w1 => m xs w1
section
variable {S : aQ} {m : MF} {x : Str} {p pos : Pos} {e : Expr} {es : List Expr} {ma : MA} {f : Value}
theorem sR (h : ∀ (X : Cx) (E : XK), Ctx S X → rP X E → ∀ (I : List Addr) (F G : Hp) (ds : List D) (w : W) (H : Hp) (vs : List V) (Q : VK), Rel X.K I F G w H → RepL X.K I F ds vs → a7 X.K I F G E (RV X.K Q) (m ds w) → ∃ r, CallR X f r ∧ r vs H Q) : CB S f m :=
 fun X E c xo pins s σ H vs us Q J r ⟨I, F, G, ds, w, rel, rl, p⟩ => by
  obtain ⟨r', h1, h2⟩ := h X E c xo I F G ds w H vs Q rel rl p
  exact h1 pins s σ H vs us Q J r h2
theorem WI {K : PySem.W.Frag} {E : XK} {σ : L2.St} {H : Hp} {Q : VK} (h : r5 K E (aR m ma) σ H Q) : tCB (aFP K E m) (aCu K E ma) σ H Q := by
 obtain ⟨I, F, G, ds, w, rel, rs, p⟩ := h
 exact cX (f := fun _ xs w1 => m xs w1) rel rs p fun I1 F1 H1 xs w1 vs e1 rel1 rs1 rvs p1 => ⟨I1, F1, G, xs, w1, rel1, rvs, p1⟩
theorem bD {id : String} (hc : CB S (.builtin id) m) (hg : S.sc.names.lookup x = some .globalImplicit) (hm : S.mg x = none) (hv : bootBuiltins x = some (.builtin id)) (ha : JA S (e :: es) ma) (hn : x ≠ "__name__" := by decide) (hdb : (x == ("__debug__" : Str)) = false := by decide)
  (he : ∀ env : Env, starEach (e :: es) env = (false, eval e env) :: starEach es env := by intro _; rfl) (hpl : ∀ env : Env, (backTo pos (starEach es env)).any (·.1) = false := by intro _; rfl) : JE S (.Call (.Name x p) (e :: es) [] pos) (aR m ma) := fun X E c xo =>
 cF (pe_callB (hc X E c xo) (by show X.env.scope.names.lookup x = _; rw [c.sc]; exact hg) (by rw [c.mg]; exact hm) hv (ha X E c xo) hn hdb (he X.env) (hpl X.env)) fun _ _ _ h => WI h
theorem dD {id : String} (hc : CB S (.type id) m) (hg : S.sc.names.lookup x = some .globalImplicit) (hm : S.mg x = none) (hv : bootBuiltins x = some (.type id)) (ha : JA S (e :: es) ma) (hn : x ≠ "__name__" := by decide) (hdb : (x == ("__debug__" : Str)) = false := by decide)
  (he : ∀ env : Env, starEach (e :: es) env = (false, eval e env) :: starEach es env := by intro _; rfl) (hpl : ∀ env : Env, (backTo pos (starEach es env)).any (·.1) = false := by intro _; rfl) : JE S (.Call (.Name x p) (e :: es) [] pos) (aR m ma) := fun X E c xo =>
 cF (pe_callTy (hc X E c xo) (by show X.env.scope.names.lookup x = _; rw [c.sc]; exact hg) (by rw [c.mg]; exact hm) hv (ha X E c xo) hn hdb (he X.env) (hpl X.env)) fun _ _ _ h => WI h
end
theorem RepL.one {K : PySem.W.Frag} {I : List Addr} {F : Hp} {d : D} {vs : List V} (h : RepL K I F [d] vs) : ∃ v, vs = [v] ∧ aF K I F d v := by
 simp only [RepL] at h
 obtain ⟨v, r, rfl, h1, rfl⟩ := h
 exact ⟨v, rfl, h1⟩
theorem RepL.two {K : PySem.W.Frag} {I : List Addr} {F : Hp} {d e : D} {vs : List V} (h : RepL K I F [d, e] vs) : ∃ v u, vs = [v, u] ∧ aF K I F d v ∧ aF K I F e u := by
 simp only [RepL] at h
 obtain ⟨v, r, rfl, h1, u, r2, rfl, h2, rfl⟩ := h
 exact ⟨v, u, rfl, h1, h2⟩
theorem G5 {K : PySem.W.Frag} {I : List Addr} {F G H : Hp} {w : W} (rel : Rel K I F G w H) {d : D} {v : V} {xs : List D} (h : aF K I F d v) (e : d.items w = some xs) : ∃ a vs, v = .ref a ∧ (SqL K H a vs ∨ SqT K H a vs) ∧ RepL K I F xs vs := by
 cases d <;> simp only [D.items, ah, reduceCtorEq] at e <;> simp only [aF] at h
 case tup => subst e; obtain ⟨a, vs, h0, h1, h2⟩ := h; exact ⟨a, vs, h0, .inr (.of (rel.fz _ _ h1)), h2⟩
 case jA => subst e; obtain ⟨a, vs, h0, h1, h2⟩ := h; exact ⟨a, vs, h0, .inr (rel.K2 h1), h2⟩
 case lst => subst e; obtain ⟨a, vs, h0, h1, h2⟩ := h; exact ⟨a, vs, h0, .inl (.of (rel.fz _ _ h1)), h2⟩
 case qG => subst e; obtain ⟨a, vs, h0, h1, h2⟩ := h; exact ⟨a, vs, h0, .inl (rel.XY h1), h2⟩
 case ref i =>
  split at e
  ·rename_i ys hw
   cases e
   obtain ⟨a, h0, h1⟩ := h
   obtain ⟨u, hu, vs, rfl, h2⟩ := rel.ob i a _ h1 hw
   exact ⟨a, vs, h0, .inl (.of hu), h2⟩
  ·cases e
def EU (d : D) (w : W) : Option Nat := match d with
 | .str z => if z.length ≤ sizeLine then some z.length else none
 | .ref i => (match w[i]? with
  | some (.lst xs) => some xs.length
  | some (.dK kvs) => some kvs.length
  | _ => none)
 | d => (d.items w).map List.length
def c7 : MF := fun ds w => match ds with
 | [d] => (match EU d w with
  | some n => .ok (.int n) w
  | none => .bad)
 | _ => .bad
def jY : List D → Option (List Int)
 | [] => some []
 | .int i :: r => (jY r).map (i :: ·)
 | _ :: _ => none
theorem m6 {K : PySem.W.Frag} {I : List Addr} {F : Hp} : ∀ {ds : List D} {vs : List V} {ns : List Int}, RepL K I F ds vs → jY ds = some ns → vs = ns.map V.int
 | [], vs, ns, h, e => by simp only [jY, ah] at e; subst e; simp only [RepL] at h; exact h
 | d :: ds, vs, ns, h, e => by
  cases d <;> simp only [jY, ai, reduceCtorEq] at e
  obtain ⟨r, e1, rfl⟩ := e
  simp only [RepL, aF] at h
  obtain ⟨v, t, rfl, rfl, h2⟩ := h
  rw [m6 h2 e1]
  rfl
def xD (d : D) (w : W) : Option (List D) := match d with
 | .lst xs => some xs
 | .qG xs => some xs
 | .ref i => (match w[i]? with
  | some (.lst xs) => some xs
  | _ => none)
 | _ => none
def wG (d : D) : Option (List D) := match d with
 | .tup xs => some xs
 | .jA xs => some xs
 | _ => none
theorem DS {K : PySem.W.Frag} {I : List Addr} {F G H : Hp} {w : W} (rel : Rel K I F G w H) {d : D} {v : V} {xs : List D} (h : aF K I F d v) (e : xD d w = some xs) : ∃ a vs, v = .ref a ∧ SqL K H a vs ∧ RepL K I F xs vs := by
 cases d <;> simp only [xD, ah, reduceCtorEq] at e <;> simp only [aF] at h
 case lst => subst e; obtain ⟨a, vs, h0, h1, h2⟩ := h; exact ⟨a, vs, h0, .of (rel.fz _ _ h1), h2⟩
 case qG => subst e; obtain ⟨a, vs, h0, h1, h2⟩ := h; exact ⟨a, vs, h0, rel.XY h1, h2⟩
 case ref i =>
  split at e
  ·rename_i ys hw
   cases e
   obtain ⟨a, h0, h1⟩ := h
   obtain ⟨u, hu, vs, rfl, h2⟩ := rel.ob i a _ h1 hw
   exact ⟨a, vs, h0, .of hu, h2⟩
  ·cases e
theorem KZ {K : PySem.W.Frag} {I : List Addr} {F G H : Hp} {w : W} (rel : Rel K I F G w H) {d : D} {v : V} {xs : List D} (h : aF K I F d v) (e : wG d = some xs) : ∃ a vs, v = .ref a ∧ SqT K H a vs ∧ RepL K I F xs vs := by
 cases d <;> simp only [wG, ah, reduceCtorEq] at e <;> simp only [aF] at h
 case tup => subst e; obtain ⟨a, vs, h0, h1, h2⟩ := h; exact ⟨a, vs, h0, .of (rel.fz _ _ h1), h2⟩
 case jA => subst e; obtain ⟨a, vs, h0, h1, h2⟩ := h; exact ⟨a, vs, h0, rel.K2 h1, h2⟩
def Q9 : MF := fun ds w => match ds with
 | [d] => (match (xD d w).bind jY with
  | some ns => .ok (.int ns.sum) w
  | none => .bad)
 | _ => .bad
def aDD : MF := fun ds w => match ds with
 | [d] => (match d.items w with
  | some xs => .ok (.lst xs) w
  | none => .bad)
 | _ => .bad
def E5 : MF := fun ds w => match ds with
 | [d] => (match d.items w with
  | some xs => .ok (.ref w.length) (w ++ [.lst xs])
  | none => .bad)
 | _ => .bad
def dZ : MF := fun ds w => match ds with
 | [.tup xs] => .ok (.tup xs) w
 | [d] => (match xD d w with
  | some xs => .ok (.tup xs) w
  | none => .bad)
 | _ => .bad
def zP (d : D) (w : W) : Option Str := match d.py w with
 | some p => if p.showable = true ∧ p.hasDict = false ∧ p.depth ≤ 60 ∧ p.shown.length ≤ sizeLine then some p.shown else none
 | none => none
def nS : MF := fun ds w => match ds with
 | [d] => (match zP d w with
  | some z => .ok (.str z) w
  | none => .bad)
 | _ => .bad
def BI : MF := fun ds w => match ds with
 | [.int i] => .ok (.int i) w
 | [.bl b] => .ok (.int (if b then 1 else 0)) w
 | _ => .bad
def max2 : MF := fun ds w => match ds with
 | [.int i, .int j] => .ok (.int (if j > i then j else i)) w
 | _ => .bad
def min2 : MF := fun ds w => match ds with
 | [.int i, .int j] => .ok (.int (if j < i then j else i)) w
 | _ => .bad
section
variable {S : aQ}
theorem gL : CB S (.builtin "len") c7 := sR fun X E c xo I F G ds w H vs Q rel rl p => by
 unfold c7 at p
 split at p
 ·rename_i d
  obtain ⟨v, rfl, rv⟩ := rl.one
  split at p
  ·rename_i n hn
   have go : ∀ {xs : List D}, d.items w = some xs → n = xs.length → ∃ r, CallR X (.builtin "len") r ∧ r [v] H Q := fun {xs} h1 h2 => by
    obtain ⟨a, us, rfl, hq, hr⟩ := G5 rel rv h1
    refine ⟨_, call_len, .ref a, n, rfl, ?_, p.mU rel (by simp [aF])⟩
    rw [h2, hr.length]
    rcases hq with hq | hq
    ·exact .inl ⟨us, hq, rfl⟩
    ·exact .inr ⟨us, hq, rfl⟩
   cases d <;> simp only [EU, D.items, Option.map_some, Option.map_none, ah, reduceCtorEq] at hn
   case str z =>
    split at hn
    ·rename_i hz
     cases hn
     simp only [aF] at rv
     subst rv
     exact ⟨_, call_len, .str z, z.length, rfl, ⟨hz, rfl⟩, p.mU rel (by simp [aF])⟩
    ·cases hn
   case tup => exact go (by simp [D.items]) hn.symm
   case jA => exact go (by simp [D.items]) hn.symm
   case lst => exact go (by simp [D.items]) hn.symm
   case qG => exact go (by simp [D.items]) hn.symm
   case ref i =>
    split at hn
    ·rename_i xs hw
     exact go (by simp [D.items, hw]) (Option.some.inj hn).symm
    ·rename_i kvs hw
     cases hn
     simp only [aF] at rv
     obtain ⟨a, rfl, h1⟩ := rv
     obtain ⟨u, hu, us, rfl, h2⟩ := rel.ob i a _ h1 hw
     exact ⟨_, call_lenD, a, us, rfl, hu, p.mU rel (by simp [aF, h2.length])⟩
    ·cases hn
  ·exact p.elim
 ·exact p.elim
theorem aFi : CB S (.builtin "sum") Q9 := sR fun X E c xo I F G ds w H vs Q rel rl p => by
 unfold Q9 at p
 split at p
 ·rename_i d
  obtain ⟨v, rfl, rv⟩ := rl.one
  split at p
  ·rename_i ns hn
   obtain ⟨xs, h1, h2⟩ := cj.mp hn
   obtain ⟨a, us, rfl, hq, hr⟩ := DS rel rv h1
   obtain rfl := m6 hr h2
   exact ⟨_, cr_sum c.calm, a, ns, rfl, hq, p.mU rel (by simp [aF])⟩
  ·exact p.elim
 ·exact p.elim
theorem aBy : CB S (.type "list") E5 := sR fun X E c xo I F G ds w H vs Q rel rl p => by
 unfold E5 at p
 split at p
 ·rename_i d
  obtain ⟨v, rfl, rv⟩ := rl.one
  split at p
  ·rename_i xs hn
   obtain ⟨a, us, rfl, hq, hr⟩ := G5 rel rv hn
   exact ⟨_, call_list_of, a, us, rfl, hq, vR (o := .lst xs) rel ⟨us, rfl, hr⟩ p⟩
  ·exact p.elim
 ·exact p.elim
theorem nQ : CB S (.type "tuple") dZ := sR fun X E c xo I F G ds w H vs Q rel rl p => by
 unfold dZ at p
 split at p
 ·rename_i xs
  obtain ⟨v, rfl, rv⟩ := rl.one
  have rv' := rv
  simp only [aF] at rv'
  obtain ⟨a, us, rfl, h1, h2⟩ := rv'
  exact ⟨_, call_tuple_of, a, us, rfl, .inr ⟨.of (rel.fz _ _ h1), p.mU rel rv⟩⟩
 ·rename_i d _
  obtain ⟨v, rfl, rv⟩ := rl.one
  split at p
  ·rename_i xs hn
   obtain ⟨a, us, rfl, hq, hr⟩ := DS rel rv hn
   exact ⟨_, call_tuple_of, a, us, rfl, .inl ⟨hq, zJ rel hr p⟩⟩
  ·exact p.elim
 ·exact p.elim
theorem aBu : CB S (.type "int") BI := sR fun X E c xo I F G ds w H vs Q rel rl p => by
 unfold BI at p
 split at p
 ·rename_i i
  obtain ⟨v, rfl, rv⟩ := rl.one
  simp only [aF] at rv
  subst rv
  exact ⟨_, call_int1, .inl ⟨i, rfl, p.mU rel (by simp [aF])⟩⟩
 ·rename_i b
  obtain ⟨v, rfl, rv⟩ := rl.one
  simp only [aF] at rv
  subst rv
  exact ⟨_, call_int1, .inr ⟨b, rfl, p.mU rel (by simp [aF])⟩⟩
 ·exact p.elim
theorem DR : CB S (.builtin "repr") nS := fun X E c xo pins s σ H vs us Q J r ⟨I, F, G, ds, w, rel, rl, p⟩ => by
 unfold nS at p
 split at p
 ·rename_i d
  obtain ⟨v, rfl, rv⟩ := rl.one
  obtain ⟨u, rfl, ru⟩ := vals1 r
  split at p
  ·rename_i z hz
   unfold zP at hz
   split at hz
   ·rename_i q hq
    split at hz
    ·rename_i hc
     cases hz
     obtain ⟨c1, c2, c3, c4⟩ := hc
     obtain ⟨as, rd⟩ := Dp.reads J q v u (wY rel rv hq) ru
     have fin : ∀ (h' : Heap) (t tk : Nat), (∀ b o, s.heap.get? b = some o → h'.get? b = some o) → EP X pins σ Q (.str q.shown t) { s with heap := h', toks := tk } := fun h' t tk hk => ⟨.str q.shown, H, J.kept hk, ⟨_, rfl⟩, p.mU rel (by simp [aF])⟩
     cases u with
     | ref a => exact repr_of_reads' rd c1 (fun z => by rw [c2] at z; cases z) c.W5 (by have := c.room.units; omega) (fun _ _ h => h) (fun h' t tk hk => fin h' t tk hk) c4
     | none => cases rd; exact PySem.P.repr_of_none (by have := fin s.heap s.toks (s.toks + 1) fun _ _ h => h; simpa [PyData.shown] using this)
     | bool b => cases rd; exact PySem.P.repr_of_bool (by have := fin s.heap s.toks (s.toks + 1) fun _ _ h => h; simpa [PyData.shown] using this)
     | int i t => cases rd; exact PySem.P.repr_of_int (by simpa [PyData.showable] using c1) (by have := fin s.heap s.toks (s.toks + 1) fun _ _ h => h; simpa [PyData.shown] using this)
     | str x t => cases rd; exact PySem.P.repr_of_str (by have := fin s.heap s.toks (s.toks + 1) fun _ _ h => h; simpa [PyData.shown] using this) (by simpa [PyData.shown] using c4)
     | _ => cases rd
    ·cases hz
   ·cases hz
  ·exact p.elim
 ·exact p.elim
end
abbrev WC := D → List D → W → Res D
def aGM (K : PySem.W.Frag) (E : XK) (m : WC) : V → List V → Hp → VK → Prop := fun x vs H Q => ∃ I F G d ds w, Rel K I F G w H ∧ aF K I F d x ∧ RepL K I F ds vs ∧ a7 K I F G E (RV K Q) (m d ds w)
def MB (S : aQ) (id : String) (m : WC) : Prop := ∀ X E, Ctx S X → rP X E → MtR X id (aGM X.K E m)
def TY (d : D) (w : W) : Option String := match d with
 | .str _ => some "str"
 | .lst _ => some "list"
 | .qG _ => some "list"
 | .ref i => (match w[i]? with
  | some (.lst _) => some "list"
  | some (.dK _) => some "dict"
  | some (.dT _) => some "dict"
  | some (.dG _) => some "dict"
  | _ => none)
 | _ => none
def aD8 (K : PySem.W.Frag) (T : String) (x : V) (H : Hp) : Prop := tyV K T x H ∨ (T = "dict" ∧ ∃ p o kvs, x = .ref p ∧ H p = some (.frz o (.dT kvs)))
theorem aBO {X : Cx} {pins : List (Addr × Obj)} {σ : L2.St} {H : Hp} {s : Shared} {T : String} {x : V} {v : Value} (I : Inv X pins σ H s) (r : RelV x v) (ty : aD8 X.K T x H) :
  s.TypeIs v T ∧ ∀ a, v = .ref a → ∃ ob, s.heap.get? a = some ob ∧ ob.dict = none := by
 rcases ty with ty | ⟨rfl, p, o, kvs, rfl, hp⟩
 ·exact tyV_is I r ty
 ·cases r
  obtain ⟨_, hgd, ex, _⟩ := I.frzT hp
  exact ⟨⟨o, hgd, ex.1⟩, fun a e => by cases e; exact ⟨o, hgd, ex.2.1⟩⟩
def aGL (K : PySem.W.Frag) (T : String) (r : V → List V → Hp → VK → Prop) (to : TE) (t : TA) : TE := fun σ H Q => to σ H fun x H1 => aD8 K T x H1 ∧ t σ H1 fun xs H2 => r x xs H2 Q
section
variable {X : Cx} {o e : Expr} {es : List Expr} {to : TE} {t : TA} {name : Str} {apos cpos : Pos} {T id : String} {r : V → List V → Hp → VK → Prop}
theorem aE4 (pa : PlainAttrs T) (slot : Slot T name id) (hty : typeOf (.builtin id) = pure (.type "method_descriptor")) (hm : MtR X id r) (ho : PE X o to) (ha : PA X (e :: es) t)
  (hbase : attributeBase o name X.env (eval o X.env) = eval o X.env := by rfl)
  (hfew : ((backTo cpos (starEach (e :: es) X.env)).all (fun x => !x.1) && (backToKw cpos (keywordEach [] X.env)).all (fun x => x.1.isSome)
   && decide ((e :: es).length + ([] : List Keyword).length + (if ([] : List Keyword).isEmpty then 0 else 1) < 30)) = true := by rfl)
  (hline : (apos.endLine == cpos.line) = true := by rfl) (hs : starEach (e :: es) X.env = (false, eval e X.env) :: starEach es X.env := by rfl) (hplain : (backTo cpos (starEach es X.env)).any (·.1) = false := by rfl) :
  PE X (.Call (.Attribute o name apos) (e :: es) [] cpos) (aGL X.K T r to t) := by
 refine ⟨fun pins s σ H Q I h => ?_⟩
 refine wpAny_Call_method_late hbase hfew hline rfl (thn (ho.run pins s σ H _ I h) fun v s1 ⟨x, H1, I1, r1, ty, q1⟩ => ?_)
 obtain ⟨h1, h2⟩ := aBO I1 r1 ty
 refine ⟨T, id, pa, slot, hty, h1, h2, ?_⟩
 have hA := ha.run cpos pins s1 σ H1 _ I1 q1
 rw [hs] at hA ⊢
 refine Calls.callWith_builtin (by show (false || (backTo cpos (starEach es X.env)).any (·.1)) = false; rw [hplain] <;> rfl) (Calls.evalArgs_plain ?_)
 exact thn hA fun us s2 ⟨vs, H2, I2, r2, q2⟩ => hm pins s2 σ H2 x vs v us Q I2 r1 r2 q2
end
theorem aDU {K : PySem.W.Frag} {I : List Addr} {F G H : Hp} {w : W} (rel : Rel K I F G w H) {d : D} {v : V} (h : aF K I F d v) {T : String} (e : TY d w = some T) : aD8 K T v H := by
 cases d <;> simp only [TY, ah, reduceCtorEq] at e <;> simp only [aF] at h
 case str => subst h; exact .inl e.symm
 case lst => obtain ⟨a, vs, rfl, h1, h2⟩ := h; exact .inl (.inl ⟨e.symm, vs, .of (rel.fz _ _ h1)⟩)
 case qG => obtain ⟨a, vs, rfl, h1, h2⟩ := h; exact .inl (.inl ⟨e.symm, vs, rel.XY h1⟩)
 case ref i =>
  obtain ⟨a, rfl, h1⟩ := h
  split at e
  ·rename_i xs hw
   cases e
   obtain ⟨u, hu, vs, rfl, _⟩ := rel.ob i a _ h1 hw
   exact .inl (.inl ⟨rfl, vs, .of hu⟩)
  ·rename_i xs hw
   cases e
   obtain ⟨u, hu, vs, rfl, _⟩ := rel.ob i a _ h1 hw
   exact .inl (.inr (.inr (.inl ⟨rfl, .inl ⟨vs, hu⟩⟩)))
  ·rename_i xs hw
   cases e
   obtain ⟨u, hu, vs, rfl, _⟩ := rel.ob i a _ h1 hw
   exact .inl (.inr (.inr (.inl ⟨rfl, .inr ⟨vs, hu⟩⟩)))
  ·rename_i xs hw
   cases e
   obtain ⟨u, hu, ob, vs, rfl, _⟩ := rel.ob i a _ h1 hw
   exact .inr ⟨rfl, a, ob, vs, rfl, hu⟩
  ·cases e
def cL (T : String) (m : WC) (mo : ME) (ma : MA) : ME := fun σ w => (mo σ w).bind fun d w1 => if TY d w1 = some T then (ma σ w1).bind fun xs w2 => m d xs w2 else .bad
section
variable {S : aQ} {m : WC} {o e : Expr} {es : List Expr} {mo : ME} {ma : MA} {name : Str} {apos cpos : Pos} {T id : String}
theorem gQ (pa : PlainAttrs T) (slot : Slot T name id) (hm : MB S id m) (ho : JE S o mo) (ha : JA S (e :: es) ma) (hty : typeOf (.builtin id) = pure (.type "method_descriptor") := by rfl)
  (hbase : ∀ env : Env, attributeBase o name env (eval o env) = eval o env := by intro _; rfl)
  (hfew : ∀ env : Env, ((backTo cpos (starEach (e :: es) env)).all (fun x => !x.1) && (backToKw cpos (keywordEach [] env)).all (fun x => x.1.isSome)
   && decide ((e :: es).length + ([] : List Keyword).length + (if ([] : List Keyword).isEmpty then 0 else 1) < 30)) = true := by intro _; rfl)
  (hline : (apos.endLine == cpos.line) = true := by rfl) (hs : ∀ env : Env, starEach (e :: es) env = (false, eval e env) :: starEach es env := by intro _; rfl) (hplain : ∀ env : Env, (backTo cpos (starEach es env)).any (·.1) = false := by intro _; rfl) :
  JE S (.Call (.Attribute o name apos) (e :: es) [] cpos) (cL T m mo ma) := fun X E c xo =>
 cF (aE4 pa slot hty (hm X E c xo) (ho X E c xo) (ha X E c xo) (hbase X.env) (hfew X.env) hline (hs X.env) (hplain X.env)) fun σ H Q ⟨I, F, G, ds, w, rel, rs, p⟩ =>
  bM (f := fun ds d w1 => if TY d w1 = some T then (ma ds w1).bind fun xs w2 => m d xs w2 else .bad) rel rs p fun I1 F1 H1 d w1 v e1 rel1 rs1 rv p1 => by
   split at p1
   ·rename_i ht
    refine ⟨aDU rel1 rv ht, ?_⟩
    exact cX (f := fun _ xs w2 => m d xs w2) rel1 rs1 p1 fun I2 F2 H2 xs w2 vs e2 rel2 rs2 rvs p2 => ⟨I2, F2, G, d, xs, w2, rel2, aF.ext e2 _ _ rv, rvs, p2⟩
   ·exact p1.elim
theorem FG {id : String} (h : ∀ (X : Cx) (E : XK), Ctx S X → rP X E → ∀ (I : List Addr) (F G : Hp) (d : D) (ds : List D) (w : W) (H : Hp) (x : V) (vs : List V) (Q : VK), Rel X.K I F G w H → aF X.K I F d x → RepL X.K I F ds vs → a7 X.K I F G E (RV X.K Q) (m d ds w) →
  ∃ r, MtR X id r ∧ r x vs H Q) : MB S id m := fun X E c xo pins s σ H x vs v us Q J rx rv ⟨I, F, G, d, ds, w, rel, rd, rl, p⟩ => by
 obtain ⟨r', h1, h2⟩ := h X E c xo I F G d ds w H x vs Q rel rd rl p
 exact h1 pins s σ H x vs v us Q J rx rv h2
end
def dA : WC := fun d ds w => match d, ds with
 | .ref i, [y] => (match w[i]? with
  | some (.lst xs) => if xs.length < sizeLine then .ok .non (w.set i (.lst (xs ++ [y]))) else .bad
  | _ => .bad)
 | _, _ => .bad
def AV : WC := fun d ds w => match d, ds with
 | .ref i, [.int n] => (match w[i]? with
  | some (.lst xs) => if -(2 ^ 63) ≤ n ∧ n < 2 ^ 63 then (match seqIndex? n xs.length with
   | some k => (match xs[k]? with
    | some y => .ok y (w.set i (.lst (xs.eraseIdx k)))
    | none => .bad)
   | none => .bad) else .bad
  | _ => .bad)
 | _, _ => .bad
def vK : WC := fun d ds w => match d, ds with
 | .ref i, [.lst zs] => (match w[i]? with
  | some (.lst xs) => if xs.length + zs.length ≤ sizeLine then .ok .non (w.set i (.lst (xs ++ zs))) else .bad
  | _ => .bad)
 | .ref i, [.ref j] => (match w[i]?, w[j]? with
  | some (.lst xs), some (.lst zs) => if xs.length + zs.length ≤ sizeLine then .ok .non (w.set i (.lst (xs ++ zs))) else .bad
  | _, _ => .bad)
 | _, _ => .bad
section
variable {K : PySem.W.Frag} {I : List Addr} {F : Hp}
theorem RepL.dropLast {ds : List D} {vs : List V} (r : RepL K I F ds vs) : RepL K I F ds.dropLast vs.dropLast := by
 rw [List.dropLast_eq_take, List.dropLast_eq_take, ← r.length]
 exact r.take _
theorem RepL.eraseIdx {ds : List D} {vs : List V} (r : RepL K I F ds vs) (i : Nat) : RepL K I F (ds.eraseIdx i) (vs.eraseIdx i) := by
 rw [List.eraseIdx_eq_take_drop_succ, List.eraseIdx_eq_take_drop_succ]
 exact (r.take _).append (r.drop _)
end
section
variable {S : aQ}
theorem X2 : MB S "list.append" dA := FG fun X E c xo I F G d ds w H x vs Q rel rd rl p => by
 unfold dA at p
 split at p
 ·rename_i i y
  simp only [aF] at rd
  obtain ⟨a, rfl, hi⟩ := rd
  obtain ⟨v, rfl, rv⟩ := rl.one
  split at p
  ·rename_i xs hw
   obtain ⟨u, hu, us, rfl, hr⟩ := rel.ob i a _ hi hw
   split at p
   ·rename_i hl
    exact ⟨_, mt_append, a, us, v, rfl, rfl, hu, by rw [← hr.length]; exact hl, p.mU (rel.upd hi hw ⟨_, rfl, hr.append (RepL.cons rv (by simp [RepL]))⟩) (by simp [aF])⟩
   ·exact p.elim
  ·exact p.elim
 ·exact p.elim
theorem aAN : MB S "list.pop" AV := FG fun X E c xo I F G d ds w H x vs Q rel rd rl p => by
 unfold AV at p
 split at p
 ·rename_i i n
  simp only [aF] at rd
  obtain ⟨a, rfl, hi⟩ := rd
  obtain ⟨t, rfl, rt⟩ := rl.one
  simp only [aF] at rt
  subst rt
  split at p
  ·rename_i xs hw
   obtain ⟨u, hu, us, rfl, hr⟩ := rel.ob i a _ hi hw
   split at p
   ·rename_i hn
    split at p
    ·rename_i k hk
     split at p
     ·rename_i y hy
      obtain ⟨v, hv, rv⟩ := hr.get hy
      exact ⟨_, mt_popAt, a, us, n, k, v, rfl, rfl, hu, hn.1, hn.2, by rw [← hr.length]; exact hk, hv, p.mU (rel.upd hi hw ⟨_, rfl, hr.eraseIdx k⟩) rv⟩
     ·exact p.elim
    ·exact p.elim
   ·exact p.elim
  ·exact p.elim
 ·exact p.elim
theorem JZ : MB S "list.extend" vK := FG fun X E c xo I F G d ds w H x vs Q rel rd rl p => by
 unfold vK at p
 split at p
 ·rename_i i zs
  simp only [aF] at rd
  obtain ⟨a, rfl, hi⟩ := rd
  obtain ⟨t, rfl, rt⟩ := rl.one
  simp only [aF] at rt
  obtain ⟨b, ts, rfl, hb, rt⟩ := rt
  split at p
  ·rename_i xs hw
   obtain ⟨u, hu, us, rfl, hr⟩ := rel.ob i a _ hi hw
   split at p
   ·rename_i hl
    exact ⟨_, mt_extend, a, b, us, ts, rfl, rfl, hu, rel.fz _ _ hb, by rw [← hr.length, ← rt.length]; exact hl, p.mU (rel.upd hi hw ⟨_, rfl, hr.append rt⟩) (by simp [aF])⟩
   ·exact p.elim
  ·exact p.elim
 ·rename_i i j
  simp only [aF] at rd
  obtain ⟨a, rfl, hi⟩ := rd
  obtain ⟨t, rfl, rt⟩ := rl.one
  simp only [aF] at rt
  obtain ⟨b, rfl, hj⟩ := rt
  split at p
  ·rename_i xs zs hw hz
   obtain ⟨u, hu, us, rfl, hr⟩ := rel.ob i a _ hi hw
   obtain ⟨u2, hu2, ts, rfl, rt⟩ := rel.ob j b _ hj hz
   split at p
   ·rename_i hl
    exact ⟨_, mt_extend, a, b, us, ts, rfl, rfl, hu, hu2, by rw [← hr.length, ← rt.length]; exact hl, p.mU (rel.upd hi hw ⟨_, rfl, hr.append rt⟩) (by simp [aF])⟩
   ·exact p.elim
  ·exact p.elim
 ·exact p.elim
end
def nG (x y : D) (w : W) : Option Bool := match x.py w, y.py w with
 | some p, some (.list qs) => if SeqAt.shaped p = true ∧ SeqAt.shaped (.list qs) = true then some (qs.any fun z => PyData.eqv z p) else none
 | some p, some (.tuple qs) => if SeqAt.shaped p = true ∧ SeqAt.shaped (.tuple qs) = true then some (qs.any fun z => PyData.eqv z p) else none
 | _, _ => none
def inD (x y : D) (w : W) : Option Bool := match y with
 | .ref i => (match w[i]? with
  | some (.dK kvs) => (qR (.dK kvs) x).map Option.isSome
  | some (.dT kvs) => (qR (.dT kvs) x).map Option.isSome
  | _ => nG x y w)
 | y => nG x y w
def OZ (x y : D) (w : W) : Res D := match inD x y w with
 | some b => .ok (.bl b) w
 | none => .bad
def aAd (x y : D) (w : W) : Res D := match inD x y w with
 | some b => .ok (.bl (!b)) w
 | none => .bad
def aFv (K : PySem.W.Frag) : R2 := fun x y H Q => ∃ d ds, Dp K H x d ∧ Dp K H y (.tuple ds) ∧ SeqAt.shaped d = true ∧ SeqAt.shaped (.tuple ds) = true ∧ Q (.bl (ds.any fun z => PyData.eqv z d)) H
theorem aDf {X : Cx} (hu : X.A.units + 65 < cLine) : OpR X (compareOp .In) (aFv X.K) := by
 intro pins s σ H x y v u Q I rx ry h
 obtain ⟨d, ds, hd, he, sd, se, q⟩ := h
 obtain ⟨as, r1⟩ := Dp.reads I d x v hd rx
 obtain ⟨bs, r2⟩ := Dp.reads I (.tuple ds) y u he ry
 exact SeqAt.in_tuple_reads r2 r1 (SeqAt.canLay_of_shaped se) (SeqAt.canLay_of_shaped sd) (room_in_shaped sd hu) ⟨.bl _, H, I, rfl, q⟩
theorem WW {X : Cx} (hu : X.A.units + 1 < cLine) : OpR X (compareOp .In) (fun x y H Q => ∃ a q, y = .ref a ∧ DGet H a x q ∧ Q (.bl q.isSome) H) := by
 intro pins s σ H x y v u Q J rx ry h
 obtain ⟨a, q, ey, g, hq⟩ := h
 subst ey
 cases ry
 exact d_in hu J g rx fun s' J' => ⟨.bl _, H, J', rfl, hq⟩
theorem QV.isSome {K : PySem.W.Frag} {I : List Addr} {F : Hp} {d : Option D} {q : Option V} (h : QV K I F d q) : q.isSome = d.isSome := by
 cases d with
 | none => rw [show q = none from h]; rfl
 | some d => obtain ⟨v, rfl, _⟩ := h; rfl
section
variable {S : aQ}
theorem ZF {X : Cx} {I : List Addr} {F G : Hp} {d e : D} {w : W} {H : Hp} {x y : V} (rel : Rel X.K I F G w H) (rd : aF X.K I F d x) (re : aF X.K I F e y) {b : Bool} (h : nG d e w = some b) :
  ∃ p qs, Dp X.K H x p ∧ SeqAt.shaped p = true ∧ b = (qs.any fun z => PyData.eqv z p) ∧ ((Dp X.K H y (.list qs) ∧ SeqAt.shaped (.list qs) = true) ∨ (Dp X.K H y (.tuple qs) ∧ SeqAt.shaped (.tuple qs) = true)) := by
 unfold nG at h
 split at h
 ·rename_i p qs h1 h2
  split at h
  ·rename_i hs
   cases h
   exact ⟨p, qs, wY rel rd h1, hs.1, rfl, .inl ⟨wY rel re h2, hs.2⟩⟩
  ·cases h
 ·rename_i p qs h1 h2
  split at h
  ·rename_i hs
   cases h
   exact ⟨p, qs, wY rel rd h1, hs.1, rfl, .inr ⟨wY rel re h2, hs.2⟩⟩
  ·cases h
 ·cases h
theorem aFp {X : Cx} {I : List Addr} {F G : Hp} {d e : D} {w : W} {H : Hp} {x y : V} (rel : Rel X.K I F G w H) (rd : aF X.K I F d x) (re : aF X.K I F e y) {b : Bool} (h : inD d e w = some b) :
  nG d e w = some b ∨ ∃ a q, y = .ref a ∧ DGet H a x q ∧ q.isSome = b := by
 unfold inD at h
 split at h
 ·rename_i i
  simp only [aF] at re
  obtain ⟨a, rfl, hi⟩ := re
  split at h
  ·rename_i kvs hw
   simp only [ai] at h
   obtain ⟨r, h1, rfl⟩ := h
   obtain ⟨q, g, hr⟩ := MZ rel hi hw rd h1
   exact .inr ⟨a, q, rfl, g, hr.isSome⟩
  ·rename_i kvs hw
   simp only [ai] at h
   obtain ⟨r, h1, rfl⟩ := h
   obtain ⟨q, g, hr⟩ := MZ rel hi hw rd h1
   exact .inr ⟨a, q, rfl, g, hr.isSome⟩
  ·exact .inl h
 ·exact .inl h
theorem aDF : O2 S (compareOp .In) OZ := gC fun X E c xo I F G d e w H x y Q rel rd re p => by
 unfold OZ at p
 split at p
 ·rename_i b hb
  have hu := c.room.un
  rcases aFp rel rd re hb with h | ⟨a, q, rfl, g, rfl⟩
  ·obtain ⟨pp, qs, h1, h2, rfl, h3 | h3⟩ := ZF rel rd re h
   ·exact ⟨_, op_inD (by omega), pp, qs, h1, h3.1, h2, h3.2, p.mU rel (by simp [aF])⟩
   ·exact ⟨_, aDf (by omega), pp, qs, h1, h3.1, h2, h3.2, p.mU rel (by simp [aF])⟩
  ·exact ⟨_, WW (by omega), a, q, rfl, g, p.mU rel (by simp [aF])⟩
 ·exact p.elim
end
open PySem.W (EachIs AllAlike Sortable alike dataLe)
def K8 (w : W) (d : D) : PyData := (d.py w).getD .none
def aBz : PyData → Bool
 | .tuple (_ :: _) => true
 | _ => false
def V0 : PyData → Bool
 | .none => false
 | .tuple _ => false
 | _ => true
def j3 (ps : List PyData) : Bool := (ps.all fun p => ps.all fun q => alike p q) && (ps.all aBz || ps.all V0) && ps.all fun p => decide (p.depth ≤ 60)
theorem j3.h1 {ps : List PyData} (h : j3 ps = true) : AllAlike ps := by
 simp only [j3, aj, bj] at h
 exact fun d hd e he => h.1.1 d hd e he
theorem j3.h2 {ps : List PyData} (h : j3 ps = true) : Sortable ps := by
 simp only [j3, aj, Bool.or_eq_true, bj] at h
 rcases h.1.2 with h | h
 ·refine .inl fun d hd => ?_
  have := h d hd
  unfold aBz at this
  split at this
  ·exact ⟨_, _, rfl⟩
  ·cases this
 ·refine .inr fun d hd => ?_
  have := h d hd
  unfold V0 at this
  split at this
  ·cases this
  ·cases this
  ·rename_i n1 n2
   exact ⟨n1, fun xs z => n2 xs z⟩
theorem j3.h3 {ps : List PyData} (h : j3 ps = true) : ∀ p ∈ ps, p.depth ≤ 60 := by
 simp only [j3, aj, bj, ak] at h
 exact h.2
def QP (xs : List D) (w : W) : Option (List D) := if xs.all (fun d => (d.py w).isSome) = true ∧ j3 (xs.map (K8 w)) = true ∧ xs.length ≤ sizeLine then some (xs.mergeSort (dataLe false (K8 w))) else none
def lC : MF := fun ds w => match ds with
 | [d] => (match (xD d w).bind fun xs => QP xs w with
  | some ys => .ok (.lst ys) w
  | none => .bad)
 | _ => .bad
def aEm (K : PySem.W.Frag) (I : List Addr) (F : Hp) (v : Value) (d : D) : Prop := ∃ x, RelV x v ∧ aF K I F d x
theorem V3 {K : PySem.W.Frag} {I : List Addr} {F : Hp} : ∀ {ds : List D} {vs : List V} {us : List Value}, RepL K I F ds vs → Vals vs us → EachIs (aEm K I F) us ds
 | [], vs, us, h, r => by simp only [RepL] at h; subst h; cases r; exact .nil
 | d :: ds, vs, us, h, r => by
  simp only [RepL] at h
  obtain ⟨v, t, rfl, h2, h3⟩ := h
  cases r with
  | cons r1 r2 => exact .cons ⟨v, r1, h2⟩ (V3 h3 r2)
theorem WD {K : PySem.W.Frag} {I : List Addr} {F : Hp} : ∀ {ds : List D} {us : List Value}, EachIs (aEm K I F) us ds → ∃ vs, RepL K I F ds vs ∧ Vals vs us
 | _, _, .nil => ⟨[], by simp [RepL], .nil⟩
 | _, _, .cons ⟨v, r1, h1⟩ t => by
  obtain ⟨vs, h2, h3⟩ := WD t
  exact ⟨v :: vs, RepL.cons h1 h2, .cons r1 h3⟩
def ZW (K : PySem.W.Frag) : List V → Hp → VK → Prop := fun vs H Q => ∃ I F G w a xs us, Rel K I F G w H ∧ vs = [V.ref a] ∧ SqL K H a us ∧ RepL K I F xs us ∧ ∃ ys, QP xs w = some ys ∧ ∀ zs q, RepL K I F ys zs → H q = none → Q (.ref q) (upd H q (.lst zs))
theorem UJ {X : Cx} (hu : X.A.units + 64 < cLine) : CallR X (.builtin "sorted") (ZW X.K) := by
 intro pins s σ H vs us0 Q J r h
 obtain ⟨I, F, G, w, a, xs, us, rel, rfl, hq, hr, ys, hy, q⟩ := h
 obtain ⟨its, rv, hl, hz⟩ := J.list hq
 obtain ⟨u, rfl, ru⟩ := vals1 r
 obtain rfl : u = Value.ref a := ru
 unfold QP at hy
 split at hy
 ·rename_i hc
  cases hy
  obtain ⟨c1, c2, c3⟩ := hc
  have e := V3 hr rv
  have er : EachIs (fun v d => ∃ as, Reads s.heap v (K8 w d) as) its xs := by
   have : ∀ {ds : List D} {us : List Value}, EachIs (aEm X.K I F) us ds → ds.all (fun d => (d.py w).isSome) = true → EachIs (fun v d => ∃ as, Reads s.heap v (K8 w d) as) us ds := by
    intro ds us h hs
    induction h with
    | nil => exact .nil
    | cons h1 _ ih =>
     rw [List.all_cons, aj] at hs
     refine .cons ?_ (ih hs.2)
     obtain ⟨x, r1, h2⟩ := h1
     obtain ⟨p, hp⟩ := Option.isSome_iff_exists.mp hs.1
     unfold K8
     rw [hp]
     exact Dp.reads J p x _ (wY rel h2 hp) r1
   exact this e c1
  refine PySem.W.sorted_data (enc := K8 w) hl.isList e er (j3.h1 c2) (j3.h2 c2) c3 (fun d hd => ?_) fun out ho eo => ?_
  ·have := j3.h3 c2 _ (List.mem_map_of_mem hd)
   omega
  ·obtain ⟨zs, h1, h2⟩ := WD eo
   obtain ⟨n, hn⟩ := sortedAll_at s.heap its (List.toArray out)
   refine ⟨.ref (s.heap.objs.size + 1), upd H (s.heap.objs.size + 1) (.lst zs), J.laid (t' := s.toks) (fun b o hb => sortedAll_old hb) (Nat.le_succ _) ⟨?_, out, n, h2, hn⟩, rfl, q zs _ h1 (J.hok.fresh (Nat.le_succ _))⟩
   rw [h2.length, ho]; exact c3
 ·cases hy
section
variable {S : aQ}
theorem YA : CB S (.builtin "sorted") lC := sR fun X E c xo I F G ds w H vs Q rel rl p => by
 unfold lC at p
 split at p
 ·rename_i d
  obtain ⟨v, rfl, rv⟩ := rl.one
  split at p
  ·rename_i ys hy
   obtain ⟨xs, h1, h2⟩ := cj.mp hy
   obtain ⟨a, us, rfl, hq, hr⟩ := DS rel rv h1
   exact ⟨_, UJ (by have := c.room.un; omega), I, F, G, w, a, xs, us, rel, rfl, hq, hr, ys, h2, fun zs q hz hn => jX rel hz p q hn⟩
  ·exact p.elim
 ·exact p.elim
end
def uL (f : Str) (v : D) : List (Str × D) → List (Str × D)
 | [] => [(f, v)]
 | (g, x) :: r => if g = f then (g, v) :: r else (g, x) :: uL f v r
theorem aS.lookup {K : PySem.W.Frag} {I : List Addr} {F : Hp} {κ : Type} [BEq κ] (k : κ) : ∀ {kvs : List (κ × D)} {r : List (κ × V)}, aS K I F kvs r → QV K I F (kvs.lookup k) (r.lookup k)
 | [], r, h => by simp only [aS] at h; subst h; rfl
 | (j, d) :: kvs, r, h => by
  simp only [aS] at h
  obtain ⟨v, t, rfl, h1, h2⟩ := h
  simp only [List.lookup]
  cases e : (k == j) with
  | true => exact ⟨v, rfl, h1⟩
  | false => exact aS.lookup k h2
theorem aS.uL {K : PySem.W.Frag} {I : List Addr} {F : Hp} (f : Str) {d : D} {v : V} (hv : aF K I F d v) : ∀ {kvs : List (Str × D)} {r : List (Str × V)}, aS K I F kvs r → aS K I F (Pc.uL f d kvs) (putF f v r)
 | [], r, h => by simp only [aS] at h; subst h; simp only [Pc.uL, putF, aS]; exact ⟨v, [], rfl, hv, rfl⟩
 | (j, x) :: kvs, r, h => by
  simp only [aS] at h
  obtain ⟨u, t, rfl, h1, h2⟩ := h
  simp only [Pc.uL, putF]
  by_cases e : j = f
  ·rw [if_pos e, if_pos e]; simp only [aS]; exact ⟨v, t, rfl, hv, h2⟩
  ·rw [if_neg e, if_neg e]; simp only [aS]; exact ⟨u, _, rfl, h1, aS.uL f hv h2⟩
def nK (C : Addr) (f : Str) (d : D) (w : W) : Res D := match d with
 | .ref i => (match w[i]? with
  | some (.ins C' fs) => if C' = C then (match fs.lookup f with
   | some x => .ok x w
   | none => .bad) else .bad
  | _ => .bad)
 | _ => .bad
def oU (C : Addr) (f : Str) (d x : D) (w : W) : Res Unit := match d with
 | .ref i => (match w[i]? with
  | some (.ins C' fs) => if C' = C ∧ fs.length < 1000 then .ok () (w.set i (.ins C (uL f x fs))) else .bad
  | _ => .bad)
 | _ => .bad
def bE (C : Addr) (f : Str) (m : ME) : ME := AQ (nK C f) m
def cG (C : Addr) (f : Str) (mo mv : ME) : MS := fun σ w => (mv σ w).bind fun x w1 => (mo σ w1).bind fun d w2 => (oU C f d x w2).bind fun _ w3 => .ok (.nx σ) w3
section
variable {S : aQ} {C : Addr} {f : Str} {o e : Expr} {mo mv : ME} {pos pos' : Pos}
theorem bV (hc : Cls S.K C) (hn : NoAttr S.K C f) (ho : JE S o mo) (hb : ∀ env : Env, attributeBase o f env (eval o env) = eval o env := by intro _; rfl) : JE S (.Attribute o f pos) (bE C f mo) := fun X E cx xo =>
 cF (pe_fld (ho X E cx xo) (hb X.env)) fun σ H Q ⟨I, F, G, ds, w, rel, rs, p⟩ => bM (f := fun _ d w1 => nK C f d w1) rel rs p fun I1 F1 H1 d w1 v e1 rel1 rs1 rv pp => by
  unfold nK at pp
  split at pp
  ·rename_i i
   simp only [aF] at rv
   obtain ⟨a, rfl, hi⟩ := rv
   split at pp
   ·rename_i C' fs hw
    obtain ⟨u, hu, dx, r, rfl, hr⟩ := rel1.ob i a _ hi hw
    split at pp
    ·rename_i hC
     subst hC
     have hl := hr.lookup f
     split at pp
     ·rename_i x hx
      rw [hx] at hl
      obtain ⟨t, ht, rt⟩ := hl
      exact ⟨a, C', dx, r, t, rfl, hu, by rw [cx.K]; exact hc, by rw [cx.K]; exact hn, ht, pp.mU rel1 rt⟩
     ·exact pp.elim
    ·exact pp.elim
   ·exact pp.elim
  ·exact pp.elim
theorem dE (hc : Cls S.K C) (hn : NoAttr S.K C f) (ho : JE S o mo) (hv : JE S e mv) (hs : ∀ env : Env, swapsWith e (some (.Attribute o f pos')) pos.line env = pure false := by intro _; rfl) : JS S (.Assign [.Attribute o f pos'] e pos) (cG C f mo mv) := fun X E cx xo =>
 jQ (ps_fld (ho X E cx xo) (hv X E cx xo) (hs X.env)) fun Z σ H ⟨I, F, G, ds, w, rel, rs, p⟩ => bM (f := fun ds x w1 => (mo ds w1).bind fun d w2 => (oU C f d x w2).bind fun _ w3 => Res.ok (Fl.nx ds) w3) rel rs p fun I1 F1 H1 x w1 v e1 rel1 rs1 rv p1 =>
  bM (f := fun ds d w2 => (oU C f d x w2).bind fun _ w3 => Res.ok (Fl.nx ds) w3) rel1 rs1 p1 fun I2 F2 H2 d w2 u e2 rel2 rs2 ru pp => by
   unfold oU at pp
   split at pp
   ·rename_i i
    simp only [aF] at ru
    obtain ⟨a, rfl, hi⟩ := ru
    split at pp
    ·rename_i C' fs hw
     obtain ⟨t, hu, dx, r, rfl, hr⟩ := rel2.ob i a _ hi hw
     split at pp
     ·rename_i hC
      obtain ⟨rfl, hl⟩ := hC
      have e0 : fs.length = r.length := hr.length
      exact ⟨a, C', dx, r, rfl, hu, by rw [cx.K]; exact hc, by rw [cx.K]; exact hn, by rw [← e0]; exact hl,
       pp I2 F2 _ .refl (rel2.upd (o' := .ins C' (uL f x fs)) hi hw ⟨dx, _, rfl, hr.uL f (aF.ext e2 _ _ rv)⟩) σ rs2⟩
     ·exact pp.elim
    ·exact pp.elim
   ·exact pp.elim
end
theorem EX {K : PySem.W.Frag} {I : List Addr} {F G H : Hp} {w : W} (rel : Rel K I F G w H) {q : Addr} (hq : H q = none) (u : HO) : Rel K I F G w (upd H q u) := by
 refine ⟨rel.len, rel.nd, fun i a o h1 h2 => ?_, fun a t h => ?_, rel.ap, fun a t h => ?_, rel.gf, rel.gt⟩
 ·obtain ⟨t, h3, h4⟩ := rel.ob i a o h1 h2
  exact ⟨t, by rw [upd_ne (ne_of_none h3 hq)]; exact h3, h4⟩
 ·rw [upd_ne (ne_of_none (rel.fz a t h) hq)]; exact rel.fz a t h
 ·rw [upd_ne (ne_of_none (rel.gz a t h) hq)]; exact rel.gz a t h
theorem X3 {K : PySem.W.Frag} {I : List Addr} {F G H : Hp} {E : XK} {w : W} {o : MO} {u : HO} (rel : Rel K I F G w H) (r : k9 K I F o u) {q : Addr} (hq : H q = none) : ∃ I' F', Ext I F I' F' ∧ Rel K I' F' G (w ++ [o]) (upd H q u) ∧ aF K I' F' (.ref w.length) (.ref q) :=
 vR (E := E) (Q := fun v H1 => ∃ I' F', Ext I F I' F' ∧ Rel K I' F' G (w ++ [o]) H1 ∧ aF K I' F' (.ref w.length) v) rel r (fun I' F' H' e rel' v rv => ⟨I', F', e, rel', rv⟩) q hq
def qK (m : MF) (C : Addr) (xs : List D → List D) (w : W) : Res D := (m (xs [.ref w.length]) (w ++ [.ins C []])).bind fun r w1 => match r with
 | .non => .ok (.ref w.length) w1
 | _ => .bad
def OY (C : Addr) (m : MF) (n : Nat) (gd : List D → List D → List D) (ma : MA) : ME := fun σ w => (ma σ w).bind fun xs w1 => if xs.length = n then qK m C (fun s => gd (s ++ xs) []) w1 else .bad
def xO (C : Addr) (m : MF) (n j : Nat) (gd : List D → List D → List D) (ma mk : MA) : ME := fun σ w => (ma σ w).bind fun xs w1 => (mk σ w1).bind fun zs w2 => if xs.length = n ∧ zs.length = j then qK m C (fun s => gd (s ++ xs) zs) w2 else .bad
theorem run_mk {X : Cx} {pins : List (Addr × Obj)} {σ : L2.St} {H : Hp} {s : Shared} {Q : VK} {E : XK} {k : Nat} {f C : Addr} {fd : FuncData} {ps ks : List Str} {m : MF} {n : Nat} {gd : List D → List D → List D} {I : List Addr} {F G : Hp} {xs zs : List D} {w : W} {us ws : List Value} {vs ys : List V}
  (M : Mk X.K C f) (xo : rP X E) (Gf : eY X.prog X.w X.K X.mg X.base k f fd ps m) (B : b5 X.K fd ps (n + 1) ks gd) (hr : Room (k + 1) X.A) (hg : X.A.guards = some []) (J : Inv X pins σ H s) (rel : Rel X.K I F G w H) (rx : RepL X.K I F xs vs) (rz : RepL X.K I F zs ys)
  (r : Vals vs us) (q : Vals ys ws) (h1 : xs.length = n) (h2 : zs.length = ks.length) (p : a7 X.K I F G E (RV X.K Q) (qK m C (fun s => gd (s ++ xs) zs) w)) : wpAny (model X.prog X.w) X.A (call (.ref C) us (ks.zip ws)) (EP X pins σ Q) X.xe s := by
 obtain ⟨g, gV, kb, rep⟩ := B.ex
 have f1 : H (s.heap.objs.size + 1) = none := J.hok.fresh (Nat.le_succ _)
 have f2 : H s.heap.objs.size = none := J.hok.fresh (az _)
 have J2 := Inv.made (C := C) J
 have r1 : Vals (V.ref (s.heap.objs.size + 1) :: vs) (Value.ref (s.heap.objs.size + 1) :: us) := .cons rfl r
 have r2 := kb.rel r1 q
 have n1 : (Value.ref (s.heap.objs.size + 1) :: us).length = n + 1 := by
  rw [List.length_cons, ← r.length, ← rx.length, h1]
 have f3 : (upd H s.heap.objs.size (.own (s.heap.objs.size + 1))) (s.heap.objs.size + 1) = none := by
  rw [upd_ne (Nat.succ_ne_self _)]; exact f1
 obtain ⟨I', F', ee, rel', rn⟩ := X3 (E := E) (EX rel f2 (.own (s.heap.objs.size + 1))) (o := .ins C []) (u := .ins C s.heap.objs.size []) ⟨_, [], rfl, by simp [aS]⟩ f3
 have rxs : RepL X.K I' F' ([.ref w.length] ++ xs) (V.ref (s.heap.objs.size + 1) :: vs) := RepL.cons rn (RepL.ext ee _ _ rx)
 have r3 := rep I' F' _ _ zs ys rxs (RepL.ext ee _ _ rz)
 have hl : (gV (V.ref (s.heap.objs.size + 1) :: vs) ys).length = ps.length := by rw [← r3.length]; exact B.len _ zs (by simp [h1]) h2
 have pp : a7 X.K I' F' G E (RV X.K fun v H2 => v = .non ∧ Q (.ref (s.heap.objs.size + 1)) H2) (m (gd ([.ref w.length] ++ xs) zs) (w ++ [.ins C []])) := by
  refine (a7.bind (p.ext ee)).mono fun I1 F1 H1 d w1 _ e1 rel1 p1 v rv => ?_
  cases d <;> first | exact p1.elim | skip
  simp only [aF] at rv
  exact ⟨rv, p1.mU rel1 (aF.ext e1 _ _ rn)⟩
 refine wpAny_call (make_map (f := f) J.kIn M.makes M.init (beq_iff_eq.mp M.fn) (codeAny_mono (Gf.run _ X.stack _ _ ⟨Value.ref (s.heap.objs.size + 1) :: us, ks.zip ws⟩ (g (Value.ref (s.heap.objs.size + 1) :: us) ws) _ _ E (hr.make C us (ks.zip ws)) hg
  (J2.env0.make C us (ks.zip ws)) (kb.to _ (Value.ref (s.heap.objs.size + 1) :: us) ws J2.kIn n1 (by rw [← q.length, ← rz.length]; exact h2)) r2 hl ⟨I', F', G, _, _, rel', r3, pp⟩) fun r s' hq' => ?_))
 cases r with
 | error e => exact passes_call xo.tk (fun _ _ _ _ h => h) pins σ _ _ e s' J2 hq'
 | ok fl =>
  cases fl with
  | ret u =>
   obtain ⟨v, H', I3, rv, ev, q3⟩ := J2.after hq'
   subst ev
   exact ⟨rv, ⟨V.ref (s.heap.objs.size + 1), H', I3, rfl, q3⟩⟩
  | next => exact False.elim hq'
  | brk => exact False.elim hq'
  | cont => exact False.elim hq'
section
variable {S : aQ} {k n : Nat} {f C : Addr} {fd : FuncData} {ps ks : List Str} {m : MF} {gd : List D → List D → List D} {x : Str} {p pos kpos : Pos} {e : Expr} {es : List Expr} {kws : List Keyword} {ma mk : MA} {me : ME} {nm : Option Str}
theorem aAE (hk : k + 1 ≤ S.k) (M : Mk S.K C f) (Gf : eY S.P S.w S.K S.mg S.base k f fd ps m) (B : b5 S.K fd ps (n + 1) ks gd) (hg : S.sc.names.lookup x = some .globalImplicit) (hm : S.mg x = some (.ref C)) (ha : JA S (e :: es) ma) (hkw : JK S kws mk)
  (hall : ∀ env : Env, (backToKw pos (keywordEach kws env)).all (·.1.isSome) = true := by intro _; rfl) (hks : ∀ env : Env, (backToKw pos (keywordEach kws env)).filterMap (·.1) = ks := by intro _; rfl)
  (hdb : (x == ("__debug__" : Str)) = false := by decide) (he : ∀ env : Env, starEach (e :: es) env = (false, eval e env) :: starEach es env := by intro _; rfl)
  (hpl : ∀ env : Env, ((backTo pos (starEach (e :: es) env)).any (·.1) || (backToKw pos (keywordEach kws env)).any (·.1.isNone)) = false := by intro _; rfl) :
  JE S (.Call (.Name x p) (e :: es) kws pos) (xO C m n ks.length gd ma mk) := fun X E cx xo => by
 refine ⟨fun pins s σ H Q J ⟨I, F, G, ds, w, rel, rs, p⟩ => ?_⟩
 refine wpAny_Call_Name_kw (ld_glob J (by show X.env.scope.names.lookup x = _; rw [cx.sc]; exact hg) (by rw [cx.mg]; exact hm) ?_ hdb)
 refine PySem.W.callWith_KW (h₀ := X.base) J.ok.mod.kin (by rw [cx.K]; exact M.kp) (hall X.env) (thn ((ha X E cx xo).run pos pins s σ H _ J (cX (f := fun ds xs w1 => (mk ds w1).bind fun zs w2 => if xs.length = n ∧ zs.length = ks.length then qK m C (fun s => gd (s ++ xs) zs) w2 else .bad)
  (Q := fun vs H1 => ∃ I1 F1 xs w1, Rel X.K I1 F1 G w1 H1 ∧ fX X.K I1 F1 ds σ ∧ RepL X.K I1 F1 xs vs ∧ a7 X.K I1 F1 G E (RV X.K Q) ((mk ds w1).bind fun zs w2 => if xs.length = n ∧ zs.length = ks.length then qK m C (fun s => gd (s ++ xs) zs) w2 else .bad)) rel rs p fun I1 F1 H1 xs w1 vs e1 rel1 rs1 rvs p1 => ⟨I1, F1, xs, w1, rel1, rs1, rvs, p1⟩)) fun us s1 hq => ?_) (hpl X.env) (he X.env)
 obtain ⟨vs, H1, J1, r, I1, F1, xs, w1, rel1, rs1, rvs, p1⟩ := hq
 refine thn ((hkw X E cx xo).run pos pins s1 σ H1 _ J1 (cX (f := fun _ zs w2 => if xs.length = n ∧ zs.length = ks.length then qK m C (fun s => gd (s ++ xs) zs) w2 else .bad)
  (Q := fun ys H2 => ∃ I2 F2 zs w2, Rel X.K I2 F2 G w2 H2 ∧ RepL X.K I2 F2 xs vs ∧ RepL X.K I2 F2 zs ys ∧ (xs.length = n ∧ zs.length = ks.length) ∧ a7 X.K I2 F2 G E (RV X.K Q) (qK m C (fun s => gd (s ++ xs) zs) w2)) rel1 rs1 p1 fun I2 F2 H2 zs w2 ys e2 rel2 rs2 rvs2 p2 => ?_)) fun ws s2 hq2 => ?_
 ·split at p2
  ·rename_i hl
   exact ⟨I2, F2, zs, w2, rel2, RepL.ext e2 _ _ rvs, rvs2, hl, p2⟩
  ·exact p2.elim
 ·obtain ⟨ys, H2, J2, r2, I2, F2, zs, w2, rel2, rvs', rvs2, hl, p2⟩ := hq2
  refine ⟨J2.kIn, ?_⟩
  have Gf' : eY X.prog X.w X.K X.mg X.base k f fd ps m := by rw [cx.P, cx.w, cx.K, cx.mg, cx.base]; exact Gf
  have B' : b5 X.K fd ps (n + 1) ks gd := by rw [cx.K]; exact B
  have M' : Mk X.K C f := by rw [cx.K]; exact M
  rw [hks X.env]
  exact run_mk (ks := ks) M' xo Gf' B' (cx.room.mono hk) cx.W5 J2 rel2 rvs' rvs2 r r2 hl.1 hl.2 p2
end
section
variable {S : aQ} {pos pos' : Pos} {e : Expr} {m : ME}
theorem jv (i : Nat) {x : Str} (hN : S.N[i]? = some x := by rfl) (hv : Vis S.sc x := by first | exact Or.inl rfl | exact Or.inr (Or.inl rfl) | exact Or.inr (Or.inr rfl)) (hd : (x == ("__debug__" : Str)) = false := by decide) (hcd : (x == ("__classdict__" : Str)) = false := by decide) : JE S (.Name x pos) (aB i) :=
 aEt i hN hv hd hcd
theorem LP (i : Nat) {x : Str} (hN : S.N[i]? = some x := by rfl) (h1 : Loc S.sc x := by first | exact Or.inl rfl | exact Or.inr rfl) (h2 : S.fn x = true ∨ S.sc.names.lookup x = some .local := by first | exact Or.inl rfl | exact Or.inr rfl) : JG S (.Name x pos) (aU i) := aDq hN ⟨h1, h2⟩
theorem G4 {vs : List Nat} (i : Nat) {x : Str} (hN : S.N[i]? = some x := by rfl) (h1 : Loc S.sc x := by first | exact Or.inl rfl | exact Or.inr rfl) (h2 : S.fn x = true ∨ S.sc.names.lookup x = some .local := by first | exact Or.inl rfl | exact Or.inr rfl) (hv : i ∈ vs := by decide) : JC S vs (.Name x pos) (aU i) := aDb hN ⟨h1, h2⟩ hv
theorem yB (i : Nat) {x : Str} (he : JE S e m) (hN : S.N[i]? = some x := by rfl) (h1 : Loc S.sc x := by first | exact Or.inl rfl | exact Or.inr rfl) (h2 : S.fn x = true ∨ S.sc.names.lookup x = some .local := by first | exact Or.inl rfl | exact Or.inr rfl) (hs : ∀ env : Env, swapsWith e (some (.Name x pos')) pos.line env = pure false := by intro _; rfl) :
  JS S (.Assign [.Name x pos'] e pos) (aT m (aU i)) := aEz hN ⟨h1, h2⟩ he hs
end
def aN : List D → List D → List D := fun xs _ => xs
def pick {α : Type} (is : List (Bool × Nat)) (us ws : List α) : List α := is.filterMap fun p => if p.1 = true then ws[p.2]? else us[p.2]?
theorem Vals.YV {vs : List V} {us : List Value} (r : Vals vs us) (i : Nat) : (vs[i]? = none ∧ us[i]? = none) ∨ ∃ v u, vs[i]? = some v ∧ us[i]? = some u ∧ RelV v u := by
 induction r generalizing i with
 | nil => exact .inl ⟨by simp, by simp⟩
 | cons h _ ih =>
  cases i with
  | zero => exact .inr ⟨_, _, rfl, rfl, h⟩
  | succ i => simpa using ih i
theorem RepL.YV {K : PySem.W.Frag} {I : List Addr} {F : Hp} {ds : List D} {vs : List V} (r : RepL K I F ds vs) (i : Nat) : (ds[i]? = none ∧ vs[i]? = none) ∨ ∃ d v, ds[i]? = some d ∧ vs[i]? = some v ∧ aF K I F d v := by
 cases h : ds[i]? with
 | none => exact .inl ⟨rfl, by rw [List.getElem?_eq_none_iff] at h ⊢; rw [← r.length]; exact h⟩
 | some d => obtain ⟨v, h1, h2⟩ := r.get h; exact .inr ⟨d, v, rfl, h1, h2⟩
theorem W2 (is : List (Bool × Nat)) {vs zs : List V} {us ws : List Value} (h1 : Vals vs us) (h2 : Vals zs ws) : Vals (pick is vs zs) (pick is us ws) := by
 induction is with
 | nil => exact .nil
 | cons p is ih =>
  obtain ⟨b, i⟩ := p
  unfold pick at ih ⊢
  cases b with
  | true =>
   rcases Vals.YV h2 i with ⟨e1, e2⟩ | ⟨v, u, e1, e2, r⟩
   ·simpa [List.filterMap_cons, e1, e2] using ih
   ·simpa [List.filterMap_cons, e1, e2] using (show Vals (v :: _) (u :: _) from .cons r ih)
  | false =>
   rcases Vals.YV h1 i with ⟨e1, e2⟩ | ⟨v, u, e1, e2, r⟩
   ·simpa [List.filterMap_cons, e1, e2] using ih
   ·simpa [List.filterMap_cons, e1, e2] using (show Vals (v :: _) (u :: _) from .cons r ih)
theorem aAs (is : List (Bool × Nat)) {K : PySem.W.Frag} {I : List Addr} {F : Hp} {xs zs : List D} {vs us : List V} (h1 : RepL K I F xs vs) (h2 : RepL K I F zs us) : RepL K I F (pick is xs zs) (pick is vs us) := by
 induction is with
 | nil => simp [pick, RepL]
 | cons p is ih =>
  obtain ⟨b, i⟩ := p
  unfold pick at ih ⊢
  cases b with
  | true =>
   rcases RepL.YV h2 i with ⟨e1, e2⟩ | ⟨v, u, e1, e2, r⟩
   ·simpa [List.filterMap_cons, e1, e2] using ih
   ·simpa [List.filterMap_cons, e1, e2] using RepL.cons r ih
  | false =>
   rcases RepL.YV h1 i with ⟨e1, e2⟩ | ⟨v, u, e1, e2, r⟩
   ·simpa [List.filterMap_cons, e1, e2] using ih
   ·simpa [List.filterMap_cons, e1, e2] using RepL.cons r ih
theorem YB {K : PySem.W.Frag} {x qual : Str} {params : Arguments} {body : List Stmt} {scope : Scope} {kws : List (Str × V)} {f : Addr} {fd : FuncData} {ps : List Str} (F : FunD K x qual params body scope [] kws f fd) (n : Nat) (ks : List Str) (is : List (Bool × Nat))
  (h : ∀ (kV doc pm : Value) (an : Option Addr) (cdv ct : Value) (us ws : List Value), us.length = n → ws.length = ks.length → bindArgs (PySem.W.fnOf x qual params body scope .none kV doc pm an cdv ct) ⟨us, ks.zip ws⟩ = pure (ps.zip (pick is us ws)))
  (hlen : ∀ xs zs : List D, xs.length = n → zs.length = ks.length → (pick is xs zs).length = ps.length) : b5 K fd ps n ks (pick is) :=
 aAD F n ks (fun us ws => pick is us ws) h (fun h1 h2 => W2 is h1 h2) (fun I F' xs vs zs us h1 h2 => aAs is h1 h2) hlen
section
variable {S : aQ} {k : Nat} {f : Addr} {fd : FuncData} {ps ks : List Str} {m : MF} {gd : List D → List D → List D} {x : Str} {p pos : Pos} {kws : List Keyword} {mk : MA}
theorem XM (hk : k ≤ S.k) (Gf : eY S.P S.w S.K S.mg S.base k f fd ps m) (B : b5 S.K fd ps 0 ks gd) (hg : S.sc.names.lookup x = some .globalImplicit) (hm : S.mg x = some (.ref f)) (kp : PySem.W.keepIn S.K (.ref f) = true) (hkw : JK S kws mk)
  (hall : ∀ env : Env, (backToKw pos (keywordEach kws env)).all (·.1.isSome) = true := by intro _; rfl) (hks : ∀ env : Env, (backToKw pos (keywordEach kws env)).filterMap (·.1) = ks := by intro _; rfl)
  (hdb : (x == ("__debug__" : Str)) = false := by decide)
  (hpl : ∀ env : Env, ((backTo pos (starEach [] env)).any (·.1) || (backToKw pos (keywordEach kws env)).any (·.1.isNone)) = false := by intro _; rfl) :
  JE S (.Call (.Name x p) [] kws pos) (yM m 0 ks.length gd aE mk) := fun X E cx xo => by
 refine ⟨fun pins s σ H Q J ⟨I, F, G, ds, w, rel, rs, p⟩ => ?_⟩
 refine wpAny_Call_Name_kw (ld_glob J (by show X.env.scope.names.lookup x = _; rw [cx.sc]; exact hg) (by rw [cx.mg]; exact hm) ?_ hdb)
 refine PySem.W.callWith_KW0 (h₀ := X.base) J.ok.mod.kin (by rw [cx.K]; exact kp) (hall X.env) ?_ (hpl X.env)
 refine thn ((hkw X E cx xo).run pos pins s σ H _ J (cX (f := fun _ zs w2 => if ([] : List D).length = 0 ∧ zs.length = ks.length then m (gd [] zs) w2 else .bad)
  (Q := fun ys H2 => ∃ I2 F2 zs w2, Rel X.K I2 F2 G w2 H2 ∧ RepL X.K I2 F2 zs ys ∧ zs.length = ks.length ∧ a7 X.K I2 F2 G E (RV X.K Q) (m (gd [] zs) w2)) rel rs p fun I2 F2 H2 zs w2 ys e2 rel2 rs2 rvs2 p2 => ?_)) fun ws s2 hq2 => ?_
 ·split at p2
  ·rename_i hl
   exact ⟨I2, F2, zs, w2, rel2, rvs2, hl.2, p2⟩
  ·exact p2.elim
 ·obtain ⟨ys, H2, J2, r2, I2, F2, zs, w2, rel2, rvs2, hl, p2⟩ := hq2
  refine ⟨J2.kIn, ?_⟩
  have Gf' : eY X.prog X.w X.K X.mg X.base k f fd ps m := by rw [cx.P, cx.w, cx.K, cx.mg, cx.base]; exact Gf
  have B' : b5 X.K fd ps 0 ks gd := by rw [cx.K]; exact B
  rw [hks X.env]
  exact QR (ks := ks) (us := []) (vs := []) (xs := []) xo Gf' B' (cx.room.mono hk) cx.W5 J2 rel2 (by simp [RepL]) rvs2 .nil r2 rfl hl p2
end
section
variable {S : aQ} {k n j : Nat} {f : Addr} {fd : FuncData} {ps ks : List Str} {m : MF} {gd : List D → List D → List D} {x : Str} {p pos : Pos} {e : Expr} {es : List Expr} {kws : List Keyword} {ma mk : MA}
theorem aG2 (hk : k ≤ S.k) (Gf : eY S.P S.w S.K S.mg S.base k f fd ps m) (B : b5 S.K fd ps 0 ks gd) (hg : S.sc.names.lookup x = some .globalImplicit) (hm : S.mg x = some (.ref f)) (kp : PySem.W.keepIn S.K (.ref f) = true) (hkw : JK S kws mk) (hj : ks.length = j := by rfl)
  (hall : ∀ env : Env, (backToKw pos (keywordEach kws env)).all (·.1.isSome) = true := by intro _; rfl) (hks : ∀ env : Env, (backToKw pos (keywordEach kws env)).filterMap (·.1) = ks := by intro _; rfl)
  (hdb : (x == ("__debug__" : Str)) = false := by decide)
  (hpl : ∀ env : Env, ((backTo pos (starEach [] env)).any (·.1) || (backToKw pos (keywordEach kws env)).any (·.1.isNone)) = false := by intro _; rfl) :
  JE S (.Call (.Name x p) [] kws pos) (yM m 0 j gd aE mk) := by subst hj; exact XM hk Gf B hg hm kp hkw hall hks hdb hpl
end
def ZP (N ps : List Str) (sc : Scope) : Bool := (match sc.kind with
 | .function => true
 | _ => false) && !sc.isCoroutine && !sc.isGenerator && decide N.Nodup && decide (N.take ps.length = ps) && (ps.all fun x => decide (sc.names.lookup x = some .local) || decide (sc.names.lookup x = some .cell)) && sc.names.all fun y => decide (y.2 ≠ .free)
theorem bW {N ps : List Str} {sc : Scope} (h : ZP N ps sc = true) : FnScope N ps sc := by
 unfold ZP at h
 simp only [aj, ak, bj, Bool.or_eq_true, Bool.not_eq_true'] at h
 obtain ⟨⟨⟨⟨⟨⟨h1, h2⟩, h3⟩, h4⟩, h5⟩, h6⟩, h7⟩ := h
 refine ⟨?_, h2, h3, h4, h5, h6, h7⟩
 split at h1
 ·assumption
 ·cases h1
def WA (f g : D → D → W → Res D) (ma mb mc : ME) : ME := fun σ w => (ma σ w).bind fun x w1 => (mb σ w1).bind fun y w2 => (f x y w2).bind fun r w3 => match r with
 | .bl b => if b = true then (mc σ w3).bind fun z w4 => g y z w4 else .ok (.bl false) w3
 | _ => .bad
section
variable {S : aQ} {pos : Pos} {a b c : Expr} {ma mb mc : ME} {f g : D → D → W → Res D}
theorem aAc {K : PySem.W.Frag} {E : XK} {σ : L2.St} {H : Hp} {Q : VK} (h : r5 K E (WA f g ma mb mc) σ H Q) : tChain (aAj K E f) (aAj K E g) (r5 K E ma) (r5 K E mb) (r5 K E mc) σ H Q := by
 obtain ⟨I, F, G, ds, w, rel, rs, p⟩ := h
 refine ⟨I, F, G, ds, w, rel, rs, (a7.bind p).mono fun I1 F1 H1 x w1 _ e1 rel1 p1 v rv => ?_⟩
 refine ⟨I1, F1, G, ds, w1, rel1, rs.ext e1, (a7.bind p1).mono fun I2 F2 H2 y w2 _ e2 rel2 p2 u ru => ?_⟩
 refine ⟨I2, F2, G, x, y, w2, rel2, aF.ext e2 _ _ rv, ru, (a7.bind p2).mono fun I3 F3 H3 r w3 _ e3 rel3 p3 t rt => ?_⟩
 cases r <;> first | exact p3.elim | skip
 rename_i k _
 simp only [aF] at rt
 refine ⟨k, rt, ?_⟩
 cases k with
 | false => exact p3.mU rel3 (by simp [aF])
 | true =>
  refine ⟨I3, F3, G, ds, w3, rel3, (rs.ext e1).ext (e2.trans e3), (a7.bind p3).mono fun I4 F4 H4 z w4 _ e4 rel4 p4 q rq => ?_⟩
  exact ⟨I4, F4, G, y, z, w4, rel4, aF.ext (e3.trans e4) _ _ ru, rq, p4⟩
theorem aBe {op op' : CmpOp} (ho : O2 S (compareOp op) f) (ho' : O2 S (compareOp op') g) (ha : JE S a ma) (hb : JE S b mb) (hc : JE S c mc) (hm : lastMarks [op, op'] [b, c] = false := by with_unfolding_all rfl) :
  JE S (.Compare a [op, op'] [b, c] pos) (WA f g ma mb mc) := fun X E cx xo => cF (pe_chain (ho X E cx xo) (ho' X E cx xo) (ha X E cx xo) (hb X E cx xo) (hc X E cx xo) hm) fun _ _ _ h => aAc h
end
theorem tE {S : aQ} {x : Str} {n : String} {pos : Pos} (hg : S.sc.names.lookup x = some .globalImplicit) (hm : S.mg x = none) (hv : bootBuiltins x = some (.type n)) (hn : x ≠ "__name__" := by decide) (hd : (x == ("__debug__" : Str)) = false := by decide) : JE S (.Name x pos) (eC (.ty n)) := fun X E cx xo =>
 cF (pe_bltn (v := .ty n) (by show X.env.scope.names.lookup x = _; rw [cx.sc]; exact hg) (by rw [cx.mg]; exact hm) hv rfl hn hd) fun σ H Q ⟨I, F, G, ds, w, rel, rs, p⟩ => p I F H .refl rel _ (by simp [aF])
inductive xP where
 | b (n : String) | o (C : Addr)
 deriving DecidableEq
def xP.v : xP → Value
 | .b n => .type n
 | .o C => .ref C
def WY (d : D) (w : W) : Option xP := match d with
 | .non => some (.b "NoneType")
 | .bl _ => some (.b "bool")
 | .int _ => some (.b "int")
 | .str _ => some (.b "str")
 | .tup _ => some (.b "tuple")
 | .jA _ => some (.b "tuple")
 | .lst _ => some (.b "list")
 | .qG _ => some (.b "list")
 | .ref i => (match w[i]? with
  | some (.lst _) => some (.b "list")
  | some (.dK _) => some (.b "dict")
  | some (.dT _) => some (.b "dict")
  | some (.dF _) => some (.b "dict")
  | some (.dG _) => none
  | some (.ins C _) => some (.o C)
  | none => none)
 | .H0 _ _ => some (.b "dict")
 | _ => none
def names7 : List String := ["NoneType", "bool", "int", "str", "tuple", "list", "dict"]
def aBq (t n : String) : Bool := t == n || (t == "bool" && n == "int")
theorem VM : ∀ t ∈ names7, ∀ n ∈ ["bool", "int", "str", "tuple", "list", "dict"], kitB t n = some (aBq t n) := by decide +kernel
structure OO (K : PySem.W.Frag) (C : Addr) : Prop where
 cl : Cls K C
 ha : PySem.W.findIn K (.ref C) "__class__" = some (some (.builtin "object.__class__"))
 hn : PySem.W.specialIn K (.builtin "object.__class__") "__get__" = some (some (.builtin "getset_descriptor.__get__"))
 tk : PySem.W.takesIn K (.builtin "object.__class__") = some true
 hm : PySem.W.mroIn K C (.type "object") = some true
def aA9 : List D → Option (List String)
 | [] => some []
 | .ty n :: ds => (aA9 ds).map fun ns => n :: ns
 | _ :: _ => none
def jD (kc : xP → xP → Option Bool) : MF := fun ds w => match ds with
 | [d, .ty n] => (match WY d w with
  | some (.b t) => if t ∈ names7 ∧ n ∈ ["bool", "int", "str", "tuple", "list", "dict"] then .ok (.bl (aBq t n)) w else .bad
  | some (.o C) => (match kc (.o C) (.b n) with
   | some r => .ok (.bl r) w
   | none => .bad)
  | none => .bad)
 | [d, .con C] => (match WY d w with
  | some t => (match kc t (.o C) with
   | some r => .ok (.bl r) w
   | none => .bad)
  | none => .bad)
 | [d, .tup cs] => (match WY d w, aA9 cs with
  | some (.b t), some ns => if t ∈ names7 ∧ ∀ n ∈ ns, n ∈ ["bool", "int", "str", "tuple", "list", "dict"] then .ok (.bl (ns.any (aBq t))) w else .bad
  | _, _ => .bad)
 | _ => .bad
structure aEU (K : PySem.W.Frag) (kc : xP → xP → Option Bool) : Prop where
 one : ∀ t c r, kc t c = some r → PySem.W.kitOne K t.v c.v = some r
 ins : ∀ C c r, kc (.o C) c = some r → OO K C
def m2 : xP → xP → Option Bool := fun _ _ => none
theorem pA {K : PySem.W.Frag} : aEU K m2 := ⟨fun _ _ _ h => (by cases h), fun _ _ _ h => (by cases h)⟩
theorem LQ {K : PySem.W.Frag} {I : List Addr} {F G H : Hp} {w : W} (rel : Rel K I F G w H) {d : D} {v : V} (h : aF K I F d v) {t : xP} (e : WY d w = some t) (hi : ∀ C, t = .o C → OO K C) : TyX K H v t.v := by
 have hT : ∀ {a : Addr} {vs : List V}, SqT K H a vs → TyX K H (.ref a) (.type "tuple") := fun {a vs} q => by
  rcases q with (q | ⟨o, q⟩) | q
  ·exact .base (.tup q)
  ·exact .fTuple q
  ·obtain ⟨o, its, n, q1, q2, _⟩ := q
   exact .kTuple q1 q2
 have hL : ∀ {a : Addr} {vs : List V}, SqL K H a vs → TyX K H (.ref a) (.type "list") := fun {a vs} q => by
  rcases q with (q | ⟨o, q⟩) | q
  ·exact .base (.lst q)
  ·exact .base (.frz q)
  ·obtain ⟨o, its, n, q1, q2, _⟩ := q
   exact .kList q1 q2
 cases d <;> simp only [WY, ah, reduceCtorEq] at e <;> simp only [aF] at h
 case non => subst h; subst e; exact .base .non
 case bl => subst h; subst e; exact .base (.bl _)
 case int => subst h; subst e; exact .base (.int _)
 case str => subst h; subst e; exact .base (.str _)
 case tup => obtain ⟨a, vs, rfl, h1, _⟩ := h; subst e; exact hT (.of (rel.fz _ _ h1))
 case jA => obtain ⟨a, vs, rfl, h1, _⟩ := h; subst e; exact hT (rel.K2 h1)
 case lst => obtain ⟨a, vs, rfl, h1, _⟩ := h; subst e; exact hL (.of (rel.fz _ _ h1))
 case qG => obtain ⟨a, vs, rfl, h1, _⟩ := h; subst e; exact hL (rel.XY h1)
 case ref i =>
  obtain ⟨a, rfl, hi'⟩ := h
  split at e
  ·rename_i hw; cases e; obtain ⟨u, hu, vs, rfl, _⟩ := rel.ob i a _ hi' hw; exact .base (.lst hu)
  ·rename_i hw; cases e; obtain ⟨u, hu, vs, rfl, _⟩ := rel.ob i a _ hi' hw; exact .base (.dK hu)
  ·rename_i hw; cases e; obtain ⟨u, hu, vs, rfl, _⟩ := rel.ob i a _ hi' hw; exact .base (.dT hu)
  ·rename_i hw; cases e; obtain ⟨u, hu, o, vs, rfl, _⟩ := rel.ob i a _ hi' hw; exact .fDict hu
  ·cases e
  ·rename_i C fs hw
   cases e
   obtain ⟨u, hu, dx, r, rfl, _⟩ := rel.ob i a _ hi' hw
   have z := hi C rfl
   exact .base (.ins hu z.cl z.ha z.hn z.tk z.hm)
  ·cases e
 case H0 =>
  obtain ⟨a, kvs, rfl, h1, _⟩ := h
  subst e
  rcases h1 with h1 | ⟨o, h1⟩
  ·exact .base (.dK (rel.fz _ _ h1))
  ·exact .fDict (rel.fz _ _ h1)
theorem P1 {K : PySem.W.Frag} {I : List Addr} {F : Hp} {t : String} (ht : t ∈ names7) : ∀ {cs : List D} {ns : List String} {vs : List V}, aA9 cs = some ns → RepL K I F cs vs → (∀ n ∈ ns, n ∈ ["bool", "int", "str", "tuple", "list", "dict"]) → ∃ ws, Paired ClsV vs ws ∧ PySem.W.kitAny K (.type t) ws = some (ns.any (aBq t))
 | [], ns, vs, e, r, _ => by
  simp only [aA9, ah] at e
  subst e
  simp only [RepL] at r
  subst r
  exact ⟨[], .nil, kitAny_nil⟩
 | d :: ds, ns, vs, e, r, hn => by
  cases d <;> simp only [aA9, ai, reduceCtorEq] at e
  rename_i n
  obtain ⟨ns', e1, rfl⟩ := e
  simp only [RepL, aF] at r
  obtain ⟨v, r', rfl, rfl, r2⟩ := r
  obtain ⟨ws, p, q⟩ := P1 ht e1 r2 fun m hm => hn m (bh _ hm)
  refine ⟨.type n :: ws, .cons (.ty n) p, ?_⟩
  have k1 : PySem.W.kitOne K (.type t) (.type n) = some (aBq t n) := kit_ty (VM t ht n (hn n (bc ..)))
  rw [List.any_cons]
  refine kitAny_cons k1 (fun hb => ?_) fun hb => ?_
  ·rw [hb, Bool.false_or]; exact q
  ·rw [hb, Bool.true_or]
theorem rD {S : aQ} {kc : xP → xP → Option Bool} (hk : aEU S.K kc) : CB S (.builtin "isinstance") (jD kc) := sR fun X E c xo I F G ds w H vs Q rel rl p => by
 unfold jD at p
 split at p
 ·rename_i d n
  obtain ⟨v, u, rfl, rv, ru⟩ := rl.two
  simp only [aF] at ru
  subst ru
  split at p
  ·rename_i t ht
   split at p
   ·rename_i hc
    exact ⟨_, call_isi, v, .ty n, _, .type n, _, rfl, .ty n, LQ rel rv ht (fun C z => by cases z), kit_ty (VM t hc.1 n hc.2), p.mU rel (by simp [aF])⟩
   ·exact p.elim
  ·rename_i C hC
   split at p
   ·rename_i r hr
    exact ⟨_, call_isi, v, .ty n, _, .type n, _, rfl, .ty n, LQ rel rv hC (fun C' z => by cases z; rw [c.K]; exact hk.ins _ _ _ hr), by rw [c.K]; exact hk.one _ _ _ hr, p.mU rel (by simp [aF])⟩
   ·exact p.elim
  ·exact p.elim
 ·rename_i d C
  obtain ⟨v, u, rfl, rv, ru⟩ := rl.two
  simp only [aF] at ru
  subst ru
  split at p
  ·rename_i t ht
   split at p
   ·rename_i r hr
    exact ⟨_, call_isi, v, .ref C, _, .ref C, _, rfl, .own C, LQ rel rv ht (fun C' z => by subst z; rw [c.K]; exact hk.ins _ _ _ hr), by rw [c.K]; exact hk.one _ _ _ hr, p.mU rel (by simp [aF])⟩
   ·exact p.elim
  ·exact p.elim
 ·rename_i d cs
  obtain ⟨v, u, rfl, rv, ru⟩ := rl.two
  simp only [aF] at ru
  obtain ⟨tp, vs, rfl, h2, h3⟩ := ru
  split at p
  ·rename_i t ns ht hn
   split at p
   ·rename_i hc
    obtain ⟨ws, hp, hk2⟩ := P1 (K := X.K) hc.1 hn h3 hc.2
    exact ⟨_, call_isiT, v, tp, vs, _, ws, _, rfl, rel.fz _ _ h2, hp, LQ rel rv ht (fun C z => by cases z), hk2, p.mU rel (by simp [aF])⟩
   ·exact p.elim
  ·exact p.elim
 ·exact p.elim
def tA : List D → Option (List Bool)
 | [] => some []
 | .bl b :: r => (tA r).map (b :: ·)
 | _ :: _ => none
theorem EE {K : PySem.W.Frag} {I : List Addr} {F : Hp} : ∀ {ds : List D} {vs : List V} {ns : List Bool}, RepL K I F ds vs → tA ds = some ns → vs = ns.map V.bl
 | [], vs, ns, h, e => by simp only [tA, ah] at e; subst e; simp only [RepL] at h; exact h
 | d :: ds, vs, ns, h, e => by
  cases d <;> simp only [tA, ai, reduceCtorEq] at e
  obtain ⟨r, e1, rfl⟩ := e
  simp only [RepL, aF] at h
  obtain ⟨v, t, rfl, rfl, h2⟩ := h
  rw [EE h2 e1]
  rfl
def allM : MF := fun ds w => match ds with
 | [d] => (match (xD d w).bind tA with
  | some bs => .ok (.bl (bs.all id)) w
  | none => .bad)
 | _ => .bad
theorem A4 {S : aQ} : CB S (.builtin "all") allM := sR fun X E c xo I F G ds w H vs Q rel rl p => by
 unfold allM at p
 split at p
 ·rename_i d
  obtain ⟨v, rfl, rv⟩ := rl.one
  split at p
  ·rename_i bs hn
   obtain ⟨xs, h1, h2⟩ := cj.mp hn
   obtain ⟨a, us, rfl, hq, hr⟩ := DS rel rv h1
   obtain rfl := EE hr h2
   exact ⟨_, cr_all c.calm, a, bs, rfl, hq, p.mU rel (by simp [aF])⟩
  ·exact p.elim
 ·exact p.elim
def O9 (x y : D) (w : W) : Res D := match x, y with
 | .int a, .int b => .ok (.bl (decide (a < b))) w
 | x, y => match (wG x).bind jY, (wG y).bind jY with
  | some ns, some ms => .ok (.bl (HT.lexLt ns ms)) w
  | _, _ => .bad
theorem aDt {S : aQ} : O2 S (compareOp .Lt) O9 := gC fun X E c xo I F G d e w H x y Q rel rd re p => by
 unfold O9 at p
 split at p
 ·simp only [aF] at rd re
  exact ⟨_, op_lt, _, _, rd, re, p.mU rel (by simp [aF])⟩
 ·split at p
  ·rename_i ns ms h1 h2
   obtain ⟨xs, q1, q2⟩ := cj.mp h1
   obtain ⟨ys, q3, q4⟩ := cj.mp h2
   obtain ⟨a, us, rfl, g1, g2⟩ := KZ rel rd q1
   obtain ⟨b, ts, rfl, g3, g4⟩ := KZ rel re q3
   obtain rfl := m6 g2 q2
   obtain rfl := m6 g4 q4
   exact ⟨_, op_ltT (by have := c.room.un; omega), a, b, ns, ms, rfl, rfl, g1, g3, p.mU rel (by simp [aF])⟩
  ·exact p.elim
theorem jZ {K : PySem.W.Frag} {I : List Addr} {F G H : Hp} {w : W} {q : Addr} {u : HO} (rel : Rel K I F (upd G q u) w H) (hG : G q = none) : Rel K I F G w H :=
 ⟨rel.len, rel.nd, rel.ob, rel.fz, rel.ap, fun a v h => rel.gz a v (by rw [upd_ne (ne_of_none h hG)]; exact h), fun a v h => rel.gf a v (by rw [upd_ne (ne_of_none h hG)]; exact h), fun a xs h => rel.gt a xs (by rw [upd_ne (ne_of_none h hG)]; exact h)⟩
theorem a7.more {α : Type} {K : PySem.W.Frag} {I : List Addr} {F G : Hp} {E : XK} {R R' : List Addr → Hp → Hp → α → W → Prop} {r : Res α} {q : Addr} {u : HO} (p : a7 K I F G E R r) (hG : G q = none)
  (k : ∀ I' F' H' a w, r = .ok a w → Ext I F I' F' → Rel K I' F' (upd G q u) w H' → R I' F' H' a w → R' I' F' H' a w) : a7 K I F (upd G q u) E R' r := by
 cases r with
 | ok a w => exact fun I' F' H' e rel => k I' F' H' a w rfl e rel (p I' F' H' e (jZ rel hG))
 | HF x w => exact fun I' F' H' c d e rel rx => p I' F' H' c d e (jZ rel hG) rx
 | bad => exact p
abbrev MP := Sg → W → Res (List (D × D))
def HJ : MP := fun _ w => .ok [] w
def dP (mk mv : ME) (r : MP) : MP := fun σ w => (mk σ w).bind fun k w1 => (mv σ w1).bind fun v w2 => (r σ w2).bind fun ps w3 => .ok ((k, v) :: ps) w3
def keyed : List (D × D) → Option (List (Key × D))
 | [] => some []
 | (k, v) :: r => match keyD k, keyed r with
  | some j, some t => some ((j, v) :: t)
  | _, _ => none
def tW {κ : Type} [DecidableEq κ] (kvs more : List (κ × D)) : List (κ × D) := more.foldl (fun acc kv => putD acc kv.1 kv.2) kvs
def G8 (m : MP) : ME := fun σ w => (m σ w).bind fun ps w1 => match keyed ps with
 | some kvs => if kvs.length ≤ 15 then .ok (.ref w1.length) (w1 ++ [.dK (tW [] kvs)]) else .bad
 | none => .bad
def VG : ME := fun _ w => .ok (.ref w.length) (w ++ [.dK []])
def rH : ME := fun _ w => .ok (.ref w.length) (w ++ [.dT []])
def aGv (K : PySem.W.Frag) (I : List Addr) (F : Hp) (ps : List (D × D)) (vs : List (V × V)) : Prop := RepL K I F (ps.map (·.1)) (vs.map (·.1)) ∧ RepL K I F (ps.map (·.2)) (vs.map (·.2))
def RPs (K : PySem.W.Frag) (Q : List (V × V) → Hp → Prop) : List Addr → Hp → Hp → List (D × D) → W → Prop := fun I' F' H' ps _ => ∀ vs, aGv K I' F' ps vs → Q vs H'
def lowP (K : PySem.W.Frag) (E : XK) (m : MP) : L2.St → Hp → (List (V × V) → Hp → Prop) → Prop := fun σ H Q => ∃ I F G ds w, Rel K I F G w H ∧ fX K I F ds σ ∧ a7 K I F G E (RPs K Q) (m ds w)
def JD (S : aQ) (pos : Pos) (ks : List (Option Expr)) (vs : List Expr) (m : MP) : Prop := ∀ X E, Ctx S X → rP X E → ∃ trs, PPs X pos ks vs trs ∧ ∀ σ H Q, lowP X.K E m σ H Q → tPairs trs σ H Q
theorem aS.merge {K : PySem.W.Frag} {I : List Addr} {F : Hp} {κ : Type} [DecidableEq κ] : ∀ {more : List (κ × D)} {rs : List (κ × V)} {kvs : List (κ × D)} {vs : List (κ × V)}, aS K I F more rs → aS K I F kvs vs → aS K I F (tW kvs more) (rs.foldl (fun acc kv => putK acc kv.1 kv.2) vs)
 | [], rs, kvs, vs, h, g => by simp only [aS] at h; subst h; exact g
 | (k, d) :: more, rs, kvs, vs, h, g => by
  simp only [aS] at h
  obtain ⟨v, r, rfl, h1, h2⟩ := h
  exact aS.merge (more := more) (rs := r) h2 (g.put k h1)
theorem IV {K : PySem.W.Frag} {I : List Addr} {F : Hp} : ∀ {ps : List (D × D)} {vs : List (V × V)} {kvs : List (Key × D)}, aGv K I F ps vs → keyed ps = some kvs → ∃ r : List (Key × V), vs = r.map (fun kv => (kV kv.1, kv.2)) ∧ aS K I F kvs r
 | [], vs, kvs, h, e => by
  simp only [keyed, ah] at e
  subst e
  have := h.1
  simp only [List.map_nil, RepL, List.map_eq_nil_iff] at this
  subst this
  exact ⟨[], rfl, by simp [aS]⟩
 | (k, d) :: ps, vs, kvs, h, e => by
  obtain ⟨h1, h2⟩ := h
  cases vs with
  | nil => simp only [List.map_cons, List.map_nil, RepL] at h1; obtain ⟨_, _, z, _⟩ := h1; cases z
  | cons x vs =>
   obtain ⟨x1, x2⟩ := x
   simp only [List.map_cons, RepL] at h1 h2
   obtain ⟨v, r, z1, g1, g2⟩ := h1
   obtain ⟨u, t, z2, g3, g4⟩ := h2
   cases z1
   cases z2
   simp only [keyed] at e
   split at e
   ·rename_i j tt e1 e2
    cases e
    obtain ⟨rr, e3, e4⟩ := IV ⟨g2, g4⟩ e2
    refine ⟨(j, x2) :: rr, ?_, ?_⟩
    ·rw [List.map_cons, ← e3, uW g1 e1]
    ·simp only [aS]; exact ⟨x2, rr, rfl, g3, e4⟩
   ·cases e
section
variable {S : aQ} {pos : Pos} {k v : Expr} {ks : List (Option Expr)} {vs : List Expr} {mk mv : ME} {m : MP}
theorem TV : JD S pos [] [] HJ := fun X E cx xo => ⟨[], pps_nil, fun σ H Q ⟨I, F, G, ds, w, rel, rs, p⟩ => p I F H .refl rel [] ⟨by simp [RepL], by simp [RepL]⟩⟩
theorem iP (hk : JE S k mk) (hv : JE S v mv) (hr : JD S pos ks vs m) : JD S pos (some k :: ks) (v :: vs) (dP mk mv m) := fun X E cx xo => by
 obtain ⟨trs, h1, h2⟩ := hr X E cx xo
 refine ⟨(r5 X.K E mk, r5 X.K E mv) :: trs, pps_cons (hk X E cx xo) (hv X E cx xo) h1, fun σ H Q ⟨I, F, G, ds, w, rel, rs, p⟩ => ?_⟩
 refine bM (f := fun ds x w1 => (mv ds w1).bind fun y w2 => (m ds w2).bind fun ps w3 => .ok ((x, y) :: ps) w3) rel rs p fun I1 F1 H1 x w1 a e1 rel1 rs1 ra p1 => ?_
 refine bM (f := fun ds y w2 => (m ds w2).bind fun ps w3 => .ok ((x, y) :: ps) w3) rel1 rs1 p1 fun I2 F2 H2 y w2 b e2 rel2 rs2 rb p2 => ?_
 refine h2 σ H2 _ ⟨I2, F2, G, ds, w2, rel2, rs2, (a7.bind p2).mono fun I3 F3 H3 ps w3 _ e3 rel3 p3 us ru => ?_⟩
 refine p3 I3 F3 H3 .refl rel3 ((a, b) :: us) ⟨?_, ?_⟩
 ·exact RepL.cons (aF.ext (e2.trans e3) _ _ ra) ru.1
 ·exact RepL.cons (aF.ext e3 _ _ rb) ru.2
theorem T7 (h : JD S pos ks vs m) (hall : ks.all (·.isSome) = true := by rfl) (hl : ks.length = vs.length := by rfl) (h0 : ks ≠ [] := by simp) (h15 : ks.length ≤ 15 := by exact aa rfl) : JE S (.Dict ks vs pos) (G8 m) := fun X E cx xo => by
 obtain ⟨trs, g1, g2⟩ := h X E cx xo
 refine cF (pe_disp g1 hall hl h0 h15) fun σ H Q ⟨I, F, G, ds, w, rel, rs, p⟩ q hq => ?_
 have hG : G q = none := by
  cases z : G q with
  | none => rfl
  | some u => rw [rel.gz _ _ z] at hq; cases hq
 refine g2 σ _ _ ⟨I, F, upd G q (.dK []), ds, w, rel.keep hq, rs, (a7.bind p).more hG fun I1 F1 H1 ps w1 _ e1 rel1 p1 us ru => ?_⟩
 refine ⟨rel1.gz q _ upd_same, ?_⟩
 split at p1
 ·rename_i kvs hk
  split at p1
  ·rename_i hl'
   obtain ⟨r, e2, e3⟩ := IV ru hk
   refine ⟨r, e2, by rw [← e3.length]; exact hl', ?_⟩
   obtain ⟨ee, rel2⟩ := (rel1.UC (u' := .dK (mergeK [] r))).owned hG (o := .dK (tW [] kvs)) ⟨_, rfl, aS.merge e3 (by simp [aS])⟩
   refine p1 _ _ _ ee rel2 _ ?_
   simp only [aF]
   refine ⟨q, rfl, ?_⟩
   rw [← rel1.len, bf (az _)]
   simp
  ·exact p1.elim
 ·exact p1.elim
theorem aDd : JE S (.Dict [] [] pos) VG := fun X E cx xo => cF pe_dnewK fun σ H Q ⟨I, F, G, ds, w, rel, rs, p⟩ => vR (o := .dK []) rel ⟨[], rfl, by simp [aS]⟩ p
theorem YY : JE S (.Dict [] [] pos) rH := fun X E cx xo => cF pe_dnewT fun σ H Q ⟨I, F, G, ds, w, rel, rs, p⟩ => vR (o := .dT []) rel ⟨[], rfl, by simp [aS]⟩ p
end
def getM : WC := fun d ds w => match d, ds with
 | .ref i, [k, z] => (match w[i]? with
  | some o => (match qR o k with
   | some r => .ok (r.getD z) w
   | none => .bad)
  | none => .bad)
 | _, _ => .bad
def R3 : WC := fun d ds w => match d, ds with
 | .ref i, [.ref j] => (match w[i]?, w[j]? with
  | some (.dK kvs), some (.dK more) => if i ≠ j ∧ kvs.length + more.length ≤ sizeLine then .ok .non (w.set i (.dK (tW kvs more))) else .bad
  | _, _ => .bad)
 | _, _ => .bad
theorem aBH {X : Cx} : MtR X "dict.update" (fun x xs H Q => ∃ a b kvs more, x = V.ref a ∧ xs = [V.ref b] ∧ H a = some (.dK kvs) ∧ H b = some (.dK more) ∧ a ≠ b ∧ kvs.length + more.length ≤ sizeLine ∧ Q .non (upd H a (.dK (mergeK kvs more)))) := by
 intro pins s σ H x xs v us Q J rx rxs h
 obtain ⟨a, b, kvs, more, rfl, rfl, ha, hb, ne, hz, q⟩ := h
 cases rx
 obtain ⟨u, rfl, ru⟩ := rxs.one
 cases ru
 obtain ⟨z1, d1, vs1, r1, dd1⟩ := dk_of J.hok ha
 obtain ⟨z2, d2, vs2, r2, dd2⟩ := dk_of J.hok hb
 refine PySem.call_meetsIn PySem.F.slot_dict_update dd1.typeIs PySem.F.entry_dict_update (PySem.F.args_dict_update_2 _ _) (meets_dict_update (mixKind X.prog X.w) a b ne d2) ⟨vs1, vs2, dd1, dd2, by rw [← r1.length, ← r2.length]; exact hz, fun h' g1 _ hs => ?_⟩
 have he : ∃ q, h'.get? a = some q := by
  obtain ⟨q, _, _, hq, _⟩ := g1
  exact ⟨q, hq⟩
 refine ⟨.non, _, d_write J (t' := s.toks) (by rw [ha]; exact True.intro) hs he (dk_new ?_ d1 (KV.merge r2 r1) g1), rfl, q⟩
 exact cq (length_mergeK more kvs) hz
theorem XN {S : aQ} : MB S "dict.update" R3 := FG fun X E c xo I F G d ds w H x vs Q rel rd rl p => by
 unfold R3 at p
 split at p
 ·rename_i i j
  simp only [aF] at rd
  obtain ⟨a, rfl, hi⟩ := rd
  obtain ⟨t, rfl, rt⟩ := rl.one
  simp only [aF] at rt
  obtain ⟨b, rfl, hj⟩ := rt
  split at p
  ·rename_i kvs more hw1 hw2
   obtain ⟨u, hu, r, rfl, hr⟩ := rel.ob i a _ hi hw1
   obtain ⟨u2, hu2, r2, rfl, hr2⟩ := rel.ob j b _ hj hw2
   split at p
   ·rename_i hc
    refine ⟨_, aBH, a, b, r, r2, rfl, rfl, hu, hu2, fun z => hc.1 ?_, by rw [← hr.length, ← hr2.length]; exact hc.2, p.mU (rel.upd hi hw1 ⟨_, rfl, aS.merge hr2 hr⟩) (by simp [aF])⟩
    subst z
    obtain ⟨l1, e1⟩ := ag.mp hi
    obtain ⟨l2, e2⟩ := ag.mp hj
    exact (List.getElem_inj rel.nd).mp (e1.trans e2.symm)
   ·exact p.elim
  ·exact p.elim
 ·exact p.elim
def iB : Key → D
 | .inl i => .int i
 | .inr x => .str x
theorem CA {K : PySem.W.Frag} {I : List Addr} {F : Hp} (k : Key) : aF K I F (iB k) (kV k) := by
 cases k <;> simp [iB, aF, kV]
def BO (d : D) (w : W) : Res kL := match d with
 | .ref i => (match w[i]? with
  | some (.dK kvs) => .ok ⟨kvs.map fun p => .tup [iB p.1, p.2], always⟩ (w.set i (.dF kvs))
  | _ => .bad)
 | _ => .bad
def vU (m : ME) : MI := fun σ w => (m σ w).bind BO
def tLock (te : TE) : TE := fun σ H Q => te σ H fun x H1 => ∃ d kvs, x = V.ref d ∧ H1 d = some (.dK kvs) ∧ ∀ o, Q x (upd H1 d (.frz o (.dK kvs)))
theorem pe_lock {X : Cx} {e : Expr} {te : TE} (h : PE X e te) : PE X e (tLock te) := ⟨fun pins s σ H Q J q => thn (h.run pins s σ H _ J q) fun u s1 ⟨x, H1, J1, r, d, kvs, ex, hd, k⟩ => by
 obtain ⟨o, J2⟩ := J1.lock hd trivial
 exact ⟨x, _, J2, r, k o⟩⟩
theorem aS.get {K : PySem.W.Frag} {I : List Addr} {F : Hp} {κ : Type} : ∀ {kvs : List (κ × D)} {r : List (κ × V)} {i : Nat} {k : κ} {v : V}, aS K I F kvs r → r[i]? = some (k, v) → ∃ d, kvs[i]? = some (k, d) ∧ aF K I F d v
 | [], r, i, k, v, h, e => by simp only [aS] at h; subst h; simp at e
 | (j, d) :: kvs, r, 0, k, v, h, e => by
  simp only [aS] at h
  obtain ⟨u, t, rfl, h1, h2⟩ := h
  simp at e
  obtain ⟨rfl, rfl⟩ := e
  exact ⟨d, rfl, h1⟩
 | (j, d) :: kvs, r, i + 1, k, v, h, e => by
  simp only [aS] at h
  obtain ⟨u, t, rfl, h1, h2⟩ := h
  obtain ⟨d', h3, h4⟩ := aS.get (i := i) h2 (by simpa using e)
  exact ⟨d', by simpa using h3, h4⟩
theorem vT {K : PySem.W.Frag} {I : List Addr} {F G H : Hp} {w : W} {ds : List D} {vs : List V} (rel : Rel K I F G w H) (r : RepL K I F ds vs) {q : Addr} (hq : H q = none) : ∃ F2, Ext I F I F2 ∧ Rel K I F2 G w (upd H q (.tup vs)) ∧ aF K I F2 (.tup ds) (.ref q) := by
 have hF : F q = none := by
  cases h : F q with
  | none => rfl
  | some u => rw [rel.fz _ _ h] at hq; cases hq
 have e : Ext I F I (upd F q (.tup vs)) := ⟨List.prefix_refl _, fun a u h => by rw [upd_ne (ne_of_none h hF)]; exact h⟩
 refine ⟨_, e, ⟨rel.len, rel.nd, fun i a o h1 h2 => ?_, fun a u h => ?_, fun i a o h h0 hf => ?_, fun a u h => ?_, fun a u h => ?_, rel.gt⟩, ?_⟩
 ·obtain ⟨u, h3, h4⟩ := rel.ob i a o h1 h2
  exact ⟨u, by rw [upd_ne (ne_of_none h3 hq)]; exact h3, k9.ext e h4⟩
 ·by_cases ha : a = q
  ·subst ha; rw [upd_same] at h ⊢; exact h
  ·rw [upd_ne ha] at h ⊢; exact rel.fz a u h
 ·obtain ⟨u, h3, _⟩ := rel.ob i a o h h0
  rw [upd_ne (ne_of_none h3 hq)]; exact rel.ap i a o h h0 hf
 ·rw [upd_ne (ne_of_none (rel.gz a u h) hq)]; exact rel.gz a u h
 ·rw [upd_ne (ne_of_none (rel.gz a u h) hq)]; exact rel.gf a u h
 ·simp only [aF]
  exact ⟨q, vs, rfl, upd_same, RepL.ext e _ _ r⟩
theorem ZJ {K : PySem.W.Frag} {I : List Addr} {F G H : Hp} {w : W} {i : Nat} {a : Addr} {kvs : List (Key × D)} {r : List (Key × V)} (o : Obj) (rel : Rel K I F G w H) (hi : I[i]? = some a) (hw : w[i]? = some (.dK kvs)) (hr : aS K I F kvs r) :
  Ext I F I (upd F a (.frz o (.dK r))) ∧ Rel K I (upd F a (.frz o (.dK r))) G (w.set i (.dF kvs)) (upd H a (.frz o (.dK r))) := by
 have hF : F a = none := rel.ap i a _ hi hw rfl
 have rel' := rel.upd (u' := .frz o (.dK r)) (o' := .dF kvs) hi hw ⟨o, r, rfl, hr⟩
 have e : Ext I F I (upd F a (.frz o (.dK r))) := ⟨List.prefix_refl _, fun b u h => by rw [upd_ne (ne_of_none h hF)]; exact h⟩
 refine ⟨e, rel'.len, rel'.nd, fun j b q h1 h2 => ?_, fun b u h => ?_, fun j b q h1 h2 h3 => ?_, rel'.gz, fun b u h => ?_, rel.gt⟩
 ·obtain ⟨u, h3, h4⟩ := rel'.ob j b q h1 h2
  exact ⟨u, h3, k9.ext e h4⟩
 ·by_cases hb : b = a
  ·subst hb; rw [upd_same] at h ⊢; exact h
  ·rw [upd_ne hb] at h; exact rel'.fz b u h
 ·have hb : b ≠ a := fun z => by
   subst z
   obtain ⟨l1, e1⟩ := ag.mp hi
   obtain ⟨l2, e2⟩ := ag.mp h1
   have hij : i = j := (List.getElem_inj rel.nd).mp (e1.trans e2.symm)
   subst hij
   rw [au (ag.mp hw).1] at h2
   cases h2
   cases h3
  rw [upd_ne hb]; exact rel'.ap j b q h1 h2 h3
 ·obtain ⟨g1, g2⟩ := rel.gf b u h
  have hb : b ≠ a := fun z => g2 (by rw [z]; exact bw hi)
  exact ⟨by rw [upd_ne hb]; exact g1, g2⟩
theorem aA1 {S : aQ} {e : Expr} {m : ME} {apos cpos tpos : Pos} {elts : List Expr} {kk : Nat} (he : JE S e m) (hbase : ∀ env : Env, attributeBase e "items" env (eval e env) = eval e env := by intro _; rfl) (hline : (apos.endLine == cpos.line) = true := by rfl) :
  JI S (.Tuple elts kk tpos) (.Call (.Attribute e "items" apos) [] [] cpos) (vU m) := fun X E cx xo =>
 pL (pi_items (pe_lock (he X E cx xo)) (hbase X.env) hline) fun σ H R ⟨I, F, G, ds, w, rel, rs, p⟩ => bM (f := fun _ => BO) rel rs p fun I1 F1 H1 d w1 v e1 rel1 rs1 rv p1 => by
  unfold BO at p1
  split at p1
  ·rename_i i
   simp only [aF] at rv
   obtain ⟨a, rfl, hi⟩ := rv
   split at p1
   ·rename_i kvs hw
    obtain ⟨u, hu, r, rfl, hr⟩ := rel1.ob i a _ hi hw
    refine ⟨a, r, rfl, hu, fun o => ⟨a, o, r, rfl, upd_same, ?_⟩⟩
    have hl : i < w1.length := (ag.mp hw).1
    obtain ⟨e2, rel2⟩ := ZJ o rel1 hi hw hr
    refine p1 I1 _ _ e2 rel2 trivial _ fun I' F' G' w' H' j e' rel' _ => ?_
    have hH : H' a = some (.frz o (.dK r)) := rel'.fz _ _ (e'.f _ _ upd_same)
    have hr' := aS.ext (e2.trans e') _ _ hr
    have hlen : kvs.length = r.length := hr.length
    refine ⟨fun x hx => ?_, fun hl' => ⟨hH, by rw [ao] at hl'; omega⟩⟩
    rw [bz] at hx
    cases hk : kvs[j]? with
    | none => rw [hk] at hx; cases hx
    | some kd =>
     rw [hk] at hx
     cases hx
     refine ⟨⟨hH, by rw [← hlen]; exact (ag.mp hk).1⟩, fun v H'' y => ?_⟩
     obtain ⟨T, k, v', g1, rfl, g2, rfl⟩ := y
     obtain ⟨d', g3, g4⟩ := hr'.get g1
     rw [hk] at g3
     cases g3
     exact vT rel' (RepL.cons (CA k) (RepL.cons g4 (by simp [RepL]))) g2
   ·exact p1.elim
  ·exact p1.elim
open Classical in
def inL (it : kL) (vs : List Nat) (g : MG) (t : MT) (e : ME) : List D → List D → Sg → W → Res (List D)
 | acc, [], σ, w => if it.ok w then .ok acc w else .bad
 | acc, x :: xs, σ, w => if it.ok w then (g x (c0 σ vs) w).NK.bind fun σ1 w1 => (t σ1 w1).NK.bind fun b w2 =>
   if b = true then (e σ1 w2).NK.bind fun y w3 => if acc.length < sizeLine then inL it vs g t e (acc ++ [y]) xs σ w3 else .bad else inL it vs g t e acc xs σ w2
  else .bad
open Classical in
def y5 (it : kL) (vs : List Nat) (g : MG) (t : MT) (mi1 : MI) (vs1 : List Nat) (g1 : MG) (t1 : MT) (e : ME) : List D → List D → Sg → W → Res (List D)
 | acc, [], σ, w => if it.ok w then .ok acc w else .bad
 | acc, x :: xs, σ, w => if it.ok w then (g x (c0 σ vs) w).NK.bind fun σ1 w1 => (t σ1 w1).NK.bind fun b w2 =>
   if b = true then (mi1 σ1 w2).NK.bind fun it1 w3 => (inL it1 vs1 g1 t1 e acc it1.xs σ1 w3).bind fun acc' w4 => y5 it vs g t mi1 vs1 g1 t1 e acc' xs σ w4
   else y5 it vs g t mi1 vs1 g1 t1 e acc xs σ w2
  else .bad
def aAB (m : MI) (vs : List Nat) (g : MG) (t : MT) (mi1 : MI) (vs1 : List Nat) (g1 : MG) (t1 : MT) (e : ME) : MA := fun σ w => (m σ w).bind fun it w1 => y5 it vs g t mi1 vs1 g1 t1 e [] it.xs σ w1
def D9 (m : MI) (vs : List Nat) (g : MG) (t : MT) (mi1 : MI) (vs1 : List Nat) (g1 : MG) (t1 : MT) (e : ME) : ME := fun σ w => (aAB m vs g t mi1 vs1 g1 t1 e σ w).bind fun ys w1 => .ok (.lst ys) w1
theorem still {α : Type} {K : PySem.W.Frag} {R : List Addr → Hp → Hp → α → W → Prop} {r : Res α} {I : List Addr} {F G : Hp} {q : Addr} {u : HO} (hG : G q = none) (p : a7 K I F G E0 R r) :
  a7 K I F (upd G q u) E0 (fun I' F' H' a w => Rel K I' F' (upd G q u) w H' ∧ ∀ H'', Rel K I' F' G w H'' → R I' F' H'' a w) r := by
 cases r with
 | ok a w => exact fun I' F' H' e q => ⟨q, fun H'' q' => p I' F' H'' e q'⟩
 | HF x w => exact fun I' F' H' c d e q rx => p I' F' H' c d e (jZ q hG) rx
 | bad => exact p
theorem X4 {mi : MI} {g : MG} {t : MT} {mi1 : MI} {g1 : MG} {t1 : MT} {me : ME} {K : PySem.W.Frag} {E : XK} {vs vs1 : List Nat} {f : List D → W → Res D} {σ : L2.St} {H : Hp} {Q : VK} (h : r5 K E (fun σ w => (aAB mi vs g t mi1 vs1 g1 t1 me σ w).bind f) σ H Q)
  (fin : ∀ I F G w H q xs us, Rel K I F (upd G q (.lst us)) w H → G q = none → RepL K I F xs us → a7 K I F G E (RV K Q) (f xs w) → Q (.ref q) H) :
  tLc2 (aCd K E mi) (aBE K E0 vs g) (UM K E0 t) (aCd K E0 mi1) (aBE K E0 vs1 g1) (UM K E0 t1) (r5 K E0 me) vs vs1 σ H Q := by
 obtain ⟨I, F, G, ds, w, rel, rs, p⟩ := h
 have p0 : a7 K I F G E (RV K Q) ((mi ds w).bind fun it w1 => (y5 it vs g t mi1 vs1 g1 t1 me [] it.xs ds w1).bind f) := by
  rw [← Res.bind_assoc]; exact p
 refine ⟨I, F, G, ds, w, rel, rs, (a7.bind p0).mono fun I1 F1 H1 it w1 _ e1 rel1 p1 hok J hJ q hq => ?_⟩
 have hG : G q = none := by
  cases h : G q with
  | none => rfl
  | some u => rw [rel1.gz _ _ h] at hq; cases hq
 refine ⟨fun i n H' => n = it.xs.length - i ∧ i ≤ it.xs.length ∧ ∃ I' F' w' xs us, Ext I1 F1 I' F' ∧ Rel K I' F' (upd G q (.lst us)) w' H' ∧ RepL K I' F' xs us ∧
   a7 K I' F' G E (RV K Q) ((y5 it vs g t mi1 vs1 g1 t1 me xs (it.xs.drop i) ds w').bind f),
  ⟨it.xs.length, by simp, Nat.zero_le _, I1, F1, w1, [], [], .refl, rel1.keep hq, by simp [RepL], by simpa using p1⟩, ?_⟩
 rintro i n H' ⟨rfl, hi, I', F', w', xs, us, e', rel', rx, p'⟩
 by_cases hlt : i < it.xs.length
 ·rw [List.drop_eq_getElem_cons hlt] at p'
  unfold y5 at p'
  split at p'
  ·rename_i hw
   obtain ⟨h1, _⟩ := hJ I' F' _ w' H' i e' rel' hw
   obtain ⟨hgo, hy⟩ := h1 _ (br hlt)
   refine .inr ⟨hgo, fun H2 => ∃ I2 F2 w2 xs2 us2, Ext I1 F1 I2 F2 ∧ Rel K I2 F2 (upd G q (.lst us2)) w2 H2 ∧ RepL K I2 F2 xs2 us2 ∧ a7 K I2 F2 G E (RV K Q) ((y5 it vs g t mi1 vs1 g1 t1 me xs2 (it.xs.drop (i + 1)) ds w2).bind f),
    fun H2 q => ⟨it.xs.length - (i + 1), by omega, rfl, hlt, q⟩, fun v H2 y => ?_⟩
   obtain ⟨F2, e2, rel2, rv⟩ := hy v H2 y
   have p2 := p'.ext e2
   rw [Res.bind_assoc] at p2
   refine ⟨I', F2, upd G q (.lst us), _, c0 ds vs, w', rel2, (((rs.ext e1).ext e').ext e2).wipe vs, rv, (still hG (a7.zD p2)).mono fun I3 F3 H3 s3 w3 _ e3 rel3 p3 σ3 rs3 ew => ⟨ew.trans BC, ?_⟩⟩
   have p3' := p3.2 H3 (jZ rel3 hG)
   rw [Res.bind_assoc] at p3'
   refine ⟨I3, F3, upd G q (.lst us), s3, w3, rel3, rs3, (still hG (a7.zD p3')).mono fun I4 F4 H4 b w4 _ e4 rel4 p4 => ?_⟩
   have p4' := p4.2 H4 (jZ rel4 hG)
   cases b with
   | false =>
    simp only [bp, ab] at p4' ⊢
    exact ⟨I4, F4, w4, xs, us, (e'.trans e2).trans (e3.trans e4), rel4, RepL.ext ((e2.trans e3).trans e4) _ _ rx, p4'⟩
   | true =>
    simp only [ae] at p4' ⊢
    rw [Res.bind_assoc] at p4'
    refine ⟨I4, F4, upd G q (.lst us), s3, w4, rel4, rs3.ext e4, (still hG (a7.zD p4')).mono fun I5 F5 H5 it1 w5 _ e5 rel5 p5 hok1 J1 hJ1 => ?_⟩
    have p5' := p5.2 H5 (jZ rel5 hG)
    rw [Res.bind_assoc] at p5'
    have ee : Ext I' F' I5 F5 := ((e2.trans e3).trans e4).trans e5
    refine ⟨fun j k H' => k = it1.xs.length - j ∧ j ≤ it1.xs.length ∧ ∃ I' F' w' xs us, Ext I5 F5 I' F' ∧ Rel K I' F' (upd G q (.lst us)) w' H' ∧ RepL K I' F' xs us ∧
      a7 K I' F' G E (RV K Q) ((inL it1 vs1 g1 t1 me xs (it1.xs.drop j) s3 w').bind fun xs2 w2 => (y5 it vs g t mi1 vs1 g1 t1 me xs2 (it.xs.drop (i + 1)) ds w2).bind f),
     ⟨it1.xs.length, by simp, Nat.zero_le _, I5, F5, w5, xs, us, .refl, rel5, RepL.ext ee _ _ rx, by simpa using p5'⟩, ?_⟩
    rintro j k H6 ⟨rfl, hj, I6, F6, w6, xs6, us6, e6, rel6, rx6, p6⟩
    by_cases hlt1 : j < it1.xs.length
    ·rw [List.drop_eq_getElem_cons hlt1] at p6
     unfold inL at p6
     split at p6
     ·rename_i hw1
      obtain ⟨k1, _⟩ := hJ1 I6 F6 _ w6 H6 j e6 rel6 hw1
      obtain ⟨kgo, ky⟩ := k1 _ (br hlt1)
      refine .inr ⟨kgo, fun H2 => ∃ I' F' w' xs us, Ext I5 F5 I' F' ∧ Rel K I' F' (upd G q (.lst us)) w' H2 ∧ RepL K I' F' xs us ∧
        a7 K I' F' G E (RV K Q) ((inL it1 vs1 g1 t1 me xs (it1.xs.drop (j + 1)) s3 w').bind fun xs2 w2 => (y5 it vs g t mi1 vs1 g1 t1 me xs2 (it.xs.drop (i + 1)) ds w2).bind f),
       fun H2 q => ⟨it1.xs.length - (j + 1), by omega, rfl, hlt1, q⟩, fun v1 H7 y1 => ?_⟩
      obtain ⟨F7, e7, rel7, rv7⟩ := ky v1 H7 y1
      have p7 := p6.ext e7
      rw [Res.bind_assoc] at p7
      have e47 : Ext I3 F3 I6 F7 := ((e4.trans e5).trans e6).trans e7
      refine ⟨I6, F7, upd G q (.lst us6), _, c0 s3 vs1, w6, rel7, (rs3.ext e47).wipe vs1, rv7, (still hG (a7.zD p7)).mono fun I8 F8 H8 s8 w8 _ e8 rel8 p8 σ8 rs8 ew8 => ⟨ew8.trans BC, ?_⟩⟩
      have p8' := p8.2 H8 (jZ rel8 hG)
      rw [Res.bind_assoc] at p8'
      refine ⟨I8, F8, upd G q (.lst us6), s8, w8, rel8, rs8, (still hG (a7.zD p8')).mono fun I9 F9 H9 b9 w9 _ e9 rel9 p9 => ?_⟩
      have p9' := p9.2 H9 (jZ rel9 hG)
      cases b9 with
      | false =>
       simp only [bp, ab] at p9' ⊢
       exact ⟨I9, F9, w9, xs6, us6, e6.trans ((e7.trans e8).trans e9), rel9, RepL.ext ((e7.trans e8).trans e9) _ _ rx6, p9'⟩
      | true =>
       simp only [ae] at p9' ⊢
       rw [Res.bind_assoc] at p9'
       refine ⟨I9, F9, upd G q (.lst us6), s8, w9, rel9, rs8.ext e9, (still hG (a7.zD p9')).mono fun Ia Fa Ha ya wa _ ea rela pa ua rua => ?_⟩
       have pa' := pa.2 Ha (jZ rela hG)
       split at pa'
       ·rename_i hz
        have eee : Ext I6 F6 Ia Fa := ((e7.trans e8).trans e9).trans ea
        exact ⟨us6, rela.gz _ _ upd_same, by rw [← rx6.length]; exact hz, Ia, Fa, wa, xs6 ++ [ya], us6 ++ [ua], e6.trans eee, rela.UC, (RepL.ext eee _ _ rx6).append (RepL.cons rua (by simp [RepL])), pa'⟩
       ·exact pa'.elim
     ·exact p6.elim
    ·have hl : j = it1.xs.length := by omega
     subst hl
     rw [List.drop_length] at p6
     unfold inL at p6
     split at p6
     ·rename_i hw1
      exact .inl ⟨(hJ1 I6 F6 _ w6 H6 _ e6 rel6 hw1).2 rfl, I6, F6, w6, xs6, us6, (e'.trans ee).trans e6, rel6, rx6, p6⟩
     ·exact p6.elim
  ·exact p'.elim
 ·have hl : i = it.xs.length := by omega
  subst hl
  rw [List.drop_length] at p'
  unfold y5 at p'
  split at p'
  ·rename_i hw
   exact .inl ⟨(hJ I' F' _ w' H' _ e' rel' hw).2 rfl, fin I' F' G w' H' q xs us rel' hG rx p'⟩
  ·exact p'.elim
section
variable {S : aQ} {pos : Pos} {elt tg iter tg1 iter1 : Expr} {ifs ifs1 : List Expr} {scope : Scope} {own : List (Str × Nat)} {vs1 : List Nat} {mi mi1 : MI} {g g1 : MG} {t t1 : MT} {me : ME}
theorem aA3 (hi : JI S tg iter mi) (hb : blkC S.N S.sc scope own = true) (hg : JC (S.blk scope) (own.map (·.2)) tg g) (ht : JTs (S.blk scope) ifs t) (hi1 : JI (S.blk scope) tg1 iter1 mi1) (hg1 : JC (S.blk scope) vs1 tg1 g1) (ht1 : JTs (S.blk scope) ifs1 t1) (he : JE (S.blk scope) elt me)
  (hv : ∀ i ∈ vs1, i ∈ own.map (·.2) := by decide) (hs : ∀ (env : Env) x, foldedSetIterable iter env x = pure x := by intro _ _; rfl) (hs1 : ∀ (env : Env) x, foldedSetIterable iter1 env x = pure x := by intro _ _; rfl) :
  JE S (.ListComp elt [⟨tg, iter, ifs, 0⟩, ⟨tg1, iter1, ifs1, 0⟩] scope pos) (D9 mi (own.map (·.2)) g t mi1 vs1 g1 t1 me) := fun X E cx xo =>
 cF (pe_lc2 (own := own) (vs1 := vs1) cx.calm cx.nd (hi X E cx xo) (blkOk_by (by rw [cx.N, cx.sc]; exact hb)) hv (fun s H C cl fp => hg _ E0 (iN cx s H scope C cl fp) (iM ..)) (fun s H C cl fp => ht _ E0 (iN cx s H scope C cl fp) (iM ..))
  (fun s H C cl fp => hi1 _ E0 (iN cx s H scope C cl fp) (iM ..)) (fun s H C cl fp => hg1 _ E0 (iN cx s H scope C cl fp) (iM ..)) (fun s H C cl fp => ht1 _ E0 (iN cx s H scope C cl fp) (iM ..))
  (fun s H C cl fp => he _ E0 (iN cx s H scope C cl fp) (iM ..)) (hs X.env) hs1) fun σ H Q h => X4 h M6
end
structure KTab (K : PySem.W.Frag) (w : World) (d : Addr) (tab : List (Str × Option D)) : Prop where
 ex : ∃ es n, KDict K w d es n
 hit : ∀ z x, tab.lookup z = some (some x) → ∃ u v, PySem.W.nsIn K d z = some (some u) ∧ RelV v u ∧ ∀ I F, aF K I F x v
 miss : ∀ z, tab.lookup z = some none → PySem.W.nsIn K d z = some none
def YD (d : Addr) (tab : List (Str × Option D)) (x y : D) (w : W) : Res D := match x, y with
 | .str z, .con a => if a = d then (match tab.lookup z with
  | some o => .ok (.bl o.isSome) w
  | none => .bad) else .bad
 | _, _ => .bad
def NA (d : Addr) (tab : List (Str × Option D)) (x y : D) (w : W) : Res D := match x, y with
 | .con a, .str z => if a = d then (match tab.lookup z with
  | some (some v) => .ok v w
  | _ => .bad) else .bad
 | _, _ => .bad
theorem aEh {S : aQ} {d : Addr} {tab : List (Str × Option D)} (T : KTab S.K S.w d tab) : O2 S (compareOp .In) (YD d tab) := gC fun X E c xo I F G a b w H x y Q rel rd re p => by
 unfold YD at p
 split at p
 ·rename_i z a'
  simp only [aF] at rd re
  subst rd re
  split at p
  ·rename_i hd
   subst hd
   obtain ⟨es, n, T1⟩ := T.ex
   rw [← c.K, ← c.w] at T1
   cases h : tab.lookup z with
   | none => rw [h] at p; exact p.elim
   | some o =>
    rw [h] at p
    cases o with
    | none => exact ⟨_, op_in_kd T1, z, none, rfl, rfl, by rw [c.K]; exact T.miss z h, p.mU rel (by simp [aF])⟩
    | some v =>
     obtain ⟨u, v', h1, h2, h3⟩ := T.hit z v h
     exact ⟨_, op_in_kd T1, z, some u, rfl, rfl, by rw [c.K]; exact h1, p.mU rel (by simp [aF])⟩
  ·exact p.elim
 ·exact p.elim
theorem aD4 {S : aQ} {d : Addr} {tab : List (Str × Option D)} (T : KTab S.K S.w d tab) : Z4 S (NA d tab) := RJ fun X E c xo I F G a b w H x y Q rel rd re p => by
 unfold NA at p
 split at p
 ·rename_i a' z
  simp only [aF] at rd re
  subst rd re
  split at p
  ·rename_i hd
   subst hd
   obtain ⟨es, n, T1⟩ := T.ex
   rw [← c.K, ← c.w] at T1
   cases h : tab.lookup z with
   | none => rw [h] at p; exact p.elim
   | some o =>
    cases o with
    | none => rw [h] at p; exact p.elim
    | some v =>
    rw [h] at p
    obtain ⟨u, v', h1, h2, h3⟩ := T.hit z v h
    exact ⟨_, ix_kdict, a', z, v', rfl, rfl, ⟨es, n, u, T1.at_, T1.lit, by rw [c.K]; exact h1, h2⟩, p.mU rel (by rw [c.K]; exact h3 _ _)⟩
  ·exact p.elim
 ·exact p.elim
theorem TQ {S : aQ} {d : Addr} {tab : List (Str × Option D)} {a b : Expr} {ma mb : ME} {pos : Pos} (T : KTab S.K S.w d tab) (ha : JE S a ma) (hb : JE S b mb) (hs : PlainIx b := by intro _ _; rfl) : JE S (.Subscript a b pos) (aD (NA d tab) ma mb) := fun X E c xo =>
 cF (pe_ix (aD4 T X E c xo) (ha X E c xo) (hb X E c xo) hs) fun _ _ _ h => zK h
open RZ (nextOf_tuple_item nextOf_tuple_end zipTH1 zipTH2 zipTH3 zipTH4)
abbrev iI (h : Heap) (z TI TO : Addr) (f0 : Value) : Prop :=
 h.get? z = some { cls := .type "zip", dict := none, data := .fields #[f0, .bool false, .bool true, .ref TI, .ref TO], slots := #[] }
abbrev zsH (h : Heap) (l1 l2 : Addr) : Heap := (zipTH4 h l1 l2).push { cls := .type "zip", data := .fields #[.none, .bool false, .bool true, .ref (zipTH2 h l1 l2).objs.size, .ref (zipTH3 h l1 l2).objs.size] }
theorem B9 (a b c : Value) : checkTypeCall "zip" ⟨[a, b], [(Str.ofString "strict", c)]⟩ = pure () := by kernel_rfl
theorem EW (a b c : Value) : checkBuiltinCall "zip.__new__" ⟨[.type "zip", a, b], [(Str.ofString "strict", c)]⟩ = pure () := by kernel_rfl
theorem V8 (x a b c : Value) : argsOk "object.__init__" ⟨[x, a, b], [(Str.ofString "strict", c)]⟩ := by unfold argsOk; kernel_rfl
theorem aD3 (l1 l2 : Addr) (xs ys : Array Value) : Meets (Builtin.«zip.__new__» ⟨[.type "zip", .ref l1, .ref l2], [(Str.ofString "strict", .bool true)]⟩) (fun _ R s => s.heap.IsTuple l1 xs ∧ s.heap.IsTuple l2 ys ∧
   R (.ok (.ret (.ref (zipTH4 s.heap l1 l2).objs.size))) { s with heap := zsH s.heap l1 l2 }) :=
 .of_wp fun prog w A R s ⟨t1, t2, fin⟩ => by
  obtain ⟨hp, gs, dr, tk, os⟩ := s
  have sub0 := sub_zip
  have T1 : Heap.IsTuple (Shared.heap ⟨hp, gs, dr, tk, os⟩) l1 xs := t1
  have T2 : Heap.IsTuple (Shared.heap ⟨hp.push { cls := .type "tuple_iterator", data := .fields #[.ref l1, .int 0 0] }, gs, dr, tk, os⟩) l2 ys := Heap.IsTuple.push t2 _
  have s1 : (Str.ofString "strict" == ("strict" : Str)) = true := by decide +kernel
  have s2 : (Str.ofString "strict" != ("strict" : Str)) = false := by decide +kernel
  wp_walk using wpAny_pyIter_tuple T1, wpAny_pyIter_tuple T2
  exact ⟨_, rfl, fin⟩
open RZ (nextOf_tuple_item nextOf_tuple_end zipTH1 zipTH2 zipTH3 zipTH4)
section
variable {prog : Program} {w : World} {A : Around} {E : Value → Shared → Prop} {s : Shared}
theorem aC5 {l1 l2 : Addr} {xs ys : Array Value} {Q : Value → Shared → Prop} (t1 : s.heap.IsTuple l1 xs) (t2 : s.heap.IsTuple l2 ys)
  (fin : ∀ g, iI g (s.heap.objs.size + 4) (s.heap.objs.size + 2) (s.heap.objs.size + 3) .none → IsPair g (s.heap.objs.size + 2) (.ref s.heap.objs.size) (.ref (s.heap.objs.size + 1)) → IsPair g (s.heap.objs.size + 3) .none .none →
   g.IsTupleIter s.heap.objs.size l1 0 → g.IsTupleIter (s.heap.objs.size + 1) l2 0 → (∀ c o, s.heap.get? c = some o → g.get? c = some o) → Q (.ref (s.heap.objs.size + 4)) { s with heap := g }) :
  wpAny (model prog w) A (call (.type "zip") [.ref l1, .ref l2] [(Str.ofString "strict", .bool true)]) Q E s := by
 refine callType_newKw F.called_zip (by decide) (B9 _ _ _) (EW _ _ _) (fun x => V8 x _ _ _) F.entry_zip_new (aD3 l1 l2 xs ys) ⟨t1, t2, ?_⟩
 have n1 : (zipTH1 s.heap l1).objs.size = s.heap.objs.size + 1 := Heap.size_push ..
 have n2 : (zipTH2 s.heap l1 l2).objs.size = s.heap.objs.size + 2 := by rw [Heap.size_push, n1]
 have n3 : (zipTH3 s.heap l1 l2).objs.size = s.heap.objs.size + 3 := by rw [Heap.size_push, n2]
 have n4 : (zipTH4 s.heap l1 l2).objs.size = s.heap.objs.size + 4 := by rw [Heap.size_push, n3]
 have up1 : ∀ {c o}, (zipTH4 s.heap l1 l2).get? c = some o → (zsH s.heap l1 l2).get? c = some o := fun h => Heap.get?_push_of_some _ h
 have up2 : ∀ {c o}, (zipTH3 s.heap l1 l2).get? c = some o → (zsH s.heap l1 l2).get? c = some o := fun h => up1 (Heap.get?_push_of_some _ h)
 have up3 : ∀ {c o}, (zipTH2 s.heap l1 l2).get? c = some o → (zsH s.heap l1 l2).get? c = some o := fun h => up2 (Heap.get?_push_of_some _ h)
 have up4 : ∀ {c o}, (zipTH1 s.heap l1).get? c = some o → (zsH s.heap l1 l2).get? c = some o := fun h => up3 (Heap.get?_push_of_some _ h)
 have k5 : (zsH s.heap l1 l2).get? (zipTH4 s.heap l1 l2).objs.size = some _ := Heap.get?_push_size _ rfl
 have k4 : (zsH s.heap l1 l2).get? (zipTH3 s.heap l1 l2).objs.size = some _ := up1 (Heap.get?_push_size _ rfl)
 have k3 : (zsH s.heap l1 l2).get? (zipTH2 s.heap l1 l2).objs.size = some _ := up2 (Heap.get?_push_size _ rfl)
 have k2 : (zsH s.heap l1 l2).get? (zipTH1 s.heap l1).objs.size = some _ := up3 (Heap.get?_push_size _ rfl)
 have k1 : (zsH s.heap l1 l2).get? s.heap.objs.size = some _ := up4 (Heap.get?_push_size _ rfl)
 show _ ∧ _
 rw [n2, n3, n4] at k5
 rw [n1, n2] at k3
 rw [n3] at k4
 rw [n1] at k2
 rw [n4]
 exact ⟨⟨_, k5, rfl⟩, fin _ k5 k3 k4 ⟨_, k1, rfl, rfl⟩ ⟨_, k2, rfl, rfl⟩ fun c o h => up4 (Heap.get?_push_of_some _ h)⟩
theorem EI {it l : Addr} {i : Nat} {items : Array Value} {x : Value} {Q : Option Value → Shared → Prop} (a : s.heap.IsTupleIter it l i) (b : s.heap.IsTuple l items) (c : items[i]? = some x)
  (q : ∀ g, g.IsTupleIter it l (i + 1) → Heap.SameBut it s.heap g → Q (some x) { s with heap := g }) : wpAny (model prog w) A (Builtin.SmallTypes.nextOrEnd (.ref it)) Q E s := by
 unfold Builtin.SmallTypes.nextOrEnd
 exact wpAny_bind (wpAny_attempt (nextOf_tuple_item a b c fun g g1 g2 => wpAny_pure (q g g1 g2)))
theorem LL {it l : Addr} {i : Nat} {items : Array Value} {Q : Option Value → Shared → Prop} (hh : A.handled = none) (a : s.heap.IsTupleIter it l i) (b : s.heap.IsTuple l items) (c : items[i]? = none)
  (q : ∀ g, Heap.ExtBut it s.heap g → Q none { s with heap := g }) : wpAny (model prog w) A (Builtin.SmallTypes.nextOrEnd (.ref it)) Q E s := by
 unfold Builtin.SmallTypes.nextOrEnd
 refine wpAny_bind (wpAny_attempt (nextOf_tuple_end hh a b c fun g e g1 ⟨o, g2, g3⟩ => ?_))
 refine wpAny_bind (wpAny_isInstance (T := "StopIteration") (b := true) ⟨o, g2, g3⟩ isSubtype_stop ?_)
 exact wpAny_pure (q g g1)
theorem rT {T : Addr} {a b x : Value} {k : Nat} {Q : Unit → Shared → Prop} (h : IsPair s.heap T a b) (q : ∀ g, g.get? T = some { cls := .type "tuple", data := .seq ((#[a, b] : Array Value).setIfInBounds k x) } → Heap.SameBut T s.heap g → Q () { s with heap := g }) :
  wpAny (model prog w) A (updateSeq T (·.setIfInBounds k x)) Q E s := wpAny_updateSeq_pair h q
theorem aB5 {z TI TO i1 i2 l1 l2 : Addr} {k : Nat} {xs ys : Array Value} {x y a b : Value} {Q : Value → Shared → Prop} (D : ZipApart z TI TO i1 i2 l1 l2)
  (hz : iI s.heap z TI TO .none) (hI : IsPair s.heap TI (.ref i1) (.ref i2)) (hO : IsPair s.heap TO a b) (a1 : s.heap.IsTupleIter i1 l1 k) (a2 : s.heap.IsTupleIter i2 l2 k) (b1 : s.heap.IsTuple l1 xs) (b2 : s.heap.IsTuple l2 ys) (c1 : xs[k]? = some x) (c2 : ys[k]? = some y)
  (fin : ∀ g, iI g z TI TO (rawInt s.heap.objs.size) → IsPair g TO x y → g.IsTupleIter i1 l1 (k + 1) → g.IsTupleIter i2 l2 (k + 1) → IsPair g s.heap.objs.size x y → (∀ c o, c ≠ z → c ≠ TO → c ≠ i1 → c ≠ i2 → s.heap.get? c = some o → g.get? c = some o) → Q (.ref s.heap.objs.size) { s with heap := g }) :
  wpAny (model prog w) A (Builtin.«zip.__next__» ⟨[.ref z], []⟩) (fun f t => ∃ v, f = .done (.ret v) ∧ Q v t) E s := by
 show wpAny _ _ (field (.ref z) 2 >>= _) _ _ _
 refine wpAny_bind (wpAny_field hz rfl (x := .bool true) rfl ?_)
 show wpAny _ _ (field (.ref z) 3 >>= _) _ _ _
 refine wpAny_bind (wpAny_field hz rfl (x := .ref TI) rfl ?_)
 refine wpAny_bind (wpAny_seqItems hI rfl ?_)
 show wpAny _ _ (Builtin.SmallTypes.ownedTupleIsFree (.ref z) >>= _) _ _ _
 refine wpAny_bind ?_
 unfold Builtin.SmallTypes.ownedTupleIsFree
 refine wpAny_bind (wpAny_field hz rfl (x := .none) rfl (wpAny_pure ?_))
 simp only [ae]
 refine wpAny_bind (wpAny_rule ?_)
 refine wpAny_bind (wpAny_field hz rfl (x := .ref TO) rfl ?_)
 refine wpAny_bind (wpAny_setField_rec hz (by simp) fun g1 z1 s1 => ?_)
 have z1' : iI g1 z TI TO .ellipsis := z1
 refine wpAny_bind ?_
 simp only [List.zipIdx_cons, List.zipIdx_nil, List.forIn_cons, List.forIn_nil]
 refine wpAny_bind (wpAny_bind (wpAny_onRaise ?_))
 show wpAny _ _ (Builtin.SmallTypes.nextOrEnd (.ref i1)) _ _ _
 refine EI (a1.extBut s1.extBut D.i1z) (b1.extBut s1.extBut D.l1z) c1 fun g2 d1 s2 => ?_
 have O2 : IsPair g2 TO a b := s2.extBut _ _ D.TOi1 (s1.extBut _ _ D.TOz hO)
 refine wpAny_bind (wpAny_seqItems O2 rfl ?_)
 refine wpAny_bind (rT O2 fun g3 O3 s3 => ?_)
 have O3' : IsPair g3 TO x b := O3
 refine wpAny_bind (wpAny_letGo (wpAny_pure ?_))
 refine wpAny_bind (wpAny_bind (wpAny_onRaise ?_))
 show wpAny _ _ (Builtin.SmallTypes.nextOrEnd (.ref i2)) _ _ _
 refine EI (((a2.extBut s1.extBut D.i2z).extBut s2.extBut D.i12.symm).extBut s3.extBut D.TOi2.symm) (((b2.extBut s1.extBut D.l2z).extBut s2.extBut D.l2i1).extBut s3.extBut D.l2TO) c2 fun g4 d2 s4 => ?_
 have O4 : IsPair g4 TO x b := s4.extBut _ _ D.TOi2 O3'
 refine wpAny_bind (wpAny_seqItems O4 rfl ?_)
 refine wpAny_bind (rT O4 fun g5 O5 s5 => ?_)
 have O5' : IsPair g5 TO x y := O5
 refine wpAny_bind (wpAny_letGo (wpAny_pure (wpAny_pure ?_)))
 refine wpAny_bind (wpAny_seqItems O5' rfl ?_)
 refine wpAny_bind (wpAny_newTuple ?_)
 have size5 : g5.objs.size = s.heap.objs.size := by rw [s5.1, s4.1, s3.1, s2.1, s1.1]
 have z5 : iI g5 z TI TO .ellipsis := s5.extBut _ _ D.TOz.symm (s4.extBut _ _ D.i2z.symm (s3.extBut _ _ D.TOz.symm (s2.extBut _ _ D.i1z.symm z1')))
 have kp : ∀ c o, c ≠ z → c ≠ TO → c ≠ i1 → c ≠ i2 → s.heap.get? c = some o → g5.get? c = some o := fun c o n1 n2 n3 n4 e =>
  s5.extBut _ _ n2 (s4.extBut _ _ n4 (s3.extBut _ _ n2 (s2.extBut _ _ n3 (s1.extBut _ _ n1 e))))
 have d1' : g5.IsTupleIter i1 l1 (k + 1) := ((d1.extBut s3.extBut D.TOi1.symm).extBut s4.extBut D.i12).extBut s5.extBut D.TOi1.symm
 have d2' : g5.IsTupleIter i2 l2 (k + 1) := d2.extBut s5.extBut D.TOi2.symm
 have zl : z < g5.objs.size := Heap.lt_size z5
 show wpAny _ _ (Builtin.SmallTypes.ownedTupleHandOut (.ref z) (.ref g5.objs.size) >>= _) _ _ _
 refine wpAny_bind ?_
 unfold Builtin.SmallTypes.ownedTupleHandOut
 have z6 : iI (g5.push { cls := .type "tuple", data := .seq #[x, y] }) z TI TO .ellipsis := Heap.get?_push_of_some _ z5
 refine wpAny_bind (wpAny_setField_rec z6 (by simp) fun g7 z7 s7 => ?_)
 have z7' : iI g7 z TI TO (rawInt g5.objs.size) := z7
 refine wpAny_setField_rec z7' (by simp) fun g8 z8 s8 => ?_
 have z8' : iI g8 z TI TO (rawInt g5.objs.size) := z8
 have up : ∀ c o, c ≠ z → g5.get? c = some o → g8.get? c = some o := fun c o n e => s8.extBut _ _ n (s7.extBut _ _ n (Heap.get?_push_of_some _ e))
 have T8 : IsPair g8 g5.objs.size x y := s8.extBut _ _ (Nat.ne_of_gt zl) (s7.extBut _ _ (Nat.ne_of_gt zl) (Heap.get?_push_size _ rfl))
 rw [size5] at z8' T8
 refine wpAny_pure ⟨_, rfl, ?_⟩
 show Q (.ref g5.objs.size) _
 rw [size5]
 exact fin g8 z8' (up _ _ D.TOz O5') (d1'.at fun o e => up _ o D.i1z e) (d2'.at fun o e => up _ o D.i2z e) T8 fun c o n1 n2 n3 n4 e => up c o n1 (kp c o n1 n2 n3 n4 e)
theorem aE1 {z TI TO i1 i2 l1 l2 : Addr} {k : Nat} {xs ys : Array Value} {a b : Value} {Q : Fin → Shared → Prop} (hh : A.handled = none) (D : ZipApart z TI TO i1 i2 l1 l2)
  (hz : iI s.heap z TI TO .none) (hI : IsPair s.heap TI (.ref i1) (.ref i2)) (hO : IsPair s.heap TO a b) (a1 : s.heap.IsTupleIter i1 l1 k) (a2 : s.heap.IsTupleIter i2 l2 k) (b1 : s.heap.IsTuple l1 xs) (b2 : s.heap.IsTuple l2 ys) (c1 : xs[k]? = none) (c2 : ys[k]? = none)
  (fin : ∀ g e, (∀ c o, c ≠ z → c ≠ TO → c ≠ i1 → c ≠ i2 → s.heap.get? c = some o → g.get? c = some o) → (∃ o, g.get? e = some o ∧ o.cls = .type "StopIteration") → E (.ref e) { s with heap := g }) :
  wpAny (model prog w) A (Builtin.«zip.__next__» ⟨[.ref z], []⟩) Q E s := by
 show wpAny _ _ (field (.ref z) 2 >>= _) _ _ _
 refine wpAny_bind (wpAny_field hz rfl (x := .bool true) rfl ?_)
 show wpAny _ _ (field (.ref z) 3 >>= _) _ _ _
 refine wpAny_bind (wpAny_field hz rfl (x := .ref TI) rfl ?_)
 refine wpAny_bind (wpAny_seqItems hI rfl ?_)
 show wpAny _ _ (Builtin.SmallTypes.ownedTupleIsFree (.ref z) >>= _) _ _ _
 refine wpAny_bind ?_
 unfold Builtin.SmallTypes.ownedTupleIsFree
 refine wpAny_bind (wpAny_field hz rfl (x := .none) rfl (wpAny_pure ?_))
 simp only [ae]
 refine wpAny_bind (wpAny_rule ?_)
 refine wpAny_bind (wpAny_field hz rfl (x := .ref TO) rfl ?_)
 refine wpAny_bind (wpAny_setField_rec hz (by simp) fun g1 z1 s1 => ?_)
 have z1' : iI g1 z TI TO .ellipsis := z1
 refine wpAny_bind ?_
 simp only [List.zipIdx_cons, List.zipIdx_nil, List.forIn_cons, List.forIn_nil]
 refine wpAny_bind (wpAny_bind (wpAny_onRaise ?_))
 show wpAny _ _ (Builtin.SmallTypes.nextOrEnd (.ref i1)) _ _ _
 refine LL hh (a1.extBut s1.extBut D.i1z) (b1.extBut s1.extBut D.l1z) c1 fun g2 s2 => ?_
 have z2 : iI g2 z TI TO .ellipsis := s2 _ _ D.i1z.symm z1'
 refine wpAny_bind (wpAny_setField_rec z2 (by simp) fun g3 _ s3 => ?_)
 refine wpAny_bind (wpAny_bind ?_)
 show wpAny _ _ (forIn ((List.drop 1 [Value.ref i1, Value.ref i2]).zipIdx 1) PUnit.unit _) _ _ _
 simp only [List.drop_succ_cons, List.drop_zero, List.zipIdx_cons, List.zipIdx_nil, List.forIn_cons, List.forIn_nil]
 refine wpAny_bind (wpAny_bind (LL hh (((a2.extBut s1.extBut D.i2z).extBut s2 D.i12.symm).extBut s3.extBut D.i2z) (((b2.extBut s1.extBut D.l2z).extBut s2 D.l2i1).extBut s3.extBut D.l2z) c2 fun g4 s4 => ?_))
 show wpAny _ _ (pure (ForInStep.yield PUnit.unit)) _ _ _
 refine wpAny_pure ?_
 refine wpAny_pure ?_
 refine wpAny_bind (wpAny_rule ?_)
 unfold Builtin.SmallTypes.stopIteration
 refine wpAny_bind ?_
 simp only [newExc, newTuple]
 refine wpAny_bind (wpAny_newObj_type ?_ (by size_fits))
 refine wpAny_bind (m := firstArgMember _ _) (wpAny_of_eq (a := Value.none) (by first | rfl | (simp only [firstArgMember]; rfl)) ?_)
 refine wpAny_newObj_type ?_ (by size_fits)
 simp only [raiseNew]
 refine wpAny_bind (wpAny_handled ?_)
 rw [hh]
 refine wpAny_bind (wpAny_pure (wpAny_throw ?_))
 refine fin _ _ (fun c o n1 _ n3 n4 e => ?_) ⟨_, Heap.get?_push_size _ rfl, rfl⟩
 exact Heap.get?_push_of_some _ (Heap.get?_push_of_some _ (s4 _ _ n4 (s3.extBut _ _ n1 (s2 _ _ n3 (s1.extBut _ _ n1 e)))))
theorem N3 {z TI TO i1 i2 l1 l2 : Addr} {k : Nat} {xs ys : Array Value} {x y a b : Value} {Q : Option Value → Shared → Prop} (D : ZipApart z TI TO i1 i2 l1 l2)
  (hz : iI s.heap z TI TO .none) (hI : IsPair s.heap TI (.ref i1) (.ref i2)) (hO : IsPair s.heap TO a b) (a1 : s.heap.IsTupleIter i1 l1 k) (a2 : s.heap.IsTupleIter i2 l2 k) (b1 : s.heap.IsTuple l1 xs) (b2 : s.heap.IsTuple l2 ys) (c1 : xs[k]? = some x) (c2 : ys[k]? = some y)
  (fin : ∀ g, iI g z TI TO (rawInt s.heap.objs.size) → IsPair g TO x y → g.IsTupleIter i1 l1 (k + 1) → g.IsTupleIter i2 l2 (k + 1) → IsPair g s.heap.objs.size x y → (∀ c o, c ≠ z → c ≠ TO → c ≠ i1 → c ≠ i2 → s.heap.get? c = some o → g.get? c = some o) → Q (some (.ref s.heap.objs.size)) { s with heap := g }) :
  wpAny (model prog w) A (pyNext (.ref z)) Q E s := by
 have ty : s.TypeIs (.ref z) "zip" := ⟨_, hz, rfl⟩
 unfold pyNext
 exact wpAny_bind (wpAny_attempt (wpAny_callSpecial?_slot (name := Str.ofString "__next__") ty F.slot_zip_next (wpAny_call_entry F.slot_zip_next ty F.entry_zip_next (aB5 D hz hI hO a1 a2 b1 b2 c1 c2 fun g e1 e2 e3 e4 e5 e6 => wpAny_pure (fin g e1 e2 e3 e4 e5 e6)) (F.args_zip_next_1 _))))
theorem TM {z TI TO i1 i2 l1 l2 : Addr} {k : Nat} {xs ys : Array Value} {a b : Value} {Q : Option Value → Shared → Prop} (hh : A.handled = none) (D : ZipApart z TI TO i1 i2 l1 l2)
  (hz : iI s.heap z TI TO .none) (hI : IsPair s.heap TI (.ref i1) (.ref i2)) (hO : IsPair s.heap TO a b) (a1 : s.heap.IsTupleIter i1 l1 k) (a2 : s.heap.IsTupleIter i2 l2 k) (b1 : s.heap.IsTuple l1 xs) (b2 : s.heap.IsTuple l2 ys) (c1 : xs[k]? = none) (c2 : ys[k]? = none)
  (fin : ∀ g, (∀ c o, c ≠ z → c ≠ TO → c ≠ i1 → c ≠ i2 → s.heap.get? c = some o → g.get? c = some o) → Q none { s with heap := g }) : wpAny (model prog w) A (pyNext (.ref z)) Q E s := by
 have ty : s.TypeIs (.ref z) "zip" := ⟨_, hz, rfl⟩
 unfold pyNext
 refine wpAny_bind (wpAny_attempt (wpAny_callSpecial?_slot (name := Str.ofString "__next__") ty F.slot_zip_next (wpAny_call_entry F.slot_zip_next ty F.entry_zip_next (aE1 hh D hz hI hO a1 a2 b1 b2 c1 c2 fun g e kp he => ?_) (F.args_zip_next_1 _))))
 obtain ⟨o, h1, h2⟩ := he
 refine wpAny_bind (wpAny_isInstance (T := "StopIteration") (b := true) ⟨o, h1, h2⟩ isSubtype_stop ?_)
 exact wpAny_pure (fin _ kp)
theorem DQ {z TI TO : Addr} {f0 : Value} {Q : Value → Shared → Prop} (hz : iI s.heap z TI TO f0) (h : Q (.ref z) s) : wpAny (model prog w) A (pyIter (.ref z)) Q E s := by
 have ty : s.TypeIs (.ref z) "zip" := ⟨_, hz, rfl⟩
 refine wpAny_pyIter_slot ty F.slot_zip_iter (wpAny_call_entry F.slot_zip_iter ty F.entry_zip_iter ?_ (F.args_zip_iter_1 _))
 show wpAny _ _ (ret (.ref z)) _ _ s
 exact wpAny_pure ⟨_, rfl, "zip", _, ty, F.slot_zip_next.lookup, h⟩
theorem QX {elts : List Expr} {x1 : Nat} {pos : Pos} {z TI TO T : Addr} {Q : Unit → Shared → Prop} (hz : iI s.heap z TI TO (rawInt T))
  (fin : ∀ g, iI g z TI TO .none → Heap.SameBut z s.heap g → Q () { s with heap := g }) : wpAny (model prog w) A (letOwnedTupleGo (.Tuple elts x1 pos) (.ref z) (.ref T)) Q E s := by
 unfold letOwnedTupleGo
 refine wpAny_bind (wpAny_load hz ?_)
 show wpAny _ _ (if (["enumerate", "zip", "dict_itemiterator", "dict_reverseitemiterator", "odict_iterator", "itertools.zip_longest", "itertools.pairwise"].contains "zip" &&
   (#[rawInt T, .bool false, .bool true, .ref TI, .ref TO] : Array Value)[0]? == some (rawInt T)) = true then _ else _) Q E s
 rw [if_pos (by simp)]
 refine wpAny_bind (wpAny_rule ?_)
 show wpAny _ _ (setField (.ref z) 0 .none) Q E s
 exact wpAny_setField_rec hz (by simp) fun g h1 h2 => fin g h1 h2
end
def aFJ (K : PySem.W.Frag) (a b : Addr) : It :=
 ⟨fun i H => ∃ (xs ys : List V) (x y : V), SqT K H a xs ∧ SqT K H b ys ∧ xs[i]? = some x ∧ ys[i]? = some y,
  fun i H v H' => ∃ T x y, v = .ref T ∧ H T = none ∧ H' = upd H T (.tup [x, y]) ∧ (∀ xs, SqT K H a xs → xs[i]? = some x) ∧ ∀ ys, SqT K H b ys → ys[i]? = some y,
  fun i H => ∃ xs ys : List V, SqT K H a xs ∧ SqT K H b ys ∧ xs.length ≤ i ∧ ys.length ≤ i⟩
theorem aDa {P : Program} {w : World} {K : PySem.W.Frag} {elts : List Expr} {kk : Nat} {tpos : Pos} {a b z TI TO i1 i2 : Addr} (D : ZipApart z TI TO i1 i2 a b) :
  Turn P w K (.Tuple elts kk tpos) (aFJ K a b) [z, TI, TO, i1, i2] z (fun i h => iI h z TI TO .none ∧ IsPair h TI (.ref i1) (.ref i2) ∧ (∃ x y, IsPair h TO x y) ∧ h.IsTupleIter i1 a i ∧ h.IsTupleIter i2 b i) where
 mem := by simp
 obj := fun i h st c hc => by
  obtain ⟨f1, f2, ⟨x, y, f3⟩, ⟨o1, e1, _, d1⟩, ⟨o2, e2, _, d2⟩⟩ := st
  have cs : c = z ∨ c = TI ∨ c = TO ∨ c = i1 ∨ c = i2 := by simpa using hc
  rcases cs with rfl | rfl | rfl | rfl | rfl
  ·exact ⟨_, f1, fun v q => nomatch q⟩
  ·exact ⟨_, f2, fun v q => nomatch q⟩
  ·exact ⟨_, f3, fun v q => nomatch q⟩
  ·exact ⟨o1, e1, fun v q => by rw [d1] at q; cases q⟩
  ·exact ⟨o2, e2, fun v q => by rw [d2] at q; cases q⟩
 keep := fun i h h' st k => by
  obtain ⟨f1, f2, ⟨x, y, f3⟩, f4, f5⟩ := st
  exact ⟨k z (by simp) _ f1, k TI (by simp) _ f2, ⟨x, y, k TO (by simp) _ f3⟩, f4.at fun o q => k i1 (by simp) o q, f5.at fun o q => k i2 (by simp) o q⟩
 item := by
  intro X hP hw hK hc i pins s σ H E I fp st go
  subst hP hw hK
  obtain ⟨f1, f2, ⟨x0, y0, f3⟩, f4, f5⟩ := st
  obtain ⟨xs, ys, x, y, qx, qy, gx, gy⟩ := go
  obtain ⟨us, rv, p, _⟩ := I.tuple qx
  obtain ⟨us2, rv2, p2, _⟩ := I.tuple qy
  obtain ⟨u, hu, ru⟩ := rv.get gx
  obtain ⟨u2, hu2, ru2⟩ := rv2.get gy
  have zl : z < s.heap.objs.size := Heap.lt_size f1
  refine N3 D f1 f2 f3 f4 f5 p p2 (x := u) (y := u2) (by simpa using hu) (by simpa using hu2) fun g z' TO' h1' h2' hT hk => ?_
  refine ⟨_, rfl, QX (s := { s with heap := g }) z' fun g2 z'' sb => ?_⟩
  have hT2 : g2.get? s.heap.objs.size = some { cls := .type "tuple", data := .seq #[u, u2] } := (sb.2 _ (Nat.ne_of_gt zl)).trans hT
  have new : ObjOk X.prog X.w (upd H s.heap.objs.size (.tup [x, y])) g2 s.heap.objs.size (.tup [x, y]) := ⟨by show 2 ≤ sizeLine; decide, [u, u2], .cons ru (.cons ru2 .nil), ⟨_, hT2, rfl, _, rfl⟩⟩
  have I1 : Inv X pins σ (upd H s.heap.objs.size (.tup [x, y])) { s with heap := g2 } :=
   I.turnedNew (t' := s.toks) (ch := [z, TI, TO, i1, i2]) (fun c o hb q => by
    simp only [bg, bu, or_false, not_or] at hb
    exact (sb.2 c hb.1).trans (hk c o hb.1 hb.2.2.1 hb.2.2.2.1 hb.2.2.2.2 q)) fp (az _) new
  refine ⟨.ref s.heap.objs.size, _, I1, rfl, ⟨_, x, y, rfl, I.hok.fresh (az _), rfl, fun l hl => by rw [I.tuple_inj hl qx]; exact gx, fun l hl => by rw [I.tuple_inj hl qy]; exact gy⟩, ⟨z'', ?_, ⟨u, u2, ?_⟩, ?_, ?_⟩, fun c hcm => ?_⟩
  ·exact (sb.2 _ D.TIz).trans (hk _ _ D.TIz D.TITO D.TIi1 D.TIi2 f2)
  ·exact (sb.2 _ D.TOz).trans TO'
  ·exact h1'.at fun o q => (sb.2 _ D.i1z).trans q
  ·exact h2'.at fun o q => (sb.2 _ D.i2z).trans q
  ·have hlt : c < s.heap.objs.size := by
    have cs : c = z ∨ c = TI ∨ c = TO ∨ c = i1 ∨ c = i2 := by simpa using hcm
    rcases cs with rfl | rfl | rfl | rfl | rfl
    ·exact zl
    ·exact Heap.lt_size f2
    ·exact Heap.lt_size f3
    ·obtain ⟨_, e1, _⟩ := f4; exact Heap.lt_size e1
    ·obtain ⟨_, e2, _⟩ := f5; exact Heap.lt_size e2
   rw [upd_ne (Nat.ne_of_lt hlt)]
   exact (fp c hcm).1
 done := by
  intro X hP hw hK hc i pins s σ H E I fp st go
  subst hP hw hK
  obtain ⟨f1, f2, ⟨x0, y0, f3⟩, f4, f5⟩ := st
  obtain ⟨xs, ys, qx, qy, e1, e2⟩ := go
  obtain ⟨us, rv, p, _⟩ := I.tuple qx
  obtain ⟨us2, rv2, p2, _⟩ := I.tuple qy
  have l1 := rv.length
  have l2 := rv2.length
  refine TM (I.ok.hd hc) D f1 f2 f3 f4 f5 p p2 (by simp; omega) (by simp; omega) fun g hk => ⟨rfl, I.turnedL (t' := s.toks) (ch := [z, TI, TO, i1, i2]) (fun c o hb q => ?_) fp⟩
  simp only [bg, bu, or_false, not_or] at hb
  exact hk c o hb.1 hb.2.2.1 hb.2.2.2.1 hb.2.2.2.2 q
 self := fun A i s Q E st h => DQ st.1 h
section
variable {M : Model} {A : Around} {E : Value → Shared → Prop} {s : Shared} {env : Env}
theorem wK {pos : Pos} {T : String} {first : List Value} {args : List (Bool × Sem Value)} {kws : List (Option Str × Sem Value)} {Q : Value → Shared → Prop} (p1 : args.any (·.1) = false) (p2 : kws.any (·.1.isNone) = false)
  (h : wpAny M A (evalArgs (.type T) true args kws) (fun a t => wpAny M A (call (.type T) (first ++ a.pos) a.kw) Q E t) E s) : wpAny M A (callWith pos (.type T) first args kws) Q E s := by
 unfold callWith
 refine wpAny_bind (wpAny_holding (wpAny_mono h (fun a t g => wpAny_bind (wpAny_standAt ?_)) fun _ _ z => z))
 simp only [p1, p2, Bool.or_false]
 refine wpAny_bind (wpAny_pure ?_)
 exact wpAny_bind (wpAny_mono g (fun r t2 hr => wpAny_bind (wpAny_holding (wpAny_point (wpAny_pure hr)))) fun _ _ z => z)
end
section
variable {X : Cx} {e e2 : Expr} {ta : TA} {p pos tpos cp kp : Pos} {elts : List Expr} {kk k : Nat}
def iZs (K : PySem.W.Frag) (ta : TA) : TI := fun σ H R => ta σ H fun vs H1 => ∃ a b xs ys, vs = [V.ref a, V.ref b] ∧ SqT K H1 a xs ∧ SqT K H1 b ys ∧ R (aFJ K a b) H1
theorem aFO (hg : Gl X "zip") (hm : X.mg "zip" = none) (ha : PA X [e, e2] ta) (hs : starEach [e, e2] X.env = (false, eval e X.env) :: starEach [e2] X.env := by rfl) (hpl : (backTo pos (starEach [e, e2] X.env)).any (·.1) = false := by rfl)
  (hk1 : (backToKw pos (keywordEach [⟨some "strict", .Constant (.bool true) k cp, kp⟩] X.env)).any (·.1.isNone) = false := by rfl) (hk2 : (backToKw pos (keywordEach [⟨some "strict", .Constant (.bool true) k cp, kp⟩] X.env)).all (·.1.isSome) = true := by rfl)
  (hk3 : (backToKw pos (keywordEach [⟨some "strict", .Constant (.bool true) k cp, kp⟩] X.env)).filterMap (·.1) = [Str.ofString "strict"] := by rfl) :
  PI X (.Tuple elts kk tpos) (.Call (.Name "zip" p) [e, e2] [⟨some "strict", .Constant (.bool true) k cp, kp⟩] pos) (iZs X.K ta) := by
 refine ⟨fun pins s σ H R I h => ?_⟩
 refine wpAny_Call_Name_kw (ld_blt I hg hm PyProof.Rows.boot_zip (wK hpl hk1 ?_))
 have hA := ha.run pos pins s σ H _ I h
 rw [hs] at hA ⊢
 refine evalArgs_kwB hk2 (thn hA fun us s1 ⟨vs, H1, I1, r1, a, b, xs, ys, ex, qx, qy, q⟩ => ?_)
 subst ex
 rw [hk3]
 refine thn ((pk_cons (nm := some "strict") (kpos := kp) (pe_bl (b := true) (j := k) (pos := cp)) pk_nil).run pos pins s1 σ H1 (fun zs H2 => zs = [V.bl true] ∧ H2 = H1) I1 ⟨rfl, rfl⟩) fun ws s2 ⟨zs, H2, I2, rz, ez, eH⟩ => ?_
 subst ez eH
 obtain ⟨w1, rfl, rw1⟩ := rz.one
 cases rw1
 obtain ⟨u1, u2, rfl, ra, rb⟩ := r1.two
 cases ra
 cases rb
 obtain ⟨us1, rv, p1, _⟩ := I2.tuple qx
 obtain ⟨us2, rv2, p2, _⟩ := I2.tuple qy
 obtain ⟨o1, ho1, _⟩ := id p1
 obtain ⟨o2, ho2, _⟩ := id p2
 refine aC5 (show s2.heap.IsTuple a us1.toArray from p1) (show s2.heap.IsTuple b us2.toArray from p2) fun g hz hI hO h1 h2 hk => DQ hz ?_
 have I3 : Inv X pins σ H2 { s2 with heap := g } := I2.kept (t' := s2.toks) hk
 refine ⟨s2.heap.objs.size + 4, [s2.heap.objs.size + 4, s2.heap.objs.size + 2, s2.heap.objs.size + 3, s2.heap.objs.size, s2.heap.objs.size + 1], _, _, H2, rfl, I3, aDa (PySem.W.ktu_apart s2.heap.objs.size a b (Heap.lt_size ho1) (Heap.lt_size ho2)), ⟨hz, hI, ⟨_, _, hO⟩, h1, h2⟩, fun c hc => ?_, q⟩
 have le : s2.heap.objs.size ≤ c := by
  simp only [bg, bu, or_false] at hc
  rcases hc with rfl | rfl | rfl | rfl | rfl <;> omega
 exact I2.fpOk le (I2.hok.fresh le)
end
def zsM (ds : List D) (w : W) : Res kL := match ds with
 | [x, y] => (match wG x, wG y with
  | some xs, some ys => if xs.length = ys.length then .ok ⟨(xs.zip ys).map fun p => .tup [p.1, p.2], always⟩ w else .bad
  | _, _ => .bad)
 | _ => .bad
theorem zN {K : PySem.W.Frag} {I : List Addr} {F : Hp} {d : D} {v : V} {xs : List D} (h : aF K I F d v) (e : wG d = some xs) : ∃ a vs, v = .ref a ∧ SqT K F a vs ∧ RepL K I F xs vs := by
 cases d <;> simp only [wG, ah, reduceCtorEq] at e <;> simp only [aF] at h
 case tup => subst e; obtain ⟨a, vs, h0, h1, h2⟩ := h; exact ⟨a, vs, h0, .of h1, h2⟩
 case jA => subst e; obtain ⟨a, vs, h0, h1, h2⟩ := h; exact ⟨a, vs, h0, h1, h2⟩
theorem aGj {S : aQ} {e e2 : Expr} {ma : MA} {p pos tpos cp kp : Pos} {elts : List Expr} {kk k : Nat} (hg : S.sc.names.lookup ("zip" : Str) = some .globalImplicit) (hm : S.mg "zip" = none) (ha : JA S [e, e2] ma)
  (hs : ∀ env : Env, starEach [e, e2] env = (false, eval e env) :: starEach [e2] env := by intro _; rfl) (hpl : ∀ env : Env, (backTo pos (starEach [e, e2] env)).any (·.1) = false := by intro _; rfl) :
  JI S (.Tuple elts kk tpos) (.Call (.Name "zip" p) [e, e2] [⟨some "strict", .Constant (.bool true) k cp, kp⟩] pos) (eT zsM ma) := fun X E cx xo =>
 pL (aFO (by show X.env.scope.names.lookup _ = _; rw [cx.sc]; exact hg) (by rw [cx.mg]; exact hm) (ha X E cx xo) (hs X.env) (hpl X.env)) fun σ H R ⟨I, F, G, ds, w, rel, rs, p⟩ => cX (f := fun _ => zsM) rel rs p fun I1 F1 H1 xs w1 vs e1 rel1 rs1 rv p1 => by
  unfold zsM at p1
  split at p1
  ·rename_i x y
   obtain ⟨v, u, rfl, rx, ry⟩ := rv.two
   split at p1
   ·rename_i xs ys hx hy
    split at p1
    ·rename_i hl
     obtain ⟨a, us, rfl, q1, q2⟩ := zN rx hx
     obtain ⟨b, ts, rfl, q3, q4⟩ := zN ry hy
     refine ⟨a, b, us, ts, rfl, rel1.K2 q1, rel1.K2 q3, p1 I1 F1 H1 .refl rel1 trivial _ fun I' F' G' w' H' j e' rel' _ => ?_⟩
     have t1 := rel'.K2 (DY e' q1)
     have t2 := rel'.K2 (DY e' q3)
     have r1 := RepL.ext e' _ _ q2
     have r2 := RepL.ext e' _ _ q4
     have l1 : xs.length = us.length := r1.length
     have l2 : ys.length = ts.length := r2.length
     refine ⟨fun x hx => ?_, fun hj => ⟨us, ts, t1, t2, ?_, ?_⟩⟩
     ·rw [bz] at hx
      cases hz : (xs.zip ys)[j]? with
      | none => rw [hz] at hx; cases hx
      | some pr =>
       rw [hz] at hx
       cases hx
       obtain ⟨pa, pb⟩ := pr
       rw [List.getElem?_zip_eq_some] at hz
       obtain ⟨v1, g1, g2⟩ := r1.get hz.1
       obtain ⟨v2, g3, g4⟩ := r2.get hz.2
       refine ⟨⟨us, ts, v1, v2, t1, t2, g1, g3⟩, fun v H'' y => ?_⟩
       obtain ⟨T, x', y', rfl, k1, rfl, k2, k3⟩ := y
       have z1 := k2 us t1
       have z2 := k3 ts t2
       rw [g1] at z1
       rw [g3] at z2
       cases z1
       cases z2
       exact vT rel' (RepL.cons g2 (RepL.cons g4 (by simp [RepL]))) k1
     ·simp only [ao, List.length_zip] at hj; omega
     ·simp only [ao, List.length_zip] at hj; omega
    ·exact p1.elim
   ·exact p1.elim
  ·exact p1.elim
def WG : D → Value → Bool
 | .non, .none => true
 | .bl b, .bool c => b == c
 | .int i, .int j _ => decide (i = j)
 | .str x, .str y _ => decide (x = y)
 | _, _ => false
def B5 : D → V
 | .bl b => .bl b
 | .int i => .int i
 | .str x => .str x
 | _ => .non
theorem RE {d : D} {u : Value} (h : WG d u = true) : RelV (B5 d) u ∧ ∀ K I F, aF K I F d (B5 d) := by
 cases d <;> cases u <;> simp only [WG, bp, beq_iff_eq, ak] at h
 ·exact ⟨rfl, fun _ _ _ => by simp [aF, B5]⟩
 ·subst h; exact ⟨rfl, fun _ _ _ => by simp [aF, B5]⟩
 ·subst h; exact ⟨⟨_, rfl⟩, fun _ _ _ => by simp [aF, B5]⟩
 ·subst h; exact ⟨⟨_, rfl⟩, fun _ _ _ => by simp [aF, B5]⟩
def AS : List D → List Value → Bool
 | [], [] => true
 | d :: ds, u :: us => WG d u && AS ds us
 | _, _ => false
theorem JJ : ∀ {ds : List D} {us : List Value}, AS ds us = true → Vals (ds.map B5) us ∧ ∀ K I F, RepL K I F ds (ds.map B5)
 | [], [], _ => ⟨.nil, fun _ _ _ => by simp [RepL]⟩
 | d :: ds, u :: us, h => by
  simp only [AS, aj] at h
  obtain ⟨h1, h2⟩ := RE h.1
  obtain ⟨h3, h4⟩ := JJ h.2
  exact ⟨.cons h1 h3, fun K I F => RepL.cons (h2 K I F) (h4 K I F)⟩
 | [], _ :: _, h => by simp [AS] at h
 | _ :: _, [], h => by simp [AS] at h
def LK (K : PySem.W.Frag) (d : D) (u : Value) : Bool := match d, u with
 | .jA ds, .ref a => (match K.lookup a with
  | some ⟨.type c, _, .seq its _, _⟩ => decide (c = "tuple") && (decide (its.size ≤ sizeLine) && AS ds its.toList)
  | _ => false)
 | .con a, .ref b => decide (a = b)
 | d, u => WG d u
theorem IY {K : PySem.W.Frag} {d : D} {u : Value} (h : LK K d u = true) : ∃ v, RelV v u ∧ ∀ I F, aF K I F d v := by
 unfold LK at h
 split at h
 ·rename_i ds a
  split at h
  ·rename_i c od its n sl hl
   simp only [aj, ak] at h
   obtain ⟨rfl, h2, h3⟩ := h
   obtain ⟨h4, h5⟩ := JJ h3
   refine ⟨.ref a, rfl, fun I F => ?_⟩
   simp only [aF]
   exact ⟨a, _, rfl, .inr ⟨_, its, n, hl, rfl, rfl, h2, h4⟩, h5 K I F⟩
  ·cases h
 ·rename_i a b
  simp only [ak] at h
  subst h
  exact ⟨.ref a, rfl, fun I F => by simp [aF]⟩
 ·obtain ⟨h1, h2⟩ := RE h
  exact ⟨_, h1, h2 K⟩
def SR (S : aQ) (x : Str) (d : D) : Prop := ∃ v u, S.mg x = some u ∧ RelV v u ∧ ∀ I F, aF S.K I F d v
theorem iK {S : aQ} {x : Str} {d : D} {pos : Pos} (G : SR S x d) (hg : S.sc.names.lookup x = some .globalImplicit := by rfl) (hd : (x == ("__debug__" : Str)) = false := by decide) : JE S (.Name x pos) (eC d) := by
 obtain ⟨v, u, h1, h2, h3⟩ := G
 exact aCM hg h1 h2 h3 hd
def EH (K : PySem.W.Frag) (x : Str) (d : D) : Bool := match PySem.W.nsIn K mainGlobals x with
 | some (some u) => LK K d u
 | _ => false
theorem m3 {S : aQ} {h : Heap} {x : Str} {d : D} (kin : S.K.In h) (ns : h.Ns mainGlobals S.mg) (c : EH S.K x d = true) : SR S x d := by
 unfold EH at c
 split at c
 ·rename_i u hu
  obtain ⟨v, h1, h2⟩ := IY c
  exact ⟨v, u, PySem.W.mg_of kin ns hu, h1, h2⟩
 ·cases c
def V1 (K : PySem.W.Frag) (a : Addr) (tab : List (Str × Option D)) : Bool := tab.all fun p => match p.2 with
 | some d => (match PySem.W.nsIn K a p.1 with
  | some (some u) => LK K d u
  | _ => false)
 | none => He.eqO (PySem.W.nsIn K a p.1) (some none)
theorem lookup_mem {α : Type} {k : Str} {x : α} : ∀ {l : List (Str × α)}, l.lookup k = some x → (k, x) ∈ l
 | [], h => by simp at h
 | (j, y) :: r, h => by
  simp only [List.lookup] at h
  split at h
  ·rename_i e
   cases h
   rw [beq_iff_eq] at e
   subst e
   exact bc ..
  ·exact bh _ (lookup_mem h)
theorem OR {K : PySem.W.Frag} {w : World} {a : Addr} {tab : List (Str × Option D)} (ex : ∃ es n, KDict K w a es n) (c : V1 K a tab = true) : KTab K w a tab := by
 unfold V1 at c
 rw [bj] at c
 refine ⟨ex, fun z x h => ?_, fun z h => ?_⟩
 ·have := c _ (lookup_mem h)
  dsimp only at this
  split at this
  ·rename_i u hu
   obtain ⟨v, h1, h2⟩ := IY this
   exact ⟨u, v, hu, h1, h2⟩
  ·cases this
 ·exact He.eqO_ok (c _ (lookup_mem h))
def kJ {α : Type} (is : List (Nat × Nat)) (us ws mv : List α) : List α := is.filterMap fun p => match p.1 with
 | 0 => us[p.2]?
 | 1 => ws[p.2]?
 | _ => mv[p.2]?
theorem TH (is : List (Nat × Nat)) {vs zs ms : List V} {us ws mv : List Value} (h1 : Vals vs us) (h2 : Vals zs ws) (h3 : Vals ms mv) : Vals (kJ is vs zs ms) (kJ is us ws mv) := by
 induction is with
 | nil => exact .nil
 | cons p is ih =>
  obtain ⟨b, i⟩ := p
  unfold kJ at ih ⊢
  match b with
  | 0 =>
   rcases Vals.YV h1 i with ⟨e1, e2⟩ | ⟨v, u, e1, e2, r⟩
   ·simpa [List.filterMap_cons, e1, e2] using ih
   ·simpa [List.filterMap_cons, e1, e2] using (show Vals (v :: _) (u :: _) from .cons r ih)
  | 1 =>
   rcases Vals.YV h2 i with ⟨e1, e2⟩ | ⟨v, u, e1, e2, r⟩
   ·simpa [List.filterMap_cons, e1, e2] using ih
   ·simpa [List.filterMap_cons, e1, e2] using (show Vals (v :: _) (u :: _) from .cons r ih)
  | n + 2 =>
   rcases Vals.YV h3 i with ⟨e1, e2⟩ | ⟨v, u, e1, e2, r⟩
   ·simpa [List.filterMap_cons, e1, e2] using ih
   ·simpa [List.filterMap_cons, e1, e2] using (show Vals (v :: _) (u :: _) from .cons r ih)
theorem WT (is : List (Nat × Nat)) {K : PySem.W.Frag} {I : List Addr} {F : Hp} {xs zs ms : List D} {vs us mv : List V} (h1 : RepL K I F xs vs) (h2 : RepL K I F zs us) (h3 : RepL K I F ms mv) : RepL K I F (kJ is xs zs ms) (kJ is vs us mv) := by
 induction is with
 | nil => simp [kJ, RepL]
 | cons p is ih =>
  obtain ⟨b, i⟩ := p
  unfold kJ at ih ⊢
  match b with
  | 0 =>
   rcases RepL.YV h1 i with ⟨e1, e2⟩ | ⟨v, u, e1, e2, r⟩
   ·simpa [List.filterMap_cons, e1, e2] using ih
   ·simpa [List.filterMap_cons, e1, e2] using RepL.cons r ih
  | 1 =>
   rcases RepL.YV h2 i with ⟨e1, e2⟩ | ⟨v, u, e1, e2, r⟩
   ·simpa [List.filterMap_cons, e1, e2] using ih
   ·simpa [List.filterMap_cons, e1, e2] using RepL.cons r ih
  | n + 2 =>
   rcases RepL.YV h3 i with ⟨e1, e2⟩ | ⟨v, u, e1, e2, r⟩
   ·simpa [List.filterMap_cons, e1, e2] using ih
   ·simpa [List.filterMap_cons, e1, e2] using RepL.cons r ih
theorem P9 {K : PySem.W.Frag} {x qual : Str} {params : Arguments} {body : List Stmt} {scope : Scope} {kws : List (Str × V)} {f : Addr} {fd : FuncData} {ps : List Str} (F : FunD K x qual params body scope [] kws f fd) (n : Nat) (ks : List Str) (ms : List (Str × V)) (mds : List D) (is : List (Nat × Nat))
  (hk : kws ≠ []) (hms : ∀ q ∈ ms, q ∈ kws) (hmd : ∀ I F', RepL K I F' mds (ms.map (·.2)))
  (h : ∀ (D : Addr) (doc pm : Value) (an : Option Addr) (cdv ct : Value) (us mv ws : List Value), us.length = n → mv.length = ms.length → ws.length = ks.length →
   KwChain D ((ms.map (·.1)).zip mv) (bindArgs (PySem.W.fnOf x qual params body scope .none (.ref D) doc pm an cdv ct) ⟨us, ks.zip ws⟩) (ps.zip (kJ is us ws mv)))
  (hlen : ∀ xs zs : List D, xs.length = n → zs.length = ks.length → (kJ is xs zs mds).length = ps.length) : b5 K fd ps n ks fun xs zs => kJ is xs zs mds := by
 obtain ⟨mv, kb⟩ := F.kbinds0 n ks ms (fun us mv ws => kJ is us ws mv) hk hms (fun h1 h2 h3 => TH is h1 h3 h2) h
 exact ⟨⟨_, _, kb, fun I F' xs vs zs us h1 h2 => WT is h1 h2 (hmd I F')⟩, hlen⟩
def kwAt (f : Str × Option Str) (x : Str) (K : PySem.W.Frag) : Addr := match K.lookup (He.fAd K f) with
 | some ⟨_, _, .func fd, _⟩ => (match fd.kwdefaults with
  | .ref d => (match PySem.W.nsIn K d x with
   | some (some (.ref a)) => a
   | _ => 0)
  | _ => 0)
 | _ => 0
section
variable {S : aQ} {k n j : Nat} {f C : Addr} {fd : FuncData} {ps ks : List Str} {m : MF} {gd : List D → List D → List D} {x : Str} {p pos kpos : Pos} {e : Expr} {es : List Expr} {kws : List Keyword} {ma mk : MA}
theorem jmk (hk : k + 1 ≤ S.k) (M : Mk S.K C f) (Gf : eY S.P S.w S.K S.mg S.base k f fd ps m) (B : b5 S.K fd ps (n + 1) ks gd) (hg : S.sc.names.lookup x = some .globalImplicit) (hm : S.mg x = some (.ref C)) (ha : JA S (e :: es) ma) (hkw : JK S kws mk) (hj : ks.length = j := by rfl)
  (hall : ∀ env : Env, (backToKw pos (keywordEach kws env)).all (·.1.isSome) = true := by intro _; rfl) (hks : ∀ env : Env, (backToKw pos (keywordEach kws env)).filterMap (·.1) = ks := by intro _; rfl)
  (hdb : (x == ("__debug__" : Str)) = false := by decide) (he : ∀ env : Env, starEach (e :: es) env = (false, eval e env) :: starEach es env := by intro _; rfl)
  (hpl : ∀ env : Env, ((backTo pos (starEach (e :: es) env)).any (·.1) || (backToKw pos (keywordEach kws env)).any (·.1.isNone)) = false := by intro _; rfl) :
  JE S (.Call (.Name x p) (e :: es) kws pos) (xO C m n j gd ma mk) := by subst hj; exact aAE hk M Gf B hg hm ha hkw hall hks hdb he hpl
end
theorem yU {S : aQ} {pos : Pos} {a b c : Expr} {ma mb mc : ME} {f g : D → D → W → Res D} {op op' : CmpOp} (ho : O2 S (compareOp op) f) (ho' : O2 S (compareOp op') g) (ha : JE S a ma) (hb : JE S b mb) (hc : JE S c mc) (hm : lastMarks [op, op'] [b, c] = false := by with_unfolding_all rfl) :
  JT S (.Compare a [op, op'] [b, c] pos) (a8 (WA f g ma mb mc)) := fun X E cx xo => DV (pt_chain (ho X E cx xo) (ho' X E cx xo) (ha X E cx xo) (hb X E cx xo) (hc X E cx xo) hm) fun σ H Q ⟨I, F, G, ds, w, rel, rs, p⟩ => by
  show tChain _ _ _ _ _ σ H fun x H' => ∃ k, x = .bl k ∧ Q k H'
  refine aAc ⟨I, F, G, ds, w, rel, rs, (a7.bind p).mono fun I1 F1 H1 x w1 _ e1 rel1 p1 v rv => ?_⟩
  cases x <;> first | exact p1.elim | skip
  simp only [aF] at rv
  exact ⟨_, rv, p1 I1 F1 H1 .refl rel1⟩
theorem aEJ {x y : Str} {a b : Expr} {px py pt pt2 : Pos} {kt k2 : Nat} {env : Env} (hk : env.scope.kind = .function) (hx : env.scope.names.lookup x = some .local) (hy : env.scope.names.lookup y = some .local) (hl : (py.line == px.line) = true) (hxy : x ≠ y)
  (h1 : ∀ v p, a ≠ .Starred v p) (h2 : ∀ v p, b ≠ .Starred v p) (hf : ([a, b].all (foldedForSure 8)) = false) (hc : ([a, b].all (constantsAlone 8)) = false) : swappedStores [.Tuple [.Name x px, .Name y py] kt pt] (.Tuple [a, b] k2 pt2) env = pure (some [x, y]) := by
 have kx : env.kindOf x = some .local := hx
 have ky : env.kindOf y = some .local := hy
 have hb : env.blockKind = .function := by unfold Env.blockKind; rw [hk]; rfl
 have st : ∀ f : Expr → Bool, (∀ e, f e = true → ∃ v p, e = .Starred v p) → ([a, b].any f) = false := fun f h => by
  rw [List.any_eq_false]
  intro e he z
  obtain ⟨v, p, rfl⟩ := h e z
  simp only [bg, bu, or_false] at he
  rcases he with rfl | rfl
  ·exact h1 _ _ rfl
  ·exact h2 _ _ rfl
 unfold swappedStores
 have lx : (px.line == px.line) = true := beq_self_eq_true _
 have nxy : (y == x) = false := beq_eq_false_iff_ne.mpr (Ne.symm hxy)
 have dup : ([x, y].eraseDups).length = 2 := by
  rw [List.eraseDups_cons, List.filter_cons, nxy]
  rfl
 simp only [hb, List.length_cons, List.length_nil, Nat.zero_add, Nat.reduceAdd, beq_self_eq_true, Bool.true_or, Bool.not_true, bne_self_eq_false, Bool.false_or, bp, ab, List.filterMap_cons, kx, ky, List.head?_cons, Option.map_some, Option.getD_some, Expr.pos, lx, hl, Bool.and_self, ae, List.filterMap_nil, hf, hc, dup]
 split
 ·rename_i z
  rw [st] at z
  ·cases z
  ·intro e he
   split at he
   ·exact ⟨_, _, rfl⟩
   ·cases he
 ·rfl
def LJ (i j : Nat) (ma : MA) : MS := fun σ w => (ma σ w).bind fun xs w1 => match xs with
 | [u, v] => .ok (.nx ((σ.set i (some u)).set j (some v))) w1
 | _ => .bad
theorem aD6 {S : aQ} (i j : Nat) {x y : Str} {a b : Expr} {ma : MA} {px py pt pt2 pos : Pos} {kt k2 : Nat} (ha : JA S [a, b] ma) (hi : S.N[i]? = some x := by rfl) (hj : S.N[j]? = some y := by rfl) (hij : i ≠ j := by decide) (hx : S.sc.names.lookup x = some .local := by rfl) (hy : S.sc.names.lookup y = some .local := by rfl)
  (hk : S.sc.kind = .function := by rfl) (hl : (py.line == px.line) = true := by rfl) (hxy : x ≠ y := by decide) (h1 : ∀ v p, a ≠ .Starred v p := by intro _ _ h; cases h) (h2 : ∀ v p, b ≠ .Starred v p := by intro _ _ h; cases h) (hf : ([a, b].all (foldedForSure 8)) = false := by rfl) (hc : ([a, b].all (constantsAlone 8)) = false := by rfl)
  (hs : ∀ env : Env, swapsWithSole [.Tuple [.Name x px, .Name y py] kt pt] (.Tuple [a, b] k2 pt2) pos.line env = pure false := by intro _; rfl) : JS S (.Assign [.Tuple [.Name x px, .Name y py] kt pt] (.Tuple [a, b] k2 pt2) pos) (LJ i j ma) := fun X E cx xo =>
 jQ (ps_par (i := i) (j := j) cx.calm cx.nd (by rw [cx.N]; exact hi) (by rw [cx.N]; exact hj) hij (by rw [cx.sc]; exact hx) (by rw [cx.sc]; exact hy) (ha X E cx xo) (aEJ (by rw [cx.sc]; exact hk) (by rw [cx.sc]; exact hx) (by rw [cx.sc]; exact hy) hl hxy h1 h2 hf hc) (hs X.env)) fun Z σ H ⟨I, F, G, ds, w, rel, rs, p⟩ =>
  cX (f := fun ds xs w1 => match xs with
   | [u, v] => Res.ok (Fl.nx ((ds.set i (some u)).set j (some v))) w1
   | _ => .bad) rel rs p fun I1 F1 H1 xs w1 vs e1 rel1 rs1 rv p1 => by
   split at p1
   ·obtain ⟨v, u, rfl, r1, r2⟩ := rv.two
    exact ⟨v, u, rfl, p1 I1 F1 H1 .refl rel1 _ ((rs1.set i r1).set j r2)⟩
   ·exact p1.elim
section
variable {S : aQ} {elt tg iter : Expr} {ifs : List Expr} {scope : Scope} {pos py spos : Pos} {y : Str} {mi : MI} {g : MG} {t : MT} {me : ME} {own : List (Str × Nat)}
theorem jsc (i : Nat) (hi : JI S tg iter mi) (hb : blkC S.N S.sc scope own = true) (hg : JC (S.blk scope) (own.map (·.2)) tg g) (ht : JTs (S.blk scope) ifs t) (he : JE (S.blk scope) elt me)
  (hy : S.N[i]? = some y := by rfl) (hyl : S.sc.names.lookup y = some .local := by rfl) (hl : (py.line == pos.line) = true := by rfl) (ha : (scope.names.any fun (n, k) => n == y && (k == .local || k == .cell)) = false := by rfl)
  (hk : S.sc.kind = .function := by rfl) (hs : ∀ (env : Env) x, foldedSetIterable iter env x = pure x := by intro _ _; rfl) : JS S (.Assign [.Name y py] (.ListComp elt [⟨tg, iter, ifs, 0⟩] scope pos) spos) (aT (bQ mi (own.map (·.2)) g t me) (aU i)) :=
 SJ hy hyl (fun env e k => sw_true k (by rw [e]; exact hyl) hl ha) hi hb hg ht he hk hs
end
def OB (C : Addr) (m : MF) : MF := fun ds w => match ds with
 | [.ref i] => (match w[i]? with
  | some (.ins C' _) => if C' = C then (m [.ref i] w).bind fun d w1 => (match d with
    | .int n => if 0 ≤ n ∧ n < 2 ^ 62 then .ok (.int n) w1 else .bad
    | _ => .bad) else .bad
  | _ => c7 [.ref i] w)
 | _ => c7 ds w
open AutoSeq1 (wpAny_loadPart')
open RZ (nextOf_tuple_item nextOf_tuple_end)
def G1 (ds : List D) (w : W) : Res kL := match ds with
 | [x] => (match wG x with
  | some xs => .ok ⟨(List.range xs.length).zipWith (fun i x => D.tup [.int (i : Nat), x]) xs, always⟩ w
  | none => .bad)
 | _ => .bad
def C8 (d : D) (w : W) : Option (List D) := match d with
 | .lst xs => some xs
 | .ref i => (match w[i]? with
  | some (.lst xs) => some xs
  | _ => none)
 | _ => none
theorem AN {K : PySem.W.Frag} {I : List Addr} {F G H : Hp} {w : W} (rel : Rel K I F G w H) {d : D} {v : V} {xs : List D} (h : aF K I F d v) (e : C8 d w = some xs) : ∃ a vs, v = .ref a ∧ H a = some (.lst vs) ∧ RepL K I F xs vs := by
 cases d <;> simp only [C8, ah, reduceCtorEq] at e <;> simp only [aF] at h
 case lst =>
  subst e
  obtain ⟨a, vs, h0, h1, h2⟩ := h
  exact ⟨a, vs, h0, rel.fz _ _ h1, h2⟩
 case ref i =>
  obtain ⟨a, h0, h1⟩ := h
  split at e
  ·rename_i ys hw
   cases e
   obtain ⟨u, h2, vs, rfl, h3⟩ := rel.ob i a _ h1 hw
   exact ⟨a, vs, h0, h2, h3⟩
  ·cases e
def R9 (x y : D) (w : W) : Res D := match C8 x w, C8 y w with
 | some a, some b => if a.length + b.length ≤ sizeLine then .ok (.lst (a ++ b)) w else .bad
 | _, _ => .bad
theorem aCc {S : aQ} : O2 S (binaryOp .Add) R9 := gC fun X E c xo I F G d e w H x y Q rel rd re p => by
 unfold R9 at p
 split at p
 ·rename_i a b ha hb
  obtain ⟨q, vs, rfl, h1, h2⟩ := AN rel rd ha
  obtain ⟨q', vs', rfl, h1', h2'⟩ := AN rel re hb
  split at p
  ·rename_i hl
   exact ⟨_, op_cat, q, q', vs, vs', rfl, rfl, h1, h1', by rw [← h2.length, ← h2'.length]; exact hl, jX rel (h2.append h2') p⟩
  ·exact p.elim
 ·exact p.elim
theorem Rel.less {K : PySem.W.Frag} {I : List Addr} {F G H : Hp} {w : W} {q : Addr} {u : HO} (rel : Rel K I F (L2.upd G q u) w H) (hG : G q = none) : Rel K I F G w H :=
 ⟨rel.len, rel.nd, rel.ob, rel.fz, rel.ap, fun a v h => rel.gz a v (by rw [upd_ne (ne_of_none h hG)]; exact h), fun a v h => rel.gf a v (by rw [upd_ne (ne_of_none h hG)]; exact h), fun a xs h => rel.gt a xs (by rw [upd_ne (ne_of_none h hG)]; exact h)⟩
theorem Rel.aFH {K : PySem.W.Frag} {I : List Addr} {F G H : Hp} {w : W} (rel : Rel K I F G w H) {q : Addr} {u : HO} (hq : H q = none) : Rel K I F G w (L2.upd H q u) := EX rel hq u
theorem aFy {f : Expr → Option Str} {t1 t2 : Expr} (h : f t1 = none ∨ f t2 = none) : (([t1, t2].filterMap f).length != 2) = true := by
 have : ([t1, t2].filterMap f).length ≤ 1 := by
  rcases h with h | h <;> rw [List.filterMap_cons, List.filterMap_cons, h]
  ·exact cq (List.length_filterMap_le f []|> fun _ => by cases f t2 <;> simp) (az 1)
  ·cases f t1 <;> simp
 simp; omega
theorem aB0 {x y : Str} {a b : Expr} {px py pt pt2 : Pos} {kt k2 : Nat} {env : Env} (h : env.scope.names.lookup x ≠ some .local ∨ env.scope.names.lookup y ≠ some .local) :
  swappedStores [.Tuple [.Name x px, .Name y py] kt pt] (.Tuple [a, b] k2 pt2) env = pure none := by
 unfold swappedStores
 simp only [List.length_cons, List.length_nil, Nat.zero_add, Nat.reduceAdd, beq_self_eq_true, Bool.true_or, Bool.not_true, bne_self_eq_false, Bool.false_or]
 cases hb : (env.blockKind != .function) with
 | true => rfl
 | false =>
  simp only [bp, ab]
  split
  ·rfl
  ·split
   ·rfl
   ·rename_i h2
    exfalso
    apply h2
    rw [Bool.or_eq_true]
    refine .inl (aFy ?_)
    rcases h with h | h
    ·refine .inl ?_
     have : (env.kindOf x == some .local) = false := beq_eq_false_iff_ne.mpr h
     simp [this]
    ·refine .inr ?_
     have : (env.kindOf y == some .local) = false := beq_eq_false_iff_ne.mpr h
     simp [this]
theorem aCA {S : aQ} {x y : Str} {a b : Expr} {px py pt pt2 pos : Pos} {kt k2 : Nat} {m : ME} {g : MG} (he : JE S (.Tuple [a, b] k2 pt2) m) (hg : JG S (.Tuple [.Name x px, .Name y py] kt pt) g)
  (h : S.sc.names.lookup x ≠ some .local ∨ S.sc.names.lookup y ≠ some .local) (hs : ∀ env : Env, swapsWithSole [.Tuple [.Name x px, .Name y py] kt pt] (.Tuple [a, b] k2 pt2) pos.line env = pure false := by intro _; rfl)
  (h1 : ∀ env : Env, (assignEach [.Tuple [.Name x px, .Name y py] kt pt] env).map (·.2) = [assign (.Tuple [.Name x px, .Name y py] kt pt) env] := by intro _; rfl) : JS S (.Assign [.Tuple [.Name x px, .Name y py] kt pt] (.Tuple [a, b] k2 pt2) pos) (aT m g) := fun X E cx xo =>
 jQ (ps_asg (he X E cx xo) (hg X E cx xo) (hs X.env) (aB0 (by rw [cx.sc]; exact h)) (h1 X.env)) fun Z σ H h => V7 h
theorem ZA {S : aQ} {x y : Str} {a b : Expr} {px py pt pt2 pos : Pos} {kt k2 : Nat} {m : ME} {g : MG} (he : JE S (.Tuple [a, b] k2 pt2) m) (hg : JG S (.Tuple [.Name x px, .Name y py] kt pt) g)
  (h : S.sc.names.lookup x = some .cell := by rfl) (hs : ∀ env : Env, swapsWithSole [.Tuple [.Name x px, .Name y py] kt pt] (.Tuple [a, b] k2 pt2) pos.line env = pure false := by intro _; rfl)
  (h1 : ∀ env : Env, (assignEach [.Tuple [.Name x px, .Name y py] kt pt] env).map (·.2) = [assign (.Tuple [.Name x px, .Name y py] kt pt) env] := by intro _; rfl) : JS S (.Assign [.Tuple [.Name x px, .Name y py] kt pt] (.Tuple [a, b] k2 pt2) pos) (aT m g) :=
 aCA he hg (.inl (by rw [h]; decide)) hs h1
def noM : MF := fun _ _ => .bad
theorem eY.bad {P : Program} {w : World} {K : PySem.W.Frag} {mg : Str → Option Value} {base : Heap} {k : Nat} {f : Addr} {fd : FuncData} {ps : List Str} : eY P w K mg base k f fd ps noM :=
 ⟨fun A outer s H args us vs Q E hr hg e0 hb r hl ⟨_, _, _, _, _, _, _, p⟩ => p.elim⟩
end Pc
namespace L2
open PySem PySem.Spec PyProof.Rows
section
variable {X : Cx} {pos : Pos}
theorem aA4 {e : Expr} {p : Pos} {t : TG} (h1 : PG X e t) : PGs X [.Starred e p] (gCons t gNil) := by
 refine ⟨fun pins s σ H vs us Q I r h => ?_⟩
 obtain ⟨v, vr, e1, h⟩ := h
 subst e1
 cases r with
 | cons r rr =>
  have e : (assignEach [.Starred e p] X.env).map (·.2) = [assign e X.env] := rfl
  rw [e]
  refine assignInOrder_cons (thn (h1.run pins s σ H _ _ _ I r h) fun _ s1 ⟨σ1, H1, I1, q1⟩ => ?_)
  exact pgs_nil.run pins s1 σ1 H1 _ _ Q I1 rr q1
end
end L2
namespace Pc
open PySem PySem.Spec PyProof.Rows L2
def U4 (n : Nat) (r : NQ) : MG := fun d σ w => match wG d with
 | some xs => if n ≤ xs.length ∧ xs.length ≤ sizeLine then r (xs.take n ++ [.lst (xs.drop n)]) σ w else .bad
 | none => .bad
section
variable {S : aQ} {pos pos' : Pos} {e : Expr} {es : List Expr} {g : MG} {r : NQ}
theorem ZN (h1 : JG S e g) : JGs S [.Starred e pos] (aJ g bU) := fun X E cx xo =>
 tI (aA4 (h1 X E cx xo)) fun vs σ H Q ⟨I, F, G, xs, ds, w, rel, rs, rv, p⟩ => by
  cases xs with
  | nil => exact p.elim
  | cons d ds' =>
   simp only [RepL] at rv
   obtain ⟨v, u, rfl, h2, h3⟩ := rv
   simp only [aJ] at p
   refine ⟨v, u, rfl, I, F, G, d, ds, w, rel, rs, h2, a7.mono (a7.bind p) fun I1 F1 H1 s1 w1 _ e1 rel1 q => ?_⟩
   intro s' rs'
   cases ds' with
   | cons _ _ => exact q.elim
   | nil =>
    simp only [RepL] at h3
    subst h3
    exact ⟨rfl, q I1 F1 H1 .refl rel1 s' rs'⟩
end
def anyM : MF := fun ds w => match ds with
 | [d] => (match (wG d).bind jY with
  | some ns => .ok (.bl (ns.any fun n => n != 0)) w
  | none => match (xD d w).bind tA with
   | some bs => .ok (.bl (bs.any id)) w
   | none => .bad)
 | _ => .bad
def nD (xs : List D) : List D := (List.range xs.length).zipWith (fun i x => D.tup [.int (i : Nat), x]) xs
theorem xY (xs : List D) : (nD xs).length = xs.length := by simp [nD]
theorem GO {xs : List D} {j : Nat} {x : D} (h : (nD xs)[j]? = some x) : ∃ d, xs[j]? = some d ∧ x = .tup [.int (j : Nat), d] := by
 have hl : j < (nD xs).length := (ag.mp h).1
 rw [xY] at hl
 refine ⟨xs[j], br hl, ?_⟩
 simp only [nD, List.getElem?_zipWith, List.getElem?_range hl, br hl] at h
 cases h
 rfl
def qL (ds : List D) (w : W) : Res kL := match ds with
 | [.lst xs] => .ok ⟨nD xs, always⟩ w
 | [.ref i] => (match w[i]? with
  | some (.lst xs) => .ok ⟨nD xs, holds i (.lst xs)⟩ w
  | _ => .bad)
 | _ => .bad
theorem aAG {K : PySem.W.Frag} {I : List Addr} {F : Hp} {a : Addr} {it : kL} {xs : List D} (hx : it.xs = nD xs) (h : ∀ I' F' G w H, Ext I F I' F' → Rel K I' F' G w H → it.ok w → ∃ vs, SqL K H a vs ∧ RepL K I' F' xs vs) : xK K I F (Ite K a) it := fun I' F' G w H j e rel ok => by
 obtain ⟨vs, hq, r⟩ := h I' F' G w H e rel ok
 refine ⟨fun x hx' => ?_, fun hl => ⟨vs, hq, by rw [hx, xY] at hl; rw [← r.length, hl]; exact az _⟩⟩
 rw [hx] at hx'
 obtain ⟨d, hd, rfl⟩ := GO hx'
 obtain ⟨v, hv, rv⟩ := r.get hd
 refine ⟨⟨vs, v, hq, hv⟩, fun u H' y => ?_⟩
 obtain ⟨T, x', rfl, k1, rfl, k2⟩ := y
 have := k2 vs hq
 rw [hv] at this; cases this
 exact vT rel (RepL.cons (by simp [aF]) (RepL.cons rv (by simp [RepL]))) k1
theorem aBt {S : aQ} {e : Expr} {ma : MA} {p pos tpos : Pos} {elts : List Expr} {kk : Nat} (hg : S.sc.names.lookup ("enumerate" : Str) = some .globalImplicit) (hm : S.mg "enumerate" = none) (ha : JA S [e] ma)
  (hs : ∀ env : Env, starEach [e] env = [(false, eval e env)] := by intro _; rfl) : JI S (.Tuple elts kk tpos) (.Call (.Name "enumerate" p) [e] [] pos) (eT qL ma) := fun X E cx xo =>
 pL (pi_enum (by show X.env.scope.names.lookup _ = _; rw [cx.sc]; exact hg) (by rw [cx.mg]; exact hm) (ha X E cx xo) (hs X.env)) fun σ H R ⟨I, F, G, ds, w, rel, rs, p⟩ => cX (f := fun _ => qL) rel rs p fun I1 F1 H1 xs w1 vs e1 rel1 rs1 rv p1 => by
  unfold qL at p1
  split at p1
  ·rename_i xs
   obtain ⟨v, rfl, rx⟩ := rv.one
   simp only [aF] at rx
   obtain ⟨a, us, rfl, h1, h2⟩ := rx
   exact ⟨a, us, rfl, .of (rel1.fz _ _ h1), p1 I1 F1 H1 .refl rel1 trivial _ (aAG rfl fun I' F' G w H e rel ok => ⟨us, .of (rel.fz _ _ (e.f _ _ h1)), RepL.ext e _ _ h2⟩)⟩
  ·rename_i i
   obtain ⟨v, rfl, rx⟩ := rv.one
   simp only [aF] at rx
   obtain ⟨a, rfl, ha⟩ := rx
   split at p1
   ·rename_i xs hw
    obtain ⟨u, g1, g2⟩ := rel1.ob i a _ ha hw
    obtain ⟨us, rfl, g3⟩ := g2
    refine ⟨a, us, rfl, .of g1, p1 I1 F1 H1 .refl rel1 hw _ (aAG rfl fun I' F' G w H e rel ok => ?_)⟩
    obtain ⟨u', k1, k2⟩ := rel.ob i a _ (e.get ha) ok
    obtain ⟨us', rfl, k3⟩ := k2
    exact ⟨us', .of k1, k3⟩
   ·exact p1.elim
  ·exact p1.elim
end Pc
namespace L2
open PySem PySem.Spec PyProof.Rows
def smallKey : List Key → Bool
 | [.inl a, .inl s, .inl r] => (decide (0 ≤ a) && decide (a < 4)) && ((decide (0 ≤ s) && decide (s < 6)) && (decide (0 ≤ r) && decide (r < 10)))
 | _ => false
end L2
namespace Pc
open PySem PySem.Spec PyProof.Rows L2
open Classical in
def dcL (it : kL) (vs : List Nat) (g : MG) (t : MT) (ek ev : ME) : List D → List (List Key × D) → Sg → W → Res (List (List Key × D))
 | [], acc, σ, w => if it.ok w then .ok acc w else .bad
 | x :: xs, acc, σ, w => if it.ok w then (g x (c0 σ vs) w).NK.bind fun σ1 w1 => (t σ1 w1).NK.bind fun b w2 =>
   if b = true then (ek σ1 w2).NK.bind fun k w3 => (ev σ1 w3).NK.bind fun v w4 => match k with
    | .tup ks => (match xC ks with
     | some kk => if acc.length < sizeLine then dcL it vs g t ek ev xs (putD acc kk v) σ w4 else .bad
     | none => .bad)
    | _ => .bad
   else dcL it vs g t ek ev xs acc σ w2
  else .bad
def aHg (m : MI) (vs : List Nat) (g : MG) (t : MT) (ek ev : ME) : ME := fun σ w => (m σ w).bind fun it w1 => (dcL it vs g t ek ev it.xs [] σ w1).bind fun kvs w2 => .ok (.ref w2.length) (w2 ++ [.dT kvs])
theorem aS.len {κ : Type} {K : PySem.W.Frag} {I : List Addr} {F : Hp} : ∀ {ds : List (κ × D)} {vs : List (κ × V)}, aS K I F ds vs → ds.length = vs.length
 | [], vs, h => by simp only [aS] at h; subst h; rfl
 | (k, d) :: ds, vs, h => by
  simp only [aS] at h
  obtain ⟨v, r, rfl, _, h3⟩ := h
  simp [aS.len h3]
def pairOf : D → Option (List Key × D)
 | .tup [.tup ks, v] => (xC ks).map fun k => (k, v)
 | _ => none
def pairsOf : List D → Option (List (List Key × D))
 | [] => some []
 | d :: ds => match pairOf d, pairsOf ds with
  | some p, some ps => some (p :: ps)
  | _, _ => none
def aFX : MF := fun ds w => match ds with
 | [.ref i] => (match w[i]? with
  | some (.dK kvs) => .ok (.ref w.length) (w ++ [.dK kvs])
  | some (.dT kvs) => if (kvs.all fun p => smallKey p.1) = true then .ok (.ref w.length) (w ++ [.dT kvs]) else .bad
  | _ => .bad)
 | [.lst ps] => (match pairsOf ps with
  | some kvs => .ok (.ref w.length) (w ++ [.dT (tW [] kvs)])
  | none => .bad)
 | _ => .bad
def aFx (tab : List (Str × Option D)) (ys : List D) (w : W) : Res D := match ys with
 | [.str z, y] => (match tab.lookup z with
  | some o => .ok (o.getD y) w
  | none => .bad)
 | _ => .bad
def aGu (d : Addr) (tab : List (Str × Option D)) (mo : ME) (ma : MA) : ME := fun σ w => (mo σ w).bind fun x w1 => match x with
 | .con a => if a = d then (ma σ w1).bind fun ys w2 => aFx tab ys w2 else .bad
 | _ => .bad
end Pc
namespace L2
open PySem PySem.Spec PyProof.Rows
open PySem.W (EachIs AllAlike Sortable dataLe)
def leI (a b : Int) : Bool := decide (a ≤ b)
end L2
namespace Pc
open PySem PySem.Spec PyProof.Rows L2
def aC2 : MF := fun ds w => match ds with
 | [.tup xs] => (match jY xs with
  | some ns => .ok (.lst ((ns.mergeSort leI).map D.int)) w
  | none => .bad)
 | ds => lC ds w
def aDC (n : Nat) (r : NQ) : MG := fun d σ w => match C8 d w with
 | some xs => if xs.length = n then r xs σ w else .bad
 | none => .bad
open RZ (nextOf_tuple_item nextOf_tuple_end)
abbrev ZX (h : Heap) (l1 : Addr) : Heap := h.push { cls := .type "tuple_iterator", data := .fields #[.ref l1, .int 0 0] }
abbrev aBx (h : Heap) (l1 l2 : Addr) : Heap := (ZX h l1).push { cls := .type "list_iterator", data := .fields #[.ref l2, .int 0 0] }
abbrev aA2 (h : Heap) (l1 l2 : Addr) : Heap := (aBx h l1 l2).push { cls := .type "tuple", data := .seq #[.ref h.objs.size, .ref (ZX h l1).objs.size] }
abbrev aAI (h : Heap) (l1 l2 : Addr) : Heap := (aA2 h l1 l2).push { cls := .type "tuple", data := .seq #[.none, .none] }
abbrev zmH (h : Heap) (l1 l2 : Addr) : Heap := (aAI h l1 l2).push { cls := .type "zip", data := .fields #[.none, .bool false, .bool true, .ref (aBx h l1 l2).objs.size, .ref (aA2 h l1 l2).objs.size] }
theorem aD2 (l1 l2 : Addr) (xs ys : Array Value) : Meets (Builtin.«zip.__new__» ⟨[.type "zip", .ref l1, .ref l2], [(Str.ofString "strict", .bool true)]⟩) (fun _ R s => s.heap.IsTuple l1 xs ∧ s.heap.IsList l2 ys ∧
   R (.ok (.ret (.ref (aAI s.heap l1 l2).objs.size))) { s with heap := zmH s.heap l1 l2 }) :=
 .of_wp fun prog w A R s ⟨t1, t2, fin⟩ => by
  obtain ⟨hp, gs, dr, tk, os⟩ := s
  have sub0 := sub_zip
  have T1 : Heap.IsTuple (Shared.heap ⟨hp, gs, dr, tk, os⟩) l1 xs := t1
  have T2 : Heap.IsList (Shared.heap ⟨hp.push { cls := .type "tuple_iterator", data := .fields #[.ref l1, .int 0 0] }, gs, dr, tk, os⟩) l2 ys := Heap.IsList.push t2 _
  have s1 : (Str.ofString "strict" == ("strict" : Str)) = true := by decide +kernel
  have s2 : (Str.ofString "strict" != ("strict" : Str)) = false := by decide +kernel
  wp_walk using wpAny_pyIter_tuple T1, wpAny_pyIter_list T2
  exact ⟨_, rfl, fin⟩
section
variable {prog : Program} {w : World} {A : Around} {E : Value → Shared → Prop} {s : Shared}
theorem aCf {l1 l2 : Addr} {xs ys : Array Value} {Q : Value → Shared → Prop} (t1 : s.heap.IsTuple l1 xs) (t2 : s.heap.IsList l2 ys)
  (fin : ∀ g, iI g (s.heap.objs.size + 4) (s.heap.objs.size + 2) (s.heap.objs.size + 3) .none → IsPair g (s.heap.objs.size + 2) (.ref s.heap.objs.size) (.ref (s.heap.objs.size + 1)) → IsPair g (s.heap.objs.size + 3) .none .none →
   g.IsTupleIter s.heap.objs.size l1 0 → g.IsListIter (s.heap.objs.size + 1) l2 0 → (∀ c o, s.heap.get? c = some o → g.get? c = some o) → Q (.ref (s.heap.objs.size + 4)) { s with heap := g }) :
  wpAny (model prog w) A (call (.type "zip") [.ref l1, .ref l2] [(Str.ofString "strict", .bool true)]) Q E s := by
 refine callType_newKw F.called_zip (by decide) (B9 _ _ _) (EW _ _ _) (fun x => V8 x _ _ _) F.entry_zip_new (aD2 l1 l2 xs ys) ⟨t1, t2, ?_⟩
 have n1 : (ZX s.heap l1).objs.size = s.heap.objs.size + 1 := Heap.size_push ..
 have n2 : (aBx s.heap l1 l2).objs.size = s.heap.objs.size + 2 := by rw [Heap.size_push, n1]
 have n3 : (aA2 s.heap l1 l2).objs.size = s.heap.objs.size + 3 := by rw [Heap.size_push, n2]
 have n4 : (aAI s.heap l1 l2).objs.size = s.heap.objs.size + 4 := by rw [Heap.size_push, n3]
 have up1 : ∀ {c o}, (aAI s.heap l1 l2).get? c = some o → (zmH s.heap l1 l2).get? c = some o := fun h => Heap.get?_push_of_some _ h
 have up2 : ∀ {c o}, (aA2 s.heap l1 l2).get? c = some o → (zmH s.heap l1 l2).get? c = some o := fun h => up1 (Heap.get?_push_of_some _ h)
 have up3 : ∀ {c o}, (aBx s.heap l1 l2).get? c = some o → (zmH s.heap l1 l2).get? c = some o := fun h => up2 (Heap.get?_push_of_some _ h)
 have up4 : ∀ {c o}, (ZX s.heap l1).get? c = some o → (zmH s.heap l1 l2).get? c = some o := fun h => up3 (Heap.get?_push_of_some _ h)
 have k5 : (zmH s.heap l1 l2).get? (aAI s.heap l1 l2).objs.size = some _ := Heap.get?_push_size _ rfl
 have k4 : (zmH s.heap l1 l2).get? (aA2 s.heap l1 l2).objs.size = some _ := up1 (Heap.get?_push_size _ rfl)
 have k3 : (zmH s.heap l1 l2).get? (aBx s.heap l1 l2).objs.size = some _ := up2 (Heap.get?_push_size _ rfl)
 have k2 : (zmH s.heap l1 l2).get? (ZX s.heap l1).objs.size = some _ := up3 (Heap.get?_push_size _ rfl)
 have k1 : (zmH s.heap l1 l2).get? s.heap.objs.size = some _ := up4 (Heap.get?_push_size _ rfl)
 show _ ∧ _
 rw [n2, n3, n4] at k5
 rw [n1, n2] at k3
 rw [n3] at k4
 rw [n1] at k2
 rw [n4]
 exact ⟨⟨_, k5, rfl⟩, fin _ k5 k3 k4 ⟨_, k1, rfl, rfl⟩ ⟨_, k2, rfl, rfl⟩ fun c o h => up4 (Heap.get?_push_of_some _ h)⟩
theorem aAC {it l : Addr} {i : Nat} {items : Array Value} {x : Value} {Q : Option Value → Shared → Prop} (a : s.heap.IsListIter it l i) (b : s.heap.IsList l items) (c : items[i]? = some x)
  (q : ∀ g, g.IsListIter it l (i + 1) → Heap.SameBut it s.heap g → Q (some x) { s with heap := g }) : wpAny (model prog w) A (Builtin.SmallTypes.nextOrEnd (.ref it)) Q E s := by
 unfold Builtin.SmallTypes.nextOrEnd
 exact wpAny_bind (wpAny_attempt (wpAny_nextOf_list_item a b c fun g g1 g2 => wpAny_pure (q g g1 g2)))
theorem aDi {it l : Addr} {i : Nat} {items : Array Value} {Q : Option Value → Shared → Prop} (hh : A.handled = none) (a : s.heap.IsListIter it l i) (b : s.heap.IsList l items) (c : items[i]? = none)
  (q : ∀ g, Heap.ExtBut it s.heap g → Q none { s with heap := g }) : wpAny (model prog w) A (Builtin.SmallTypes.nextOrEnd (.ref it)) Q E s := by
 unfold Builtin.SmallTypes.nextOrEnd
 refine wpAny_bind (wpAny_attempt (wpAny_nextOf_list_end hh a b c fun g e g1 ⟨o, g2, g3⟩ => ?_))
 refine wpAny_bind (wpAny_isInstance (T := "StopIteration") (b := true) ⟨o, g2, g3⟩ isSubtype_stop ?_)
 exact wpAny_pure (q g g1)
theorem aCr {z TI TO i1 i2 l1 l2 : Addr} {k : Nat} {xs ys : Array Value} {x y a b : Value} {Q : Value → Shared → Prop} (D : ZipApart z TI TO i1 i2 l1 l2)
  (hz : iI s.heap z TI TO .none) (hI : IsPair s.heap TI (.ref i1) (.ref i2)) (hO : IsPair s.heap TO a b) (a1 : s.heap.IsTupleIter i1 l1 k) (a2 : s.heap.IsListIter i2 l2 k) (b1 : s.heap.IsTuple l1 xs) (b2 : s.heap.IsList l2 ys) (c1 : xs[k]? = some x) (c2 : ys[k]? = some y)
  (fin : ∀ g, iI g z TI TO (rawInt s.heap.objs.size) → IsPair g TO x y → g.IsTupleIter i1 l1 (k + 1) → g.IsListIter i2 l2 (k + 1) → IsPair g s.heap.objs.size x y → (∀ c o, c ≠ z → c ≠ TO → c ≠ i1 → c ≠ i2 → s.heap.get? c = some o → g.get? c = some o) → Q (.ref s.heap.objs.size) { s with heap := g }) :
  wpAny (model prog w) A (Builtin.«zip.__next__» ⟨[.ref z], []⟩) (fun f t => ∃ v, f = .done (.ret v) ∧ Q v t) E s := by
 show wpAny _ _ (field (.ref z) 2 >>= _) _ _ _
 refine wpAny_bind (wpAny_field hz rfl (x := .bool true) rfl ?_)
 show wpAny _ _ (field (.ref z) 3 >>= _) _ _ _
 refine wpAny_bind (wpAny_field hz rfl (x := .ref TI) rfl ?_)
 refine wpAny_bind (wpAny_seqItems hI rfl ?_)
 show wpAny _ _ (Builtin.SmallTypes.ownedTupleIsFree (.ref z) >>= _) _ _ _
 refine wpAny_bind ?_
 unfold Builtin.SmallTypes.ownedTupleIsFree
 refine wpAny_bind (wpAny_field hz rfl (x := .none) rfl (wpAny_pure ?_))
 simp only [ae]
 refine wpAny_bind (wpAny_rule ?_)
 refine wpAny_bind (wpAny_field hz rfl (x := .ref TO) rfl ?_)
 refine wpAny_bind (wpAny_setField_rec hz (by simp) fun g1 z1 s1 => ?_)
 have z1' : iI g1 z TI TO .ellipsis := z1
 refine wpAny_bind ?_
 simp only [List.zipIdx_cons, List.zipIdx_nil, List.forIn_cons, List.forIn_nil]
 refine wpAny_bind (wpAny_bind (wpAny_onRaise ?_))
 show wpAny _ _ (Builtin.SmallTypes.nextOrEnd (.ref i1)) _ _ _
 refine EI (a1.extBut s1.extBut D.i1z) (b1.extBut s1.extBut D.l1z) c1 fun g2 d1 s2 => ?_
 have O2 : IsPair g2 TO a b := s2.extBut _ _ D.TOi1 (s1.extBut _ _ D.TOz hO)
 refine wpAny_bind (wpAny_seqItems O2 rfl ?_)
 refine wpAny_bind (rT O2 fun g3 O3 s3 => ?_)
 have O3' : IsPair g3 TO x b := O3
 refine wpAny_bind (wpAny_letGo (wpAny_pure ?_))
 refine wpAny_bind (wpAny_bind (wpAny_onRaise ?_))
 show wpAny _ _ (Builtin.SmallTypes.nextOrEnd (.ref i2)) _ _ _
 refine aAC (((a2.extBut s1.extBut D.i2z).extBut s2.extBut D.i12.symm).extBut s3.extBut D.TOi2.symm) (((b2.extBut s1.extBut D.l2z).extBut s2.extBut D.l2i1).extBut s3.extBut D.l2TO) c2 fun g4 d2 s4 => ?_
 have O4 : IsPair g4 TO x b := s4.extBut _ _ D.TOi2 O3'
 refine wpAny_bind (wpAny_seqItems O4 rfl ?_)
 refine wpAny_bind (rT O4 fun g5 O5 s5 => ?_)
 have O5' : IsPair g5 TO x y := O5
 refine wpAny_bind (wpAny_letGo (wpAny_pure (wpAny_pure ?_)))
 refine wpAny_bind (wpAny_seqItems O5' rfl ?_)
 refine wpAny_bind (wpAny_newTuple ?_)
 have size5 : g5.objs.size = s.heap.objs.size := by rw [s5.1, s4.1, s3.1, s2.1, s1.1]
 have z5 : iI g5 z TI TO .ellipsis := s5.extBut _ _ D.TOz.symm (s4.extBut _ _ D.i2z.symm (s3.extBut _ _ D.TOz.symm (s2.extBut _ _ D.i1z.symm z1')))
 have kp : ∀ c o, c ≠ z → c ≠ TO → c ≠ i1 → c ≠ i2 → s.heap.get? c = some o → g5.get? c = some o := fun c o n1 n2 n3 n4 e =>
  s5.extBut _ _ n2 (s4.extBut _ _ n4 (s3.extBut _ _ n2 (s2.extBut _ _ n3 (s1.extBut _ _ n1 e))))
 have d1' : g5.IsTupleIter i1 l1 (k + 1) := ((d1.extBut s3.extBut D.TOi1.symm).extBut s4.extBut D.i12).extBut s5.extBut D.TOi1.symm
 have d2' : g5.IsListIter i2 l2 (k + 1) := d2.extBut s5.extBut D.TOi2.symm
 have zl : z < g5.objs.size := Heap.lt_size z5
 show wpAny _ _ (Builtin.SmallTypes.ownedTupleHandOut (.ref z) (.ref g5.objs.size) >>= _) _ _ _
 refine wpAny_bind ?_
 unfold Builtin.SmallTypes.ownedTupleHandOut
 have z6 : iI (g5.push { cls := .type "tuple", data := .seq #[x, y] }) z TI TO .ellipsis := Heap.get?_push_of_some _ z5
 refine wpAny_bind (wpAny_setField_rec z6 (by simp) fun g7 z7 s7 => ?_)
 have z7' : iI g7 z TI TO (rawInt g5.objs.size) := z7
 refine wpAny_setField_rec z7' (by simp) fun g8 z8 s8 => ?_
 have z8' : iI g8 z TI TO (rawInt g5.objs.size) := z8
 have up : ∀ c o, c ≠ z → g5.get? c = some o → g8.get? c = some o := fun c o n e => s8.extBut _ _ n (s7.extBut _ _ n (Heap.get?_push_of_some _ e))
 have T8 : IsPair g8 g5.objs.size x y := s8.extBut _ _ (Nat.ne_of_gt zl) (s7.extBut _ _ (Nat.ne_of_gt zl) (Heap.get?_push_size _ rfl))
 rw [size5] at z8' T8
 refine wpAny_pure ⟨_, rfl, ?_⟩
 show Q (.ref g5.objs.size) _
 rw [size5]
 exact fin g8 z8' (up _ _ D.TOz O5') (d1'.at fun o e => up _ o D.i1z e) (d2'.at fun o e => up _ o D.i2z e) T8 fun c o n1 n2 n3 n4 e => up c o n1 (kp c o n1 n2 n3 n4 e)
theorem aD9 {z TI TO i1 i2 l1 l2 : Addr} {k : Nat} {xs ys : Array Value} {a b : Value} {Q : Fin → Shared → Prop} (hh : A.handled = none) (D : ZipApart z TI TO i1 i2 l1 l2)
  (hz : iI s.heap z TI TO .none) (hI : IsPair s.heap TI (.ref i1) (.ref i2)) (hO : IsPair s.heap TO a b) (a1 : s.heap.IsTupleIter i1 l1 k) (a2 : s.heap.IsListIter i2 l2 k) (b1 : s.heap.IsTuple l1 xs) (b2 : s.heap.IsList l2 ys) (c1 : xs[k]? = none) (c2 : ys[k]? = none)
  (fin : ∀ g e, (∀ c o, c ≠ z → c ≠ TO → c ≠ i1 → c ≠ i2 → s.heap.get? c = some o → g.get? c = some o) → (∃ o, g.get? e = some o ∧ o.cls = .type "StopIteration") → E (.ref e) { s with heap := g }) :
  wpAny (model prog w) A (Builtin.«zip.__next__» ⟨[.ref z], []⟩) Q E s := by
 show wpAny _ _ (field (.ref z) 2 >>= _) _ _ _
 refine wpAny_bind (wpAny_field hz rfl (x := .bool true) rfl ?_)
 show wpAny _ _ (field (.ref z) 3 >>= _) _ _ _
 refine wpAny_bind (wpAny_field hz rfl (x := .ref TI) rfl ?_)
 refine wpAny_bind (wpAny_seqItems hI rfl ?_)
 show wpAny _ _ (Builtin.SmallTypes.ownedTupleIsFree (.ref z) >>= _) _ _ _
 refine wpAny_bind ?_
 unfold Builtin.SmallTypes.ownedTupleIsFree
 refine wpAny_bind (wpAny_field hz rfl (x := .none) rfl (wpAny_pure ?_))
 simp only [ae]
 refine wpAny_bind (wpAny_rule ?_)
 refine wpAny_bind (wpAny_field hz rfl (x := .ref TO) rfl ?_)
 refine wpAny_bind (wpAny_setField_rec hz (by simp) fun g1 z1 s1 => ?_)
 have z1' : iI g1 z TI TO .ellipsis := z1
 refine wpAny_bind ?_
 simp only [List.zipIdx_cons, List.zipIdx_nil, List.forIn_cons, List.forIn_nil]
 refine wpAny_bind (wpAny_bind (wpAny_onRaise ?_))
 show wpAny _ _ (Builtin.SmallTypes.nextOrEnd (.ref i1)) _ _ _
 refine LL hh (a1.extBut s1.extBut D.i1z) (b1.extBut s1.extBut D.l1z) c1 fun g2 s2 => ?_
 have z2 : iI g2 z TI TO .ellipsis := s2 _ _ D.i1z.symm z1'
 refine wpAny_bind (wpAny_setField_rec z2 (by simp) fun g3 _ s3 => ?_)
 refine wpAny_bind (wpAny_bind ?_)
 show wpAny _ _ (forIn ((List.drop 1 [Value.ref i1, Value.ref i2]).zipIdx 1) PUnit.unit _) _ _ _
 simp only [List.drop_succ_cons, List.drop_zero, List.zipIdx_cons, List.zipIdx_nil, List.forIn_cons, List.forIn_nil]
 refine wpAny_bind (wpAny_bind (aDi hh (((a2.extBut s1.extBut D.i2z).extBut s2 D.i12.symm).extBut s3.extBut D.i2z) (((b2.extBut s1.extBut D.l2z).extBut s2 D.l2i1).extBut s3.extBut D.l2z) c2 fun g4 s4 => ?_))
 show wpAny _ _ (pure (ForInStep.yield PUnit.unit)) _ _ _
 refine wpAny_pure ?_
 refine wpAny_pure ?_
 refine wpAny_bind (wpAny_rule ?_)
 unfold Builtin.SmallTypes.stopIteration
 refine wpAny_bind ?_
 simp only [newExc, newTuple]
 refine wpAny_bind (wpAny_newObj_type ?_ (by size_fits))
 refine wpAny_bind (m := firstArgMember _ _) (wpAny_of_eq (a := Value.none) (by first | rfl | (simp only [firstArgMember]; rfl)) ?_)
 refine wpAny_newObj_type ?_ (by size_fits)
 simp only [raiseNew]
 refine wpAny_bind (wpAny_handled ?_)
 rw [hh]
 refine wpAny_bind (wpAny_pure (wpAny_throw ?_))
 refine fin _ _ (fun c o n1 _ n3 n4 e => ?_) ⟨_, Heap.get?_push_size _ rfl, rfl⟩
 exact Heap.get?_push_of_some _ (Heap.get?_push_of_some _ (s4 _ _ n4 (s3.extBut _ _ n1 (s2 _ _ n3 (s1.extBut _ _ n1 e)))))
theorem N6 {z TI TO i1 i2 l1 l2 : Addr} {k : Nat} {xs ys : Array Value} {x y a b : Value} {Q : Option Value → Shared → Prop} (D : ZipApart z TI TO i1 i2 l1 l2)
  (hz : iI s.heap z TI TO .none) (hI : IsPair s.heap TI (.ref i1) (.ref i2)) (hO : IsPair s.heap TO a b) (a1 : s.heap.IsTupleIter i1 l1 k) (a2 : s.heap.IsListIter i2 l2 k) (b1 : s.heap.IsTuple l1 xs) (b2 : s.heap.IsList l2 ys) (c1 : xs[k]? = some x) (c2 : ys[k]? = some y)
  (fin : ∀ g, iI g z TI TO (rawInt s.heap.objs.size) → IsPair g TO x y → g.IsTupleIter i1 l1 (k + 1) → g.IsListIter i2 l2 (k + 1) → IsPair g s.heap.objs.size x y → (∀ c o, c ≠ z → c ≠ TO → c ≠ i1 → c ≠ i2 → s.heap.get? c = some o → g.get? c = some o) → Q (some (.ref s.heap.objs.size)) { s with heap := g }) :
  wpAny (model prog w) A (pyNext (.ref z)) Q E s := by
 have ty : s.TypeIs (.ref z) "zip" := ⟨_, hz, rfl⟩
 unfold pyNext
 exact wpAny_bind (wpAny_attempt (wpAny_callSpecial?_slot (name := Str.ofString "__next__") ty F.slot_zip_next (wpAny_call_entry F.slot_zip_next ty F.entry_zip_next (aCr D hz hI hO a1 a2 b1 b2 c1 c2 fun g e1 e2 e3 e4 e5 e6 => wpAny_pure (fin g e1 e2 e3 e4 e5 e6)) (F.args_zip_next_1 _))))
theorem SX {z TI TO i1 i2 l1 l2 : Addr} {k : Nat} {xs ys : Array Value} {a b : Value} {Q : Option Value → Shared → Prop} (hh : A.handled = none) (D : ZipApart z TI TO i1 i2 l1 l2)
  (hz : iI s.heap z TI TO .none) (hI : IsPair s.heap TI (.ref i1) (.ref i2)) (hO : IsPair s.heap TO a b) (a1 : s.heap.IsTupleIter i1 l1 k) (a2 : s.heap.IsListIter i2 l2 k) (b1 : s.heap.IsTuple l1 xs) (b2 : s.heap.IsList l2 ys) (c1 : xs[k]? = none) (c2 : ys[k]? = none)
  (fin : ∀ g, (∀ c o, c ≠ z → c ≠ TO → c ≠ i1 → c ≠ i2 → s.heap.get? c = some o → g.get? c = some o) → Q none { s with heap := g }) : wpAny (model prog w) A (pyNext (.ref z)) Q E s := by
 have ty : s.TypeIs (.ref z) "zip" := ⟨_, hz, rfl⟩
 unfold pyNext
 refine wpAny_bind (wpAny_attempt (wpAny_callSpecial?_slot (name := Str.ofString "__next__") ty F.slot_zip_next (wpAny_call_entry F.slot_zip_next ty F.entry_zip_next (aD9 hh D hz hI hO a1 a2 b1 b2 c1 c2 fun g e kp he => ?_) (F.args_zip_next_1 _))))
 obtain ⟨o, h1, h2⟩ := he
 refine wpAny_bind (wpAny_isInstance (T := "StopIteration") (b := true) ⟨o, h1, h2⟩ isSubtype_stop ?_)
 exact wpAny_pure (fin _ kp)
end
def aGr (K : PySem.W.Frag) (a b : Addr) : It :=
 ⟨fun i H => ∃ (xs ys : List V) (x y : V), SqT K H a xs ∧ SqL K H b ys ∧ xs[i]? = some x ∧ ys[i]? = some y,
  fun i H v H' => ∃ T x y, v = .ref T ∧ H T = none ∧ H' = upd H T (.tup [x, y]) ∧ (∀ xs, SqT K H a xs → xs[i]? = some x) ∧ ∀ ys, SqL K H b ys → ys[i]? = some y,
  fun i H => ∃ xs ys : List V, SqT K H a xs ∧ SqL K H b ys ∧ xs.length ≤ i ∧ ys.length ≤ i⟩
theorem aCp {P : Program} {w : World} {K : PySem.W.Frag} {elts : List Expr} {kk : Nat} {tpos : Pos} {a b z TI TO i1 i2 : Addr} (D : ZipApart z TI TO i1 i2 a b) :
  Turn P w K (.Tuple elts kk tpos) (aGr K a b) [z, TI, TO, i1, i2] z (fun i h => iI h z TI TO .none ∧ IsPair h TI (.ref i1) (.ref i2) ∧ (∃ x y, IsPair h TO x y) ∧ h.IsTupleIter i1 a i ∧ h.IsListIter i2 b i) where
 mem := by simp
 obj := fun i h st c hc => by
  obtain ⟨f1, f2, ⟨x, y, f3⟩, ⟨o1, e1, _, d1⟩, ⟨o2, e2, _, d2⟩⟩ := st
  have cs : c = z ∨ c = TI ∨ c = TO ∨ c = i1 ∨ c = i2 := by simpa using hc
  rcases cs with rfl | rfl | rfl | rfl | rfl
  ·exact ⟨_, f1, fun v q => nomatch q⟩
  ·exact ⟨_, f2, fun v q => nomatch q⟩
  ·exact ⟨_, f3, fun v q => nomatch q⟩
  ·exact ⟨o1, e1, fun v q => by rw [d1] at q; cases q⟩
  ·exact ⟨o2, e2, fun v q => by rw [d2] at q; cases q⟩
 keep := fun i h h' st k => by
  obtain ⟨f1, f2, ⟨x, y, f3⟩, f4, f5⟩ := st
  exact ⟨k z (by simp) _ f1, k TI (by simp) _ f2, ⟨x, y, k TO (by simp) _ f3⟩, f4.at fun o q => k i1 (by simp) o q, f5.at fun o q => k i2 (by simp) o q⟩
 item := by
  intro X hP hw hK hc i pins s σ H E I fp st go
  subst hP hw hK
  obtain ⟨f1, f2, ⟨x0, y0, f3⟩, f4, f5⟩ := st
  obtain ⟨xs, ys, x, y, qx, qy, gx, gy⟩ := go
  obtain ⟨us, rv, p, _⟩ := I.tuple qx
  obtain ⟨us2, rv2, p2, _⟩ := I.list qy
  obtain ⟨u, hu, ru⟩ := rv.get gx
  obtain ⟨u2, hu2, ru2⟩ := rv2.get gy
  have zl : z < s.heap.objs.size := Heap.lt_size f1
  refine N6 D f1 f2 f3 f4 f5 p p2.isList (x := u) (y := u2) (by simpa using hu) (by simpa using hu2) fun g z' TO' h1' h2' hT hk => ?_
  refine ⟨_, rfl, QX (s := { s with heap := g }) z' fun g2 z'' sb => ?_⟩
  have hT2 : g2.get? s.heap.objs.size = some { cls := .type "tuple", data := .seq #[u, u2] } := (sb.2 _ (Nat.ne_of_gt zl)).trans hT
  have new : ObjOk X.prog X.w (upd H s.heap.objs.size (.tup [x, y])) g2 s.heap.objs.size (.tup [x, y]) := ⟨by show 2 ≤ sizeLine; decide, [u, u2], .cons ru (.cons ru2 .nil), ⟨_, hT2, rfl, _, rfl⟩⟩
  have I1 : Inv X pins σ (upd H s.heap.objs.size (.tup [x, y])) { s with heap := g2 } :=
   I.turnedNew (t' := s.toks) (ch := [z, TI, TO, i1, i2]) (fun c o hb q => by
    simp only [bg, bu, or_false, not_or] at hb
    exact (sb.2 c hb.1).trans (hk c o hb.1 hb.2.2.1 hb.2.2.2.1 hb.2.2.2.2 q)) fp (az _) new
  refine ⟨.ref s.heap.objs.size, _, I1, rfl, ⟨_, x, y, rfl, I.hok.fresh (az _), rfl, fun l hl => by rw [I.tuple_inj hl qx]; exact gx, fun l hl => by rw [I.list_inj hl qy]; exact gy⟩, ⟨z'', ?_, ⟨u, u2, ?_⟩, ?_, ?_⟩, fun c hcm => ?_⟩
  ·exact (sb.2 _ D.TIz).trans (hk _ _ D.TIz D.TITO D.TIi1 D.TIi2 f2)
  ·exact (sb.2 _ D.TOz).trans TO'
  ·exact h1'.at fun o q => (sb.2 _ D.i1z).trans q
  ·exact h2'.at fun o q => (sb.2 _ D.i2z).trans q
  ·have hlt : c < s.heap.objs.size := by
    have cs : c = z ∨ c = TI ∨ c = TO ∨ c = i1 ∨ c = i2 := by simpa using hcm
    rcases cs with rfl | rfl | rfl | rfl | rfl
    ·exact zl
    ·exact Heap.lt_size f2
    ·exact Heap.lt_size f3
    ·obtain ⟨_, e1, _⟩ := f4; exact Heap.lt_size e1
    ·obtain ⟨_, e2, _⟩ := f5; exact Heap.lt_size e2
   rw [upd_ne (Nat.ne_of_lt hlt)]
   exact (fp c hcm).1
 done := by
  intro X hP hw hK hc i pins s σ H E I fp st go
  subst hP hw hK
  obtain ⟨f1, f2, ⟨x0, y0, f3⟩, f4, f5⟩ := st
  obtain ⟨xs, ys, qx, qy, e1, e2⟩ := go
  obtain ⟨us, rv, p, _⟩ := I.tuple qx
  obtain ⟨us2, rv2, p2, _⟩ := I.list qy
  have l1 := rv.length
  have l2 := rv2.length
  refine SX (I.ok.hd hc) D f1 f2 f3 f4 f5 p p2.isList (by simp; omega) (by simp; omega) fun g hk => ⟨rfl, I.turnedL (t' := s.toks) (ch := [z, TI, TO, i1, i2]) (fun c o hb q => ?_) fp⟩
  simp only [bg, bu, or_false, not_or] at hb
  exact hk c o hb.1 hb.2.2.1 hb.2.2.2.1 hb.2.2.2.2 q
 self := fun A i s Q E st h => DQ st.1 h
section
variable {X : Cx} {e e2 : Expr} {ta : TA} {p pos tpos cp kp : Pos} {elts : List Expr} {kk k : Nat}
def iZm (K : PySem.W.Frag) (ta : TA) : TI := fun σ H R => ta σ H fun vs H1 => ∃ a b xs ys, vs = [V.ref a, V.ref b] ∧ SqT K H1 a xs ∧ SqL K H1 b ys ∧ R (aGr K a b) H1
theorem aF6 (hg : Gl X "zip") (hm : X.mg "zip" = none) (ha : PA X [e, e2] ta) (hs : starEach [e, e2] X.env = (false, eval e X.env) :: starEach [e2] X.env := by rfl) (hpl : (backTo pos (starEach [e, e2] X.env)).any (·.1) = false := by rfl)
  (hk1 : (backToKw pos (keywordEach [⟨some "strict", .Constant (.bool true) k cp, kp⟩] X.env)).any (·.1.isNone) = false := by rfl) (hk2 : (backToKw pos (keywordEach [⟨some "strict", .Constant (.bool true) k cp, kp⟩] X.env)).all (·.1.isSome) = true := by rfl)
  (hk3 : (backToKw pos (keywordEach [⟨some "strict", .Constant (.bool true) k cp, kp⟩] X.env)).filterMap (·.1) = [Str.ofString "strict"] := by rfl) :
  PI X (.Tuple elts kk tpos) (.Call (.Name "zip" p) [e, e2] [⟨some "strict", .Constant (.bool true) k cp, kp⟩] pos) (iZm X.K ta) := by
 refine ⟨fun pins s σ H R I h => ?_⟩
 refine wpAny_Call_Name_kw (ld_blt I hg hm PyProof.Rows.boot_zip (wK hpl hk1 ?_))
 have hA := ha.run pos pins s σ H _ I h
 rw [hs] at hA ⊢
 refine evalArgs_kwB hk2 (thn hA fun us s1 ⟨vs, H1, I1, r1, a, b, xs, ys, ex, qx, qy, q⟩ => ?_)
 subst ex
 rw [hk3]
 refine thn ((pk_cons (nm := some "strict") (kpos := kp) (pe_bl (b := true) (j := k) (pos := cp)) pk_nil).run pos pins s1 σ H1 (fun zs H2 => zs = [V.bl true] ∧ H2 = H1) I1 ⟨rfl, rfl⟩) fun ws s2 ⟨zs, H2, I2, rz, ez, eH⟩ => ?_
 subst ez eH
 obtain ⟨w1, rfl, rw1⟩ := rz.one
 cases rw1
 obtain ⟨u1, u2, rfl, ra, rb⟩ := r1.two
 cases ra
 cases rb
 obtain ⟨us1, rv, p1, _⟩ := I2.tuple qx
 obtain ⟨us2, rv2, p2, _⟩ := I2.list qy
 obtain ⟨o1, ho1, _⟩ := id p1
 refine aCf (show s2.heap.IsTuple a us1.toArray from p1) p2.isList fun g hz hI hO h1 h2 hk => DQ hz ?_
 have I3 : Inv X pins σ H2 { s2 with heap := g } := I2.kept (t' := s2.toks) hk
 refine ⟨s2.heap.objs.size + 4, [s2.heap.objs.size + 4, s2.heap.objs.size + 2, s2.heap.objs.size + 3, s2.heap.objs.size, s2.heap.objs.size + 1], _, _, H2, rfl, I3, aCp (PySem.W.ktu_apart s2.heap.objs.size a b (Heap.lt_size ho1) p2.lt), ⟨hz, hI, ⟨_, _, hO⟩, h1, h2⟩, fun c hc => ?_, q⟩
 have le : s2.heap.objs.size ≤ c := by
  simp only [bg, bu, or_false] at hc
  rcases hc with rfl | rfl | rfl | rfl | rfl <;> omega
 exact I2.fpOk le (I2.hok.fresh le)
end
def zmM (ds : List D) (w : W) : Res kL := match ds with
 | [.tup xs, .lst ys] => if xs.length = ys.length then .ok ⟨(xs.zip ys).map fun p => .tup [p.1, p.2], always⟩ w else .bad
 | _ => .bad
theorem aGc {S : aQ} {e e2 : Expr} {ma : MA} {p pos tpos cp kp : Pos} {elts : List Expr} {kk k : Nat} (hg : S.sc.names.lookup ("zip" : Str) = some .globalImplicit) (hm : S.mg "zip" = none) (ha : JA S [e, e2] ma)
  (hs : ∀ env : Env, starEach [e, e2] env = (false, eval e env) :: starEach [e2] env := by intro _; rfl) (hpl : ∀ env : Env, (backTo pos (starEach [e, e2] env)).any (·.1) = false := by intro _; rfl) :
  JI S (.Tuple elts kk tpos) (.Call (.Name "zip" p) [e, e2] [⟨some "strict", .Constant (.bool true) k cp, kp⟩] pos) (eT zmM ma) := fun X E cx xo =>
 pL (aF6 (by show X.env.scope.names.lookup _ = _; rw [cx.sc]; exact hg) (by rw [cx.mg]; exact hm) (ha X E cx xo) (hs X.env) (hpl X.env)) fun σ H R ⟨I, F, G, ds, w, rel, rs, p⟩ => cX (f := fun _ => zmM) rel rs p fun I1 F1 H1 xs w1 vs e1 rel1 rs1 rv p1 => by
  unfold zmM at p1
  split at p1
  ·rename_i xs ys
   obtain ⟨v, u, rfl, rx, ry⟩ := rv.two
   split at p1
   ·rename_i hl
    simp only [aF] at rx ry
    obtain ⟨a, us, rfl, q1, q2⟩ := rx
    obtain ⟨b, ts, rfl, q3, q4⟩ := ry
    refine ⟨a, b, us, ts, rfl, .of (rel1.fz _ _ q1), .of (rel1.fz _ _ q3), p1 I1 F1 H1 .refl rel1 trivial _ fun I' F' G' w' H' j e' rel' _ => ?_⟩
    have t1 : SqT X.K H' a us := rel'.K2 (.of (e'.f _ _ q1))
    have t2 : SqL X.K H' b ts := rel'.XY (.of (e'.f _ _ q3))
    have r1 := RepL.ext e' _ _ q2
    have r2 := RepL.ext e' _ _ q4
    have l1 : xs.length = us.length := r1.length
    have l2 : ys.length = ts.length := r2.length
    refine ⟨fun x hx => ?_, fun hj => ⟨us, ts, t1, t2, ?_, ?_⟩⟩
    ·rw [bz] at hx
     cases hz : (xs.zip ys)[j]? with
     | none => rw [hz] at hx; cases hx
     | some pr =>
      rw [hz] at hx
      cases hx
      obtain ⟨pa, pb⟩ := pr
      rw [List.getElem?_zip_eq_some] at hz
      obtain ⟨v1, g1, g2⟩ := r1.get hz.1
      obtain ⟨v2, g3, g4⟩ := r2.get hz.2
      refine ⟨⟨us, ts, v1, v2, t1, t2, g1, g3⟩, fun v H'' y => ?_⟩
      obtain ⟨T, x', y', rfl, k1, rfl, k2, k3⟩ := y
      have z1 := k2 us t1
      have z2 := k3 ts t2
      rw [g1] at z1
      rw [g3] at z2
      cases z1
      cases z2
      exact vT rel' (RepL.cons g2 (RepL.cons g4 (by simp [RepL]))) k1
    ·simp only [ao, List.length_zip] at hj; omega
    ·simp only [ao, List.length_zip] at hj; omega
   ·exact p1.elim
  ·exact p1.elim
end Pc
namespace Pc
open PySem PySem.Spec PyProof.Rows L2 PySem.W
def eqE (x y : D) (w : W) : Res D := match x, y with
 | .ref i, .ref j => (match w[i]?, w[j]? with
  | some (.dT kvs), some (.dT []) => .ok (.bl kvs.isEmpty) w
  | _, _ => .bad)
 | _, _ => .bad
end Pc
namespace Pc
open PySem PySem.Spec PyProof.Rows L2
def oH (C : Addr) (nm : Str) (x : D) (w : W) : Option Nat := match x with
 | .ref i => (match w[i]? with
  | some (.ins C' fs) => if C' = C ∧ fs.lookup nm = none then some i else none
  | _ => none)
 | _ => none
def eS (C : Addr) (nm : Str) (m : MF) (n : Nat) (gd : List D → List D → List D) (mo : ME) (ma : MA) : ME := fun σ w => (mo σ w).bind fun x w1 => match oH C nm x w1 with
 | some i => (ma σ w1).bind fun xs w2 => if xs.length + 1 = n then m (gd (.ref i :: xs) []) w2 else .bad
 | none => .bad
section
variable {S : aQ} {k n : Nat} {C f : Addr} {fd : FuncData} {ps ks : List Str} {m : MF} {gd : List D → List D → List D} {nm : Str} {o e : Expr} {es : List Expr} {mo : ME} {ma : MA} {apos pos : Pos}
theorem JP {x : D} {w : W} {i : Nat} (h : oH C nm x w = some i) : x = .ref i ∧ ∃ fs, w[i]? = some (.ins C fs) ∧ fs.lookup nm = none := by
 unfold oH at h
 split at h
 ·rename_i j
  split at h
  ·rename_i C' fs hw
   split at h
   ·rename_i hc
    cases h
    exact ⟨rfl, fs, by rw [hw, hc.1], hc.2⟩
   ·cases h
  ·cases h
 ·cases h
theorem AO {pl : Env → Sem Bool} (hk : k ≤ S.k) (cl : Cls S.K C) (hs : Meth S.K C nm f) (Gf : eY S.P S.w S.K S.mg S.base k f fd ps m) (B : b5 S.K fd ps n [] gd) (ho : JE S o mo) (ha : JA S (e :: es) ma)
  (hst : ∀ env : Env, starEach (e :: es) env = (false, eval e env) :: starEach es env := by intro _; rfl) (hpl : ∀ env : Env, (backTo pos (starEach es env)).any (·.1) = false := by intro _; rfl)
  (ht : ∀ env : Env, eval (.Call (.Attribute o nm apos) (e :: es) [] pos) env = (do
   let ov ← eval o env
   standAt apos.atName
   let (f, first) ← holding [ov] (getMethod ov nm (pl env))
   callWith pos f first (backTo pos (starEach (e :: es) env)) (backToKw pos (keywordEach [] env))) := by intro _; rfl) :
  JE S (.Call (.Attribute o nm apos) (e :: es) [] pos) (eS C nm m n gd mo ma) := fun X E cx xo => by
 refine ⟨fun pins s σ H Q J ⟨I, F, G, ds, w, rel, rs, p⟩ => ?_⟩
 refine PySem.W.methodCall_KW (pl := pl X.env) (thn ((ho X E cx xo).run pins s σ H _ J (bM (f := fun ds x w1 => match oH C nm x w1 with
  | some i => (ma ds w1).bind fun xs w2 => if xs.length + 1 = n then m (gd (.ref i :: xs) []) w2 else .bad
  | none => .bad) (Q := fun v H1 => ∃ I1 F1 x w1, Rel X.K I1 F1 G w1 H1 ∧ fX X.K I1 F1 ds σ ∧ aF X.K I1 F1 x v ∧ a7 X.K I1 F1 G E (RV X.K Q) (match oH C nm x w1 with
  | some i => (ma ds w1).bind fun xs w2 => if xs.length + 1 = n then m (gd (.ref i :: xs) []) w2 else .bad
  | none => .bad)) rel rs p fun I1 F1 H1 x w1 v e1 rel1 rs1 rv p1 => ⟨I1, F1, x, w1, rel1, rs1, rv, p1⟩)) fun u s1 ⟨v, H1, J1, rx, I1, F1, x, w1, rel1, rs1, rv, p1⟩ => ?_) (ht X.env)
 cases hi : oH C nm x w1 with
 | none => rw [hi] at p1; exact p1.elim
 | some i =>
  rw [hi] at p1
  obtain ⟨rfl, fs, hw, hl⟩ := JP hi
  simp only [aF] at rv
  obtain ⟨a, rfl, ha1⟩ := rv
  obtain rfl : u = Value.ref a := rx
  obtain ⟨u1, hu, dx, r, rfl, hr⟩ := rel1.ob i a _ ha1 hw
  have l2 : r.lookup nm = none := by
   have := hr.lookup nm
   rw [hl] at this
   exact this
  refine getmeth_ok J1 hu (by rw [cx.K]; exact cl) (by rw [cx.K]; exact hs) l2 ?_
  refine PySem.W.callWith_K (first := [.ref a]) (h₀ := X.base) J.ok.mod.kin (by rw [cx.K]; exact hs.kp) (thn ((ha X E cx xo).run pos pins s1 σ H1 _ J1 (cX (f := fun _ xs w2 => if xs.length + 1 = n then m (gd (.ref i :: xs) []) w2 else .bad)
   (Q := fun vs H2 => ∃ I2 F2 xs w2, Rel X.K I2 F2 G w2 H2 ∧ aF X.K I2 F2 (.ref i) (.ref a) ∧ RepL X.K I2 F2 xs vs ∧ xs.length + 1 = n ∧ a7 X.K I2 F2 G E (RV X.K Q) (m (gd (.ref i :: xs) []) w2)) rel1 rs1 p1 fun I2 F2 H2 xs w2 vs e2 rel2 rs2 rvs p2 => ?_)) fun us s2 hq => ?_) (hst X.env) (hpl X.env)
  ·split at p2
   ·rename_i hl2
    exact ⟨I2, F2, xs, w2, rel2, by simp only [aF]; exact ⟨a, rfl, e2.get ha1⟩, rvs, hl2, p2⟩
   ·exact p2.elim
  ·obtain ⟨vs, H2, J2, rr, I2, F2, xs, w2, rel2, rv2, rvs, hl2, p2⟩ := hq
   refine ⟨J2.kIn, ?_⟩
   have Gf' : eY X.prog X.w X.K X.mg X.base k f fd ps m := by rw [cx.P, cx.w, cx.K, cx.mg, cx.base]; exact Gf
   have B' : b5 X.K fd ps n [] gd := by rw [cx.K]; exact B
   exact QR (ks := []) (ws := []) (zs := []) (ys := []) (us := .ref a :: us) (vs := .ref a :: vs) (xs := .ref i :: xs) xo Gf' B' (cx.room.mono hk) cx.W5 J2 rel2 (RepL.cons rv2 rvs) (by simp [RepL]) (.cons rfl rr) .nil (by simpa using hl2) rfl p2
theorem A2 {pl : Env → Sem Bool} (hk : k ≤ S.k) (cl : Cls S.K C) (hs : Meth S.K C nm f) (Gf : eY S.P S.w S.K S.mg S.base k f fd ps m) (B : b5 S.K fd ps 1 [] gd) (ho : JE S o mo)
  (ht : ∀ env : Env, eval (.Call (.Attribute o nm apos) [] [] pos) env = (do
   let ov ← eval o env
   standAt apos.atName
   let (f, first) ← holding [ov] (getMethod ov nm (pl env))
   callWith pos f first (backTo pos (starEach [] env)) (backToKw pos (keywordEach [] env))) := by intro _; rfl) :
  JE S (.Call (.Attribute o nm apos) [] [] pos) (eS C nm m 1 gd mo aE) := fun X E cx xo => by
 refine ⟨fun pins s σ H Q J ⟨I, F, G, ds, w, rel, rs, p⟩ => ?_⟩
 refine PySem.W.methodCall_KW (pl := pl X.env) (thn ((ho X E cx xo).run pins s σ H _ J (bM (f := fun ds x w1 => match oH C nm x w1 with
  | some i => (aE ds w1).bind fun xs w2 => if xs.length + 1 = 1 then m (gd (.ref i :: xs) []) w2 else .bad
  | none => .bad) (Q := fun v H1 => ∃ I1 F1 x w1, Rel X.K I1 F1 G w1 H1 ∧ fX X.K I1 F1 ds σ ∧ aF X.K I1 F1 x v ∧ a7 X.K I1 F1 G E (RV X.K Q) (match oH C nm x w1 with
  | some i => (aE ds w1).bind fun xs w2 => if xs.length + 1 = 1 then m (gd (.ref i :: xs) []) w2 else .bad
  | none => .bad)) rel rs p fun I1 F1 H1 x w1 v e1 rel1 rs1 rv p1 => ⟨I1, F1, x, w1, rel1, rs1, rv, p1⟩)) fun u s1 ⟨v, H1, J1, rx, I1, F1, x, w1, rel1, rs1, rv, p1⟩ => ?_) (ht X.env)
 cases hi : oH C nm x w1 with
 | none => rw [hi] at p1; exact p1.elim
 | some i =>
  rw [hi] at p1
  obtain ⟨rfl, fs, hw, hl⟩ := JP hi
  have rv0 := rv
  simp only [aF] at rv
  obtain ⟨a, rfl, ha1⟩ := rv
  obtain rfl : u = Value.ref a := rx
  obtain ⟨u1, hu, dx, r, rfl, hr⟩ := rel1.ob i a _ ha1 hw
  have l2 : r.lookup nm = none := by
   have := hr.lookup nm
   rw [hl] at this
   exact this
  refine getmeth_ok J1 hu (by rw [cx.K]; exact cl) (by rw [cx.K]; exact hs) l2 ?_
  have Gf' : eY X.prog X.w X.K X.mg X.base k f fd ps m := by rw [cx.P, cx.w, cx.K, cx.mg, cx.base]; exact Gf
  have B' : b5 X.K fd ps 1 [] gd := by rw [cx.K]; exact B
  exact PySem.W.callWith_K0 (first := [.ref a]) J1.kIn (by rw [cx.K]; exact hs.kp) (QR (ks := []) (ws := []) (zs := []) (ys := []) (us := [.ref a]) (vs := [.ref a]) (xs := [.ref i]) xo Gf' B' (cx.room.mono hk) cx.W5 J1 rel1 (RepL.cons rv0 (by simp [RepL])) (by simp [RepL]) (.cons rfl .nil) .nil rfl rfl p1)
end
def aCa : WC := fun d ds w => match d, ds with
 | .ref i, [.tup zs] => (match w[i]? with
  | some (.lst xs) => if xs.length + zs.length ≤ sizeLine then .ok .non (w.set i (.lst (xs ++ zs))) else .bad
  | _ => .bad)
 | _, _ => .bad
def lexLeI (ns ms : List Int) : Bool := Ob.lexAt (fun j => decide (ns.getD j 0 = ms.getD j 0)) (fun j => decide (ns.getD j 0 ≤ ms.getD j 0)) (decide (ns.length ≤ ms.length)) 0 (min ns.length ms.length)
def leA (x y : D) (w : W) : Res D := match x, y with
 | .int a, .int b => .ok (.bl (decide (a ≤ b))) w
 | .tup a, .tup b => (match jY a, jY b with
  | some ns, some ms => .ok (.bl (lexLeI ns ms)) w
  | _, _ => .bad)
 | _, _ => .bad
def D8 (x y : D) (w : W) : Res D := match C8 x w, C8 y w with
 | some a, some b => if a.length + b.length ≤ sizeLine then .ok (.ref w.length) (w ++ [.lst (a ++ b)]) else .bad
 | _, _ => .bad
theorem ZR {S : aQ} : O2 S (binaryOp .Add) D8 := gC fun X E c xo I F G d e w H x y Q rel rd re p => by
 unfold D8 at p
 split at p
 ·rename_i a b ha hb
  obtain ⟨q, vs, rfl, h1, h2⟩ := AN rel rd ha
  obtain ⟨q', vs', rfl, h1', h2'⟩ := AN rel re hb
  split at p
  ·rename_i hl
   exact ⟨_, op_cat, q, q', vs, vs', rfl, rfl, h1, h1', by rw [← h2.length, ← h2'.length]; exact hl, vR (o := .lst (a ++ b)) rel ⟨_, rfl, h2.append h2'⟩ p⟩
  ·exact p.elim
 ·exact p.elim
end Pc
namespace He
open PySem PySem.Spec PyProof.Rows L2
abbrev AlY : Type := AlT × Bool
def aCE (as : List Addr) (fa : List Fa) (fn : List DefD) (ts : List Tab) (ex : PySem.W.Frag → Bool) (g : Addr → Option Obj) : AlY := (obsT fa fn ts (frT g as), ex (frT g as))
def aFK (fn : List DefD) (ts : List Tab) (w : World) : AlY := (valT fn ts w, true)
theorem YS {as : List Addr} {fa : List Fa} {fn : List DefD} {ts : List Tab} {ex : PySem.W.Frag → Bool} {w : World} {h : Heap} (e : aCE as fa fn ts ex h.get? = aFK fn ts w) : SaysX fa fn ts [] ex w h (frT h.get? as) :=
 ⟨congrArg (fun z : AlY => z.1) e, congrArg (fun z : AlY => z.2) e, (fun _ hp => nomatch hp), (fun _ hp => nomatch hp), (fun _ hp => nomatch hp)⟩
def aDs (as : List Addr) (fa : List Fa) (fn : List DefD) (ts : List Tab) (ex : PySem.W.Frag → Bool) : PySem.W.Hook where
 α := AlY
 obs := fun s => aCE as fa fn ts ex s.heap.get?
 val := fun w => aFK fn ts w
 says := fun w h => ∃ K : PySem.W.Frag, K.In h ∧ SaysX fa fn ts [] ex w h K
 of := fun _ _ e => ⟨_, frT_in, YS e⟩
 keeps := fun _ _ _ ⟨K, hK, c⟩ k => ⟨K, PySem.W.Frag.In.keeps hK k, ⟨c.t, c.more, c.hd, c.out, (fun _ hp => nomatch hp)⟩⟩
theorem aCi {as : List Addr} {fa : List Fa} {fn : List DefD} {ts : List Tab} {ex : PySem.W.Frag → Bool} {g : Addr → Option Obj} {s : Shared} (h : ∀ a, g a = s.heap.get? a) : aCE as fa fn ts ex g = (aDs as fa fn ts ex).obs s := by
 have e : g = s.heap.get? := funext h
 rw [e]
 rfl
theorem aDE {α β γ δ : Type} {e : Option α} {f : α → β} {g : α → γ} {h : α → δ} {a : β} {b : γ} {c : δ} (h1 : e.map (fun s => (f s, g s)) = some (a, b)) (h2 : e.map h = some c) : e.map (fun s => (f s, g s, h s)) = some (a, b, c) := by
 cases e with
 | none => exact nomatch h1
 | some s => 
  have q : (f s, g s) = (a, b) := Option.some.inj h1
  have q2 : h s = c := Option.some.inj h2
  have q3 := congrArg Prod.fst q
  have q4 := congrArg Prod.snd q
  show some (f s, g s, h s) = some (a, b, c)
  rw [q2, show f s = a from q3, show g s = b from q4]
end He
namespace Pc
open PySem PySem.Spec PyProof.Rows L2
def vX : WC := fun d ds w => match d, ds with
 | .ref i, [.int j, y] => (match w[i]? with
  | some (.lst xs) => if xs.length < sizeLine ∧ 0 ≤ j ∧ j < 2 ^ 63 then .ok .non (w.set i (.lst (xs.take j.toNat ++ [y] ++ xs.drop j.toNat))) else .bad
  | _ => .bad)
 | _, _ => .bad
theorem XX {S : aQ} : MB S "list.insert" vX := FG fun X E c xo I F G d ds w H x vs Q rel rd rl p => by
 unfold vX at p
 split at p
 ·rename_i i j y
  simp only [aF] at rd
  obtain ⟨a, rfl, hi⟩ := rd
  obtain ⟨v, u0, rfl, rj, ry⟩ := rl.two
  simp only [aF] at rj
  subst rj
  split at p
  ·rename_i xs hw
   obtain ⟨u, hu, us, rfl, hr⟩ := rel.ob i a _ hi hw
   split at p
   ·rename_i hl
    exact ⟨_, mt_insert, a, us, j, u0, rfl, rfl, hu, by rw [← hr.length]; exact hl.1, hl.2.1, hl.2.2, p.mU (rel.upd hi hw ⟨_, rfl, ((hr.take _).append (RepL.cons ry (by simp [RepL]))).append (hr.drop _)⟩) (by simp [aF])⟩
   ·exact p.elim
  ·exact p.elim
 ·exact p.elim
def aDJ (C : Addr) (f : Str) (mo mv : ME) : MS := fun σ w => (mo σ w).bind fun x w1 => (nK C f x w1).bind fun u w2 => (mv σ w2).bind fun v w3 => match u, v with
 | .int i, .int j => (oU C f x (.int (i + j)) w3).bind fun _ w4 => .ok (.nx σ) w4
 | _, _ => .bad
def aG3 (mb mf : MS) : MS := fun σ w => match mb σ w with
 | .ok (.nx σ1) w1 => (match mf σ1 w1 with
  | .ok (.nx σ2) w2 => .ok (.nx σ2) w2
  | _ => .bad)
 | _ => .bad
def aCU (C : Addr) (nm : Str) (m : MF) (n j : Nat) (gd : List D → List D → List D) (mo : ME) (ma mk : MA) : ME := fun σ w => (mo σ w).bind fun x w1 => match oH C nm x w1 with
 | some i => (ma σ w1).bind fun xs w2 => (mk σ w2).bind fun zs w3 => if xs.length + 1 = n ∧ zs.length = j then m (gd (.ref i :: xs) zs) w3 else .bad
 | none => .bad
def eqI (C : Addr) (m : MF) : D → D → W → Res D := fun x y w => match x, y with
 | .ref i, .ref j => (match w[i]?, w[j]? with
  | some (.ins C1 _), some (.ins C2 _) => if C1 = C ∧ C2 = C then m [.ref i, .ref j] w else .bad
  | _, _ => .bad)
 | _, _ => .bad
theorem aEj {S : aQ} {k : Nat} {f C : Addr} {fd : FuncData} {ps : List Str} {m : MF} (hk : k ≤ S.k) (hs : Meth S.K C "__eq__" f) (Gf : eY S.P S.w S.K S.mg S.base k f fd ps m) (B : b5 S.K fd ps 2 [] aN) : O2 S (compareOp .Eq) (eqI C m) :=
 fun X E c xo pins s σ H x y v u Q J rx ry ⟨I, F, G, d, e, w, rel, rd, re, p⟩ => by
  unfold eqI at p
  split at p
  ·rename_i i j
   split at p
   ·rename_i C1 fs C2 gs hw1 hw2
    split at p
    ·rename_i hC
     obtain ⟨h1, h2⟩ := hC
     subst h1
     subst h2
     have rd0 := rd
     have re0 := re
     simp only [aF] at rd re
     obtain ⟨a, rfl, hi⟩ := rd
     obtain ⟨b, rfl, hj⟩ := re
     obtain rfl : v = Value.ref a := rx
     obtain rfl : u = Value.ref b := ry
     obtain ⟨u1, hu1, dx, r1, rfl, hr1⟩ := rel.ob i a _ hi hw1
     obtain ⟨u2, hu2, dy, r2, rfl, hr2⟩ := rel.ob j b _ hj hw2
     obtain ⟨mA, O, _⟩ := ins_get J.hok hu1
     obtain ⟨mB, O', _⟩ := ins_get J.hok hu2
     obtain ⟨od, O, _⟩ := O.look
     obtain ⟨od', O', _⟩ := O'.look
     obtain ⟨mm, hF⟩ := J.fr
     have hs' : Meth X.K C2 "__eq__" f := by rw [c.K]; exact hs
     have Gf' : eY X.prog X.w X.K X.mg X.base k f fd ps m := by rw [c.P, c.w, c.K, c.mg, c.base]; exact Gf
     have B' : b5 X.K fd ps 2 [] aN := by rw [c.K]; exact B
     refine PySem.W.cmp_K (op := .Eq) (tb := .ref C2) (c.room.mono hk).units0 hF J.ok.mod.kin O O'.type (by simp [PySem.W.notFirst]) hs'.at_ hs'.fn ?_
     refine PySem.wpAny_mono (QR (ks := []) (ws := []) (zs := []) (ys := []) (us := [.ref a, .ref b]) (vs := [.ref a, .ref b]) (xs := [.ref i, .ref j]) xo Gf' B' (c.room.mono hk) c.W5 J rel (RepL.cons rd0 (RepL.cons re0 (by simp [RepL]))) (by simp [RepL]) (.cons rfl (.cons rfl .nil)) .nil rfl rfl p) (fun z s2 hz => ?_) fun _ _ z => z
     obtain ⟨v0, H2, J2, r2, q2⟩ := hz
     exact SlX.cmpback r2 ⟨v0, H2, J2, r2, q2⟩
    ·exact p.elim
   ·exact p.elim
  ·exact p.elim
def aEa (K : PySem.W.Frag) (C : Addr) : Bool := He.eqO (PySem.W.findIn K (.ref C) "__class__") (some (some (.builtin "object.__class__"))) && He.eqO (PySem.W.specialIn K (.builtin "object.__class__") "__get__") (some (some (.builtin "getset_descriptor.__get__"))) &&
 decide (PySem.W.takesIn K (.builtin "object.__class__") = some true) && decide (PySem.W.mroIn K C (.type "object") = some true)
theorem aDn {K : PySem.W.Frag} {C : Addr} (cl : Cls K C) (h : aEa K C = true) : OO K C := by
 unfold aEa at h
 simp only [aj, ak] at h
 obtain ⟨⟨⟨h1, h2⟩, h3⟩, h4⟩ := h
 exact ⟨cl, He.eqO_ok h1, He.eqO_ok h2, h3, h4⟩
def kcI (C : Addr) : xP → xP → Option Bool := fun t c => if t = .o C ∧ c = .o C then some true else none
theorem aEq {K : PySem.W.Frag} {C : Addr} (h : OO K C) : aEU K (kcI C) := by
 refine ⟨fun t c r e => ?_, fun C' c r e => ?_⟩
 ·unfold kcI at e
  split at e
  ·rename_i hh
   obtain ⟨rfl, rfl⟩ := hh
   cases e
   simp [PySem.W.kitOne, xP.v]
  ·cases e
 ·unfold kcI at e
  split at e
  ·rename_i hh
   obtain ⟨h1, rfl⟩ := hh
   cases h1
   exact h
  ·cases e
end Pc
namespace L2
open PySem PySem.Spec PyProof.Rows
def IL (p d : Addr) : HO := .ext fun h => h.IsValuesView p d
theorem aBG {P : Program} {w : World} {H : Hp} {h : Heap} {p d : Addr} (he : h.IsValuesView p d) : ObjOk P w H h p (IL p d) :=
 ⟨he, (let ⟨o, ho, _⟩ := he; ⟨o, ho⟩), fun h1 h2 z k => by
  obtain ⟨o, ho, r⟩ := z
  exact ⟨o, k _ ho, r⟩⟩
theorem aCy {P : Program} {w : World} {H : Hp} {h : Heap} {p d : Addr} (hok : HOk P w H h) (he : H p = some (IL p d)) : h.IsValuesView p d := by
 have x : ObjOk P w H h p (IL p d) := hok p _ he
 exact x.1
end L2
namespace Pc
open PySem PySem.Spec PyProof.Rows L2
def calm {α : Type} : Res α → Res α
 | .ok a w => .ok a w
 | _ => .bad
def Top (X : Cx) : Prop := X.stack = X.env :: X.outer ∧ X.env.frame = some X.env.locals
def JST (S : aQ) (st : Stmt) (m : MS) : Prop := ∀ X E, Ctx S X → rP X E → Top X → PS X st (OL X.K E m)
def aHf (S : aQ) (st : List Stmt) (m : MS) : Prop := ∀ X E, Ctx S X → rP X E → Top X → PSs X st (OL X.K E m)
theorem JS.t {S : aQ} {st : Stmt} {m : MS} (h : JS S st m) : JST S st m := fun X E cx xo _ => h X E cx xo
theorem q8.t {S : aQ} {st : List Stmt} {m : MS} (h : q8 S st m) : aHf S st m := fun X E cx xo _ => h X E cx xo
def xU (d : D) (w : W) : Res kL := match d with
 | .ref i => (match w[i]? with
  | some (.dT kvs) => .ok ⟨kvs.map fun p => .tup (p.1.map iB), always⟩ (w.set i (.dG kvs))
  | some (.dG kvs) => .ok ⟨kvs.map fun p => .tup (p.1.map iB), always⟩ w
  | _ => .bad)
 | _ => .bad
def vV (m : ME) : MI := fun σ w => (m σ w).bind xU
def aFb (te : TE) : TE := fun σ H Q => te σ H fun x H1 => ∃ d, x = V.ref d ∧ ((∃ kvs, H1 d = some (.dT kvs) ∧ ∀ o, Q x (upd H1 d (.frz o (.dT kvs)))) ∨ ∃ o kvs, H1 d = some (.frz o (.dT kvs)) ∧ Q x H1)
theorem aBg {X : Cx} {e : Expr} {te : TE} (h : PE X e te) : PE X e (aFb te) := ⟨fun pins s σ H Q J q => thn (h.run pins s σ H _ J q) fun u s1 ⟨x, H1, J1, r, d, ex, k⟩ => by
 rcases k with ⟨kvs, hd, k⟩ | ⟨o, kvs, hd, k⟩
 ·obtain ⟨o, J2⟩ := J1.lock hd trivial
  exact ⟨x, _, J2, r, k o⟩
 ·exact ⟨x, _, J1, r, k⟩⟩
theorem PQ {K : PySem.W.Frag} {I : List Addr} {F : Hp} : ∀ ks : List Key, RepL K I F (ks.map iB) (ks.map kV)
 | [] => by simp [RepL]
 | k :: ks => RepL.cons (CA k) (PQ ks)
theorem aAi {K : PySem.W.Frag} {I : List Addr} {F G H : Hp} {w : W} {ds : List D} {vs : List V} (rel : Rel K I F G w H) (r : ∀ F', RepL K I F' ds vs) {q : Addr} (hq : H q = some (.tup vs)) : ∃ F2, Ext I F I F2 ∧ Rel K I F2 G w H ∧ aF K I F2 (.tup ds) (.ref q) := by
 cases hF : F q with
 | some u =>
  have := rel.fz _ _ hF
  rw [hq] at this
  cases this
  refine ⟨F, .refl, rel, ?_⟩
  simp only [aF]
  exact ⟨q, vs, rfl, hF, r F⟩
 | none =>
  have e : Ext I F I (upd F q (.tup vs)) := ⟨List.prefix_refl _, fun a u h => by rw [upd_ne (ne_of_none h hF)]; exact h⟩
  refine ⟨_, e, ⟨rel.len, rel.nd, fun i a o h1 h2 => ?_, fun a u h => ?_, fun i a o h h0 hf => ?_, rel.gz, fun a u h => ?_, rel.gt⟩, ?_⟩
  ·obtain ⟨u, h3, h4⟩ := rel.ob i a o h1 h2
   exact ⟨u, h3, k9.ext e h4⟩
  ·by_cases ha : a = q
   ·subst ha; rw [upd_same] at h; cases h; exact hq
   ·rw [upd_ne ha] at h; exact rel.fz a u h
  ·have ha : a ≠ q := fun z => by
    subst z
    obtain ⟨u, h3, h4⟩ := rel.ob i a o h h0
    rw [hq] at h3
    cases h3
    cases o with
    | lst xs => obtain ⟨_, z, _⟩ := h4; cases z
    | dK xs => obtain ⟨_, z, _⟩ := h4; cases z
    | dT xs => obtain ⟨_, z, _⟩ := h4; cases z
    | dF xs => cases hf
    | dG xs => cases hf
    | ins C xs => obtain ⟨_, _, z, _⟩ := h4; cases z
   rw [upd_ne ha]; exact rel.ap i a o h h0 hf
  ·have ha : a ≠ q := fun z => by
    subst z
    have := rel.gz a u h
    rw [hq] at this
    cases this
    exact rel.gt a vs h
   rw [upd_ne ha]; exact rel.gf a u h
  ·simp only [aF]
   exact ⟨q, vs, rfl, upd_same, r _⟩
theorem XB {K : PySem.W.Frag} {I : List Addr} {F G H : Hp} {w : W} {i : Nat} {a : Addr} {kvs : List (List Key × D)} {r : List (List Key × V)} (o : Obj) (rel : Rel K I F G w H) (hi : I[i]? = some a) (hw : w[i]? = some (.dT kvs)) (hr : aS K I F kvs r) :
  Ext I F I (upd F a (.frz o (.dT r))) ∧ Rel K I (upd F a (.frz o (.dT r))) G (w.set i (.dG kvs)) (upd H a (.frz o (.dT r))) := by
 have hF : F a = none := rel.ap i a _ hi hw rfl
 have rel' := rel.upd (u' := .frz o (.dT r)) (o' := .dG kvs) hi hw ⟨o, r, rfl, hr⟩
 have e : Ext I F I (upd F a (.frz o (.dT r))) := ⟨List.prefix_refl _, fun b u h => by rw [upd_ne (ne_of_none h hF)]; exact h⟩
 refine ⟨e, rel'.len, rel'.nd, fun j b q h1 h2 => ?_, fun b u h => ?_, fun j b q h1 h2 h3 => ?_, rel'.gz, fun b u h => ?_, rel.gt⟩
 ·obtain ⟨u, h3, h4⟩ := rel'.ob j b q h1 h2
  exact ⟨u, h3, k9.ext e h4⟩
 ·by_cases hb : b = a
  ·subst hb; rw [upd_same] at h ⊢; exact h
  ·rw [upd_ne hb] at h; exact rel'.fz b u h
 ·have hb : b ≠ a := fun z => by
   subst z
   obtain ⟨l1, e1⟩ := ag.mp hi
   obtain ⟨l2, e2⟩ := ag.mp h1
   have hij : i = j := (List.getElem_inj rel.nd).mp (e1.trans e2.symm)
   subst hij
   rw [au (ag.mp hw).1] at h2
   cases h2
   cases h3
  rw [upd_ne hb]; exact rel'.ap j b q h1 h2 h3
 ·obtain ⟨g1, g2⟩ := rel.gf b u h
  have hb : b ≠ a := fun z => g2 (by rw [z]; exact bw hi)
  exact ⟨by rw [upd_ne hb]; exact g1, g2⟩
theorem aAK {K : PySem.W.Frag} {I : List Addr} {F G H : Hp} {w : W} {i : Nat} {a : Addr} {kvs : List (List Key × D)} {o : Obj} {r : List (List Key × V)} (rel : Rel K I F G w H) (hi : I[i]? = some a) (hw : w[i]? = some (.dG kvs)) (ha : H a = some (.frz o (.dT r))) :
  ∃ F2, Ext I F I F2 ∧ Rel K I F2 G w H ∧ F2 a = some (.frz o (.dT r)) := by
 cases hF : F a with
 | some u =>
  have := rel.fz _ _ hF
  rw [ha] at this
  cases this
  exact ⟨F, .refl, rel, hF⟩
 | none =>
  have e : Ext I F I (upd F a (.frz o (.dT r))) := ⟨List.prefix_refl _, fun b u h => by rw [upd_ne (ne_of_none h hF)]; exact h⟩
  refine ⟨_, e, ⟨rel.len, rel.nd, fun j b q h1 h2 => ?_, fun b u h => ?_, fun j b q h1 h2 h3 => ?_, rel.gz, fun b u h => ?_, rel.gt⟩, upd_same⟩
  ·obtain ⟨u, h3, h4⟩ := rel.ob j b q h1 h2
   exact ⟨u, h3, k9.ext e h4⟩
  ·by_cases hb : b = a
   ·subst hb; rw [upd_same] at h; cases h; exact ha
   ·rw [upd_ne hb] at h; exact rel.fz b u h
  ·have hb : b ≠ a := fun z => by
    subst z
    obtain ⟨l1, e1⟩ := ag.mp hi
    obtain ⟨l2, e2⟩ := ag.mp h1
    have hij : i = j := (List.getElem_inj rel.nd).mp (e1.trans e2.symm)
    subst hij
    rw [hw] at h2
    cases h2
    cases h3
   rw [upd_ne hb]; exact rel.ap j b q h1 h2 h3
  ·obtain ⟨g1, g2⟩ := rel.gf b u h
   have hb : b ≠ a := fun z => g2 (by rw [z]; exact bw hi)
   exact ⟨by rw [upd_ne hb]; exact g1, g2⟩
theorem U3 {K : PySem.W.Frag} {I1 : List Addr} {F2 : Hp} {a : Addr} {o : Obj} {kvs : List (List Key × D)} {r : List (List Key × V)} (hF : F2 a = some (.frz o (.dT r))) (hr : aS K I1 F2 kvs r) : xK K I1 F2 (Itkt a o r) ⟨kvs.map fun p => .tup (p.1.map iB), always⟩ := fun I' F' G' w' H' j e' rel' _ => by
 have hH : H' a = some (.frz o (.dT r)) := rel'.fz _ _ (e'.f _ _ hF)
 have hr' := aS.ext e' _ _ hr
 have hlen : kvs.length = r.length := hr.length
 refine ⟨fun x hx => ?_, fun hl' => ⟨hH, by rw [ao] at hl'; omega⟩⟩
 rw [bz] at hx
 cases hk : kvs[j]? with
 | none => rw [hk] at hx; cases hx
 | some kd =>
  rw [hk] at hx
  cases hx
  refine ⟨⟨hH, by rw [← hlen]; exact (ag.mp hk).1⟩, fun v H'' y => ?_⟩
  obtain ⟨rfl, k, v', q, g1, rfl, g2⟩ := y
  obtain ⟨d', g3, _⟩ := hr'.get g1
  rw [hk] at g3
  cases g3
  exact aAi rel' (fun F' => PQ k) g2
theorem aB2 {S : aQ} {tg e : Expr} {m : ME} (he : JE S e m) : JI S tg e (vV m) := fun X E cx xo =>
 pL (pi_keys (aBg (he X E cx xo))) fun σ H R ⟨I, F, G, ds, w, rel, rs, p⟩ => bM (f := fun _ => xU) rel rs p fun I1 F1 H1 d w1 v e1 rel1 rs1 rv p1 => by
  unfold xU at p1
  split at p1
  ·rename_i i
   simp only [aF] at rv
   obtain ⟨a, rfl, hi⟩ := rv
   split at p1
   ·rename_i kvs hw
    obtain ⟨u, hu, r, rfl, hr⟩ := rel1.ob i a _ hi hw
    refine ⟨a, rfl, .inl ⟨r, hu, fun o => ⟨a, o, rfl, .inr ⟨r, upd_same, ?_⟩⟩⟩⟩
    obtain ⟨e2, rel2⟩ := XB o rel1 hi hw hr
    exact p1 I1 _ _ e2 rel2 trivial _ (U3 upd_same (aS.ext e2 _ _ hr))
   ·rename_i kvs hw
    obtain ⟨u, hu, o, r, rfl, hr⟩ := rel1.ob i a _ hi hw
    refine ⟨a, rfl, .inr ⟨o, r, hu, a, o, rfl, .inr ⟨r, hu, ?_⟩⟩⟩
    obtain ⟨F2, e2, rel2, hF2⟩ := aAK rel1 hi hw hu
    exact p1 I1 F2 _ e2 rel2 trivial _ (U3 hF2 (aS.ext e2 _ _ hr))
   ·exact p1.elim
  ·exact p1.elim
abbrev Ez : XK := fun _ _ _ => False
theorem a7.calm {α β : Type} {K : PySem.W.Frag} {I : List Addr} {F G : Hp} {E : XK} {R : List Addr → Hp → Hp → β → W → Prop} {r : Res α} {f : α → W → Res β} (p : a7 K I F G E R ((Pc.calm r).bind f)) : a7 K I F G Ez (fun I1 F1 _ x w1 => a7 K I1 F1 G E R (f x w1)) r := by
 cases r with
 | ok a w => exact fun I' F' H' e rel => a7.ext p e
 | HF x w => exact False.elim p
 | bad => exact False.elim p
theorem Rel.hold {K : PySem.W.Frag} {I : List Addr} {F G H : Hp} {w : W} {x : XD} {c : Value} {d : Option Addr} (rel : Rel K I F G w H) (rx : GR K I F H x c d) :
  ∃ G', Rel K I F G' w H ∧ (∀ I2 F2 w2 H2, Ext I F I2 F2 → Rel K I2 F2 G' w2 H2 → Rel K I2 F2 G w2 H2 ∧ GR K I2 F2 H2 x c d) := by
 obtain ⟨ec, hx⟩ := rx
 cases hf : x.fs with
 | none =>
  rw [hf] at hx
  exact ⟨G, rel, fun I2 F2 w2 H2 e r2 => ⟨r2, ec, by rw [hf]; exact hx⟩⟩
 | some fs =>
  rw [hf] at hx
  obtain ⟨a, r, e1, e2, e3⟩ := hx
  have fin : ∀ {I2 F2 H2}, Ext I F I2 F2 → H2 a = some (.xd r) → GR K I2 F2 H2 x c d := fun e h => ⟨ec, by rw [hf]; exact ⟨a, r, e1, h, aS.ext e _ _ e3⟩⟩
  have nI : a ∉ I := fun hm => by
   obtain ⟨i, hi⟩ := List.mem_iff_getElem?.mp hm
   have li : i < w.length := by rw [← rel.len]; exact (ag.mp hi).1
   obtain ⟨u, h1, h2⟩ := rel.ob i a w[i] hi (br li)
   rw [e2] at h1
   cases h1
   cases hw : w[i] with
   | lst xs => rw [hw] at h2; obtain ⟨_, z, _⟩ := h2; cases z
   | dK xs => rw [hw] at h2; obtain ⟨_, z, _⟩ := h2; cases z
   | dT xs => rw [hw] at h2; obtain ⟨_, z, _⟩ := h2; cases z
   | dF xs => rw [hw] at h2; obtain ⟨_, _, z, _⟩ := h2; cases z
   | dG xs => rw [hw] at h2; obtain ⟨_, _, z, _⟩ := h2; cases z
   | ins C xs => rw [hw] at h2; obtain ⟨_, _, z, _⟩ := h2; cases z
  cases hF : F a with
  | some u =>
   have hu := rel.fz a u hF
   rw [e2] at hu
   cases hu
   exact ⟨G, rel, fun I2 F2 w2 H2 e r2 => ⟨r2, fin e (r2.fz a _ (e.f a _ hF))⟩⟩
  | none =>
   cases hG : G a with
   | some u =>
    have hu := rel.gz a u hG
    rw [e2] at hu
    cases hu
    exact ⟨G, rel, fun I2 F2 w2 H2 e r2 => ⟨r2, fin e (r2.gz a _ hG)⟩⟩
   | none =>
    refine ⟨L2.upd G a (.xd r), ⟨rel.len, rel.nd, rel.ob, rel.fz, rel.ap, fun b v hb => ?_, fun b v hb => ?_, fun b xs hb => ?_⟩, fun I2 F2 w2 H2 e r2 => ⟨r2.less hG, fin e (r2.gz a _ upd_same)⟩⟩
    ·by_cases q : b = a
     ·subst q
      rw [upd_same] at hb
      cases hb
      exact e2
     ·rw [upd_ne q] at hb
      exact rel.gz b v hb
    ·by_cases q : b = a
     ·subst q
      exact ⟨hF, nI⟩
     ·rw [upd_ne q] at hb
      exact rel.gf b v hb
    ·by_cases q : b = a
     ·subst q
      rw [upd_same] at hb
      cases hb
     ·rw [upd_ne q] at hb
      exact rel.gt b xs hb
end Pc
namespace L2
open PySem PySem.Spec PyProof.Rows
theorem item_at {its : List Value} {ns : List Int} (h : IntsAre its ns) {j : Nat} (hj : j < its.toArray.size) : ∃ t, its.toArray[j] = .int (ns.getD j 0) t := PyProof.Rows.IntsAre.int_at h _ _ (by rw [List.size_toArray] at hj; simp [hj])
end L2
namespace Pc
open PySem PySem.Spec PyProof.Rows L2
def aBI (K : PySem.W.Frag) : Prop := ∃ o, K.lookup sysModules = some o ∧ o.cls = .type "dict"
mutual
inductive Dq (K : PySem.W.Frag) (H : Hp) : V → PyData → Prop
 | non : Dq K H .non .none
 | bl (b : Bool) : Dq K H (.bl b) (.bool b)
 | int (i : Int) : Dq K H (.int i) (.int i)
 | str (x : Str) : Dq K H (.str x) (.str x)
 | lst {a : Addr} {xs : List V} {ds : List PyData} : SqL K H a xs → DqAll K H xs ds → Dq K H (.ref a) (.list ds)
 | tup {a : Addr} {xs : List V} {ds : List PyData} : SqT K H a xs → DqAll K H xs ds → Dq K H (.ref a) (.tuple ds)
 | emp {a : Addr} : (H a = some (.dK []) ∨ H a = some (.dT [])) → Dq K H (.ref a) (.dict [])
inductive DqAll (K : PySem.W.Frag) (H : Hp) : List V → List PyData → Prop
 | nil : DqAll K H [] []
 | cons {v : V} {vs : List V} {d : PyData} {ds : List PyData} : Dq K H v d → DqAll K H vs ds → DqAll K H (v :: vs) (d :: ds)
end
theorem aCS {P : Program} {w : World} {H : Hp} {h : Heap} {a : Addr} {o : HO} (x : ObjOk P w H h a o) (e : o = .dK [] ∨ o = .dT []) : (a == sysModules) = false ∧ ∃ ob es n, h.get? a = some ob ∧ ob.cls = .type "dict" ∧ ob.data = .dict es n ∧ es.toList = [] := by
 rcases e with rfl | rfl
 ·obtain ⟨_, ns, vs, kv, o, es, n, e1, e2, e3, e4, e5⟩ := x
  cases kv
  have e6 := e5.1
  refine ⟨ns, o, es, n, e1, e2.1, e3, ?_⟩
  generalize es.toList = l at e6
  cases l with
  | nil => rfl
  | cons x l => cases e6
 ·obtain ⟨_, ns, xs, pr, o, es, n, e1, e2, e3, e4, e5⟩ := x
  cases pr
  exact ⟨ns, o, es, n, e1, e2.1, e3, by rw [e4]; rfl⟩
section
variable {X : Cx} {pins : List (Addr × Obj)} {σ : L2.St} {H : Hp} {s : Shared}
mutual
theorem Dq.reads (hS : aBI X.K) (I : Inv X pins σ H s) : ∀ (d : PyData) (v : V) (u : Value), Dq X.K H v d → RelV v u → ∃ as, Reads s.heap u d as ∧ sysModules ∉ as
 | .none, _, _, h, r => by
  cases h
  cases r
  exact ⟨_, Reads.none, by simp⟩
 | .bool b, _, _, h, r => by
  cases h
  cases r
  exact ⟨_, Reads.bool b, by simp⟩
 | .int i, _, _, h, r => by
  cases h
  obtain ⟨t, rfl⟩ := r
  exact ⟨_, Reads.int i t, by simp⟩
 | .str x, _, _, h, r => by
  cases h
  obtain ⟨t, rfl⟩ := r
  exact ⟨_, Reads.str x t, by simp⟩
 | .list ds, _, _, h, r => by
  cases h with
  | lst hs ha =>
   cases r
   obtain ⟨its, rv, ⟨o, n, ho, hc, _, hd⟩, _⟩ := I.list hs
   obtain ⟨as, hr, ns⟩ := Dq.readsAll hS I ds _ its ha rv
   refine ⟨_, Reads.list ho hc hd hr, fun hm => ?_⟩
   rcases bg.mp hm with e | e
   ·obtain ⟨o2, h1, h2⟩ := hS
    have := I.kIn _ _ h1
    rw [e, ho] at this
    cases this
    rw [h2] at hc
    exact absurd (Value.type.inj hc) (by decide)
   ·exact ns e
 | .tuple ds, _, _, h, r => by
  cases h with
  | tup hs ha =>
   cases r
   obtain ⟨its, rv, ⟨o, ho, hc, n, hd⟩, _⟩ := I.tuple hs
   obtain ⟨as, hr, ns⟩ := Dq.readsAll hS I ds _ its ha rv
   exact ⟨_, Reads.tuple ho hc hd hr, ns⟩
 | .dict kvs, _, _, h, r => by
  cases h with
  | emp he =>
   cases r
   rename_i a
   have hx : ∃ o, H a = some o ∧ (o = .dK [] ∨ o = .dT []) := by
    rcases he with he | he
    ·exact ⟨_, he, .inl rfl⟩
    ·exact ⟨_, he, .inr rfl⟩
   obtain ⟨o, h1, h2⟩ := hx
   obtain ⟨ne, ob, es, n, e1, e2, e3, e4⟩ := aCS (I.hok a o h1) h2
   have r0 : ReadsAll s.heap (es.toList.map (·.key)) (([] : List (PyData × PyData)).map (·.1)) [] := by rw [e4]; exact .nil
   have r1 : ReadsAll s.heap (es.toList.map (·.val)) (([] : List (PyData × PyData)).map (·.2)) [] := by rw [e4]; exact .nil
   refine ⟨_, Reads.dict e1 e2 e3 r0 r1, fun hm => ?_⟩
   have : sysModules = a := by simpa using hm
   rw [← this] at ne
   simp at ne
theorem Dq.readsAll (hS : aBI X.K) (I : Inv X pins σ H s) : ∀ (ds : List PyData) (vs : List V) (us : List Value), DqAll X.K H vs ds → Vals vs us → ∃ as, ReadsAll s.heap us ds as ∧ sysModules ∉ as
 | [], _, _, h, r => by
  cases h
  cases r
  exact ⟨_, ReadsAll.nil, by simp⟩
 | d :: ds, _, _, h, r => by
  cases h with
  | cons h1 h2 =>
   cases r with
   | cons r1 r2 =>
    obtain ⟨as, q1, n1⟩ := Dq.reads hS I d _ _ h1 r1
    obtain ⟨bs, q2, n2⟩ := Dq.readsAll hS I ds _ _ h2 r2
    exact ⟨_, ReadsAll.cons q1 q2, fun hm => by
     rcases cf.mp hm with e | e
     ·exact n1 e
     ·exact n2 e⟩
end
end
section
variable {K : PySem.W.Frag} {I : List Addr} {F G H : Hp} {w : W}
mutual
theorem aER (rel : Rel K I F G w H) {f : Nat → Option PyData} (hf : ∀ i a p, I[i]? = some a → f i = some p → Dq K H (.ref a) p) : ∀ (d : D) (v : V) (p : PyData), aF K I F d v → d.fZ f = some p → Dq K H v p
 | .non, v, p, h, e => by simp only [aF] at h; simp only [D.fZ, ah] at e; subst h; subst e; exact .non
 | .bl b, v, p, h, e => by simp only [aF] at h; simp only [D.fZ, ah] at e; subst h; subst e; exact .bl b
 | .int i, v, p, h, e => by simp only [aF] at h; simp only [D.fZ, ah] at e; subst h; subst e; exact .int i
 | .str x, v, p, h, e => by simp only [aF] at h; simp only [D.fZ, ah] at e; subst h; subst e; exact .str x
 | .ty _, v, p, h, e => by simp [D.fZ] at e
 | .con _, v, p, h, e => by simp [D.fZ] at e
 | .H0 _ _, v, p, h, e => by simp [D.fZ] at e
 | .tup xs, v, p, h, e => by
  simp only [aF] at h
  obtain ⟨a, vs, rfl, h2, h3⟩ := h
  simp only [D.fZ, ai] at e
  obtain ⟨ps, e1, rfl⟩ := e
  exact .tup (.of (rel.fz _ _ h2)) (dq_pysR rel hf xs vs ps h3 e1)
 | .jA xs, v, p, h, e => by
  simp only [aF] at h
  obtain ⟨a, vs, rfl, h2, h3⟩ := h
  simp only [D.fZ, ai] at e
  obtain ⟨ps, e1, rfl⟩ := e
  exact .tup (rel.K2 h2) (dq_pysR rel hf xs vs ps h3 e1)
 | .lst xs, v, p, h, e => by
  simp only [aF] at h
  obtain ⟨a, vs, rfl, h2, h3⟩ := h
  simp only [D.fZ, ai] at e
  obtain ⟨ps, e1, rfl⟩ := e
  exact .lst (.of (rel.fz _ _ h2)) (dq_pysR rel hf xs vs ps h3 e1)
 | .qG xs, v, p, h, e => by
  simp only [aF] at h
  obtain ⟨a, vs, rfl, h2, h3⟩ := h
  simp only [D.fZ, ai] at e
  obtain ⟨ps, e1, rfl⟩ := e
  exact .lst (rel.XY h2) (dq_pysR rel hf xs vs ps h3 e1)
 | .ref i, v, p, h, e => by
  simp only [aF] at h
  obtain ⟨a, rfl, h2⟩ := h
  simp only [D.fZ] at e
  exact hf i a p h2 e
theorem dq_pysR (rel : Rel K I F G w H) {f : Nat → Option PyData} (hf : ∀ i a p, I[i]? = some a → f i = some p → Dq K H (.ref a) p) : ∀ (ds : List D) (vs : List V) (ps : List PyData), RepL K I F ds vs → D.pysR f ds = some ps → DqAll K H vs ps
 | [], vs, ps, h, e => by simp only [RepL] at h; simp only [D.pysR, ah] at e; subst h; subst e; exact .nil
 | d :: ds, vs, ps, h, e => by
  simp only [RepL] at h
  obtain ⟨v, r, rfl, h2, h3⟩ := h
  simp only [D.pysR] at e
  split at e
  ·rename_i p ps' e1 e2
   cases e
   exact .cons (aER rel hf d v p h2 e1) (dq_pysR rel hf ds r ps' h3 e2)
  ·cases e
end
end
def sN : MF := fun ds w => match ds with
 | [.int i] => if i.natAbs.log2 < 1920 then .ok (.str (toString i)) w else .bad
 | [.str a] => .ok (.str a) w
 | _ => .bad
theorem AX {S : aQ} : CB S (.type "str") sN := sR fun X E c xo I F G ds w H vs Q rel rl p => by
 unfold sN at p
 split at p
 ·rename_i i
  obtain ⟨v, rfl, rv⟩ := rl.one
  simp only [aF] at rv
  subst rv
  split at p
  ·rename_i hi
   exact ⟨_, call_str_int, i, rfl, hi, p.mU rel (by simp [aF])⟩
  ·exact p.elim
 ·rename_i a
  obtain ⟨v, rfl, rv⟩ := rl.one
  simp only [aF] at rv
  subst rv
  exact ⟨_, SkE.call_str_str, a, rfl, p.mU rel (by simp [aF])⟩
 ·exact p.elim
def EN : MF := fun ds w => match ds with
 | [.ref i] => (match w[i]? with
  | some (.dT kvs) => .ok (.int ((kvs.length : Nat) : Int)) w
  | _ => .bad)
 | _ => .bad
theorem ZS {S : aQ} : CB S (.builtin "len") EN := sR fun X E c xo I F G ds w H vs Q rel rl p => by
 unfold EN at p
 split at p
 ·rename_i i
  obtain ⟨v, rfl, rv⟩ := rl.one
  simp only [aF] at rv
  obtain ⟨a, rfl, hi⟩ := rv
  split at p
  ·rename_i kvs hw
   obtain ⟨u, hu, r, rfl, hr⟩ := rel.ob i a _ hi hw
   refine ⟨_, call_len_dT, a, r, rfl, hu, p.mU rel ?_⟩
   rw [← aS.len hr]
   simp [aF]
  ·exact p.elim
 ·exact p.elim
def CD : List D → Option (List PyData)
 | [] => some []
 | .int i :: ds => (CD ds).map fun ps => .int i :: ps
 | .str x :: ds => (CD ds).map fun ps => .str x :: ps
 | _ :: _ => none
mutual
def D.VW (f : Nat → Option PyData) : D → Option PyData
 | .non => some .none
 | .bl b => some (.bool b)
 | .int i => some (.int i)
 | .str x => some (.str x)
 | .ty _ => none
 | .con _ => none
 | .tup xs => (D.pysV f xs).map .tuple
 | .jA xs => (D.pysV f xs).map .tuple
 | .lst xs => (D.pysV f xs).map .list
 | .qG xs => (D.pysV f xs).map .list
 | .H0 ks vs => (match CD ks, D.pysV f vs with
  | some kp, some vp => if kp.length = vp.length then some (.dict (kp.zip vp)) else none
  | _, _ => none)
 | .ref i => f i
def D.pysV (f : Nat → Option PyData) : List D → Option (List PyData)
 | [] => some []
 | d :: ds => match D.VW f d, D.pysV f ds with
  | some p, some ps => some (p :: ps)
  | _, _ => none
end
theorem S4 {d : D} {ds : List D} {kp : List PyData} (h : CD (d :: ds) = some kp) : ∃ p ps, kp = p :: ps ∧ CD ds = some ps ∧ ((∃ i, d = .int i ∧ p = .int i) ∨ ∃ x, d = .str x ∧ p = .str x) := by
 cases d <;> simp only [CD, ai, reduceCtorEq] at h
 ·obtain ⟨ps, h1, rfl⟩ := h
  exact ⟨_, ps, rfl, h1, .inl ⟨_, rfl, rfl⟩⟩
 ·obtain ⟨ps, h1, rfl⟩ := h
  exact ⟨_, ps, rfl, h1, .inr ⟨_, rfl, rfl⟩⟩
theorem BY {h : Heap} {P : Program} {w : World} {K : PySem.W.Frag} {I : List Addr} {F : Hp} : ∀ {ks : List D} {kp : List PyData} {kvs : List (Key × V)} {kvs2 : List (Key × Value)} {es : List DictEntry}, CD ks = some kp → RepL K I F ks (kvs.map fun p => kV p.1) → KV kvs kvs2 → Pairs (mixKind P w) es kvs2 → ReadsAll h (es.map (·.key)) kp []
 | [], kp, kvs, kvs2, es, e, r, kv, ps => by
  simp only [CD, ah] at e
  subst e
  simp only [RepL, List.map_eq_nil_iff] at r
  subst r
  cases kv
  cases ps
  exact .nil
 | d :: ds, kp, kvs, kvs2, es, e, r, kv, ps => by
  obtain ⟨p, pp, rfl, e2, e3⟩ := S4 e
  cases kvs with
  | nil => simp only [List.map_nil, RepL] at r; obtain ⟨_, _, z, _⟩ := r; cases z
  | cons kv1 kvs =>
   simp only [List.map_cons, RepL] at r
   obtain ⟨v, t, z, r1, r2⟩ := r
   cases z
   cases kv with
   | cons k1 k2 =>
    cases ps with
    | @cons en kv0 es0 kvs0 p1 p2 p3 =>
     have ih := BY (h := h) e2 r2 k2 p3
     have hp : Reads h en.key p [] := by
      obtain ⟨q1, q2⟩ := k1
      obtain ⟨k, v0⟩ := kv1
      simp only at q1
      subst q1
      rcases keyIs_shape p1 with ⟨i, t, e5, e6⟩ | ⟨x, t, e5, e6⟩
      ·rw [e6]
       simp only [e5] at r1
       rcases e3 with ⟨j, rfl, rfl⟩ | ⟨x, rfl, rfl⟩
       ·simp only [aF, kV, V.int.injEq] at r1
        subst r1
        exact Reads.int _ t
       ·simp [aF, kV] at r1
      ·rw [e6]
       simp only [e5] at r1
       rcases e3 with ⟨j, rfl, rfl⟩ | ⟨y, rfl, rfl⟩
       ·simp [aF, kV] at r1
       ·simp only [aF, kV, V.str.injEq] at r1
        subst r1
        exact Reads.str _ t
     exact ReadsAll.cons (as := []) (bs := []) hp ih
theorem VA {P : Program} {w : World} : ∀ {kvs : List (Key × V)} {kvs2 : List (Key × Value)} {es : List DictEntry}, KV kvs kvs2 → Pairs (mixKind P w) es kvs2 → Vals (kvs.map fun p => p.2) (es.map (·.val))
 | [], _, _, kv, ps => by
  cases kv
  cases ps
  exact .nil
 | p :: kvs, _, _, kv, ps => by
  cases kv with
  | cons k1 k2 =>
   cases ps with
   | cons p1 p2 p3 =>
    exact .cons (by show L2.RelV p.2 (DictEntry.val _); rw [p2]; exact k1.2) (VA k2 p3)
section
variable {X : Cx} {pins : List (Addr × Obj)} {σ : L2.St} {H : Hp} {s : Shared} {I : List Addr} {F G : Hp} {w : W}
mutual
theorem WK (hS : aBI X.K) (J : Inv X pins σ H s) (rel : Rel X.K I F G w H) {f : Nat → Option PyData} (hf : ∀ i a p, I[i]? = some a → f i = some p → ∃ as, Reads s.heap (.ref a) p as ∧ sysModules ∉ as) : ∀ (d : D) (v : V) (u : Value) (p : PyData), aF X.K I F d v → RelV v u → d.VW f = some p → ∃ as, Reads s.heap u p as ∧ sysModules ∉ as
 | .non, v, u, p, h, r, e => by
  simp only [aF] at h
  simp only [D.VW, ah] at e
  subst h e
  cases r
  exact ⟨_, Reads.none, by simp⟩
 | .bl b, v, u, p, h, r, e => by
  simp only [aF] at h
  simp only [D.VW, ah] at e
  subst h e
  cases r
  exact ⟨_, Reads.bool b, by simp⟩
 | .int i, v, u, p, h, r, e => by
  simp only [aF] at h
  simp only [D.VW, ah] at e
  subst h e
  obtain ⟨t, rfl⟩ := r
  exact ⟨_, Reads.int i t, by simp⟩
 | .str x, v, u, p, h, r, e => by
  simp only [aF] at h
  simp only [D.VW, ah] at e
  subst h e
  obtain ⟨t, rfl⟩ := r
  exact ⟨_, Reads.str x t, by simp⟩
 | .ty _, v, u, p, h, r, e => by simp [D.VW] at e
 | .con _, v, u, p, h, r, e => by simp [D.VW] at e
 | .tup xs, v, u, p, h, r, e => by
  simp only [aF] at h
  obtain ⟨a, vs, rfl, h2, h3⟩ := h
  simp only [D.VW, ai] at e
  obtain ⟨ps, e1, rfl⟩ := e
  cases r
  obtain ⟨its, rv, ⟨o, ho, hc, n, hd⟩, _⟩ := J.tuple (show SqT X.K H a vs from .of (rel.fz _ _ h2))
  obtain ⟨as, hr, ns⟩ := pysV_reads hS J rel hf xs vs its ps h3 rv e1
  exact ⟨_, Reads.tuple ho hc hd hr, ns⟩
 | .jA xs, v, u, p, h, r, e => by
  simp only [aF] at h
  obtain ⟨a, vs, rfl, h2, h3⟩ := h
  simp only [D.VW, ai] at e
  obtain ⟨ps, e1, rfl⟩ := e
  cases r
  obtain ⟨its, rv, ⟨o, ho, hc, n, hd⟩, _⟩ := J.tuple (rel.K2 h2)
  obtain ⟨as, hr, ns⟩ := pysV_reads hS J rel hf xs vs its ps h3 rv e1
  exact ⟨_, Reads.tuple ho hc hd hr, ns⟩
 | .lst xs, v, u, p, h, r, e => by
  simp only [aF] at h
  obtain ⟨a, vs, rfl, h2, h3⟩ := h
  simp only [D.VW, ai] at e
  obtain ⟨ps, e1, rfl⟩ := e
  cases r
  obtain ⟨its, rv, ⟨o, n, ho, hc, _, hd⟩, _⟩ := J.list (show SqL X.K H a vs from .of (rel.fz _ _ h2))
  obtain ⟨as, hr, ns⟩ := pysV_reads hS J rel hf xs vs its ps h3 rv e1
  refine ⟨_, Reads.list ho hc hd hr, fun hm => ?_⟩
  rcases bg.mp hm with e | e
  ·obtain ⟨o2, h1, h2⟩ := hS
   have := J.kIn _ _ h1
   rw [e, ho] at this
   cases this
   rw [h2] at hc
   exact absurd (Value.type.inj hc) (by decide)
  ·exact ns e
 | .qG xs, v, u, p, h, r, e => by
  simp only [aF] at h
  obtain ⟨a, vs, rfl, h2, h3⟩ := h
  simp only [D.VW, ai] at e
  obtain ⟨ps, e1, rfl⟩ := e
  cases r
  obtain ⟨its, rv, ⟨o, n, ho, hc, _, hd⟩, _⟩ := J.list (rel.XY h2)
  obtain ⟨as, hr, ns⟩ := pysV_reads hS J rel hf xs vs its ps h3 rv e1
  refine ⟨_, Reads.list ho hc hd hr, fun hm => ?_⟩
  rcases bg.mp hm with e | e
  ·obtain ⟨o2, h1, h2⟩ := hS
   have := J.kIn _ _ h1
   rw [e, ho] at this
   cases this
   rw [h2] at hc
   exact absurd (Value.type.inj hc) (by decide)
  ·exact ns e
 | .H0 ks xs, v, u, p, h, r, e => by
  simp only [aF] at h
  obtain ⟨a, kvs, rfl, h2, h3, h4⟩ := h
  simp only [D.VW] at e
  split at e
  ·rename_i kp vp e1 e2
   split at e
   ·rename_i el
    cases e
    cases r
    have hx : ∃ u, H a = some u ∧ (u = .dK kvs ∨ ∃ o, u = .frz o (.dK kvs)) := by
     rcases h2 with h2 | ⟨o, h2⟩
     ·exact ⟨_, rel.fz _ _ h2, .inl rfl⟩
     ·exact ⟨_, rel.fz _ _ h2, .inr ⟨o, rfl⟩⟩
    obtain ⟨u, h5, h6⟩ := hx
    have ok := J.hok a u h5
    have ok2 : ObjOk X.prog X.w H s.heap a (.dK kvs) := by
     rcases h6 with rfl | ⟨o, rfl⟩
     ·exact ok
     ·exact ok.2
    obtain ⟨_, ns, kv2, kv, o, es, n, q1, q2, q3, q4, q5, q6⟩ := ok2
    have rk := BY (h := s.heap) e1 h3 kv q5
    have hv : Vals (kvs.map fun p => p.2) (es.toList.map (·.val)) := VA kv q5
    obtain ⟨as, hr, ns2⟩ := pysV_reads hS J rel hf xs _ _ vp h4 hv e2
    have f1 : ((kp.zip vp).map fun p => p.1) = kp := by
     rw [List.map_fst_zip]
     omega
    have f2 : ((kp.zip vp).map fun p => p.2) = vp := by
     rw [List.map_snd_zip]
     omega
    refine ⟨_, Reads.dict (kvs := kp.zip vp) q1 q2.1 q3 (by rw [f1]; exact rk) (by rw [f2]; exact hr), fun hm => ?_⟩
    simp only [List.append_nil, List.cons_append, bg] at hm
    rcases hm with e | e
    ·rw [← e] at ns
     simp at ns
    ·exact ns2 e
   ·cases e
  ·cases e
 | .ref i, v, u, p, h, r, e => by
  simp only [aF] at h
  obtain ⟨a, rfl, h2⟩ := h
  simp only [D.VW] at e
  cases r
  exact hf i a p h2 e
theorem pysV_reads (hS : aBI X.K) (J : Inv X pins σ H s) (rel : Rel X.K I F G w H) {f : Nat → Option PyData} (hf : ∀ i a p, I[i]? = some a → f i = some p → ∃ as, Reads s.heap (.ref a) p as ∧ sysModules ∉ as) : ∀ (ds : List D) (vs : List V) (us : List Value) (ps : List PyData), RepL X.K I F ds vs → Vals vs us → D.pysV f ds = some ps → ∃ as, ReadsAll s.heap us ps as ∧ sysModules ∉ as
 | [], vs, us, ps, h, r, e => by
  simp only [RepL] at h
  simp only [D.pysV, ah] at e
  subst h e
  cases r
  exact ⟨_, ReadsAll.nil, by simp⟩
 | d :: ds, vs, us, ps, h, r, e => by
  simp only [RepL] at h
  obtain ⟨v, t, rfl, h2, h3⟩ := h
  simp only [D.pysV] at e
  split at e
  ·rename_i p ps' e1 e2
   cases e
   cases r with
   | cons r1 r2 =>
    obtain ⟨as, q1, n1⟩ := WK hS J rel hf d v _ p h2 r1 e1
    obtain ⟨bs, q2, n2⟩ := pysV_reads hS J rel hf ds t _ ps' h3 r2 e2
    exact ⟨_, ReadsAll.cons q1 q2, fun hm => by
     rcases cf.mp hm with e | e
     ·exact n1 e
     ·exact n2 e⟩
  ·cases e
end
end
def zI : List D → Option (List Str)
 | [] => some []
 | .str x :: ds => (zI ds).map fun xs => x :: xs
 | _ :: _ => none
theorem JM {K : PySem.W.Frag} {I : List Addr} {F : Hp} : ∀ {ds : List D} {vs : List V} {ys : List Str}, RepL K I F ds vs → zI ds = some ys → vs = ys.map V.str
 | [], vs, ys, r, e => by
  simp only [zI, ah] at e
  subst e
  simp only [RepL] at r
  exact r
 | d :: ds, vs, ys, r, e => by
  cases d <;> simp only [zI, ai, reduceCtorEq] at e
  rename_i x
  obtain ⟨xs, e1, rfl⟩ := e
  simp only [RepL, aF] at r
  obtain ⟨v, t, rfl, rfl, r2⟩ := r
  rw [List.map_cons, JM r2 e1]
theorem N8 {K : PySem.W.Frag} {I : List Addr} {F : Hp} : ∀ ys : List Str, RepL K I F (ys.map D.str) (ys.map V.str)
 | [] => by simp [RepL]
 | y :: ys => RepL.cons (by simp [aF]) (N8 ys)
def joinM : WC := fun d ds w => match d, ds with
 | .str a, [y] => (match (y.items w).bind zI with
  | some ys => if (ys.map (·.length)).sum + ys.length * a.length ≤ 16777216 then .ok (.str (Txt.join a ys)) w else .bad
  | none => .bad)
 | _, _ => .bad
theorem vY {S : aQ} : MB S "str.join" joinM := FG fun X E c xo I F G d ds w H x vs Q rel rd rl p => by
 unfold joinM at p
 split at p
 ·rename_i a y
  simp only [aF] at rd
  subst rd
  obtain ⟨v, rfl, rv⟩ := rl.one
  split at p
  ·rename_i ys hy
   obtain ⟨xs, h1, h2⟩ := cj.mp hy
   obtain ⟨b, us, rfl, h3, h4⟩ := G5 rel rv h1
   obtain rfl := JM h4 h2
   split at p
   ·rename_i hz
    exact ⟨_, mt_join, a, b, ys, rfl, rfl, h3, hz, p.mU rel (by simp [aF])⟩
   ·exact p.elim
  ·exact p.elim
 ·exact p.elim
def splitM : WC := fun d ds w => match d, ds with
 | .str a, [.str b] => if (b.length == 0) = false ∧ a.length + 2 ≤ sizeLine then .ok (.lst ((Txt.split a b).map D.str)) w else .bad
 | _, _ => .bad
theorem OV {S : aQ} : MB S "str.split" splitM := FG fun X E c xo I F G d ds w H x vs Q rel rd rl p => by
 unfold splitM at p
 split at p
 ·rename_i a b
  simp only [aF] at rd
  subst rd
  obtain ⟨v, rfl, rv⟩ := rl.one
  simp only [aF] at rv
  subst rv
  split at p
  ·rename_i hz
   exact ⟨_, mt_split, a, b, rfl, rfl, hz.1, hz.2, jX rel (N8 _) p⟩
  ·exact p.elim
 ·exact p.elim
def IS : MF := fun ds w => match ds with
 | [.str a] => (match PySem.intText? a with
  | some n => if a.length ≤ 640 then .ok (.int n) w else .bad
  | none => .bad)
 | _ => .bad
theorem aCw {S : aQ} : CB S (.type "int") IS := sR fun X E c xo I F G ds w H vs Q rel rl p => by
 unfold IS at p
 split at p
 ·rename_i a
  obtain ⟨v, rfl, rv⟩ := rl.one
  simp only [aF] at rv
  subst rv
  split at p
  ·rename_i n hn
   split at p
   ·rename_i hz
    exact ⟨_, call_int_str, a, n, rfl, hn, hz, p.mU rel (by simp [aF])⟩
   ·exact p.elim
  ·exact p.elim
 ·exact p.elim
def aCX (x y : D) (w : W) : Res D := match x, y with
 | .str c, .str z => (match c.cps.toList with
  | [n] => .ok (.bl (decide (n ∈ z.cps.toList))) w
  | _ => .bad)
 | _, _ => .bad
theorem aEu {S : aQ} : O2 S (compareOp .In) aCX := gC fun X E c xo I F G d e w H x y Q rel rd re p => by
 unfold aCX at p
 split at p
 ·rename_i a z
  simp only [aF] at rd re
  subst rd re
  split at p
  ·rename_i n hn
   have ea : a = ⟨#[n]⟩ := by
    cases a with
    | mk cs =>
     congr
     exact Array.toList_inj.mp (by simpa using hn)
   exact ⟨_, op_in_sign, n, z, by rw [ea], rfl, p.mU rel (by simp [aF])⟩
  ·exact p.elim
 ·exact p.elim
def nV (x : Str) : List D := x.cps.toList.map fun c => D.str ⟨#[c]⟩
def aBf (d : D) (w : W) : Res kL := match d with
 | .str x => .ok ⟨nV x, always⟩ w
 | _ => .bad
def aB9 (m : ME) : MI := fun σ w => (m σ w).bind aBf
theorem aEO {K : PySem.W.Frag} {I : List Addr} {F : Hp} {it : kL} {x : Str} (hx : it.xs = nV x) : xK K I F (Its x) it := fun I' F' G w H j e rel ok => by
 refine ⟨fun y h => ?_, fun hl => ?_⟩
 ·rw [hx, nV, bz] at h
  obtain ⟨c, hc, rfl⟩ := ai.mp h
  rw [Array.getElem?_toList] at hc
  refine ⟨(Array.getElem?_eq_some_iff.mp hc).1, fun v H' y => ?_⟩
  obtain ⟨rfl, c', hc', rfl⟩ := y
  rw [hc] at hc'
  cases hc'
  exact ⟨F', .refl, rel, by simp [aF]⟩
 ·rw [hx, nV, ao, Array.length_toList] at hl
  show x.cps.size ≤ j
  omega
theorem aFk {S : aQ} {tg l : Expr} {m : ME} (hl : JE S l m) : JI S tg l (aB9 m) := fun X E cx xo =>
 pL (pi_str (hl X E cx xo)) fun σ H R ⟨I, F, G, ds, w, rel, rs, p⟩ => bM (f := fun _ => aBf) rel rs p fun I1 F1 H1 d w1 v e1 rel1 rs1 rv p1 => by
  unfold aBf at p1
  split at p1
  ·rename_i x
   simp only [aF] at rv
   subst rv
   exact ⟨x, rfl, p1 I1 F1 H1 .refl rel1 trivial _ (aEO rfl)⟩
  ·exact p1.elim
def V2 (d : D) (w : W) : Res D := match d with
 | .str y => if (reprText y).length ≤ sizeLine then .ok (.str (reprText y)) w else .bad
 | .int i => if i.natAbs.log2 < 1920 then .ok (.str (toString i)) w else .bad
 | _ => .bad
def JV (m : ME) : ME := fun σ w => (m σ w).bind V2
theorem aBL {S : aQ} {e : Expr} {m : ME} {pos : Pos} (h : JE S e m) : JE S (.FormattedValue e 114 none pos) (JV m) := fun X E cx xo =>
 cF (pe_fmtR (h X E cx xo)) fun σ H Q ⟨I, F, G, ds, w, rel, rs, p⟩ => bM (f := fun _ => V2) rel rs p fun I1 F1 H1 d w1 v e1 rel1 rs1 rv p1 => by
  unfold V2 at p1
  split at p1
  ·rename_i y
   simp only [aF] at rv
   subst rv
   split at p1
   ·rename_i hz
    exact .inl ⟨y, rfl, hz, p1 I1 F1 H1 .refl rel1 _ (by simp [aF])⟩
   ·exact p1.elim
  ·rename_i i
   simp only [aF] at rv
   subst rv
   split at p1
   ·rename_i hz
    exact .inr ⟨i, rfl, hz, p1 I1 F1 H1 .refl rel1 _ (by simp [aF])⟩
   ·exact p1.elim
  ·exact p1.elim
abbrev MJ := Str → Sg → W → Res D
def YG : MJ := fun acc _ w => .ok (.str acc) w
def wW (m : ME) (r : MJ) : MJ := fun acc σ w => (m σ w).bind fun d w1 => match d with
 | .str y => if (acc ++ y).length ≤ sizeLine then r (acc ++ y) σ w1 else .bad
 | _ => .bad
def eFs (r : MJ) : ME := fun σ w => r Str.empty σ w
def aFW (K : PySem.W.Frag) (E : XK) (r : Sg → W → Res D) : L2.St → Hp → (Str → Hp → Prop) → Prop := fun σ H Q => ∃ I F G ds w, Rel K I F G w H ∧ fX K I F ds σ ∧ a7 K I F G E (RV K fun v H' => ∃ y, v = .str y ∧ Q y H') (r ds w)
def JFs (S : aQ) (es : List Expr) (r : MJ) : Prop := ∀ X E, Ctx S X → rP X E → ∃ ts, PJ X es ts ∧ ∀ acc σ H Q, aFW X.K E (r acc) σ H Q → tJs ts acc σ H Q
section
variable {S : aQ} {e v1 v2 : Expr} {es : List Expr} {m : ME} {r : MJ} {pos : Pos}
theorem aDX : JFs S [] YG := fun X E cx xo => ⟨[], .nil, fun acc σ H Q ⟨I, F, G, ds, w, rel, rs, p⟩ => by
 obtain ⟨y, e, q⟩ := p I F H .refl rel (.str acc) (by simp [aF])
 cases e
 exact q⟩
theorem K4 (h : JE S e m) (hr : JFs S es r) : JFs S (e :: es) (wW m r) := fun X E cx xo => by
 obtain ⟨ts, h1, h2⟩ := hr X E cx xo
 refine ⟨r5 X.K E m :: ts, .cons (h X E cx xo) h1, fun acc σ H Q ⟨I, F, G, ds, w, rel, rs, p⟩ => ?_⟩
 refine bM (f := fun ds d w1 => match d with
  | .str y => if (acc ++ y).length ≤ sizeLine then r (acc ++ y) ds w1 else .bad
  | _ => .bad) rel rs p fun I1 F1 H1 d w1 v e1 rel1 rs1 rv p1 => ?_
 split at p1
 ·rename_i y
  simp only [aF] at rv
  subst rv
  split at p1
  ·rename_i hz
   exact ⟨y, rfl, hz, h2 _ _ _ _ ⟨I1, F1, G, ds, w1, rel1, rs1, p1⟩⟩
  ·exact p1.elim
 ·exact p1.elim
theorem aFU (h : JFs S (v1 :: v2 :: es) r) (hs : ∀ acc σ w, ∀ d w', r acc σ w = .ok d w' → ∃ y, d = .str y) : JE S (.JoinedStr (v1 :: v2 :: es) pos) (eFs r) := fun X E cx xo => by
 obtain ⟨ts, h1, h2⟩ := h X E cx xo
 refine cF (pe_joined h1) fun σ H Q ⟨I, F, G, ds, w, rel, rs, p⟩ => h2 _ _ _ _ ⟨I, F, G, ds, w, rel, rs, ?_⟩
 unfold eFs at p
 cases hr : r Str.empty ds w with
 | ok d w1 =>
  rw [hr] at p
  obtain ⟨y, rfl⟩ := hs _ _ _ _ _ hr
  exact fun I' F' H' e rel' v rv => by
   have rv0 := rv
   simp only [aF] at rv
   subst rv
   exact ⟨y, rfl, p I' F' H' e rel' _ rv0⟩
 | HF x w1 =>
  rw [hr] at p
  exact p
 | bad =>
  rw [hr] at p
  exact p.elim
theorem Y0 : ∀ (acc : Str) (σ : Sg) (w : W) (d : D) (w' : W), YG acc σ w = .ok d w' → ∃ y, d = .str y := fun acc σ w d w' h => by
 unfold YG at h
 cases h
 exact ⟨_, rfl⟩
theorem BP (hr : ∀ (acc : Str) (σ : Sg) (w : W) (d : D) (w' : W), r acc σ w = .ok d w' → ∃ y, d = .str y) : ∀ (acc : Str) (σ : Sg) (w : W) (d : D) (w' : W), wW m r acc σ w = .ok d w' → ∃ y, d = .str y := fun acc σ w d w' h => by
 unfold wW at h
 cases hm : m σ w with
 | ok x w1 =>
  rw [hm] at h
  simp only [Res.KJ] at h
  split at h
  ·split at h
   ·exact hr _ _ _ _ _ h
   ·cases h
  ·cases h
 | HF x w1 => rw [hm] at h; cases h
 | bad => rw [hm] at h; cases h
end
section
variable {S : aQ} {k n : Nat} {f C : Addr} {fd : FuncData} {ps : List Str} {m : MF} {gd : List D → List D → List D} {x : Str} {p pos : Pos}
theorem aAT (hk : k + 1 ≤ S.k) (M : Mk S.K C f) (Gf : eY S.P S.w S.K S.mg S.base k f fd ps m) (B : b5 S.K fd ps 1 [] gd) (hg : S.sc.names.lookup x = some .globalImplicit) (hm : S.mg x = some (.ref C))
  (hdb : (x == ("__debug__" : Str)) = false := by decide) : JE S (.Call (.Name x p) [] [] pos) (OY C m 0 gd aE) := fun X E cx xo => by
 refine ⟨fun pins s σ H Q J ⟨I, F, G, ds, w, rel, rs, p⟩ => ?_⟩
 refine wpAny_Call_Name_kw (ld_glob J (by show X.env.scope.names.lookup x = _; rw [cx.sc]; exact hg) (by rw [cx.mg]; exact hm) ?_ hdb)
 have p1 : a7 X.K I F G E (RV X.K Q) (qK m C (fun s => gd (s ++ []) []) w) := p
 refine PySem.W.callWith_K0 J.kIn (by rw [cx.K]; exact M.kp) ?_
 have Gf' : eY X.prog X.w X.K X.mg X.base k f fd ps m := by rw [cx.P, cx.w, cx.K, cx.mg, cx.base]; exact Gf
 have B' : b5 X.K fd ps (0 + 1) [] gd := by rw [cx.K]; exact B
 have M' : Mk X.K C f := by rw [cx.K]; exact M
 exact run_mk (ks := []) (ws := []) (zs := []) (ys := []) (us := []) (vs := []) (xs := []) M' xo Gf' B' (cx.room.mono hk) cx.W5 J rel (by simp [RepL]) (by simp [RepL]) .nil .nil rfl rfl p1
end
def IK (nm : MF) (C : Addr) (m : MF) : MF := fun ds w => match ds with
 | [.ref i] => (match w[i]? with
  | some (.ins C' _) => if C' = C then (m [.ref i] w).bind fun d w1 => (match d with
    | .str z => .ok (.str z) w1
    | _ => .bad) else .bad
  | _ => nm [.ref i] w)
 | _ => nm ds w
section
variable {S : aQ} {k n : Nat} {f C : Addr} {fd : FuncData} {ps : List Str} {m : MF}
theorem U1 {X : Cx} {E : XK} {pins : List (Addr × Obj)} {σ : L2.St} {H : Hp} {s : Shared} {Q : VK} {A' : Around} (xo : rP X E) (Gf : eY X.prog X.w X.K X.mg X.base k f fd ps m) (B : b5 X.K fd ps 1 [] aN) (room : Room k A') (W5 : A'.guards = some []) (env : Env0 X.prog X.w X.K X.mg X.base A' X.stack s H) (J : Inv X pins σ H s) {I : List Addr} {F G : Hp} {w : W} (rel : Rel X.K I F G w H) {i : Nat} {a : Addr} (rl : RepL X.K I F [.ref i] [.ref a])
  (p : a7 X.K I F G E (RV X.K Q) ((m [.ref i] w).bind fun d w1 => match d with
    | .str z => .ok (.str z) w1
    | _ => .bad)) : wpAny (model X.prog X.w) A' (call (.ref f) [.ref a]) (PySem.W.StrBack (EP X pins σ Q)) X.xe s := by
 obtain ⟨⟨g, gV, kb, rep⟩, bl⟩ := B
 have r1 : Vals [V.ref a] [Value.ref a] := .cons rfl .nil
 have r2 := kb.rel r1 (.nil : Vals [] [])
 have r3 := rep I F [.ref i] [.ref a] [] [] rl (by simp [RepL])
 have hl : (gV [V.ref a] []).length = ps.length := by
  rw [← r3.length]
  exact bl [.ref i] [] rfl rfl
 have pp : a7 X.K I F G E (RV X.K fun v H2 => ∃ z : Str, v = .str z ∧ Q (.str z) H2) (m (aN [.ref i] []) w) := by
  refine (a7.bind p).mono fun I1 F1 H1 d w1 _ e1 rel1 p1 v rv => ?_
  cases d <;> first | exact p1.elim | skip
  rename_i z hh
  simp only [aF] at rv
  subst rv
  exact ⟨z, rfl, p1.mU rel1 (by simp [aF])⟩
 have run : wpAny (model X.prog X.w) A' (call (.ref f) [.ref a]) (EP X pins σ fun v H2 => ∃ z : Str, v = .str z ∧ Q (.str z) H2) X.xe s := by
  refine wpAny_call (codeAny_mono (Gf.run A' X.stack s H ⟨[.ref a], []⟩ (g [.ref a] []) (gV [.ref a] []) _ E room W5 env (kb.to s [.ref a] [] J.kIn rfl rfl) r2 hl ⟨I, F, G, _, w, rel, r3, pp⟩) fun fl s' hq => ?_)
  cases fl with
  | error e => exact passes_call xo.tk (fun _ _ _ _ h => h) pins σ H s e s' J hq
  | ok fl =>
   cases fl with
   | ret u => exact J.after hq
   | next => exact hq.elim
   | brk => exact hq.elim
   | cont => exact hq.elim
 refine wpAny_mono run (fun u s1 hq => ?_) fun _ _ y => y
 obtain ⟨v, H2, J2, rv2, z, rfl, q⟩ := hq
 obtain ⟨t, rfl⟩ : ∃ t, u = Value.str z t := rv2
 exact ⟨.str z, H2, J2, ⟨t, rfl⟩, q⟩
theorem LN (hk : k + 2 ≤ S.k) (hs : Meth S.K C "__str__" f) (Gf : eY S.P S.w S.K S.mg S.base k f fd ps m) (B : b5 S.K fd ps 1 [] aN) : CB S (.type "str") (IK sN C m) :=
 fun X E cx xo pins s σ H vs us Q J r ⟨I, F, G, ds, w, rel, rl, p⟩ => by
  have old : ∀ {ds : List D}, RepL X.K I F ds vs → a7 X.K I F G E (RV X.K Q) (sN ds w) → wpAny (model X.prog X.w) X.A (call (.type "str") us) (EP X pins σ Q) X.xe s := fun rl p => (AX (S := S)) X E cx xo pins s σ H vs us Q J r ⟨I, F, G, _, w, rel, rl, p⟩
  unfold IK at p
  split at p
  ·rename_i i
   split at p
   ·rename_i C' fs hw
    split at p
    ·rename_i hC
     subst hC
     obtain ⟨v, rfl, rv⟩ := rl.one
     obtain ⟨u, rfl, ru⟩ := vals1 r
     have rv0 := rv
     simp only [aF] at rv
     obtain ⟨a, rfl, hi⟩ := rv
     obtain rfl : u = Value.ref a := ru
     obtain ⟨ob, hu, dx, rr, rfl, hr⟩ := rel.ob i a _ hi hw
     obtain ⟨mA, O, _, _, _, _⟩ := ins_get J.hok hu
     obtain ⟨od, IA, _⟩ := O.look
     have Gf' : eY X.prog X.w X.K X.mg X.base k f fd ps m := by rw [cx.P, cx.w, cx.K, cx.mg, cx.base]; exact Gf
     have hs' : Meth X.K C' "__str__" f := by rw [cx.K]; exact hs
     have B' : b5 X.K fd ps 1 [] aN := by rw [cx.K]; exact B
     have room : Room k X.A.in1.in1 := (cx.room.mono hk).in1.in1
     exact PySem.W.kso_call (by have := (cx.room.mono hk).in1.in1.units0; exact this) J.kIn IA hs'.at_ hs'.fn (U1 xo Gf' B' room cx.W5 J.env0.in1.in1 J rel rl p)
    ·exact p.elim
   ·exact old rl p
  ·exact old rl p
theorem Y8 (hk : k + 1 ≤ S.k) (hs : Meth S.K C "__repr__" f) (Gf : eY S.P S.w S.K S.mg S.base k f fd ps m) (B : b5 S.K fd ps 1 [] aN) : CB S (.builtin "repr") (IK nS C m) :=
 fun X E cx xo pins s σ H vs us Q J r ⟨I, F, G, ds, w, rel, rl, p⟩ => by
  have old : ∀ {ds : List D}, RepL X.K I F ds vs → a7 X.K I F G E (RV X.K Q) (nS ds w) → wpAny (model X.prog X.w) X.A (call (.builtin "repr") us) (EP X pins σ Q) X.xe s := fun rl p => (DR (S := S)) X E cx xo pins s σ H vs us Q J r ⟨I, F, G, _, w, rel, rl, p⟩
  unfold IK at p
  split at p
  ·rename_i i
   split at p
   ·rename_i C' fs hw
    split at p
    ·rename_i hC
     subst hC
     obtain ⟨v, rfl, rv⟩ := rl.one
     obtain ⟨u, rfl, ru⟩ := vals1 r
     have rv0 := rv
     simp only [aF] at rv
     obtain ⟨a, rfl, hi⟩ := rv
     obtain rfl : u = Value.ref a := ru
     obtain ⟨ob, hu, dx, rr, rfl, hr⟩ := rel.ob i a _ hi hw
     obtain ⟨mA, O, _, _, _, _⟩ := ins_get J.hok hu
     obtain ⟨od, IA, _⟩ := O.look
     have Gf' : eY X.prog X.w X.K X.mg X.base k f fd ps m := by rw [cx.P, cx.w, cx.K, cx.mg, cx.base]; exact Gf
     have hs' : Meth X.K C' "__repr__" f := by rw [cx.K]; exact hs
     have B' : b5 X.K fd ps 1 [] aN := by rw [cx.K]; exact B
     have room : Room k X.A.in1 := (cx.room.mono hk).in1
     obtain ⟨mm, hF⟩ := J.fr
     exact PySem.W.repr_K room.units0 hF J.ok.mod.kin IA hs'.at_ hs'.fn (U1 xo Gf' B' room cx.W5 J.env0.in1 J rel rl p)
    ·exact p.elim
   ·exact old rl p
  ·exact old rl p
end
end Pc
namespace L2
open PySem PySem.Spec PyProof.Rows
section
variable {prog : Program} {w : World} {A : Around} {E : Value → Shared → Prop} {s : Shared}
theorem LZ (hh : A.handled = none) (I ax : Addr) (hne : ax ≠ I) (items : Array Value) (i0 : Nat) (h0 : i0 ≤ items.size) :
  Walks prog w A I [I, ax] [I] (items.size - i0) (fun i v => items[i0 + i]? = some v) (fun i h => h.IsListIter I ax (i0 + i) ∧ h.IsList ax items) where
 sub := fun b hb => by simp at hb; simp [hb]
 frame := fun _ _ _ st hk => ⟨st.1.at fun o e => hk I (by simp) o e, st.2.at fun o e => hk ax (by simp) o e⟩
 item := fun i s Q E hi st hQ => by
  refine wpAny_pyNext_list_item st.1 st.2 (x := items[i0 + i]'(by omega)) (by rw [Array.getElem?_eq_getElem]) fun h' hit' hs' => ?_
  exact hQ _ h' s.toks (by rw [Array.getElem?_eq_getElem]) ⟨hit', st.2.extBut hs'.extBut hne⟩ fun b o hb e => hs'.extBut b o (fun h => hb (by simp [h])) e
 done := fun s Q E st hQ => wpAny_pyNext_list_end hh st.1 st.2 (by simp; omega) fun h' he' => hQ h' s.toks fun b o hb e => he' b o (fun h => hb (by simp [h])) e
 self := fun _ _ _ _ st hQ => wpAny_pyIter_listiter st.1 hQ
theorem QL {it t : Addr} {items : Array Value} (hne : t ≠ it) : ∀ (n i : Nat) (s : Shared) (Q : List Value → Shared → Prop), s.heap.IsListIter it t i → s.heap.IsList t items → i + n ≤ items.size →
  (∀ h' : Heap, h'.IsListIter it t (i + n) → Heap.SameBut it s.heap h' → Q ((items.toList.drop i).take n) { s with heap := h' }) → wpAny (model prog w) A (draw (.ref it) n) Q E s
 | 0, i, s, Q, hit, _, _, hQ => by
  show wpAny _ _ (pure []) Q E s
  exact wpAny_pure (by simpa using hQ s.heap hit (Heap.SameBut.refl ..))
 | n + 1, i, s, Q, hit, ht, hle, hQ => by
  have hlt : i < items.size := by omega
  show wpAny _ _ (pyNext (.ref it) >>= _) Q E s
  refine wpAny_bind (wpAny_pyNext_list_item hit ht (x := items[i]) (by simp [hlt]) fun h₁ hit₁ hs₁ => ?_)
  refine wpAny_bind (wpAny_holding (QL hne n (i + 1) _ _ hit₁ (ht.extBut hs₁.extBut hne) (by omega) fun h₂ hit₂ hs₂ => wpAny_pure ?_))
  have hd : items.toList.drop i = items[i] :: items.toList.drop (i + 1) := by simp [List.drop_eq_getElem_cons, hlt]
  have := hQ h₂ (by rw [show i + (n + 1) = i + 1 + n by omega]; exact hit₂) (hs₁.trans hs₂)
  rw [hd, List.take_succ_cons] at this
  exact this
theorem E2 {t : Addr} {items : Array Value} {n : Nat} {Q : List Value → Shared → Prop} (hh : A.handled = none) (ht : s.heap.IsList t items) (hn : n ≤ items.size) (hz : items.size ≤ sizeLine)
  (hQ : ∀ (h' : Heap) (tk : Nat), (∀ b o, s.heap.get? b = some o → h'.get? b = some o) → Q (items.toList.take n ++ [.ref h'.objs.size]) { s with heap := h'.push { cls := .type "list", data := .seq (items.toList.drop n).toArray }, toks := tk }) :
  wpAny (model prog w) A (unpackItems (.ref t) (n + 1) (some n)) Q E s := by
 have hlt : t ≠ s.heap.objs.size := by obtain ⟨o, ho, _⟩ := ht; exact Nat.ne_of_lt (Heap.lt_size ho)
 have hltt : t < s.heap.objs.size := by obtain ⟨o, ho, _⟩ := ht; exact Heap.lt_size ho
 unfold unpackItems
 refine wpAny_bind ?_
 unfold notIterableAtAll
 refine wpAny_bind (wpAny_specialOf ht.typeIs slot_list_iter.lookup ?_)
 refine wpAny_pure ?_
 simp only [bp, ab]
 refine wpAny_bind (wpAny_holding (wpAny_pyIter_list ht ?_))
 refine wpAny_bind (wpAny_holding (QL hlt n 0 _ _ ⟨_, Heap.get?_push_size _ rfl, rfl, rfl⟩ (ht.push _) (by omega) fun h₁ hit₁ hs₁ => ?_))
 have hl : (List.take n (List.drop 0 items.toList)).length = n := by simp; omega
 rw [if_neg (by rw [hl]; omega)]
 have ht₁ : h₁.IsList t items := (ht.push _).extBut hs₁.extBut hlt
 rw [Nat.zero_add] at hit₁
 have hk1 : ∀ b o, s.heap.get? b = some o → h₁.get? b = some o := fun b o e => hs₁.extBut b o (Nat.ne_of_lt (Heap.lt_size e)) (Heap.get?_push_of_some _ e)
 have hsz : s.heap.objs.size < h₁.objs.size := by obtain ⟨o, ho, _⟩ := hit₁; exact Heap.lt_size ho
 refine wpAny_bind (wpAny_holding (wpAny_collect_iter (T := "list_iterator") (by first | exact .inl rfl | exact .inr (.inl rfl) | exact .inr (.inr (.inl rfl)) | exact .inr (.inr (.inr rfl))) (LZ (A := A.in1) hh s.heap.objs.size t hlt items n hn).toS (fun i s' st => Heap.IsListIter.typeIs st.1) ⟨by rw [Nat.add_zero]; exact hit₁, ht₁⟩ (fun b hb => ?_) (by simp) (fun s' acc mv hi => ?_) (by omega)))
 ·simp only [bg, bu, or_false] at hb
  rcases hb with rfl | rfl
  ·exact hsz
  ·exact Nat.lt_trans hltt hsz
 have ha : acc.toList = items.toList.drop n := by
  refine List.ext_getElem? fun i => ?_
  rw [List.getElem?_drop, Array.getElem?_toList, Array.getElem?_toList]
  by_cases h : i < acc.size
  ·obtain ⟨v, hv⟩ : ∃ v, acc[i]? = some v := ⟨acc[i], by simp [h]⟩
   rw [hv, hi.2 i v hv]
  ·have h1 := hi.1
   rw [Array.getElem?_eq_none (by omega), Array.getElem?_eq_none (by omega)]
 rw [ha]
 have hm : n + 1 - 1 - n = 0 := by omega
 simp only [hm, Nat.sub_zero, Nat.not_lt_zero, ab]
 rw [List.take_of_length_le (az _), List.drop_of_length_le (az _)]
 refine wpAny_bind (wpAny_newList ?_ (by simp; omega))
 refine wpAny_pure ?_
 rw [List.append_nil, List.drop_zero]
 have hk2 : ∀ b o, s.heap.get? b = some o → s'.heap.get? b = some o := fun b o e => mv.heap b o (fun hb => absurd (Heap.lt_size e) (by rw [cg.mp hb]; exact Nat.lt_irrefl _)) (hk1 b o e)
 have := hQ s'.heap s'.toks hk2
 obtain ⟨hp, g, d, tk, os⟩ := s'
 have h1 : g = s.gens := mv.gens
 have h2 : d = s.drawn := mv.drawn
 have h3 : os = s.os := mv.os
 subst h1
 subst h2
 subst h3
 exact this
end
section
variable {X : Cx} {pos : Pos}
def aC0 (K : PySem.W.Frag) (n : Nat) (t : TGs) : TG := fun v σ H Q => ∃ a xs, v = .ref a ∧ SqL K H a xs ∧ n ≤ xs.length ∧ xs.length ≤ sizeLine ∧ ∀ q, H q = none → t (xs.take n ++ [.ref q]) σ (upd H q (.lst (xs.drop n))) Q
theorem aAv {es : List Expr} {k : Nat} {t : TGs} {n : Nat} (hc : X.calm = true) (h : PGs X es t)
  (hn : (assignEach es X.env).length = n + 1) (hst : (assignEach es X.env).findIdx? (·.1) = some n) : PG X (.Tuple es k pos) (aC0 X.K n t) := by
 refine ⟨fun pins s σ H v u Q I r hw => ?_⟩
 obtain ⟨a, xs, e1, hq, hl, hz, hw⟩ := hw
 subst e1
 cases r
 obtain ⟨its, rv, ⟨o, n0, ho, hcl, _, hd⟩, hz'⟩ := I.list hq
 have ht : s.heap.IsList a its.toArray := ⟨o, ho, hcl, n0, hd⟩
 rw [assign_Tuple]
 refine wpAny_bind (wpAny_standAt ?_)
 unfold unpack
 rw [hn, hst]
 refine wpAny_bind (wpAny_holding (E2 (I.ok.hd hc) ht (by simp [← rv.length]; exact hl) (by simp [← rv.length]; exact hz) fun h' tk hx => ?_))
 have I1 : Inv X pins σ H { s with heap := h', toks := tk } := I.kept (t' := tk) hx
 have hf : H h'.objs.size = none := I1.hok.fresh (az _)
 have I2 : Inv X pins σ (upd H h'.objs.size (.lst (xs.drop n))) { s with heap := h'.push { cls := .type "list", data := .seq (its.drop n).toArray }, toks := tk } :=
  I1.laid (t' := tk) (fun b u e => Heap.get?_push_of_some _ e) (az _) ⟨by simp; omega, its.drop n, 0, rv.drop n, Heap.get?_push_size _ rfl⟩
 have vr : Vals (xs.take n ++ [.ref h'.objs.size]) (its.take n ++ [.ref h'.objs.size]) := (rv.take n).append (.cons rfl .nil)
 exact h.run pins _ σ _ _ _ Q I2 (by simpa using vr) (hw _ hf)
end
end L2
namespace Pc
open PySem PySem.Spec PyProof.Rows L2
def HA (n : Nat) (r : NQ) : MG := fun d σ w => match d with
 | .lst xs => if n ≤ xs.length ∧ xs.length ≤ sizeLine then r (xs.take n ++ [.lst (xs.drop n)]) σ w else .bad
 | _ => .bad
section
variable {S : aQ} {pos pos' : Pos} {e : Expr} {es : List Expr} {g : MG} {r : NQ}
theorem aA8 {k n : Nat} (h : JGs S es r) (hn : ∀ env : Env, (assignEach es env).length = n + 1 := by intro _; rfl) (hst : ∀ env : Env, (assignEach es env).findIdx? (·.1) = some n := by intro _; rfl) : JG S (.Tuple es k pos) (HA n r) := fun X E cx xo =>
 wA (aAv cx.calm (h X E cx xo) (hn X.env) (hst X.env)) fun v σ H Q ⟨I, F, G, d, ds, w, rel, rs, rv, p⟩ => by
  simp only [HA] at p
  split at p
  ·rename_i xs
   simp only [aF] at rv
   obtain ⟨a, vs, rfl, h1, h2⟩ := rv
   split at p
   ·rename_i hl
    refine ⟨a, vs, rfl, .of (rel.fz _ _ h1), by rw [← h2.length]; exact hl.1, by rw [← h2.length]; exact hl.2, fun q hq => ?_⟩
    have hd := h2.drop n
    obtain ⟨I', F', e1, rel1, rl⟩ := jX (E := E) (w := w) (Q := fun v H' => ∃ I' F', Ext I F I' F' ∧ Rel X.K I' F' G w H' ∧ aF X.K I' F' (.lst (xs.drop n)) v) rel hd (fun I' F' H' e1 rel' v rv => ⟨I', F', e1, rel', rv⟩) q hq
    exact ⟨I', F', G, _, ds, w, rel1, rs.ext e1, ((h2.take n).ext e1).append (RepL.cons rl (by simp [RepL])), p.ext e1⟩
   ·exact p.elim
  ·exact p.elim
end
end Pc
namespace L2
open PySem PySem.Spec PyProof.Rows
def IX (ns ms : List Int) : Bool := Ob.lexAt (fun j => decide (ns.getD j 0 = ms.getD j 0)) (fun j => decide (ms.getD j 0 ≤ ns.getD j 0)) (decide (ns.length ≥ ms.length)) 0 (min ns.length ms.length)
def aG9 (K : PySem.W.Frag) : R2 := fun x y H Q => ∃ (a b : Addr) (ns ms : List Int), x = .ref a ∧ y = .ref b ∧ SqT K H a (ns.map V.int) ∧ SqT K H b (ms.map V.int) ∧ Q (.bl (IX ns ms)) H
theorem aEK {X : Cx} (hu : X.A.units < cLine) : OpR X (compareOp .GtE) (aG9 X.K) := by
 intro pins s σ H x y v u Q I rx ry h
 obtain ⟨a, b, ns, ms, rfl, rfl, ha, hb, q⟩ := h
 cases rx
 cases ry
 obtain ⟨its, r1, p1, _⟩ := I.tuple ha
 obtain ⟨its2, r2, p2, _⟩ := I.tuple hb
 have i1 : IntsAre its ns := Vals.ints r1
 have i2 : IntsAre its2 ms := Vals.ints r2
 have pair : ∀ (R : Value → Value → Bool → Prop) (f : Int → Int → Bool), (∀ i t j t', R (.int i t) (.int j t') (f i j)) → ∀ j (h1 : j < its.toArray.size) (h2 : j < its2.toArray.size), R its.toArray[j] its2.toArray[j] (f (ns.getD j 0) (ms.getD j 0)) := fun R f hR j h1 h2 => by
  obtain ⟨t, et⟩ := item_at i1 h1
  obtain ⟨t', et'⟩ := item_at i2 h2
  rw [et, et']
  exact hR _ _ _ _
 have R := Ob.RcOp.tuples_ge (A := X.A) (s := s) (e := fun j => decide (ns.getD j 0 = ms.getD j 0)) (r := fun j => decide (ms.getD j 0 ≤ ns.getD j 0)) p1 p2 hu
  (pair (fun p q c => SeqAt.EqAt X.A.in1 s p q c) (fun i j => decide (i = j)) fun i t j t' => by
   have z : (i == j) = decide (i = j) := by by_cases c : i = j <;> simp [c]
   show SeqAt.EqAt X.A.in1 s _ _ (decide (i = j))
   rw [← z]
   exact SeqAt.EqAt.int_int _ _ _ _)
  (fun j h1 h2 _ => pair (fun p q c => Ob.RcOp .GtE X.A.in1 s p q c) (fun i j => decide (j ≤ i)) (fun i t j t' => Ob.RcOp.ge_int _ _ _ _) j h1 h2)
 rw [List.size_toArray, List.size_toArray, i1.length, i2.length] at R
 have z : wpAny (model X.prog X.w) X.A (compareOp .GtE (.ref a) (.ref b)) (EP X pins σ Q) X.xe s := R X.prog X.w X.xe (EP X pins σ Q) ⟨.bl _, H, I, rfl, q⟩
 exact z
end L2
namespace Pc
open PySem PySem.Spec PyProof.Rows L2
def geA (x y : D) (w : W) : Res D := match x, y with
 | .int a, .int b => .ok (.bl (decide (b ≤ a))) w
 | .tup a, .tup b => (match jY a, jY b with
  | some ns, some ms => .ok (.bl (IX ns ms)) w
  | _, _ => .bad)
 | _, _ => .bad
theorem aEZ {S : aQ} : O2 S (compareOp .GtE) geA := gC fun X E c xo I F G d e w H x y Q rel rd re p => by
 cases d <;> cases e <;> first | exact p.elim | skip
 ·simp only [aF] at rd re
  exact ⟨_, PR op_ge, _, _, rd, re, trivial, p I F H .refl rel _ (by simp [aF])⟩
 ·rename_i as bs
  simp only [geA] at p
  split at p
  ·rename_i ns ms h1 h2
   obtain ⟨a, us, rfl, g1, g2⟩ := KZ rel rd (show wG (.tup as) = some as from rfl)
   obtain ⟨b, ts, rfl, g3, g4⟩ := KZ rel re (show wG (.tup bs) = some bs from rfl)
   obtain rfl := m6 g2 h1
   obtain rfl := m6 g4 h2
   exact ⟨_, aEK (by have := c.room.un; omega), a, b, ns, ms, rfl, rfl, g1, g3, p.mU rel (by simp [aF])⟩
  ·exact p.elim
def y4 (d : Addr) (tab : List (Str × Option D)) (x y : D) (w : W) : Res D := match x, y with
 | .str z, .con a => if a = d then (match tab.lookup z with
  | some o => .ok (.bl (!o.isSome)) w
  | none => .bad) else .bad
 | _, _ => .bad
theorem WO {S : aQ} {d : Addr} {tab : List (Str × Option D)} (T : KTab S.K S.w d tab) : O2 S (compareOp .NotIn) (y4 d tab) := gC fun X E c xo I F G a b w H x y Q rel rd re p => by
 unfold y4 at p
 split at p
 ·rename_i z a'
  simp only [aF] at rd re
  subst rd re
  split at p
  ·rename_i hd
   subst hd
   obtain ⟨es, n, T1⟩ := T.ex
   rw [← c.K, ← c.w] at T1
   cases h : tab.lookup z with
   | none => rw [h] at p; exact p.elim
   | some o =>
    rw [h] at p
    cases o with
    | none => exact ⟨_, op_notIn_kd T1, z, none, rfl, rfl, by rw [c.K]; exact T.miss z h, p.mU rel (by simp [aF])⟩
    | some v =>
     obtain ⟨u, v', h1, h2, h3⟩ := T.hit z v h
     exact ⟨_, op_notIn_kd T1, z, some u, rfl, rfl, by rw [c.K]; exact h1, p.mU rel (by simp [aF])⟩
  ·exact p.elim
 ·exact p.elim
end Pc
namespace L2
open PySem PySem.Spec PyProof.Rows
def aEM (td : TE) : TE := fun σ H Q => td σ H fun x H1 => ∃ d kvs, x = .ref d ∧ Rd H1 d (.dK kvs) ∧ ∀ p, H1 p = none → Q (.ref p) (upd H1 p (IL p d))
section
variable {X : Cx} {e : Expr} {td : TE} {apos cpos : Pos}
theorem R7 (he : PE X e td) (hbase : attributeBase e "values" X.env (eval e X.env) = eval e X.env := by rfl) (hline : (apos.endLine == cpos.line) = true := by rfl) : PE X (.Call (.Attribute e "values" apos) [] [] cpos) (aEM td) := by
 refine ⟨fun pins s σ H Q I h => ?_⟩
 refine wpAny_Call_method (T := "dict") (id := "dict.values") hbase rfl hline F.plainAttrs_dict F.slot_dict_values F.type_dict_values (thn (he.run pins s σ H _ I h) fun u s1 ⟨x, H1, I1, rx, d, kvs, ex, hd, q⟩ => ?_)
 subst ex
 obtain rfl : u = Value.ref d := rx
 obtain ⟨z, hs, vs, kv, ob⟩ := (show ObjOk X.prog X.w H1 s1.heap d (.dK kvs) from hd.ok I1.hok)
 obtain ⟨es, ep, hm, hn, hat⟩ := ob.raw
 obtain ⟨o, ho, hx, hdt⟩ := id hm
 refine ⟨hm.typeIs, fun a e => by cases e; exact ⟨o, ho, hx.2.1⟩, ?_⟩
 show wpAny _ _ (callWith cpos (.builtin "dict.values") [.ref d] [] []) _ X.xe s1
 refine method_meetsIn F.slot_dict_values F.entry_dict_values rfl (PySem.evalArgs_none ⟨rfl, hm.typeIs, F.args_dict_values_1 _, _, meets_dict_values_raw d hs, ⟨es, ep, hm⟩, ?_⟩)
 exact ⟨.ref s1.heap.objs.size, upd H1 s1.heap.objs.size (IL s1.heap.objs.size d), I1.laid (t' := s1.toks) (fun b ob q => Heap.get?_push_of_some _ q) (az _) (aBG ⟨_, Heap.get?_push_size _ rfl, rfl, rfl⟩), rfl, q _ (I1.hok.fresh (az _))⟩
theorem FO (hc : X.calm = true) : CallR X (.type "list") (fun xs H Q => ∃ p d kvs, xs = [V.ref p] ∧ H p = some (IL p d) ∧ Rd H d (.dK kvs) ∧ ∀ l, H l = none → Q (.ref l) (upd H l (.lst (kvs.map fun kv => kv.2)))) := by
 intro pins s σ H xs us Q I r h
 obtain ⟨p, d, kvs, rfl, hp, hd, q⟩ := h
 obtain ⟨u, rfl, rx⟩ := r.one
 cases rx
 obtain ⟨z, hs, ks, pr, ob⟩ := (show ObjOk X.prog X.w H s.heap d (.dK kvs) from hd.ok I.hok)
 obtain ⟨es, ep, hm, hn, hat⟩ := ob.raw
 have l2 : kvs.length = ks.length := Paired.length pr
 refine PySem.W.kdl_call (KdlSrc.rawValues (r := p) (d := d) (es := es) (ep := ep)) (I.ok.hd hc) ⟨aCy I.hok hp, hm⟩ (by omega) fun h' tk acc' c' kp e it => ?_
 have la : acc'.toList.length = ks.length := by rw [Array.length_toList, it.1]; exact hn
 have rv : Vals (kvs.map fun kv => kv.2) acc'.toList := by
  refine vals_of_at (by rw [ao]; omega) fun j x v h1 h2 => ?_
  obtain ⟨hi, hv⟩ := it.2 j v (by rw [← Array.getElem?_toList]; exact h2)
  rw [bz] at h1
  obtain ⟨kv, hkv, rfl⟩ := ai.mp h1
  obtain ⟨b, hb, hr⟩ := paired_get pr hkv
  obtain ⟨b1, b2⟩ := b
  rw [hv, (hat j hi b1 b2 hb).2]
  exact hr.2
 have hz : (kvs.map fun kv => kv.2).length ≤ sizeLine := by rw [ao]; omega
 refine ⟨.ref s.heap.objs.size, _, I.laid (t' := tk) (o := .lst (kvs.map fun kv => kv.2)) kp (az _) ?_, rfl, q _ (I.hok.fresh (az _))⟩
 exact ⟨hz, acc'.toList, c', rv, by rw [Array.toArray_toList]; exact e⟩
end
end L2
namespace Pc
open PySem PySem.Spec PyProof.Rows L2
theorem CM {K : PySem.W.Frag} {I : List Addr} {F : Hp} : ∀ {ds : List (Key × D)} {vs : List (Key × V)}, aS K I F ds vs → RepL K I F (ds.map fun kv => kv.2) (vs.map fun kv => kv.2)
 | [], vs, h => by simp only [aS] at h; subst h; simp [RepL]
 | (k, d) :: ds, vs, h => by
  simp only [aS] at h
  obtain ⟨v, r, rfl, h2, h3⟩ := h
  exact RepL.cons h2 (CM h3)
def AW (x : D) (w : W) : Res D := match x with
 | .ref i => (match w[i]? with
  | some (.dK kvs) => .ok (.lst (kvs.map fun kv => kv.2)) w
  | _ => .bad)
 | _ => .bad
section
variable {S : aQ} {p pos ap cp : Pos} {e : Expr} {me : ME}
theorem ZI (hl : S.sc.names.lookup ("list" : Str) = some .globalImplicit) (hm : S.mg "list" = none) (he : JE S e me)
  (hb : ∀ env : Env, attributeBase e "values" env (eval e env) = eval e env := by intro _; rfl) (hline : (ap.endLine == cp.line) = true := by rfl) (n2 : ∀ env : Env, starEach [.Call (.Attribute e "values" ap) [] [] cp] env = (false, eval (.Call (.Attribute e "values" ap) [] [] cp) env) :: starEach [] env := by intro _; rfl) :
  JE S (.Call (.Name "list" p) [.Call (.Attribute e "values" ap) [] [] cp] [] pos) (AQ AW me) := fun X E cx xo =>
 cF (pe_callTy (FO cx.calm) (by show X.env.scope.names.lookup _ = _; rw [cx.sc]; exact hl) (by rw [cx.mg]; exact hm) rfl
  (pa_cons (hs := n2 X.env) (R7 (he X E cx xo) (hb X.env) hline) pa_nil) (he := n2 X.env)) fun σ H Q ⟨I, F, G, ds, w, rel, rs, pp⟩ =>
  bM (f := fun _ x w1 => AW x w1) rel rs pp fun I1 F1 H1 x w1 v e1 rel1 rs1 rv p1 => by
   unfold AW at p1
   split at p1
   ·rename_i i
    simp only [aF] at rv
    obtain ⟨a, rfl, hi⟩ := rv
    split at p1
    ·rename_i kvs hw
     obtain ⟨u, hu, r, rfl, hr⟩ := rel1.ob i a _ hi hw
     refine ⟨a, r, rfl, .inl hu, fun q hq => ⟨q, a, r, rfl, by rw [upd_same], .inl (by rw [upd_ne (ne_of_none hu hq)]; exact hu), ?_⟩⟩
     exact jX (rel1.aFH hq) (CM hr) p1
    ·exact p1.elim
   ·exact p1.elim
end
def GL (x y : D) (w : W) : Res D := match x, y with
 | .jA a, .tup b => if a ≠ [] ∧ b ≠ [] ∧ a.length + b.length ≤ sizeLine then .ok (.tup (a ++ b)) w else .bad
 | _, _ => .bad
theorem aAQ {S : aQ} : O2 S (binaryOp .Add) GL := gC fun X E c xo I F G d e w H x y Q rel rd re p => by
 unfold GL at p
 split at p
 ·rename_i a b
  split at p
  ·rename_i hl
   obtain ⟨q, vs, rfl, h1, h2⟩ := zN rd (show wG (.jA a) = some a from rfl)
   obtain ⟨q', vs', rfl, h1', h2'⟩ := zN re (show wG (.tup b) = some b from rfl)
   have n1 : vs ≠ [] := fun z => hl.1 (by have := h2.length; rw [z] at this; exact List.eq_nil_of_length_eq_zero (by simpa using this))
   have n2 : vs' ≠ [] := fun z => hl.2.1 (by have := h2'.length; rw [z] at this; exact List.eq_nil_of_length_eq_zero (by simpa using this))
   exact ⟨_, op_catA, q, q', vs, vs', rfl, rfl, rel.K2 h1, rel.K2 h1', by rw [← h2.length, ← h2'.length]; exact hl.2.2, fun hn => absurd hn n1, fun _ hn => absurd hn n2, fun _ _ => zJ rel (h2.append h2') p⟩
  ·exact p.elim
 ·exact p.elim
theorem aA0 {P : Program} {w : World} {K : PySem.W.Frag} {mg mb : Str → Option Value} {k : Nat} {fa a : Addr} {fd : FuncData} {x : Str} {m : MF} {s : Shared} {ns : List Int} (H : Hp)
  (kin : K.In s.heap) (glo : s.heap.Ns mainGlobals mg) (blt : s.heap.Ns builtinsNs mb) (boot : ∀ y : Str, y ≠ "__name__" → mb y = bootBuiltins y) (free : s.heap.NoLimit) (gens : s.gens = #[]) (room : Room k callerA)
  (prom : ∀ base : Heap, K.In base → base.Ns mainGlobals mg → eY P w K mg base k fa fd [x] m) (bind : ∀ (t : Shared) (u : Value), BindsTo t fd ⟨[u], []⟩ [(x, u)]) (w' : W) (good : m [.qG (ns.map D.int)] [] = .ok (.bl true) w')
  (only : Only H) (held : SqL K H a (ns.map V.int)) (ok : HOk P w H s.heap) (nod : ∀ b o, s.heap.get? b = some o → H b ≠ none → ∀ es ep, o.data ≠ .dict es ep) (nok : ∀ b, H b ≠ none → K.lookup b = none) :
  codeAny (model P w) callerA (.call (.ref fa) ⟨[.ref a], []⟩) (fun r t => r = .ok (.ret (.bool true)) ∧ OldK s.heap t.heap ∧ t.os = s.os ∧ AllBare t.gens) s := by
 have low : ∀ {b : Addr} {o : Obj}, s.heap.get? b = some o → H b = none → (hidT s.heap H).get? b = some o := hidT_get
 have dicts : ∀ {b : Addr} {f : Str → Option Value}, s.heap.Ns b f → (hidT s.heap H).Ns b f := by
  rintro b f ⟨o, es, ep, h1, h2, h3⟩
  refine ⟨o, es, ep, low h1 ?_, h2, h3⟩
  by_cases q : H b = none
  ·exact q
  ·exact absurd h2 (nod b o h1 q es ep)
 have kb : K.In (hidT s.heap H) := fun b o h => low (kin b o h) (by
  by_cases q : H b = none
  ·exact q
  ·rw [nok b q] at h; cases h)
 obtain ⟨mc, c1, c2⟩ := free
 have e0 : Env0 P w K mg (hidT s.heap H) callerA [] s H := {
  frames := rfl
  mod := ⟨kb, dicts glo, ⟨mb, dicts blt, boot⟩, ⟨mc, dicts c1, c2⟩⟩
  bs := fun b o h => of_hidT h
  bsz := Nat.le_of_eq (hidT_size _ _)
  funs := trivial
  frf := fun b hb => by simp [frs] at hb
  hok := ok
  bare := .of_eq gens }
 have rel : Rel K [] H (fun _ => none) [] H := ⟨rfl, List.nodup_nil, fun i b o h => by simp at h, fun _ _ h => h, fun i b o h => by simp at h, fun _ _ h => (by cases h), fun _ _ h => (by cases h), fun _ _ h => (by cases h)⟩
 have sp : spM K m [V.ref a] H (fun v _ => v = .bl true) fun _ _ _ => False := by
  refine ⟨[], H, fun _ => none, [.qG (ns.map D.int)], [], rel, RepL.cons ?_ (by simp [RepL]), ?_⟩
  ·simp only [aF]; exact ⟨a, _, rfl, held, RepL.ints ns⟩
  ·rw [good]
   intro I' F' H' _ _ v rv
   simpa only [aF] using rv
 refine codeAny_mono ((prom _ kb (dicts glo)).run callerA [] s H ⟨[.ref a], []⟩ [.ref a] [.ref a] _ _ room rfl e0 (bind s (.ref a)) (.cons rfl .nil) rfl sp) fun r t h => ?_
 match r, h with
 | .error e, h =>
  obtain ⟨_, _, _, _, _, h⟩ := h
  simp at h
 | .ok (.ret u), h =>
  obtain ⟨v, H2, h1, h2, h3, h4, h5, h6⟩ := h
  subst h6
  obtain rfl : u = Value.bool true := h5
  refine ⟨rfl, OldK.of_keep fun b o hb => ?_, h1, h2⟩
  rcases only b with q | ⟨ob, xs, q⟩
  ·exact h3.keep b o hb q (by intro z; simp [frs] at z) (by simp)
  ·obtain ⟨g1, _⟩ := ok b _ q
   obtain ⟨g2, _⟩ := h4 b _ (h3.frzs b ob _ q)
   rw [hb] at g1; cases g1
   exact g2
 | .ok .next, h => exact h.elim
 | .ok .brk, h => exact h.elim
 | .ok .cont, h => exact h.elim
theorem Z3 {P : Program} {w : World} {K : PySem.W.Frag} {mg mb : Str → Option Value} {k : Nat} {fa a : Addr} {fd : FuncData} {x : Str} {m : MF} {s : Shared} {us : List Value} {ns : List Int}
  (kin : K.In s.heap) (glo : s.heap.Ns mainGlobals mg) (blt : s.heap.Ns builtinsNs mb) (boot : ∀ y : Str, y ≠ "__name__" → mb y = bootBuiltins y) (free : s.heap.NoLimit) (gens : s.gens = #[]) (room : Room k callerA)
  (laid : s.heap.get? a = some { cls := .type "list", data := .seq us.toArray }) (nums : IntsAre us ns) (few : ns.length ≤ sizeLine)
  (prom : ∀ base : Heap, K.In base → base.Ns mainGlobals mg → eY P w K mg base k fa fd [x] m) (bind : ∀ (t : Shared) (u : Value), BindsTo t fd ⟨[u], []⟩ [(x, u)]) (w' : W) (good : m [.qG (ns.map D.int)] [] = .ok (.bl true) w') :
  codeAny (model P w) callerA (.call (.ref fa) ⟨[.ref a], []⟩) (fun r t => r = .ok (.ret (.bool true)) ∧ OldK s.heap t.heap ∧ t.os = s.os ∧ AllBare t.gens) s := by
 have vals := vals_ints nums
 cases hk : K.lookup a with
 | some o =>
  have h := kin a o hk
  rw [laid] at h
  cases h
  refine aA0 (fun _ => none) kin glo blt boot free gens room prom bind w' good (fun _ => .inl rfl) (.inr ⟨_, us.toArray, _, hk, rfl, rfl, rfl, ?_, by simpa using vals⟩) (fun _ _ h => by cases h) (fun _ _ _ h => absurd rfl h) fun _ h => absurd rfl h
  rw [List.size_toArray]; have := nums.length; omega
 | none =>
  let ob : Obj := { cls := .type "list", data := .seq us.toArray }
  let H : Hp := fun b => if b = a then some (.frz ob (.lst (ns.map V.int))) else none
  have at1 : H a = some (.frz ob (.lst (ns.map V.int))) := if_pos rfl
  have at2 : ∀ {b : Addr}, H b ≠ none → b = a := fun {b} h => by
   by_cases e : b = a
   ·exact e
   ·exact absurd (if_neg e) h
  refine aA0 H kin glo blt boot free gens room prom bind w' good (fun b => ?_) (.inl (.inr ⟨ob, at1⟩)) (fun b u h => ?_) (fun b o h hb es ep hd => ?_) fun b hb => by rw [at2 hb]; exact hk
  ·by_cases e : b = a
   ·exact .inr ⟨ob, _, if_pos e⟩
   ·exact .inl (if_neg e)
  ·obtain rfl := at2 (b := b) (by rw [h]; simp)
   rw [at1] at h
   cases h
   exact ⟨laid, by rw [ao]; exact few, us, _, vals, laid⟩
  ·obtain rfl := at2 hb
   rw [laid] at h
   cases h
   cases hd
theorem YO {l : PySem.W.OpenLaw} {n k : Nat} {q : Program} {loose : List Str} {XP : (Str → Option Value) → Heap → Prop} {YP : World → Heap → Prop} {d : DefRec} {x : Str}
  (hn : l.most = some n) (hn2 : n ≤ sizeLine) (hdf : d.params.defaults = []) (hr : Room k callerA)
  (F : ∀ (w : World) (mg : Str → Option Value) (fa : Addr) (h : Heap), YP w h → h.Ns mainGlobals mg → mg d.name = some (.ref fa) →
   ∃ (K : PySem.W.Frag) (fd : FuncData) (m : MF), K.In h ∧ (∀ (s : Shared) (u : Value), BindsTo s fd ⟨[u], []⟩ [(x, u)]) ∧ (∀ ns : List Int, ns.length ≤ n → ∃ w', m [.qG (ns.map D.int)] [] = .ok (.bl true) w') ∧
    ∀ base : Heap, K.In base → base.Ns mainGlobals mg → eY l.prog w K mg base k fa fd [x] m) :
  PySem.W.WalkO q loose XP YP l.row.toRowW d [] (fun f vs => PySem.call f vs) :=
 Att.attach_call hn hdf fun w _ s mg _ fa _ _ _ _ _ us ns G Y _ _ _ hmg laid nums few gens => by
  obtain ⟨K, fd, m, kin, bind, good, prom⟩ := F w mg fa _ Y G.T.g hmg
  obtain ⟨w', hw⟩ := good ns few
  exact Z3 kin G.T.g G.T.b G.T.builtins G.T.nolimit gens hr laid nums (cq few hn2) prom bind w' hw
end Pc
namespace K03
open PySem PySem.Spec PyProof.Rows L2 Pc
def top (i : Nat) : Stmt := PySem.Challenge.pw_onemaster_k03_plans_written_and_read.main.body.getD i (.Pass ⟨0, 0, 0, 0⟩)
structure bN where
 aH : Addr
 aM : Addr
 dH : Addr
 oZ : Addr
 kS : Addr
 zz : Unit := ()
def cZ : List (Str × Option D) := [(("every" : Str), some (.jA [(.int 1), (.int 5)])), (("lost" : Str), some (.jA [(.int 0), (.int 3)])), (("slow" : Str), some (.jA [(.int 1), (.int 4)])), (("bears" : Str), some (.jA [(.int 0), (.int 3)])), (("gap" : Str), some (.jA [(.int 0), (.int 3)])), (("hold" : Str), some (.jA [(.int 0), (.int 20)])), (("hosts" : Str), some (.jA [(.int 0), (.int 4)])), (("takes" : Str), none), (("ties" : Str), none)]
def qJ : List (Str × Option D) := [(("yes" : Str), some (.bl true)), (("no" : Str), some (.bl false))]
end K03
set_option maxHeartbeats 0
namespace K03H
open PySem PySem.Spec PyProof.Rows L2 Pc K03
def tM : He.DefD := ⟨("_law_deck", none), "_law_deck", "_law_deck", defArgs (top 34), defBody (top 34), defScope (top 34), [], []⟩
def uC : He.DefD := ⟨("_law_draw", none), "_law_draw", "_law_draw", defArgs (top 35), defBody (top 35), defScope (top 35), [], []⟩
def pS : He.DefD := ⟨("Plan", some "fields"), "fields", "Plan.fields", defArgs (inClass (top 24) 1), defBody (inClass (top 24) 1), defScope (inClass (top 24) 1), [], []⟩
def AR : He.DefD := ⟨("Plan", some "__eq__"), "__eq__", "Plan.__eq__", defArgs (inClass (top 24) 3), defBody (inClass (top 24) 3), defScope (inClass (top 24) 3), [], []⟩
def xZ : He.DefD := ⟨("in_words", none), "in_words", "in_words", defArgs (top 23), defBody (top 23), defScope (top 23), [], []⟩
def xM : He.DefD := ⟨("Plan", some "__str__"), "__str__", "Plan.__str__", defArgs (inClass (top 24) 4), defBody (inClass (top 24) 4), defScope (inClass (top 24) 4), [], []⟩
def sZ : He.DefD := ⟨("Plan", some "__repr__"), "__repr__", "Plan.__repr__", defArgs (inClass (top 24) 5), defBody (inClass (top 24) 5), defScope (inClass (top 24) 5), [], []⟩
def jO : He.DefD := ⟨("_law_due_fields", none), "_law_due_fields", "_law_due_fields", defArgs (top 40), defBody (top 40), defScope (top 40), [], []⟩
def pY : He.DefD := ⟨("_law_fields", none), "_law_fields", "_law_fields", defArgs (top 39), defBody (top 39), defScope (top 39), [], []⟩
def xQ : He.DefD := ⟨("is_whole", none), "is_whole", "is_whole", defArgs (top 17), defBody (top 17), defScope (top 17), [], []⟩
def tY : He.DefD := ⟨("is_within", none), "is_within", "is_within", defArgs (top 18), defBody (top 18), defScope (top 18), [], []⟩
def tG : He.DefD := ⟨("are_ranks", none), "are_ranks", "are_ranks", defArgs (top 19), defBody (top 19), defScope (top 19), [], []⟩
def EJ : He.DefD := ⟨("is_tie", none), "is_tie", "is_tie", defArgs (top 20), defBody (top 20), defScope (top 20), [], []⟩
def yQ : He.DefD := ⟨("are_ties", none), "are_ties", "are_ties", defArgs (top 21), defBody (top 21), defScope (top 21), [], []⟩
def yA : He.DefD := ⟨("is_field", none), "is_field", "is_field", defArgs (top 22), defBody (top 22), defScope (top 22), [], []⟩
def t4 : He.DefD := ⟨("Plan", some "__init__"), "__init__", "Plan.__init__", defArgs (inClass (top 24) 0), defBody (inClass (top 24) 0), defScope (inClass (top 24) 0), [], [(("every" : Str), (.int 1)), (("lost" : Str), (.int 1)), (("slow" : Str), (.int 1)), (("bears" : Str), .non), (("gap" : Str), (.int 1)), (("hold" : Str), (.int 0)), (("takes" : Str), (.bl true)), (("ties" : Str), (.adr (Pc.kwAt ("Plan", some "__init__") "ties"))), (("hosts" : Str), (.int 0))]⟩
def tU : He.DefD := ⟨("_law_made", none), "_law_made", "_law_made", defArgs (top 38), defBody (top 38), defScope (top 38), [], []⟩
def uG : He.DefD := ⟨("_law_text", none), "_law_text", "_law_text", defArgs (top 41), defBody (top 41), defScope (top 41), [], []⟩
def nP : He.DefD := ⟨("Reading", some "__init__"), "__init__", "Reading.__init__", defArgs (inClass (top 31) 0), defBody (inClass (top 31) 0), defScope (inClass (top 31) 0), [], []⟩
def tH : He.DefD := ⟨("number_in", none), "number_in", "number_in", defArgs (top 30), defBody (top 30), defScope (top 30), [], []⟩
def hY : He.DefD := ⟨("Reading", some "takes_head"), "takes_head", "Reading.takes_head", defArgs (inClass (top 31) 2), defBody (inClass (top 31) 2), defScope (inClass (top 31) 2), [], []⟩
def gN : He.DefD := ⟨("Reading", some "takes_ranks"), "takes_ranks", "Reading.takes_ranks", defArgs (inClass (top 31) 3), defBody (inClass (top 31) 3), defScope (inClass (top 31) 3), [], []⟩
def iF : He.DefD := ⟨("Reading", some "takes_tie"), "takes_tie", "Reading.takes_tie", defArgs (inClass (top 31) 4), defBody (inClass (top 31) 4), defScope (inClass (top 31) 4), [], []⟩
def jF : He.DefD := ⟨("Reading", some "goes_on"), "goes_on", "Reading.goes_on", defArgs (inClass (top 31) 1), defBody (inClass (top 31) 1), defScope (inClass (top 31) 1), [], []⟩
def nN : He.DefD := ⟨("Reading", some "made"), "made", "Reading.made", defArgs (inClass (top 31) 5), defBody (inClass (top 31) 5), defScope (inClass (top 31) 5), [], []⟩
def vE : He.DefD := ⟨("read_plan", none), "read_plan", "read_plan", defArgs (top 32), defBody (top 32), defScope (top 32), [], []⟩
def rR : He.DefD := ⟨("_law_right", none), "_law_right", "_law_right", defArgs (top 42), defBody (top 42), defScope (top 42), [], []⟩
def uS : He.DefD := ⟨("_law_pick", none), "_law_pick", "_law_pick", defArgs (top 36), defBody (top 36), defScope (top 36), [], []⟩
def t9 : He.DefD := ⟨("_law_told", none), "_law_told", "_law_told", defArgs (top 37), defBody (top 37), defScope (top 37), [], []⟩
def Z0 : He.DefD := ⟨("law", none), "law", "law", defArgs (top 43), defBody (top 43), defScope (top 43), [], []⟩
def fn : List He.DefD := [tM, uC, pS, AR, xZ, xM, sZ, jO, pY, xQ, tY, tG, EJ, yQ, yA, t4, tU, uG, nP, tH, hY, gN, iF, jF, nN, vE, rR, uS, t9, Z0]
def fa : List He.Fa := [.free "all", .free "bool", .free "enumerate", .free "int", .free "isinstance", .free "len", .free "list", .free "range", .free "repr", .free "sorted", .free "str", .free "sum", .free "tuple", .free "zip", .glo "_law_deck", .glo "_law_draw", .glo "in_words", .glo "_law_due_fields", .glo "_law_fields", .glo "is_whole", .glo "is_within", .glo "are_ranks", .glo "is_tie", .glo "are_ties", .glo "is_field", .glo "_law_made", .glo "_law_text", .glo "number_in", .glo "read_plan", .glo "_law_right", .glo "_law_pick", .glo "_law_told", .glo "law", .glo "NUMBERS", .glo "TAKES", .glo "Plan", .cls "Plan", .meth "Plan" "__eq__", .meth "Plan" "__repr__", .meth "Plan" "__str__", .meth "Plan" "fields", .noat "Plan" "bears", .noat "Plan" "every", .noat "Plan" "gap", .noat "Plan" "hold", .noat "Plan" "hosts", .noat "Plan" "lost", .noat "Plan" "ranks", .noat "Plan" "slow", .noat "Plan" "takes", .noat "Plan" "ties", .mkr "Plan", .glo "Reading", .cls "Reading", .meth "Reading" "goes_on", .meth "Reading" "made", .meth "Reading" "takes_head", .meth "Reading" "takes_ranks", .meth "Reading" "takes_tie", .noat "Reading" "cords", .noat "Reading" "head", .noat "Reading" "rows", .mkr "Reading"]
def ts : List He.Tab := [((fun K => He.ga K "NUMBERS"), [("every" : Str), ("lost" : Str), ("slow" : Str), ("bears" : Str), ("gap" : Str), ("hold" : Str), ("hosts" : Str)]), ((fun K => He.ga K "TAKES"), [("yes" : Str), ("no" : Str)])]
def exl (K : PySem.W.Frag) : List Bool := [EH K "FIGURES" (.str ("0123456789" : Str)), EH K "HEAD" (.jA [(.str ("every" : Str)), (.str ("lost" : Str)), (.str ("slow" : Str)), (.str ("bears" : Str)), (.str ("gap" : Str)), (.str ("hold" : Str))]), EH K "LONGEST" (.int 2), EH K "MOST_ADDRESSES" (.int 4), EH K "MOST_HOUSES" (.int 6), EH K "MOST_LESS" (.int 11), EH K "MOST_TIE" (.int 9), EH K "MOST_TIES" (.int 6), EH K "TOP" (.int 12), V1 K (He.ga K "NUMBERS") cZ, V1 K (He.ga K "TAKES") qJ, aEa K (He.ga K "Plan")]
def ex (K : PySem.W.Frag) : Bool := (exl K).all id
theorem sH {K : PySem.W.Frag} (h : ex K = true) (i : Nat) {b : Bool} (hi : (exl K)[i]? = some b) : b = true := by
 unfold ex at h
 rw [bj] at h
 exact h b (bw hi)
def loose : List PySem.Str := (["EVERY", "LOST", "SLOW", "GAP", "HOLD", "TOP", "NetError", "NoPlan", "NoText", "MOST_ADDRESSES", "MOST_HOUSES", "MOST_TIES", "MOST_TIE", "MOST_LESS", "NUMBERS", "is_whole", "is_within", "are_ranks", "is_tie", "are_ties", "is_field", "in_words", "Plan", "FIGURES", "LONGEST", "HEAD", "TAKES", "number_in", "Reading", "read_plan"] : List PySem.Str) ++ (["_law_deck", "_law_draw", "_law_pick", "_law_told", "_law_made", "_law_fields", "_law_due_fields", "_law_text", "_law_right"] : List PySem.Str)
abbrev R : PySem.W.OpenRow := PySem.W.OpenLaw.row PySem.Challenge.rw_onemaster_k03_plans_written_and_read
def as : List Nat := ([3, 6, 4, 24, 44, 63, 66, 80, 87, 92, 99, 104, 111, 116, 168, 173, 174, 179, 227, 238, 245, 252, 259, 264, 271, 278, 285, 290, 297, 302, 0, 23, 43, 62, 67, 68, 69, 70, 71, 72, 73, 79, 86, 91, 98, 103, 110, 115, 167, 178, 226, 237, 244, 251, 258, 263, 270, 277, 284, 289] : List Nat) ++ ([296, 301, 22, 25, 41, 42, 60, 61, 74, 76, 77, 78, 81, 83, 84, 85, 88, 90, 93, 95, 96, 97, 100, 102, 105, 107, 108, 109, 112, 114, 132, 139, 146, 153, 158, 165, 166, 169, 170, 175, 177, 193, 200, 207, 212, 217, 224, 225, 228, 229, 232, 234, 235, 236, 239, 241, 242, 243, 246, 248] : List Nat) ++ ([249, 250, 253, 255, 256, 257, 260, 262, 265, 267, 268, 269, 272, 274, 275, 276, 279, 281, 282, 283, 286, 288, 291, 293, 294, 295, 298, 300, 40, 59, 131, 125, 138, 145, 152, 157, 164, 192, 199, 206, 211, 216, 223] : List Nat)
abbrev hk : PySem.W.Hook := He.aDs as fa fn ts ex
def ob (s : PySem.W.SharedT) : He.AlY := He.aCE as fa fn ts ex (HandSHeadRun.getT s)
theorem aGt (s : PySem.W.SharedT) : ob s = hk.obs s.abs := He.aCi (HandSHeadRun.getT_eq s)
open PySem PySem.W PySem.Calls PyProof.Rows HandSHeadRun in
abbrev eF (w : World) (os : OsState) : Option SharedT := endF (stepQ (denQ tabQ) R.prog w) 8000 R.prog w os
open PySem PySem.W PySem.Calls PyProof.Rows in
theorem OT (w : World) (os : OsState) : (eF (w.withFollow "special-get-raises" false) os).map (fun s => (HandSHeadRun.looksF R.prog (boot_heap (w.withFollow "special-get-raises" false).params) s.abs, HandSHeadRun.seenQ (PySem.W.view R.prog [43]) loose (importedModules R.prog.main.body) (fun s => xlAt (PySem.W.view R.prog [43]) [] s && recOk R.toRowW.records s) s.abs)) = some (true, openGood (PySem.W.view R.prog [43]) loose) := by
 kernel_rfl
open PySem PySem.W PySem.Calls PyProof.Rows in
theorem TJ (w : World) (os : OsState) : (eF (w.withFollow "special-get-raises" false) os).map (ob) = some (hk.val (w.withFollow "special-get-raises" false)) := by
 kernel_rfl
theorem X6 (w : World) : HandSHeadRun.RunEq R (PySem.W.view R.prog [43]) hk ob 8000 loose (w.withFollow "special-get-raises" false) := fun os => He.aDE (OT w os) (TJ w os)
open PySem PySem.W PySem.Calls PyProof.Rows in
theorem RX (w : World) (os : OsState) : (eF (w.withFollow "special-get-raises" true) os).map (fun s => (HandSHeadRun.looksF R.prog (boot_heap (w.withFollow "special-get-raises" true).params) s.abs, HandSHeadRun.seenQ (PySem.W.view R.prog [43]) loose (importedModules R.prog.main.body) (fun s => xlAt (PySem.W.view R.prog [43]) [] s && recOk R.toRowW.records s) s.abs)) = some (true, openGood (PySem.W.view R.prog [43]) loose) := by
 kernel_rfl
open PySem PySem.W PySem.Calls PyProof.Rows in
theorem WU (w : World) (os : OsState) : (eF (w.withFollow "special-get-raises" true) os).map (ob) = some (hk.val (w.withFollow "special-get-raises" true)) := by
 kernel_rfl
theorem YT (w : World) : HandSHeadRun.RunEq R (PySem.W.view R.prog [43]) hk ob 8000 loose (w.withFollow "special-get-raises" true) := fun os => He.aDE (RX w os) (WU w os)
theorem run (w : World) : HandSHeadRun.RunEq R (PySem.W.view R.prog [43]) hk ob 8000 loose w := PySem.W.byRow2 "special-get-raises" (P := fun w => HandSHeadRun.RunEq R (PySem.W.view R.prog [43]) hk ob 8000 loose w) X6 YT w
section
 open PySem PySem.W PySem.Calls PyProof.Rows
def early : { E : Prop // E → PySem.Challenge.rw_onemaster_k03_plans_written_and_read.Holds } := ⟨_, fun hc => by
 w_on; o_law
 refine HandSHeadRun.head_any (r := OpenLaw.row PySem.Challenge.rw_onemaster_k03_plans_written_and_read) (q := view (OpenLaw.row PySem.Challenge.rw_onemaster_k03_plans_written_and_read).prog [43]) (H := hk) (ob := ob) (M := 8000) (loose := loose) (d := HandSHeadRun.topDef (OpenLaw.row PySem.Challenge.rw_onemaster_k03_plans_written_and_read).prog 43) (kwd := []) aGt
  (by kernel_rfl) (fun s => by kernel_rfl) run (by kernel_rfl) (by kernel_rfl) (by kernel_rfl) (by rfl) (by first | assumption | decide +kernel) (by decide +kernel) ⟨rfl, rfl, rfl, rfl, rfl, by decide +kernel⟩ ?hw ?hc
 case hw => w_witness2
 case hc => exact hc⟩
end
end K03H
set_option maxHeartbeats 4000000
namespace Pc
open PySem PySem.Spec PyProof.Rows L2
def GK (w : W) (d c : Nat) : Prop := d ≠ c ∧ ∃ (cells : List Int) (sm n : Int), w[d]? = some (.lst [.ref c, .int sm, .int n]) ∧ w[c]? = some (.lst (cells.map .int)) ∧ cells.length ≤ 63
def Kept (w w' : W) (d c : Nat) : Prop := w'.length = w.length ∧ ∀ i, i ≠ d → i ≠ c → w'[i]? = w[i]?
theorem E1 : ∀ cells : List Int, PyData.canLayAll0 (cells.map PyData.int) = true
 | [] => rfl
 | x :: xs => by simp [PyData.canLayAll0, PyData.canLay0, E1 xs]
theorem ED : ∀ cells : List Int, PyData.depthAll (cells.map PyData.int) ≤ 1
 | [] => by simp [PyData.depthAll]
 | x :: xs => by
  have := ED xs
  simp only [List.map_cons, PyData.depthAll, PyData.depth]
  omega
theorem lay_ints (cells : List Int) : SeqAt.shaped (.list (cells.map PyData.int)) = true := by
 have h1 := E1 cells
 have h2 := ED cells
 unfold SeqAt.shaped
 simp [PyData.canLay0, PyData.depth, h1]
 omega
theorem G3 (f : Nat → Option PyData) (cells : List Int) : D.pysR f (cells.map D.int) = some (cells.map PyData.int) := by
 induction cells with
 | nil => rfl
 | cons x xs ih => simp [D.pysR, D.fZ, ih]
theorem aFo {w : W} {c : Nat} {cells : List Int} (h : w[c]? = some (.lst (cells.map D.int))) : D.py w (.ref c) = some (.list (cells.map PyData.int)) := by
 show QS 8 w c = _
 simp [QS, h, G3]
theorem ne_nil {w : W} {c : Nat} {cells : List Int} (h : w[c]? = some (.lst (cells.map D.int))) : qX (.ref c) (.lst []) w = .ok (.bl (!cells.isEmpty)) w := by
 unfold qX yR wF
 rw [aFo h]
 have e : D.py w (.lst []) = some (.list []) := rfl
 rw [e]
 have l2 : SeqAt.shaped (.list []) = true := lay_ints []
 simp only [lay_ints, l2, and_self, ae]
 cases cells <;> simp [PyData.eqv, PyData.eqvAll]
@[irreducible] def T {α : Type} (r : Res α) (P : α → W → Prop) : Prop := match r with
 | .ok a w => P a w
 | _ => False
section
variable {α β : Type} {P Q : α → W → Prop} {r : Res α}
theorem T.ex (h : T r P) : ∃ a w, r = .ok a w ∧ P a w := by
 unfold T at h
 cases r with
 | ok a w => exact ⟨a, w, rfl, h⟩
 | HF x w => exact h.elim
 | bad => exact h.elim
theorem T.of {a : α} {w : W} (h : r = .ok a w) (p : P a w) : T r P := by unfold T; rw [h]; exact p
theorem T.mono (h : T r P) (k : ∀ a w, r = .ok a w → P a w → Q a w) : T r Q := by
 obtain ⟨a, w, e, p⟩ := h.ex
 exact T.of e (k a w e p)
theorem bY {a : α} {w : W} : T (.ok a w) P = P a w := by unfold T; rfl
theorem Y6 : T .bad P = False := by unfold T; rfl
theorem bC {r : Res α} {f : α → W → Res β} {P : β → W → Prop} : T (r.bind f) P = T r fun a w => T (f a w) P := by cases r <;> (first | rfl | (unfold T; rfl) | (unfold Then; rfl))
theorem yV : T r.NK P = T r P := by cases r <;> (first | rfl | (unfold T; rfl) | (unfold Then; rfl))
theorem JF {c : Prop} [Decidable c] {a b : Res α} : T (if c then a else b) P = (if c then T a P else T b P) := by split <;> (first | rfl | (unfold T; rfl) | (unfold Then; rfl))
theorem c5 {c : Prop} [Decidable c] {a : Res α} : T (if c then a else .bad) P = (c ∧ T a P) := by
 by_cases h : c
 ·rw [if_pos h]; exact propext ⟨fun z => ⟨h, z⟩, fun z => z.2⟩
 ·rw [if_neg h]; exact propext ⟨fun z => by unfold T at z; exact z.elim, fun z => absurd z.1 h⟩
end
section
variable {σ : Sg} {w : W} {P : D → W → Prop} {PA : List D → W → Prop} {PB : Bool → W → Prop} {PF : Fl → W → Prop} {a b c : ME} {ma mk : MA} {ta tb : MT} {sa sb : MS} {g : MG} {gs : NQ} {f : D → D → W → Res D} {d x y : D}
theorem T_C : T (eC d σ w) P = P d w := by unfold T; rfl
theorem T_V {i : Nat} : T (aB i σ w) P = (match σ[i]? with
 | some (some d) => P d w
 | _ => False) := by
 unfold aB
 cases h : σ[i]? with
 | none => unfold T; rfl
 | some o => cases o <;> (first | rfl | (unfold T; rfl) | (unfold Then; rfl))
theorem OX : T (aD f a b σ w) P = T (a σ w) fun x w1 => T (b σ w1) fun y w2 => T (f x y w2) P := by unfold aD; simp only [bC]
theorem aAg {f : D → W → Res D} : T (AQ f a σ w) P = T (a σ w) fun x w1 => T (f x w1) P := by unfold AQ; simp only [bC]
theorem RK : T (jC a b σ w) P = T (a σ w) fun x w1 => T (iA x w1) fun c _ => if c = true then T (b σ w1) P else P x w1 := by unfold jC; simp only [bC, JF, bY]
theorem aBr : T (eOr a b σ w) P = T (a σ w) fun x w1 => T (iA x w1) fun c _ => if c = true then P x w1 else T (b σ w1) P := by unfold eOr; simp only [bC, JF, bY]
theorem aAX : T (W6 ta a b σ w) P = T (ta σ w) fun c w1 => if c = true then T (a σ w1) P else T (b σ w1) P := by unfold W6; simp only [bC, JF]
theorem A5 : T (aE σ w) PA = PA [] w := by unfold T; rfl
theorem wB : T (aA a ma σ w) PA = T (a σ w) fun x w1 => T (ma σ w1) fun xs w2 => PA (x :: xs) w2 := by unfold aA; simp only [bC, bY]
theorem QG : T (bR ma σ w) P = T (ma σ w) fun xs w1 => xs.length ≤ sizeLine ∧ P (.tup xs) w1 := by unfold bR; simp only [bC, c5, bY]
theorem P4 : T (fP ma σ w) P = T (ma σ w) fun xs w1 => xs.length ≤ sizeLine ∧ P (.lst xs) w1 := by unfold fP; simp only [bC, c5, bY]
theorem PD : T (eNew ma σ w) P = T (ma σ w) fun xs w1 => xs.length ≤ sizeLine ∧ P (.ref w1.length) (w1 ++ [.lst xs]) := by unfold eNew; simp only [bC, c5, bY]
theorem NR {m : MF} : T (aR m ma σ w) P = T (ma σ w) fun xs w1 => T (m xs w1) P := by unfold aR; simp only [bC]
theorem FV {t : String} {m : WC} : T (cL t m a ma σ w) P = T (a σ w) fun d w1 => TY d w1 = some t ∧ T (ma σ w1) fun xs w2 => T (m d xs w2) P := by unfold cL; simp only [bC, c5]
theorem E9 {m : MF} {n : Nat} {gd : List D → List D → List D} : T (aK m n gd ma σ w) P = T (ma σ w) fun xs w1 => xs.length = n ∧ T (m (gd xs []) w1) P := by unfold aK; simp only [bC, c5]
theorem yW {m : MF} {n j : Nat} {gd : List D → List D → List D} : T (yM m n j gd ma mk σ w) P = T (ma σ w) fun xs w1 => T (mk σ w1) fun zs w2 => (xs.length = n ∧ zs.length = j) ∧ T (m (gd xs zs) w2) P := by unfold yM; simp only [bC, c5]
theorem KS {m : MF} {C : Addr} {h : List D → List D} : T (qK m C h w) P = T (m (h [.ref w.length]) (w ++ [.ins C []])) fun r w1 => r = .non ∧ P (.ref w.length) w1 := by
 unfold qK
 simp only [bC]
 congr 1
 funext r w1
 cases r <;> simp [T]
theorem xH {m : MF} {C : Addr} {n j : Nat} {gd : List D → List D → List D} : T (xO C m n j gd ma mk σ w) P = T (ma σ w) fun xs w1 => T (mk σ w1) fun zs w2 => (xs.length = n ∧ zs.length = j) ∧ T (qK m C (fun s => gd (s ++ xs) zs) w2) P := by unfold xO; simp only [bC, c5]
theorem QK {C : Addr} {z : Str} : T (bE C z a σ w) P = T (a σ w) fun x w1 => T (nK C z x w1) P := by unfold bE AQ; simp only [bC]
theorem aBa {g : D → D → W → Res D} : T (WA f g a b c σ w) P = T (a σ w) fun x w1 => T (b σ w1) fun y w2 => T (f x y w2) fun r w3 => match r with
 | .bl k => if k = true then T (c σ w3) fun z w4 => T (g y z w4) P else P (.bl false) w3
 | _ => False := by
 unfold WA
 simp only [bC]
 congr 1; funext x w1; congr 1; funext y w2; congr 1; funext r w3
 cases r <;> first | (unfold T; rfl) | skip
 rename_i k
 cases k
 ·unfold T; rfl
 ·exact bC
theorem P5 : T (a8 a σ w) PB = T (a σ w) fun x w1 => match x with
 | .bl k => PB k w1
 | _ => False := by
 unfold a8
 simp only [bC]
 congr 1; funext x w1
 cases x <;> (first | rfl | (unfold T; rfl) | (unfold Then; rfl))
theorem RC : T (eQ a σ w) PB = T (a σ w) fun x w1 => T (iA x w1) PB := by unfold eQ; simp only [bC]
theorem vF : T (cN ta σ w) PB = T (ta σ w) fun k w1 => PB (!k) w1 := by unfold cN; simp only [bC, bY]
theorem x9 : T (gG ta tb σ w) PB = T (ta σ w) fun k w1 => if k = true then T (tb σ w1) PB else PB false w1 := by unfold gG; simp only [bC, JF, bY]
theorem N9 : T (h8 ta tb σ w) PB = T (ta σ w) fun k w1 => if k = true then PB true w1 else T (tb σ w1) PB := by unfold h8; simp only [bC, JF, bY]
theorem rC : T (bS σ w) PB = PB true w := by unfold T; rfl
def Then (b : MS) (PF : Fl → W → Prop) : Fl → W → Prop := fun f w => match f with
 | .nx σ => T (b σ w) PF
 | f => PF f w
theorem bA : T (aI sa sb σ w) PF = T (sa σ w) (Then sb PF) := by
 unfold aI
 simp only [bC]
 congr 1; funext f w1
 cases f <;> (first | rfl | (unfold T; rfl) | (unfold Then; rfl))
theorem dS {σ : Sg} : Then sb PF (.nx σ) w = T (sb σ w) PF := by first | rfl | (unfold Then; rfl)
theorem AB {d : D} : Then sb PF (.rt d) w = PF (.rt d) w := by first | rfl | (unfold Then; rfl)
theorem QU : T (aY a σ w) PF = T (a σ w) fun d w1 => PF (.rt d) w1 := by unfold aY; simp only [bC, bY]
theorem FL : T (cS a σ w) PF = T (a σ w) fun _ w1 => PF (.nx σ) w1 := by unfold cS; simp only [bC, bY]
theorem wH : T (dR ta sa sb σ w) PF = T (ta σ w) fun k w1 => if k = true then T (sa σ w1) PF else T (sb σ w1) PF := by unfold dR; simp only [bC, JF]
theorem EG : T (aX σ w) PF = PF (.nx σ) w := by unfold T; rfl
theorem IQ : T (aT a g σ w) PF = T (a σ w) fun d w1 => T (g d σ w1) fun s w2 => PF (.nx s) w2 := by unfold aT; simp only [bC, bY]
theorem R6 {i : Nat} {PS : Sg → W → Prop} : T (aU i d σ w) PS = PS (σ.set i (some d)) w := by unfold T; rfl
theorem D6 {PS : Sg → W → Prop} : T (dQ a b d σ w) PS = T (a σ w) fun o w1 => T (b σ w1) fun i w2 => T (setM o i d w2) fun _ w3 => PS σ w3 := by unfold dQ; simp only [bC, bY]
theorem A6 {C : Addr} {z : Str} : T (cG C z a b σ w) PF = T (b σ w) fun x w1 => T (a σ w1) fun d w2 => T (oU C z d x w2) fun _ w3 => PF (.nx σ) w3 := by unfold cG; simp only [bC, bY]
theorem FC {n : Nat} {xs : List D} {PS : Sg → W → Prop} : T (bX n gs (.tup xs) σ w) PS = (xs.length = n ∧ T (gs xs σ w) PS) := by simp only [bX, c5]
theorem AD {n : Nat} {xs : List D} {PS : Sg → W → Prop} : T (bX n gs (.jA xs) σ w) PS = (xs.length = n ∧ T (gs xs σ w) PS) := by simp only [bX, c5]
theorem GS {PS : Sg → W → Prop} : T (bU [] σ w) PS = PS σ w := by unfold T; rfl
theorem zH {xs : List D} {PS : Sg → W → Prop} : T (aJ g gs (d :: xs) σ w) PS = T (g d σ w) fun s w1 => T (gs xs s w1) PS := by simp only [aJ, bC]
theorem dI {mb : MS} {N : List Str} {ds : List D} : T (bL mb N ds w) P = T (mb (begin N ds) w) fun f w1 => match f with
 | .nx _ => P .non w1
 | .rt d => P d w1
 | _ => False := by
 unfold bL
 simp only [bC]
 congr 1; funext f w1
 cases f <;> (first | rfl | (unfold T; rfl) | (unfold Then; rfl))
end
section
variable {w : W} {P : D → W → Prop} {a b : Int} {x y d : D}
theorem mV : T (bH (.int a) (.int b) w) P = P (.int (a + b)) w := by unfold T; rfl
theorem FF : T (lO (.int a) (.int b) w) P = P (.int (a - b)) w := by unfold T; rfl
theorem y7 : T (mulM (.int a) (.int b) w) P = (EK a b = true ∧ P (.int (a * b)) w) := by unfold mulM; simp only [c5, bY]
theorem wU : T (kH (.int a) (.int b) w) P = (0 < b ∧ P (.int (a % b)) w) := by unfold kH; simp only [c5, bY]
theorem q9 : T (wR (.int a) (.int b) w) P = ((0 < b ∧ b < 1073741824) ∧ P (.int (a / b)) w) := by unfold wR; simp only [c5, bY]
theorem NM : T (sO (.int a) w) P = P (.int (-a)) w := by unfold T; rfl
theorem Z9 : T (O9 (.int a) (.int b) w) P = P (.bl (decide (a < b))) w := by unfold T; rfl
theorem aAL : T (HH (.int a) (.int b) w) P = P (.bl (decide (a ≤ b))) w := by unfold T; rfl
theorem aAY : T (NJ (.int a) (.int b) w) P = P (.bl (decide (b < a))) w := by unfold T; rfl
theorem WL : T (geM (.int a) (.int b) w) P = P (.bl (decide (b ≤ a))) w := by unfold T; rfl
theorem pU {xs ys : List D} : T (bH (.tup xs) (.tup ys) w) P = (xs.length + ys.length ≤ sizeLine ∧ P (.tup (xs ++ ys)) w) := by unfold bH; simp only [c5, bY]
theorem gD {xs ys : List D} : T (bH (.lst xs) (.lst ys) w) P = (xs.length + ys.length ≤ sizeLine ∧ P (.lst (xs ++ ys)) w) := by unfold bH; simp only [c5, bY]
theorem qI : T (Y4 x .non w) P = P (.bl x.isNon) w := by cases x <;> (first | rfl | (unfold T; rfl))
theorem NX {p q : Bool} : T (Y4 (.bl p) (.bl q) w) P = P (.bl (decide (p = q))) w := by unfold T; rfl
theorem vB : T (aBm x .non w) P = P (.bl (!x.isNon)) w := by cases x <;> (first | rfl | (unfold T; rfl))
theorem sX {p q : Bool} : T (aBm (.bl p) (.bl q) w) P = P (.bl (!decide (p = q))) w := by unfold T; rfl
theorem Q1 : T (notM x w) P = T (iA x w) fun c _ => P (.bl (!c)) w := by unfold notM; simp only [bC, bY]
theorem ES {p : Bool} {PB : Bool → W → Prop} : T (iA (.bl p) w) PB = PB p w := by unfold T; rfl
theorem HE {PB : Bool → W → Prop} : T (iA (.int a) w) PB = PB (a != 0) w := by unfold T; rfl
theorem E3 {PB : Bool → W → Prop} : T (iA .non w) PB = PB false w := by unfold T; rfl
theorem xA {xs : List D} : T (atM xs (.int a) w) P = ∃ d, atI xs a = some d ∧ P d w := by
 show T (match atI xs a with
  | some d => Res.ok d w
  | none => .bad) P = _
 cases atI xs a with
 | none => simp [T]
 | some d => simp [T]
theorem QA {xs : List D} : T (aV (.tup xs) y w) P = T (atM xs y w) P := by unfold T; rfl
theorem OM {xs : List D} : T (aV (.jA xs) y w) P = T (atM xs y w) P := by unfold T; rfl
theorem wX {xs : List D} : T (aV (.lst xs) y w) P = T (atM xs y w) P := by unfold T; rfl
theorem J0 {i : Nat} {kvs : List (Key × D)} {z : Str} (h : w[i]? = some (.dK kvs)) : T (aV (.ref i) (.str z) w) P = ∃ d, jH kvs (.inr z) = some d ∧ P d w := by
 simp only [aV, h, qR, keyD, Option.map_some]
 cases jH kvs (Sum.inr z) with
 | none => simp [T]
 | some d => simp [T]
theorem D2 : T (fN x y w) P = ∃ r, yR x y w = some r ∧ P (.bl r) w := by
 unfold fN
 cases yR x y w with
 | none => simp [T]
 | some r => simp [T]
theorem aCH : T (qX x y w) P = ∃ r, yR x y w = some r ∧ P (.bl (!r)) w := by
 unfold qX
 cases yR x y w with
 | none => simp [T]
 | some r => simp [T]
theorem y9 : yR (.int a) (.int b) w = some (a == b) := by simp [yR, wF, D.py, D.fZ, SeqAt.shaped, PyData.canLay0, PyData.depth, PyData.eqv]
theorem aE0 : T (OZ x y w) P = ∃ r, inD x y w = some r ∧ P (.bl r) w := by
 unfold OZ
 cases inD x y w with
 | none => simp [T]
 | some r => simp [T]
theorem U6 : T (c7 [d] w) P = ∃ n, EU d w = some n ∧ P (.int n) w := by
 show T (match EU d w with
  | some n => Res.ok (D.int n) w
  | none => .bad) P = _
 cases EU d w with
 | none => simp [T]
 | some n => simp [T]
theorem YX : T (nS [d] w) P = ∃ z, zP d w = some z ∧ P (.str z) w := by
 show T (match zP d w with
  | some n => Res.ok (D.str n) w
  | none => .bad) P = _
 cases zP d w with
 | none => simp [T]
 | some n => simp [T]
theorem A7 {C : Addr} {z : Str} {i : Nat} {fs : List (Str × D)} (h : w[i]? = some (.ins C fs)) : T (nK C z (.ref i) w) P = ∃ d, fs.lookup z = some d ∧ P d w := by
 simp only [nK, h, ae]
 cases fs.lookup z with
 | none => simp [T]
 | some d => simp [T]
theorem ZO {i : Nat} {xs : List D} (h : w[i]? = some (.lst xs)) : T (dA (.ref i) [d] w) P = (xs.length < sizeLine ∧ P .non (w.set i (.lst (xs ++ [d])))) := by
 simp only [dA, h, c5, bY]
theorem aEo {i : Nat} {kvs : List (Key × D)} {z : Str} {PU : Unit → W → Prop} (h : w[i]? = some (.dK kvs)) : T (setM (.ref i) (.str z) d w) PU = (kvs.length < sizeLine ∧ PU () (w.set i (.dK (putD kvs (.inr z) d)))) := by
 simp only [setM, h, keyD, c5, bY]
theorem qY {C : Addr} {z : Str} {i : Nat} {fs : List (Str × D)} {PU : Unit → W → Prop} (h : w[i]? = some (.ins C fs)) : T (oU C z (.ref i) d w) PU = (fs.length < 1000 ∧ PU () (w.set i (.ins C (uL z d fs)))) := by
 simp only [oU, h, true_and, c5, bY]
end
theorem aEG {it : kL} {g : MG} {body : MS} {P : Fl → W → Prop} (Inv : Nat → Sg → W → Prop) (ok : ∀ i σ w, Inv i σ w → it.ok w)
  (step : ∀ i x σ w, it.xs[i]? = some x → Inv i σ w → T (g x σ w) fun σ1 w1 => T (body σ1 w1) fun f w2 => match f with
   | .nx s => Inv (i + 1) s w2
   | .ct s => Inv (i + 1) s w2
   | .bk s => P (.nx s) w2
   | .rt d => P (.rt d) w2) (fin : ∀ σ w, Inv it.xs.length σ w → P (.nx σ) w) : ∀ {i : Nat} {σ : Sg} {w : W}, i ≤ it.xs.length → Inv i σ w → T (forL it g body (it.xs.drop i) σ w) P := by
 intro i
 generalize hn : it.xs.length - i = n
 induction n generalizing i with
 | zero =>
  intro σ w hi h
  have e : i = it.xs.length := by omega
  subst e
  rw [List.drop_length]
  unfold forL
  rw [if_pos (ok _ _ _ h)]
  rw [bY]; exact fin σ w h
 | succ n ih =>
  intro σ w hi h
  have hlt : i < it.xs.length := by omega
  rw [List.drop_eq_getElem_cons hlt]
  unfold forL
  rw [if_pos (ok _ _ _ h), bC]
  refine (step i _ σ w (br hlt) h).mono fun s1 w1 _ q => ?_
  rw [bC]
  refine T.mono q fun f w2 _ q2 => ?_
  cases f with
  | nx s => exact ih (by omega) (by omega) q2
  | ct s => exact ih (by omega) (by omega) q2
  | bk s => rw [bY]; exact q2
  | rt d => rw [bY]; exact q2
theorem I7 {m : MI} {g : MG} {body : MS} {σ : Sg} {w : W} {P : Fl → W → Prop} : T (gZ m g body σ w) P = T (m σ w) fun it w1 => T (forL it g body it.xs σ w1) P := by unfold gZ; simp only [bC]
theorem WH {it : kL} {vs : List Nat} {g : MG} {t : MT} {e : ME} {σ : Sg} {P : List D → W → Prop} (Inv : Nat → List D → W → Prop) (ok : ∀ i acc w, Inv i acc w → it.ok w)
  (step : ∀ i x acc w, it.xs[i]? = some x → Inv i acc w → T (g x (c0 σ vs) w) fun σ1 w1 => T (t σ1 w1) fun b w2 => if b = true then T (e σ1 w2) fun y w3 => Inv (i + 1) (acc ++ [y]) w3 else Inv (i + 1) acc w2)
  (fin : ∀ acc w, Inv it.xs.length acc w → P acc w) : ∀ {i : Nat} {acc : List D} {w : W}, i ≤ it.xs.length → Inv i acc w → T (nM it vs g t e (it.xs.drop i) σ w) fun ys w1 => P (acc ++ ys) w1 := by
 intro i
 generalize hn : it.xs.length - i = n
 induction n generalizing i with
 | zero =>
  intro acc w hi h
  have e : i = it.xs.length := by omega
  subst e
  rw [List.drop_length]
  unfold nM
  rw [if_pos (ok _ _ _ h)]
  rw [bY, List.append_nil]
  exact fin acc w h
 | succ n ih =>
  intro acc w hi h
  have hlt : i < it.xs.length := by omega
  rw [List.drop_eq_getElem_cons hlt]
  unfold nM
  rw [if_pos (ok _ _ _ h), bC, yV]
  refine (step i _ acc w (br hlt) h).mono fun s1 w1 _ q => ?_
  rw [bC, yV]
  refine T.mono q fun b w2 _ q2 => ?_
  cases b with
  | true =>
   simp only [ae] at q2 ⊢
   rw [bC, yV]
   refine T.mono q2 fun y w3 _ q3 => ?_
   rw [bC]
   refine (ih (by omega) (by omega) q3).mono fun ys w4 _ q4 => ?_
   rw [bY]
   simpa using q4
  | false =>
   simp only [bp, ab] at q2 ⊢
   exact ih (by omega) (by omega) q2
theorem FJ {m : MI} {vs : List Nat} {g : MG} {t : MT} {e : ME} {σ : Sg} {w : W} {P : D → W → Prop} : T (bQ m vs g t e σ w) P = T (m σ w) fun it w1 => it.xs.length ≤ sizeLine ∧ T (nM it vs g t e it.xs σ w1) fun ys w2 => P (.lst ys) w2 := by
 unfold bQ VY
 simp only [bC, c5, bY]
structure uT (w w' : W) (d c : Nat) : Prop where
 le : w.length ≤ w'.length
 at_ : ∀ i, i < w.length → i ≠ d → i ≠ c → w'[i]? = w[i]?
section
variable {w w1 w2 : W} {d c i : Nat} {o : MO}
theorem uT.refl : uT w w d c := ⟨az _, fun _ _ _ _ => rfl⟩
theorem uT.trans (a : uT w w1 d c) (b : uT w1 w2 d c) : uT w w2 d c := ⟨cq a.le b.le, fun i h1 h2 h3 => (b.at_ i (Nat.lt_of_lt_of_le h1 a.le) h2 h3).trans (a.at_ i h1 h2 h3)⟩
theorem Kept.refl : Kept w w d c := ⟨rfl, fun _ _ _ => rfl⟩
theorem Kept.trans (a : Kept w w1 d c) (b : Kept w1 w2 d c) : Kept w w2 d c := ⟨b.1.trans a.1, fun i h1 h2 => (b.2 i h1 h2).trans (a.2 i h1 h2)⟩
theorem Kept.obj (a : Kept w w1 d c) (h : w[i]? = some o) (h1 : i ≠ d) (h2 : i ≠ c) : w1[i]? = some o := by rw [a.2 i h1 h2]; exact h
theorem Kept.grow (k : Kept w w1 d c) : uT w w1 d c := ⟨Nat.le_of_eq k.1.symm, fun i _ h2 h3 => k.2 i h2 h3⟩
theorem uT.app {g : W} : uT w (w ++ g) d c := ⟨by simp, fun i h _ _ => by rw [aq h]⟩
theorem uT.obj (a : uT w w1 d c) (h : w[i]? = some o) (h1 : i ≠ d) (h2 : i ≠ c) : w1[i]? = some o := by rw [a.at_ i (ag.mp h).1 h1 h2]; exact h
theorem GK.lt (h : GK w d c) : d < w.length ∧ c < w.length := by
 obtain ⟨_, cells, sm, n, h1, h2, _⟩ := h
 exact ⟨(ag.mp h1).1, (ag.mp h2).1⟩
theorem GK.app {g : W} (h : GK w d c) : GK (w ++ g) d c := by
 obtain ⟨l1, l2⟩ := h.lt
 obtain ⟨hne, cells, sm, n, h1, h2, h3⟩ := h
 exact ⟨hne, cells, sm, n, by rw [aq l1]; exact h1, by rw [aq l2]; exact h2, h3⟩
theorem GK.set (h : GK w d c) (h1 : i ≠ d) (h2 : i ≠ c) : GK (w.set i o) d c := by
 obtain ⟨hne, cells, sm, n, g1, g2, g3⟩ := h
 exact ⟨hne, cells, sm, n, by rw [av h1]; exact g1, by rw [av h2]; exact g2, g3⟩
end
theorem atI_nat {xs : List D} {r : Int} (h0 : 0 ≤ r) (h1 : r < xs.length) : ∃ (i : Nat) (x : D), xs[i]? = some x ∧ atI xs r = some x ∧ (i : Int) = r := by
 have l : r.toNat < xs.length := by omega
 refine ⟨r.toNat, xs[r.toNat], br l, ?_, by omega⟩
 unfold atI ixN
 rw [if_pos h0, if_pos h1]
 show xs[r.toNat]? = _
 exact br l
section
variable {σ : Sg} {w : W} {PI : kL → W → Prop} {P : D → W → Prop}
theorem GV {m : ME} : T (dM m σ w) PI = T (m σ w) fun d w1 => T (iterM d w1) PI := by unfold dM; simp only [bC]
theorem E6 {f : List D → W → Res kL} {ma : MA} : T (eT f ma σ w) PI = T (ma σ w) fun xs w1 => T (f xs w1) PI := by unfold eT; simp only [bC]
theorem NP {xs : List D} : T (iterM (.tup xs) w) PI = PI ⟨xs, always⟩ w := by unfold T; rfl
theorem Q3 {xs : List D} : T (iterM (.lst xs) w) PI = PI ⟨xs, always⟩ w := by unfold T; rfl
theorem LU {n : Int} (h : 0 ≤ n) (h2 : n < 1073741824) : T (l9 [.int n] w) PI = PI (nZ 0 n.toNat) w := by
 simp only [l9]
 rw [if_pos (by constructor <;> omega)]
 unfold T; rfl
theorem AA {PO : Option Int → W → Prop} : T (dB σ w) PO = PO none w := by unfold T; rfl
theorem AE {m : ME} {PO : Option Int → W → Prop} : T (cR m σ w) PO = T (m σ w) fun d w1 => match d with
 | .int i => PO (some i) w1
 | _ => False := by
 unfold cR
 simp only [bC]
 congr 1; funext d w1
 cases d <;> (unfold T; rfl)
theorem aAP {f : D → Option Int → Option Int → W → Res D} {a : ME} {lo hi : MO'} : T (qF f a lo hi σ w) P = T (a σ w) fun x w1 => T (lo σ w1) fun l w2 => T (hi σ w2) fun u w3 => T (f x l u w3) P := by unfold qF; simp only [bC]
theorem vL : ∀ ns : List Int, jY (ns.map D.int) = some ns
 | [] => rfl
 | n :: ns => by simp [jY, vL ns]
theorem aCW {ns : List Int} {lo hi : Option Int} : ∃ ms : List Int, cutD (ns.map D.int) lo hi = ms.map D.int ∧ ms.length ≤ ns.length := by
 unfold cutD
 rw [← List.map_drop, ← List.map_take]
 exact ⟨_, rfl, by simp; omega⟩
end
def gE (r : List Int) : D := .tup (r.map .int)
def cI (t : Int × Int × Int) : D := .tup [.int t.1, .int t.2.1, .int t.2.2]
structure Mo where
 eD : List (List Int)
 qW : Int
 zX : Int
 AI : Int
 bears : D
 gap : Int
 hold : Int
 takes : Bool
 eR : List (Int × Int × Int)
 lV : Int
def Mo.kvs (m : Mo) : List (Key × D) := [(.inr "ranks", .tup (m.eD.map gE)), (.inr "every", .int m.qW), (.inr "lost", .int m.zX), (.inr "slow", .int m.AI), (.inr "bears", m.bears), (.inr "gap", .int m.gap), (.inr "hold", .int m.hold),
 (.inr "takes", .bl m.takes), (.inr "ties", .tup (m.eR.map cI)), (.inr "hosts", .int m.lV)]
structure aBT (rs : List (List Int)) (h : Nat) : Prop where
 h1 : 1 ≤ h
 h6 : h ≤ 6
 row : ∀ r ∈ rs, r.length = h ∧ ∀ x ∈ r, 1 ≤ x ∧ x ≤ 12
structure aEk (ts : List (Int × Int × Int)) (h : Nat) : Prop where
 few : ts.length ≤ 6
 each : ∀ t ∈ ts, (0 ≤ t.1 ∧ t.1 < h) ∧ (0 ≤ t.2.1 ∧ t.2.1 ≤ 9) ∧ (1 ≤ t.2.2 ∧ t.2.2 ≤ 11)
 up : ts.Pairwise fun a b => a.1 < b.1 ∨ (a.1 = b.1 ∧ a.2.1 < b.2.1)
theorem z3 {n : Nat} {i : Nat} {x : D} {lo : Int} (h : (nZ lo n).xs[i]? = some x) : i < n ∧ x = .int (lo + i) := by
 have h' : ((List.range n).map fun k : Nat => D.int (lo + (k : Int)))[i]? = some x := h
 rw [bz] at h'
 by_cases hi : i < n
 ·rw [List.getElem?_range hi] at h'
  cases h'
  exact ⟨hi, rfl⟩
 ·rw [List.getElem?_eq_none (by simpa using hi)] at h'
  cases h'
theorem m5 {n : Nat} {lo : Int} : (nZ lo n).xs.length = n := by simp [nZ]
open PySem.W (dataLe)
def l3 (t : Int × Int × Int) : List Int := [t.1, t.2.1, t.2.2]
def GN (t u : Int × Int × Int) : Bool := decide (l3 t ≤ l3 u)
theorem W4 {w : W} {ts : List (Int × Int × Int)} : (ts.map cI).mergeSort (dataLe false (K8 w)) = (ts.mergeSort GN).map cI := by
 refine (List.map_mergeSort fun a _ b _ => ?_).symm
 have e : dataLe false (K8 w) (cI a) (cI b) = dataLe false (fun t : Int × Int × Int => .list ((l3 t).map .int)) a b := rfl
 rw [e, PySem.W.dataLe_rows]
 rfl
theorem P8 {ts : List (Int × Int × Int)} : (ts.mergeSort GN).Pairwise fun a b => l3 a ≤ l3 b := by
 have h := List.pairwise_mergeSort (le := GN) (fun a b c h1 h2 => by
  simp only [GN, ak] at *
  exact List.le_trans h1 h2) (fun a b => by
  simp only [GN, Bool.or_eq_true, ak]
  exact List.le_total _ _) ts
 exact h.imp fun h => by simpa [GN] using h
def pairD (p : Int × Int) : D := .tup [.int p.1, .int p.2]
theorem aEg {t : Int × Int × Int} {w : W} : mS (cI t) none (some 2) w = .ok (pairD (t.1, t.2.1)) w := rfl
section
variable {σ : Sg} {w : W} {P : D → W → Prop} {PP : List (D × D) → W → Prop}
theorem T9 : T (HJ σ w) PP = PP [] w := by unfold T; rfl
theorem NG {a b : ME} {r : MP} : T (dP a b r σ w) PP = T (a σ w) fun k w1 => T (b σ w1) fun v w2 => T (r σ w2) fun ps w3 => PP ((k, v) :: ps) w3 := by unfold dP; simp only [bC, bY]
theorem aAl {m : MP} : T (G8 m σ w) P = T (m σ w) fun ps w1 => ∃ kvs, keyed ps = some kvs ∧ kvs.length ≤ 15 ∧ P (.ref w1.length) (w1 ++ [.dK (tW [] kvs)]) := by
 unfold G8
 simp only [bC]
 congr 1; funext ps w1
 cases keyed ps with
 | none => simp [T]
 | some kvs => simp [c5, bY]
end
section
variable {α β : Type} {it : kL} {vs : List Nat} {g : MG} {t : MT} {e : ME} {σ : Sg} {w : W} {P : List D → W → Prop}
theorem fH (ys : List α) (enc : α → D) (f : α → D) (hx : it.xs = ys.map enc) (hok : it.ok w)
  (h : ∀ y ∈ ys, T (g (enc y) (c0 σ vs) w) fun σ1 w1 => T (t σ1 w1) fun b w2 => b = true ∧ T (e σ1 w2) fun z w3 => z = f y ∧ w3 = w) (k : P (ys.map f) w) :
  T (nM it vs g t e it.xs σ w) P := by
 have cl := WH (it := it) (vs := vs) (g := g) (t := t) (e := e) (σ := σ) (P := P) (fun i acc w1 => w1 = w ∧ acc = (ys.take i).map f) (fun _ _ _ q => by rw [q.1]; exact hok)
  (fun i x acc w1 hi q => by
   obtain ⟨rfl, rfl⟩ := q
   rw [hx, bz] at hi
   cases hy : ys[i]? with
   | none => rw [hy] at hi; cases hi
   | some y =>
    rw [hy] at hi
    cases hi
    refine (h y (bw hy)).mono fun σ1 w2 _ q => q.mono fun b w3 _ q => ?_
    obtain ⟨rfl, q⟩ := q
    rw [if_pos rfl]
    refine q.mono fun z w4 _ q => ⟨q.2, ?_⟩
    rw [List.take_add_one, hy, q.1]
    simp)
  (fun acc w1 q => by
   obtain ⟨rfl, rfl⟩ := q
   rw [hx, ao, List.take_length]
   exact k) (i := 0) (acc := []) (w := w) (Nat.zero_le _) ⟨rfl, rfl⟩
 rw [List.drop_zero] at cl
 exact cl.mono fun _ _ _ q => by simpa using q
theorem TR (ys : List α) (f : α → Bool) : tA (ys.map fun y => D.bl (f y)) = some (ys.map f) := by
 induction ys with
 | nil => rfl
 | cons y ys ih => simp [tA, ih]
theorem AZ {P : D → W → Prop} (ys : List α) (f : α → Bool) : T (allM [.lst (ys.map fun y => .bl (f y))] w) P = P (.bl (ys.all f)) w := by
 have e : allM [.lst (ys.map fun y => .bl (f y))] w = .ok (.bl (ys.all f)) w := by
  simp only [allM, xD, Option.bind_some, TR]
  congr 2
  rw [List.all_map]
  rfl
 rw [e, bY]
theorem aDL (enc f : β → D) : ∀ (zs : List β) (acc : List D) {P : List D → W → Prop} (hok : it.ok w) (hl : acc.length + zs.length ≤ sizeLine)
  (h : ∀ z ∈ zs, T (g (enc z) (c0 σ vs) w) fun σ1 w1 => T (t σ1 w1) fun b w2 => b = true ∧ T (e σ1 w2) fun y w3 => y = f z ∧ w3 = w) (k : P (acc ++ zs.map f) w), T (inL it vs g t e acc (zs.map enc) σ w) P
 | [], acc, P, hok, hl, h, k => by
  rw [List.map_nil]
  unfold inL
  rw [if_pos hok, bY]
  simpa using k
 | z :: zs, acc, P, hok, hl, h, k => by
  simp only [List.length_cons] at hl
  rw [List.map_cons]
  unfold inL
  rw [if_pos hok, bC, yV]
  refine (h z (bc ..)).mono fun σ1 w1 _ q => ?_
  rw [bC, yV]
  refine q.mono fun b w2 _ q => ?_
  obtain ⟨rfl, q⟩ := q
  rw [if_pos rfl, bC, yV]
  refine q.mono fun y w3 _ q => ?_
  rw [if_pos (by omega), q.1, q.2]
  exact aDL enc f zs (acc ++ [f z]) hok (by simp; omega) (fun z hz => h z (bh _ hz)) (by simpa using k)
theorem ZE (enc : α → D) (inner : α → List β) (enc1 : β → D) (f : α → β → D) {mi1 : MI} {vs1 : List Nat} {g1 : MG} {t1 : MT} : ∀ (ys : List α) (acc : List D) {P : List D → W → Prop} (hok : it.ok w) (hl : acc.length + (ys.map fun y => (inner y).length).sum ≤ sizeLine)
  (h : ∀ y ∈ ys, T (g (enc y) (c0 σ vs) w) fun σ1 w1 => T (t σ1 w1) fun b w2 => b = true ∧ T (mi1 σ1 w2) fun it1 w3 => (w3 = w ∧ it1.ok w ∧ it1.xs = (inner y).map enc1) ∧
   ∀ z ∈ inner y, T (g1 (enc1 z) (c0 σ1 vs1) w) fun σ2 w4 => T (t1 σ2 w4) fun b w5 => b = true ∧ T (e σ2 w5) fun v w6 => v = f y z ∧ w6 = w)
  (k : P (acc ++ ys.flatMap fun y => (inner y).map (f y)) w), T (y5 it vs g t mi1 vs1 g1 t1 e acc (ys.map enc) σ w) P
 | [], acc, P, hok, hl, h, k => by
  rw [List.map_nil]
  unfold y5
  rw [if_pos hok, bY]
  simpa using k
 | y :: ys, acc, P, hok, hl, h, k => by
  simp only [List.map_cons, List.sum_cons] at hl
  rw [List.map_cons]
  unfold y5
  rw [if_pos hok, bC, yV]
  refine (h y (bc ..)).mono fun σ1 w1 _ q => ?_
  rw [bC, yV]
  refine q.mono fun b w2 _ q => ?_
  obtain ⟨rfl, q⟩ := q
  rw [if_pos rfl, bC, yV]
  refine q.mono fun it1 w3 _ q => ?_
  obtain ⟨⟨ew, i1, i2⟩, q⟩ := q
  rw [bC, i2, ew]
  refine aDL enc1 (f y) (inner y) acc i1 (by omega) q ?_
  exact ZE enc inner enc1 f ys _ hok (by simp; omega) (fun z hz => h z (bh _ hz)) (by simpa using k)
theorem aB7 {m mi1 : MI} {vs1 : List Nat} {g1 : MG} {t1 : MT} {P : D → W → Prop} : T (D9 m vs g t mi1 vs1 g1 t1 e σ w) P = T (m σ w) fun it w1 => T (y5 it vs g t mi1 vs1 g1 t1 e [] it.xs σ w1) fun ys w2 => P (.lst ys) w2 := by
 unfold D9 aAB
 simp only [bC, bY]
end
end Pc
namespace Lb
open PySem PySem.Spec PyProof.Rows L2 Pc
structure bN where
 aH : Addr
 dH : Addr
def cZ : List (Str × Option D) := [(("every" : Str), some (.jA [(.int 1), (.int 5)])), (("lost" : Str), some (.jA [(.int 0), (.int 3)])), (("slow" : Str), some (.jA [(.int 1), (.int 4)])), (("bears" : Str), some (.jA [(.int 0), (.int 3)])), (("gap" : Str), some (.jA [(.int 0), (.int 3)])), (("hold" : Str), some (.jA [(.int 0), (.int 20)])), (("hosts" : Str), some (.jA [(.int 0), (.int 4)])), (("takes" : Str), none), (("ties" : Str), none)]
def kX : List Str := [("thing" : Str)]
def oB (k : bN) : MS :=
 (aY (jC (aR (jD m2) (aA (aB 0) (aA (eC (.ty "int")) aE))) (AQ notM (aR (jD m2) (aA (aB 0) (aA (eC (.ty "bool")) aE))))))
def iQ (k : bN) : MF := bL (oB k) kX
theorem NV (x0 : D) : begin kX [x0] = [some x0] := rfl
def iY : List Str := [("thing" : Str), ("least" : Str), ("most" : Str)]
def lX (k : bN) : MS :=
 (aY (jC (aK (iQ k) 1 aN (aA (aB 0) aE)) (WA HH HH (aB 1) (aB 0) (aB 2))))
def bO (k : bN) : MF := bL (lX k) iY
theorem MR (x0 x1 x2 : D) : begin iY [x0, x1, x2] = [some x0, some x1, some x2] := rfl
def i9 : List Str := [("thing" : Str), ("row" : Str), ("rank" : Str)]
def mE (k : bN) : MS :=
 (aI (dR (h8 (cN (eQ (aR (jD m2) (aA (aB 0) (aA (eC (.ty "tuple")) aE))))) (cN (a8 (WA HH HH (eC (.int 1)) (aR c7 (aA (aB 0) aE)) (eC (.int 4)))))) (aY (eC (.bl false))) aX)
 (aI (dR (cN (eQ (aR allM (aA (bQ (dM (aB 0)) [1] (aU 1) bS (jC (aR (jD m2) (aA (aB 1) (aA (eC (.ty "tuple")) aE))) (aD HH (aR c7 (aA (aB 1) aE)) (eC (.int 6))))) aE)))) (aY (eC (.bl false))) aX)
 (aI (dR (h8 (a8 (aD fN (aD aV (aB 0) (eC (.int 0))) (bR aE))) (cN (eQ (aR allM (aA (bQ (dM (aB 0)) [1] (aU 1) bS (aD fN (aR c7 (aA (aB 1) aE)) (aR c7 (aA (aD aV (aB 0) (eC (.int 0))) aE)))) aE))))) (aY (eC (.bl false))) aX)
 (aY (aR allM (aA (D9 (dM (aB 0)) [1, 2] (aU 1) bS (dM (aB 1)) [2] (aU 2) bS (aK (bO k) 3 aN (aA (aB 2) (aA (eC (.int 1)) (aA (eC (.int 12)) aE))))) aE))))))
def fK (k : bN) : MF := bL (mE k) i9
theorem NI (x0 : D) : begin i9 [x0] = [some x0, none, none] := rfl
def qS : List Str := [("thing" : Str), ("houses" : Str), ("house" : Str), ("tie" : Str), ("less" : Str)]
def uM (k : bN) : MS :=
 (aI (dR (h8 (cN (eQ (aR (jD m2) (aA (aB 0) (aA (eC (.ty "tuple")) aE))))) (a8 (aD qX (aR c7 (aA (aB 0) aE)) (eC (.int 3))))) (aY (eC (.bl false))) aX)
 (aI (aT (aB 0) (bX 3 (aJ (aU 2) (aJ (aU 3) (aJ (aU 4) bU)))))
 (aY (jC (aK (bO k) 3 aN (aA (aB 2) (aA (eC (.int 0)) (aA (aD lO (aB 1) (eC (.int 1))) aE)))) (jC (aK (bO k) 3 aN (aA (aB 3) (aA (eC (.int 0)) (aA (eC (.int 9)) aE)))) (aK (bO k) 3 aN (aA (aB 4) (aA (eC (.int 1)) (aA (eC (.int 11)) aE)))))))))
def jI (k : bN) : MF := bL (uM k) qS
theorem X1 (x0 x1 : D) : begin qS [x0, x1] = [some x0, some x1, none, none, none] := rfl
def kW : List Str := [("thing" : Str), ("houses" : Str), ("one" : Str), ("other" : Str)]
def nO (k : bN) : MS :=
 (aI (dR (h8 (cN (eQ (aR (jD m2) (aA (aB 0) (aA (eC (.ty "tuple")) aE))))) (h8 (a8 (aD NJ (aR c7 (aA (aB 0) aE)) (eC (.int 6)))) (cN (eQ (aR allM (aA (bQ (dM (aB 0)) [2] (aU 2) bS (aK (jI k) 2 aN (aA (aB 2) (aA (aB 1) aE)))) aE)))))) (aY (eC (.bl false))) aX)
 (aY (aR allM (aA (bQ (eT zsM (aA (qF mS (aB 0) dB (cR (AQ sO (eC (.int 1))))) (aA (qF mS (aB 0) (cR (eC (.int 1))) dB) aE))) [2, 3] (bX 2 (aJ (aU 2) (aJ (aU 3) bU))) bS (aD O9 (qF mS (aB 2) dB (cR (eC (.int 2)))) (qF mS (aB 3) dB (cR (eC (.int 2)))))) aE))))
def kT (k : bN) : MF := bL (nO k) kW
theorem QE (x0 x1 : D) : begin kW [x0, x1] = [some x0, some x1, none, none] := rfl
def k0 : List Str := [("name" : Str), ("thing" : Str), ("houses" : Str), ("least" : Str), ("most" : Str)]
def iS (k : bN) : MS :=
 (aI (dR (a8 (aD (YD k.dH cZ) (aB 0) (eC (.con k.dH)))) (aI (aT (aD (NA k.dH cZ) (eC (.con k.dH)) (aB 0)) (bX 2 (aJ (aU 3) (aJ (aU 4) bU))))
 (aY (aK (bO k) 3 aN (aA (aB 1) (aA (aB 3) (aA (aB 4) aE)))))) aX)
 (aI (dR (a8 (aD fN (aB 0) (eC (.str ("takes" : Str))))) (aY (aR (jD m2) (aA (aB 1) (aA (eC (.ty "bool")) aE)))) aX)
 (aY (aK (kT k) 2 aN (aA (aB 1) (aA (aB 2) aE))))))
def dO (k : bN) : MF := bL (iS k) k0
theorem t5 (x0 x1 x2 : D) : begin k0 [x0, x1, x2] = [some x0, some x1, some x2, none, none] := rfl
def fD : List Str := [("self" : Str), ("ranks" : Str), ("every" : Str), ("lost" : Str), ("slow" : Str), ("bears" : Str), ("gap" : Str), ("hold" : Str), ("takes" : Str), ("ties" : Str), ("hosts" : Str), ("borne" : Str), ("told" : Str), ("name" : Str), ("thing" : Str)]
def mD (k : bN) : MS :=
 (aI (dR (cN (eQ (aK (fK k) 1 aN (aA (aB 1) aE)))) DD aX)
 (aI (aT (W6 (a8 (aD Y4 (aB 5) (eC .non))) (aB 3) (aB 5)) (aU 11))
 (aI (aT (G8 (dP (eC (.str ("every" : Str))) (aB 2) (dP (eC (.str ("lost" : Str))) (aB 3) (dP (eC (.str ("slow" : Str))) (aB 4) (dP (eC (.str ("bears" : Str))) (aB 11) (dP (eC (.str ("gap" : Str))) (aB 6) (dP (eC (.str ("hold" : Str))) (aB 7) (dP (eC (.str ("takes" : Str))) (aB 8) HJ)))))))) (aU 12))
 (aI (cS (cL "dict" R3 (aB 12) (aA (G8 (dP (eC (.str ("ties" : Str))) (aB 9) (dP (eC (.str ("hosts" : Str))) (aB 10) HJ))) aE)))
 (aI (gZ (vU (aB 12)) (bX 2 (aJ (aU 13) (aJ (aU 14) bU))) (dR (cN (eQ (aK (dO k) 3 aN (aA (aB 13) (aA (aB 14) (aA (aR c7 (aA (aD aV (aB 1) (eC (.int 0))) aE)) aE)))))) DD aX))
 (aI (cG k.aH ("ranks" : Str) (aB 0) (aB 1))
 (aI (cG k.aH ("every" : Str) (aB 0) (aB 2))
 (aI (cG k.aH ("lost" : Str) (aB 0) (aB 3))
 (aI (cG k.aH ("slow" : Str) (aB 0) (aB 4))
 (aI (cG k.aH ("bears" : Str) (aB 0) (aB 11))
 (aI (cG k.aH ("gap" : Str) (aB 0) (aB 6))
 (aI (cG k.aH ("hold" : Str) (aB 0) (aB 7))
 (aI (cG k.aH ("takes" : Str) (aB 0) (aB 8))
 (aI (cG k.aH ("ties" : Str) (aB 0) (aB 9))
 (cG k.aH ("hosts" : Str) (aB 0) (aB 10))))))))))))))))
def gB (k : bN) : MF := bL (mD k) fD
abbrev aO (k : bN) : List D → List D → List D := fun xs zs => kJ [(0, 0), (0, 1), (1, 0), (1, 1), (1, 2), (1, 3), (1, 4), (1, 5), (1, 6), (1, 7), (1, 8)] xs zs []
def iW : List Str := [("_law_model_here" : Str), ("_law_words" : Str), ("_law_word" : Str)]
def mF (k : bN) : MS :=
 (aI (aT (bQ (dM (bR (aA (eC (.str ("every" : Str))) (aA (eC (.str ("lost" : Str))) (aA (eC (.str ("slow" : Str))) (aA (eC (.str ("bears" : Str))) (aA (eC (.str ("gap" : Str))) (aA (eC (.str ("hold" : Str))) (aA (eC (.str ("takes" : Str))) (aA (eC (.str ("ties" : Str))) (aA (eC (.str ("hosts" : Str))) aE))))))))))) [2] (aU 2) bS (aD aV (aB 0) (aB 2))) (aU 1))
 (aY (xO k.aH (gB k) 1 9 (aO k) (aA (aD aV (aB 0) (eC (.str ("ranks" : Str)))) aE) (aA (aD aV (aB 1) (eC (.int 0))) (aA (aD aV (aB 1) (eC (.int 1))) (aA (aD aV (aB 1) (eC (.int 2))) (aA (aD aV (aB 1) (eC (.int 3))) (aA (aD aV (aB 1) (eC (.int 4))) (aA (aD aV (aB 1) (eC (.int 5))) (aA (aD aV (aB 1) (eC (.int 6))) (aA (aD aV (aB 1) (eC (.int 7))) (aA (aD aV (aB 1) (eC (.int 8))) aE))))))))))))
def mN (k : bN) : MF := bL (mF k) iW
def XR : List Str := [("plan" : Str), ("rank" : Str)]
def YC (k : bN) : MS :=
 (aY (aD bH (eC (.int 2)) (aD mulM (bE k.aH ("gap" : Str) (aB 0)) (aD lO (eC (.int 12)) (aB 1)))))
def XO (k : bN) : MF := bL (YC k) XR
def EF : List Str := [("plan" : Str), ("lost" : Str)]
def ET (k : bN) : MS :=
 (aY (aD bH (aD mulM (aD bH (aB 1) (eC (.int 1))) (bE k.aH ("every" : Str) (aB 0))) (bE k.aH ("slow" : Str) (aB 0))))
def G0 (k : bN) : MF := bL (ET k) EF
def XH : List Str := [("plan" : Str), ("rank" : Str)]
def X9 (k : bN) : MS :=
 (aY (aD bH (aK (G0 k) 2 aN (aA (aB 0) (aA (bE k.aH ("bears" : Str) (aB 0)) aE))) (aD mulM (bE k.aH ("gap" : Str) (aB 0)) (aD lO (eC (.int 12)) (aB 1)))))
def JL (k : bN) : MF := bL (X9 k) XH
def T3 : List Str := [("self" : Str)]
def TX (k : bN) : MS :=
 (aY (aR c7 (aA (aD aV (bE k.aH ("ranks" : Str) (aB 0)) (eC (.int 0))) aE)))
def hU (k : bN) : MF := bL (TX k) T3
section
variable {w : W} {P : D → W → Prop} (k : bN)
theorem sz (n : Nat) (h : n ≤ 1000) : n ≤ sizeLine := by rw [sizeLine_eq]; omega
theorem aEC {a b : Int} : T (fN (.int a) (.int b) w) P = P (.bl (a == b)) w := by
 rw [D2, y9]
 simp
theorem ZY {a b : Int} : T (qX (.int a) (.int b) w) P = P (.bl (!(a == b))) w := by
 rw [aCH, y9]
 simp
theorem TB {xs : List D} : T (c7 [.tup xs] w) P = P (.int xs.length) w := by rw [U6]; simp [EU, D.items]
theorem aGp {xs : List D} : T (c7 [.lst xs] w) P = P (.int xs.length) w := by rw [U6]; simp [EU, D.items]
theorem aGQ {xs : List D} : T (c7 [.jA xs] w) P = P (.int xs.length) w := by rw [U6]; simp [EU, D.items]
theorem at0 {x : D} {xs : List D} : atI (x :: xs) 0 = some x := by
 unfold atI ixN
 rw [if_pos (by omega), if_pos (by simp)]
 rfl
end
section
variable {w : W} {P : D → W → Prop} (k : bN)
theorem aGH {xs ys : List D} {PI : kL → W → Prop} : T (zsM [.tup xs, .tup ys] w) PI = (xs.length = ys.length ∧ PI ⟨(xs.zip ys).map fun p => .tup [p.1, p.2], always⟩ w) := by
 simp only [zsM, wG, c5, bY]
theorem aCb {xs : List D} : mS (.tup xs) none (some (-1)) w = .ok (.tup xs.dropLast) w := by
 simp only [mS, Pc.cutD, HT.sIx]
 congr 2
 rw [if_pos (by omega), List.drop_zero, List.dropLast_eq_take]
 congr 1
 omega
theorem aCk {xs : List D} : mS (.tup xs) (some 1) none w = .ok (.tup xs.tail) w := by
 simp only [mS, Pc.cutD, HT.sIx]
 congr 2
 rw [if_neg (by omega)]
 cases xs with
 | nil => simp
 | cons x xs => simp
theorem aBN {p q : Int × Int} : O9 (pairD p) (pairD q) w = .ok (.bl (HT.lexLt [p.1, p.2] [q.1, q.2])) w := rfl
theorem aAO {a : Addr} {tab : List (Str × Option D)} {z : Str} {o : Option D} (h : tab.lookup z = some o) : T (YD a tab (.str z) (.con a) w) P = P (.bl o.isSome) w := by
 simp only [YD, ae, h, bY]
theorem aA6 {a : Addr} {tab : List (Str × Option D)} {z : Str} {d : D} (h : tab.lookup z = some (some d)) : T (NA a tab (.con a) (.str z) w) P = P d w := by
 simp only [NA, ae, h, bY]
theorem KY {a b : Str} (ha : PyData.strOk a = true) (hb : PyData.strOk b = true) : yR (.str a) (.str b) w = some (a == b) := by
 simp [yR, wF, D.py, D.fZ, SeqAt.shaped, PyData.canLay0, PyData.depth, PyData.eqv, ha, hb]
theorem DP {a b : Str} {r : Bool} (h : yR (.str a) (.str b) w = some r) : T (fN (.str a) (.str b) w) P = P (.bl r) w := by
 rw [D2, h]
 simp
end
section
variable {w : W} {P : D → W → Prop} {PF : Fl → W → Prop} {PI : kL → W → Prop} {σ : Sg}
theorem aDr {i : Nat} {kvs : List (Key × D)} (h : w[i]? = some (.dK kvs)) : T (BO (.ref i) w) PI = PI ⟨kvs.map fun p => .tup [iB p.1, p.2], always⟩ (w.set i (.dF kvs)) := by
 simp only [BO, h, bY]
theorem QJ {m : ME} : T (vU m σ w) PI = T (m σ w) fun d w1 => T (BO d w1) PI := by unfold vU; simp only [bC]
def Turn (next : Sg → W → Prop) (PF : Fl → W → Prop) : Fl → W → Prop := fun f w => match f with
 | .nx s => next s w
 | .ct s => next s w
 | .bk s => PF (.nx s) w
 | .rt d => PF (.rt d) w
open Classical in
open Classical in
theorem aDV {i j : Nat} {kvs more : List (Key × D)} (h1 : w[i]? = some (.dK kvs)) (h2 : w[j]? = some (.dK more)) : T (R3 (.ref i) [.ref j] w) P = ((i ≠ j ∧ kvs.length + more.length ≤ sizeLine) ∧ P .non (w.set i (.dK (tW kvs more)))) := by
 simp only [R3, h1, h2, c5, bY]
structure MoB (m : Mo) (h : Nat) : Prop where
 eD : aBT m.eD h
 n1 : 1 ≤ m.eD.length
 n4 : m.eD.length ≤ 4
 qW : 1 ≤ m.qW ∧ m.qW ≤ 5
 zX : 0 ≤ m.zX ∧ m.zX ≤ 3
 AI : 1 ≤ m.AI ∧ m.AI ≤ 4
 gap : 0 ≤ m.gap ∧ m.gap ≤ 3
 hold : 0 ≤ m.hold ∧ m.hold ≤ 20
 eR : aEk m.eR h
 lV : 0 ≤ m.lV ∧ m.lV ≤ 4
def LI (m : Mo) (b : Int) : List (Str × D) := [("ranks", .tup (m.eD.map gE)), ("every", .int m.qW), ("lost", .int m.zX), ("slow", .int m.AI), ("bears", .int b), ("gap", .int m.gap), ("hold", .int m.hold), ("takes", .bl m.takes), ("ties", .tup (m.eR.map cI)), ("hosts", .int m.lV)]
theorem nT {p i : Nat} {C : Addr} {fs : List (Str × D)} {z : Str} {d : D} (h : w[p]? = some (.ins C fs)) (h0 : σ[0]? = some (some (.ref p))) (h1 : σ[i]? = some (some d)) (hl : fs.length < 1000) (q : PF (.nx σ) (w.set p (.ins C (uL z d fs)))) : T (cG C z (aB 0) (aB i) σ w) PF := by
 simp only [A6, T_V, h0, h1, qY h]
 exact ⟨hl, q⟩
variable (k : bN)
end
section
variable {w : W} {P : D → W → Prop} {PF : Fl → W → Prop} {PI : kL → W → Prop} {σ : Sg}
theorem sl0 : (0 ≤ sizeLine) = True := eq_true (sz _ (by omega))
theorem sl1 : (0 + 1 ≤ sizeLine) = True := eq_true (sz _ (by omega))
theorem sl2 : (0 + 1 + 1 ≤ sizeLine) = True := eq_true (sz _ (by omega))
theorem sl3 : (0 + 1 + 1 + 1 ≤ sizeLine) = True := eq_true (sz _ (by omega))
theorem sl4 : (0 + 1 + 1 + 1 + 1 ≤ sizeLine) = True := eq_true (sz _ (by omega))
theorem sl5 : (0 + 1 + 1 + 1 + 1 + 1 ≤ sizeLine) = True := eq_true (sz _ (by omega))
theorem sl6 : (0 + 1 + 1 + 1 + 1 + 1 + 1 ≤ sizeLine) = True := eq_true (sz _ (by omega))
theorem sl7 : (0 + 1 + 1 + 1 + 1 + 1 + 1 + 1 ≤ sizeLine) = True := eq_true (sz _ (by omega))
theorem sl8 : (0 + 1 + 1 + 1 + 1 + 1 + 1 + 1 + 1 ≤ sizeLine) = True := eq_true (sz _ (by omega))
theorem sl9 : (0 + 1 + 1 + 1 + 1 + 1 + 1 + 1 + 1 + 1 ≤ sizeLine) = True := eq_true (sz _ (by omega))
theorem aG6 : (0 + 1 + 1 + 1 + 1 + 1 + 1 + 1 + 1 + 1 + 1 ≤ sizeLine) = True := eq_true (sz _ (by omega))
theorem aHd : (0 + 1 + 1 + 1 + 1 + 1 + 1 + 1 + 1 + 1 + 1 + 1 ≤ sizeLine) = True := eq_true (sz _ (by omega))
theorem aHm : (0 + 1 + 1 + 1 + 1 + 1 + 1 + 1 + 1 + 1 + 1 + 1 + 1 ≤ sizeLine) = True := eq_true (sz _ (by omega))
variable (k : bN)
def gM (w : W) (p : Nat) (m : Mo) (b : Int) : Prop := w[p]? = some (.ins k.aH (LI m b))
variable {k} {p : Nat} {m : Mo} {b : Int}
theorem II {z : Str} {d : D} (h : gM k w p m b) (e : (LI m b).lookup z = some d) : T (nK k.aH z (.ref p) w) P = P d w := by
 rw [A7 h, e]
 simp
theorem aCZ (h : gM k w p m b) : T (nK k.aH "ranks" (.ref p) w) P = P (.tup (m.eD.map gE)) w := II h rfl
theorem aDh (h : gM k w p m b) : T (nK k.aH "every" (.ref p) w) P = P (.int m.qW) w := II h rfl
theorem aFa (h : gM k w p m b) : T (nK k.aH "lost" (.ref p) w) P = P (.int m.zX) w := II h rfl
theorem aEw (h : gM k w p m b) : T (nK k.aH "slow" (.ref p) w) P = P (.int m.AI) w := II h rfl
theorem aCY (h : gM k w p m b) : T (nK k.aH "bears" (.ref p) w) P = P (.int b) w := II h rfl
theorem aF2 (h : gM k w p m b) : T (nK k.aH "gap" (.ref p) w) P = P (.int m.gap) w := II h rfl
theorem aEQ (h : gM k w p m b) : T (nK k.aH "hold" (.ref p) w) P = P (.int m.hold) w := II h rfl
theorem aBV (h : gM k w p m b) : T (nK k.aH "takes" (.ref p) w) P = P (.bl m.takes) w := II h rfl
theorem aAp (h : gM k w p m b) : T (nK k.aH "ties" (.ref p) w) P = P (.tup (m.eR.map cI)) w := II h rfl
theorem aCn (h : gM k w p m b) : T (nK k.aH "hosts" (.ref p) w) P = P (.int m.lV) w := II h rfl
def aDz (m : Mo) (b r : Int) : Int := (b + 1) * m.qW + m.AI + m.gap * (12 - r)
variable (k)
end
theorem gF (a b : Str) : PyData.strOk (a ++ b) = (PyData.strOk a && PyData.strOk b) := by
 show Array.all (a.cps ++ b.cps) _ = _
 unfold PyData.strOk
 rw [Array.all_append]
theorem fC (s : String) : PyData.strOk (Str.ofString s) = true := by
 rw [Str.ofString_eq_toList]
 unfold PyData.strOk
 rw [Array.all_eq_true_iff_forall_mem]
 intro c hc
 simp only [List.mem_toArray, bx] at hc
 obtain ⟨ch, _, rfl⟩ := hc
 have := ch.valid
 simp only [ak]
 have h2 : ch.toNat < 0x110000 := by
  have h3 : ch.toNat = ch.val.toNat := rfl
  rcases this with h | ⟨_, h⟩
  ·rw [h3]; exact Nat.lt_trans h (by decide)
  ·rw [h3]; exact h
 exact h2
theorem pI : ∀ (ts : List Str) (k : Nat) (acc : Str), PyData.strOk acc = true → (∀ t ∈ ts, PyData.strOk t = true) → PyData.strOk (textFrom k acc ts) = true
 | [], k, acc, h, _ => h
 | t :: ts, k, acc, h, ht => by
  unfold textFrom
  refine pI ts (k + 1) _ ?_ fun x hx => ht x (bh _ hx)
  rw [gF, gF, h, ht t (bc ..), fC]
  rfl
theorem zL (sep : Str) (hs : PyData.strOk sep = true) : ∀ ts : List Str, (∀ t ∈ ts, PyData.strOk t = true) → PyData.strOk (Str.join sep ts) = true
 | [], _ => by show PyData.strOk Str.empty = true; decide +kernel
 | [x], h => h x (bc ..)
 | x :: y :: r, h => by
  show PyData.strOk (x ++ sep ++ Str.join sep (y :: r)) = true
  rw [gF, gF, hs, h x (bc ..), zL sep hs (y :: r) fun t ht => h t (bh _ ht)]
  rfl
mutual
/-- data of short numbers and fine short texts, lists and tuples of such -/
def dY : PyData → Bool
 | .none | .bool _ => true
 | .int i => decide (i.natAbs < 10 ^ 40)
 | .str x => PyData.strOk (reprText x) && PyData.strOk x && PyData.leavesShort 60 (.str x) && decide (x.length ≤ 100)
 | .list xs | .tuple xs => plainPs xs
 | .dict _ => false
def plainPs : List PyData → Bool
 | [] => true
 | x :: xs => dY x && plainPs xs
end
mutual
theorem B1 : ∀ p : PyData, dY p = true → PyData.strOk p.shown = true
 | .none, _ => fC _
 | .bool b, _ => by cases b <;> exact fC _
 | .int i, _ => fC _
 | .str x, h => by
  simp only [dY, aj] at h
  exact h.1.1.1
 | .list xs, h => by
  rw [dY] at h
  show PyData.strOk (textFrom 0 "[" (PyData.shownAll xs) ++ "]") = true
  rw [gF, pI _ _ _ (fC _) (plains_shown xs h), fC]
  rfl
 | .tuple xs, h => by
  rw [dY] at h
  show PyData.strOk (tupleText (PyData.shownAll xs)) = true
  unfold tupleText
  rw [gF, gF, fC, zL _ (fC _) _ (plains_shown xs h)]
  split <;> rw [fC] <;> rfl
 | .dict _, h => by simp [dY] at h
theorem plains_shown : ∀ ps : List PyData, plainPs ps = true → ∀ t ∈ PyData.shownAll ps, PyData.strOk t = true
 | [], _, t, ht => by simp [PyData.shownAll] at ht
 | p :: ps, h, t, ht => by
  simp only [plainPs, aj] at h
  simp only [PyData.shownAll, bg] at ht
  rcases ht with rfl | ht
  ·exact B1 p h.1
  ·exact plains_shown ps h.2 t ht
end
theorem BL {i : Int} (h : i.natAbs < 10 ^ 40) : PyData.leavesShort 60 (.int i) = true := by
 have e := int_text_length_le10 (k := 40) (by decide) h
 simp only [PyData.leavesShort, ak]
 show (Str.ofString (toString i)).length ≤ 60
 rw [PySem.ofString_length]
 omega
theorem AH {i : Int} (h : i.natAbs < 10 ^ 40) : PyData.showable (.int i) = true := by
 simp only [PyData.showable, ak]
 by_cases h0 : i.natAbs = 0
 ·rw [h0]; decide
 ·rw [Nat.log2_lt h0]
  exact Nat.lt_of_lt_of_le h (by decide +kernel)
mutual
theorem plain_all : ∀ p : PyData, dY p = true → p.leavesShort 60 = true ∧ p.showable = true ∧ p.hasDict = false ∧ p.canLay0 = true
 | .none, _ => by simp [PyData.leavesShort, PyData.showable, PyData.hasDict, PyData.canLay0]
 | .bool b, _ => by simp [PyData.leavesShort, PyData.showable, PyData.hasDict, PyData.canLay0]
 | .int i, h => by
  simp only [dY, ak] at h
  exact ⟨BL h, AH h, by simp [PyData.hasDict], by simp [PyData.canLay0]⟩
 | .str x, h => by
  simp only [dY, aj] at h
  exact ⟨h.1.2, by simp [PyData.showable], by simp [PyData.hasDict], by simp [PyData.canLay0, h.1.1.2]⟩
 | .list xs, h => by
  rw [dY] at h
  have := plains_all xs h
  simp only [PyData.leavesShort, PyData.showable, PyData.hasDict, PyData.canLay0]
  exact this
 | .tuple xs, h => by
  rw [dY] at h
  have := plains_all xs h
  simp only [PyData.leavesShort, PyData.showable, PyData.hasDict, PyData.canLay0]
  exact this
 | .dict _, h => by simp [dY] at h
theorem plains_all : ∀ p : List PyData, plainPs p = true → PyData.leavesShortAll 60 p = true ∧ PyData.showableAll p = true ∧ PyData.hasDictAll p = false ∧ PyData.canLayAll0 p = true
 | [], _ => by simp [PyData.leavesShortAll, PyData.showableAll, PyData.hasDictAll, PyData.canLayAll0]
 | p :: ps, h => by
  simp only [plainPs, aj] at h
  obtain ⟨a1, a2, a3, a4⟩ := plain_all p h.1
  obtain ⟨b1, b2, b3, b4⟩ := plains_all ps h.2
  simp only [PyData.leavesShortAll, PyData.showableAll, PyData.hasDictAll, PyData.canLayAll0, a1, a2, a3, a4, b1, b2, b3, b4]
  simp
end
structure YH (p : PyData) : Prop where
 plain : dY p = true
 bulk : p.bulk ≤ 200000
 deep : p.depth ≤ 40
section
variable {w : W} {P : D → W → Prop} {x y : D} {p q : PyData}
theorem YH.shaped (h : YH p) : SeqAt.shaped p = true := by
 have h1 := (plain_all p h.plain).2.2.2
 have h2 := h.deep
 unfold SeqAt.shaped
 simp [h1]
 omega
theorem YL (e : x.py w = some p) (h : YH p) : zP x w = some p.shown := by
 obtain ⟨a1, a2, a3, a4⟩ := plain_all p h.plain
 unfold zP
 rw [e]
 have b := PyData.shown_le_bulk 60 (by decide) p a1
 have d := h.deep
 have z := h.bulk
 simp only []
 rw [if_pos]
 refine ⟨a2, a3, by omega, ?_⟩
 have := sizeLine_eq
 have : (60 + 2) * p.bulk ≤ 62 * 200000 := Nat.mul_le_mul_left _ z
 omega
theorem ZH (e : x.py w = some p) (h : YH p) : T (nS [x] w) P = P (.str p.shown) w := by
 rw [YX, YL e h]
 simp
theorem aDe (e : x.py w = some p) (f : y.py w = some q) (h : YH p) (g : YH q) : yR x y w = some (PyData.eqv p q) := by
 unfold yR wF
 rw [e, f]
 simp only [h.shaped, g.shaped, and_self, ae]
theorem E7 {a b : Str} (ha : PyData.strOk a = true) (hb : PyData.strOk b = true) : yR (.str a) (.str b) w = some (decide (a = b)) := by
 rw [KY ha hb]
 rfl
theorem VB {xs : List Int} : D.py w (.lst (xs.map D.int)) = some (.list (xs.map PyData.int)) := by
 show (D.pysR _ (xs.map D.int)).map PyData.list = _
 rw [G3]
 rfl
end
theorem HD {it : kL} {g : MG} {body : MS} {P : Fl → W → Prop} {σ : Sg} {w : W} (Inv : Nat → Sg → W → Prop) (ok : ∀ i σ w, Inv i σ w → it.ok w) (init : Inv 0 σ w)
  (step : ∀ i x σ w, it.xs[i]? = some x → Inv i σ w → T (g x σ w) fun σ1 w1 => T (body σ1 w1) (Turn (Inv (i + 1)) P)) (fin : ∀ σ w, Inv it.xs.length σ w → P (.nx σ) w) : T (forL it g body it.xs σ w) P := by
 have fl := aEG (it := it) (g := g) (body := body) (P := P) Inv ok (fun i x σ w h1 h2 => (step i x σ w h1 h2).mono fun s1 w1 _ q => q.mono fun f w2 _ q2 => by cases f <;> exact q2) fin (i := 0) (σ := σ) (w := w) (Nat.zero_le _) init
 rw [List.drop_zero] at fl
 exact fl
theorem DM {it : kL} {vs : List Nat} {g : MG} {t : MT} {e : ME} {σ : Sg} {w : W} {P : List D → W → Prop} (Inv : Nat → List D → W → Prop) (ok : ∀ i acc w, Inv i acc w → it.ok w) (init : Inv 0 [] w)
  (step : ∀ i x acc w, it.xs[i]? = some x → Inv i acc w → T (g x (c0 σ vs) w) fun σ1 w1 => T (t σ1 w1) fun b w2 => if b = true then T (e σ1 w2) fun y w3 => Inv (i + 1) (acc ++ [y]) w3 else Inv (i + 1) acc w2)
  (fin : ∀ acc w, Inv it.xs.length acc w → P acc w) : T (nM it vs g t e it.xs σ w) P := by
 have cl := WH (it := it) (vs := vs) (g := g) (t := t) (e := e) (σ := σ) (P := P) Inv ok step fin (i := 0) (acc := []) (w := w) (Nat.zero_le _) init
 rw [List.drop_zero] at cl
 exact cl.mono fun _ _ _ q => by simpa using q
inductive Role where
 | rests | aDP | aAS
deriving DecidableEq
def Role.s : Role → Str
 | .rests => "rests"
 | .aDP => "waits"
 | .aAS => "serves"
structure DA where
 left : Int
 a : Int
 s : Int
 r : Int
 rank : Int
structure yS where
 living : List Int
 parts : List Int
 downs : List Int
 eD : List (List Int)
 eK : List (List (Role × Int))
 zR : List DA
 B2 : List (List (List Int))
 tables : List (List Int)
 asks : List (Int × Int)
def aEI (p : Role × Int) : D := .tup [.str p.1.s, .int p.2]
def aGi (r : List (Role × Int)) : D := .tup (r.map aEI)
def aDH (l : DA) : D := .tup [.int l.left, .int l.a, .int l.s, .int l.r, .int l.rank]
def aDR (l : List (List Int)) : D := .tup (l.map gE)
section
variable {w : W} {P : D → W → Prop} {k : bN} {p h : Nat} {m : Mo} {b : Int}
theorem rW (n : Nat) (h : n ≤ 1000000) : n ≤ sizeLine := by rw [sizeLine_eq]; omega
theorem aCo (x : Str) : T (jD m2 [.str x, .ty "str"] w) P = P (.bl true) w := by unfold T; rfl
end
section
variable {w : W} {P : D → W → Prop} {k : bN} {p h : Nat} {m : Mo} {b : Int}
theorem aCR {x : Int} {xs : List Int} : inD (.int x) (.lst (xs.map D.int)) w = some (decide (x ∈ xs)) := by
 show nG (.int x) (.lst (xs.map D.int)) w = _
 unfold nG
 have e1 : D.py w (.int x) = some (.int x) := rfl
 rw [e1, VB]
 have l1 : SeqAt.shaped (.int x) = true := by simp [SeqAt.shaped, PyData.canLay0, PyData.depth]
 simp only [l1, lay_ints, and_self, ae]
 congr 1
 rw [List.any_map]
 induction xs with
 | nil => simp
 | cons y ys ih =>
  rw [List.any_cons, ih]
  simp only [Function.comp_apply, PyData.eqv, bg]
  by_cases h : y = x
  ·subst h; simp
  ·have h' : x ≠ y := fun z => h z.symm
   simp [h, h']
end
section
variable {w : W} {P : D → W → Prop} {k : bN} {p h : Nat} {m : Mo} {b : Int}
theorem kM {xs : List D} {j : Nat} {d : D} (e : xs[j]? = some d) : atI xs (j : Int) = some d := by
 have hl := (ag.mp e).1
 unfold atI ixN
 rw [if_pos (by omega), if_pos (by omega)]
 exact e
end
section
variable {w : W} {P : D → W → Prop} {k : bN} {p h : Nat} {m : Mo} {b : Int}
def first (m : Mo) (b : Int) (h : Nat) : yS where
 living := List.replicate h 1
 parts := List.replicate (h + m.lV.toNat) 0
 downs := []
 eD := m.eD
 eK := m.eD.map fun r => r.map fun x => (.aDP, aDz m b x + m.hold)
 zR := []
 B2 := m.eD.map fun _ => List.replicate h (List.replicate (h + m.lV.toNat) 0)
 tables := List.replicate m.lV.toNat (List.replicate m.eD.length (-1))
 asks := List.replicate m.lV.toNat (0, 0)
theorem UT {xs : List D} : T (dZ [.lst xs] w) P = P (.tup xs) w := by
 have e : dZ [.lst xs] w = .ok (.tup xs) w := rfl
 rw [e, bY]
end
structure eA (n d : Nat) (x : D) : Prop where
 ex : ∃ q, (∀ f, x.fZ f = some q) ∧ dY q = true ∧ q.bulk ≤ n ∧ q.depth ≤ d
structure cM (n d : Nat) (xs : List D) : Prop where
 ex : ∃ qs, (∀ f, D.pysR f xs = some qs) ∧ plainPs qs = true ∧ PyData.bulkAll qs ≤ n ∧ PyData.depthAll qs ≤ d
section
variable {n n' d d' : Nat} {x : D} {xs : List D}
theorem eA.mono (h : eA n d x) (h1 : n ≤ n') (h2 : d ≤ d') : eA n' d' x := by
 obtain ⟨q, a, b, c, e⟩ := h.ex
 exact ⟨q, a, b, by omega, by omega⟩
theorem eA.int {i : Int} (h : i.natAbs < 10 ^ 40) : eA 0 1 (.int i) := ⟨.int i, fun _ => rfl, by simp only [dY, ak]; exact h, by simp [PyData.bulk], by simp [PyData.depth]⟩
theorem eA.bl {b : Bool} : eA 0 1 (.bl b) := ⟨.bool b, fun _ => rfl, by simp [dY], by simp [PyData.bulk], by simp [PyData.depth]⟩
theorem eA.str {s : Str} (h : dY (.str s) = true) : eA 100 1 (.str s) := by
 refine ⟨.str s, fun _ => rfl, h, ?_, by simp [PyData.depth]⟩
 simp only [dY, aj, ak] at h
 exact h.2
theorem cM.nil : cM 0 0 [] := ⟨[], fun _ => rfl, rfl, by simp [PyData.bulkAll], by simp [PyData.depthAll]⟩
theorem cM.cons (h : eA n d x) (t : cM n' d xs) : cM (n + 1 + n') d (x :: xs) := by
 obtain ⟨q, a1, a2, a3, a4⟩ := h.ex
 obtain ⟨qs, b1, b2, b3, b4⟩ := t.ex
 refine ⟨q :: qs, fun f => by simp [D.pysR, a1, b1], by simp [plainPs, a2, b2], by simp only [PyData.bulkAll]; omega, ?_⟩
 simp only [PyData.depthAll]
 omega
theorem cM.mono (h : cM n d xs) (h1 : n ≤ n') (h2 : d ≤ d') : cM n' d' xs := by
 obtain ⟨q, a, b, c, e⟩ := h.ex
 exact ⟨q, a, b, by omega, by omega⟩
theorem cM.all : ∀ {xs : List D}, (∀ x ∈ xs, eA n d x) → cM (xs.length * (n + 1)) d xs
 | [], _ => cM.nil.mono (Nat.zero_le _) (Nat.zero_le _)
 | x :: xs, h => by
  refine (cM.cons (h x (bc ..)) (cM.all fun y hy => h y (bh _ hy))).mono ?_ (az _)
  rw [List.length_cons, Nat.succ_mul]
  omega
theorem eA.tup (h : cM n d xs) : eA n (d + 1) (.tup xs) := by
 obtain ⟨qs, b1, b2, b3, b4⟩ := h.ex
 refine ⟨.tuple qs, fun f => by simp [D.fZ, b1], by rw [dY]; exact b2, by rw [PyData.bulk]; exact b3, by rw [PyData.depth]; omega⟩
theorem eA.lst (h : cM n d xs) : eA n (d + 1) (.lst xs) := by
 obtain ⟨qs, b1, b2, b3, b4⟩ := h.ex
 refine ⟨.list qs, fun f => by simp [D.fZ, b1], by rw [dY]; exact b2, by rw [PyData.bulk]; exact b3, by rw [PyData.depth]; omega⟩
theorem eA.ER {c : Nat} (h : ∀ x ∈ xs, eA n d x) (hl : xs.length ≤ c) : eA (c * (n + 1)) (d + 1) (.tup xs) :=
 (eA.tup (cM.all h)).mono (Nat.mul_le_mul_right _ hl) (az _)
theorem eA.fit (h : eA n d x) (h1 : n ≤ 200000) (h2 : d ≤ 40) : ∃ q, (∀ w, x.py w = some q) ∧ YH q := by
 obtain ⟨q, a, b, c, e⟩ := h.ex
 exact ⟨q, fun w => a _, b, by omega, by omega⟩
theorem eA.row {xs : List Int} {c : Nat} (h : ∀ x ∈ xs, x.natAbs < 10 ^ 40) (hl : xs.length ≤ c) : eA c 2 (gE xs) := by
 refine (eA.ER (n := 0) (d := 1) (c := c) (fun y hy => ?_) (by rw [ao]; exact hl)).mono (by omega) (az _)
 obtain ⟨x, hx, rfl⟩ := bx.mp hy
 exact eA.int (h x hx)
theorem eA.role (r : Role) : eA 100 1 (.str r.s) := eA.str (by cases r <;> decide +kernel)
end
section
variable {σ : Sg} {w : W} {P : D → W → Prop} {PF : Fl → W → Prop} {PU : Unit → W → Prop} {a b : ME}
theorem aGe {i j : Nat} : T (LJ i j (aA a (aA b aE)) σ w) PF = T (a σ w) fun x w1 => T (b σ w1) fun y w2 => PF (.nx ((σ.set i (some x)).set j (some y))) w2 := by
 unfold LJ
 simp only [bC, wB, A5]
 congr 1; funext x w1; congr 1; funext y w2
 first | rfl | (simp only [bY]; done) | (unfold T; rfl)
theorem JH (m : Mo) (i : Bool) : putD m.kvs (.inr "takes") (.bl i) = ({ m with takes := i } : Mo).kvs := rfl
end
def zZ := And.intro @dI (And.intro @dS (And.intro @AB (And.intro @QU (And.intro @FL (And.intro @wH (And.intro @EG (And.intro @IQ (And.intro @R6 (And.intro @D6 (And.intro @A6 (And.intro @FC (And.intro @AD (And.intro @GS (And.intro @zH (And.intro @T_C (And.intro @T_V (And.intro @OX (And.intro @aAg (And.intro @RK (And.intro @aBr (And.intro @aAX (And.intro @A5 (And.intro @wB (And.intro @QG (And.intro @P4 (And.intro @PD (And.intro @NR (And.intro @FV (And.intro @E9 (And.intro @yW (And.intro @xH (And.intro @QK (And.intro @aBa (And.intro @P5 (And.intro @RC (And.intro @vF (And.intro @x9 (And.intro @N9 (And.intro @rC (And.intro @mV (And.intro @FF (And.intro @y7 (And.intro @wU (And.intro @q9 (And.intro @NM (And.intro @Z9 (And.intro @aAL (And.intro @aAY (And.intro @WL (And.intro @qI (And.intro @NX (And.intro @vB (And.intro @sX (And.intro @Q1 (And.intro @ES (And.intro @HE (And.intro @E3 (And.intro @bY (And.intro @FJ (And.intro @GV (And.intro @E6 (And.intro @aAP (And.intro @AA (And.intro @AE (And.intro @I7 (And.intro @pU (And.intro @gD (And.intro @NP (And.intro @Q3 (And.intro @QA (And.intro @wX (And.intro @OM (And.intro @xA (And.intro @sl0 (And.intro @sl1 (And.intro @sl2 (And.intro @sl3 (And.intro @sl4 (And.intro @sl5 (And.intro @sl6 (And.intro @sl7 (And.intro @sl8 (And.intro @sl9 (And.intro @aG6 (And.intro @aHd (And.intro @aHm (And.intro @aAl (And.intro @NG (And.intro @T9 (And.intro @TB (And.intro @aGp (And.intro @aGQ (And.intro @aEC (And.intro @ZY (@QJ)))))))))))))))))))))))))))))))))))))))))))))))))))))))))))))))))))))))))))))))))))))))))))))))
theorem aBR {xs ys : List D} : aN xs ys = xs := rfl
def zY := And.intro zZ (And.intro @List.getElem?_cons_zero.{0} (And.intro @List.getElem?_cons_succ.{0} (And.intro @List.set_cons_zero.{0} (And.intro @List.set_cons_succ.{0} (And.intro @List.length_cons.{0} (And.intro @List.length_nil.{0} (And.intro @aBR (And.intro @true_and (And.intro @and_true (And.intro @bp (And.intro @Bool.not_true (And.intro @Bool.not_false (And.intro @Bool.true_eq_false (And.intro @bq.{1} @ah.{0}))))))))))))))
def nY : Nat → D → Bool
 | 0, _ => false
 | _ + 1, .non => true
 | _ + 1, .bl _ => true
 | _ + 1, .int i => decide (i ≤ 100000000000000000000000000000000000000000000000000)
 | _ + 1, .str x => PyData.strOk x
 | n + 1, .tup xs => xs.all (nY n) && decide (xs.length ≤ 70000)
 | n + 1, .lst xs => xs.all (nY n) && decide (xs.length ≤ 70000)
 | n + 1, .H0 ks vs => (ks.all (nY n) && vs.all (nY n)) && decide (ks.length ≤ 15)
 | _ + 1, _ => false
def UD : Nat → D → Bool
 | 0, _ => false
 | _ + 1, .non => true
 | _ + 1, .bl _ => true
 | _ + 1, .int i => decide (i ≤ 100000000000000000000000000000000000000000000000000)
 | _ + 1, .str x => PyData.strOk x
 | n + 1, .tup xs => xs.all (UD n) && decide (xs.length ≤ 70000)
 | n + 1, .lst xs => xs.all (UD n) && decide (xs.length ≤ 70000)
 | _ + 1, _ => false
def isInt : D → Bool
 | .int _ => true
 | _ => false
def bB (lo hi : Int) : D → Bool
 | .int i => decide (lo ≤ i) && decide (i ≤ hi)
 | _ => false
def EO : D → Bool
 | .tup _ => true
 | _ => false
section
variable {w : W} {P : D → W → Prop} {k : bN} {p h n : Nat} {m : Mo} {b : Int} {d : D}
theorem DU {xs : List D} (e : nY (n + 1) (.tup xs) = true) : (∀ x ∈ xs, nY n x = true) ∧ xs.length ≤ 70000 := by
 simp only [nY, aj, bj, ak] at e
 exact e
theorem aFC (e : nY n d = true) : T (jD m2 [d, .ty "int"] w) P = P (.bl (match d with | .int _ => true | .bl _ => true | _ => false)) w := by
 cases n with
 | zero => simp [nY] at e
 | succ n => cases d <;> first | (simp [nY] at e; done) | (unfold T; rfl)
theorem YK (e : nY n d = true) : T (jD m2 [d, .ty "bool"] w) P = P (.bl (match d with | .bl _ => true | _ => false)) w := by
 cases n with
 | zero => simp [nY] at e
 | succ n => cases d <;> first | (simp [nY] at e; done) | (unfold T; rfl)
theorem U7 (e : nY n d = true) : T (jD m2 [d, .ty "tuple"] w) P = P (.bl (EO d)) w := by
 cases n with
 | zero => simp [nY] at e
 | succ n => cases d <;> first | (simp [nY] at e; done) | (unfold T; rfl)
theorem aB1 (e : nY n d = true) : T (iQ k [d] w) P = P (.bl (isInt d)) w := by
 unfold iQ oB
 rw [dI, NV]
 simp only [aFC e, YK e, zY, ae, ab, reduceCtorEq]
 cases d <;> simp [isInt]
theorem qM (lo hi : Int) (e : nY n d = true) : T (bO k [d, .int lo, .int hi] w) P = P (.bl (bB lo hi d)) w := by
 unfold bO lX
 rw [dI, MR]
 simp only [aB1 e, zY, ae, ab, reduceCtorEq]
 cases d <;> simp only [isInt, bB, zY, ae, ab, reduceCtorEq]
 rename_i i
 by_cases h : lo ≤ i <;> simp [h]
end
section
variable {w : W} {P : D → W → Prop} {k : bN} {p h n : Nat} {m : Mo} {b : Int} {d : D}
theorem within_int {lo hi : Int} (e : bB lo hi d = true) : ∃ i, d = .int i ∧ lo ≤ i ∧ i ≤ hi := by
 cases d <;> simp only [bB, bp, aj, ak] at e
 exact ⟨_, rfl, e⟩
end
section
variable {w : W} {P : D → W → Prop} {k : bN} {p h n : Nat} {m : Mo} {b : Int} {d : D}
def qL (ls : List D) : List D := (List.range ls.length).zipWith (fun i x => D.tup [.int (i : Nat), x]) ls
end
theorem aBS {n : Nat} {xs : List D} (e : UD (n + 1) (.tup xs) = true) : (∀ x ∈ xs, UD n x = true) ∧ xs.length ≤ 70000 := by
 simp only [UD, aj, bj, ak] at e
 exact e
theorem aB8 {n : Nat} {xs : List D} (e : UD (n + 1) (.lst xs) = true) : (∀ x ∈ xs, UD n x = true) ∧ xs.length ≤ 70000 := by
 simp only [UD, aj, bj, ak] at e
 exact e
theorem LR {w : W} : ∀ {n : Nat} {xs : List D}, (∀ d, UD n d = true → ∃ p, d.py w = some p ∧ p.canLay0 = true ∧ p.depth ≤ n) → (∀ x ∈ xs, UD n x = true) → ∃ ps, D.pysR (QS 8 w) xs = some ps ∧ ps.length = xs.length ∧ PyData.canLayAll0 ps = true ∧ PyData.depthAll ps ≤ n
 | n, [], h, hx => ⟨[], rfl, rfl, rfl, Nat.zero_le _⟩
 | n, x :: xs, h, hx => by
  obtain ⟨p, p1, p2, p3⟩ := h x (hx x (bc ..))
  obtain ⟨ps, q1, q0, q2, q3⟩ := LR h fun y hy => hx y (bh _ hy)
  refine ⟨p :: ps, ?_, by simp [q0], ?_, ?_⟩
  ·unfold D.py at p1
   unfold D.pysR
   rw [p1, q1]
  ·simp [PyData.canLayAll0, p2, q2]
  ·rw [PyData.depthAll]; omega
theorem SA {w : W} : ∀ {n : Nat} {d : D}, UD n d = true → ∃ p, d.py w = some p ∧ p.canLay0 = true ∧ p.depth ≤ n
 | 0, _, e => by simp [UD] at e
 | n + 1, d, e => by
  cases d
  case tup xs =>
   obtain ⟨e1, _⟩ := aBS e
   obtain ⟨ps, q1, _, q2, q3⟩ := LR (w := w) (fun d hd => SA hd) e1
   exact ⟨.tuple ps, by unfold D.py D.fZ; rw [q1]; rfl, by rw [PyData.canLay0]; exact q2, by rw [PyData.depth]; omega⟩
  case lst xs =>
   obtain ⟨e1, _⟩ := aB8 e
   obtain ⟨ps, q1, _, q2, q3⟩ := LR (w := w) (fun d hd => SA hd) e1
   exact ⟨.list ps, by unfold D.py D.fZ; rw [q1]; rfl, by rw [PyData.canLay0]; exact q2, by rw [PyData.depth]; omega⟩
  case str x => exact ⟨.str x, rfl, by simpa [UD, PyData.canLay0] using e, by simp [PyData.depth]⟩
  case int i => exact ⟨.int i, rfl, rfl, by simp [PyData.depth]⟩
  case bl b => exact ⟨.bool b, rfl, rfl, by simp [PyData.depth]⟩
  case non => exact ⟨.none, rfl, rfl, by simp [PyData.depth]⟩
  all_goals simp [UD] at e
theorem LS {f : Nat → Option PyData} : ∀ {xs : List D} {ps : List PyData}, D.pysR f xs = some ps → ps.length = xs.length
 | [], ps, h => by simp only [D.pysR, ah] at h; subst h; rfl
 | x :: xs, ps, h => by
  simp only [D.pysR] at h
  split at h
  ·rename_i p ps' e1 e2
   cases h
   simp [LS e2]
  ·cases h
theorem aBk {w : W} {ys : List D} : yR (.lst ys) (.lst []) w = some ys.isEmpty := by
 unfold yR
 cases h : wF (.lst ys) (.lst []) w with
 | none => rfl
 | some b =>
  unfold wF at h
  have e2 : D.py w (.lst []) = some (.list []) := rfl
  rw [e2] at h
  split at h
  ·rename_i p q e3 e4
   cases e4
   split at h
   ·cases h
    unfold D.py D.fZ at e3
    obtain ⟨ps, q1, rfl⟩ := ai.mp e3
    have hl := LS q1
    cases ys with
    | nil => cases ps with
     | nil => rfl
     | cons => simp at hl
    | cons y ys => cases ps with
     | nil => simp at hl
     | cons => rfl
   ·cases h
  ·cases h
theorem A8 {w : W} {ys : List D} : yR (.tup ys) (.tup []) w = some ys.isEmpty := by
 unfold yR
 cases h : wF (.tup ys) (.tup []) w with
 | none => rfl
 | some b =>
  unfold wF at h
  have e2 : D.py w (.tup []) = some (.tuple []) := rfl
  rw [e2] at h
  split at h
  ·rename_i p q e3 e4
   cases e4
   split at h
   ·cases h
    unfold D.py D.fZ at e3
    obtain ⟨ps, q1, rfl⟩ := ai.mp e3
    have hl := LS q1
    cases ys with
    | nil => cases ps with
     | nil => rfl
     | cons => simp at hl
    | cons y ys => cases ps with
     | nil => simp at hl
     | cons => rfl
   ·cases h
  ·cases h
section
variable {w : W} {P : D → W → Prop} {k : bN} {p h n i : Nat} {m : Mo} {b : Int} {d : D}
theorem VE {ys : List D} (h : ∀ y ∈ ys, nY n y = true) (hn : n ≤ 60) : yR (.lst ys) (.lst []) w = some ys.isEmpty := aBk
theorem ne_nil {ys : List D} (h : ∀ y ∈ ys, nY n y = true) (hn : n ≤ 60) : T (qX (.lst ys) (.lst []) w) P = P (.bl (!ys.isEmpty)) w := by
 rw [aCH, VE h hn]
 simp
theorem eq_nil {ys : List D} (h : ∀ y ∈ ys, nY n y = true) (hn : n ≤ 60) : T (fN (.lst ys) (.lst []) w) P = P (.bl ys.isEmpty) w := by
 rw [D2, VE h hn]
 simp
end
section
variable {w : W} {P : D → W → Prop} {k : bN} {p h n i : Nat} {m : Mo} {b : Int} {d : D}
theorem vL : ∀ {l : List Int}, jY (l.map D.int) = some l
 | [] => rfl
 | a :: l => by simp [jY, vL (l := l)]
end
def XT : List (Str × Option D) := [(("fall" : Str), some (.int 1)), (("stop" : Str), some (.int 1)), (("rise" : Str), some (.int 1)), (("down" : Str), some (.int 1)), (("up" : Str), some (.int 1)), (("rank" : Str), some (.int 3)), (("tear" : Str), some (.int 2)), (("heal" : Str), some (.int 0)), (("ask" : Str), some (.int 2))]
def HZ : List Str := [("plan" : Str), ("state" : Str), ("host" : Str), ("address" : Str), ("told" : Str)]
def IJ (k : bN) : MS :=
 (aI (aT (aD aV (aD aV (aD aV (aB 1) (eC (.int 7))) (aB 2)) (aB 3)) (aU 4))
 (aI (dR (h8 (a8 (aD O9 (aB 4) (eC (.int 0)))) (a8 (aD qX (aD aV (aD aV (aB 1) (eC (.int 1))) (aB 4)) (aD aV (aD aV (aB 1) (eC (.int 1))) (aD bH (aR (OB k.aH (hU k)) (aA (aB 0) aE)) (aB 2)))))) (aY (eC (.bl false))) aX)
 (aY (aD fN (aD aV (aD aV (aD aV (aD aV (aB 1) (eC (.int 4))) (aB 3)) (aB 4)) (eC (.int 0))) (eC (.str ("serves" : Str)))))))
def IF (k : bN) : MF := bL (IJ k) HZ
def aFF : List Str := [("row" : Str), ("at" : Str), ("thing" : Str)]
def aF1 (k : bN) : MS :=
 (aY (aD bH (aD bH (qF mS (aB 0) dB (cR (aB 1))) (bR (aA (aB 2) aE))) (qF mS (aB 0) (cR (aD bH (aB 1) (eC (.int 1)))) dB)))
def nH (k : bN) : MF := bL (aF1 k) aFF
def UA : List Str := [("plan" : Str), ("state" : Str), ("host" : Str), ("address" : Str), ("many" : Str), ("dropped" : Str), ("told" : Str)]
def R8 (k : bN) : MS :=
 (aI (aT (aD aV (aD aV (aB 1) (eC (.int 8))) (aB 2)) (bX 2 (aJ (aU 4) (aJ (aU 5) bU))))
 (aI (aT (bR (aA (aD bH (aB 4) (eC (.int 1))) (aA (aD bH (aB 5) (aR BI (aA (AQ notM (aK (IF k) 4 aN (aA (aB 0) (aA (aB 1) (aA (aB 2) (aA (aB 3) aE)))))) aE))) aE))) (aU 6))
 (aY (aK (nH k) 3 aN (aA (aB 1) (aA (eC (.int 8)) (aA (aK (nH k) 3 aN (aA (aD aV (aB 1) (eC (.int 8))) (aA (aB 2) (aA (aB 6) aE)))) aE)))))))
def S0 (k : bN) : MF := bL (R8 k) UA
def BH : List Str := [("plan" : Str)]
def A3 (k : bN) : MS :=
 (aY (aR c7 (aA (bE k.aH ("ranks" : Str) (aB 0)) aE)))
def eP (k : bN) : MF := bL (A3 k) BH
def RP : List Str := [("state" : Str), ("house" : Str), ("lives" : Str)]
def OG (k : bN) : MS :=
 (aY (aK (nH k) 3 aN (aA (aB 0) (aA (eC (.int 0)) (aA (aK (nH k) 3 aN (aA (aD aV (aB 0) (eC (.int 0))) (aA (aB 1) (aA (aB 2) aE)))) aE)))))
def C3 (k : bN) : MF := bL (OG k) RP
def HX : List Str := [("state" : Str), ("house" : Str), ("stands" : Str), ("rows" : Str), ("row" : Str), ("stand" : Str)]
def HV (k : bN) : MS :=
 (aI (aT (aR dZ (aA (bQ (eT zmM (aA (aD aV (aB 0) (eC (.int 4))) (aA (aB 2) aE))) [4, 5] (bX 2 (aJ (aU 4) (aJ (aU 5) bU))) bS (aK (nH k) 3 aN (aA (aB 4) (aA (aB 1) (aA (aB 5) aE))))) aE)) (aU 3))
 (aY (aK (nH k) 3 aN (aA (aB 0) (aA (eC (.int 4)) (aA (aB 3) aE))))))
def wV (k : bN) : MF := bL (HV k) HX
def aBc : List Str := [("plan" : Str), ("state" : Str), ("house" : Str)]
def ZU (k : bN) : MS :=
 (aY (aK (wV k) 3 aN (aA (aK (C3 k) 3 aN (aA (aB 1) (aA (aB 2) (aA (eC (.int 0)) aE)))) (aA (aB 2) (aA (aD mulM (fP (aA (bR (aA (eC (.str ("rests" : Str))) (aA (eC (.int 0)) aE))) aE)) (aK (eP k) 1 aN (aA (aB 0) aE))) aE)))))
def RM (k : bN) : MF := bL (ZU k) aBc
def SH : List Str := [("plan" : Str), ("state" : Str), ("address" : Str), ("house" : Str), ("downs" : Str), ("ranks" : Str), ("taken" : Str), ("one" : Str), ("tie" : Str), ("less" : Str)]
def UE (k : bN) : MS :=
 (aI (aT (bR (aA (aD aV (aB 1) (eC (.int 2))) (aA (aD aV (aB 1) (eC (.int 3))) aE))) (bX 2 (aJ (aU 4) (aJ (aU 5) bU))))
 (aI (aT (aR Q9 (aA (bQ (dM (bE k.aH ("ties" : Str) (aB 0))) [7, 8, 9] (bX 3 (aJ (aU 7) (aJ (aU 8) (aJ (aU 9) bU)))) (gG (a8 (aD fN (aB 7) (aB 3))) (a8 (aD OZ (aB 8) (aB 4)))) (aB 9)) aE)) (aU 6))
 (aY (aR max2 (aA (eC (.int 1)) (aA (aD lO (aD aV (aD aV (aB 5) (aB 2)) (aB 3)) (aB 6)) aE))))))
def nF (k : bN) : MF := bL (UE k) SH
def HY : List Str := [("plan" : Str), ("state" : Str), ("address" : Str), ("house" : Str)]
def ID (k : bN) : MS :=
 (aY (aD bH (aK (JL k) 2 aN (aA (aB 0) (aA (aK (nF k) 4 aN (aA (aB 0) (aA (aB 1) (aA (aB 2) (aA (aB 3) aE))))) aE))) (bE k.aH ("hold" : Str) (aB 0))))
def pT (k : bN) : MF := bL (ID k) HY
def IG : List Str := [("plan" : Str), ("ahead" : Str), ("state" : Str), ("address" : Str), ("house" : Str), ("role" : Str), ("clock" : Str), ("row" : Str)]
def HM (k : bN) : MS :=
 (aI (gZ (eT l9 (aA (aK (eP k) 1 aN (aA (aB 0) aE)) aE)) (aU 3) (gZ (eT l9 (aA (aR (OB k.aH (hU k)) (aA (aB 0) aE)) aE)) (aU 4) (aI (aT (aD aV (aD aV (aD aV (aB 2) (eC (.int 4))) (aB 3)) (aB 4)) (bX 2 (aJ (aU 5) (aJ (aU 6) bU))))
 (dR (gG (a8 (aD fN (aB 5) (eC (.str ("waits" : Str))))) (a8 (aD NJ (aK (nF k) 4 aN (aA (aB 0) (aA (aB 2) (aA (aB 3) (aA (aB 4) aE))))) (aK (nF k) 4 aN (aA (aB 0) (aA (aB 1) (aA (aB 3) (aA (aB 4) aE)))))))) (aI (aT (aR max2 (aA (aB 6) (aA (aK (pT k) 4 aN (aA (aB 0) (aA (aB 2) (aA (aB 3) (aA (aB 4) aE))))) aE))) (aU 6))
 (aI (aT (aK (nH k) 3 aN (aA (aD aV (aD aV (aB 2) (eC (.int 4))) (aB 3)) (aA (aB 4) (aA (bR (aA (aB 5) (aA (aB 6) aE))) aE)))) (aU 7))
 (aT (aK (nH k) 3 aN (aA (aB 2) (aA (eC (.int 4)) (aA (aK (nH k) 3 aN (aA (aD aV (aB 2) (eC (.int 4))) (aA (aB 3) (aA (aB 7) aE)))) aE)))) (aU 2)))) aX))))
 (aY (aB 2)))
def pW (k : bN) : MF := bL (HM k) IG
def aCI : List Str := [("plan" : Str), ("state" : Str), ("house" : Str), ("stands" : Str), ("address" : Str)]
def aCV (k : bN) : MS :=
 (aI (aT (bQ (eT l9 (aA (aK (eP k) 1 aN (aA (aB 0) aE)) aE)) [4] (aU 4) bS (bR (aA (eC (.str ("waits" : Str))) (aA (aK (pT k) 4 aN (aA (aB 0) (aA (aB 1) (aA (aB 4) (aA (aB 2) aE))))) aE)))) (aU 3))
 (aY (aK (wV k) 3 aN (aA (aK (C3 k) 3 aN (aA (aB 1) (aA (aB 2) (aA (eC (.int 1)) aE)))) (aA (aB 2) (aA (aB 3) aE))))))
def aBZ (k : bN) : MF := bL (aCV k) aCI
def R5 : List Str := [("lacks" : Str), ("sent" : Str), ("fates" : Str), ("found" : Str), ("address" : Str), ("sender" : Str), ("receiver" : Str), ("rank" : Str), ("lost" : Str), ("rows" : Str), ("own" : Str), ("houses" : Str), ("row" : Str), ("many" : Str)]
def S9 (k : bN) : MS :=
 (aI (aT rH (aU 3))
 (aI (gZ (dM (aB 1)) (bX 4 (aJ (aU 4) (aJ (aU 5) (aJ (aU 6) (aJ (aU 7) bU))))) (aI (aT (aD fN (cL "dict" getM (aB 2) (aA (bR (aA (aB 4) (aA (aB 5) (aA (aB 6) aE)))) (aA (eC (.int 1)) aE))) (eC (.int 0))) (aU 8))
 (aT (W6 (eQ (aB 8)) (aD bH (aD aV (aD aV (aD aV (aB 0) (aB 4)) (aB 5)) (aB 6)) (eC (.int 1))) (eC (.int 0))) (dQ (aB 3) (bR (aA (aB 4) (aA (aB 5) (aA (aB 6) aE))))))))
 (aI (dR (a8 (aD eqE (aB 3) rH)) (aY (aB 0)) aX)
 (aI (aT (eNew aE) (aU 9))
 (aI (gZ (eT G1 (aA (aB 0) aE)) (bX 2 (aJ (aU 4) (aJ (aU 10) bU))) (aI (aT (eNew aE) (aU 11))
 (aI (gZ (eT G1 (aA (aB 10) aE)) (bX 2 (aJ (aU 5) (aJ (aU 12) bU))) (cS (cL "list" dA (aB 11) (aA (aR dZ (aA (bQ (eT G1 (aA (aB 12) aE)) [6, 13] (bX 2 (aJ (aU 6) (aJ (aU 13) bU))) bS (cL "dict" getM (aB 3) (aA (bR (aA (aB 4) (aA (aB 5) (aA (aB 6) aE)))) (aA (aB 13) aE)))) aE)) aE))))
 (cS (cL "list" dA (aB 9) (aA (aR dZ (aA (aB 11) aE)) aE))))))
 (aY (aR dZ (aA (aB 9) aE))))))))
def E8 (k : bN) : MF := bL (S9 k) R5
def NB : List Str := [("sent" : Str), ("fates" : Str), ("found" : Str), ("address" : Str), ("sender" : Str), ("receiver" : Str), ("rank" : Str), ("fate" : Str)]
def MV (k : bN) : MS :=
 (aI (aT (eNew aE) (aU 2))
 (aI (gZ (dM (aB 0)) (bX 4 (aJ (aU 3) (aJ (aU 4) (aJ (aU 5) (aJ (aU 6) bU))))) (aI (aT (cL "dict" getM (aB 1) (aA (bR (aA (aB 3) (aA (aB 4) (aA (aB 5) aE)))) (aA (eC (.int 1)) aE))) (aU 7))
 (dR (a8 (aD NJ (aB 7) (eC (.int 0)))) (cS (cL "list" dA (aB 2) (aA (bR (aA (aB 7) (aA (aB 3) (aA (aB 4) (aA (aB 5) (aA (aB 6) aE)))))) aE))) aX)))
 (aY (aR dZ (aA (aB 2) aE)))))
def zC (k : bN) : MF := bL (MV k) NB
def FA : List Str := [("plan" : Str), ("state" : Str), ("house" : Str), ("living" : Str), ("parts" : Str), ("found" : Str), ("receiver" : Str), ("part" : Str)]
def D3 (k : bN) : MS :=
 (aI (LJ 3 4 (aA (aD aV (aB 1) (eC (.int 0))) (aA (aD aV (aB 1) (eC (.int 1))) aE)))
 (aI (aT (eNew aE) (aU 5))
 (aI (gZ (eT G1 (aA (aB 4) aE)) (bX 2 (aJ (aU 6) (aJ (aU 7) bU))) (dR (gG (a8 (aD qX (aB 6) (aB 2))) (gG (a8 (aD fN (aB 7) (aD aV (aB 4) (aB 2)))) (h8 (a8 (aD geM (aB 6) (aR (OB k.aH (hU k)) (aA (aB 0) aE)))) (a8 (aD fN (aD aV (aB 3) (aB 6)) (eC (.int 1))))))) (cS (cL "list" dA (aB 5) (aA (aB 6) aE))) aX))
 (aY (aR dZ (aA (aB 5) aE))))))
def tJ (k : bN) : MF := bL (D3 k) FA
def FR : List Str := [("plan" : Str), ("state" : Str), ("address" : Str), ("house" : Str), ("rank" : Str), ("fates" : Str), ("sent" : Str), ("letters" : Str), ("receiver" : Str)]
def GW (k : bN) : MS :=
 (aI (aT (bQ (dM (aK (tJ k) 3 aN (aA (aB 0) (aA (aB 1) (aA (aB 3) aE))))) [8] (aU 8) bS (bR (aA (aB 2) (aA (aB 3) (aA (aB 8) (aA (aB 4) aE)))))) (aU 6))
 (aI (aT (aD bH (aD aV (aB 1) (eC (.int 5))) (aK (zC k) 2 aN (aA (aB 6) (aA (aB 5) aE)))) (aU 7))
 (aY (aD bH (aD bH (qF mS (aB 1) dB (cR (eC (.int 5)))) (bR (aA (aB 7) (aA (aK (E8 k) 3 aN (aA (aD aV (aB 1) (eC (.int 6))) (aA (aB 6) (aA (aB 5) aE)))) aE)))) (qF mS (aB 1) (cR (aD bH (eC (.int 6)) (eC (.int 1)))) dB)))))
def EM (k : bN) : MF := bL (GW k) FR
def X5 : List Str := [("plan" : Str), ("state" : Str), ("house" : Str), ("fates" : Str), ("address" : Str), ("row" : Str)]
def WV (k : bN) : MS :=
 (aI (gZ (eT G1 (aA (aD aV (aB 1) (eC (.int 4))) aE)) (bX 2 (aJ (aU 4) (aJ (aU 5) bU))) (dR (a8 (aD fN (aD aV (aD aV (aB 5) (aB 2)) (eC (.int 0))) (eC (.str ("serves" : Str))))) (aT (aK (EM k) 6 aN (aA (aB 0) (aA (aB 1) (aA (aB 4) (aA (aB 2) (aA (eC (.int 0)) (aA (aB 3) aE))))))) (aU 1)) aX))
 (aY (aK (RM k) 3 aN (aA (aB 0) (aA (aB 1) (aA (aB 2) aE))))))
def XW (k : bN) : MF := bL (WV k) X5
def OH : List Str := [("plan" : Str), ("state" : Str), ("houses" : Str), ("hosts" : Str), ("there" : Str), ("host" : Str), ("place" : Str)]
def OC (k : bN) : MS :=
 (aI (aT (aD bH (aB 2) (aR dZ (aA (bQ (dM (aB 3)) [5] (aU 5) bS (aD bH (aR (OB k.aH (hU k)) (aA (aB 0) aE)) (aB 5))) aE))) (aU 4))
 (aY (aK (nH k) 3 aN (aA (aB 1) (aA (eC (.int 1)) (aA (aR dZ (aA (bQ (eT l9 (aA (aR c7 (aA (aD aV (aB 1) (eC (.int 1))) aE)) aE)) [6] (aU 6) bS (aR BI (aA (aD OZ (aB 6) (aB 4)) aE))) aE)) aE))))))
def CP (k : bN) : MF := bL (OC k) OH
def OI : List Str := [("plan" : Str), ("state" : Str), ("deed" : Str), ("fates" : Str), ("word" : Str), ("rest" : Str), ("downs" : Str), ("address" : Str), ("house" : Str), ("rank" : Str), ("ranks" : Str), ("tie" : Str)]
def NT (k : bN) : MS :=
 (aI (aT (aB 2) (U4 1 (aJ (aU 4) (aJ (aU 5) bU))))
 (aI (dR (a8 (aD fN (aB 4) (eC (.str ("fall" : Str))))) (aY (aK (RM k) 3 aN (aA (aB 0) (aA (aB 1) (aA (aD aV (aB 5) (eC (.int 0))) aE))))) aX)
 (aI (dR (a8 (aD fN (aB 4) (eC (.str ("stop" : Str))))) (aY (aK (XW k) 4 aN (aA (aB 0) (aA (aB 1) (aA (aD aV (aB 5) (eC (.int 0))) (aA (aB 3) aE)))))) aX)
 (aI (dR (a8 (aD fN (aB 4) (eC (.str ("rise" : Str))))) (aY (aK (aBZ k) 3 aN (aA (aB 0) (aA (aB 1) (aA (aD aV (aB 5) (eC (.int 0))) aE))))) aX)
 (aI (dR (a8 (aD fN (aB 4) (eC (.str ("down" : Str))))) (aY (aK (pW k) 3 aN (aA (aB 0) (aA (aB 1) (aA (aK (nH k) 3 aN (aA (aB 1) (aA (eC (.int 2)) (aA (aR dZ (aA (aR aC2 (aA (aD bH (aD aV (aB 1) (eC (.int 2))) (bR (aA (aD aV (aB 5) (eC (.int 0))) aE))) aE)) aE)) aE)))) aE))))) aX)
 (aI (dR (a8 (aD fN (aB 4) (eC (.str ("up" : Str))))) (aI (aT (aR dZ (aA (bQ (dM (aD aV (aB 1) (eC (.int 2)))) [11] (aU 11) (a8 (aD qX (aB 11) (aD aV (aB 5) (eC (.int 0))))) (aB 11)) aE)) (aU 6))
 (aY (aK (pW k) 3 aN (aA (aB 0) (aA (aB 1) (aA (aK (nH k) 3 aN (aA (aB 1) (aA (eC (.int 2)) (aA (aB 6) aE)))) aE)))))) aX)
 (aI (dR (a8 (aD fN (aB 4) (eC (.str ("rank" : Str))))) (aI (aT (aB 5) (aDC 3 (aJ (aU 7) (aJ (aU 8) (aJ (aU 9) bU)))))
 (aI (aT (aK (nH k) 3 aN (aA (aD aV (aB 1) (eC (.int 3))) (aA (aB 7) (aA (aK (nH k) 3 aN (aA (aD aV (aD aV (aB 1) (eC (.int 3))) (aB 7)) (aA (aB 8) (aA (aB 9) aE)))) aE)))) (aU 10))
 (aY (aK (pW k) 3 aN (aA (aB 0) (aA (aB 1) (aA (aK (nH k) 3 aN (aA (aB 1) (aA (eC (.int 3)) (aA (aB 10) aE)))) aE))))))) aX)
 (aI (dR (a8 (aD fN (aB 4) (eC (.str ("tear" : Str))))) (aY (aK (CP k) 4 aN (aA (aB 0) (aA (aB 1) (aA (aD aV (aB 5) (eC (.int 0))) (aA (aD aV (aB 5) (eC (.int 1))) aE)))))) aX)
 (aI (dR (a8 (aD fN (aB 4) (eC (.str ("heal" : Str))))) (aY (aK (CP k) 4 aN (aA (aB 0) (aA (aB 1) (aA (bR aE) (aA (bR aE) aE)))))) aX)
 (aY (aK (S0 k) 4 aN (aA (aB 0) (aA (aB 1) (aA (aD aV (aB 5) (eC (.int 0))) (aA (aD aV (aB 5) (eC (.int 1))) aE)))))))))))))))
def OJ (k : bN) : MF := bL (NT k) OI
def SI : List Str := [("thing" : Str), ("many" : Str), ("one" : Str), ("other" : Str)]
def S7 (k : bN) : MS :=
 (aI (dR (h8 (cN (eQ (aR (jD m2) (aA (aB 0) (aA (eC (.ty "tuple")) aE))))) (cN (eQ (aR allM (aA (bQ (dM (aB 0)) [2] (aU 2) bS (aK (bO k) 3 aN (aA (aB 2) (aA (eC (.int 0)) (aA (aD lO (aB 1) (eC (.int 1))) aE))))) aE))))) (aY (eC (.bl false))) aX)
 (aY (aR allM (aA (bQ (eT zsM (aA (qF mS (aB 0) dB (cR (AQ sO (eC (.int 1))))) (aA (qF mS (aB 0) (cR (eC (.int 1))) dB) aE))) [2, 3] (bX 2 (aJ (aU 2) (aJ (aU 3) bU))) bS (aD O9 (aB 2) (aB 3))) aE))))
def E4 (k : bN) : MF := bL (S7 k) SI
def SQ : List Str := [("plan" : Str), ("state" : Str), ("houses" : Str), ("hosts" : Str)]
def UQ (k : bN) : MS :=
 (aI (dR (h8 (eQ (aR anyM (aA (aD aV (aB 1) (eC (.int 1))) aE))) (h8 (cN (eQ (aK (E4 k) 2 aN (aA (aB 2) (aA (aR (OB k.aH (hU k)) (aA (aB 0) aE)) aE))))) (cN (eQ (aK (E4 k) 2 aN (aA (aB 3) (aA (bE k.aH ("hosts" : Str) (aB 0)) aE))))))) (aY (eC (.bl false))) aX)
 (aY (WA O9 O9 (eC (.int 0)) (aR c7 (aA (aB 2) aE)) (aR (OB k.aH (hU k)) (aA (aB 0) aE)))))
def R0 (k : bN) : MF := bL (UQ k) SQ
def GD : List Str := [("plan" : Str), ("address" : Str), ("house" : Str), ("rank" : Str)]
def GP (k : bN) : MS :=
 (aI (dR (h8 (cN (eQ (aK (bO k) 3 aN (aA (aB 1) (aA (eC (.int 0)) (aA (aD lO (aK (eP k) 1 aN (aA (aB 0) aE)) (eC (.int 1))) aE)))))) (cN (eQ (aK (bO k) 3 aN (aA (aB 2) (aA (eC (.int 0)) (aA (aD lO (aR (OB k.aH (hU k)) (aA (aB 0) aE)) (eC (.int 1))) aE))))))) (aY (eC (.bl false))) aX)
 (aY (aK (bO k) 3 aN (aA (aB 3) (aA (eC (.int 1)) (aA (eC (.int 12)) aE))))))
def G7 (k : bN) : MF := bL (GP k) GD
def tT : List Str := [("plan" : Str), ("thing" : Str), ("house" : Str), ("tie" : Str), ("less" : Str)]
def uD (k : bN) : MS :=
 (aY (jC (aK (bO k) 3 aN (aA (aB 1) (aA (eC (.int 0)) (aA (eC (.int 9)) aE)))) (aD OZ (aB 1) (bQ (dM (bE k.aH ("ties" : Str) (aB 0))) [2, 3, 4] (bX 3 (aJ (aU 2) (aJ (aU 3) (aJ (aU 4) bU)))) bS (aB 3)))))
def nB (k : bN) : MF := bL (uD k) tT
theorem C5 (x0 x1 : D) : begin tT [x0, x1] = [some x0, some x1, none, none, none] := rfl
def XI : List Str := [("plan" : Str), ("state" : Str), ("thing" : Str), ("word" : Str), ("rest" : Str)]
def XZ (k : bN) (tS : Addr) : MS :=
 (aI (dR (h8 (cN (eQ (aR (jD m2) (aA (aB 2) (aA (eC (.ty "tuple")) aE))))) (h8 (a8 (aD fN (aB 2) (bR aE))) (cN (eQ (aR (jD m2) (aA (aD aV (aB 2) (eC (.int 0))) (aA (eC (.ty "str")) aE))))))) (aY (eC (.bl false))) aX)
 (aI (aT (aB 2) (U4 1 (aJ (aU 3) (aJ (aU 4) bU))))
 (aI (dR (a8 (aD qX (aR c7 (aA (aB 4) aE)) (aGu tS XT (eC (.con tS)) (aA (aB 3) (aA (AQ sO (eC (.int 1))) aE))))) (aY (eC (.bl false))) aX)
 (aI (dR (a8 (aD OZ (aB 3) (bR (aA (eC (.str ("fall" : Str))) (aA (eC (.str ("stop" : Str))) (aA (eC (.str ("rise" : Str))) aE)))))) (aY (jC (aK (bO k) 3 aN (aA (aD aV (aB 4) (eC (.int 0))) (aA (eC (.int 0)) (aA (aD lO (aR (OB k.aH (hU k)) (aA (aB 0) aE)) (eC (.int 1))) aE)))) (aD fN (aD aV (aD aV (aB 1) (eC (.int 0))) (aD aV (aB 4) (eC (.int 0)))) (aR BI (aA (aD qX (aB 3) (eC (.str ("rise" : Str)))) aE))))) aX)
 (aI (dR (a8 (aD OZ (aB 3) (bR (aA (eC (.str ("down" : Str))) (aA (eC (.str ("up" : Str))) aE))))) (aY (jC (aK (nB k) 2 aN (aA (aB 0) (aA (aD aV (aB 4) (eC (.int 0))) aE))) (aD fN (aD OZ (aD aV (aB 4) (eC (.int 0))) (aD aV (aB 1) (eC (.int 2)))) (aD fN (aB 3) (eC (.str ("up" : Str))))))) aX)
 (aI (dR (a8 (aD fN (aB 3) (eC (.str ("rank" : Str))))) (aY (aK (G7 k) 4 aN (aA (aB 0) (aA (aD aV (aB 4) (eC (.int 0))) (aA (aD aV (aB 4) (eC (.int 1))) (aA (aD aV (aB 4) (eC (.int 2))) aE)))))) aX)
 (aI (dR (a8 (aD fN (aB 3) (eC (.str ("tear" : Str))))) (aY (aK (R0 k) 4 aN (aA (aB 0) (aA (aB 1) (aA (aD aV (aB 4) (eC (.int 0))) (aA (aD aV (aB 4) (eC (.int 1))) aE)))))) aX)
 (aI (dR (a8 (aD fN (aB 3) (eC (.str ("heal" : Str))))) (aY (aR anyM (aA (aD aV (aB 1) (eC (.int 1))) aE))) aX)
 (aY (jC (aK (bO k) 3 aN (aA (aD aV (aB 4) (eC (.int 0))) (aA (eC (.int 0)) (aA (aD lO (bE k.aH ("hosts" : Str) (aB 0)) (eC (.int 1))) aE)))) (aK (bO k) 3 aN (aA (aD aV (aB 4) (eC (.int 1))) (aA (eC (.int 0)) (aA (aD lO (aK (eP k) 1 aN (aA (aB 0) aE)) (eC (.int 1))) aE))))))))))))))
def WS (k : bN) (tS : Addr) : MF := bL (XZ k tS) XI
end Lb
namespace Lw
open PySem PySem.Spec PyProof.Rows L2 Pc Lb
def QC : List Str := [("_law_model_here" : Str), ("_law_world_here" : Str), ("_law_a" : Str), ("_law_h" : Str), ("_law_down" : Str), ("_law_house" : Str), ("_law_tie" : Str), ("_law_less" : Str)]
def PZ (k : bN) : MS :=
 (aI (aT (aR Q9 (aA (bQ (dM (aD aV (aB 0) (eC (.str ("ties" : Str))))) [5, 6, 7] (bX 3 (aJ (aU 5) (aJ (aU 6) (aJ (aU 7) bU)))) (gG (a8 (aD fN (aB 5) (aB 3))) (a8 (aD OZ (aB 6) (aD aV (aB 1) (eC (.str ("downs" : Str))))))) (aB 7)) aE)) (aU 4))
 (aY (aR max2 (aA (eC (.int 1)) (aA (aD lO (aD aV (aD aV (aD aV (aB 1) (eC (.str ("ranks" : Str)))) (aB 2)) (aB 3)) (aB 4)) aE)))))
def lP (k : bN) : MF := bL (PZ k) QC
def QZ : List Str := [("_law_model_here" : Str), ("_law_rank_here" : Str), ("_law_whole" : Str)]
def PY (k : bN) : MS :=
 (aI (aT (aD bH (aD mulM (aD bH (aD aV (aB 0) (eC (.str ("bears" : Str)))) (eC (.int 1))) (aD aV (aB 0) (eC (.str ("every" : Str))))) (aD aV (aB 0) (eC (.str ("slow" : Str))))) (aU 2))
 (aY (aD bH (aB 2) (aD mulM (aD aV (aB 0) (eC (.str ("gap" : Str)))) (aD lO (eC (.int 12)) (aB 1))))))
def BW (k : bN) : MF := bL (PY k) QZ
def MQ : List Str := [("_law_model_here" : Str), ("_law_world_here" : Str), ("_law_a" : Str), ("_law_h" : Str)]
def MM (k : bN) : MS :=
 (aY (eNew (aA (eC (.str ("waits" : Str))) (aA (aD bH (aK (BW k) 2 aN (aA (aB 0) (aA (aK (lP k) 4 aN (aA (aB 0) (aA (aB 1) (aA (aB 2) (aA (aB 3) aE))))) aE))) (aD aV (aB 0) (eC (.str ("hold" : Str))))) aE))))
def rE (k : bN) : MF := bL (MM k) MQ
def AM : List Str := [("_law_lots" : Str), ("_law_one" : Str)]
def AL (k : bN) : MS :=
 (aY (aR aFX (aA (bQ (dM (aB 0)) [1] (aU 1) bS (bR (aA (qF mS (aB 1) dB (cR (eC (.int 3)))) (aA (aD aV (aB 1) (eC (.int 3))) aE)))) aE)))
def oW (k : bN) : MF := bL (AL k) AM
def KQ : List Str := [("_law_world_here" : Str), ("_law_host" : Str), ("_law_a" : Str), ("_law_told" : Str), ("_law_many" : Str), ("_law_good" : Str)]
def K3 (k : bN) : MS :=
 (aI (aT (aD aV (aD aV (aD aV (aB 0) (eC (.str ("tables" : Str)))) (aB 1)) (aB 2)) (aU 3))
 (aI (aT (aR c7 (aA (aD aV (aB 0) (eC (.str ("living" : Str)))) aE)) (aU 4))
 (aI (aT (jC (aD geM (aB 3) (eC (.int 0))) (aD fN (aD aV (aD aV (aB 0) (eC (.str ("parts" : Str)))) (aB 3)) (aD aV (aD aV (aB 0) (eC (.str ("parts" : Str)))) (aD bH (aB 4) (aB 1))))) (aU 5))
 (aI (aT (jC (aB 5) (aD fN (aD aV (aD aV (aD aV (aD aV (aB 0) (eC (.str ("stands" : Str)))) (aB 2)) (aB 3)) (eC (.int 0))) (eC (.str ("serves" : Str))))) (aU 5))
 (aT (eNew (aA (aD bH (aD aV (aD aV (aD aV (aB 0) (eC (.str ("asks" : Str)))) (aB 1)) (eC (.int 0))) (eC (.int 1))) (aA (aD bH (aD aV (aD aV (aD aV (aB 0) (eC (.str ("asks" : Str)))) (aB 1)) (eC (.int 1))) (aR BI (aA (AQ notM (aB 5)) aE))) aE))) (dQ (aD aV (aB 0) (eC (.str ("asks" : Str)))) (aB 1)))))))
def KN (k : bN) : MF := bL (K3 k) KQ
def L9 : List Str := [("_law_world_here" : Str), ("_law_h" : Str), ("_law_news" : Str), ("_law_a" : Str), ("_law_row" : Str)]
def LD (k : bN) : MS :=
 (aI (aT (eC (.int 0)) (dQ (aD aV (aB 0) (eC (.str ("living" : Str)))) (aB 1)))
 (gZ (eT qL (aA (aD aV (aB 0) (eC (.str ("stands" : Str)))) aE)) (bX 2 (aJ (aU 3) (aJ (aU 4) bU))) (aI (aT (eNew (aA (eC (.str ("rests" : Str))) (aA (eC (.int 0)) aE))) (dQ (aB 4) (aB 1)))
 (cS (cL "list" dA (aB 2) (aA (bR (aA (aB 3) (aA (aB 1) (aA (eC (.str ("rests" : Str))) aE)))) aE))))))
def LC (k : bN) : MF := bL (LD k) L9
def QI : List Str := [("_law_world_here" : Str), ("_law_a" : Str), ("_law_s" : Str), ("_law_rank_here" : Str), ("_law_lots" : Str), ("_law_r" : Str), ("_law_fate" : Str)]
def P7 (k : bN) : MS :=
 (gZ (eT l9 (aA (aR c7 (aA (aD aV (aB 0) (eC (.str ("parts" : Str)))) aE)) aE)) (aU 5) (dR (gG (a8 (aD qX (aB 5) (aB 2))) (gG (a8 (aD fN (aD aV (aD aV (aB 0) (eC (.str ("parts" : Str)))) (aB 5)) (aD aV (aD aV (aB 0) (eC (.str ("parts" : Str)))) (aB 2)))) (a8 (aD qX (qF mS (aD aV (aB 0) (eC (.str ("living" : Str)))) (cR (aB 5)) (cR (aD bH (aB 5) (eC (.int 1))))) (fP (aA (eC (.int 0)) aE)))))) (aI (aT (cL "dict" getM (aB 4) (aA (bR (aA (aB 1) (aA (aB 2) (aA (aB 5) aE)))) (aA (eC (.int 1)) aE))) (aU 6))
 (aI (aT (W6 (a8 (aD fN (aB 6) (eC (.int 0)))) (aD bH (cL "dict" getM (aD aV (aB 0) (eC (.str ("lacks" : Str)))) (aA (bR (aA (aB 1) (aA (aB 2) (aA (aB 5) aE)))) (aA (eC (.int 0)) aE))) (eC (.int 1))) (eC (.int 0))) (dQ (aD aV (aB 0) (eC (.str ("lacks" : Str)))) (bR (aA (aB 1) (aA (aB 2) (aA (aB 5) aE))))))
 (aI (cS (cL "list" dA (aD aV (aB 0) (eC (.str ("sent" : Str)))) (aA (bR (aA (aB 1) (aA (aB 2) (aA (aB 5) aE)))) aE)))
 (dR (a8 (aD NJ (aB 6) (eC (.int 0)))) (cS (cL "list" dA (aD aV (aB 0) (eC (.str ("under" : Str)))) (aA (bR (aA (aB 6) (aA (aB 1) (aA (aB 2) (aA (aB 5) (aA (aB 3) aE)))))) aE))) aX)))) aX))
def CW (k : bN) : MF := bL (P7 k) QI
def HP : List Str := [("_law_model_here" : Str), ("_law_world_here" : Str), ("_law_deed_here" : Str), ("_law_word" : Str), ("_law_rest" : Str), ("_law_many" : Str), ("_law_old" : Str), ("_law_a" : Str), ("_law_row" : Str), ("_law_h" : Str), ("_law_stand" : Str), ("_law_tie" : Str)]
def IC (k : bN) : MS :=
 (aI (aT (bR (aA (aD aV (aB 2) (eC (.int 0))) (aA (qF mS (aB 2) (cR (eC (.int 1))) dB) aE))) (bX 2 (aJ (aU 3) (aJ (aU 4) bU))))
 (aI (aT (aR c7 (aA (aD aV (aB 1) (eC (.str ("living" : Str)))) aE)) (aU 5))
 (aI (aT (bQ (eT l9 (aA (aR c7 (aA (aD aV (aB 0) (eC (.str ("ranks" : Str)))) aE)) aE)) [7] (aU 7) bS (bQ (eT l9 (aA (aB 5) aE)) [9] (aU 9) bS (aK (lP k) 4 aN (aA (aB 0) (aA (aB 1) (aA (aB 7) (aA (aB 9) aE))))))) (aU 6))
 (aI (dR (a8 (aD fN (aB 3) (eC (.str ("down" : Str))))) (cS (cL "list" dA (aD aV (aB 1) (eC (.str ("downs" : Str)))) (aA (aD aV (aB 4) (eC (.int 0))) aE))) aX)
 (aI (dR (a8 (aD fN (aB 3) (eC (.str ("up" : Str))))) (aT (SK (dM (aD aV (aB 1) (eC (.str ("downs" : Str))))) [11] (aU 11) (a8 (aD qX (aB 11) (aD aV (aB 4) (eC (.int 0))))) (aB 11)) (dQ (aB 1) (eC (.str ("downs" : Str))))) aX)
 (aI (dR (a8 (aD fN (aB 3) (eC (.str ("rank" : Str))))) (aT (aD aV (aB 4) (eC (.int 2))) (dQ (aD aV (aD aV (aB 1) (eC (.str ("ranks" : Str)))) (aD aV (aB 4) (eC (.int 0)))) (aD aV (aB 4) (eC (.int 1))))) aX)
 (gZ (eT qL (aA (aD aV (aB 1) (eC (.str ("stands" : Str)))) aE)) (bX 2 (aJ (aU 7) (aJ (aU 8) bU))) (gZ (eT qL (aA (aB 8) aE)) (bX 2 (aJ (aU 9) (aJ (aU 10) bU))) (dR (gG (a8 (aD fN (aD aV (aB 10) (eC (.int 0))) (eC (.str ("waits" : Str))))) (a8 (aD NJ (aK (lP k) 4 aN (aA (aB 0) (aA (aB 1) (aA (aB 7) (aA (aB 9) aE))))) (aD aV (aD aV (aB 6) (aB 7)) (aB 9))))) (aT (aR max2 (aA (aD aV (aB 10) (eC (.int 1))) (aA (aD aV (aK (rE k) 4 aN (aA (aB 0) (aA (aB 1) (aA (aB 7) (aA (aB 9) aE))))) (eC (.int 1))) aE))) (dQ (aB 10) (eC (.int 1)))) aX)))))))))
def HR (k : bN) : MF := bL (IC k) HP
def QH : List Str := [("_law_model_here" : Str), ("_law_world_here" : Str), ("_law_deed_here" : Str), ("_law_lots" : Str), ("_law_news" : Str), ("_law_word" : Str), ("_law_rest" : Str), ("_law_a" : Str), ("_law_row" : Str), ("_law_many" : Str), ("_law_there" : Str), ("_law_host" : Str), ("_law_k" : Str)]
def OS (k : bN) : MS :=
 (aI (LJ 5 6 (aA (aD aV (aB 2) (eC (.int 0))) (aA (qF mS (aB 2) (cR (eC (.int 1))) dB) aE)))
 (aI (dR (a8 (aD fN (aB 5) (eC (.str ("stop" : Str))))) (gZ (eT qL (aA (aD aV (aB 1) (eC (.str ("stands" : Str)))) aE)) (bX 2 (aJ (aU 7) (aJ (aU 8) bU))) (dR (a8 (aD fN (aD aV (aD aV (aB 8) (aD aV (aB 6) (eC (.int 0)))) (eC (.int 0))) (eC (.str ("serves" : Str))))) (cS (aK (CW k) 5 aN (aA (aB 1) (aA (aB 7) (aA (aD aV (aB 6) (eC (.int 0))) (aA (eC (.int 0)) (aA (aB 3) aE))))))) aX)) aX)
 (aI (dR (a8 (aD OZ (aB 5) (bR (aA (eC (.str ("stop" : Str))) (aA (eC (.str ("fall" : Str))) aE))))) (cS (aK (LC k) 3 aN (aA (aB 1) (aA (aD aV (aB 6) (eC (.int 0))) (aA (aB 4) aE))))) aX)
 (aI (dR (a8 (aD fN (aB 5) (eC (.str ("rise" : Str))))) (aI (aT (eC (.int 1)) (dQ (aD aV (aB 1) (eC (.str ("living" : Str)))) (aD aV (aB 6) (eC (.int 0)))))
 (gZ (eT qL (aA (aD aV (aB 1) (eC (.str ("stands" : Str)))) aE)) (bX 2 (aJ (aU 7) (aJ (aU 8) bU))) (aT (aK (rE k) 4 aN (aA (aB 0) (aA (aB 1) (aA (aB 7) (aA (aD aV (aB 6) (eC (.int 0))) aE))))) (dQ (aB 8) (aD aV (aB 6) (eC (.int 0))))))) aX)
 (aI (dR (a8 (aD OZ (aB 5) (bR (aA (eC (.str ("down" : Str))) (aA (eC (.str ("up" : Str))) (aA (eC (.str ("rank" : Str))) aE)))))) (cS (aK (HR k) 3 aN (aA (aB 0) (aA (aB 1) (aA (aB 2) aE))))) aX)
 (aI (dR (a8 (aD OZ (aB 5) (bR (aA (eC (.str ("tear" : Str))) (aA (eC (.str ("heal" : Str))) aE))))) (aI (aT (aR c7 (aA (aD aV (aB 1) (eC (.str ("living" : Str)))) aE)) (aU 9))
 (aI (aT (W6 (a8 (aD fN (aB 5) (eC (.str ("tear" : Str))))) (aD bH (aR aDD (aA (aD aV (aB 6) (eC (.int 0))) aE)) (bQ (dM (aD aV (aB 6) (eC (.int 1)))) [11] (aU 11) bS (aD bH (aB 9) (aB 11)))) (fP aE)) (aU 10))
 (aT (SK (eT l9 (aA (aR c7 (aA (aD aV (aB 1) (eC (.str ("parts" : Str)))) aE)) aE)) [12] (aU 12) bS (aR BI (aA (aD OZ (aB 12) (aB 10)) aE))) (dQ (aB 1) (eC (.str ("parts" : Str))))))) aX)
 (dR (a8 (aD fN (aB 5) (eC (.str ("ask" : Str))))) (cS (aK (KN k) 3 aN (aA (aB 1) (aA (aD aV (aB 6) (eC (.int 0))) (aA (aD aV (aB 6) (eC (.int 1))) aE))))) aX)))))))
def Q4 (k : bN) : MF := bL (OS k) QH
def MU : List Str := [("_law_model_here" : Str), ("_law_world_here" : Str), ("_law_many" : Str), ("_law_receivers" : Str), ("_law_lacks" : Str), ("_law_a" : Str), ("_law_rows" : Str), ("_law_stands" : Str), ("_law_ranks" : Str), ("_law_tables" : Str), ("_law_asks" : Str), ("_law_parts" : Str), ("_law_downs" : Str), ("_law_s" : Str), ("_law_r" : Str), ("_law_row" : Str), ("_law_stand" : Str)]
def KH (k : bN) : MS :=
 (aI (aT (bR (aA (aR c7 (aA (aD aV (aB 1) (eC (.str ("living" : Str)))) aE)) (aA (aR c7 (aA (aD aV (aB 1) (eC (.str ("parts" : Str)))) aE)) aE))) (bX 2 (aJ (aU 2) (aJ (aU 3) bU))))
 (aI (aT (eNew aE) (aU 4))
 (aI (gZ (eT l9 (aA (aR c7 (aA (aD aV (aB 0) (eC (.str ("ranks" : Str)))) aE)) aE)) (aU 5) (aI (aT (bQ (eT l9 (aA (aB 2) aE)) [13] (aU 13) bS (aR dZ (aA (bQ (eT l9 (aA (aB 3) aE)) [14] (aU 14) bS (cL "dict" getM (aD aV (aB 1) (eC (.str ("lacks" : Str)))) (aA (bR (aA (aB 5) (aA (aB 13) (aA (aB 14) aE)))) (aA (eC (.int 0)) aE)))) aE))) (aU 6))
 (cS (cL "list" dA (aB 4) (aA (aR dZ (aA (aB 6) aE)) aE)))))
 (aI (aT (aR dZ (aA (bQ (dM (aD aV (aB 1) (eC (.str ("stands" : Str))))) [15] (aU 15) bS (aR dZ (aA (bQ (dM (aB 15)) [16] (aU 16) bS (aR dZ (aA (aB 16) aE))) aE))) aE)) (aU 7))
 (aI (aT (aR dZ (aA (bQ (dM (aD aV (aB 1) (eC (.str ("ranks" : Str))))) [15] (aU 15) bS (aR dZ (aA (aB 15) aE))) aE)) (aU 8))
 (aI (LJ 9 10 (aA (aR dZ (aA (bQ (dM (aD aV (aB 1) (eC (.str ("tables" : Str))))) [15] (aU 15) bS (aR dZ (aA (aB 15) aE))) aE)) (aA (aR dZ (aA (bQ (dM (aD aV (aB 1) (eC (.str ("asks" : Str))))) [15] (aU 15) bS (aR dZ (aA (aB 15) aE))) aE)) aE)))
 (aI (LJ 11 12 (aA (aR dZ (aA (aD aV (aB 1) (eC (.str ("parts" : Str)))) aE)) (aA (aR dZ (aA (aR lC (aA (aD aV (aB 1) (eC (.str ("downs" : Str)))) aE)) aE)) aE)))
 (aY (bR (aA (aR dZ (aA (aD aV (aB 1) (eC (.str ("living" : Str)))) aE)) (aA (aB 11) (aA (aB 12) (aA (aB 8) (aA (aB 7) (aA (aR dZ (aA (aD aV (aB 1) (eC (.str ("under" : Str)))) aE)) (aA (aR dZ (aA (aB 4) aE)) (aA (aB 9) (aA (aB 10) aE))))))))))))))))))
def zU (k : bN) : MF := bL (KH k) MU
end Lw
namespace Lb
open PySem PySem.Spec PyProof.Rows L2 Pc
section
variable {w : W} {P : D → W → Prop} {PS : Sg → W → Prop} {PI : kL → W → Prop} {σ : Sg} {k : bN} {p h : Nat} {m : Mo} {b : Int} {s : yS}
theorem aBv {w : W} {xs : List Int} : D.py w (.tup (xs.map D.int)) = some (.tuple (xs.map PyData.int)) := by
 unfold D.py D.fZ
 rw [G3]; rfl
theorem XF (cells : List Int) : SeqAt.shaped (.tuple (cells.map PyData.int)) = true := by
 have h1 := E1 cells
 have h2 := ED cells
 unfold SeqAt.shaped
 simp [PyData.canLay0, PyData.depth, h1]
 omega
end
def aBU (s : yS) (a h : Nat) : Role × Int := ((s.eK[a]?).getD []).getD h (.rests, 0)
section
variable {w : W} {P : D → W → Prop} {σ : Sg} {k : bN} {p h : Nat} {m : Mo} {b : Int} {s : yS}
theorem getD_some {α : Type} {xs : List α} {i : Nat} {x d : α} (h : xs[i]? = some x) : xs.getD i d = x := by rw [List.getD_eq_getElem?_getD, h]; rfl
theorem aCl {q : Bool} : T (BI [.bl q] w) P = P (.int (if q = true then 1 else 0)) w := by
 have : BI [.bl q] w = .ok (.int (if q = true then 1 else 0)) w := by cases q <;> rfl
 rw [this, bY]
end
inductive XG where
 | XS | stop | rise | down | up | rank | T6 | R4 | ask
deriving DecidableEq
def XG.s : XG → Str
 | .XS => "fall" | .stop => "stop" | .rise => "rise" | .down => "down" | .up => "up" | .rank => "rank" | .T6 => "tear" | .R4 => "heal" | .ask => "ask"
inductive sM where
 | down (t : Int) | up (t : Int) | rank (a c : Nat) (r : Int) | T6 (hs cs : List Int) | R4 | ask (c a : Nat)
 | XS (c : Nat) | stop (c : Nat) | rise (c : Nat)
def sM.word : sM → XG
 | .down _ => .down | .up _ => .up | .rank .. => .rank | .T6 .. => .T6 | .R4 => .R4 | .ask .. => .ask | .XS _ => .XS | .stop _ => .stop | .rise _ => .rise
def sM.args : sM → List D
 | .down t => [.int t] | .up t => [.int t] | .rank a c r => [.int (a : Nat), .int (c : Nat), .int r] | .T6 hs cs => [gE hs, gE cs] | .R4 => [] | .ask c a => [.int (c : Nat), .int (a : Nat)]
 | .XS c => [.int (c : Nat)] | .stop c => [.int (c : Nat)] | .rise c => [.int (c : Nat)]
theorem lD (r : XG) : PyData.strOk r.s = true := by cases r <;> decide +kernel
section
variable {w : W} {P : D → W → Prop} {PL : List (List Key × D) → W → Prop} {σ : Sg} {k : bN} {tS : Addr} {p h : Nat} {m : Mo} {b : Int} {s : yS}
def XG.size : XG → Int
 | .rank => 3
 | .T6 => 2
 | .R4 => 0
 | .ask => 2
 | _ => 1
def aAh (n : Int) (xs : List Int) : Prop := (∀ x ∈ xs, 0 ≤ x ∧ x ≤ n - 1) ∧ xs.Pairwise (· < ·)
def Fits (m : Mo) (h : Nat) : sM → Prop
 | .down t => (0 ≤ t ∧ t ≤ 9) ∧ t ∈ m.eR.map fun t => t.2.1
 | .up t => (0 ≤ t ∧ t ≤ 9) ∧ t ∈ m.eR.map fun t => t.2.1
 | .rank a c r => a < m.eD.length ∧ c < h ∧ 1 ≤ r ∧ r ≤ 12
 | .T6 hs cs => (aAh h hs ∧ aAh m.lV cs) ∧ (hs.length ≤ 100 ∧ cs.length ≤ 100) ∧ 0 < hs.length ∧ hs.length < h
 | .R4 => True
 | .ask c a => (c : Int) < m.lV ∧ a < m.eD.length
 | .XS c => c < h
 | .stop c => c < h
 | .rise c => c < h
end
end Lb
namespace Lw
open PySem PySem.Spec PyProof.Rows L2 Pc Lb
inductive pP where
 | dict | living | parts | downs | under | B2 | eD | eK | tables | asks | QF
 | ZG (a : Nat) | S3 (a : Nat) | N5 (a c : Nat) | aAo (c : Nat) | ask (c : Nat)
deriving DecidableEq
abbrev sT := pP → Nat
abbrev Con := pP → Option MO
def oG {α : Type} (f : pP → α) (l : pP) (x : α) : pP → α := fun q => if q = l then x else f q
theorem o9 {α : Type} {f : pP → α} {l : pP} {x : α} : oG f l x l = x := if_pos rfl
theorem fR {α : Type} {f : pP → α} {l q : pP} {x : α} (h : q ≠ l) : oG f l x q = f q := if_neg h
def onS (S : pP → Bool) (C : Con) : Con := fun l => if S l then C l else none
def qO (n : Nat) (w : W) (A : sT) (C : Con) : Prop := ∀ l o, C l = some o → n ≤ A l ∧ w[A l]? = some o ∧ ∀ l' o', C l' = some o' → A l' = A l → l' = l
section
variable {n : Nat} {w w' : W} {A A' : sT} {C C' : Con} {l : pP} {o : MO}
theorem qO.get (h : qO n w A C) (e : C l = some o) : w[A l]? = some o := (h l o e).2.1
theorem qO.lt (h : qO n w A C) (e : C l = some o) : A l < w.length := (ag.mp (h.get e)).1
theorem qO.keep (h : qO n w A C) (hk : ∀ i, n ≤ i → i < w.length → w'[i]? = w[i]?) : qO n w' A C := fun l o e =>
 ⟨(h l o e).1, by rw [hk _ (h l o e).1 (h.lt e)]; exact h.get e, (h l o e).2.2⟩
theorem qO.grow (h : qO n w A C) (h2 : 2 ≤ n) (g : uT w w' 1 0) : qO n w' A C := h.keep fun i hi hl => g.at_ i hl (by omega) (by omega)
theorem qO.app (h : qO n w A C) (u : W) : qO n (w ++ u) A C := h.keep fun i _ hl => aq hl
theorem qO.set (h : qO n w A C) (e : C l = some o) (o1 : MO) : qO n (w.set (A l) o1) A (oG C l (some o1)) := fun q u eq => by
 have inj : ∀ l' o', oG C l (some o1) l' = some o' → ∃ o2, C l' = some o2 := fun l' o' e' => by
  by_cases c : l' = l
  ·subst c; exact ⟨o, e⟩
  ·rw [fR c] at e'; exact ⟨o', e'⟩
 obtain ⟨u2, e2⟩ := inj q u eq
 refine ⟨(h q u2 e2).1, ?_, fun l' o' e' ea => ?_⟩
 ·by_cases c : q = l
  ·subst c
   rw [o9] at eq
   cases eq
   rw [au (h.lt e)]
  ·rw [fR c] at eq
   rw [av (fun x => c ((h l o e).2.2 q u2 e2 x.symm))]
   exact h.get eq
 ·obtain ⟨o3, e3⟩ := inj l' o' e'
  exact (h q u2 e2).2.2 l' o3 e3 ea
theorem qO.new (h : qO n w A C) (hk : ∀ i, n ≤ i → i < w.length → w'[i]? = w[i]?) {r : Nat} (h1 : w.length ≤ r) (h0 : n ≤ w.length) (e : w'[r]? = some o) (l : pP) : qO n w' (oG A l r) (oG C l (some o)) := fun q u eq => by
 by_cases c : q = l
 ·subst c
  rw [o9] at eq ⊢
  cases eq
  refine ⟨cq h0 h1, e, fun l' o' e' ea => ?_⟩
  by_cases c' : l' = q
  ·exact c'
  ·rw [fR c'] at e' ea
   have := h.lt e'
   omega
 ·rw [fR c] at eq ⊢
  refine ⟨(h q u eq).1, by rw [hk _ (h q u eq).1 (h.lt eq)]; exact h.get eq, fun l' o' e' ea => ?_⟩
  by_cases c' : l' = l
  ·subst c'
   rw [o9] at ea
   have := h.lt eq
   omega
  ·rw [fR c'] at e' ea
   exact (h q u eq).2.2 l' o' e' ea
theorem qO.add (h : qO n w A C) (h0 : n ≤ w.length) (l : pP) (o : MO) : qO n (w ++ [o]) (oG A l w.length) (oG C l (some o)) :=
 h.new (fun i _ hl => aq hl) (az _) h0 (by rw [bf (az _)]; simp) l
theorem qO.sub (h : qO n w A C) (hs : ∀ l o, C' l = some o → C l = some o ∧ A' l = A l) : qO n w A' C' := fun l o e => by
 obtain ⟨e1, e2⟩ := hs l o e
 rw [e2]
 refine ⟨(h l o e1).1, h.get e1, fun l' o' e' ea => ?_⟩
 obtain ⟨e3, e4⟩ := hs l' o' e'
 rw [e4] at ea
 exact (h l o e1).2.2 l' o' e3 ea
theorem qO.nil : qO n w A fun _ => none := fun l o e => nomatch e
end
structure Wx where
 s : yS
 lk : List (List Key × D)
 QF : List D
def L3 (A : sT) : List (Key × D) := [(.inr "living", .ref (A .living)), (.inr "parts", .ref (A .parts)), (.inr "downs", .ref (A .downs)), (.inr "under", .ref (A .under)), (.inr "lacks", .ref (A .B2)),
 (.inr "ranks", .ref (A .eD)), (.inr "stands", .ref (A .eK)), (.inr "tables", .ref (A .tables)), (.inr "asks", .ref (A .asks)), (.inr "sent", .ref (A .QF))]
def gA (A : sT) (g : Nat → pP) (k : Nat) : List D := (List.range k).map fun i => .ref (A (g i))
def RN (xs : List Int) : MO := .lst (xs.map D.int)
def aFZ (q : Role × Int) : MO := .lst [.str q.1.s, .int q.2]
def aHl (q : Int × Int) : MO := .lst [.int q.1, .int q.2]
def cont (A : sT) (x : Wx) : Con
 | .dict => some (.dK (L3 A))
 | .living => some (RN x.s.living)
 | .parts => some (RN x.s.parts)
 | .downs => some (RN x.s.downs)
 | .under => some (.lst (x.s.zR.map aDH))
 | .B2 => some (.dT x.lk)
 | .eD => some (.lst (gA A .ZG x.s.eD.length))
 | .eK => some (.lst (gA A .S3 x.s.eK.length))
 | .tables => some (.lst (gA A .aAo x.s.tables.length))
 | .asks => some (.lst (gA A .ask x.s.asks.length))
 | .QF => some (.lst x.QF)
 | .ZG a => x.s.eD[a]?.map RN
 | .S3 a => x.s.eK[a]?.map fun r => .lst (gA A (.N5 a) r.length)
 | .N5 a c => (x.s.eK[a]?.bind (·[c]?)).map aFZ
 | .aAo c => x.s.tables[c]?.map RN
 | .ask c => x.s.asks[c]?.map aHl
def World (n : Nat) (w : W) (A : sT) (x : Wx) : Prop := qO n w A (cont A x)
section
variable {n : Nat} {w w' : W} {A A' : sT} {x x' : Wx} {P : D → W → Prop} {PU : Unit → W → Prop} {l : pP} {o o1 : MO}
theorem World.set (h : World n w A x) (e : cont A x l = some o) (o1 : MO) (hc : ∀ q, cont A x' q = oG (cont A x) l (some o1) q) : World n (w.set (A l) o1) A x' := by
 unfold World
 rw [funext hc]
 exact qO.set h e o1
theorem YF {g : Nat → pP} {k i v : Nat} (inj : ∀ i j, g i = g j → i = j) : (gA A g k).set i (.ref v) = gA (oG A (g i) v) g k := by
 refine List.ext_getElem? fun j => ?_
 rw [List.getElem?_set]
 unfold gA
 by_cases c : i = j
 ·subst c
  rw [if_pos rfl]
  by_cases h : i < k
  ·simp [h, o9]
  ·simp [h]
 ·rw [if_neg c]
  simp only [bz]
  cases e : (List.range k)[j]? with
  | none => rfl
  | some y =>
   have : y = j := by
    have := ag.mp e
    obtain ⟨_, h⟩ := this
    rw [List.getElem_range] at h
    exact h.symm
   subst this
   simp only [Option.map_some]
   rw [fR (fun z => c (inj _ _ z).symm)]
theorem aGh {z : Str} {d : D} (h : World n w A x) (e : jH (L3 A) (.inr z) = some d) : T (aV (.ref (A .dict)) (.str z) w) P = P d w := by
 rw [J0 (h.get (l := .dict) rfl), e]
 simp
theorem pH (h : World n w A x) : T (aV (.ref (A .dict)) (.str ("ranks" : Str)) w) P = P (.ref (A .eD)) w := aGh h rfl
end
open PySem.W (dataLe)
section
variable {n : Nat} {w w' : W} {A A' : sT} {x x' : Wx} {P : D → W → Prop} {PU : Unit → W → Prop} {l : pP} {o o1 : MO} {k : bN} {i h : Nat} {m : Mo} {b : Int}
def q7 (w : W) (i : Nat) (m : Mo) : Prop := w[i]? = some (.dK m.kvs)
end
def aFw (lk : List (List Key × D)) : Prop := ∀ ks d, jH lk ks = some d → ∃ i, d = .int i
section
variable {n : Nat} {w w' : W} {A A' : sT} {x x' : Wx} {P : D → W → Prop} {PU : Unit → W → Prop} {PI : kL → W → Prop} {l : pP} {o o1 : MO} {k : bN} {i h : Nat} {m : Mo} {b : Int}
theorem World.app (hW : World n w A x) (u : W) : World n (w ++ u) A x := qO.app hW u
end
section
variable {n : Nat} {w w' : W} {A A' : sT} {C : Con} {x x' : Wx} {σ : Sg} {P : D → W → Prop} {PL : List D → W → Prop} {PF : Fl → W → Prop} {PU : Unit → W → Prop} {PI : kL → W → Prop} {l : pP} {o1 : MO} {k : bN} {i h : Nat} {m : Mo} {b : Int}
theorem qO.bind {S : pP → Bool} (h : qO n w A (onS S (cont A x))) (hS : S .dict = true) (hn : n ≤ w.length) (hl : l ≠ .dict) (hc : cont (oG A l w.length) x' l = some o1)
  (hr : ∀ q, q ≠ .dict → q ≠ l → S q = true → cont (oG A l w.length) x' q = cont A x q) :
  qO n ((w ++ [o1]).set (A .dict) (.dK (L3 (oG A l w.length)))) (oG A l w.length) (onS (fun q => S q || q == l) (cont (oG A l w.length) x')) := by
 have h1 := h.add hn l o1
 have e : oG (onS S (cont A x)) l (some o1) .dict = some (.dK (L3 A)) := by
  rw [fR hl.symm, onS, hS]
  rfl
 have h3 := h1.set e (.dK (L3 (oG A l w.length)))
 rw [fR hl.symm] at h3
 refine h3.sub fun q o e => ⟨?_, rfl⟩
 replace e : (if (S q || q == l) = true then cont (oG A l w.length) x' q else none) = some o := e
 by_cases c : q = .dict
 ·subst c
  rw [o9]
  rw [hS] at e
  exact e
 ·rw [fR c]
  by_cases c2 : q = l
  ·subst c2
   rw [o9]
   simp only [beq_self_eq_true, Bool.or_true, ae] at e
   rw [← hc]
   exact e
  ·rw [fR c2]
   unfold onS
   have c3 : (q == l) = false := by simpa using c2
   rw [c3, Bool.or_false] at e
   cases s : S q with
   | false => rw [s] at e; exact nomatch e
   | true =>
    rw [s] at e
    simp only [ae] at e ⊢
    rw [← hr q c c2 s]
    exact e
end
def pP.top : pP → Bool
 | .living => true | .parts => true | .downs => true | .under => true | .B2 => true | .eD => true | .eK => true | .tables => true | .asks => true | .QF => true
 | _ => false
def dep : pP → pP → Prop
 | .dict, q => q.top = true
 | .eD, q => ∃ a, q = .ZG a
 | .eK, q => ∃ a, q = .S3 a
 | .tables, q => ∃ a, q = .aAo a
 | .asks, q => ∃ a, q = .ask a
 | .S3 a, q => ∃ c, q = .N5 a c
 | _, _ => False
theorem lS {A A' : sT} {g : Nat → pP} {k : Nat} (h : ∀ i, A (g i) = A' (g i)) : gA A g k = gA A' g k := by
 unfold gA
 exact List.map_congr_left fun i _ => by rw [h i]
theorem RY {A A' : sT} {x : Wx} {l : pP} (h : ∀ q, dep l q → A q = A' q) : cont A x l = cont A' x l := by
 cases l with
 | dict =>
  show some (MO.dK (L3 A)) = some (MO.dK (L3 A'))
  unfold L3
  rw [h .living rfl, h .parts rfl, h .downs rfl, h .under rfl, h .B2 rfl, h .eD rfl, h .eK rfl, h .tables rfl, h .asks rfl, h .QF rfl]
 | eD =>
  show some (MO.lst (gA A .ZG x.s.eD.length)) = some (MO.lst (gA A' .ZG x.s.eD.length))
  rw [lS fun i => h _ ⟨i, rfl⟩]
 | eK =>
  show some (MO.lst (gA A .S3 x.s.eK.length)) = some (MO.lst (gA A' .S3 x.s.eK.length))
  rw [lS fun i => h _ ⟨i, rfl⟩]
 | tables =>
  show some (MO.lst (gA A .aAo x.s.tables.length)) = some (MO.lst (gA A' .aAo x.s.tables.length))
  rw [lS fun i => h _ ⟨i, rfl⟩]
 | asks =>
  show some (MO.lst (gA A .ask x.s.asks.length)) = some (MO.lst (gA A' .ask x.s.asks.length))
  rw [lS fun i => h _ ⟨i, rfl⟩]
 | S3 a =>
  show x.s.eK[a]?.map (fun r => MO.lst (gA A (.N5 a) r.length)) = x.s.eK[a]?.map (fun r => MO.lst (gA A' (.N5 a) r.length))
  congr 1
  funext r
  rw [lS fun i => h _ ⟨i, rfl⟩]
 | _ => rfl
section
variable {n : Nat} {w w' w0 : W} {A A' A1 : sT} {C : Con} {x x' : Wx} {σ : Sg} {P : D → W → Prop} {PL : List D → W → Prop} {PF : Fl → W → Prop} {PU : Unit → W → Prop} {PI : kL → W → Prop} {l : pP} {o1 : MO} {k : bN} {i h : Nat} {m : Mo} {b : Int}
theorem aAJ {v : Nat} {q : pP} (ht : l.top = true) (hq : q ≠ .dict) : cont (oG A l v) x q = cont A x q := RY fun r d => fR fun e => by
 subst e
 cases q <;> simp only [dep] at d
 case dict => exact hq rfl
 all_goals
  obtain ⟨a, rfl⟩ := d
  exact nomatch ht
structure dJ (w w' : W) : Prop where
 le : w.length ≤ w'.length
 at_ : ∀ i, i < w.length → w'[i]? = w[i]?
theorem dJ.refl : dJ w w := ⟨az _, fun _ _ => rfl⟩
theorem dJ.app (h : dJ w0 w) (u : W) : dJ w0 (w ++ u) := ⟨by rw [cc]; have := h.le; omega, fun i hi => by rw [aq (Nat.lt_of_lt_of_le hi h.le)]; exact h.at_ i hi⟩
theorem dJ.set (h : dJ w0 w) {j : Nat} (hj : w0.length ≤ j) (o : MO) : dJ w0 (w.set j o) := ⟨by rw [ck]; exact h.le, fun i hi => by rw [av (by omega)]; exact h.at_ i hi⟩
theorem dJ.trans {w1 w2 w3 : W} (a : dJ w1 w2) (b : dJ w2 w3) : dJ w1 w3 := ⟨cq a.le b.le, fun i hi => by rw [b.at_ i (Nat.lt_of_lt_of_le hi a.le), a.at_ i hi]⟩
theorem dJ.G2 (e : dJ w0 w) (hW : World n w0 A x) : World n w A x := qO.keep hW fun i _ hl => e.at_ i hl
theorem dJ.mod {j : Nat} (e : dJ w0 w) (hM : q7 w0 j m) : q7 w j m := by
 unfold q7
 rw [e.at_ j (ag.mp hM).1]
 exact hM
theorem dJ.grow (e : dJ w0 w) : uT w0 w 1 0 := ⟨e.le, fun i hi _ _ => e.at_ i hi⟩
end
structure Fr (n : Nat) (w w' : W) : Prop where
 le : w.length ≤ w'.length
 at_ : ∀ i, i < n → w'[i]? = w[i]?
section
variable {n : Nat} {w w' w0 : W} {A A' A1 : sT} {C : Con} {x x' : Wx} {σ : Sg} {P : D → W → Prop} {PL : List D → W → Prop} {PF : Fl → W → Prop} {PU : Unit → W → Prop} {PI : kL → W → Prop} {l : pP} {o1 : MO} {k : bN} {i h : Nat} {m : Mo} {b : Int}
theorem Fr.refl : Fr n w w := ⟨az _, fun _ _ => rfl⟩
theorem Fr.trans {w1 w2 w3 : W} (a : Fr n w1 w2) (b : Fr n w2 w3) : Fr n w1 w3 := ⟨cq a.le b.le, fun i hi => by rw [b.at_ i hi, a.at_ i hi]⟩
theorem Fr.app (h : n ≤ w.length) (u : W) : Fr n w (w ++ u) := ⟨by simp, fun i hi => aq (by omega)⟩
theorem Fr.set {j : Nat} (h : n ≤ j) (o : MO) : Fr n w (w.set j o) := ⟨by simp, fun i hi => av (by omega)⟩
theorem dJ.fr (e : dJ w w') (h : n ≤ w.length) : Fr n w w' := ⟨e.le, fun i hi => e.at_ i (by omega)⟩
theorem Fr.G2 {n' : Nat} (f : Fr n w w') (hW : World n' w A x) (hn : w.length ≤ n) : World n' w' A x := qO.keep hW fun i _ hl => f.at_ i (by omega)
theorem Fr.mod {j : Nat} (e : Fr n w w') (hM : q7 w j m) (hj : j < n) : q7 w' j m := by
 unfold q7
 rw [e.at_ j hj]
 exact hM
theorem World.onS (hW : World n w A x) : qO n w A (Lw.onS (fun _ => true) (cont A x)) := hW
theorem World.le (hW : World n w A x) : n ≤ A .dict := (hW .dict _ rfl).1
theorem World.ge (hW : World n w A x) (l : pP) {o : MO} (e : cont A x l = some o) : n ≤ A l := (hW l o e).1
theorem World.lt (hW : World n w A x) (l : pP) {o : MO} (e : cont A x l = some o) : A l < w.length := qO.lt hW e
theorem World.aDT (hW : World n w A x) : n ≤ w.length := by
 have h1 := hW.le
 have h2 := hW.lt .dict rfl
 omega
theorem World.bind (hW : World n w A x) (l : pP) (ht : l.top = true) (hc : ∀ A, cont A x' l = some o1) (hr : ∀ A q, q ≠ .dict → q ≠ l → cont A x' q = cont A x q) :
  World n ((w ++ [o1]).set (A .dict) (.dK (L3 (oG A l w.length)))) (oG A l w.length) x' := by
 have hl : l ≠ .dict := fun e => by subst e; exact nomatch ht
 have := qO.bind (x' := x') (l := l) (o1 := o1) hW.onS rfl hW.aDT hl (hc _) fun q q1 q2 _ => by rw [hr _ q q1 q2, aAJ ht q1]
 exact this.sub fun q o e => ⟨by unfold Lw.onS; exact e, rfl⟩
def Apart (A : sT) (x : Wx) (r : Nat) : Prop := ∀ l o, cont A x l = some o → A l ≠ r
theorem World.other (hW : World n w A x) {r : Nat} (ap : Apart A x r) (o : MO) : World n (w.set r o) A x := fun l u e => by
 obtain ⟨h1, h2, h3⟩ := hW l u e
 exact ⟨h1, by rw [av (Ne.symm (ap l u e))]; exact h2, h3⟩
end
section
variable {n : Nat} {w w' w0 : W} {A A' A1 : sT} {C : Con} {x x' : Wx} {σ : Sg} {P : D → W → Prop} {PL : List D → W → Prop} {PF : Fl → W → Prop} {PU : Unit → W → Prop} {PI : kL → W → Prop} {l : pP} {o1 : MO} {k : bN} {tS : Addr} {i h p : Nat} {m : Mo} {b : Int}
theorem dJ.aHP {w1 w2 : W} (e : dJ w1 w2) (hp : gM k w1 p m b) : gM k w2 p m b := by
 unfold gM
 rw [e.at_ p (ag.mp hp).1]
 exact hp
end
section
variable {n d0 : Nat} {w w' w0 : W} {A A' A1 : sT} {C : Con} {x x' : Wx} {σ : Sg} {P : D → W → Prop} {PL : List D → W → Prop} {PF : Fl → W → Prop} {PU : Unit → W → Prop} {PI : kL → W → Prop} {l : pP} {o1 u : MO} {k : bN} {tS : Addr} {i h p : Nat} {m : Mo} {b : Int}
theorem aEV : T (rH σ w) P = P (.ref w.length) (w ++ [.dT []]) := by unfold rH; rw [bY]
end
section
variable {n d0 : Nat} {w w' w0 : W} {A A' A1 : sT} {C : Con} {x x' : Wx} {σ : Sg} {P : D → W → Prop} {PL : List D → W → Prop} {PF : Fl → W → Prop} {PU : Unit → W → Prop} {PI : kL → W → Prop} {l : pP} {o o1 u : MO} {k : bN} {tS : Addr} {i h p : Nat} {m : Mo} {b : Int}
theorem Kept.G2 (kk : Pc.Kept w w' 1 0) (h2 : 2 ≤ n) (hW : World n w A x) : World n w' A x := qO.keep hW fun i h1 _ => kk.2 i (by omega) (by omega)
theorem Kept.mod (kk : Pc.Kept w w' 1 0) (i2 : 2 ≤ i) (hM : q7 w i m) : q7 w' i m := kk.obj hM (by omega) (by omega)
theorem uT.mod (g : uT w w' 1 0) (i2 : 2 ≤ i) (hM : q7 w i m) : q7 w' i m := by
 unfold q7
 rw [g.at_ i (ag.mp hM).1 (by omega) (by omega)]
 exact hM
theorem World.row {par : pP} {gl : Nat → pP} {kk c r : Nat} (hW : World n w A x) (hk : ∀ i, n ≤ i → i < w.length → w'[i]? = w[i]?) (hr : w.length ≤ r) (er : w'[r]? = some o) (inj : ∀ i j, gl i = gl j → i = j) (hne : par ≠ gl c)
  (hpar : cont A x par = some (.lst (gA A gl kk))) (hpar' : ∀ A', cont A' x' par = some (.lst (gA A' gl kk))) (hrow : ∀ A', cont A' x' (gl c) = some o) (hoth : ∀ A' q, q ≠ par → q ≠ gl c → (∀ l, l ≠ gl c → A' l = A l) → cont A' x' q = cont A x q) :
  World n (w'.set (A par) (.lst ((gA A gl kk).set c (.ref r)))) (oG A (gl c) r) x' := by
 have h1 := qO.new hW hk hr hW.aDT er (gl c)
 have ee : oG (cont A x) (gl c) (some o) par = some (.lst (gA A gl kk)) := by rw [fR hne]; exact hpar
 have h3 := h1.set ee (.lst ((gA A gl kk).set c (.ref r)))
 rw [fR hne] at h3
 refine h3.sub fun q u e => ⟨?_, rfl⟩
 by_cases c1 : q = par
 ·subst c1
  rw [o9, YF inj]
  rw [hpar'] at e
  exact e
 rw [fR c1]
 by_cases c2 : q = gl c
 ·subst c2
  rw [o9]
  rw [hrow] at e
  exact e
 rw [fR c2, ← e]
 exact (hoth _ q c1 c2 fun l hl => fR hl).symm
end
structure St (n i : Nat) (m : Mo) (w0 w : W) (A : sT) (x : Wx) : Prop where
 aGd : GK w 1 0
 mod : q7 w i m
 G2 : World n w A x
 n2 : 2 ≤ n
 i2 : 2 ≤ i
 hi : i < n
 le : w0.length ≤ w.length
 fd : ∀ j, j < n → j ≠ 1 → j ≠ 0 → w[j]? = w0[j]?
section
variable {n d0 : Nat} {w w' w0 : W} {A A' A1 : sT} {C : Con} {x x' : Wx} {σ : Sg} {P : D → W → Prop} {PL : List D → W → Prop} {PF : Fl → W → Prop} {PU : Unit → W → Prop} {PI : kL → W → Prop} {l : pP} {o o1 u : MO} {k : bN} {tS : Addr} {i h p : Nat} {m : Mo} {b : Int}
theorem St.kept (s : St n i m w0 w A x) (d : GK w' 1 0) (kk : Pc.Kept w w' 1 0) : St n i m w0 w' A x :=
 ⟨d, Kept.mod kk s.i2 s.mod, Kept.G2 kk s.n2 s.G2, s.n2, s.i2, s.hi, by rw [kk.1]; exact s.le, fun j h1 h2 h3 => by rw [kk.2 j h2 h3]; exact s.fd j h1 h2 h3⟩
theorem St.grow (s : St n i m w0 w A x) (d : GK w' 1 0) (g : uT w w' 1 0) : St n i m w0 w' A x :=
 ⟨d, uT.mod g s.i2 s.mod, qO.grow s.G2 s.n2 g, s.n2, s.i2, s.hi, cq s.le g.le, fun j h1 h2 h3 => by rw [g.at_ j (by have := s.G2.aDT; omega) h2 h3]; exact s.fd j h1 h2 h3⟩
theorem St.app (s : St n i m w0 w A x) (u : W) : St n i m w0 (w ++ u) A x := s.grow s.aGd.app ⟨by simp, fun i hi _ _ => aq hi⟩
theorem St.set {j : Nat} (s : St n i m w0 w A x) (hj : n ≤ j) (hw : World n (w.set j o) A' x') : St n i m w0 (w.set j o) A' x' :=
 ⟨s.aGd.set (by have := s.n2; omega) (by have := s.n2; omega), by unfold q7; rw [av (by have := s.hi; omega)]; exact s.mod, hw, s.n2, s.i2, s.hi, by rw [ck]; exact s.le, fun j' h1 h2 h3 => by rw [av (by omega)]; exact s.fd j' h1 h2 h3⟩
end
section
variable {n d0 : Nat} {w w' w0 : W} {A A' A1 : sT} {C : Con} {x x' : Wx} {σ : Sg} {P : D → W → Prop} {PL : List D → W → Prop} {PF : Fl → W → Prop} {PU : Unit → W → Prop} {PI : kL → W → Prop} {l : pP} {o o1 u : MO} {k : bN} {tS : Addr} {i h p : Nat} {m : Mo} {b : Int}
theorem YZ {a b : D} {r : Int} (h0 : 0 ≤ r) (h1 : r < 2) : ∃ y, atI [a, b] r = some y ∧ ((r = 0 ∧ y = a) ∨ (r = 1 ∧ y = b)) := by
 have : r = 0 ∨ r = 1 := by omega
 rcases this with rfl | rfl
 ·exact ⟨a, rfl, .inl ⟨rfl, rfl⟩⟩
 ·exact ⟨b, rfl, .inr ⟨rfl, rfl⟩⟩
end
section
variable {n : Nat} {w w' w0 : W} {A : sT} {x : Wx} {P : D → W → Prop} {i h p : Nat} {m : Mo} {b : Int} {s : yS} {σ : Sg}
theorem aCT {xs : List D} {lo hi : Option Int} {y : D} (h : y ∈ Pc.cutD xs lo hi) : y ∈ xs := by
 unfold Pc.cutD at h
 exact List.mem_of_mem_drop (List.mem_of_mem_take h)
theorem aBF {xs : List D} {lo hi : Option Int} : (Pc.cutD xs lo hi).length ≤ xs.length := by
 unfold Pc.cutD
 rw [List.length_take, List.length_drop]
 omega
theorem slL {xs : List D} {lo hi : Option Int} : mS (.lst xs) lo hi w = .ok (.lst (Pc.cutD xs lo hi)) w := rfl
end
abbrev SN := Nat → Nat → Nat → Int
structure RU where
 a : Nat
 s : Nat
 r : Nat
 rank : Int
section
variable {n : Nat} {w w' : W} {x : Wx} {σ : Sg} {P : D → W → Prop} {PF : Fl → W → Prop} {PU : Unit → W → Prop} {k : bN} {i h p f : Nat} {m : Mo} {b : Int} {s : yS} {ts : List RU} {kv : List (List Key × D)}
theorem tyL {r : Nat} {xs : List D} (e : w[r]? = some (.lst xs)) : TY (.ref r) w = some "list" := by simp only [TY, e]
end
section
variable {n B : Nat} {w w' : W} {x : Wx} {σ : Sg} {P : D → W → Prop} {PF : Fl → W → Prop} {PU : Unit → W → Prop} {PI : kL → W → Prop} {k : bN} {i h p f : Nat} {m : Mo} {b : Int} {s : yS} {ts : List RU} {kv : List (List Key × D)}
theorem uP {xs : List D} : T (iterM (.tup xs) w) PI = PI ⟨xs, always⟩ w := by unfold T; rfl
theorem RT {xs : List D} : T (iterM (.lst xs) w) PI = PI ⟨xs, always⟩ w := by unfold T; rfl
end
section
variable {n B : Nat} {w w' : W} {x : Wx} {σ : Sg} {P : D → W → Prop} {PF : Fl → W → Prop} {PU : Unit → W → Prop} {PI : kL → W → Prop} {k : bN} {i h p f : Nat} {m : Mo} {b : Int} {s : yS} {ts : List RU} {kv : List (List Key × D)}
theorem aHn {xs ys : List D} : T (zmM [.tup xs, .lst ys] w) PI = (xs.length = ys.length ∧ PI ⟨(xs.zip ys).map fun p => .tup [p.1, p.2], always⟩ w) := by
 by_cases c : xs.length = ys.length
 ·have : zmM [.tup xs, .lst ys] w = .ok ⟨(xs.zip ys).map fun p => .tup [p.1, p.2], always⟩ w := by simp only [zmM, c, ae]
  rw [this, bY]
  simp [c]
 ·have : zmM [.tup xs, .lst ys] w = .bad := by simp only [zmM, c, ab]
  rw [this, Y6]
  simp [c]
end
def keyD (a c r : Nat) : D := .tup [.int (a : Nat), .int (c : Nat), .int (r : Nat)]
structure rP (m : Mo) (h B : Nat) (x : Wx) : Prop where
 living : x.s.living.length = h ∧ ∀ v ∈ x.s.living, 0 ≤ v ∧ v ≤ 1
 parts : (x.s.parts.length : Int) = h + m.lV
 eK : x.s.eK.length = m.eD.length ∧ ∀ r ∈ x.s.eK, r.length = h
 lk : aFw x.lk
 b1 : x.lk.length ≤ B
 b2 : x.QF.length ≤ B
 b3 : x.s.zR.length ≤ B
section
variable {n d0 B : Nat} {w w' w0 : W} {A A' A1 : sT} {C : Con} {x x' : Wx} {σ : Sg} {P : D → W → Prop} {PL : List D → W → Prop} {PF : Fl → W → Prop} {PU : Unit → W → Prop} {PI : kL → W → Prop} {l : pP} {o o1 u : MO} {k : bN} {i h p f : Nat} {m : Mo} {b : Int} {kv : List (List Key × D)} {fa : SN}
theorem rP.le (o : MoB m h) (ok : rP m h B x) : x.s.parts.length ≤ 10 := by
 have h6 := o.eD.h6
 have ho := o.lV
 have := ok.parts
 omega
theorem rP.mono {B' : Nat} (ok : rP m h B x) (hB : B ≤ B') : rP m h B' x := ⟨ok.living, ok.parts, ok.eK, ok.lk, cq ok.b1 hB, cq ok.b2 hB, cq ok.b3 hB⟩
end
section
variable {n d0 B : Nat} {w w' w0 : W} {A A' A1 : sT} {C : Con} {x x' : Wx} {σ : Sg} {P : D → W → Prop} {PL : List D → W → Prop} {PF : Fl → W → Prop} {PU : Unit → W → Prop} {PI : kL → W → Prop} {l : pP} {o o1 u : MO} {k : bN} {i h p f : Nat} {m : Mo} {b : Int} {kv : List (List Key × D)} {fa : SN}
theorem zipIdx {α β : Type} {f : α → β → α} {ss : Nat → β} : ∀ {xs : List α}, (xs.mapIdx fun a x => if a < xs.length then f x (ss a) else x) = List.zipWith f xs ((List.range xs.length).map ss) := fun {xs} => by
 refine List.ext_getElem? fun j => ?_
 rw [List.getElem?_mapIdx, List.getElem?_zipWith, bz]
 by_cases c : j < xs.length
 ·rw [br c, List.getElem?_range c]
  simp [c]
 ·rw [List.getElem?_eq_none (by omega)]
  rfl
end
structure Bd where
 k : bN
 B : Addr
 S : Addr
def PV : List Str := [("self" : Str), ("address" : Str), ("house" : Str), ("role" : Str), ("rank" : Str), ("receiver" : Str)]
def Q8 (k : Bd) : MS :=
 (aI (dR (a8 (aD fN (aB 3) (eC (.str ("waits" : Str))))) (cS (cL "list" dA (bE k.B ("news_told" : Str) (aB 0)) (aA (bR (aA (aB 1) (aA (aB 2) (aA (eC (.str ("serves" : Str))) aE)))) aE))) aX)
 (aI (aT (bR (aA (eC (.str ("serves" : Str))) (aA (bE k.k.aH ("every" : Str) (bE k.B ("plan_here" : Str) (aB 0))) aE))) (dQ (aD aV (bE k.B ("stands_now" : Str) (aB 0)) (aB 1)) (aB 2)))
 (aI (aT (aK (nF k.k) 4 aN (aA (bE k.B ("plan_here" : Str) (aB 0)) (aA (bE k.B ("state_here" : Str) (aB 0)) (aA (aB 1) (aA (aB 2) aE))))) (aU 4))
 (gZ (dM (aK (tJ k.k) 3 aN (aA (bE k.B ("plan_here" : Str) (aB 0)) (aA (bE k.B ("state_here" : Str) (aB 0)) (aA (aB 2) aE))))) (aU 5) (cS (cL "list" dA (bE k.B ("letters_sent" : Str) (aB 0)) (aA (bR (aA (aB 1) (aA (aB 2) (aA (aB 5) (aA (aB 4) aE))))) aE)))))))
def O8 (k : Bd) : MF := bL (Q8 k) PV
def zS : List Str := [("self" : Str), ("address" : Str), ("row" : Str), ("house" : Str), ("role" : Str), ("clock" : Str)]
def zE (k : Bd) : MS :=
 (gZ (eT qL (aA (bE k.B ("stands_now" : Str) (aB 0)) aE)) (bX 2 (aJ (aU 1) (aJ (aU 2) bU))) (gZ (eT qL (aA (aR aDD (aA (aB 2) aE)) aE)) (bX 2 (aJ (aU 3) (aJ (bX 2 (aJ (aU 4) (aJ (aU 5) bU))) bU))) (dR (gG (a8 (aD qX (aB 4) (eC (.str ("rests" : Str))))) (a8 (aD NJ (aB 5) (eC (.int 1))))) (aT (bR (aA (aB 4) (aA (aD lO (aB 5) (eC (.int 1))) aE))) (dQ (aB 2) (aB 3))) (dR (a8 (aD qX (aB 4) (eC (.str ("rests" : Str))))) (cS (eS k.B ("send" : Str) (O8 k) 4 aN (aB 0) (aA (aB 1) (aA (aB 3) (aA (aB 4) aE))))) aX))))
def y3 (k : Bd) : MF := bL (zE k) zS
def UW : List Str := [("one" : Str), ("other" : Str), ("rank" : Str), ("number" : Str), ("other_rank" : Str), ("other_number" : Str)]
def TK (k : Bd) : MS :=
 (aI (aT (aB 0) (bX 2 (aJ (aU 2) (aJ (aU 3) bU))))
 (aI (aT (aB 1) (bX 2 (aJ (aU 4) (aJ (aU 5) bU))))
 (aY (eOr (aD NJ (aB 2) (aB 4)) (jC (aD fN (aB 2) (aB 4)) (aD O9 (aB 3) (aB 5)))))))
def T5 (k : Bd) : MF := bL (TK k) UW
def Q7 : List Str := [("self" : Str), ("address" : Str), ("sender" : Str), ("house" : Str), ("rank" : Str), ("role" : Str), ("clock" : Str), ("own" : Str), ("is_sender_ahead" : Str)]
def QW (k : Bd) : MS :=
 (aI (aT (aD aV (aD aV (bE k.B ("stands_now" : Str) (aB 0)) (aB 1)) (aB 3)) (bX 2 (aJ (aU 5) (aJ (aU 6) bU))))
 (aI (aT (aK (nF k.k) 4 aN (aA (bE k.B ("plan_here" : Str) (aB 0)) (aA (bE k.B ("state_here" : Str) (aB 0)) (aA (aB 1) (aA (aB 3) aE))))) (aU 7))
 (aI (aT (aK (T5 k) 2 aN (aA (bR (aA (aB 4) (aA (aB 2) aE))) (aA (bR (aA (aB 7) (aA (aB 3) aE))) aE))) (aU 8))
 (dR (a8 (aD fN (aB 5) (eC (.str ("serves" : Str))))) (dR (gG (a8 (aD NJ (aB 4) (eC (.int 0)))) (eQ (aB 8))) (aI (aT (bR (aA (eC (.str ("waits" : Str))) (aA (aK (pT k.k) 4 aN (aA (bE k.B ("plan_here" : Str) (aB 0)) (aA (bE k.B ("state_here" : Str) (aB 0)) (aA (aB 1) (aA (aB 3) aE))))) aE))) (dQ (aD aV (bE k.B ("stands_now" : Str) (aB 0)) (aB 1)) (aB 3)))
 (cS (cL "list" dA (bE k.B ("news_told" : Str) (aB 0)) (aA (bR (aA (aB 1) (aA (aB 3) (aA (eC (.str ("yields" : Str))) aE)))) aE)))) aX) (dR (a8 (aD fN (aB 4) (eC (.int 0)))) (aT (bR (aA (aB 5) (aA (aR min2 (aA (aB 6) (aA (aK (XO k.k) 2 aN (aA (bE k.B ("plan_here" : Str) (aB 0)) (aA (aB 7) aE))) aE))) aE))) (dQ (aD aV (bE k.B ("stands_now" : Str) (aB 0)) (aB 1)) (aB 3))) (dR (h8 (eQ (aB 8)) (cN (eQ (bE k.k.aH ("takes" : Str) (bE k.B ("plan_here" : Str) (aB 0)))))) (aT (bR (aA (aB 5) (aA (aR max2 (aA (aB 6) (aA (aK (JL k.k) 2 aN (aA (bE k.B ("plan_here" : Str) (aB 0)) (aA (aB 7) aE))) aE))) aE))) (dQ (aD aV (bE k.B ("stands_now" : Str) (aB 0)) (aB 1)) (aB 3))) aX))))))
def RR (k : Bd) : MF := bL (QW k) Q7
def HI : List Str := [("self" : Str), ("address" : Str), ("sender" : Str), ("receiver" : Str), ("rank" : Str), ("living" : Str), ("parts" : Str), ("others" : Str)]
def IE (k : Bd) : MS :=
 (aI (aT (bE k.B ("state_here" : Str) (aB 0)) (U4 2 (aJ (aU 5) (aJ (aU 6) (aJ (aU 7) bU)))))
 (aI (dR (a8 (aD qX (aD aV (aB 6) (aB 2)) (aD aV (aB 6) (aB 3)))) (aY (eC .non)) aX)
 (dR (a8 (aD geM (aB 3) (aR c7 (aA (aB 5) aE)))) (dR (a8 (aD NJ (aB 4) (eC (.int 0)))) (aT (aB 2) (dQ (aD aV (bE k.B ("tables_now" : Str) (aB 0)) (aD lO (aB 3) (aR c7 (aA (aB 5) aE)))) (aB 1))) aX) (dR (a8 (aD fN (aD aV (aB 5) (aB 3)) (eC (.int 1)))) (cS (eS k.B ("hear" : Str) (RR k) 5 aN (aB 0) (aA (aB 1) (aA (aB 2) (aA (aB 3) (aA (aB 4) aE)))))) aX))))
def IB (k : Bd) : MF := bL (IE k) HI
def GJ : List Str := [("self" : Str), ("letter" : Str), ("left" : Str), ("rest" : Str)]
def GZ (k : Bd) : MS :=
 (aI (aT (aB 1) (U4 1 (aJ (aU 2) (aJ (aU 3) bU))))
 (dR (a8 (aD NJ (aB 2) (eC (.int 1)))) (cS (cL "list" dA (bE k.B ("still_under_way" : Str) (aB 0)) (aA (aD bH (bR (aA (aD lO (aB 2) (eC (.int 1))) aE)) (aR dZ (aA (aB 3) aE))) aE))) (cS (eS k.B ("arrive" : Str) (IB k) 5 aN (aB 0) (aA (aD aV (aB 3) (eC (.int 0))) (aA (aD aV (aB 3) (eC (.int 1))) (aA (aD aV (aB 3) (eC (.int 2))) (aA (aD aV (aB 3) (eC (.int 3))) aE))))))))
def FT (k : Bd) : MF := bL (GZ k) GJ
def NN : List Str := [("self" : Str), ("plan" : Str), ("state" : Str), ("many_old" : Str), ("living" : Str), ("parts" : Str), ("downs" : Str), ("ranks" : Str), ("stands" : Str), ("letters" : Str), ("lacks" : Str), ("tables" : Str), ("asks" : Str), ("letter" : Str), ("row" : Str)]
def Q6 (k : Bd) : MS :=
 (aI (aT (aB 2) (bX 9 (aJ (aU 4) (aJ (aU 5) (aJ (aU 6) (aJ (aU 7) (aJ (aU 8) (aJ (aU 9) (aJ (aU 10) (aJ (aU 11) (aJ (aU 12) bU)))))))))))
 (aI (cG k.B ("plan_here" : Str) (aB 0) (aB 1))
 (aI (cG k.B ("state_here" : Str) (aB 0) (aB 2))
 (aI (cG k.B ("stands_now" : Str) (aB 0) (bQ (dM (aB 8)) [14] (aU 14) bS (aR E5 (aA (aB 14) aE))))
 (aI (cG k.B ("tables_now" : Str) (aB 0) (bQ (dM (aB 11)) [14] (aU 14) bS (aR E5 (aA (aB 14) aE))))
 (aI (cG k.B ("still_under_way" : Str) (aB 0) (eNew aE))
 (aI (cG k.B ("letters_sent" : Str) (aB 0) (SK (dM (qF mS (aB 9) (cR (aB 3)) dB)) [13] (aU 13) bS (qF mS (aB 13) (cR (eC (.int 1))) dB)))
 (aI (cG k.B ("news_told" : Str) (aB 0) (eNew aE))
 (aI (gZ (dM (qF mS (aB 9) dB (cR (aB 3)))) (aU 13) (cS (eS k.B ("move_on" : Str) (FT k) 2 aN (aB 0) (aA (aB 13) aE))))
 (cS (eS k.B ("end_clocks" : Str) (y3 k) 1 aN (aB 0) aE)))))))))))
def QO (k : Bd) : MF := bL (Q6 k) NN
def DJ : List Str := [("self" : Str), ("lacks" : Str), ("fates" : Str), ("living" : Str), ("parts" : Str), ("downs" : Str), ("ranks" : Str), ("stands" : Str), ("letters" : Str), ("others" : Str), ("tables" : Str), ("asks" : Str), ("row" : Str)]
def DH (k : Bd) : MS :=
 (aI (aT (bE k.B ("state_here" : Str) (aB 0)) (bX 9 (aJ (aU 3) (aJ (aU 4) (aJ (aU 5) (aJ (aU 6) (aJ (aU 7) (aJ (aU 8) (aJ (aU 9) (aJ (aU 10) (aJ (aU 11) bU)))))))))))
 (aI (aT (aR dZ (aA (bQ (dM (bE k.B ("stands_now" : Str) (aB 0))) [12] (aU 12) bS (aR dZ (aA (aB 12) aE))) aE)) (aU 7))
 (aI (aT (aD bH (aR dZ (aA (bE k.B ("still_under_way" : Str) (aB 0)) aE)) (aK (zC k.k) 2 aN (aA (bE k.B ("letters_sent" : Str) (aB 0)) (aA (aB 2) aE)))) (aU 8))
 (aI (aT (aR dZ (aA (bQ (dM (bE k.B ("tables_now" : Str) (aB 0))) [12] (aU 12) bS (aR dZ (aA (aB 12) aE))) aE)) (aU 10))
 (aY (bR (aA (aB 3) (aA (aB 4) (aA (aB 5) (aA (aB 6) (aA (aB 7) (aA (aB 8) (aA (aK (E8 k.k) 3 aN (aA (aB 1) (aA (bE k.B ("letters_sent" : Str) (aB 0)) (aA (aB 2) aE)))) (aA (aB 10) (aA (aB 11) aE)))))))))))))))
def C6 (k : Bd) : MF := bL (DH k) DJ
def W3 : List Str := [("plan" : Str), ("lacks" : Str), ("sent_here" : Str), ("ahead" : Str), ("thing" : Str), ("address" : Str), ("sender" : Str), ("receiver" : Str), ("fate" : Str), ("part" : Str)]
def X7 (k : Bd) : MS :=
 (aI (dR (h8 (cN (eQ (aR (jD m2) (aA (aB 4) (aA (eC (.ty "tuple")) aE))))) (h8 (a8 (aD qX (aR c7 (aA (aB 4) aE)) (eC (.int 4)))) (cN (eQ (aR allM (aA (bQ (dM (aB 4)) [9] (aU 9) bS (aK (iQ k.k) 1 aN (aA (aB 9) aE))) aE)))))) (aY (eC (.bl false))) aX)
 (aI (aT (aB 4) (bX 4 (aJ (aU 5) (aJ (aU 6) (aJ (aU 7) (aJ (aU 8) bU))))))
 (aI (dR (h8 (a8 (aD aAd (qF mS (aB 4) dB (cR (AQ sO (eC (.int 1))))) (aB 2))) (gG (a8 (aD qX (aB 3) (bR aE))) (a8 (aD leA (qF mS (aB 4) dB (cR (AQ sO (eC (.int 1))))) (qF mS (aB 3) dB (cR (AQ sO (eC (.int 1))))))))) (aY (eC (.bl false))) aX)
 (aI (dR (a8 (aD fN (aB 8) (eC (.int 0)))) (aY (aD O9 (aD aV (aD aV (aD aV (aB 1) (aB 5)) (aB 6)) (aB 7)) (bE k.k.aH ("lost" : Str) (aB 0)))) aX)
 (aY (WA HH HH (eC (.int 1)) (aB 8) (bE k.k.aH ("slow" : Str) (aB 0))))))))
def YE (k : Bd) : MF := bL (X7 k) W3
def SF : List Str := [("plan" : Str), ("lacks" : Str), ("sent_here" : Str), ("fates" : Str), ("found" : Str), ("ahead" : Str), ("place" : Str), ("thing" : Str)]
def R1 (k : Bd) : MS :=
 (aI (aT rH (aU 4))
 (aI (aT (bR aE) (aU 5))
 (aI (gZ (eT G1 (aA (aB 3) aE)) (bX 2 (aJ (aU 6) (aJ (aU 7) bU))) (aI (dR (cN (eQ (aK (YE k) 5 aN (aA (aB 0) (aA (aB 1) (aA (aB 2) (aA (aB 5) (aA (aB 7) aE)))))))) DD aX)
 (aI (aT (aD aV (aB 7) (AQ sO (eC (.int 1)))) (dQ (aB 4) (qF mS (aB 7) dB (cR (AQ sO (eC (.int 1)))))))
 (aT (aB 7) (aU 5)))))
 (aY (aB 4)))))
def S8 (k : Bd) : MF := bL (R1 k) SF
def UK : List Str := [("plan" : Str), ("deed" : Str), ("address" : Str)]
def SU (k : Bd) : MS :=
 (aI (dR (a8 (aD aAd (aD aV (aB 1) (eC (.int 0))) (bR (aA (eC (.str ("fall" : Str))) (aA (eC (.str ("stop" : Str))) aE))))) (aY (bR aE)) aX)
 (aY (aR dZ (aA (bQ (eT l9 (aA (aK (eP k.k) 1 aN (aA (aB 0) aE)) aE)) [2] (aU 2) bS (bR (aA (aB 2) (aA (aD aV (aB 1) (eC (.int 1))) (aA (eC (.str ("rests" : Str))) aE))))) aE))))
def TC (k : Bd) : MF := bL (SU k) UK
def K9 : List Str := [("plan" : Str), ("state" : Str), ("deeds" : Str), ("news" : Str), ("place" : Str), ("deed" : Str)]
def M7 (k : Bd) : MS :=
 (aI (aT (eNew aE) (aU 3))
 (aI (gZ (eT G1 (aA (aB 2) aE)) (bX 2 (aJ (aU 4) (aJ (aU 5) bU))) (aI (dR (cN (eQ (aK (WS k.k k.S) 3 aN (aA (aB 0) (aA (aB 1) (aA (aB 5) aE)))))) DD aX)
 (aI (aT (aK (OJ k.k) 4 aN (aA (aB 0) (aA (aB 1) (aA (aB 5) (aA rH aE))))) (aU 1))
 (cS (cL "list" aCa (aB 3) (aA (aK (TC k) 2 aN (aA (aB 0) (aA (aB 5) aE))) aE))))))
 (aY (bR (aA (aB 1) (aA (aR dZ (aA (aB 3) aE)) aE))))))
def MX (k : Bd) : MF := bL (M7 k) K9
def aAe : List Str := [("plan" : Str), ("state" : Str), ("deeds" : Str), ("fates" : Str), ("after" : Str), ("news" : Str), ("beat" : Str), ("sent_here" : Str), ("known" : Str), ("letter" : Str)]
def aAq (k : Bd) : MS :=
 (aI (aT (aK (MX k) 3 aN (aA (aB 0) (aA (aB 1) (aA (aB 2) aE)))) (bX 2 (aJ (aU 4) (aJ (aU 5) bU))))
 (aI (aT (OY k.B (QO k) 3 aN (aA (aB 0) (aA (aB 4) (aA (aR c7 (aA (aD aV (aB 1) (eC (.int 5))) aE)) aE)))) (aU 6))
 (aI (aT (aHg (dM (bE k.B ("letters_sent" : Str) (aB 6))) [9] (aU 9) bS (qF mS (aB 9) dB (cR (AQ sO (eC (.int 1))))) (eC (.bl true))) (aU 7))
 (aI (aT (aK (S8 k) 4 aN (aA (aB 0) (aA (aD aV (aB 1) (eC (.int 6))) (aA (aB 7) (aA (aB 3) aE))))) (aU 8))
 (aY (bR (aA (aD bH (aB 5) (aR dZ (aA (bE k.B ("news_told" : Str) (aB 6)) aE))) (aA (eS k.B ("state_by" : Str) (C6 k) 3 aN (aB 6) (aA (aD aV (aB 1) (eC (.int 6))) (aA (aB 8) aE))) aE))))))))
def OD (k : Bd) : MF := bL (aAq k) aAe
abbrev jK (k : Bd) : List D → List D → List D := fun xs zs => kJ [(0, 0), (0, 1), (1, 0), (1, 1)] xs zs []
def HS : List Str := [("_law_one" : Str), ("_law_other" : Str)]
def HK (k : bN) : MS :=
 (aY (eOr (aD NJ (aD aV (aB 0) (eC (.int 0))) (aD aV (aB 1) (eC (.int 0)))) (jC (aD fN (aD aV (aB 0) (eC (.int 0))) (aD aV (aB 1) (eC (.int 0)))) (aD O9 (aD aV (aB 0) (eC (.int 1))) (aD aV (aB 1) (eC (.int 1)))))))
def xB (k : bN) : MF := bL (HK k) HS
def FN : List Str := [("_law_model_here" : Str), ("_law_world_here" : Str), ("_law_letter" : Str), ("_law_news" : Str), ("_law_left" : Str), ("_law_a" : Str), ("_law_s" : Str), ("_law_r" : Str), ("_law_rank_here" : Str), ("_law_many" : Str), ("_law_stand" : Str), ("_law_own" : Str)]
def EZ (k : bN) : MS :=
 (aI (aT (aB 2) (bX 5 (aJ (aU 4) (aJ (aU 5) (aJ (aU 6) (aJ (aU 7) (aJ (aU 8) bU)))))))
 (aI (aT (aR c7 (aA (aD aV (aB 1) (eC (.str ("living" : Str)))) aE)) (aU 9))
 (aI (dR (h8 (a8 (aD qX (aD aV (aD aV (aB 1) (eC (.str ("parts" : Str)))) (aB 6)) (aD aV (aD aV (aB 1) (eC (.str ("parts" : Str)))) (aB 7)))) (gG (a8 (aD O9 (aB 7) (aB 9))) (a8 (aD fN (aD aV (aD aV (aB 1) (eC (.str ("living" : Str)))) (aB 7)) (eC (.int 0)))))) (aY (eC .non)) aX)
 (aI (dR (a8 (aD geM (aB 7) (aB 9))) (aI (dR (a8 (aD NJ (aB 8) (eC (.int 0)))) (aT (aB 6) (dQ (aD aV (aD aV (aB 1) (eC (.str ("tables" : Str)))) (aD lO (aB 7) (aB 9))) (aB 5))) aX)
 (aY (eC .non))) aX)
 (aI (LJ 10 11 (aA (aD aV (aD aV (aD aV (aB 1) (eC (.str ("stands" : Str)))) (aB 5)) (aB 7)) (aA (bR (aA (aK (lP k) 4 aN (aA (aB 0) (aA (aB 1) (aA (aB 5) (aA (aB 7) aE))))) (aA (aB 7) aE))) aE)))
 (dR (gG (a8 (aD fN (aD aV (aB 10) (eC (.int 0))) (eC (.str ("serves" : Str))))) (gG (a8 (aD NJ (aB 8) (eC (.int 0)))) (eQ (aK (xB k) 2 aN (aA (bR (aA (aB 8) (aA (aB 6) aE))) (aA (aB 11) aE)))))) (aI (aT (aK (rE k) 4 aN (aA (aB 0) (aA (aB 1) (aA (aB 5) (aA (aB 7) aE))))) (dQ (aD aV (aD aV (aB 1) (eC (.str ("stands" : Str)))) (aB 5)) (aB 7)))
 (cS (cL "list" dA (aB 3) (aA (bR (aA (aB 5) (aA (aB 7) (aA (eC (.str ("yields" : Str))) aE)))) aE)))) (dR (gG (a8 (aD fN (aD aV (aB 10) (eC (.int 0))) (eC (.str ("waits" : Str))))) (a8 (aD fN (aB 8) (eC (.int 0))))) (aT (aR min2 (aA (aD aV (aB 10) (eC (.int 1))) (aA (aD bH (eC (.int 2)) (aD mulM (aD aV (aB 0) (eC (.str ("gap" : Str)))) (aD lO (eC (.int 12)) (aD aV (aB 11) (eC (.int 0)))))) aE))) (dQ (aB 10) (eC (.int 1)))) (dR (gG (a8 (aD fN (aD aV (aB 10) (eC (.int 0))) (eC (.str ("waits" : Str))))) (h8 (cN (eQ (aD aV (aB 0) (eC (.str ("takes" : Str)))))) (eQ (aK (xB k) 2 aN (aA (bR (aA (aB 8) (aA (aB 6) aE))) (aA (aB 11) aE)))))) (aT (aR max2 (aA (aD aV (aB 10) (eC (.int 1))) (aA (aK (BW k) 2 aN (aA (aB 0) (aA (aD aV (aB 11) (eC (.int 0))) aE))) aE))) (dQ (aB 10) (eC (.int 1)))) aX))))))))
def FZ (k : bN) : MF := bL (EZ k) FN
def NW : List Str := [("_law_model_here" : Str), ("_law_world_here" : Str), ("_law_acts" : Str), ("_law_lots" : Str), ("_law_news" : Str), ("_law_letters" : Str), ("_law_deed_here" : Str), ("_law_one" : Str), ("_law_a" : Str), ("_law_h" : Str), ("_law_role" : Str), ("_law_clock" : Str)]
def QM (k : bN) : MS :=
 (aI (aT (bR (aA (eNew aE) (aA (eNew aE) aE))) (bX 2 (aJ (aU 4) (aJ (dQ (aB 1) (eC (.str ("sent" : Str)))) bU))))
 (aI (aT (bR (aA (bQ (dM (aD aV (aB 1) (eC (.str ("under" : Str))))) [7] (aU 7) bS (aD bH (bR (aA (aD lO (aD aV (aB 7) (eC (.int 0))) (eC (.int 1))) aE)) (qF mS (aB 7) (cR (eC (.int 1))) dB))) (aA (eNew aE) aE))) (bX 2 (aJ (aU 5) (aJ (dQ (aB 1) (eC (.str ("under" : Str)))) bU))))
 (aI (gZ (dM (aB 2)) (aU 6) (cS (aK (Q4 k) 5 aN (aA (aB 0) (aA (aB 1) (aA (aB 6) (aA (aB 3) (aA (aB 4) aE))))))))
 (aI (aT (aD D8 (bQ (dM (aB 5)) [7] (aU 7) (a8 (aD NJ (aD aV (aB 7) (eC (.int 0))) (eC (.int 0)))) (aB 7)) (aD aV (aB 1) (eC (.str ("under" : Str))))) (dQ (aB 1) (eC (.str ("under" : Str)))))
 (aI (gZ (dM (aB 5)) (aU 7) (dR (a8 (aD fN (aD aV (aB 7) (eC (.int 0))) (eC (.int 0)))) (cS (aK (FZ k) 4 aN (aA (aB 0) (aA (aB 1) (aA (aB 7) (aA (aB 4) aE)))))) aX))
 (aI (gZ (eT l9 (aA (aR c7 (aA (aD aV (aB 0) (eC (.str ("ranks" : Str)))) aE)) aE)) (aU 8) (gZ (eT l9 (aA (aR c7 (aA (aD aV (aB 1) (eC (.str ("living" : Str)))) aE)) aE)) (aU 9) (aI (aT (aD aV (aD aV (aD aV (aB 1) (eC (.str ("stands" : Str)))) (aB 8)) (aB 9)) (aDC 2 (aJ (aU 10) (aJ (aU 11) bU))))
 (aI (aT (eNew (aA (aB 10) (aA (aD lO (aB 11) (aR BI (aA (aD qX (aB 10) (eC (.str ("rests" : Str)))) aE))) aE))) (dQ (aD aV (aD aV (aB 1) (eC (.str ("stands" : Str)))) (aB 8)) (aB 9)))
 (dR (gG (a8 (aD qX (aB 10) (eC (.str ("rests" : Str))))) (a8 (aD fN (aB 11) (eC (.int 1))))) (aI (dR (a8 (aD fN (aB 10) (eC (.str ("waits" : Str))))) (cS (cL "list" dA (aB 4) (aA (bR (aA (aB 8) (aA (aB 9) (aA (eC (.str ("serves" : Str))) aE)))) aE))) aX)
 (aI (aT (eNew (aA (eC (.str ("serves" : Str))) (aA (aD aV (aB 0) (eC (.str ("every" : Str)))) aE))) (dQ (aD aV (aD aV (aB 1) (eC (.str ("stands" : Str)))) (aB 8)) (aB 9)))
 (cS (aK (CW k) 5 aN (aA (aB 1) (aA (aB 8) (aA (aB 9) (aA (aK (lP k) 4 aN (aA (aB 0) (aA (aB 1) (aA (aB 8) (aA (aB 9) aE))))) (aA (aB 3) aE))))))))) aX)))))
 (aY (aR dZ (aA (aB 4) aE)))))))))
def B7 (k : bN) : MF := bL (QM k) NW
structure Bt where
 eK : List (List (Role × Int))
 tables : List (List Int)
 under : List DA
 QF : List RU
 news : List D
def nwD (a c : Nat) (z : Str) : D := .tup [.int (a : Nat), .int (c : Nat), .str z]
def aGf (y : Bt) (a c : Nat) : Role × Int := (y.eK.getD a []).getD c (.rests, 0)
section
variable {n : Nat} {w w' : W} {A : sT} {x : Wx} {y : Bt} {σ : Sg} {P : D → W → Prop} {PF : Fl → W → Prop} {PU : Unit → W → Prop} {PI : kL → W → Prop} {k : Bd} {cB : Addr} {i h p : Nat} {m : Mo} {b : Int} {s : yS} {l : pP} {o o1 : MO}
theorem rF {C : Addr} {nm : Str} {mf : MF} {j : Nat} {gd : List D → List D → List D} {me : ME} {ma : MA} : T (eS C nm mf j gd me ma σ w) P = T (me σ w) fun x w1 => match oH C nm x w1 with
  | some i => T (ma σ w1) fun xs w2 => xs.length + 1 = j ∧ T (mf (gd (.ref i :: xs) []) w2) P
  | none => False := by
 unfold eS
 simp only [bC]
 congr 1; funext x w1
 cases oH C nm x w1 with
 | none => simp only [Y6]
 | some i => simp only [c5, bC]
theorem aAn {C : Addr} {nm : Str} {i : Nat} {fs : List (Str × D)} (h : w[i]? = some (.ins C fs)) (e : fs.lookup nm = none) : oH C nm (.ref i) w = some i := by
 unfold oH
 simp only [h, e, and_self, ae]
end
def aFY (l : DA) : RU := ⟨l.a.toNat, l.s.toNat, l.r.toNat, l.rank⟩
def bt0 (s : yS) (j : Nat) : Bt := ⟨s.eK, s.tables, [], (s.zR.drop j).map aFY, []⟩
section
variable {n B0 : Nat} {w w' : W} {A : sT} {x : Wx} {y y' : Bt} {σ : Sg} {P : D → W → Prop} {PL : List D → W → Prop} {PF : Fl → W → Prop} {PU : Unit → W → Prop} {PI : kL → W → Prop} {k : Bd} {cB : Addr} {i h p : Nat} {m : Mo} {b : Int} {s : yS} {l : pP} {o o1 : MO}
theorem aCL {m : MF} {C : Addr} {n : Nat} {gd : List D → List D → List D} {ma : MA} : T (OY C m n gd ma σ w) P = T (ma σ w) fun xs w1 => xs.length = n ∧ T (qK m C (fun s => gd (s ++ xs) []) w1) P := by
 unfold OY
 simp only [bC, c5]
theorem ins_get {r : List MO} {o : MO} : (w ++ (o :: r))[w.length]? = some o := by rw [bf (az _), Nat.sub_self]; rfl
end
def Pos (y : Bt) : Prop := ∀ a c, (aGf y a c).1 ≠ .rests → 1 ≤ (aGf y a c).2
section
variable {n B0 : Nat} {w w' w0 : W} {A A' A0 : sT} {x X X0 : Wx} {y y' : Bt} {σ : Sg} {P : D → W → Prop} {PL : List D → W → Prop} {PF : Fl → W → Prop} {PU : Unit → W → Prop} {PI : kL → W → Prop} {k : bN} {i h p f q news : Nat} {m : Mo} {b : Int} {s s1 s2 : yS} {l : DA} {o o1 : MO} {kv : List (List Key × D)} {nw : List D} {fa : SN} {ts t1 t2 : List RU} {ls : List DA} {ds : List sM}
theorem aDj {a c : D} {xs zs : List D} (h1 : C8 a w = some xs) (h2 : C8 c w = some zs) : T (D8 a c w) P = (xs.length + zs.length ≤ sizeLine ∧ P (.ref w.length) (w ++ [.lst (xs ++ zs)])) := by
 simp only [D8, h1, h2]
 by_cases c : xs.length + zs.length ≤ sizeLine
 ·rw [if_pos c, bY]; simp [c]
 ·rw [if_neg c, Y6]; simp [c]
end
def iC : List Str := [("_law_model_here" : Str), ("_law_own_plan" : Str), ("_law_world_here" : Str), ("_law_acts" : Str), ("_law_lots" : Str), ("_law_state_here" : Str), ("_law_kept" : Str), ("_law_found" : Str), ("_law_news" : Str)]
def kF (k : Bd) : MS :=
 (aI (aT (aK (zU k.k) 2 aN (aA (aB 0) (aA (aB 2) aE))) (aU 5))
 (aI (aT (aR nS (aA (bR (aA (aB 5) (aA (aB 3) (aA (aB 4) aE)))) aE)) (aU 6))
 (aI (aT (yM (OD k) 2 2 (jK k) (aA (aB 1) (aA (aB 5) aE)) (aA (aB 3) (aA (aB 4) aE))) (aU 7))
 (aI (aT (aK (B7 k.k) 4 aN (aA (aB 0) (aA (aB 2) (aA (aB 3) (aA (aK (oW k.k) 1 aN (aA (aB 4) aE)) aE))))) (aU 8))
 (aY (jC (aD fN (aR nS (aA (aB 7) aE)) (aR nS (aA (bR (aA (aB 8) (aA (aK (zU k.k) 2 aN (aA (aB 0) (aA (aB 2) aE))) aE))) aE))) (aD fN (aR nS (aA (bR (aA (aB 5) (aA (aB 3) (aA (aB 4) aE)))) aE)) (aB 6))))))))
def j8 (k : Bd) : MF := bL (kF k) iC
section
variable {n B0 Q : Nat} {w w' w0 : W} {A A' A0 : sT} {x X X0 e : Wx} {y y' z : Bt} {P : D → W → Prop} {kb : Bd} {k : bN} {i h p f q news : Nat} {m : Mo} {b zX : Int} {s s1 s2 : yS} {l : DA} {o o1 : MO} {kv : List (List Key × D)} {nw : List D} {fa : SN} {t : RU} {ts t1 t2 ls : List RU} {L : List DA} {ds : List sM}
theorem iE {v : Int} (h0 : -1000 ≤ v) (h1 : v ≤ 1000) : v.natAbs < 10 ^ 40 := by
 have : (1001 : Nat) ≤ 10 ^ 40 := by decide
 omega
theorem zG {v : Int} (h0 : -1000 ≤ v) (h1 : v ≤ 1000) : eA 0 6 (.int v) := (eA.int (iE h0 h1)).mono (az _) (by omega)
theorem aF8 : cM 0 6 [] := cM.nil.mono (az _) (by omega)
def aF9 (d : D) : Prop := ∃ (a c : Nat) (z : Str), (a ≤ 100 ∧ c ≤ 100) ∧ (z = ("rests" : Str) ∨ z = ("yields" : Str) ∨ z = ("serves" : Str)) ∧ d = nwD a c z
end
def Tells (ds : List D) : Prop := ∀ d ∈ ds, aF9 d
open PySem.W (dataLe)
section
variable {n B0 Q : Nat} {w w' w0 : W} {A A' A0 : sT} {x X X0 e : Wx} {y y' z : Bt} {σ : Sg} {P : D → W → Prop} {PL : List D → W → Prop} {kb : Bd} {k : bN} {i h p f q news : Nat} {m : Mo} {b zX : Int} {s s1 s2 : yS} {l : DA} {o o1 : MO} {kv : List (List Key × D)} {nw : List D} {fa : SN} {t : RU} {ts t1 t2 ls : List RU} {L : List DA} {S : List D} {ds : List sM}
theorem WQ {us : List (Int × Int × Int)} (h : us.length ≤ 1000) : QP (us.map cI) w = some ((us.mergeSort GN).map cI) := by
 unfold QP
 rw [W4, if_pos]
 refine ⟨?_, ?_, by rw [ao, sizeLine_eq]; omega⟩
 ·rw [bj]
  intro d hd
  obtain ⟨t, _, rfl⟩ := bx.mp hd
  rfl
 ·have e : (us.map cI).map (K8 w) = us.map fun t => .tuple [.int t.1, .int t.2.1, .int t.2.2] := by rw [List.map_map]; rfl
  rw [e]
  unfold j3
  simp only [aj, Bool.or_eq_true, bj]
  refine ⟨⟨fun p hp q hq => ?_, .inl fun p hp => ?_⟩, fun p hp => ?_⟩
  ·obtain ⟨t, _, rfl⟩ := bx.mp hp
   obtain ⟨u, _, rfl⟩ := bx.mp hq
   simp [PySem.W.alike, PySem.W.alikeAll]
  ·obtain ⟨t, _, rfl⟩ := bx.mp hp
   rfl
  ·obtain ⟨t, _, rfl⟩ := bx.mp hp
   simp [PyData.depth, PyData.depthAll]
end
section
variable {n B0 Q : Nat} {w w' : W} {A A' : sT} {x : Wx} {P : D → W → Prop} {kb : Bd} {k : bN} {i h p f : Nat} {m : Mo} {b : Int} {s : yS} {ls : List RU} {ds : List sM}
theorem RQ {d : D} {q : PyData} (e : d.py w = some q) (hf : YH q) : yR d d w = some true := by
 have h1 := hf.shaped
 unfold SeqAt.shaped at h1
 rw [aDe e e hf hf, SeqAt.eqv_refl q (Bool.and_eq_true_iff.mp h1).1]
end
section
variable {n B0 Q : Nat} {w w' : W} {A A' : sT} {x : Wx} {y : Bt} {P : D → W → Prop} {kb : Bd} {k : bN} {i h p f : Nat} {m : Mo} {b : Int} {s : yS} {ls : List RU} {ds : List sM}
theorem UH {us : List (Int × Int × Int)} (hl : us.length ≤ 1000) : T (lC [.lst (us.map cI)] w) P = P (.lst ((us.mergeSort GN).map cI)) w := by
 have : lC [.lst (us.map cI)] w = .ok (.lst ((us.mergeSort GN).map cI)) w := by
  have l : xD (.lst (us.map cI)) w = some (us.map cI) := rfl
  simp only [lC, l, Option.bind_some, WQ (w := w) hl]
 rw [this, bY]
end
open PySem.W (dataLe)
abbrev Qd := Int × Int × Int × Int
def l4 (t : Qd) : List Int := [t.1, t.2.1, t.2.2.1, t.2.2.2]
def aGb (q : Role × Int) : Bool := decide (q.1 = .aAS)
structure Nd where
 b : Bd
 N : Addr
def fM : List Str := [("self" : Str), ("numbers" : Str)]
def gH (k : Nd) : MS :=
 (aI (aT (bR (aA (bE k.b.k.aH ("every" : Str) (aB 0)) (aA (bE k.b.k.aH ("lost" : Str) (aB 0)) (aA (bE k.b.k.aH ("slow" : Str) (aB 0)) (aA (bE k.b.k.aH ("bears" : Str) (aB 0)) (aA (bE k.b.k.aH ("gap" : Str) (aB 0)) (aA (bE k.b.k.aH ("hold" : Str) (aB 0)) aE))))))) (aU 1))
 (aY (aD bH (aD bH (bR (aA (bE k.b.k.aH ("ranks" : Str) (aB 0)) aE)) (aB 1)) (bR (aA (bE k.b.k.aH ("takes" : Str) (aB 0)) (aA (bE k.b.k.aH ("ties" : Str) (aB 0)) (aA (bE k.b.k.aH ("hosts" : Str) (aB 0)) aE)))))))
def c8 (k : Nd) : MF := bL (gH k) fM
theorem FW (x0 : D) : begin fM [x0] = [some x0, none] := rfl
def kO : List Str := [("self" : Str), ("other" : Str)]
def m7 (k : Nd) : MS :=
 (aY (jC (aR (jD (kcI k.b.k.aH)) (aA (aB 1) (aA (eC (.con k.b.k.aH)) aE))) (aD fN (eS k.b.k.aH ("fields" : Str) (c8 k) 1 aN (aB 0) aE) (eS k.b.k.aH ("fields" : Str) (c8 k) 1 aN (aB 1) aE))))
def kY (k : Nd) : MF := bL (m7 k) kO
theorem SO (x0 x1 : D) : begin kO [x0, x1] = [some x0, some x1] := rfl
def PH : List Str := [("self" : Str)]
def RS (k : Nd) : MS :=
 (aY (aD aV (bE k.N ("states_kept" : Str) (aB 0)) (AQ sO (eC (.int 1)))))
def O0 (k : Nd) : MF := bL (RS k) PH
def UI : List Str := [("self" : Str), ("deeds" : Str), ("fates" : Str), ("told" : Str), ("state" : Str)]
def UU (k : Nd) : MS :=
 (aI (aDJ k.N ("beats_begun" : Str) (aB 0) (eC (.int 1)))
 (aI (aG3 (aI (aT (yM (OD k.b) 2 2 (jK k.b) (aA (bE k.N ("plan" : Str) (aB 0)) (aA (eS k.N ("state" : Str) (O0 k) 1 aN (aB 0) aE) aE)) (aA (aB 1) (aA (aB 2) aE))) (bX 2 (aJ (aU 3) (aJ (aU 4) bU))))
 (aI (cS (cL "list" dA (bE k.N ("states_kept" : Str) (aB 0)) (aA (aB 4) aE)))
 (cS (cL "list" dA (bE k.N ("news_kept" : Str) (aB 0)) (aA (aB 3) aE))))) (aDJ k.N ("beats_left" : Str) (aB 0) (eC (.int 1))))
 (aY (aB 3))))
def SY (k : Nd) : MF := bL (UU k) UI
abbrev qB (k : Nd) : List D → List D → List D := fun xs zs => kJ [(0, 0), (1, 0), (1, 1)] xs zs []
section
variable {n B0 Q : Nat} {w w' w0 : W} {A A' A0 : sT} {x : Wx} {y : Bt} {P : D → W → Prop} {PF : Fl → W → Prop} {kb : Bd} {k : Nd} {i h p q f S N : Nat} {m : Mo} {b g l : Int} {s : yS} {lk : List (List (List Int))} {ts ls : List RU} {ds : List sM} {dd ff cur : D} {ss : List D} {ns : List (List D)}
theorem aDw {C : Addr} {mf : MF} {i j : Nat} {fs gs : List (Str × D)} (h1 : w[i]? = some (.ins C fs)) (h2 : w[j]? = some (.ins C gs)) : T (eqI C mf (.ref i) (.ref j) w) P = T (mf [.ref i, .ref j] w) P := by
 simp only [eqI, h1, h2, and_self, ae]
theorem aDB {C : Addr} {j : Nat} {fs : List (Str × D)} (h : w[j]? = some (.ins C fs)) : T (jD (kcI C) [.ref j, .con C] w) P = P (.bl true) w := by
 have : jD (kcI C) [.ref j, .con C] w = .ok (.bl true) w := by simp [jD, WY, h, kcI]
 rw [this, bY]
def UY (m : Mo) (b : Int) : D := .tup [.tup (m.eD.map gE), .int m.qW, .int m.zX, .int m.AI, .int b, .int m.gap, .int m.hold, .bl m.takes, .tup (m.eR.map cI), .int m.lV]
theorem zW (hp : gM k.b.k w p m b) : T (c8 k [.ref p] w) P = P (UY m b) w := by
 unfold c8 gH
 rw [dI, FW, bA]
 simp only [aDh hp, aFa hp, aEw hp, aCY hp, aF2 hp, aEQ hp, aCZ hp, aBV hp, aAp hp, aCn hp, zY, ae, ab, reduceCtorEq]
 exact propext ⟨fun h => h.2, fun h => ⟨rW _ (by simp), h⟩⟩
theorem r8 (o : MoB m h) (b0 : 0 ≤ b ∧ b ≤ 3) : ∃ u, (∀ w, (UY m b).py w = some u) ∧ YH u := by
 have h6 := o.eD.h6
 have n4 := o.n4
 have t6 := o.eR.few
 obtain ⟨v1, v2⟩ := o.qW
 obtain ⟨v3, v4⟩ := o.zX
 obtain ⟨v5, v6⟩ := o.AI
 obtain ⟨v7, v8⟩ := o.gap
 obtain ⟨v9, v10⟩ := o.hold
 obtain ⟨v11, v12⟩ := o.lV
 have fr : eA 100 6 (.tup (m.eD.map gE)) := (eA.ER (n := 6) (d := 2) (c := 4) (fun y hy => by
  obtain ⟨r, hr, rfl⟩ := bx.mp hy
  obtain ⟨e1, e2⟩ := o.eD.row r hr
  exact eA.row (fun z hz => iE (by have := e2 z hz; omega) (by have := e2 z hz; omega)) (by omega)) (by rw [ao]; omega)).mono (by omega) (by omega)
 have ft : eA 100 6 (.tup (m.eR.map cI)) := (eA.ER (n := 3) (d := 2) (c := 6) (fun y hy => by
  obtain ⟨t, ht, rfl⟩ := bx.mp hy
  obtain ⟨⟨a1, a2⟩, ⟨a3, a4⟩, a5, a6⟩ := o.eR.each t ht
  exact (eA.tup (cM.cons (eA.int (iE (v := t.1) (by omega) (by omega))) (cM.cons (eA.int (iE (v := t.2.1) (by omega) (by omega))) (cM.cons (eA.int (iE (v := t.2.2) (by omega) (by omega))) (cM.nil.mono (az _) (by omega)))))).mono (by omega) (az _)) (by rw [ao]; omega)).mono (by omega) (by omega)
 exact (eA.tup (cM.cons fr (cM.cons (zG (v := m.qW) (by omega) (by omega)) (cM.cons (zG (v := m.zX) (by omega) (by omega)) (cM.cons (zG (v := m.AI) (by omega) (by omega)) (cM.cons (zG (v := b) (by omega) (by omega)) (cM.cons (zG (v := m.gap) (by omega) (by omega)) (cM.cons (zG (v := m.hold) (by omega) (by omega)) (cM.cons (eA.bl.mono (az _) (by omega)) (cM.cons ft (cM.cons (zG (v := m.lV) (by omega) (by omega)) aF8))))))))))).fit (by omega) (by omega)
theorem I0 (hp : gM k.b.k w p m b) (hq : gM k.b.k w q m b) (o : MoB m h) (b0 : 0 ≤ b ∧ b ≤ 3) (hP : P (.bl true) w) : T (eqI k.b.k.aH (kY k) (.ref p) (.ref q) w) P := by
 obtain ⟨u, py, hf⟩ := r8 o b0
 rw [aDw hp hq]
 unfold kY m7
 rw [dI, SO]
 simp only [aDB hq, rF, aAn hp (show (LI m b).lookup ("fields" : Str) = none from rfl), aAn hq (show (LI m b).lookup ("fields" : Str) = none from rfl), zW hp, zW hq, D2, RQ (py w) hf, zY, ae, ab, reduceCtorEq]
 exact hP
end
section
variable {n n' nn Q : Nat} {w w' : W} {A : sT} {x : Wx} {P : D → W → Prop} {i h p q F S N r : Nat} {m : Mo} {b g l : Int} {ds : List sM} {ls : List RU} {ns : List (List D)} {nw : List D} {ys : List D}
theorem World.mono (hW : World n w A x) (h : n' ≤ n) : World n' w A x := fun l o e => by
 obtain ⟨h1, h2, h3⟩ := hW l o e
 exact ⟨by omega, h2, h3⟩
end
abbrev GQ := List sM × List RU
end Lw
namespace Pro
structure Dat where
 N : Nat
 mem : Nat → Prop
 R : Nat → Int
 takes : Bool
 qW : Nat
 zX : Nat
 AI : Nat
 B : Nat
 wait : Nat → Int
 srv : Nat → Nat → Prop
 clk : Nat → Nat → Int
 snd : Nat → Nat → Prop
 hit : Nat → Nat → Nat → Prop
 lk : Nat → Nat → Nat → Nat
def Dat.ahead (D : Dat) (d c : Nat) : Prop := D.R d > D.R c ∨ (D.R d = D.R c ∧ d < c)
def Dat.P (D : Dat) : Nat := (D.zX + 1) * D.qW + D.AI - 1
variable {D : Dat}
end Pro
namespace Lw
open PySem PySem.Spec PyProof.Rows L2 Pc Lb
section
variable {m : Mo} {b : Int} {h Q : Nat} {s : yS} {x e : Wx} {a c r : Nat} {q : Role × Int} {ds : List sM} {fa : SN} {l : DA}
def aHk (m : Mo) (b : Int) : Int := aDz m b 1 + m.hold
end
section
variable {m : Mo} {b : Int} {h Q : Nat} {s : yS} {x x' e : Wx} {a c d r t : Nat} {p : Int} {q : Role × Int} {ds : List sM} {fa : SN} {l : DA} {ts : List GQ}
open Classical in
def aFS (m : Mo) (b : Int) (h : Nat) : Nat := (h + 1) * m.AI.toNat + (aHk m b).toNat
def aFT (m : Mo) : Nat := (m.zX.toNat + 1) * m.qW.toNat + m.AI.toNat - 1
end
def iZ : List Str := [("_law_net" : Str), ("_law_model_here" : Str), ("_law_world_here" : Str), ("_law_acts" : Str), ("_law_lots" : Str)]
def mM (k : Nd) : MS :=
 (aI (cS (aCU k.N ("turn" : Str) (SY k) 1 2 (qB k) (aB 0) aE (aA (aB 3) (aA (aB 4) aE))))
 (cS (aK (B7 k.b.k) 4 aN (aA (aB 1) (aA (aB 2) (aA (aB 3) (aA (aK (oW k.b.k) 1 aN (aA (aB 4) aE)) aE)))))))
def mC (k : Nd) : MF := bL (mM k) iZ
def Y9 (h : Nat) (s : yS) (v : Nat) : List Nat := (List.range h).filter fun c => s.living.getD c 0 == 1 && s.parts.getD c 0 == (v : Int)
section
variable {k : Nd} {m : Mo} {b g l : Int} {h n i n0 p q S N D0 TT Q t C : Nat} {ss : List D} {ns : List (List D)} {w w' w0 : W} {A A' : sT} {x : Wx} {s : yS} {P : D → W → Prop} {PF : Fl → W → Prop} {ds : List sM} {a c d r v : Nat} {cs : List Nat} {kvs : List (List Key × D)} {V : Nat → Nat → Nat → Int}
theorem YW {F : Nat} {ys xs : List D} (h : w[F]? = some (.lst xs)) : T (vK (.ref F) [.lst ys] w) P = (xs.length + ys.length ≤ sizeLine ∧ P .non (w.set F (.lst (xs ++ ys)))) := by
 simp only [vK, h, c5, bY]
theorem aEA {xs : List D} {PI : kL → W → Prop} : T (Pc.qL [.lst xs] w) PI = PI ⟨nD xs, always⟩ w := by unfold T; rfl
end
section
variable {k : Nd} {m : Mo} {b : Int} {h Q C : Nat} {w : W} {x x0 : Wx} {s : yS} {P : D → W → Prop} {ts : List GQ} {u : GQ} {kvs kvs' : List (List Key × D)} {V : Nat → Nat → Nat → Int}
theorem DK : ∀ {ns : List Int}, jY (ns.map D.int) = some ns
 | [] => rfl
 | n :: ns => by
  rw [List.map_cons]
  unfold jY
  rw [DK]
  rfl
end
section
variable {k : bN} {m : Mo} {b : Int} {h n i Q t F C : Nat} {w : W} {A : sT} {x e : Wx} {s : yS} {P : D → W → Prop} {kvs : List (List Key × D)} {xs ys : List D} {cs ds : List Nat}
theorem aC6 {x : D} : atI (xs ++ [x]) (-1) = some x := by
 unfold atI ixN
 rw [if_neg (by omega), cc, List.length_singleton, if_pos (by omega)]
 have : (((-1 : Int) + ((xs.length + 1 : Nat) : Int)).toNat) = xs.length := by omega
 simp only [this, Option.bind_some]
 rw [bf (az _)]
 simp
end
section
variable {k : Nd} {m : Mo} {b : Int} {h n0 p q S N TT Q i a c r : Nat} {ss : List D} {ns : List (List D)} {w w' w0 : W} {x : Wx} {P : D → W → Prop} {PF : Fl → W → Prop} {ds : List sM} {ls : List RU} {dd ff : D}
theorem e6 (s : yS) : atI [gE s.living, gE s.parts, gE s.downs, .tup (s.eD.map gE), .tup (s.eK.map aGi), .tup (s.zR.map aDH), .tup (s.B2.map aDR), .tup (s.tables.map gE), .tup (s.asks.map Pc.pairD)] 6 = some (.tup (s.B2.map aDR)) := rfl
end
section
variable {w : W} {P : D → W → Prop} {PI : kL → W → Prop} {kvs : List (List Key × D)} {i a c d C : Nat}
theorem aB3 (h : w[i]? = some (.dT kvs)) : T (xU (.ref i) w) PI = PI ⟨kvs.map fun p => .tup (p.1.map iB), always⟩ (w.set i (.dG kvs)) := by
 have : xU (.ref i) w = .ok ⟨kvs.map fun p => .tup (p.1.map iB), always⟩ (w.set i (.dG kvs)) := by simp only [xU, h]
 rw [this, bY]
theorem Z5 {m : ME} {σ : Sg} : T (vV m σ w) PI = T (m σ w) fun d w1 => T (xU d w1) PI := by
 unfold vV
 rw [bC]
end
end Lw
namespace Lb
open PySem PySem.Spec PyProof.Rows L2 Pc
section
variable {w : W} {P : D → W → Prop} {k : bN} {tS : Addr} {p h n : Nat} {m : Mo} {b : Int} {s : yS} {d : D}
def aGa (m : Mo) : D → Bool
 | .int t => (decide (0 ≤ t) && decide (t ≤ 9)) && decide (t ∈ m.eR.map fun t => t.2.1)
 | _ => false
theorem qQ (hp : gM k w p m b) (o : MoB m h) (e : nY (n + 1) d = true) (hP : P (.bl (aGa m d)) w) : T (nB k [.ref p, d] w) P := by
 have few := o.eR.few
 unfold nB uD
 rw [dI, C5]
 simp only [qM 0 9 e, zY, ae, ab, reduceCtorEq]
 cases d <;> simp only [bB, aGa, zY, ae, ab, reduceCtorEq] at hP ⊢ <;> first | exact hP | skip
 rename_i t
 by_cases hr : (decide (0 ≤ t) && decide (t ≤ 9)) = true
 ·rw [hr] at hP
  simp only [hr, Bool.true_and, aAp hp, zY, ae, ab, reduceCtorEq] at hP ⊢
  refine ⟨rW _ (by rw [ao]; omega), ?_⟩
  refine fH (it := ⟨m.eR.map cI, always⟩) m.eR cI (fun t => .int t.2.1) rfl trivial (fun t _ => ?_) ?_
  ·simp only [c0, cI, zY, ae, ab, reduceCtorEq]
  have em : m.eR.map (fun t => D.int t.2.1) = (m.eR.map fun t => t.2.1).map D.int := by rw [List.map_map]; rfl
  rw [em]
  simp only [aE0, aCR, zY, ae, ab, reduceCtorEq]
  exact hP
 ·rw [Bool.not_eq_true] at hr
  rw [hr] at hP
  simp only [hr, Bool.false_and, zY, ae, ab, reduceCtorEq] at hP ⊢
  exact hP
end
end Lb
namespace Lw
open PySem PySem.Spec PyProof.Rows L2 Pc Lb TL
def VC (z : Str) : Prop := tl (reprText z) = 39 :: (tl z ++ [39]) ∧ 39 ∉ tl z
mutual
def fL : PyData → Prop
 | .int _ => True
 | .str z => VC z
 | .tuple xs => SimPs xs
 | _ => False
def SimPs : List PyData → Prop
 | [] => True
 | x :: xs => fL x ∧ SimPs xs
end
def lI : List PyData → List Nat
 | [] => [41]
 | y :: t => 44 :: 32 :: (tl y.shown ++ lI t)
def mQ : List PyData → List Nat
 | [] => [41]
 | [x] => tl x.shown ++ [44, 41]
 | x :: y :: t => tl x.shown ++ (44 :: 32 :: (tl y.shown ++ lI t))
theorem IZ : ∀ (x : PyData) (t : List PyData), joinL [44, 32] ((PyData.shownAll (x :: t)).map tl) ++ [41] = tl x.shown ++ lI t
 | x, [] => rfl
 | x, y :: t => by
  show (tl x.shown ++ ([44, 32] ++ joinL [44, 32] ((PyData.shownAll (y :: t)).map tl))) ++ [41] = _
  rw [cb, cb, IZ y t]
  rfl
theorem zO (xs : List PyData) : tl (PyData.tuple xs).shown = 40 :: mQ xs := by
 have e : (PyData.tuple xs).shown = ("(" : Str) ++ Str.join ", " (PyData.shownAll xs) ++ (if (PyData.shownAll xs).length == 1 then ",)" else ")" : String) := by
  simp only [PyData.shown]
  rfl
 have e1 : tl ("(" : Str) = [40] := by decide +kernel
 have e2 : tl (", " : Str) = [44, 32] := by decide +kernel
 have e3 : tl (Str.ofString ",)") = [44, 41] := by decide +kernel
 have e4 : tl (Str.ofString ")") = [41] := by decide +kernel
 rw [e, tl_append, tl_append, tl_join, e1, e2]
 match xs with
 | [] => simp only [PyData.shownAll, List.length_nil, List.map_nil]; exact congrArg _ e4
 | [x] =>
  show ([40] ++ tl x.shown) ++ tl (Str.ofString ",)") = _
  rw [e3]; rfl
 | x :: y :: t =>
  show ([40] ++ joinL [44, 32] ((PyData.shownAll (x :: y :: t)).map tl)) ++ tl (Str.ofString ")") = _
  rw [e4, cb, IZ]; rfl
theorem DL (n : Nat) : tl (PyData.int (Int.negSucc n)).shown = 45 :: numL (n + 1) := by
 have e : (PyData.int (Int.negSucc n)).shown = Str.ofString ("-" ++ toString ((n + 1 : Nat) : Int)) := by
  simp only [PyData.shown]
  rfl
 rw [e, tl_ofString, String.toList_append, cu, ← tl_ofString, ← tl_ofString, tl_num]
 have : tl (Str.ofString "-") = [45] := by decide +kernel
 rw [this]
 rfl
theorem L4 (n : Nat) : tl (PyData.int (n : Nat)).shown = numL n := by
 simp only [PyData.shown]
 exact tl_num n
def Dl (r : List Nat) : Prop := r = [] ∨ (∃ t, r = 44 :: t) ∨ ∃ t, r = 41 :: t
theorem ZQ : ∀ (a b : List Nat) {r r' : List Nat}, (∀ c ∈ a, 48 ≤ c ∧ c ≤ 57) → (∀ c ∈ b, 48 ≤ c ∧ c ≤ 57) → Dl r → Dl r' → a ++ r = b ++ r' → a = b ∧ r = r'
 | [], [], r, r', _, _, _, _, h => ⟨rfl, h⟩
 | x :: a, y :: b, r, r', ha, hb, d, d', h => by
  rw [List.cons_append, List.cons_append] at h
  injection h with h1 h2
  obtain ⟨e1, e2⟩ := ZQ a b (fun c hc => ha c (bh _ hc)) (fun c hc => hb c (bh _ hc)) d d' h2
  exact ⟨by rw [h1, e1], e2⟩
 | x :: a, [], r, r', ha, _, _, d', h => by
  exfalso
  have hx := ha x (bc ..)
  rw [List.nil_append] at h
  rcases d' with e | ⟨t, e⟩ | ⟨t, e⟩ <;> rw [e, List.cons_append] at h <;> injection h <;> omega
 | [], y :: b, r, r', _, hb, d, _, h => by
  exfalso
  have hy := hb y (bc ..)
  rw [List.nil_append] at h
  rcases d with e | ⟨t, e⟩ | ⟨t, e⟩ <;> rw [e, List.cons_append] at h <;> injection h <;> omega
theorem marks : ∀ (a b : List Nat) {r r' : List Nat}, 39 ∉ a → 39 ∉ b → a ++ 39 :: r = b ++ 39 :: r' → a = b ∧ r = r'
 | [], [], _, _, _, _, h => ⟨rfl, by injection h⟩
 | x :: a, y :: b, r, r', ha, hb, h => by
  rw [List.cons_append, List.cons_append] at h
  injection h with h1 h2
  obtain ⟨e1, e2⟩ := marks a b (fun c => ha (bh _ c)) (fun c => hb (bh _ c)) h2
  exact ⟨by rw [h1, e1], e2⟩
 | x :: a, [], r, r', ha, _, h => by
  rw [List.cons_append, List.nil_append] at h
  injection h with h1 h2
  exact absurd (by rw [h1]; exact bc ..) ha
 | [], y :: b, r, r', _, hb, h => by
  rw [List.cons_append, List.nil_append] at h
  injection h with h1 h2
  exact absurd (by rw [← h1]; exact bc ..) hb
theorem y6 {z : Str} (h : VC z) : tl (PyData.str z).shown = 39 :: (tl z ++ [39]) := by
 simp only [PyData.shown]
 exact h.1
theorem vM : ∀ (p : PyData), fL p → ∃ c l, tl p.shown = c :: l ∧ ((∃ n : Nat, p = .int (n : Nat)) ∧ (48 ≤ c ∧ c ≤ 57) ∨ (∃ n, p = .int (Int.negSucc n)) ∧ c = 45 ∨ (∃ z, p = .str z ∧ VC z) ∧ c = 39 ∨ (∃ xs, p = .tuple xs ∧ SimPs xs) ∧ c = 40)
 | .int (Int.ofNat n), _ => by
  have e : tl (PyData.int (Int.ofNat n)).shown = numL n := L4 n
  obtain ⟨c, l, h⟩ := List.exists_cons_of_ne_nil (numL_ne n)
  refine ⟨c, l, e.trans h, .inl ⟨⟨n, rfl⟩, ?_⟩⟩
  have := numL_digits n c (by rw [h]; exact bc ..)
  omega
 | .int (Int.negSucc n), _ => ⟨45, _, DL n, .inr (.inl ⟨⟨n, rfl⟩, rfl⟩)⟩
 | .str z, h => by
  rw [fL] at h
  exact ⟨39, _, y6 h, .inr (.inr (.inl ⟨⟨z, rfl, h⟩, rfl⟩))⟩
 | .tuple xs, h => by
  rw [fL] at h
  exact ⟨40, _, zO xs, .inr (.inr (.inr ⟨⟨xs, rfl, h⟩, rfl⟩))⟩
 | .none, h => by simp [fL] at h
 | .bool _, h => by simp [fL] at h
 | .list _, h => by simp [fL] at h
 | .dict _, h => by simp [fL] at h
theorem Dl.tail : ∀ (t : List PyData) (r : List Nat), Dl (lI t ++ r)
 | [], r => .inr (.inr ⟨r, rfl⟩)
 | y :: t, r => .inr (.inl ⟨_, rfl⟩)
theorem vQ {p : PyData} (h : fL p) {s u : List Nat} (e : tl p.shown ++ s = 41 :: u) : False := by
 obtain ⟨c, l, e1, hc⟩ := vM p h
 rw [e1, List.cons_append] at e
 injection e with e2 _
 rcases hc with ⟨_, hc⟩ | ⟨_, hc⟩ | ⟨_, hc⟩ | ⟨_, hc⟩ <;> omega
mutual
theorem m8 : ∀ (p : PyData), fL p → ∀ (q : PyData), fL q → ∀ (r r' : List Nat), Dl r → Dl r' → tl p.shown ++ r = tl q.shown ++ r' → p = q ∧ r = r'
 | .int (Int.ofNat n), hp, q, hq, r, r', d, d', h => by
  have e : tl (PyData.int (Int.ofNat n)).shown = numL n := L4 n
  have dg : ∀ n c, c ∈ numL n → 48 ≤ c ∧ c ≤ 57 := fun n c hc => by
   have := numL_digits n c hc
   omega
  obtain ⟨c', l', e', hc'⟩ := vM (.int (Int.ofNat n)) hp
  obtain ⟨c, l, eq, hc⟩ := vM q hq
  have hcc : c' = c := by rw [e', eq, List.cons_append, List.cons_append] at h; injection h
  have h48 : 48 ≤ c' ∧ c' ≤ 57 := dg n c' (by rw [← e, e']; exact bc ..)
  rcases hc with ⟨⟨k, rfl⟩, _⟩ | ⟨_, hc⟩ | ⟨_, hc⟩ | ⟨_, hc⟩
  ·rw [e, L4] at h
   obtain ⟨e1, e2⟩ := ZQ _ _ (dg n) (dg k) d d' h
   rw [numL_inj e1]
   exact ⟨rfl, e2⟩
  all_goals exfalso; omega
 | .int (Int.negSucc n), hp, q, hq, r, r', d, d', h => by
  have dg : ∀ n c, c ∈ numL n → 48 ≤ c ∧ c ≤ 57 := fun n c hc => by
   have := numL_digits n c hc
   omega
  obtain ⟨c, l, eq, hc⟩ := vM q hq
  have hcc : 45 = c := by rw [DL, eq, List.cons_append, List.cons_append] at h; injection h
  rcases hc with ⟨_, hc⟩ | ⟨⟨k, rfl⟩, _⟩ | ⟨_, hc⟩ | ⟨_, hc⟩
  ·omega
  ·rw [DL, DL, List.cons_append, List.cons_append] at h
   injection h with _ h
   obtain ⟨e1, e2⟩ := ZQ _ _ (dg (n + 1)) (dg (k + 1)) d d' h
   have := numL_inj e1
   rw [show n = k by omega]
   exact ⟨rfl, e2⟩
  all_goals exfalso; omega
 | .str z, hp, q, hq, r, r', d, d', h => by
  rw [fL] at hp
  obtain ⟨c, l, eq, hc⟩ := vM q hq
  have hcc : 39 = c := by rw [y6 hp, eq, List.cons_append, List.cons_append] at h; injection h
  rcases hc with ⟨_, hc⟩ | ⟨_, hc⟩ | ⟨⟨k, rfl, hk⟩, _⟩ | ⟨_, hc⟩
  ·omega
  ·omega
  ·rw [y6 hp, y6 hk, List.cons_append, List.cons_append] at h
   injection h with _ h
   rw [cb, cb] at h
   obtain ⟨e1, e2⟩ := marks _ _ hp.2 hk.2 h
   rw [ext_tl e1]
   exact ⟨rfl, e2⟩
  ·omega
 | .tuple xs, hp, q, hq, r, r', d, d', h => by
  rw [fL] at hp
  obtain ⟨c, l, eq, hc⟩ := vM q hq
  have hcc : 40 = c := by rw [zO, eq, List.cons_append, List.cons_append] at h; injection h
  rcases hc with ⟨_, hc⟩ | ⟨_, hc⟩ | ⟨_, hc⟩ | ⟨⟨ys, rfl, hk⟩, _⟩
  ·omega
  ·omega
  ·omega
  ·rw [zO, zO, List.cons_append, List.cons_append] at h
   injection h with _ h
   obtain ⟨e1, e2⟩ := tup_key xs hp ys hk r r' h
   exact ⟨by rw [e1], e2⟩
 | .none, h, _, _, _, _, _, _, _ => by simp [fL] at h
 | .bool _, h, _, _, _, _, _, _, _ => by simp [fL] at h
 | .list _, h, _, _, _, _, _, _, _ => by simp [fL] at h
 | .dict _, h, _, _, _, _, _, _, _ => by simp [fL] at h
theorem tup_key : ∀ (xs : List PyData), SimPs xs → ∀ (ys : List PyData), SimPs ys → ∀ (r r' : List Nat), mQ xs ++ r = mQ ys ++ r' → xs = ys ∧ r = r'
 | [], hx, [], hy, r, r', h => ⟨rfl, by simp only [mQ, List.cons_append, List.nil_append] at h; injection h⟩
 | [], hx, [y], hy, r, r', h => by
  simp only [SimPs] at hy
  simp only [mQ, List.cons_append, List.nil_append, cb] at h
  exact (vQ hy.1 h.symm).elim
 | [], hx, y :: y2 :: ys, hy, r, r', h => by
  simp only [SimPs] at hy
  simp only [mQ, List.cons_append, List.nil_append, cb] at h
  exact (vQ hy.1 h.symm).elim
 | [x], hx, [], hy, r, r', h => by
  simp only [SimPs] at hx
  simp only [mQ, List.cons_append, List.nil_append, cb] at h
  exact (vQ hx.1 h).elim
 | [x], hx, [y], hy, r, r', h => by
  simp only [SimPs] at hx hy
  simp only [mQ, List.cons_append, List.nil_append, cb] at h
  obtain ⟨e1, e2⟩ := m8 x hx.1 y hy.1 _ _ (.inr (.inl ⟨_, rfl⟩)) (.inr (.inl ⟨_, rfl⟩)) h
  injection e2 with _ e2
  injection e2 with _ e2
  exact ⟨by rw [e1], e2⟩
 | [x], hx, y :: y2 :: ys, hy, r, r', h => by
  simp only [SimPs] at hx hy
  simp only [mQ, List.cons_append, List.nil_append, cb] at h
  obtain ⟨e1, e2⟩ := m8 x hx.1 y hy.1 _ _ (.inr (.inl ⟨_, rfl⟩)) (.inr (.inl ⟨_, rfl⟩)) h
  injection e2 with _ e2
  injection e2 with e2 _
  omega
 | x :: x2 :: xs, hx, [], hy, r, r', h => by
  simp only [SimPs] at hx
  simp only [mQ, List.cons_append, List.nil_append, cb] at h
  exact (vQ hx.1 h).elim
 | x :: x2 :: xs, hx, [y], hy, r, r', h => by
  simp only [SimPs] at hx hy
  simp only [mQ, List.cons_append, List.nil_append, cb] at h
  obtain ⟨e1, e2⟩ := m8 x hx.1 y hy.1 _ _ (.inr (.inl ⟨_, rfl⟩)) (.inr (.inl ⟨_, rfl⟩)) h
  injection e2 with _ e2
  injection e2 with e2 _
  omega
 | x :: x2 :: xs, hx, y :: y2 :: ys, hy, r, r', h => by
  simp only [SimPs] at hx hy
  simp only [mQ, List.cons_append, List.nil_append, cb] at h
  obtain ⟨e1, e2⟩ := m8 x hx.1 y hy.1 _ _ (.inr (.inl ⟨_, rfl⟩)) (.inr (.inl ⟨_, rfl⟩)) h
  injection e2 with _ e2
  injection e2 with _ e2
  obtain ⟨e3, e4⟩ := m8 x2 hx.2.1 y2 hy.2.1 _ _ (Dl.tail _ _) (Dl.tail _ _) e2
  obtain ⟨e5, e6⟩ := tail_key xs hx.2.2 ys hy.2.2 r r' e4
  exact ⟨by rw [e1, e3, e5], e6⟩
theorem tail_key : ∀ (xs : List PyData), SimPs xs → ∀ (ys : List PyData), SimPs ys → ∀ (r r' : List Nat), lI xs ++ r = lI ys ++ r' → xs = ys ∧ r = r'
 | [], _, [], _, r, r', h => ⟨rfl, by simp only [lI, List.cons_append, List.nil_append] at h; injection h⟩
 | [], _, y :: ys, _, r, r', h => by
  simp only [lI, List.cons_append, List.nil_append] at h
  injection h with h _
  omega
 | x :: xs, _, [], _, r, r', h => by
  simp only [lI, List.cons_append, List.nil_append] at h
  injection h with h _
  omega
 | x :: xs, hx, y :: ys, hy, r, r', h => by
  simp only [SimPs] at hx hy
  simp only [lI, List.cons_append, List.nil_append, cb] at h
  injection h with _ h
  injection h with _ h
  obtain ⟨e1, e2⟩ := m8 x hx.1 y hy.1 _ _ (Dl.tail _ _) (Dl.tail _ _) h
  obtain ⟨e3, e4⟩ := tail_key xs hx.2 ys hy.2 r r' e2
  exact ⟨by rw [e1, e3], e4⟩
end
mutual
theorem aDp : ∀ (p : PyData), fL p → ∀ (q : PyData), fL q → (PyData.eqv p q = true ↔ p = q)
 | .int i, _, .int j, _ => by simp [PyData.eqv]
 | .str x, _, .str y, _ => by simp [PyData.eqv]
 | .tuple xs, hp, .tuple ys, hq => by
  rw [fL] at hp hq
  rw [PyData.eqv, eqvs_sim xs hp ys hq]
  simp
 | .int i, _, .str y, _ => by simp [PyData.eqv]
 | .int i, _, .tuple y, _ => by simp [PyData.eqv]
 | .str i, _, .int y, _ => by simp [PyData.eqv]
 | .str i, _, .tuple y, _ => by simp [PyData.eqv]
 | .tuple i, _, .int y, _ => by simp [PyData.eqv]
 | .tuple i, _, .str y, _ => by simp [PyData.eqv]
 | .none, h, _, _ => by simp [fL] at h
 | .bool _, h, _, _ => by simp [fL] at h
 | .list _, h, _, _ => by simp [fL] at h
 | .dict _, h, _, _ => by simp [fL] at h
 | _, _, .none, h => by simp [fL] at h
 | _, _, .bool _, h => by simp [fL] at h
 | _, _, .list _, h => by simp [fL] at h
 | _, _, .dict _, h => by simp [fL] at h
theorem eqvs_sim : ∀ (xs : List PyData), SimPs xs → ∀ (ys : List PyData), SimPs ys → (PyData.eqvAll xs ys = true ↔ xs = ys)
 | [], _, [], _ => by simp [PyData.eqvAll]
 | [], _, y :: ys, _ => by simp [PyData.eqvAll]
 | x :: xs, _, [], _ => by simp [PyData.eqvAll]
 | x :: xs, hx, y :: ys, hy => by
  simp only [SimPs] at hx hy
  rw [PyData.eqvAll, aj, aDp x hx.1 y hy.1, eqvs_sim xs hx.2 ys hy.2, List.cons.injEq]
end
mutual
def fO : D → Prop
 | .int _ => True
 | .str z => VC z
 | .tup xs => SimDs xs
 | _ => False
def SimDs : List D → Prop
 | [] => True
 | x :: xs => fO x ∧ SimDs xs
end
mutual
theorem K5 : ∀ (d : D) {f : Nat → Option PyData} {p : PyData}, fO d → d.fZ f = some p → fL p
 | .int i, f, p, _, h1 => by
  simp only [D.fZ, ah] at h1
  subst h1
  simp [fL]
 | .str i, f, p, s1, h1 => by
  simp only [D.fZ, ah] at h1
  simp only [fO] at s1
  subst h1
  simp [fL, s1]
 | .tup i, f, p, s1, h1 => by
  simp only [D.fZ, ai] at h1
  obtain ⟨ps, h1, rfl⟩ := h1
  simp only [fO] at s1
  simp only [fL]
  exact simps_of i s1 h1
 | .non, _, _, h, _ => by simp [fO] at h
 | .bl _, _, _, h, _ => by simp [fO] at h
 | .ty _, _, _, h, _ => by simp [fO] at h
 | .con _, _, _, h, _ => by simp [fO] at h
 | .lst _, _, _, h, _ => by simp [fO] at h
 | .qG _, _, _, h, _ => by simp [fO] at h
 | .jA _, _, _, h, _ => by simp [fO] at h
 | .H0 _ _, _, _, h, _ => by simp [fO] at h
 | .ref _, _, _, h, _ => by simp [fO] at h
theorem simps_of : ∀ (xs : List D) {f : Nat → Option PyData} {ps : List PyData}, SimDs xs → D.pysR f xs = some ps → SimPs ps
 | [], f, ps, _, h1 => by
  simp only [D.pysR, ah] at h1
  subst h1
  simp [SimPs]
 | x :: xs, f, ps, s1, h1 => by
  simp only [D.pysR] at h1
  split at h1
  ·rename_i p ps e1 e2
   cases h1
   simp only [SimDs] at s1
   simp only [SimPs]
   exact ⟨K5 x s1.1 e1, simps_of xs s1.2 e2⟩
  ·cases h1
end
mutual
theorem aEs : ∀ (d e : D) {f g : Nat → Option PyData} {p q : PyData}, fO d → fO e → d.fZ f = some p → e.fZ g = some q → fL p ∧ fL q ∧ (p = q ↔ d = e)
 | .int i, .int j, f, g, p, q, _, _, h1, h2 => by
  simp only [D.fZ, ah] at h1 h2
  subst h1 h2
  simp [fL]
 | .str i, .str j, f, g, p, q, s1, s2, h1, h2 => by
  simp only [D.fZ, ah] at h1 h2
  simp only [fO] at s1 s2
  subst h1 h2
  simp [fL, s1, s2]
 | .tup i, .tup j, f, g, p, q, s1, s2, h1, h2 => by
  simp only [D.fZ, ai] at h1 h2
  obtain ⟨ps, h1, rfl⟩ := h1
  obtain ⟨qs, h2, rfl⟩ := h2
  simp only [fO] at s1 s2
  obtain ⟨a1, a2, a3⟩ := pys_sim i j s1 s2 h1 h2
  simp only [fL, PyData.tuple.injEq, D.tup.injEq]
  exact ⟨a1, a2, a3⟩
 | .int i, .str j, f, g, p, q, s1, s2, h1, h2 => by
  simp only [D.fZ, ah] at h1 h2
  simp only [fO] at s1 s2
  subst h1 h2
  simp [fL, s2]
 | .str i, .int j, f, g, p, q, s1, s2, h1, h2 => by
  simp only [D.fZ, ah] at h1 h2
  simp only [fO] at s1 s2
  subst h1 h2
  simp [fL, s1]
 | .tup i, .int j, f, g, p, q, s1, s2, h1, h2 => by
  simp only [D.fZ, ah, ai] at h1 h2
  obtain ⟨ps, h1, rfl⟩ := h1
  subst h2
  simp only [fO] at s1 s2
  have a1 := simps_of i s1 h1
  simp [fL, a1]
 | .tup i, .str j, f, g, p, q, s1, s2, h1, h2 => by
  simp only [D.fZ, ah, ai] at h1 h2
  obtain ⟨ps, h1, rfl⟩ := h1
  subst h2
  simp only [fO] at s1 s2
  have a1 := simps_of i s1 h1
  simp [fL, a1, s2]
 | .int i, .tup j, f, g, p, q, s1, s2, h1, h2 => by
  simp only [D.fZ, ah, ai] at h1 h2
  obtain ⟨ps, h2, rfl⟩ := h2
  subst h1
  simp only [fO] at s1 s2
  have a1 := simps_of j s2 h2
  simp [fL, a1]
 | .str i, .tup j, f, g, p, q, s1, s2, h1, h2 => by
  simp only [D.fZ, ah, ai] at h1 h2
  obtain ⟨ps, h2, rfl⟩ := h2
  subst h1
  simp only [fO] at s1 s2
  have a1 := simps_of j s2 h2
  simp [fL, a1, s1]
 | .non, _, _, _, _, _, h, _, _, _ => by simp [fO] at h
 | .bl _, _, _, _, _, _, h, _, _, _ => by simp [fO] at h
 | .ty _, _, _, _, _, _, h, _, _, _ => by simp [fO] at h
 | .con _, _, _, _, _, _, h, _, _, _ => by simp [fO] at h
 | .lst _, _, _, _, _, _, h, _, _, _ => by simp [fO] at h
 | .qG _, _, _, _, _, _, h, _, _, _ => by simp [fO] at h
 | .jA _, _, _, _, _, _, h, _, _, _ => by simp [fO] at h
 | .H0 _ _, _, _, _, _, _, h, _, _, _ => by simp [fO] at h
 | .ref _, _, _, _, _, _, h, _, _, _ => by simp [fO] at h
 | _, .non, _, _, _, _, _, h, _, _ => by simp [fO] at h
 | _, .bl _, _, _, _, _, _, h, _, _ => by simp [fO] at h
 | _, .ty _, _, _, _, _, _, h, _, _ => by simp [fO] at h
 | _, .con _, _, _, _, _, _, h, _, _ => by simp [fO] at h
 | _, .lst _, _, _, _, _, _, h, _, _ => by simp [fO] at h
 | _, .qG _, _, _, _, _, _, h, _, _ => by simp [fO] at h
 | _, .jA _, _, _, _, _, _, h, _, _ => by simp [fO] at h
 | _, .H0 _ _, _, _, _, _, _, h, _, _ => by simp [fO] at h
 | _, .ref _, _, _, _, _, _, h, _, _ => by simp [fO] at h
theorem pys_sim : ∀ (xs ys : List D) {f g : Nat → Option PyData} {ps qs : List PyData}, SimDs xs → SimDs ys → D.pysR f xs = some ps → D.pysR g ys = some qs → SimPs ps ∧ SimPs qs ∧ (ps = qs ↔ xs = ys)
 | [], [], f, g, ps, qs, s1, s2, h1, h2 => by
  simp only [D.pysR, ah] at h1 h2
  subst h1 h2
  simp [SimPs]
 | x :: xs, [], f, g, ps, qs, s1, s2, h1, h2 => by
  simp only [D.pysR, ah] at h1 h2
  subst h2
  split at h1
  ·rename_i p ps e1 e2
   cases h1
   simp only [SimDs] at s1
   have a1 := K5 x s1.1 e1
   have b1 := simps_of xs s1.2 e2
   simp [SimPs, a1, b1]
  ·cases h1
 | [], y :: ys, f, g, ps, qs, s1, s2, h1, h2 => by
  simp only [D.pysR, ah] at h1 h2
  subst h1
  split at h2
  ·rename_i p ps e1 e2
   cases h2
   simp only [SimDs] at s2
   have a1 := K5 y s2.1 e1
   have b1 := simps_of ys s2.2 e2
   simp [SimPs, a1, b1]
  ·cases h2
 | x :: xs, y :: ys, f, g, ps, qs, s1, s2, h1, h2 => by
  simp only [D.pysR] at h1 h2
  split at h1
  ·split at h2
   ·rename_i p ps e1 e2 _ _ q qs e3 e4
    cases h1
    cases h2
    simp only [SimDs] at s1 s2
    obtain ⟨a1, a2, a3⟩ := aEs x y s1.1 s2.1 e1 e3
    obtain ⟨b1, b2, b3⟩ := pys_sim xs ys s1.2 s2.2 e2 e4
    exact ⟨⟨a1, b1⟩, ⟨a2, b2⟩, by rw [List.cons.injEq, List.cons.injEq, a3, b3]⟩
   ·cases h2
  ·cases h1
end
section
variable {w : W} {d e : D} {u v : PyData}
theorem SimDs.all : ∀ {xs : List D}, (∀ x ∈ xs, fO x) → SimDs xs
 | [], _ => by simp only [SimDs]
 | x :: xs, h => by
  simp only [SimDs]
  exact ⟨h x (bc ..), SimDs.all fun y hy => h y (bh _ hy)⟩
end
section
variable {w w' : W} {P : D → W → Prop} {k : Nd} {q p S N q2 p2 S2 N2 h j n n2 d d2 Q : Nat} {ss ss2 : List D} {cur cur2 : D} {ns ns2 : List (List D)} {g l g2 l2 b : Int} {m : Mo} {xs ys : List D} {x y : D} {u v u2 v2 : PyData} {t : GQ} {ts ts2 : List GQ} {X : Wx}
theorem XU {d : D} {p : PyData} (e : d.py w = some p) (hs : SeqAt.shaped p = true) : yR d d w = some true := by
 unfold yR wF
 rw [e]
 simp only [hs, and_self, ae]
 rw [SeqAt.eqv_refl p (Bool.and_eq_true_iff.mp hs).1]
end
mutual
/-- plain things, empty dicts among them -/
def gK : PyData → Bool
 | .none | .bool _ => true
 | .int i => decide (i.natAbs < 10 ^ 40)
 | .str x => PyData.strOk (reprText x) && PyData.strOk x && PyData.leavesShort 60 (.str x) && decide (x.length ≤ 100)
 | .list xs | .tuple xs => plainXs xs
 | .dict kvs => kvs.isEmpty
def plainXs : List PyData → Bool
 | [] => true
 | x :: xs => gK x && plainXs xs
end
mutual
theorem KP : ∀ p : PyData, gK p = true → PyData.strOk p.shown = true
 | .none, _ => fC _
 | .bool b, _ => by cases b <;> exact fC _
 | .int i, _ => fC _
 | .str x, h => by
  simp only [gK, aj] at h
  exact h.1.1.1
 | .list xs, h => by
  rw [gK] at h
  show PyData.strOk (textFrom 0 "[" (PyData.shownAll xs) ++ "]") = true
  rw [gF, pI _ _ _ (fC _) (plainXs_shown xs h), fC]
  rfl
 | .tuple xs, h => by
  rw [gK] at h
  show PyData.strOk (tupleText (PyData.shownAll xs)) = true
  unfold tupleText
  rw [gF, gF, fC, zL _ (fC _) _ (plainXs_shown xs h)]
  split <;> rw [fC] <;> rfl
 | .dict [], _ => by decide +kernel
 | .dict (_ :: _), h => by simp [gK] at h
theorem plainXs_shown : ∀ ps : List PyData, plainXs ps = true → ∀ t ∈ PyData.shownAll ps, PyData.strOk t = true
 | [], _, t, ht => by simp [PyData.shownAll] at ht
 | p :: ps, h, t, ht => by
  simp only [plainXs, aj] at h
  simp only [PyData.shownAll, bg] at ht
  rcases ht with rfl | ht
  ·exact KP p h.1
  ·exact plainXs_shown ps h.2 t ht
end
mutual
theorem UO : ∀ p : PyData, gK p = true → p.leavesShort 60 = true ∧ p.showable = true
 | .none, _ => by simp [PyData.leavesShort, PyData.showable]
 | .bool b, _ => by simp [PyData.leavesShort, PyData.showable]
 | .int i, h => by
  simp only [gK, ak] at h
  exact ⟨BL h, AH h⟩
 | .str x, h => by
  simp only [gK, aj] at h
  exact ⟨h.1.2, by simp [PyData.showable]⟩
 | .list xs, h => by
  rw [gK] at h
  have := plainXs_all xs h
  simp only [PyData.leavesShort, PyData.showable]
  exact this
 | .tuple xs, h => by
  rw [gK] at h
  have := plainXs_all xs h
  simp only [PyData.leavesShort, PyData.showable]
  exact this
 | .dict [], _ => by decide +kernel
 | .dict (_ :: _), h => by simp [gK] at h
theorem plainXs_all : ∀ p : List PyData, plainXs p = true → PyData.leavesShortAll 60 p = true ∧ PyData.showableAll p = true
 | [], _ => by simp [PyData.leavesShortAll, PyData.showableAll]
 | p :: ps, h => by
  simp only [plainXs, aj] at h
  obtain ⟨a1, a2⟩ := UO p h.1
  obtain ⟨b1, b2⟩ := plainXs_all ps h.2
  simp only [PyData.leavesShortAll, PyData.showableAll, a1, a2, b1, b2]
  simp
end
mutual
theorem JB : ∀ p : PyData, dY p = true → gK p = true
 | .none, _ => rfl
 | .bool b, _ => rfl
 | .int i, h => by rw [dY] at h; rw [gK]; exact h
 | .str x, h => by rw [dY] at h; rw [gK]; exact h
 | .list xs, h => by rw [dY] at h; rw [gK]; exact plainXs_of xs h
 | .tuple xs, h => by rw [dY] at h; rw [gK]; exact plainXs_of xs h
 | .dict _, h => by simp [dY] at h
theorem plainXs_of : ∀ p : List PyData, plainPs p = true → plainXs p = true
 | [], _ => rfl
 | p :: ps, h => by
  simp only [plainPs, aj] at h
  simp only [plainXs, JB p h.1, plainXs_of ps h.2, Bool.and_self]
end
structure aGJ (p : PyData) : Prop where
 plain : gK p = true
 bulk : p.bulk ≤ 200000
 deep : p.depth ≤ 40
theorem YH.x {p : PyData} (h : YH p) : aGJ p := ⟨JB p h.plain, h.bulk, h.deep⟩
mutual
theorem aEf {f g : Nat → Option PyData} (hfg : ∀ i p, f i = some p → g i = some p) : ∀ (d : D) {p : PyData}, d.fZ f = some p → d.fZ g = some p
 | .non, _, h => by simpa only [D.fZ] using h
 | .bl _, _, h => by simpa only [D.fZ] using h
 | .int _, _, h => by simpa only [D.fZ] using h
 | .str _, _, h => by simpa only [D.fZ] using h
 | .ty _, _, h => by simp [D.fZ] at h
 | .con _, _, h => by simp [D.fZ] at h
 | .H0 _ _, _, h => by simp [D.fZ] at h
 | .ref i, _, h => by
  simp only [D.fZ] at h ⊢
  exact hfg i _ h
 | .tup xs, _, h => by
  simp only [D.fZ, ai] at h ⊢
  obtain ⟨ps, h1, h2⟩ := h
  exact ⟨ps, pysR_le hfg xs h1, h2⟩
 | .jA xs, _, h => by
  simp only [D.fZ, ai] at h ⊢
  obtain ⟨ps, h1, h2⟩ := h
  exact ⟨ps, pysR_le hfg xs h1, h2⟩
 | .lst xs, _, h => by
  simp only [D.fZ, ai] at h ⊢
  obtain ⟨ps, h1, h2⟩ := h
  exact ⟨ps, pysR_le hfg xs h1, h2⟩
 | .qG xs, _, h => by
  simp only [D.fZ, ai] at h ⊢
  obtain ⟨ps, h1, h2⟩ := h
  exact ⟨ps, pysR_le hfg xs h1, h2⟩
theorem pysR_le {f g : Nat → Option PyData} (hfg : ∀ i p, f i = some p → g i = some p) : ∀ (ds : List D) {ps : List PyData}, D.pysR f ds = some ps → D.pysR g ds = some ps
 | [], _, h => by simpa only [D.pysR] using h
 | d :: ds, _, h => by
  simp only [D.pysR] at h ⊢
  split at h
  ·rename_i p ps e1 e2
   rw [aEf hfg d e1, pysR_le hfg ds e2]
   exact h
  ·cases h
end
end Lw
namespace Lw
open PySem PySem.Spec PyProof.Rows L2 Pc Lb
def aEi (h : Nat) (s : yS) (a v : Nat) : List Nat := (Y9 h s v).filter fun c => aGb (aBU s a c)
inductive Mark where
 | one (a v : Nat) | two (a v c d : Nat)
def Mark.a : Mark → Nat
 | .one a _ => a
 | .two a _ _ _ => a
def Mark.v : Mark → Nat
 | .one _ v => v
 | .two _ v _ _ => v
def Mark.key : Mark → List Key
 | .one a v => [.inl (a : Nat), .inl (v : Nat)]
 | .two a v c d => [.inl (a : Nat), .inl (v : Nat), .inl (c : Nat), .inl (d : Nat)]
def Mark.hold (h : Nat) (s : yS) : Mark → Prop
 | .one a v => Y9 h s v ≠ [] ∧ aEi h s a v = []
 | .two a v c d => c ∈ aEi h s a v ∧ d ∈ aEi h s a v ∧ c ≠ d
section
variable {m : Mo} {b : Int} {h Q : Nat} {x : Wx} {ts : List GQ} {u : GQ} {a v c d t : Nat} {mk : Mark} {s1 s2 : yS} {ds : List sM} {ls : List RU}
def Mark.most (m : Mo) (b : Int) (h : Nat) : Mark → Nat
 | .one _ _ => aFS m b h
 | .two _ _ _ _ => aFT m
end
def aAF : MS :=
 (aI (aT (aD bH (aD aV (aB 0) (eC (.str ("at" : Str)))) (eC (.int 1))) (dQ (aB 0) (eC (.str ("at" : Str)))))
 (aI (aT (aD aV (aB 0) (eC (.str ("at" : Str)))) (aU 2))
 (aI (aT (aD aV (aB 0) (eC (.str ("cells" : Str)))) (aU 3))
 (aI (aT (aD bH (aD aV (aB 0) (eC (.str ("sum" : Str)))) (aB 2)) (aU 4))
 (aI (dR (a8 (aD qX (aB 3) (fP aE))) (aI (aT (cL "list" AV (aB 3) (aA (eC (.int 0)) aE)) (aU 4))
 (dR (a8 (aD geM (aB 4) (aD TN (eC (.int 10)) (eC (.int 18))))) (aI (cS (cL "list" vX (aB 3) (aA (eC (.int 0)) (aA (aD wR (aB 4) (aB 1)) aE))))
 (aY (aD kH (aB 4) (aB 1)))) aX)) aX)
 (aI (aT (aD kH (aD bH (aD bH (aD mulM (aD kH (aB 4) (eC (.int 2147483647))) (eC (.int 48271))) (aD mulM (aD mulM (eC (.int 69621)) (aB 2)) (aB 2))) (eC (.int 7919))) (eC (.int 2147483629))) (aU 5))
 (aI (aT (aD kH (aD mulM (aB 5) (aB 5)) (eC (.int 2147483587))) (aU 5))
 (aY (aD kH (aD wR (aD kH (aD mulM (aB 5) (aD bH (aB 5) (eC (.int 39373)))) (eC (.int 2147483563))) (eC (.int 64))) (aB 1))))))))))
def YR : List Str := [("_law_deck_here" : Str), ("_law_bound" : Str), ("_law_at" : Str), ("_law_cells" : Str), ("_law_seed" : Str), ("_law_number" : Str)]
def tF : MF := bL aAF YR
def sY (c : Nat) (a sm : Int) : List (L2.Key × D) := [(.inr ("cells" : Str), .ref c), (.inr ("at" : Str), .int a), (.inr ("sum" : Str), .int sm)]
def eB (w : W) (r c b : Nat) : Prop := r ≠ c ∧ ∃ (cells : List Int) (sm : Int) (a : Nat), w[r]? = some (.dK (sY c a sm)) ∧ w[c]? = some (.lst (cells.map D.int)) ∧ cells.length ≤ 63 ∧ a + b ≤ 2 ^ 60
section
variable {w w' : W} {P : D → W → Prop} {r c b : Nat} {size : Int}
theorem aGO (x0 x1 : D) : begin YR [x0, x1] = [some x0, some x1, none, none, none, none] := rfl
theorem aF3 : T (TN (.int 10) (.int 18) w) P = P (.int (10 ^ 18)) w := by
 have : TN (.int 10) (.int 18) w = .ok (.int (10 ^ 18)) w := by unfold TN; rfl
 rw [this, bY]
theorem DT {a c : Int} (h : -(2 ^ 64) < a ∧ a < 2 ^ 64) : EK a c = true := by
 unfold EK
 rw [decide_eq_true h.1, decide_eq_true h.2]
 rfl
theorem VP {a c : Int} (h : -(2 ^ 64) < c ∧ c < 2 ^ 64) : EK a c = true := by
 unfold EK
 rw [decide_eq_true h.1, decide_eq_true h.2]
 simp
theorem X8 {cell a : Int} {s3 : Option D} (h0 : 0 < size) (ha : 0 ≤ a ∧ a < 2 ^ 61) (hP : ∀ v, 0 ≤ v → v < size → P (.int v) w) :
  T (aI (aT (aD kH (aD bH (aD bH (aD mulM (aD kH (aB 4) (eC (.int 2147483647))) (eC (.int 48271))) (aD mulM (aD mulM (eC (.int 69621)) (aB 2)) (aB 2))) (eC (.int 7919))) (eC (.int 2147483629))) (aU 5))
 (aI (aT (aD kH (aD mulM (aB 5) (aB 5)) (eC (.int 2147483587))) (aU 5))
 (aY (aD kH (aD wR (aD kH (aD mulM (aB 5) (aD bH (aB 5) (eC (.int 39373)))) (eC (.int 2147483563))) (eC (.int 64))) (aB 1))))
   [some (.ref r), some (.int size), some (.int a), s3, some (.int cell), none] w) fun f w1 => match f with
   | .nx _ => P .non w1
   | .rt d => P d w1
   | _ => False := by
 rw [bA]
 simp only [wU, y7, mV, q9, zY, ae, ab, reduceCtorEq]
 refine ⟨by omega, VP ⟨by omega, by omega⟩, DT ⟨by omega, by omega⟩, VP ⟨by omega, by omega⟩, by omega, ?_⟩
 obtain ⟨n, en⟩ : ∃ n, n = (cell % 2147483647 * 48271 + 69621 * a * a + 7919) % 2147483629 := ⟨_, rfl⟩
 have n0 : 0 ≤ n ∧ n < 2147483629 := by
  rw [en]
  exact ⟨Int.emod_nonneg _ (by omega), Int.emod_lt_of_pos _ (by omega)⟩
 rw [← en, bA]
 simp only [wU, y7, mV, q9, zY, ae, ab, reduceCtorEq]
 obtain ⟨m, em⟩ : ∃ m, m = n * n % 2147483587 := ⟨_, rfl⟩
 have m0 : 0 ≤ m ∧ m < 2147483587 := by
  rw [em]
  exact ⟨Int.emod_nonneg _ (by omega), Int.emod_lt_of_pos _ (by omega)⟩
 rw [← em]
 refine ⟨DT ⟨by omega, by omega⟩, by omega, ?_⟩
 try simp only [wU, y7, mV, q9, zY, ae, ab, reduceCtorEq]
 refine ⟨DT ⟨by omega, by omega⟩, by omega, ⟨by omega, by omega⟩, h0, hP _ (Int.emod_nonneg _ (by omega)) (Int.emod_lt_of_pos _ h0)⟩
theorem fV (h : eB w r c (b + 1)) (h0 : 0 < size) (h1 : size < 1073741824) (hP : ∀ v w', 0 ≤ v → v < size → eB w' r c b → Pc.Kept w w' r c → P (.int v) w') : T (tF [.ref r, .int size] w) P := by
 obtain ⟨ne, cells, sm, a, hr, hc, hl, hb⟩ := h
 have lr := (ag.mp hr).1
 have lc := (ag.mp hc).1
 unfold tF aAF
 rw [dI, aGO, bA]
 simp only [J0 hr, zY, ae, ab, reduceCtorEq]
 refine ⟨.int a, rfl, ?_⟩
 simp only [mV, zY, ae, ab, reduceCtorEq]
 rw [aEo hr]
 have ek : putD (sY c a sm) (.inr ("at" : Str)) (.int ((a : Int) + 1)) = sY c ((a + 1 : Nat) : Int) sm := rfl
 rw [ek]
 refine ⟨by rw [sizeLine_eq]; unfold sY; simp, ?_⟩
 obtain ⟨w1, e1⟩ : ∃ w1, w1 = w.set r (.dK (sY c ((a + 1 : Nat) : Int) sm)) := ⟨_, rfl⟩
 have hr1 : w1[r]? = some (.dK (sY c ((a + 1 : Nat) : Int) sm)) := by rw [e1]; exact au lr
 have hc1 : w1[c]? = some (.lst (cells.map D.int)) := by rw [e1, av ne]; exact hc
 have k1 : Pc.Kept w w1 r c := ⟨by rw [e1, ck], fun i h2 _ => by rw [e1, av (Ne.symm h2)]⟩
 rw [← e1, bA]
 simp only [J0 hr1, zY, ae, ab, reduceCtorEq]
 refine ⟨.int ((a + 1 : Nat) : Int), rfl, ?_⟩
 try simp only [zY, ae, ab, reduceCtorEq]
 rw [bA]
 simp only [J0 hr1, zY, ae, ab, reduceCtorEq]
 refine ⟨.ref c, rfl, ?_⟩
 try simp only [zY, ae, ab, reduceCtorEq]
 rw [bA]
 simp only [J0 hr1, zY, ae, ab, reduceCtorEq]
 refine ⟨.int sm, rfl, ?_⟩
 simp only [mV, zY, ae, ab, reduceCtorEq]
 rw [bA]
 have fin : ∀ (cell : Int) (w2 : W), eB w2 r c b → Pc.Kept w w2 r c → T (aI (aT (aD kH (aD bH (aD bH (aD mulM (aD kH (aB 4) (eC (.int 2147483647))) (eC (.int 48271))) (aD mulM (aD mulM (eC (.int 69621)) (aB 2)) (aB 2))) (eC (.int 7919))) (eC (.int 2147483629))) (aU 5))
 (aI (aT (aD kH (aD mulM (aB 5) (aB 5)) (eC (.int 2147483587))) (aU 5))
 (aY (aD kH (aD wR (aD kH (aD mulM (aB 5) (aD bH (aB 5) (eC (.int 39373)))) (eC (.int 2147483563))) (eC (.int 64))) (aB 1))))
   [some (.ref r), some (.int size), some (.int ((a + 1 : Nat) : Int)), some (.ref c), some (.int cell), none] w2) fun f w1 => match f with
   | .nx _ => P .non w1
   | .rt d => P d w1
   | _ => False := fun cell w2 d2 k2 => X8 h0 ⟨by omega, by omega⟩ fun v v0 v1 => hP v w2 v0 v1 d2 k2
 have d1 : eB w1 r c b := ⟨ne, cells, sm, a + 1, hr1, hc1, hl, by omega⟩
 rcases cells with _ | ⟨z, zs⟩
 ·simp only [Pc.ne_nil hc1, bY, List.isEmpty_nil, Bool.not_true, zY, ae, ab, reduceCtorEq]
  exact fin _ w1 d1 k1
 ·obtain ⟨w2, e2⟩ : ∃ w2, w2 = w1.set c (.lst (zs.map D.int)) := ⟨_, rfl⟩
  have lc1 : c < w1.length := by rw [k1.1]; exact lc
  have hr2 : w2[r]? = some (.dK (sY c ((a + 1 : Nat) : Int) sm)) := by rw [e2, av (Ne.symm ne)]; exact hr1
  have hc2 : w2[c]? = some (.lst (zs.map D.int)) := by rw [e2]; exact au lc1
  have k2 : Pc.Kept w w2 r c := ⟨by rw [e2, ck]; exact k1.1, fun i h2 h3 => by rw [e2, av (Ne.symm h3)]; exact k1.2 i h2 h3⟩
  have lz : zs.length + 1 ≤ 63 := by simpa using hl
  have d2 : eB w2 r c b := ⟨ne, zs, sm, a + 1, hr2, hc2, by omega, by omega⟩
  have ep : AV (.ref c) [.int 0] w1 = .ok (.int z) w2 := by
   unfold AV
   simp only [hc1]
   rw [if_pos (by omega), e2]
   have es : seqIndex? 0 ((z :: zs).map D.int).length = some 0 := by
    unfold seqIndex?
    simp
   rw [es]
   rfl
  simp only [Pc.ne_nil hc1, bY, List.isEmpty_cons, Bool.not_false, zY, ae, ab, reduceCtorEq]
  rw [bA]
  simp only [tyL hc1, ep, bY, zY, ae, ab, reduceCtorEq]
  simp only [aF3, WL, zY, ae, ab, reduceCtorEq]
  split
  ·rw [bA]
   simp only [tyL hc2, q9, zY, ae, ab, reduceCtorEq]
   refine ⟨⟨h0, h1⟩, ?_⟩
   obtain ⟨w3, e3⟩ : ∃ w3, w3 = w2.set c (.lst ((z / size :: zs).map D.int)) := ⟨_, rfl⟩
   have lc2 : c < w2.length := by rw [k2.1]; exact lc
   have ei : vX (.ref c) [.int 0, .int (z / size)] w2 = .ok .non w3 := by
    unfold vX
    simp only [hc2]
    rw [if_pos ⟨by rw [sizeLine_eq, ao]; omega, by omega, by omega⟩, e3]
    rfl
   have hr3 : w3[r]? = some (.dK (sY c ((a + 1 : Nat) : Int) sm)) := by rw [e3, av (Ne.symm ne)]; exact hr2
   have hc3 : w3[c]? = some (.lst ((z / size :: zs).map D.int)) := by rw [e3]; exact au lc2
   have k3 : Pc.Kept w w3 r c := ⟨by rw [e3, ck]; exact k2.1, fun i h2 h3 => by rw [e3, av (Ne.symm h3)]; exact k2.2 i h2 h3⟩
   simp only [ei, bY, wU, zY, ae, ab, reduceCtorEq]
   exact ⟨h0, hP _ w3 (Int.emod_nonneg _ (by omega)) (Int.emod_lt_of_pos _ h0) ⟨ne, z / size :: zs, sm, a + 1, hr3, hc3, by simpa using lz, by omega⟩ k3⟩
  ·exact fin _ w2 d2 k2
def Z8 : List Str := [("_law_deck_here" : Str), ("_law_some" : Str)]
def ZT : MS := (aY (aD aV (aB 1) (aK tF 2 aN (aA (aB 0) (aA (aR c7 (aA (aB 1) aE)) aE)))))
def UG : MF := bL ZT Z8
theorem LG {xs : List D} (h : eB w r c (b + 1)) (h0 : xs ≠ []) (h1 : xs.length < 1073741824) (hP : ∀ x w', x ∈ xs → eB w' r c b → Pc.Kept w w' r c → P x w') : T (UG [.ref r, .lst xs] w) P := by
 have bb : begin Z8 [.ref r, .lst xs] = [some (.ref r), some (.lst xs)] := rfl
 have l0 : 0 < xs.length := List.length_pos_iff.mpr h0
 unfold UG ZT
 rw [dI, bb]
 simp only [aGp, zY, ae, ab, reduceCtorEq]
 refine fV h (by omega) (by omega) fun v w' v0 v1 d' k' => ?_
 obtain ⟨i, x, e1, e2, _⟩ := atI_nat v0 v1
 simp only [wX, xA, zY, ae, ab, reduceCtorEq]
 exact ⟨x, e2, hP x w' (bw e1) d' k'⟩
def aAu : List Str := [("_law_script" : Str), ("_law_cells" : Str)]
def aBs : MS :=
 (aI (aT (aR E5 (aA (qF mS (aB 0) dB (cR (eC (.int 63)))) aE)) (aU 1))
 (aY (G8 (dP (eC (.str ("cells" : Str))) (aB 1) (dP (eC (.str ("at" : Str))) (eC (.int 0)) (dP (eC (.str ("sum" : Str))) (aD bH (aD kH (aR Q9 (aA (aB 1) aE)) (eC (.int 2147483629))) (aD mulM (eC (.int 17)) (aR c7 (aA (aB 1) aE)))) HJ))))))
def UL : MF := bL aBs aAu
theorem aFI (x0 : D) : begin aAu [x0] = [some x0, none] := rfl
theorem aCe {ns : List Int} (hn : ns.length ≤ 63) : T (UL [.qG (ns.map D.int)] []) fun d w => d = .ref 1 ∧ w.length = 2 ∧ eB w 1 0 (2 ^ 59) := by
 obtain ⟨ms, e1, e2⟩ := aCW (ns := ns) (lo := none) (hi := some 63)
 have sl : mS (.qG (ns.map D.int)) none (some 63) [] = .ok (.lst (ms.map D.int)) [] := by simp only [mS, e1]
 have ln : E5 [.lst (ms.map D.int)] [] = .ok (.ref 0) [.lst (ms.map D.int)] := rfl
 have h0 : ([MO.lst (ms.map D.int)] : W)[0]? = some (.lst (ms.map D.int)) := rfl
 have hl : ms.length ≤ 63 := by omega
 unfold UL aBs
 rw [dI, aFI, bA]
 simp only [sl, ln, bY, zY, ae, ab, reduceCtorEq]
 have sm : Q9 [.ref 0] [MO.lst (ms.map D.int)] = .ok (.int ms.sum) [MO.lst (ms.map D.int)] := by
  have : xD (.ref 0) [MO.lst (ms.map D.int)] = some (ms.map D.int) := rfl
  simp only [Q9, this, Option.bind_some, Pc.vL]
 have lm : c7 [.ref 0] [MO.lst (ms.map D.int)] = .ok (.int ms.length) [MO.lst (ms.map D.int)] := by simp [c7, EU]
 simp only [sm, lm, bY, wU, y7, mV]
 exact ⟨by omega, DT ⟨by omega, by omega⟩, _, rfl, by simp, rfl, rfl, by omega, ms, _, 0, rfl, rfl, hl, by omega⟩
end
end Lw
namespace Lb
open PySem PySem.Spec PyProof.Rows L2 Pc Lw
def gJ : D → List D
 | .tup ys => ys
 | _ => []
def BD : D → Bool
 | .tup ys => decide (ys.length ≤ 6)
 | _ => false
def kR : D → Bool
 | .tup xs => (decide (1 ≤ xs.length) && decide (xs.length ≤ 4)) && (xs.all BD && (!((xs.map gJ).headD []).isEmpty && (xs.all (fun r => (gJ r).length == ((xs.map gJ).headD []).length) && (xs.flatMap gJ).all (bB 1 12))))
 | _ => false
section
variable {w : W} {P : D → W → Prop} (k : bN) {n : Nat} {d : D}
theorem aCj {ys : List D} (h : ∀ y ∈ ys, nY n y = true) (hn : n ≤ 60) : T (fN (.tup ys) (.tup []) w) P = P (.bl ys.isEmpty) w := by
 rw [D2, A8]
 simp
theorem VQ (hn : n ≤ 50) (e : nY (n + 2) d = true) (hP : P (.bl (kR d)) w) : T (fK k [d] w) P := by
 unfold fK mE
 rw [dI, NI, bA]
 simp only [U7 e, zY, ae, ab, reduceCtorEq]
 cases d <;> simp only [EO, kR, zY, ae, ab, reduceCtorEq] at hP ⊢ <;> first | exact hP | skip
 rename_i xs
 obtain ⟨e1, e2⟩ := DU e
 try simp only [TB, zY, ae, ab, reduceCtorEq]
 by_cases c1 : 1 ≤ xs.length ∧ xs.length ≤ 4
 case neg =>
  have hf : (decide (1 ≤ xs.length) && decide (xs.length ≤ 4)) = false := by
   rw [Bool.and_eq_false_iff]
   simp only [decide_eq_false_iff_not]
   omega
  rw [hf, Bool.false_and] at hP
  split
  ·split
   ·exact hP
   ·rename_i h1 h2
    simp at h1 h2
    omega
  ·exact hP
 have i1 : decide ((1 : Int) ≤ (xs.length : Nat)) = true := by simp; omega
 have i2 : decide (((xs.length : Nat) : Int) ≤ 4) = true := by simp; omega
 have j1 : decide (1 ≤ xs.length) = true := by simp [c1.1]
 have j2 : decide (xs.length ≤ 4) = true := by simp [c1.2]
 simp only [i1, i2, j1, j2, Bool.true_and, Bool.not_true, zY, ae, ab, reduceCtorEq] at hP ⊢
 rw [bA]
 simp only [uP, zY, ae, ab, reduceCtorEq]
 refine ⟨rW _ (by omega), ?_⟩
 refine fH (it := ⟨xs, always⟩) xs (fun x => x) (fun x => .bl (BD x)) (by simp) trivial (fun x hx => ?_) ?_
 ·simp only [c0, U7 (e1 x hx), zY, ae, ab, reduceCtorEq]
  have ok := e1 x hx
  cases x <;> simp only [EO, BD, zY, ae, ab, reduceCtorEq]
  rename_i ys
  try simp only [TB, zY, ae, ab, reduceCtorEq]
  simp
  omega
 rw [AZ xs BD]
 cases c2 : xs.all BD with
 | false =>
  rw [c2, Bool.false_and] at hP
  simp only [Bool.not_false, zY, ae, ab, reduceCtorEq]
  exact hP
 | true =>
 rw [c2, Bool.true_and] at hP
 simp only [Bool.not_true, zY, ae, ab, reduceCtorEq]
 rw [bj] at c2
 have rows : ∃ rs : List (List D), xs = rs.map D.tup := by
  refine ⟨xs.map gJ, ?_⟩
  rw [List.map_map]
  refine (List.map_id' xs).symm.trans (List.map_congr_left fun x hx => ?_)
  have := c2 x hx
  cases x <;> first | rfl | (simp [BD] at this; done)
 obtain ⟨rs, rfl⟩ := rows
 obtain ⟨r0, rest, rfl⟩ : ∃ r0 rest, rs = r0 :: rest := by
  cases rs with
  | nil => simp at c1
  | cons a b => exact ⟨a, b, rfl⟩
 have f6 : ∀ r ∈ r0 :: rest, r.length ≤ 6 := fun r hr => by
  have := c2 (.tup r) (List.mem_map_of_mem hr)
  simpa [BD] using this
 have o1 : ∀ r ∈ r0 :: rest, ∀ x ∈ r, nY n x = true := fun r hr x hx => (DU (e1 (.tup r) (List.mem_map_of_mem hr))).1 x hx
 rw [bA]
 simp only [List.map_cons, at0, zY, ae, ab, reduceCtorEq]
 rw [aCj (o1 r0 (bc ..)) (by omega)]
 rw [show ((((r0 :: rest).map D.tup).map gJ).headD []) = r0 from rfl] at hP
 cases c3 : r0.isEmpty with
 | true =>
  rw [c3] at hP
  simp only [Bool.not_true, Bool.false_and, zY, ae, ab, reduceCtorEq] at hP ⊢
  exact hP
 | false =>
 rw [c3] at hP
 simp only [Bool.not_false, Bool.true_and, zY, ae, ab, reduceCtorEq] at hP ⊢
 refine ⟨by rw [sizeLine_eq]; simp at c1 ⊢; omega, ?_⟩
 refine fH (it := ⟨(r0 :: rest).map D.tup, always⟩) (r0 :: rest) D.tup (fun r => .bl (r.length == r0.length)) rfl trivial (fun r hr => ?_) ?_
 ·simp only [c0, TB, at0, zY, ae, ab, reduceCtorEq]
  congr 1
  rw [Bool.eq_iff_iff]
  simp only [beq_iff_eq]
  omega
 rw [AZ (r0 :: rest) fun r => r.length == r0.length]
 have ea : (((r0 :: rest).map D.tup).all fun r => (gJ r).length == r0.length) = (r0 :: rest).all fun r => r.length == r0.length := by
  rw [List.all_map]
  rfl
 rw [ea] at hP
 cases c4 : (r0 :: rest).all fun r => r.length == r0.length with
 | false =>
  rw [c4] at hP
  simp only [Bool.not_false, Bool.false_and, zY, ae, ab, reduceCtorEq] at hP ⊢
  exact hP
 | true =>
 rw [c4] at hP
 simp only [Bool.not_true, Bool.true_and, zY, ae, ab, reduceCtorEq] at hP ⊢
 have ef : (((r0 :: rest).map D.tup).flatMap gJ) = (r0 :: rest).flatMap fun r => r := by
  rw [List.flatMap_map]
  rfl
 rw [ef] at hP
 simp only [aB7, uP, zY, ae, ab, reduceCtorEq]
 refine ZE (it := ⟨(r0 :: rest).map D.tup, always⟩) D.tup (fun r => r) (fun x => x) (fun _ x => .bl (bB 1 12 x)) (r0 :: rest) [] trivial ?_ (fun r hr => ?_) ?_
 ·have : ∀ l : List (List D), (∀ r ∈ l, r.length ≤ 6) → (l.map fun r => r.length).sum ≤ l.length * 6 := by
   intro l
   induction l with
   | nil => simp
   | cons a l ih =>
    intro hl
    have h1 := hl a (bc ..)
    have h2 := ih fun r hr => hl r (bh _ hr)
    rw [List.map_cons, List.sum_cons, List.length_cons, Nat.succ_mul]
    omega
  have h1 := this _ f6
  have h2 := c1.2
  rw [ao] at h2
  rw [sizeLine_eq, List.length_nil]
  omega
 ·simp only [c0, uP, zY, ae, ab, reduceCtorEq]
  exact ⟨⟨trivial, (List.map_id' r).symm⟩, fun z hz => by rw [qM 1 12 (o1 r hr z hz)]; exact ⟨rfl, rfl⟩⟩
 ·rw [List.nil_append]
  have eb : ((r0 :: rest).flatMap fun r => r.map fun x => D.bl (bB 1 12 x)) = ((r0 :: rest).flatMap fun r => r).map fun x => D.bl (bB 1 12 x) := by
   rw [List.map_flatMap]
  rw [eb, AZ ((r0 :: rest).flatMap fun r => r) (bB 1 12)]
  exact hP
def qN (h : Int) (d : D) : Bool := match d with
 | .tup [a, c, l] => bB 0 (h - 1) a && (bB 0 9 c && bB 1 11 l)
 | _ => false
def numsOf : D → Int × Int
 | .tup [.int a, .int c, _] => (a, c)
 | _ => (0, 0)
def mR : List (Int × Int) → Bool
 | p :: q :: r => HT.lexLt [p.1, p.2] [q.1, q.2] && mR (q :: r)
 | _ => true
def sG (h : Int) (d : D) : Bool := match d with
 | .tup xs => !decide (6 < xs.length) && (xs.all (qN h) && mR (xs.map numsOf))
 | _ => false
theorem aDO {h : Int} (e : nY (n + 1) d = true) (hP : P (.bl (qN h d)) w) : T (jI k [d, .int h] w) P := by
 unfold jI uM
 rw [dI, X1, bA]
 simp only [U7 e, zY, ae, ab, reduceCtorEq]
 cases d <;> simp only [EO, qN, zY, ae, ab, reduceCtorEq] at hP ⊢ <;> first | exact hP | skip
 rename_i xs
 obtain ⟨e1, e2⟩ := DU e
 try simp only [TB, ZY, zY, ae, ab, reduceCtorEq]
 by_cases c : xs.length = 3
 case neg =>
  have i1 : (!(((xs.length : Nat) : Int) == 3)) = true := by
   have : ¬ ((xs.length : Nat) : Int) = 3 := by omega
   simpa using this
  rw [if_pos i1]
  have hf : (match D.tup xs with
   | D.tup [a, c, l] => bB 0 (h - 1) a && (bB 0 9 c && bB 1 11 l)
   | _ => false) = false := by
   split
   ·rename_i a c' l e
    cases e
    exact absurd rfl c
   ·rfl
  rw [hf] at hP
  exact hP
 obtain ⟨a, c', l, rfl⟩ : ∃ a c' l, xs = [a, c', l] := by
  match xs, c with
  | [a, c', l], _ => exact ⟨a, c', l, rfl⟩
 have ha := e1 a (by simp)
 have hc := e1 c' (by simp)
 have hl := e1 l (by simp)
 rw [if_neg (by simp), bA]
 simp only [FF, qM _ _ ha, qM _ _ hc, qM _ _ hl, zY, ae, ab, reduceCtorEq] at hP ⊢
 revert hP
 cases bB 0 (h - 1) a <;> cases bB 0 9 c' <;> simp
theorem aDW {h : Int} (e : qN h d = true) : ∃ t : Int × Int × Int, d = cI t := by
 unfold qN at e
 split at e
 ·rename_i a c l
  simp only [aj] at e
  obtain ⟨e1, e2, e3⟩ := e
  cases a <;> first | (simp [bB] at e1; done) | skip
  cases c <;> first | (simp [bB] at e2; done) | skip
  cases l <;> first | (simp [bB] at e3; done) | skip
  exact ⟨(_, _, _), rfl⟩
 ·cases e
theorem IP : ∀ ts : List (Int × Int), ((ts.dropLast.zip ts.tail).all fun p => HT.lexLt [p.1.1, p.1.2] [p.2.1, p.2.2]) = mR ts
 | [] => rfl
 | [a] => rfl
 | a :: b :: ts => by
  have := IP (b :: ts)
  simp only [List.dropLast_cons₂, List.tail_cons, List.zip_cons_cons, List.all_cons, mR] at this ⊢
  rw [this]
theorem aD1 {h : Int} (e : nY (n + 2) d = true) (hP : P (.bl (sG h d)) w) : T (kT k [d, .int h] w) P := by
 unfold kT nO
 rw [dI, QE, bA]
 simp only [U7 e, zY, ae, ab, reduceCtorEq]
 cases d <;> simp only [EO, sG, zY, ae, ab, reduceCtorEq] at hP ⊢ <;> first | exact hP | skip
 rename_i xs
 obtain ⟨e1, e2⟩ := DU e
 try simp only [TB, zY, ae, ab, reduceCtorEq]
 by_cases c1 : 6 < xs.length
 ·have i1 : decide (((xs.length : Nat) : Int) > 6) = true := by simp; omega
  have j1 : decide (6 < xs.length) = true := by simp [c1]
  simp only [i1, j1, Bool.not_true, Bool.false_and, zY, ae, ab, reduceCtorEq] at hP ⊢
  exact hP
 have i1 : decide (((xs.length : Nat) : Int) > 6) = false := by simp; omega
 have j1 : decide (6 < xs.length) = false := by simp; omega
 simp only [i1, j1, Bool.not_false, Bool.true_and, uP, zY, ae, ab, reduceCtorEq] at hP ⊢
 refine ⟨rW _ (by omega), ?_⟩
 refine fH (it := ⟨xs, always⟩) xs (fun x => x) (fun x => .bl (qN h x)) (by simp) trivial (fun x hx => ?_) ?_
 ·simp only [c0, zY, ae, ab, reduceCtorEq]
  refine aDO k (e1 x hx) ?_
  exact ⟨rfl, rfl⟩
 rw [AZ xs (qN h)]
 cases c2 : xs.all (qN h) with
 | false =>
  rw [c2, Bool.false_and] at hP
  simp only [Bool.not_false, zY, ae, ab, reduceCtorEq]
  exact hP
 | true =>
 rw [c2, Bool.true_and] at hP
 simp only [Bool.not_true, zY, ae, ab, reduceCtorEq]
 rw [bj] at c2
 obtain ⟨ts, rfl⟩ : ∃ ts : List (Int × Int × Int), xs = ts.map cI := by
  clear hP e e1 e2 c1 i1 j1
  induction xs with
  | nil => exact ⟨[], rfl⟩
  | cons x xs ih =>
   obtain ⟨t, rfl⟩ := aDW (c2 x (bc ..))
   obtain ⟨ts, rfl⟩ := ih fun y hy => c2 y (bh _ hy)
   exact ⟨t :: ts, rfl⟩
 simp only [aCb, aCk, aGH, bY, zY, ae, ab, reduceCtorEq]
 refine ⟨by simp, ?_, ?_⟩
 ·refine rW _ ?_
  simp at c1 ⊢
  omega
 have e5 : (List.zip (ts.map cI).dropLast (ts.map cI).tail).map (fun p => D.tup [p.1, p.2]) = (ts.dropLast.zip ts.tail).map fun p => D.tup [cI p.1, cI p.2] := by
  rw [← List.map_dropLast, ← List.map_tail, List.zip_map, List.map_map]
  rfl
 rw [e5]
 refine fH (it := ⟨_, always⟩) (ts.dropLast.zip ts.tail) (fun p => .tup [cI p.1, cI p.2]) (fun p => .bl (HT.lexLt [p.1.1, p.1.2.1] [p.2.1, p.2.2.1])) rfl trivial (fun p _ => ?_) ?_
 ·simp only [c0, aEg, aBN, bY, zY, ae, ab, reduceCtorEq]
 rw [AZ (ts.dropLast.zip ts.tail) fun p => HT.lexLt [p.1.1, p.1.2.1] [p.2.1, p.2.2.1]]
 have e6 : ((ts.map cI).map numsOf) = ts.map fun t => (t.1, t.2.1) := by
  rw [List.map_map]
  rfl
 rw [e6, ← IP, ← List.map_dropLast, ← List.map_tail, List.zip_map, List.all_map] at hP
 exact hP
end
end Lb
namespace Lw
open PySem PySem.Spec PyProof.Rows L2 Pc Lb
open PySem.W (dataLe)
section
variable {us : List (Int × Int × Int)}
def apart2 (a b : Int × Int × Int) : Prop := ¬ (a.1 = b.1 ∧ a.2.1 = b.2.1)
theorem aFf {a b : Int × Int × Int} (h : a.1 < b.1 ∨ (a.1 = b.1 ∧ a.2.1 < b.2.1)) : HT.lexLt [a.1, a.2.1] [b.1, b.2.1] = true := by
 simp only [HT.lexLt_cons, HT.lexLt_nil_nil]
 rcases h with h | ⟨h1, h2⟩
 ·rw [if_neg (by omega)]; simpa using h
 ·rw [if_pos h1, if_neg (by omega)]; simpa using h2
theorem O7 : ∀ {us : List (Int × Int × Int)}, (us.Pairwise fun a b => HT.lexLt [a.1, a.2.1] [b.1, b.2.1] = true) → mR (us.map fun t => (t.1, t.2.1)) = true
 | [], _ => rfl
 | [a], _ => rfl
 | a :: b :: us, h => by
  rw [List.pairwise_cons] at h
  have h1 := h.1 b (bc ..)
  have h2 := O7 h.2
  simp only [List.map_cons, mR, aj] at h2 ⊢
  exact ⟨h1, h2⟩
theorem SG (nd : us.Pairwise apart2) : mR ((us.mergeSort GN).map fun t => (t.1, t.2.1)) = true := by
 have p := List.mergeSort_perm us GN
 have h2 : (us.mergeSort GN).Pairwise apart2 := (p.pairwise_iff fun {a b} hab => fun e => hab ⟨e.1.symm, e.2.symm⟩).mpr nd
 refine O7 ((P8.and h2).imp fun {a b} ⟨g1, g2⟩ => aFf ?_)
 obtain ⟨a1, a2, a3⟩ := a
 obtain ⟨b1, b2, b3⟩ := b
 unfold apart2 at g2
 simp only [l3, List.cons_le_cons_iff] at g1 ⊢
 simp only [not_and] at g2
 rcases g1 with g | ⟨rfl, g | ⟨rfl, _⟩⟩
 ·exact .inl g
 ·exact .inr ⟨rfl, g⟩
 ·exact absurd rfl (g2 rfl)
theorem OQ {h : Int} (nd : us.Pairwise apart2) (few : us.length ≤ 6) (each : ∀ t ∈ us, (0 ≤ t.1 ∧ t.1 < h) ∧ (0 ≤ t.2.1 ∧ t.2.1 ≤ 9) ∧ (1 ≤ t.2.2 ∧ t.2.2 ≤ 11)) : sG h (.tup ((us.mergeSort GN).map cI)) = true := by
 have p := List.mergeSort_perm us GN
 have e6 : (((us.mergeSort GN).map cI).map Lb.numsOf) = (us.mergeSort GN).map fun t => (t.1, t.2.1) := by
  rw [List.map_map]
  rfl
 simp only [sG, aj, Bool.not_eq_true', decide_eq_false_iff_not, bj]
 refine ⟨by rw [ao, p.length_eq]; omega, fun d hd => ?_, by rw [e6]; exact SG nd⟩
 obtain ⟨t, ht, rfl⟩ := bx.mp hd
 have e := each t (p.mem_iff.mp ht)
 simp only [cI, qN, bB, aj, ak]
 omega
def cO (ps : List (Int × Int × Int)) : List (List Key × D) := ps.map fun t => ([.inl t.1, .inl t.2.1], .int t.2.2)
def wJ (t u : Int × Int × Int) : Bool := decide (u.1 = t.1 ∧ u.2.1 = t.2.1)
def HU (us : List (Int × Int × Int)) (t : Int × Int × Int) : List (Int × Int × Int) := if us.any (wJ t) = true then us.map fun u => if wJ t u = true then (u.1, u.2.1, t.2.2) else u else us ++ [t]
theorem qT {t u : Int × Int × Int} : (([.inl u.1, .inl u.2.1] : List Key) = [.inl t.1, .inl t.2.1]) ↔ wJ t u = true := by
 unfold wJ
 simp
theorem IW (t : Int × Int × Int) : ∀ us, (jH (cO us) [.inl t.1, .inl t.2.1]).isSome = us.any (wJ t)
 | [] => rfl
 | u :: us => by
  have ih := IW t us
  have e : cO (u :: us) = ([.inl u.1, .inl u.2.1], .int u.2.2) :: cO us := rfl
  rw [e, List.any_cons, ← ih]
  conv => lhs; unfold jH
  by_cases c : wJ t u = true
  ·rw [if_pos (qT.mpr c), c]
   rfl
  ·have n : ¬ (([.inl u.1, .inl u.2.1] : List Key) = [.inl t.1, .inl t.2.1]) := fun e => c (qT.mp e)
   rw [Bool.not_eq_true] at c
   rw [if_neg n, c, Bool.false_or]
theorem aCD (t : Int × Int × Int) (us : List (Int × Int × Int)) : putD (cO us) [.inl t.1, .inl t.2.1] (.int t.2.2) = cO (HU us t) := by
 unfold putD HU
 rw [IW]
 split
 ·unfold cO
  rw [List.map_map, List.map_map]
  refine List.map_congr_left fun u _ => ?_
  simp only [Function.comp]
  by_cases c : wJ t u = true
  ·rw [if_pos c]
   first | rw [if_pos (qT.mpr c)] | simp [qT.mpr c]
  ·rw [if_neg c]
   have n : ¬ (([.inl u.1, .inl u.2.1] : List Key) = [.inl t.1, .inl t.2.1]) := fun e => c (qT.mp e)
   first | rw [if_neg n] | simp [n]
 ·unfold cO
  rw [cu]
  rfl
theorem aAm {t u : Int × Int × Int} {us : List (Int × Int × Int)} (h : u ∈ HU us t) : (u.1 = t.1 ∧ u.2.1 = t.2.1 ∧ u.2.2 = t.2.2) ∨ u ∈ us := by
 unfold HU at h
 split at h
 ·obtain ⟨x, hx, e⟩ := bx.mp h
  split at e
  ·rename_i c
   simp only [wJ, ak] at c
   subst e
   exact .inl ⟨c.1, c.2, rfl⟩
  ·subst e
   exact .inr hx
 ·rcases cf.mp h with h | h
  ·exact .inr h
  ·rw [cg.mp h]
   exact .inl ⟨rfl, rfl, rfl⟩
theorem aBp {t : Int × Int × Int} {us : List (Int × Int × Int)} : (HU us t).length ≤ us.length + 1 := by
 unfold HU
 split <;> simp
theorem T4 {t : Int × Int × Int} {us : List (Int × Int × Int)} (h : us.Pairwise apart2) : (HU us t).Pairwise apart2 := by
 unfold HU
 split
 ·refine List.Pairwise.map _ (fun a b hab => ?_) h
  unfold apart2 at hab ⊢
  split <;> split <;> exact hab
 ·rename_i c
  refine List.pairwise_append.mpr ⟨h, by simp, fun a ha b hb => ?_⟩
  rw [cg.mp hb]
  intro e
  refine c (List.any_eq_true.mpr ⟨a, ha, ?_⟩)
  unfold wJ
  simpa using e
end
theorem eB.less {w : W} {r c b b' : Nat} (d : eB w r c b) (h : b' ≤ b) : eB w r c b' := by
 obtain ⟨ne, cells, sm, a, h1, h2, h3, h4⟩ := d
 exact ⟨ne, cells, sm, a, h1, h2, h3, by omega⟩
def O6 (H n : Nat) (ds : List D) : Prop := ds.length = n ∧ ∀ d ∈ ds, ∃ ns : List Int, d = .tup (ns.map D.int) ∧ ns.length = H ∧ ∀ x ∈ ns, 1 ≤ x ∧ x ≤ 12
section
variable {w : W} {P : D → W → Prop} {r c b H n : Nat} {low : Int} {ds : List D}
theorem U5 (h : O6 H n ds) (n1 : 1 ≤ n) (n4 : n ≤ 4) (H1 : 1 ≤ H) (H6 : H ≤ 6) : kR (.tup ds) = true ∧ nY 6 (.tup ds) = true ∧ ∃ r0 rest, ds = .tup r0 :: rest ∧ r0.length = H := by
 obtain ⟨hl, he⟩ := h
 have wid : ∀ d ∈ ds, (gJ d).length = H := fun d hd => by
  obtain ⟨ns, rfl, h1, -⟩ := he d hd
  show (ns.map D.int).length = H
  rw [ao, h1]
 have six : ∀ d ∈ ds, BD d = true := fun d hd => by
  obtain ⟨ns, rfl, h1, -⟩ := he d hd
  simp only [BD, ao, ak]
  omega
 have ok : ∀ d ∈ ds, nY 5 d = true := fun d hd => by
  obtain ⟨ns, rfl, h1, h2⟩ := he d hd
  simp only [nY, List.all_map, aj, ak, bj, ao]
  refine ⟨fun x hx => ?_, by omega⟩
  have := h2 x hx
  simp only [Function.comp, nY, ak]
  omega
 have num : ∀ x ∈ ds.flatMap gJ, bB 1 12 x = true := fun x hx => by
  obtain ⟨d, hd, hx⟩ := List.mem_flatMap.mp hx
  obtain ⟨ns, rfl, -, h2⟩ := he d hd
  obtain ⟨y, hy, rfl⟩ := bx.mp (show x ∈ ns.map D.int from hx)
  have := h2 y hy
  simp only [bB, aj, ak]
  exact this
 obtain ⟨d0, rest, rfl⟩ : ∃ d0 rest, ds = d0 :: rest := by
  cases ds with
  | nil => simp at hl; omega
  | cons a l => exact ⟨a, l, rfl⟩
 obtain ⟨ns, e0, e1, -⟩ := he d0 (bc ..)
 have w0 := wid d0 (bc ..)
 refine ⟨?_, ?_, _, rest, by rw [e0], by rw [ao, e1]⟩
 ·simp only [kR, aj, ak, bj, Bool.not_eq_true']
  refine ⟨⟨by omega, by omega⟩, six, ?_, fun d hd => ?_, num⟩
  ·show (gJ d0).isEmpty = false
   cases hh : gJ d0 with
   | nil => rw [hh] at w0; simp at w0; omega
   | cons => rfl
  ·show ((gJ d).length == (gJ d0).length) = true
   rw [wid d hd, w0]
   simp
 ·simp only [nY, aj, ak, bj]
  exact ⟨ok, by omega⟩
theorem aFl {e4 e0 eh : ME} {σ : Sg} {v : Nat} {PL : List D → W → Prop} (aGg : 1 ≤ low) (low12 : low ≤ 12) (hd : eB w r c (b + H)) (H6 : H ≤ 6)
  (h4 : ∀ x (w : W) (P : D → W → Prop), T (e4 ((c0 σ [v]).set v (some x)) w) P = P (.int low) w) (h0 : ∀ x (w : W) (P : D → W → Prop), T (e0 ((c0 σ [v]).set v (some x)) w) P = P (.ref r) w) 
  (hP : ∀ (ns : List Int) (w' : W), eB w' r c b → ns.length = H → (∀ x ∈ ns, 1 ≤ x ∧ x ≤ 12) → PL (ns.map D.int) w') :
  T (nM (nZ 0 H) [v] (aU v) bS (aD bH e4 (aK tF 2 aN (aA e0 (aA (aD lO (eC (.int 13)) e4) aE)))) (nZ 0 H).xs σ w) PL := by
 refine DM (it := nZ 0 H) (fun i acc w' => eB w' r c (b + (H - i)) ∧ ∃ ns : List Int, acc = ns.map D.int ∧ ns.length = i ∧ ∀ x ∈ ns, 1 ≤ x ∧ x ≤ 12) (fun _ _ _ _ => trivial) ⟨hd, [], rfl, rfl, fun x hx => nomatch hx⟩ (fun i x acc w1 hx hI => ?_) (fun acc w1 hI => ?_)
 ·obtain ⟨d1, ns, rfl, hn, hr⟩ := hI
  obtain ⟨hz, rfl⟩ := z3 hx
  rw [R6, rC, if_pos rfl]
  simp only [h4, h0, FF, zY, ae, ab, reduceCtorEq]
  have eb : b + (H - i) = (b + (H - (i + 1))) + 1 := by omega
  rw [eb] at d1
  refine fV (size := 13 - low) d1 (by omega) (by omega) fun y w2 y0 y1 d2 k2 => ?_
  rw [mV]
  refine ⟨d2, ns ++ [low + y], by rw [cu]; rfl, by rw [cc, hn]; rfl, fun x hx => ?_⟩
  rcases cf.mp hx with hx | hx
  ·exact hr x hx
  ·rw [cg.mp hx]
   omega
 ·obtain ⟨d1, ns, rfl, hn, hr⟩ := hI
  rw [m5] at d1 hn
  rw [Nat.sub_self] at d1
  exact hP ns w1 d1 hn hr
end
def GI (H : Nat) (us : List (Int × Int × Int)) : Prop := us.Pairwise apart2 ∧ us.length ≤ 6 ∧ ∀ t ∈ us, (0 ≤ t.1 ∧ t.1 < (H : Int)) ∧ (0 ≤ t.2.1 ∧ t.2.1 ≤ 9) ∧ (1 ≤ t.2.2 ∧ t.2.2 ≤ 11)
def aAr : MS := (dR (a8 (aD O9 (aR EN (aA (aB 6) aE)) (eC (.int 6)))) (aT (aD aV (fP (aA (eC (.int 1)) (aA (eC (.int 9)) (aA (eC (.int 10)) (aA (eC (.int 11)) (aA (eC (.int 2)) aE)))))) (aK tF 2 aN (aA (aB 0) (aA (eC (.int 5)) aE)))) (dQ (aB 6) (bR (aA (aK tF 2 aN (aA (aB 0) (aA (aB 2) aE))) (aA (aK tF 2 aN (aA (aB 0) (aA (eC (.int 10)) aE))) aE))))) aX)
section
variable {w : W} {P : D → W → Prop} {PF : Fl → W → Prop} {r c b H q : Nat} {us : List (Int × Int × Int)} {s1 s3 s4 s5 s7 s8 s9 s10 s11 s12 : Option D}
theorem D1 {o : MO} (d : eB w r c b) (h1 : q ≠ r) (h2 : q ≠ c) : eB (w.set q o) r c b := by
 obtain ⟨ne, cells, sm, a, g1, g2, g3, g4⟩ := d
 exact ⟨ne, cells, sm, a, by rw [av h1]; exact g1, by rw [av h2]; exact g2, g3, g4⟩
theorem aFd (hd : eB w r c (b + 3)) (hq : w[q]? = some (.dT (cO us))) (nr : q ≠ r) (nc : q ≠ c) (hc : GI H us) (H1 : 1 ≤ H) (H6 : H ≤ 6)
  (hP : ∀ w' us', eB w' r c b → w'[q]? = some (.dT (cO us')) → GI H us' → PF (.nx [some (.ref r), s1, some (.int (H : Nat)), s3, s4, s5, some (.ref q), s7, s8, s9, s10, s11, s12]) w') : T (aAr [some (.ref r), s1, some (.int (H : Nat)), s3, s4, s5, some (.ref q), s7, s8, s9, s10, s11, s12] w) PF := by
 have lt : ∀ (a c : Int) (w : W) (P : D → W → Prop), T (O9 (.int a) (.int c) w) P = P (.bl (decide (a < c))) w := fun a c w P => by unfold T; rfl
 have ln : ∀ (P : D → W → Prop), T (EN [.ref q] w) P = P (.int (us.length : Nat)) w := fun P => by
  have e : EN [.ref q] w = .ok (.int ((cO us).length : Nat)) w := by simp only [EN, hq]
  rw [e, bY]
  unfold cO
  rw [ao]
 unfold aAr
 simp only [ln, lt, zY, ae, ab, reduceCtorEq]
 by_cases c6 : us.length < 6
 case neg =>
  have e : decide (((us.length : Nat) : Int) < 6) = false := by simp; omega
  simp only [e, zY, ae, ab, reduceCtorEq]
  exact hP w us (hd.less (by omega)) hq hc
 have e : decide (((us.length : Nat) : Int) < 6) = true := by simp; omega
 simp only [e, zY, ae, ab, reduceCtorEq]
 refine fV (b := b + 2) hd (by omega) (by omega) fun x w1 x0 x1 d1 k1 => ?_
 obtain ⟨x, rfl⟩ : ∃ n : Nat, x = (n : Int) := ⟨x.toNat, by omega⟩
 have hx : x = 0 ∨ x = 1 ∨ x = 2 ∨ x = 3 ∨ x = 4 := by omega
 obtain ⟨v, hv, v0, v1⟩ : ∃ v : Int, ([D.int 1, .int 9, .int 10, .int 11, .int 2] : List D)[x]? = some (.int v) ∧ 1 ≤ v ∧ v ≤ 11 := by
  rcases hx with rfl | rfl | rfl | rfl | rfl
  ·exact ⟨_, rfl, by omega, by omega⟩
  ·exact ⟨_, rfl, by omega, by omega⟩
  ·exact ⟨_, rfl, by omega, by omega⟩
  ·exact ⟨_, rfl, by omega, by omega⟩
  ·exact ⟨_, rfl, by omega, by omega⟩
 have ea : atI [D.int 1, .int 9, .int 10, .int 11, .int 2] (x : Int) = some (.int v) := kM hv
 simp only [wX, xA, ea, ah, bq, zY, ae, ab, reduceCtorEq]
 refine fV (b := b + 1) d1 (by omega) (by omega) fun y w2 y0 y1 d2 k2 => ?_
 try simp only [zY, ae, ab, reduceCtorEq]
 refine fV (b := b) d2 (by omega) (by omega) fun z w3 z0 z1 d3 k3 => ?_
 try simp only [zY, ae, ab, reduceCtorEq]
 have q3 : w3[q]? = some (.dT (cO us)) := by rw [k3.2 q nr nc, k2.2 q nr nc, k1.2 q nr nc]; exact hq
 have es : setM (.ref q) (.tup [.int y, .int z]) (.int v) w3 = .ok () (w3.set q (.dT (cO (HU us (y, z, v))))) := by
  have h2 : xC [.int y, .int z] = some [.inl y, .inl z] := rfl
  have h3 : (cO us).length < sizeLine := by
   rw [sizeLine_eq]
   unfold cO
   rw [ao]
   omega
  rw [← aCD]
  simp only [setM, q3, h2, h3, ae]
 simp only [es, bY]
 have ls := aBp (t := (y, z, v)) (us := us)
 refine hP _ (HU us (y, z, v)) (D1 d3 nr nc) (au (ag.mp q3).1) ⟨T4 hc.1, by omega, fun t ht => ?_⟩
 rcases aAm ht with ⟨e1, e2, e3⟩ | ht
 ·rw [e1, e2, e3]
  exact ⟨⟨y0, y1⟩, ⟨z0, by show z ≤ 9; omega⟩, v0, v1⟩
 ·exact hc.2.2 t ht
end
section
variable {w : W} {P : D → W → Prop} {q v : Nat} {us : List (Int × Int × Int)} {σ : Sg} {e6 : ME}
theorem U0 : ∀ {us : List (Int × Int × Int)}, us.Pairwise apart2 → ∀ t ∈ us, jH (cO us) [.inl t.1, .inl t.2.1] = some (.int t.2.2)
 | u :: us, h, t, ht => by
  rw [List.pairwise_cons] at h
  have e : cO (u :: us) = ([.inl u.1, .inl u.2.1], .int u.2.2) :: cO us := rfl
  rw [e]
  unfold jH
  rcases bg.mp ht with rfl | ht
  ·rw [if_pos rfl]
  ·have n : ¬ (([.inl u.1, .inl u.2.1] : List Key) = [.inl t.1, .inl t.2.1]) := fun e => by
    have := qT.mp e
    simp only [wJ, ak] at this
    exact h.1 t ht this
   rw [if_neg n]
   exact U0 h.2 t ht
theorem WR (hq : w[q]? = some (.dT (cO us))) (ap : us.Pairwise apart2) (few : us.length ≤ 6)
  (h6 : ∀ (w : W) (P : D → W → Prop), T (e6 σ w) P = P (.ref q) w) (h6' : ∀ x (w : W) (P : D → W → Prop), T (e6 ((c0 σ [v]).set v (some x)) w) P = P (.ref q) w)
  (hv : ∀ x (w : W) (P : D → W → Prop), T (aB v ((c0 σ [v]).set v (some x)) w) P = P x w)
  (hP : P (.tup ((us.mergeSort GN).map cI)) (w.set q (.dG (cO us)))) :
  T (aR dZ (aA (aR lC (aA (bQ (vV e6) [v] (aU v) bS (aD bH (aB v) (bR (aA (aD aV e6 (aB v)) aE)))) aE)) aE) σ w) P := by
 have hq1 : (w.set q (.dG (cO us)))[q]? = some (.dG (cO us)) := au (ag.mp hq).1
 obtain ⟨w1, e1⟩ : ∃ w1, w1 = w.set q (.dG (cO us)) := ⟨_, rfl⟩
 rw [← e1] at hq1 hP
 simp only [Z5, h6, aB3 hq, zY, ae, ab, reduceCtorEq]
 rw [← e1]
 have l6 : ((cO us).map fun p => D.tup (p.1.map iB)).length = us.length := by unfold cO; simp
 refine ⟨by rw [sizeLine_eq, l6]; omega, ?_⟩
 refine fH (it := ⟨(cO us).map fun p => D.tup (p.1.map iB), always⟩) us (fun t => .tup [.int t.1, .int t.2.1]) cI (by unfold cO; rw [List.map_map]; rfl) trivial (fun t ht => ?_) ?_
 ·rw [R6, rC]
  refine ⟨rfl, ?_⟩
  have ex : T (aV (.ref q) (.tup [.int t.1, .int t.2.1]) w1) = fun PP => PP (.int t.2.2) w1 := by
   funext PP
   have e : aV (.ref q) (.tup [.int t.1, .int t.2.1]) w1 = .ok (.int t.2.2) w1 := by
    have l : qR (.dG (cO us)) (.tup [.int t.1, .int t.2.1]) = some (jH (cO us) [.inl t.1, .inl t.2.1]) := rfl
    simp only [aV, hq1, l, U0 ap t ht]
   rw [e, bY]
  simp only [hv, h6', ex, zY, ae, ab, reduceCtorEq]
  first | exact ⟨rfl, rfl⟩ | rfl
 ·simp only [UH (show us.length ≤ 1000 by omega), UT, zY, ae, ab, reduceCtorEq]
  exact hP
end
def chB (c : Nat) : Bool := decide (32 ≤ c) && (decide (c < 127) && ((c != 34) && ((c != 39) && (c != 92))))
def aEd (l : Nat) (x : Str) : Bool := x.cps.toList.all chB && decide (x.cps.size ≤ 60 + l)
mutual
def wtD : D → Nat
 | .str x => x.cps.size
 | .tup xs => wtDs xs
 | .lst xs => wtDs xs
 | .jA xs => wtDs xs
 | .qG xs => wtDs xs
 | .H0 ks vs => wtDs ks + wtDs vs
 | _ => 0
def wtDs : List D → Nat
 | [] => 0
 | x :: xs => wtD x + 1 + wtDs xs
end
theorem aDv {c : Nat} (h : chB c = true) : c < 127 := by
 simp only [chB, aj, ak] at h
 exact h.2.1
mutual
def kD : PyData → Bool
 | .none => true
 | .bool _ => true
 | .int i => decide (i.natAbs < 10 ^ 40)
 | .str x => aEd 55 x
 | .list xs => plainVs xs
 | .tuple xs => plainVs xs
 | .dict kvs => plainKv kvs
def plainVs : List PyData → Bool
 | [] => true
 | x :: xs => kD x && plainVs xs
def plainKv : List (PyData × PyData) → Bool
 | [] => true
 | (k, v) :: r => (kD k && kD v) && plainKv r
end
theorem aAH : ((List.range 127).all fun c => (Builtin.Str.reprChar 34 c).all (fun x => decide (x < 0x110000)) && (Builtin.Str.reprChar 39 c).all (fun x => decide (x < 0x110000))) = true := by decide +kernel
theorem BV {q c : Nat} (hq : q = 34 ∨ q = 39) (hc : c < 127) : ∀ x ∈ Builtin.Str.reprChar q c, x < 0x110000 := by
 have a := aAH
 rw [bj] at a
 have b := a c (List.mem_range.mpr hc)
 simp only [aj, bj, ak] at b
 rcases hq with rfl | rfl
 ·exact b.1
 ·exact b.2
theorem OF {x : Str} (h : x.cps.toList.all chB = true) : PyData.strOk (reprText x) = true := by
 have hq : reprQuote x = 34 ∨ reprQuote x = 39 := by
  unfold reprQuote
  split
  ·exact .inl rfl
  ·exact .inr rfl
 have key : ∀ (cs : List Nat) (acc : Array Nat), (∀ c ∈ cs, c < 127) → (∀ c ∈ acc.toList, c < 0x110000) → ∀ c ∈ (cs.foldl (fun out c => out ++ (Builtin.Str.reprChar (reprQuote x) c).toArray) acc).toList, c < 0x110000 := by
  intro cs
  induction cs with
  | nil => intro acc _ h2; exact h2
  | cons c cs ih =>
   intro acc h1 h2
   rw [List.foldl_cons]
   refine ih _ (fun y hy => h1 y (bh _ hy)) fun y hy => ?_
   rw [Array.toList_append] at hy
   rcases cf.mp hy with hy | hy
   ·exact h2 y hy
   ·exact BV hq (h1 c (bc ..)) y (by simpa using hy)
 unfold PyData.strOk
 rw [Array.all_eq_true_iff_forall_mem]
 intro c hc
 unfold reprText at hc
 simp only at hc
 rw [Array.mem_push] at hc
 simp only [ak]
 rcases hc with hc | rfl
 ·rw [← Array.foldl_toList] at hc
  rw [bj] at h
  exact key x.cps.toList #[reprQuote x] (fun y hy => aDv (h y hy)) (fun y hy => by
   have : y = reprQuote x := by simpa using hy
   rcases hq with q | q <;> (rw [this, q]; decide)) c (Array.mem_toList_iff.mpr hc)
 ·rcases hq with q | q <;> (rw [q]; decide)
mutual
theorem rY : ∀ p : PyData, kD p = true → PyData.strOk p.shown = true
 | .none, _ => fC _
 | .bool b, _ => by cases b <;> exact fC _
 | .int i, _ => fC _
 | .str x, h => by
  rw [kD] at h
  simp only [aEd, aj] at h
  exact OF h.1
 | .list xs, h => by
  rw [kD] at h
  show PyData.strOk (textFrom 0 "[" (PyData.shownAll xs) ++ "]") = true
  rw [gF, pI _ _ _ (fC _) (plainVs_shown xs h), fC]
  rfl
 | .tuple xs, h => by
  rw [kD] at h
  show PyData.strOk (tupleText (PyData.shownAll xs)) = true
  unfold tupleText
  rw [gF, gF, fC, zL _ (fC _) _ (plainVs_shown xs h)]
  split <;> rw [fC] <;> rfl
 | .dict kvs, h => by
  rw [kD] at h
  show PyData.strOk (dictText (PyData.shownKv kvs)) = true
  unfold dictText
  rw [gF, gF, fC, fC, zL _ (fC _) _ (plainKv_shown kvs h)]
  rfl
theorem plainVs_shown : ∀ ps : List PyData, plainVs ps = true → ∀ t ∈ PyData.shownAll ps, PyData.strOk t = true
 | [], _, t, ht => by simp [PyData.shownAll] at ht
 | p :: ps, h, t, ht => by
  simp only [plainVs, aj] at h
  simp only [PyData.shownAll, bg] at ht
  rcases ht with rfl | ht
  ·exact rY p h.1
  ·exact plainVs_shown ps h.2 t ht
theorem plainKv_shown : ∀ ps : List (PyData × PyData), plainKv ps = true → ∀ t ∈ PyData.shownKv ps, PyData.strOk t = true
 | [], _, t, ht => by simp [PyData.shownKv] at ht
 | (k, v) :: ps, h, t, ht => by
  simp only [plainKv, aj] at h
  simp only [PyData.shownKv, bg] at ht
  rcases ht with rfl | ht
  ·rw [gF, gF, rY k h.1.1, rY v h.1.2, fC]
   rfl
  ·exact plainKv_shown ps h.2 t ht
end
mutual
theorem xF : ∀ p : PyData, kD p = true → p.leavesShort 60 = true ∧ p.showable = true
 | .none, _ => by simp [PyData.leavesShort, PyData.showable]
 | .bool b, _ => by simp [PyData.leavesShort, PyData.showable]
 | .int i, h => by
  simp only [kD, ak] at h
  exact ⟨BL h, AH h⟩
 | .str x, h => by
  simp only [kD, aEd, aj, bj] at h
  refine ⟨?_, by simp [PyData.showable]⟩
  simp only [PyData.leavesShort, bj, ak]
  intro c hc
  have := aDv (h.1 c hc)
  omega
 | .list xs, h => by
  rw [kD] at h
  have := plainVs_all xs h
  simp only [PyData.leavesShort, PyData.showable]
  exact this
 | .tuple xs, h => by
  rw [kD] at h
  have := plainVs_all xs h
  simp only [PyData.leavesShort, PyData.showable]
  exact this
 | .dict kvs, h => by
  rw [kD] at h
  have := plainKv_all kvs h
  simp only [PyData.leavesShort, PyData.showable]
  exact this
theorem plainVs_all : ∀ p : List PyData, plainVs p = true → PyData.leavesShortAll 60 p = true ∧ PyData.showableAll p = true
 | [], _ => by simp [PyData.leavesShortAll, PyData.showableAll]
 | p :: ps, h => by
  simp only [plainVs, aj] at h
  obtain ⟨a1, a2⟩ := xF p h.1
  obtain ⟨b1, b2⟩ := plainVs_all ps h.2
  simp only [PyData.leavesShortAll, PyData.showableAll, a1, a2, b1, b2]
  simp
theorem plainKv_all : ∀ p : List (PyData × PyData), plainKv p = true → PyData.leavesShortKv 60 p = true ∧ PyData.showableKv p = true
 | [], _ => by simp [PyData.leavesShortKv, PyData.showableKv]
 | (k, v) :: ps, h => by
  simp only [plainKv, aj] at h
  obtain ⟨a1, a2⟩ := xF k h.1.1
  obtain ⟨c1, c2⟩ := xF v h.1.2
  obtain ⟨b1, b2⟩ := plainKv_all ps h.2
  simp only [PyData.leavesShortKv, PyData.showableKv, a1, a2, b1, b2, c1, c2]
  simp
end
mutual
theorem aFz {f : Nat → Option PyData} (hf : ∀ i, f i = none) : ∀ (d : D) {q : PyData}, d.fZ f = some q → q.bulk = wtD d
 | .non, _, h => by simp only [D.fZ, ah] at h; subst h; rfl
 | .bl _, _, h => by simp only [D.fZ, ah] at h; subst h; rfl
 | .int _, _, h => by simp only [D.fZ, ah] at h; subst h; rfl
 | .str _, _, h => by simp only [D.fZ, ah] at h; subst h; rfl
 | .ty _, _, h => by simp [D.fZ] at h
 | .con _, _, h => by simp [D.fZ] at h
 | .H0 _ _, _, h => by simp [D.fZ] at h
 | .ref i, _, h => by
  simp only [D.fZ, hf] at h
  cases h
 | .tup xs, _, h => by
  simp only [D.fZ, ai] at h
  obtain ⟨ps, h1, rfl⟩ := h
  rw [PyData.bulk, wtD, wts_py hf xs h1]
 | .jA xs, _, h => by
  simp only [D.fZ, ai] at h
  obtain ⟨ps, h1, rfl⟩ := h
  rw [PyData.bulk, wtD, wts_py hf xs h1]
 | .lst xs, _, h => by
  simp only [D.fZ, ai] at h
  obtain ⟨ps, h1, rfl⟩ := h
  rw [PyData.bulk, wtD, wts_py hf xs h1]
 | .qG xs, _, h => by
  simp only [D.fZ, ai] at h
  obtain ⟨ps, h1, rfl⟩ := h
  rw [PyData.bulk, wtD, wts_py hf xs h1]
theorem wts_py {f : Nat → Option PyData} (hf : ∀ i, f i = none) : ∀ (ds : List D) {qs : List PyData}, D.pysR f ds = some qs → PyData.bulkAll qs = wtDs ds
 | [], _, h => by simp only [D.pysR, ah] at h; subst h; rfl
 | d :: ds, _, h => by
  simp only [D.pysR] at h
  split at h
  ·rename_i p ps e1 e2
   cases h
   rw [PyData.bulkAll, wtDs, aFz hf d e1, wts_py hf ds e2]
  ·cases h
end
section
variable {w : W} {P : D → W → Prop} {n : Nat} {d : D}
theorem aFn {i : Int} (h : i.natAbs < 10 ^ 40) : T (sN [.int i] w) P = P (.str (toString i : String)) w := by
 have l : i.natAbs.log2 < 1920 := by
  have := AH h
  simpa only [PyData.showable, ak] using this
 have : sN [.int i] w = .ok (.str (toString i : String)) w := by
  simp only [sN, if_pos l]
 rw [this, bY]
end
def cU (i : Int) : Str := (toString i : String)
def iV (x : Str) : Bool := x.cps.toList.all (fun c => decide (33 ≤ c) && decide (c < 127)) && decide (x.length ≤ 8)
def aDQ (x : Str) : Bool := x.cps.toList.all fun c => decide (c ∈ ("0123456789" : Str).cps.toList)
theorem aAM : ((List.range 21).all fun n => iV (cU (n : Int)) && (aDQ (cU (n : Int)) && (decide (1 ≤ (cU (n : Int)).length) && (decide ((cU (n : Int)).length ≤ 2) && (intText? (cU (n : Int)) == some (n : Int)))))) = true := by decide +kernel
structure aDu (i : Int) : Prop where
 word : iV (cU i) = true
 ZQ : aDQ (cU i) = true
 one : 1 ≤ (cU i).length
 two : (cU i).length ≤ 2
 back : intText? (cU i) = some i
theorem aBn {i : Int} (h0 : 0 ≤ i) (h1 : i ≤ 20) : aDu i := by
 obtain ⟨n, rfl⟩ : ∃ n : Nat, i = (n : Int) := ⟨i.toNat, by omega⟩
 have a := aAM
 rw [bj] at a
 have b := a n (List.mem_range.mpr (by omega))
 simp only [aj, ak, beq_iff_eq] at b
 exact ⟨b.1, b.2.1, b.2.2.1, b.2.2.2.1, b.2.2.2.2⟩
def cY (ws : List Str) : Str := Txt.join " " ws
def EA (ls : List (List Str)) : Str := Txt.join "\n" (ls.map cY)
theorem QY (y : Str) (ps : List Str) : TL.tl (Txt.join y ps) = TL.joinL (TL.tl y) (ps.map TL.tl) := by rw [TL.join_eq, TL.tl_join]
theorem JX {S : List Nat} {c : Nat} : ∀ {ps : List (List Nat)}, c ∈ TL.joinL S ps → c ∈ S ∨ ∃ p ∈ ps, c ∈ p
 | [], h => nomatch h
 | [p], h => .inr ⟨p, cg.mpr rfl, h⟩
 | p :: q :: r, h => by
  have h : c ∈ p ++ (S ++ TL.joinL S (q :: r)) := h
  rcases cf.mp h with h | h
  ·exact .inr ⟨p, bc .., h⟩
  ·rcases cf.mp h with h | h
   ·exact .inl h
   ·rcases JX h with h | ⟨z, hz, hc⟩
    ·exact .inl h
    ·exact .inr ⟨z, bh _ hz, hc⟩
theorem J5 {S : List Nat} {k : Nat} : ∀ {ps : List (List Nat)}, (∀ p ∈ ps, p.length ≤ k) → (TL.joinL S ps).length ≤ (k + S.length) * ps.length
 | [], _ => az 0
 | [p], h => by
  have h1 := h p (cg.mpr rfl)
  show p.length ≤ (k + S.length) * 1
  omega
 | p :: q :: r, h => by
  have h1 := h p (bc ..)
  have h2 := J5 (S := S) (k := k) fun z hz => h z (bh p hz)
  show (p ++ (S ++ TL.joinL S (q :: r))).length ≤ (k + S.length) * ((q :: r).length + 1)
  rw [Nat.mul_add, cc, cc]
  omega
theorem RG {y : Str} {ps : List Str} {c : Nat} (h : c ∈ (Txt.join y ps).cps.toList) : c ∈ y.cps.toList ∨ ∃ p ∈ ps, c ∈ p.cps.toList := by
 have h : c ∈ TL.tl (Txt.join y ps) := h
 rw [QY] at h
 rcases JX h with h | ⟨z, hz, hc⟩
 ·exact .inl h
 ·obtain ⟨p, hp, rfl⟩ := bx.mp hz
  exact .inr ⟨p, hp, hc⟩
theorem NU {y : Str} {ps : List Str} {k : Nat} (h : ∀ p ∈ ps, p.length ≤ k) : (Txt.join y ps).length ≤ (k + y.length) * ps.length := by
 rw [TL.len_tl, QY, TL.len_tl y]
 have := J5 (S := TL.tl y) (k := k) (ps := ps.map TL.tl) fun z hz => by
  obtain ⟨p, hp, rfl⟩ := bx.mp hz
  rw [← TL.len_tl]
  exact h p hp
 rwa [ao] at this
theorem VH {ps : List Str} {k : Nat} (h : ∀ p ∈ ps, p.length ≤ k) : (ps.map (·.length)).sum ≤ k * ps.length := by
 induction ps with
 | nil => simp
 | cons p ps ih =>
  have h1 := h p (bc ..)
  have h2 := ih fun z hz => h z (bh _ hz)
  rw [List.map_cons, List.sum_cons, List.length_cons, Nat.mul_add]
  omega
theorem zT {x : Str} (h : iV x = true) : (∀ c ∈ x.cps.toList, 33 ≤ c ∧ c < 127) ∧ x.length ≤ 8 := by
 simp only [iV, aj, bj, ak] at h
 exact h
theorem YJ : TL.tl (" " : Str) = 32 :: [] := by decide +kernel
theorem aAV : TL.tl ("\n" : Str) = 10 :: [] := by decide +kernel
section
variable {ws : List Str} {ls : List (List Str)}
theorem SS (h : ∀ x ∈ ws, iV x = true) (hne : ws ≠ []) : Txt.split (cY ws) " " = ws :=
 TL.split_join YJ (by decide +kernel) hne fun p hp hc => by
  have := (zT (h p hp)).1 32 hc
  omega
theorem QT (h : ∀ x ∈ ws, iV x = true) : ∀ c ∈ (cY ws).cps.toList, 32 ≤ c ∧ c < 127 := fun c hc => by
 rcases RG hc with hc | ⟨p, hp, hc⟩
 ·have e : c ∈ TL.tl (" " : Str) := hc
  rw [YJ] at e
  rw [cg.mp e]
  omega
 ·have := (zT (h p hp)).1 c hc
  omega
theorem QD (h : ∀ x ∈ ws, iV x = true) : (cY ws).length ≤ 9 * ws.length := by
 have := NU (y := (" " : Str)) (k := 8) fun p hp => (zT (h p hp)).2
 rw [TL.len_tl (" " : Str), YJ] at this
 exact this
structure zA (ls : List (List Str)) : Prop where
 w : ∀ ws ∈ ls, (∀ x ∈ ws, iV x = true) ∧ 1 ≤ ws.length ∧ ws.length ≤ 9
 l : ls.length ≤ 11
 ne : ls ≠ []
theorem zA.split (h : zA ls) : Txt.split (EA ls) "\n" = ls.map cY :=
 TL.split_join aAV (by decide +kernel) (by simpa using h.ne) fun p hp hc => by
  obtain ⟨ws, hw, rfl⟩ := bx.mp hp
  have := QT (h.w ws hw).1 10 hc
  omega
theorem zA.low (h : zA ls) : ∀ c ∈ (EA ls).cps.toList, c < 127 := fun c hc => by
 rcases RG hc with hc | ⟨p, hp, hc⟩
 ·have e : c ∈ TL.tl ("\n" : Str) := hc
  rw [aAV] at e
  rw [cg.mp e]
  omega
 ·obtain ⟨ws, hw, rfl⟩ := bx.mp hp
  exact (QT (h.w ws hw).1 c hc).2
theorem zA.aE9 (h : zA ls) : ∀ p ∈ ls.map cY, p.length ≤ 81 := fun p hp => by
 obtain ⟨ws, hw, rfl⟩ := bx.mp hp
 obtain ⟨h1, h2, h3⟩ := h.w ws hw
 have := QD h1
 omega
theorem zA.len (h : zA ls) : (EA ls).length ≤ 1000 := by
 have := NU (y := ("\n" : Str)) (k := 81) h.aE9
 rw [TL.len_tl ("\n" : Str), aAV, ao] at this
 have h1 := h.l
 have h2 : (EA ls).length ≤ 82 * ls.length := this
 omega
theorem ZD {x : Str} (h : ∀ c ∈ x.cps.toList, c < 127) : PyData.strOk x = true := by
 unfold PyData.strOk
 rw [Array.all_eq_true_iff_forall_mem]
 intro c hc
 have := h c (by simpa using hc)
 simp only [ak]
 omega
theorem lD {x : Str} (h : iV x = true) : PyData.strOk x = true := ZD fun c hc => ((zT h).1 c hc).2
end
theorem TU {x : Str} (h : ∀ c ∈ x.cps.toList, c < 127) : PyData.strOk (reprText x) = true := by
 have hq : reprQuote x = 34 ∨ reprQuote x = 39 := by
  unfold reprQuote
  split
  ·exact .inl rfl
  ·exact .inr rfl
 have key : ∀ (cs : List Nat) (acc : Array Nat), (∀ c ∈ cs, c < 127) → (∀ c ∈ acc.toList, c < 0x110000) → ∀ c ∈ (cs.foldl (fun out c => out ++ (Builtin.Str.reprChar (reprQuote x) c).toArray) acc).toList, c < 0x110000 := by
  intro cs
  induction cs with
  | nil => intro acc _ h2; exact h2
  | cons c cs ih =>
   intro acc h1 h2
   rw [List.foldl_cons]
   refine ih _ (fun y hy => h1 y (bh _ hy)) fun y hy => ?_
   rw [Array.toList_append] at hy
   rcases cf.mp hy with hy | hy
   ·exact h2 y hy
   ·exact BV hq (h1 c (bc ..)) y (by simpa using hy)
 unfold PyData.strOk
 rw [Array.all_eq_true_iff_forall_mem]
 intro c hc
 unfold reprText at hc
 simp only at hc
 rw [Array.mem_push] at hc
 simp only [ak]
 rcases hc with hc | rfl
 ·rw [← Array.foldl_toList] at hc
  exact key x.cps.toList #[reprQuote x] h (fun y hy => by
   have : y = reprQuote x := by simpa using hy
   rcases hq with q | q <;> (rw [this, q]; decide)) c (Array.mem_toList_iff.mpr hc)
 ·rcases hq with q | q <;> (rw [q]; decide)
theorem oX {x : Str} (h : ∀ c ∈ x.cps.toList, c < 127) (hl : x.length ≤ 1000) : (reprText x).length ≤ 10002 := by
 have := StrLaws.reprText_len x fun c hc => Nat.lt_trans (h c hc) (by decide)
 omega
section
variable {w : W} {P : D → W → Prop} {PS : Sg → W → Prop} {n : Nat} {d : D} {σ : Sg}
theorem AY : ∀ ys : List Str, zI (ys.map D.str) = some ys
 | [] => rfl
 | y :: ys => by rw [List.map_cons, zI, AY ys]; rfl
theorem U2 {a : Str} {ys : List Str} (h : ∀ p ∈ ys, p.length ≤ 100) (hl : ys.length ≤ 1000) (ha : a.length ≤ 10) : T (joinM (.str a) [.lst (ys.map D.str)] w) P = P (.str (Txt.join a ys)) w := by
 have e : (D.items w (.lst (ys.map D.str))).bind zI = some ys := by simp only [D.items, Option.bind_some, AY]
 have s1 := VH h
 have s2 : ys.length * a.length ≤ 1000 * 10 := Nat.mul_le_mul hl ha
 have : joinM (.str a) [.lst (ys.map D.str)] w = .ok (.str (Txt.join a ys)) w := by
  simp only [joinM, e, if_pos (show (ys.map (·.length)).sum + ys.length * a.length ≤ 16777216 by omega)]
 rw [this, bY]
theorem aDo {a : Str} {ys : List Str} {q : Nat} (hq : w[q]? = some (.lst (ys.map D.str))) (h : ∀ p ∈ ys, p.length ≤ 100) (hl : ys.length ≤ 1000) (ha : a.length ≤ 10) : T (joinM (.str a) [.ref q] w) P = P (.str (Txt.join a ys)) w := by
 have e : (D.items w (.ref q)).bind zI = some ys := by simp only [D.items, hq, Option.bind_some, AY]
 have s1 := VH h
 have s2 : ys.length * a.length ≤ 1000 * 10 := Nat.mul_le_mul hl ha
 have : joinM (.str a) [.ref q] w = .ok (.str (Txt.join a ys)) w := by
  simp only [joinM, e, if_pos (show (ys.map (·.length)).sum + ys.length * a.length ≤ 16777216 by omega)]
 rw [this, bY]
theorem VL {a b : Str} (hb : (b.length == 0) = false) (ha : a.length ≤ 10000) : T (splitM (.str a) [.str b] w) P = P (.lst ((Txt.split a b).map D.str)) w := by
 have : splitM (.str a) [.str b] w = .ok (.lst ((Txt.split a b).map D.str)) w := by
  simp only [splitM]
  rw [if_pos ⟨hb, by rw [sizeLine_eq]; omega⟩]
 rw [this, bY]
theorem aCm {i : Int} (h : aDu i) : T (IS [.str (cU i)] w) P = P (.int i) w := by
 have h2 := h.two
 have : IS [.str (cU i)] w = .ok (.int i) w := by
  simp only [IS, h.back, if_pos (show (cU i).length ≤ 640 by omega)]
 rw [this, bY]
theorem aAw {i : Int} (h0 : 0 ≤ i) (h1 : i ≤ 20) : T (sN [.int i] w) P = P (.str (cU i)) w := aFn (by omega)
theorem aEN {a : Str} : T (sN [.str a] w) P = P (.str a) w := by unfold T; rfl
theorem aEB {c : Nat} {z : Str} : T (aCX (.str ⟨#[c]⟩) (.str z) w) P = P (.bl (decide (c ∈ z.cps.toList))) w := by unfold T; rfl
theorem aCK {r : NQ} {xs : List D} (h1 : n ≤ xs.length) (h2 : xs.length ≤ 1000) : T (HA n r (.lst xs) σ w) PS = T (r (xs.take n ++ [.lst (xs.drop n)]) σ w) PS := by
 unfold HA
 simp only []
 rw [if_pos ⟨h1, by rw [sizeLine_eq]; omega⟩]
theorem aC7 {x : Str} (h : ∀ c ∈ x.cps.toList, c < 127) (hl : x.length ≤ 1000) : T (nS [.str x] w) P = P (.str (reprText x)) w := by
 have l := oX h hl
 have e : zP (.str x) w = some (reprText x) := by
  unfold zP
  have : D.py w (.str x) = some (.str x) := rfl
  rw [this]
  simp only []
  rw [if_pos ⟨rfl, rfl, by simp [PyData.depth], by show (reprText x).length ≤ _; rw [sizeLine_eq]; omega⟩]
  rfl
 rw [YX, e]
 simp
theorem aDk {x : Str} {m : ME} (h : ∀ c ∈ x.cps.toList, c < 127) (hl : x.length ≤ 1000) (e : m σ w = .ok (.str x) w) : JV m σ w = .ok (.str (reprText x)) w := by
 have l := oX h hl
 unfold JV
 rw [e]
 simp only [Res.KJ, V2, if_pos (show (reprText x).length ≤ sizeLine by rw [sizeLine_eq]; omega)]
end
end Lw
namespace K03
open PySem PySem.Spec PyProof.Rows L2 Pc
structure Fx (S : aQ) where
 k : bN
 D4 : S.mg ("all" : Str) = none
 S6 : S.mg ("bool" : Str) = none
 CZ : S.mg ("enumerate" : Str) = none
 RD : S.mg ("int" : Str) = none
 dW : S.mg ("isinstance" : Str) = none
 iU : S.mg ("len" : Str) = none
 SD : S.mg ("list" : Str) = none
 z9 : S.mg ("range" : Str) = none
 GG : S.mg ("repr" : Str) = none
 NZ : S.mg ("sorted" : Str) = none
 wZ : S.mg ("str" : Str) = none
 aDK : S.mg ("sum" : Str) = none
 iO : S.mg ("tuple" : Str) = none
 aAy : S.mg ("zip" : Str) = none
 IU : SR S ("FIGURES" : Str) (.str ("0123456789" : Str))
 UN : SR S ("HEAD" : Str) (.jA [(.str ("every" : Str)), (.str ("lost" : Str)), (.str ("slow" : Str)), (.str ("bears" : Str)), (.str ("gap" : Str)), (.str ("hold" : Str))])
 JY : SR S ("LONGEST" : Str) (.int 2)
 lA : SR S ("MOST_ADDRESSES" : Str) (.int 4)
 pR : SR S ("MOST_HOUSES" : Str) (.int 6)
 BR : SR S ("MOST_LESS" : Str) (.int 11)
 FI : SR S ("MOST_TIE" : Str) (.int 9)
 uY : SR S ("MOST_TIES" : Str) (.int 6)
 U8 : SR S ("TOP" : Str) (.int 12)
 vO : SR S ("NUMBERS" : Str) (.con k.dH)
 vZ : KTab S.K S.w k.dH cZ
 LX : SR S ("TAKES" : Str) (.con k.oZ)
 KA : KTab S.K S.w k.oZ qJ
 ML : S.mg ("Plan" : Str) = some (.ref k.aH)
 aBd : SR S ("Plan" : Str) (.con k.aH)
 b6 : Cls S.K k.aH
 YU : OO S.K k.aH
 jS : NoAttr S.K k.aH ("bears" : Str)
 kE : NoAttr S.K k.aH ("every" : Str)
 oA : NoAttr S.K k.aH ("gap" : Str)
 mI : NoAttr S.K k.aH ("hold" : Str)
 j7 : NoAttr S.K k.aH ("hosts" : Str)
 lN : NoAttr S.K k.aH ("lost" : Str)
 jU : NoAttr S.K k.aH ("ranks" : Str)
 lT : NoAttr S.K k.aH ("slow" : Str)
 jN : NoAttr S.K k.aH ("takes" : Str)
 lU : NoAttr S.K k.aH ("ties" : Str)
 GF : S.mg ("Reading" : Str) = some (.ref k.aM)
 WZ : SR S ("Reading" : Str) (.con k.aM)
 bK : Cls S.K k.aM
 cV : NoAttr S.K k.aM ("cords" : Str)
 fY : NoAttr S.K k.aM ("head" : Str)
 cJ : NoAttr S.K k.aM ("rows" : Str)
 lQ : Addr
 pC : FuncData
 uQ : FunD S.K ("_law_deck" : Str) ("_law_deck" : Str) (defArgs (top 34)) (defBody (top 34)) (defScope (top 34)) [] [] lQ pC
 BU : S.mg ("_law_deck" : Str) = some (.ref lQ)
 yT : PySem.W.keepIn S.K (.ref lQ) = true
 mP : Addr
 oV : FuncData
 uR : FunD S.K ("_law_draw" : Str) ("_law_draw" : Str) (defArgs (top 35)) (defBody (top 35)) (defScope (top 35)) [] [] mP oV
 cE : S.mg ("_law_draw" : Str) = some (.ref mP)
 bZ : PySem.W.keepIn S.K (.ref mP) = true
 lH : Addr
 lE : FuncData
 pV : FunD S.K ("fields" : Str) ("Plan.fields" : Str) (defArgs (inClass (top 24) 1)) (defBody (inClass (top 24) 1)) (defScope (inClass (top 24) 1)) [] [] lH lE
 qC : Meth S.K k.aH ("fields" : Str) lH
 vS : Addr
 vP : FuncData
 AU : FunD S.K ("__eq__" : Str) ("Plan.__eq__" : Str) (defArgs (inClass (top 24) 3)) (defBody (inClass (top 24) 3)) (defScope (inClass (top 24) 3)) [] [] vS vP
 IM : Meth S.K k.aH ("__eq__" : Str) vS
 nL : Addr
 rV : FuncData
 xJ : FunD S.K ("in_words" : Str) ("in_words" : Str) (defArgs (top 23)) (defBody (top 23)) (defScope (top 23)) [] [] nL rV
 rM : S.mg ("in_words" : Str) = some (.ref nL)
 pK : PySem.W.keepIn S.K (.ref nL) = true
 rA : Addr
 r4 : FuncData
 xI : FunD S.K ("__str__" : Str) ("Plan.__str__" : Str) (defArgs (inClass (top 24) 4)) (defBody (inClass (top 24) 4)) (defScope (inClass (top 24) 4)) [] [] rA r4
 rS : Meth S.K k.aH ("__str__" : Str) rA
 oY : Addr
 oT : FuncData
 tD : FunD S.K ("__repr__" : Str) ("Plan.__repr__" : Str) (defArgs (inClass (top 24) 5)) (defBody (inClass (top 24) 5)) (defScope (inClass (top 24) 5)) [] [] oY oT
 CI : Meth S.K k.aH ("__repr__" : Str) oY
 fF : Addr
 gU : FuncData
 kG : FunD S.K ("_law_due_fields" : Str) ("_law_due_fields" : Str) (defArgs (top 40)) (defBody (top 40)) (defScope (top 40)) [] [] fF gU
 pE : S.mg ("_law_due_fields" : Str) = some (.ref fF)
 oF : PySem.W.keepIn S.K (.ref fF) = true
 iL : Addr
 lG : FuncData
 qE : FunD S.K ("_law_fields" : Str) ("_law_fields" : Str) (defArgs (top 39)) (defBody (top 39)) (defScope (top 39)) [] [] iL lG
 wQ : S.mg ("_law_fields" : Str) = some (.ref iL)
 sU : PySem.W.keepIn S.K (.ref iL) = true
 nW : Addr
 rN : FuncData
 yL : FunD S.K ("is_whole" : Str) ("is_whole" : Str) (defArgs (top 17)) (defBody (top 17)) (defScope (top 17)) [] [] nW rN
 G6 : S.mg ("is_whole" : Str) = some (.ref nW)
 CY : PySem.W.keepIn S.K (.ref nW) = true
 mL : Addr
 pG : FuncData
 uX : FunD S.K ("is_within" : Str) ("is_within" : Str) (defArgs (top 18)) (defBody (top 18)) (defScope (top 18)) [] [] mL pG
 iX : S.mg ("is_within" : Str) = some (.ref mL)
 iD : PySem.W.keepIn S.K (.ref mL) = true
 lM : Addr
 oQ : FuncData
 u6 : FunD S.K ("are_ranks" : Str) ("are_ranks" : Str) (defArgs (top 19)) (defBody (top 19)) (defScope (top 19)) [] [] lM oQ
 CG : S.mg ("are_ranks" : Str) = some (.ref lM)
 AK : PySem.W.keepIn S.K (.ref lM) = true
 qQ : Addr
 yZ : FuncData
 FE : FunD S.K ("is_tie" : Str) ("is_tie" : Str) (defArgs (top 20)) (defBody (top 20)) (defScope (top 20)) [] [] qQ yZ
 FH : S.mg ("is_tie" : Str) = some (.ref qQ)
 BE : PySem.W.keepIn S.K (.ref qQ) = true
 n5 : Addr
 sF : FuncData
 yF : FunD S.K ("are_ties" : Str) ("are_ties" : Str) (defArgs (top 21)) (defBody (top 21)) (defScope (top 21)) [] [] n5 sF
 FX : S.mg ("are_ties" : Str) = some (.ref n5)
 CO : PySem.W.keepIn S.K (.ref n5) = true
 nX : Addr
 rG : FuncData
 yD : FunD S.K ("is_field" : Str) ("is_field" : Str) (defArgs (top 22)) (defBody (top 22)) (defScope (top 22)) [] [] nX rG
 EY : S.mg ("is_field" : Str) = some (.ref nX)
 CV : PySem.W.keepIn S.K (.ref nX) = true
 oP : Addr
 lW : FuncData
 oI : FunD S.K ("__init__" : Str) ("Plan.__init__" : Str) (defArgs (inClass (top 24) 0)) (defBody (inClass (top 24) 0)) (defScope (inClass (top 24) 0)) [] [(("every" : Str), (.int 1)), (("lost" : Str), (.int 1)), (("slow" : Str), (.int 1)), (("bears" : Str), .non), (("gap" : Str), (.int 1)), (("hold" : Str), (.int 0)), (("takes" : Str), (.bl true)), (("ties" : Str), (.ref k.kS)), (("hosts" : Str), (.int 0))] oP lW
 UP : Mk S.K k.aH oP
 lJ : Addr
 pO : FuncData
 tR : FunD S.K ("_law_made" : Str) ("_law_made" : Str) (defArgs (top 38)) (defBody (top 38)) (defScope (top 38)) [] [] lJ pO
 B3 : S.mg ("_law_made" : Str) = some (.ref lJ)
 y8 : PySem.W.keepIn S.K (.ref lJ) = true
 l5 : Addr
 oJ : FuncData
 tL : FunD S.K ("_law_text" : Str) ("_law_text" : Str) (defArgs (top 41)) (defBody (top 41)) (defScope (top 41)) [] [] l5 oJ
 B4 : S.mg ("_law_text" : Str) = some (.ref l5)
 AG : PySem.W.keepIn S.K (.ref l5) = true
 kA : Addr
 j5 : FuncData
 m9 : FunD S.K ("__init__" : Str) ("Reading.__init__" : Str) (defArgs (inClass (top 31) 0)) (defBody (inClass (top 31) 0)) (defScope (inClass (top 31) 0)) [] [] kA j5
 JQ : Mk S.K k.aM kA
 lK : Addr
 oO : FuncData
 u4 : FunD S.K ("number_in" : Str) ("number_in" : Str) (defArgs (top 30)) (defBody (top 30)) (defScope (top 30)) [] [] lK oO
 oN : S.mg ("number_in" : Str) = some (.ref lK)
 mZ : PySem.W.keepIn S.K (.ref lK) = true
 fJ : Addr
 fI : FuncData
 g6 : FunD S.K ("takes_head" : Str) ("Reading.takes_head" : Str) (defArgs (inClass (top 31) 2)) (defBody (inClass (top 31) 2)) (defScope (inClass (top 31) 2)) [] [] fJ fI
 lY : Meth S.K k.aM ("takes_head" : Str) fJ
 eX : Addr
 eV : FuncData
 gO : FunD S.K ("takes_ranks" : Str) ("Reading.takes_ranks" : Str) (defArgs (inClass (top 31) 3)) (defBody (inClass (top 31) 3)) (defScope (inClass (top 31) 3)) [] [] eX eV
 kK : Meth S.K k.aM ("takes_ranks" : Str) eX
 fT : Addr
 fQ : FuncData
 iG : FunD S.K ("takes_tie" : Str) ("Reading.takes_tie" : Str) (defArgs (inClass (top 31) 4)) (defBody (inClass (top 31) 4)) (defScope (inClass (top 31) 4)) [] [] fT fQ
 mW : Meth S.K k.aM ("takes_tie" : Str) fT
 gW : Addr
 gS : FuncData
 jW : FunD S.K ("goes_on" : Str) ("Reading.goes_on" : Str) (defArgs (inClass (top 31) 1)) (defBody (inClass (top 31) 1)) (defScope (inClass (top 31) 1)) [] [] gW gS
 pJ : Meth S.K k.aM ("goes_on" : Str) gW
 j0 : Addr
 jV : FuncData
 nU : FunD S.K ("made" : Str) ("Reading.made" : Str) (defArgs (inClass (top 31) 5)) (defBody (inClass (top 31) 5)) (defScope (inClass (top 31) 5)) [] [] j0 jV
 u7 : Meth S.K k.aM ("made" : Str) j0
 mG : Addr
 mO : FuncData
 pB : FunD S.K ("read_plan" : Str) ("read_plan" : Str) (defArgs (top 32)) (defBody (top 32)) (defScope (top 32)) [] [] mG mO
 uU : S.mg ("read_plan" : Str) = some (.ref mG)
 rQ : PySem.W.keepIn S.K (.ref mG) = true
 jL : Addr
 mY : FuncData
 rL : FunD S.K ("_law_right" : Str) ("_law_right" : Str) (defArgs (top 42)) (defBody (top 42)) (defScope (top 42)) [] [] jL mY
 zQ : S.mg ("_law_right" : Str) = some (.ref jL)
 wO : PySem.W.keepIn S.K (.ref jL) = true
 lZ : Addr
 o6 : FuncData
 vC : FunD S.K ("_law_pick" : Str) ("_law_pick" : Str) (defArgs (top 36)) (defBody (top 36)) (defScope (top 36)) [] [] lZ o6
 oK : S.mg ("_law_pick" : Str) = some (.ref lZ)
 mX : PySem.W.keepIn S.K (.ref lZ) = true
 mH : Addr
 o4 : FuncData
 vH : FunD S.K ("_law_told" : Str) ("_law_told" : Str) (defArgs (top 37)) (defBody (top 37)) (defScope (top 37)) [] [] mH o4
 CJ : S.mg ("_law_told" : Str) = some (.ref mH)
 zM : PySem.W.keepIn S.K (.ref mH) = true
 J8 : Addr
 VN : FuncData
 aDM : FunD S.K ("law" : Str) ("law" : Str) (defArgs (top 43)) (defBody (top 43)) (defScope (top 43)) [] [] J8 VN
 aDy : S.mg ("law" : Str) = some (.ref J8)
 aET : PySem.W.keepIn S.K (.ref J8) = true
def uF : List Str := [("_law_script" : Str), ("_law_cells" : Str)]
def vD : List Str := [("_law_script" : Str)]
abbrev BZ : Scope := defScope (top 34)
def CT (k : bN) : MS :=
 (aI (aT (aR E5 (aA (qF mS (aB 0) dB (cR (eC (.int 63)))) aE)) (aU 1))
 (aY (G8 (dP (eC (.str ("cells" : Str))) (aB 1) (dP (eC (.str ("at" : Str))) (eC (.int 0)) (dP (eC (.str ("sum" : Str))) (aD bH (aD kH (aR Q9 (aA (aB 1) aE)) (eC (.int 2147483629))) (aD mulM (eC (.int 17)) (aR c7 (aA (aB 1) aE)))) HJ))))))
def uB (k : bN) : MF := bL (CT k) uF
theorem NC : FnScope uF vD BZ := bW (by decide +kernel)
theorem KO {S : aQ} (h : Fx S) : q8 (S.body 0 uF BZ) (defBody (top 34)) (CT h.k) :=
 (aL (yB 1 (dD aBy rfl h.SD rfl (aC (n7 oE (jv 0) gY (fS aP)) aG)))
 (aW (bT (T7 (iP bJ (jv 1) (iP bJ aP (iP bJ (bF cH (bF xW (bD aFi rfl h.aDK rfl (aC (jv 1) aG)) aP) (bF A9 aP (bD gL rfl h.iU rfl (aC (jv 1) aG)))) TV)))))))
theorem MD {S : aQ} (h : Fx S) : eY S.P S.w S.K S.mg S.base 1 h.lQ h.pC vD (uB h.k) := eY.of h.uQ NC (KO h) fun _ _ _ => .iT
theorem MH {S : aQ} (h : Fx S) : b5 S.K h.pC vD 1 [] aN := bP h.uQ fun _ _ _ _ _ _ us hl => match us, hl with
 | [_], _ => rfl
def vJ : List Str := [("_law_deck_here" : Str), ("_law_bound" : Str), ("_law_at" : Str), ("_law_cells" : Str), ("_law_seed" : Str), ("_law_number" : Str)]
def tP : List Str := [("_law_deck_here" : Str), ("_law_bound" : Str)]
abbrev C4 : Scope := defScope (top 35)
def CL (k : bN) : MS :=
 (aI (aT (aD bH (aD aV (aB 0) (eC (.str ("at" : Str)))) (eC (.int 1))) (dQ (aB 0) (eC (.str ("at" : Str)))))
 (aI (aT (aD aV (aB 0) (eC (.str ("at" : Str)))) (aU 2))
 (aI (aT (aD aV (aB 0) (eC (.str ("cells" : Str)))) (aU 3))
 (aI (aT (aD bH (aD aV (aB 0) (eC (.str ("sum" : Str)))) (aB 2)) (aU 4))
 (aI (dR (a8 (aD qX (aB 3) (fP aE))) (aI (aT (cL "list" AV (aB 3) (aA (eC (.int 0)) aE)) (aU 4))
 (dR (a8 (aD geM (aB 4) (aD TN (eC (.int 10)) (eC (.int 18))))) (aI (cS (cL "list" vX (aB 3) (aA (eC (.int 0)) (aA (aD wR (aB 4) (aB 1)) aE))))
 (aY (aD kH (aB 4) (aB 1)))) aX)) aX)
 (aI (aT (aD kH (aD bH (aD bH (aD mulM (aD kH (aB 4) (eC (.int 2147483647))) (eC (.int 48271))) (aD mulM (aD mulM (eC (.int 69621)) (aB 2)) (aB 2))) (eC (.int 7919))) (eC (.int 2147483629))) (aU 5))
 (aI (aT (aD kH (aD mulM (aB 5) (aB 5)) (eC (.int 2147483587))) (aU 5))
 (aY (aD kH (aD wR (aD kH (aD mulM (aB 5) (aD bH (aB 5) (eC (.int 39373)))) (eC (.int 2147483563))) (eC (.int 64))) (aB 1))))))))))
def a9 (k : bN) : MF := bL (CL k) vJ
theorem KC : FnScope vJ tP C4 := bW (by decide +kernel)
theorem KG {S : aQ} (h : Fx S) : q8 (S.body 0 vJ C4) (defBody (top 35)) (CL h.k) :=
 (aL (sV (bF cH (cK (jv 0) bJ) aP) (K1 (jv 0) bJ))
 (aL (yB 2 (cK (jv 0) bJ))
 (aL (yB 3 (cK (jv 0) bJ))
 (aL (yB 4 (bF cH (cK (jv 0) bJ) (jv 2)))
 (aL (f7 (cW uZ (jv 3) (eE aG)) (aL (yB 4 (gQ PySem.F.plainAttrs_list PySem.F.slot_list_pop aAN (jv 3) (aC aP aG)))
 (aW (f7 (cW aFM (jv 4) (bF aFj aP aP)) (aL (yY (gQ PySem.F.plainAttrs_list PySem.F.slot_list_insert XX (jv 3) (aC aP (aC (bF VD (jv 4) (jv 1)) aG))))
 (aW (bT (bF xW (jv 4) (jv 1))))) cP))) cP)
 (aL (yB 5 (bF xW (bF cH (bF cH (bF A9 (bF xW (jv 4) aP) aP) (bF A9 (bF A9 aP (jv 2)) (jv 2))) aP) aP))
 (aL (yB 5 (bF xW (bF A9 (jv 5) (jv 5)) aP))
 (aW (bT (bF xW (bF VD (bF xW (bF A9 (jv 5) (bF cH (jv 5) aP)) aP) aP) (jv 1)))))))))))
theorem b8 {S : aQ} (h : Fx S) : eY S.P S.w S.K S.mg S.base 1 h.mP h.oV tP (a9 h.k) := eY.of h.uR KC (KG h) fun _ _ _ => .iT
theorem b7 {S : aQ} (h : Fx S) : b5 S.K h.oV tP 2 [] aN := bP h.uR fun _ _ _ _ _ _ us hl => match us, hl with
 | [_, _], _ => rfl
def fM : List Str := [("self" : Str), ("numbers" : Str)]
def pX : List Str := [("self" : Str)]
abbrev wM : Scope := defScope (inClass (top 24) 1)
def gH (k : bN) : MS :=
 (aI (aT (bR (aA (bE k.aH ("every" : Str) (aB 0)) (aA (bE k.aH ("lost" : Str) (aB 0)) (aA (bE k.aH ("slow" : Str) (aB 0)) (aA (bE k.aH ("bears" : Str) (aB 0)) (aA (bE k.aH ("gap" : Str) (aB 0)) (aA (bE k.aH ("hold" : Str) (aB 0)) aE))))))) (aU 1))
 (aY (aD bH (aD bH (bR (aA (bE k.aH ("ranks" : Str) (aB 0)) aE)) (aB 1)) (bR (aA (bE k.aH ("takes" : Str) (aB 0)) (aA (bE k.aH ("ties" : Str) (aB 0)) (aA (bE k.aH ("hosts" : Str) (aB 0)) aE)))))))
def c8 (k : bN) : MF := bL (gH k) fM
theorem GU : FnScope fM pX wM := bW (by decide +kernel)
theorem GX {S : aQ} (h : Fx S) : q8 (S.body 0 fM wM) (defBody (inClass (top 24) 1)) (gH h.k) :=
 (aL (yB 1 (fW (aC (bV h.b6 h.kE (jv 0)) (aC (bV h.b6 h.lN (jv 0)) (aC (bV h.b6 h.lT (jv 0)) (aC (bV h.b6 h.jS (jv 0)) (aC (bV h.b6 h.oA (jv 0)) (aC (bV h.b6 h.mI (jv 0)) aG))))))))
 (aW (bT (bF cH (bF cH (fW (aC (bV h.b6 h.jU (jv 0)) aG)) (jv 1)) (fW (aC (bV h.b6 h.jN (jv 0)) (aC (bV h.b6 h.lU (jv 0)) (aC (bV h.b6 h.j7 (jv 0)) aG))))))))
theorem uI {S : aQ} (h : Fx S) : eY S.P S.w S.K S.mg S.base 1 h.lH h.lE pX (c8 h.k) := eY.of h.pV GU (GX h) fun _ _ _ => .iT
theorem u5 {S : aQ} (h : Fx S) : b5 S.K h.lE pX 1 [] aN := bP h.pV fun _ _ _ _ _ _ us hl => match us, hl with
 | [_], _ => rfl
def kO : List Str := [("self" : Str), ("other" : Str)]
def BG : List Str := [("self" : Str), ("other" : Str)]
abbrev J4 : Scope := defScope (inClass (top 24) 3)
def m7 (k : bN) : MS :=
 (aY (jC (aR (jD (kcI k.aH)) (aA (aB 1) (aA (eC (.con k.aH)) aE))) (aD fN (eS k.aH ("fields" : Str) (c8 k) 1 aN (aB 0) aE) (eS k.aH ("fields" : Str) (c8 k) 1 aN (aB 1) aE))))
def kY (k : bN) : MF := bL (m7 k) kO
theorem US : FnScope kO BG J4 := bW (by decide +kernel)
theorem UR {S : aQ} (h : Fx S) : q8 (S.body 2 kO J4) (defBody (inClass (top 24) 3)) (m7 h.k) :=
 (aW (bT (r6 (bD (rD (aEq h.YU)) rfl h.dW rfl (aC (jv 1) (aC (iK h.aBd) aG))) (yG (oD nA (A2 (aa rfl) h.b6 h.qC (uI h) (u5 h) (jv 0)) (A2 (aa rfl) h.b6 h.qC (uI h) (u5 h) (jv 1)))))))
theorem RW {S : aQ} (h : Fx S) : eY S.P S.w S.K S.mg S.base 3 h.vS h.vP BG (kY h.k) := eY.of h.AU US (UR h) fun _ _ _ => .iT
theorem TZ {S : aQ} (h : Fx S) : b5 S.K h.vP BG 2 [] aN := bP h.AU fun _ _ _ _ _ _ us hl => match us, hl with
 | [_, _], _ => rfl
def rO : List Str := [("some" : Str), ("one" : Str)]
def yO : List Str := [("some" : Str)]
abbrev D7 : Scope := defScope (top 23)
def xG (k : bN) : MS :=
 (aY (cL "str" joinM (eC (.str (" " : Str))) (aA (bQ (dM (aB 0)) [1] (aU 1) bS (aR sN (aA (aB 1) aE))) aE)))
def kZ (k : bN) : MF := bL (xG k) rO
theorem Q5 : FnScope rO yO D7 := bW (by decide +kernel)
theorem N0 {S : aQ} (h : Fx S) : q8 (S.body 0 rO D7) (defBody (top 23)) (xG h.k) :=
 (aW (bT (gQ PySem.F.plainAttrs_str PySem.F.slot_str_join vY bJ (aC (eU (own := [(("one" : Str), 1)]) (h9 (jv 0)) (by kernel_rfl) (G4 1) dU (dD AX rfl h.wZ rfl (aC (jv 1) aG))) aG))))
theorem vG {S : aQ} (h : Fx S) : eY S.P S.w S.K S.mg S.base 1 h.nL h.rV yO (kZ h.k) := eY.of h.xJ Q5 (N0 h) fun _ _ _ => .iT
theorem u9 {S : aQ} (h : Fx S) : b5 S.K h.rV yO 1 [] aN := bP h.xJ fun _ _ _ _ _ _ us hl => match us, hl with
 | [_], _ => rfl
def sE : List Str := [("self" : Str), ("numbers" : Str), ("lines" : Str), ("row" : Str), ("tie" : Str)]
def xR : List Str := [("self" : Str)]
abbrev GY : Scope := defScope (inClass (top 24) 4)
def xX (k : bN) : MS :=
 (aI (aT (fP (aA (bE k.aH ("every" : Str) (aB 0)) (aA (bE k.aH ("lost" : Str) (aB 0)) (aA (bE k.aH ("slow" : Str) (aB 0)) (aA (bE k.aH ("bears" : Str) (aB 0)) (aA (bE k.aH ("gap" : Str) (aB 0)) (aA (bE k.aH ("hold" : Str) (aB 0)) aE))))))) (aU 1))
 (aI (aT (eNew (aA (aK (kZ k) 1 aN (aA (aD bH (aD bH (fP (aA (eC (.str ("plan" : Str))) aE)) (aB 1)) (fP (aA (W6 (eQ (bE k.aH ("takes" : Str) (aB 0))) (eC (.str ("yes" : Str))) (eC (.str ("no" : Str)))) (aA (bE k.aH ("hosts" : Str) (aB 0)) aE)))) aE)) aE)) (aU 2))
 (aI (cS (cL "list" vK (aB 2) (aA (bQ (dM (bE k.aH ("ranks" : Str) (aB 0))) [3] (aU 3) bS (aK (kZ k) 1 aN (aA (aD bH (bR (aA (eC (.str ("ranks" : Str))) aE)) (aB 3)) aE))) aE)))
 (aI (cS (cL "list" vK (aB 2) (aA (bQ (dM (bE k.aH ("ties" : Str) (aB 0))) [4] (aU 4) bS (aK (kZ k) 1 aN (aA (aD bH (bR (aA (eC (.str ("tie" : Str))) aE)) (aB 4)) aE))) aE)))
 (aY (cL "str" joinM (eC (.str ("\n" : Str))) (aA (aB 2) aE)))))))
def kU (k : bN) : MF := bL (xX k) sE
theorem Q2 : FnScope sE xR GY := bW (by decide +kernel)
theorem OU {S : aQ} (h : Fx S) : q8 (S.body 1 sE GY) (defBody (inClass (top 24) 4)) (xX h.k) :=
 (aL (yB 1 (eE (aC (bV h.b6 h.kE (jv 0)) (aC (bV h.b6 h.lN (jv 0)) (aC (bV h.b6 h.lT (jv 0)) (aC (bV h.b6 h.jS (jv 0)) (aC (bV h.b6 h.oA (jv 0)) (aC (bV h.b6 h.mI (jv 0)) aG))))))))
 (aL (yB 2 (aEP (aC (bG (aa rfl) (vG h) (u9 h) rfl h.rM h.pK (aC (bF cH (bF cH (eE (aC bJ aG)) (jv 1)) (eE (aC (P0 (fB (bV h.b6 h.jN (jv 0))) bJ bJ) (aC (bV h.b6 h.j7 (jv 0)) aG)))) aG)) aG)))
 (aL (yY (gQ PySem.F.plainAttrs_list PySem.F.slot_list_extend JZ (jv 2) (aC (eU (own := [(("row" : Str), 3)]) (h9 (bV h.b6 h.jU (jv 0))) (by kernel_rfl) (G4 3) dU (bG (aa rfl) (vG h) (u9 h) rfl h.rM h.pK (aC (bF cH (fW (aC bJ aG)) (jv 3)) aG))) aG)))
 (aL (yY (gQ PySem.F.plainAttrs_list PySem.F.slot_list_extend JZ (jv 2) (aC (eU (own := [(("tie" : Str), 4)]) (h9 (bV h.b6 h.lU (jv 0))) (by kernel_rfl) (G4 4) dU (bG (aa rfl) (vG h) (u9 h) rfl h.rM h.pK (aC (bF cH (fW (aC bJ aG)) (jv 4)) aG))) aG)))
 (aW (bT (gQ PySem.F.plainAttrs_str PySem.F.slot_str_join vY bJ (aC (jv 2) aG))))))))
theorem uH {S : aQ} (h : Fx S) : eY S.P S.w S.K S.mg S.base 2 h.rA h.r4 xR (kU h.k) := eY.of h.xI Q2 (OU h) fun _ _ _ => .iT
theorem tZ {S : aQ} (h : Fx S) : b5 S.K h.r4 xR 1 [] aN := bP h.xI fun _ _ _ _ _ _ us hl => match us, hl with
 | [_], _ => rfl
def pD : List Str := [("self" : Str), ("text" : Str)]
def tX : List Str := [("self" : Str)]
abbrev CC : Scope := defScope (inClass (top 24) 5)
def uO (k : bN) : MS :=
 (aI (aT (aR (IK sN k.aH (kU k)) (aA (aB 0) aE)) (aU 1))
 (aY (eFs (wW (eC (.str ("Plan(" : Str))) (wW (JV (aB 1)) (wW (eC (.str (")" : Str))) YG))))))
def pN (k : bN) : MF := bL (uO k) pD
theorem ND : FnScope pD tX CC := bW (by decide +kernel)
theorem KW {S : aQ} (h : Fx S) : q8 (S.body 4 pD CC) (defBody (inClass (top 24) 5)) (uO h.k) :=
 (aL (yB 1 (dD (LN (aa rfl) h.rS (uH h) (tZ h)) rfl h.wZ rfl (aC (jv 0) aG)))
 (aW (bT (aFU (K4 bJ (K4 (aBL (jv 1)) (K4 bJ aDX))) (BP (BP (BP Y0)))))))
theorem LW {S : aQ} (h : Fx S) : eY S.P S.w S.K S.mg S.base 5 h.oY h.oT tX (pN h.k) := eY.of h.tD ND (KW h) fun _ _ _ => .iT
theorem M3 {S : aQ} (h : Fx S) : b5 S.K h.oT tX 1 [] aN := bP h.tD fun _ _ _ _ _ _ us hl => match us, hl with
 | [_], _ => rfl
def gR : List Str := [("_law_told_here" : Str)]
def j9 : List Str := [("_law_told_here" : Str)]
abbrev pM : Scope := defScope (top 40)
def jP (k : bN) : MS :=
 (aY (aR dZ (aA (aD bH (aD bH (qF mS (aB 0) dB (cR (eC (.int 4)))) (fP (aA (W6 (a8 (aD Y4 (aD aV (aB 0) (eC (.int 4))) (eC .non))) (aD aV (aB 0) (eC (.int 2))) (aD aV (aB 0) (eC (.int 4)))) aE))) (qF mS (aB 0) (cR (eC (.int 5))) dB)) aE)))
def gX (k : bN) : MF := bL (jP k) gR
theorem yH : FnScope gR j9 pM := bW (by decide +kernel)
theorem x8 {S : aQ} (h : Fx S) : q8 (S.body 0 gR pM) (defBody (top 40)) (jP h.k) :=
 (aW (bT (dD nQ rfl h.iO rfl (aC (bF cH (bF cH (n7 oE (jv 0) gY (fS aP)) (eE (aC (P0 (cW UZ (cK (jv 0) aP) qA) (cK (jv 0) aP) (cK (jv 0) aP)) aG))) (n7 oE (jv 0) (fS aP) gY)) aG))))
theorem yP {S : aQ} (h : Fx S) : eY S.P S.w S.K S.mg S.base 1 h.fF h.gU j9 (gX h.k) := eY.of h.kG yH (x8 h) fun _ _ _ => .iT
theorem xS {S : aQ} (h : Fx S) : b5 S.K h.gU j9 1 [] aN := bP h.kG fun _ _ _ _ _ _ us hl => match us, hl with
 | [_], _ => rfl
def lB : List Str := [("_law_plan_made" : Str), ("_law_found" : Str)]
def qD : List Str := [("_law_plan_made" : Str)]
abbrev wN : Scope := defScope (top 39)
def pZ (k : bN) : MS :=
 (aI (aT (fP (aA (bE k.aH ("ranks" : Str) (aB 0)) (aA (bE k.aH ("every" : Str) (aB 0)) (aA (bE k.aH ("lost" : Str) (aB 0)) (aA (bE k.aH ("slow" : Str) (aB 0)) (aA (bE k.aH ("bears" : Str) (aB 0)) (aA (bE k.aH ("gap" : Str) (aB 0)) aE))))))) (aU 1))
 (aY (aR dZ (aA (aD bH (aB 1) (fP (aA (bE k.aH ("hold" : Str) (aB 0)) (aA (bE k.aH ("takes" : Str) (aB 0)) (aA (bE k.aH ("ties" : Str) (aB 0)) (aA (bE k.aH ("hosts" : Str) (aB 0)) aE)))))) aE))))
def lF (k : bN) : MF := bL (pZ k) lB
theorem EC : FnScope lB qD wN := bW (by decide +kernel)
theorem FP {S : aQ} (h : Fx S) : q8 (S.body 0 lB wN) (defBody (top 39)) (pZ h.k) :=
 (aL (yB 1 (eE (aC (bV h.b6 h.jU (jv 0)) (aC (bV h.b6 h.kE (jv 0)) (aC (bV h.b6 h.lN (jv 0)) (aC (bV h.b6 h.lT (jv 0)) (aC (bV h.b6 h.jS (jv 0)) (aC (bV h.b6 h.oA (jv 0)) aG))))))))
 (aW (bT (dD nQ rfl h.iO rfl (aC (bF cH (jv 1) (eE (aC (bV h.b6 h.mI (jv 0)) (aC (bV h.b6 h.jN (jv 0)) (aC (bV h.b6 h.lU (jv 0)) (aC (bV h.b6 h.j7 (jv 0)) aG)))))) aG)))))
theorem EL {S : aQ} (h : Fx S) : eY S.P S.w S.K S.mg S.base 1 h.iL h.lG qD (lF h.k) := eY.of h.qE EC (FP h) fun _ _ _ => .iT
theorem FU {S : aQ} (h : Fx S) : b5 S.K h.lG qD 1 [] aN := bP h.qE fun _ _ _ _ _ _ us hl => match us, hl with
 | [_], _ => rfl
def kX : List Str := [("thing" : Str)]
def yN : List Str := [("thing" : Str)]
abbrev HB : Scope := defScope (top 17)
def oB (k : bN) : MS :=
 (aY (jC (aR (jD m2) (aA (aB 0) (aA (eC (.ty "int")) aE))) (AQ notM (aR (jD m2) (aA (aB 0) (aA (eC (.ty "bool")) aE))))))
def iQ (k : bN) : MF := bL (oB k) kX
theorem RH : FnScope kX yN HB := bW (by decide +kernel)
theorem P2 {S : aQ} (h : Fx S) : q8 (S.body 0 kX HB) (defBody (top 17)) (oB h.k) :=
 (aW (bT (r6 (bD (rD pA) rfl h.dW rfl (aC (jv 0) (aC (tE rfl h.RD rfl) aG))) (yG (aFm (bD (rD pA) rfl h.dW rfl (aC (jv 0) (aC (tE rfl h.S6 rfl) aG))))))))
theorem OK {S : aQ} (h : Fx S) : eY S.P S.w S.K S.mg S.base 1 h.nW h.rN yN (iQ h.k) := eY.of h.yL RH (P2 h) fun _ _ _ => .iT
theorem RF {S : aQ} (h : Fx S) : b5 S.K h.rN yN 1 [] aN := bP h.yL fun _ _ _ _ _ _ us hl => match us, hl with
 | [_], _ => rfl
def iY : List Str := [("thing" : Str), ("least" : Str), ("most" : Str)]
def t7 : List Str := [("thing" : Str), ("least" : Str), ("most" : Str)]
abbrev CU : Scope := defScope (top 18)
def lX (k : bN) : MS :=
 (aY (jC (aK (iQ k) 1 aN (aA (aB 0) aE)) (WA HH HH (aB 1) (aB 0) (aB 2))))
def bO (k : bN) : MF := bL (lX k) iY
theorem L0 : FnScope iY t7 CU := bW (by decide +kernel)
theorem MY {S : aQ} (h : Fx S) : q8 (S.body 1 iY CU) (defBody (top 18)) (lX h.k) :=
 (aW (bT (r6 (bG (aa rfl) (OK h) (RF h) rfl h.G6 h.CY (aC (jv 0) aG)) (yG (aBe tN tN (jv 1) (jv 0) (jv 2))))))
theorem jM {S : aQ} (h : Fx S) : eY S.P S.w S.K S.mg S.base 2 h.mL h.pG t7 (bO h.k) := eY.of h.uX L0 (MY h) fun _ _ _ => .iT
theorem jJ {S : aQ} (h : Fx S) : b5 S.K h.pG t7 3 [] aN := bP h.uX fun _ _ _ _ _ _ us hl => match us, hl with
 | [_, _, _], _ => rfl
def i9 : List Str := [("thing" : Str), ("row" : Str), ("rank" : Str)]
def uE : List Str := [("thing" : Str)]
abbrev B6 : Scope := defScope (top 19)
def mE (k : bN) : MS :=
 (aI (dR (h8 (cN (eQ (aR (jD m2) (aA (aB 0) (aA (eC (.ty "tuple")) aE))))) (cN (a8 (WA HH HH (eC (.int 1)) (aR c7 (aA (aB 0) aE)) (eC (.int 4)))))) (aY (eC (.bl false))) aX)
 (aI (dR (cN (eQ (aR allM (aA (bQ (dM (aB 0)) [1] (aU 1) bS (jC (aR (jD m2) (aA (aB 1) (aA (eC (.ty "tuple")) aE))) (aD HH (aR c7 (aA (aB 1) aE)) (eC (.int 6))))) aE)))) (aY (eC (.bl false))) aX)
 (aI (dR (h8 (a8 (aD fN (aD aV (aB 0) (eC (.int 0))) (bR aE))) (cN (eQ (aR allM (aA (bQ (dM (aB 0)) [1] (aU 1) bS (aD fN (aR c7 (aA (aB 1) aE)) (aR c7 (aA (aD aV (aB 0) (eC (.int 0))) aE)))) aE))))) (aY (eC (.bl false))) aX)
 (aY (aR allM (aA (D9 (dM (aB 0)) [1, 2] (aU 1) bS (dM (aB 1)) [2] (aU 2) bS (aK (bO k) 3 aN (aA (aB 2) (aA (eC (.int 1)) (aA (eC (.int 12)) aE))))) aE))))))
def fK (k : bN) : MF := bL (mE k) i9
theorem LA : FnScope i9 uE B6 := bW (by decide +kernel)
theorem M0 {S : aQ} (h : Fx S) : q8 (S.body 2 i9 B6) (defBody (top 19)) (mE h.k) :=
 (aL (f7 (zB (qH (hZ (fB (bD (rD pA) rfl h.dW rfl (aC (jv 0) (aC (tE rfl h.iO rfl) aG))))) (pQ (hZ (yU tN tN aP (bD gL rfl h.iU rfl (aC (jv 0) aG)) (iK h.lA)))))) (aW (bT mK)) cP)
 (aL (f7 (hZ (fB (bD A4 rfl h.D4 rfl (aC (eU (own := [(("row" : Str), 1)]) (h9 (jv 0)) (by kernel_rfl) (G4 1) dU (r6 (bD (rD pA) rfl h.dW rfl (aC (jv 1) (aC (tE rfl h.iO rfl) aG))) (yG (oD tN (bD gL rfl h.iU rfl (aC (jv 1) aG)) (iK h.pR))))) aG)))) (aW (bT mK)) cP)
 (aL (f7 (zB (qH (cW nA (cK (jv 0) aP) (fW aG)) (pQ (hZ (fB (bD A4 rfl h.D4 rfl (aC (eU (own := [(("row" : Str), 1)]) (h9 (jv 0)) (by kernel_rfl) (G4 1) dU (oD nA (bD gL rfl h.iU rfl (aC (jv 1) aG)) (bD gL rfl h.iU rfl (aC (cK (jv 0) aP) aG)))) aG))))))) (aW (bT mK)) cP)
 (aW (bT (bD A4 rfl h.D4 rfl (aC (aA3 (own := [(("row" : Str), 1), (("rank" : Str), 2)]) (vs1 := [2]) (h9 (jv 0)) (by kernel_rfl) (G4 1) dU (h9 (jv 1)) (G4 2) dU (bG (aa rfl) (jM h) (jJ h) rfl h.iX h.iD (aC (jv 2) (aC aP (aC (iK h.U8) aG))))) aG)))))))
theorem L7 {S : aQ} (h : Fx S) : eY S.P S.w S.K S.mg S.base 3 h.lM h.oQ uE (fK h.k) := eY.of h.u6 LA (M0 h) fun _ _ _ => .iT
theorem L8 {S : aQ} (h : Fx S) : b5 S.K h.oQ uE 1 [] aN := bP h.u6 fun _ _ _ _ _ _ us hl => match us, hl with
 | [_], _ => rfl
def qS : List Str := [("thing" : Str), ("houses" : Str), ("house" : Str), ("tie" : Str), ("less" : Str)]
def GC : List Str := [("thing" : Str), ("houses" : Str)]
abbrev NY : Scope := defScope (top 20)
def uM (k : bN) : MS :=
 (aI (dR (h8 (cN (eQ (aR (jD m2) (aA (aB 0) (aA (eC (.ty "tuple")) aE))))) (a8 (aD qX (aR c7 (aA (aB 0) aE)) (eC (.int 3))))) (aY (eC (.bl false))) aX)
 (aI (aT (aB 0) (bX 3 (aJ (aU 2) (aJ (aU 3) (aJ (aU 4) bU)))))
 (aY (jC (aK (bO k) 3 aN (aA (aB 2) (aA (eC (.int 0)) (aA (aD lO (aB 1) (eC (.int 1))) aE)))) (jC (aK (bO k) 3 aN (aA (aB 3) (aA (eC (.int 0)) (aA (eC (.int 9)) aE)))) (aK (bO k) 3 aN (aA (aB 4) (aA (eC (.int 1)) (aA (eC (.int 11)) aE)))))))))
def jI (k : bN) : MF := bL (uM k) qS
theorem XC : FnScope qS GC NY := bW (by decide +kernel)
theorem W0 {S : aQ} (h : Fx S) : q8 (S.body 2 qS NY) (defBody (top 20)) (uM h.k) :=
 (aL (f7 (zB (qH (hZ (fB (bD (rD pA) rfl h.dW rfl (aC (jv 0) (aC (tE rfl h.iO rfl) aG))))) (pQ (cW uZ (bD gL rfl h.iU rfl (aC (jv 0) aG)) aP)))) (aW (bT mK)) cP)
 (aL (sV (jv 0) (yC (n := 3) (eI (LP 2) (eI (LP 3) (eI (LP 4) rX)))))
 (aW (bT (r6 (bG (aa rfl) (jM h) (jJ h) rfl h.iX h.iD (aC (jv 2) (aC aP (aC (bF ZL (jv 1) aP) aG)))) (r6 (bG (aa rfl) (jM h) (jJ h) rfl h.iX h.iD (aC (jv 3) (aC aP (aC (iK h.FI) aG)))) (yG (bG (aa rfl) (jM h) (jJ h) rfl h.iX h.iD (aC (jv 4) (aC aP (aC (iK h.BR) aG)))))))))))
theorem JU {S : aQ} (h : Fx S) : eY S.P S.w S.K S.mg S.base 3 h.qQ h.yZ GC (jI h.k) := eY.of h.FE XC (W0 h) fun _ _ _ => .iT
theorem JR {S : aQ} (h : Fx S) : b5 S.K h.yZ GC 2 [] aN := bP h.FE fun _ _ _ _ _ _ us hl => match us, hl with
 | [_, _], _ => rfl
def kW : List Str := [("thing" : Str), ("houses" : Str), ("one" : Str), ("other" : Str)]
def yI : List Str := [("thing" : Str), ("houses" : Str)]
abbrev FD : Scope := defScope (top 21)
def nO (k : bN) : MS :=
 (aI (dR (h8 (cN (eQ (aR (jD m2) (aA (aB 0) (aA (eC (.ty "tuple")) aE))))) (h8 (a8 (aD NJ (aR c7 (aA (aB 0) aE)) (eC (.int 6)))) (cN (eQ (aR allM (aA (bQ (dM (aB 0)) [2] (aU 2) bS (aK (jI k) 2 aN (aA (aB 2) (aA (aB 1) aE)))) aE)))))) (aY (eC (.bl false))) aX)
 (aY (aR allM (aA (bQ (eT zsM (aA (qF mS (aB 0) dB (cR (AQ sO (eC (.int 1))))) (aA (qF mS (aB 0) (cR (eC (.int 1))) dB) aE))) [2, 3] (bX 2 (aJ (aU 2) (aJ (aU 3) bU))) bS (aD O9 (qF mS (aB 2) dB (cR (eC (.int 2)))) (qF mS (aB 3) dB (cR (eC (.int 2)))))) aE))))
def kT (k : bN) : MF := bL (nO k) kW
theorem QB : FnScope kW yI FD := bW (by decide +kernel)
theorem Q0 {S : aQ} (h : Fx S) : q8 (S.body 3 kW FD) (defBody (top 21)) (nO h.k) :=
 (aL (f7 (zB (qH (hZ (fB (bD (rD pA) rfl h.dW rfl (aC (jv 0) (aC (tE rfl h.iO rfl) aG))))) (qH (cW aFB (bD gL rfl h.iU rfl (aC (jv 0) aG)) (iK h.uY)) (pQ (hZ (fB (bD A4 rfl h.D4 rfl (aC (eU (own := [(("one" : Str), 2)]) (h9 (jv 0)) (by kernel_rfl) (G4 2) dU (bG (aa rfl) (JU h) (JR h) rfl h.FH h.BE (aC (jv 2) (aC (jv 1) aG)))) aG)))))))) (aW (bT mK)) cP)
 (aW (bT (bD A4 rfl h.D4 rfl (aC (eU (own := [(("one" : Str), 2), (("other" : Str), 3)]) (aGj rfl h.aAy (aC (n7 oE (jv 0) gY (fS (J7 BN aP))) (aC (n7 oE (jv 0) (fS aP) gY) aG))) (by kernel_rfl) (aE7 (n := 2) (RA (G4 2) (RA (G4 3) aCt))) dU (oD aDt (n7 oE (jv 2) gY (fS aP)) (n7 oE (jv 3) gY (fS aP)))) aG)))))
theorem OA {S : aQ} (h : Fx S) : eY S.P S.w S.K S.mg S.base 4 h.n5 h.sF yI (kT h.k) := eY.of h.yF QB (Q0 h) fun _ _ _ => .iT
theorem NS {S : aQ} (h : Fx S) : b5 S.K h.sF yI 2 [] aN := bP h.yF fun _ _ _ _ _ _ us hl => match us, hl with
 | [_, _], _ => rfl
def k0 : List Str := [("name" : Str), ("thing" : Str), ("houses" : Str), ("least" : Str), ("most" : Str)]
def xN : List Str := [("name" : Str), ("thing" : Str), ("houses" : Str)]
abbrev HC : Scope := defScope (top 22)
def iS (k : bN) : MS :=
 (aI (dR (a8 (aD (YD k.dH cZ) (aB 0) (eC (.con k.dH)))) (aI (aT (aD (NA k.dH cZ) (eC (.con k.dH)) (aB 0)) (bX 2 (aJ (aU 3) (aJ (aU 4) bU))))
 (aY (aK (bO k) 3 aN (aA (aB 1) (aA (aB 3) (aA (aB 4) aE)))))) aX)
 (aI (dR (a8 (aD fN (aB 0) (eC (.str ("takes" : Str))))) (aY (aR (jD m2) (aA (aB 1) (aA (eC (.ty "bool")) aE)))) aX)
 (aY (aK (kT k) 2 aN (aA (aB 1) (aA (aB 2) aE))))))
def dO (k : bN) : MF := bL (iS k) k0
theorem QN : FnScope k0 xN HC := bW (by decide +kernel)
theorem ON {S : aQ} (h : Fx S) : q8 (S.body 4 k0 HC) (defBody (top 22)) (iS h.k) :=
 (aL (f7 (cW (aEh h.vZ) (jv 0) (iK h.vO)) (aL (sV (TQ h.vZ (iK h.vO) (jv 0)) (yC (n := 2) (eI (LP 3) (eI (LP 4) rX))))
 (aW (bT (bG (aa rfl) (jM h) (jJ h) rfl h.iX h.iD (aC (jv 1) (aC (jv 3) (aC (jv 4) aG))))))) cP)
 (aL (f7 (cW nA (jv 0) bJ) (aW (bT (bD (rD pA) rfl h.dW rfl (aC (jv 1) (aC (tE rfl h.S6 rfl) aG))))) cP)
 (aW (bT (bG (aa rfl) (OA h) (NS h) rfl h.FX h.CO (aC (jv 1) (aC (jv 2) aG)))))))
theorem OE {S : aQ} (h : Fx S) : eY S.P S.w S.K S.mg S.base 5 h.nX h.rG xN (dO h.k) := eY.of h.yD QN (ON h) fun _ _ _ => .iT
theorem P6 {S : aQ} (h : Fx S) : b5 S.K h.rG xN 3 [] aN := bP h.yD fun _ _ _ _ _ _ us hl => match us, hl with
 | [_, _, _], _ => rfl
def fD : List Str := [("self" : Str), ("ranks" : Str), ("every" : Str), ("lost" : Str), ("slow" : Str), ("bears" : Str), ("gap" : Str), ("hold" : Str), ("takes" : Str), ("ties" : Str), ("hosts" : Str), ("borne" : Str), ("told" : Str), ("name" : Str), ("thing" : Str)]
def o5 : List Str := [("self" : Str), ("ranks" : Str), ("every" : Str), ("lost" : Str), ("slow" : Str), ("bears" : Str), ("gap" : Str), ("hold" : Str), ("takes" : Str), ("ties" : Str), ("hosts" : Str)]
abbrev CF : Scope := defScope (inClass (top 24) 0)
def mD (k : bN) : MS :=
 (aI (dR (cN (eQ (aK (fK k) 1 aN (aA (aB 1) aE)))) DD aX)
 (aI (aT (W6 (a8 (aD Y4 (aB 5) (eC .non))) (aB 3) (aB 5)) (aU 11))
 (aI (aT (G8 (dP (eC (.str ("every" : Str))) (aB 2) (dP (eC (.str ("lost" : Str))) (aB 3) (dP (eC (.str ("slow" : Str))) (aB 4) (dP (eC (.str ("bears" : Str))) (aB 11) (dP (eC (.str ("gap" : Str))) (aB 6) (dP (eC (.str ("hold" : Str))) (aB 7) (dP (eC (.str ("takes" : Str))) (aB 8) HJ)))))))) (aU 12))
 (aI (cS (cL "dict" R3 (aB 12) (aA (G8 (dP (eC (.str ("ties" : Str))) (aB 9) (dP (eC (.str ("hosts" : Str))) (aB 10) HJ))) aE)))
 (aI (gZ (vU (aB 12)) (bX 2 (aJ (aU 13) (aJ (aU 14) bU))) (dR (cN (eQ (aK (dO k) 3 aN (aA (aB 13) (aA (aB 14) (aA (aR c7 (aA (aD aV (aB 1) (eC (.int 0))) aE)) aE)))))) DD aX))
 (aI (cG k.aH ("ranks" : Str) (aB 0) (aB 1))
 (aI (cG k.aH ("every" : Str) (aB 0) (aB 2))
 (aI (cG k.aH ("lost" : Str) (aB 0) (aB 3))
 (aI (cG k.aH ("slow" : Str) (aB 0) (aB 4))
 (aI (cG k.aH ("bears" : Str) (aB 0) (aB 11))
 (aI (cG k.aH ("gap" : Str) (aB 0) (aB 6))
 (aI (cG k.aH ("hold" : Str) (aB 0) (aB 7))
 (aI (cG k.aH ("takes" : Str) (aB 0) (aB 8))
 (aI (cG k.aH ("ties" : Str) (aB 0) (aB 9))
 (cG k.aH ("hosts" : Str) (aB 0) (aB 10))))))))))))))))
def gB (k : bN) : MF := bL (mD k) fD
theorem KU : FnScope fD o5 CF := bW (by decide +kernel)
theorem M9 {S : aQ} (h : Fx S) : q8 (S.body 5 fD CF) (defBody (inClass (top 24) 0)) (mD h.k) :=
 (aL (f7 (hZ (fB (bG (aa rfl) (L7 h) (L8 h) rfl h.CG h.AK (aC (jv 1) aG)))) (aW G9) cP)
 (aL (yB 11 (P0 (cW UZ (jv 5) qA) (jv 3) (jv 5)))
 (aL (yB 12 (T7 (iP bJ (jv 2) (iP bJ (jv 3) (iP bJ (jv 4) (iP bJ (jv 11) (iP bJ (jv 6) (iP bJ (jv 7) (iP bJ (jv 8) TV)))))))))
 (aL (yY (gQ PySem.F.plainAttrs_dict PySem.F.slot_dict_update XN (jv 12) (aC (T7 (iP bJ (jv 9) (iP bJ (jv 10) TV))) aG)))
 (aL (GH (aA1 (jv 12)) (yC (n := 2) (eI (LP 13) (eI (LP 14) rX))) (aW (f7 (hZ (fB (bG (aa rfl) (OE h) (P6 h) rfl h.EY h.CV (aC (jv 13) (aC (jv 14) (aC (bD gL rfl h.iU rfl (aC (cK (jv 1) aP) aG)) aG)))))) (aW G9) cP)))
 (aL (dE h.b6 h.jU (jv 0) (jv 1))
 (aL (dE h.b6 h.kE (jv 0) (jv 2))
 (aL (dE h.b6 h.lN (jv 0) (jv 3))
 (aL (dE h.b6 h.lT (jv 0) (jv 4))
 (aL (dE h.b6 h.jS (jv 0) (jv 11))
 (aL (dE h.b6 h.oA (jv 0) (jv 6))
 (aL (dE h.b6 h.mI (jv 0) (jv 7))
 (aL (dE h.b6 h.jN (jv 0) (jv 8))
 (aL (dE h.b6 h.lU (jv 0) (jv 9))
 (aW (dE h.b6 h.j7 (jv 0) (jv 10)))))))))))))))))
theorem yX {S : aQ} (h : Fx S) : eY S.P S.w S.K S.mg S.base 6 h.oP h.lW o5 (gB h.k) := eY.of h.oI KU (M9 h) fun _ _ _ => .iT
abbrev aO (k : bN) : List D → List D → List D := fun xs zs => kJ [(0, 0), (0, 1), (1, 0), (1, 1), (1, 2), (1, 3), (1, 4), (1, 5), (1, 6), (1, 7), (1, 8)] xs zs []
theorem dC {S : aQ} (h : Fx S) : b5 S.K h.lW o5 2 [("every" : Str), ("lost" : Str), ("slow" : Str), ("bears" : Str), ("gap" : Str), ("hold" : Str), ("takes" : Str), ("ties" : Str), ("hosts" : Str)] (aO h.k) := P9 h.oI 2 _ [] _ _ (by simp) (by simp) (fun I F => by simp [RepL]) (fun _ _ _ _ _ _ us mv ws h1 h2 h3 => match us, mv, ws, h1, h2, h3 with
 | [_, _], [], [_, _, _, _, _, _, _, _, _], _, _, _ => rfl) fun xs zs h1 h2 => match xs, zs, h1, h2 with
 | [_, _], [_, _, _, _, _, _, _, _, _], _, _ => rfl
abbrev aZ (k : bN) : List D → List D → List D := fun xs zs => kJ [(0, 0), (0, 1), (1, 8), (1, 7), (1, 6), (1, 5), (1, 4), (1, 3), (1, 2), (1, 1), (1, 0)] xs zs []
theorem c9 {S : aQ} (h : Fx S) : b5 S.K h.lW o5 2 [("hosts" : Str), ("ties" : Str), ("takes" : Str), ("hold" : Str), ("gap" : Str), ("bears" : Str), ("slow" : Str), ("lost" : Str), ("every" : Str)] (aZ h.k) := P9 h.oI 2 _ [] _ _ (by simp) (by simp) (fun I F => by simp [RepL]) (fun _ _ _ _ _ _ us mv ws h1 h2 h3 => match us, mv, ws, h1, h2, h3 with
 | [_, _], [], [_, _, _, _, _, _, _, _, _], _, _, _ => rfl) fun xs zs h1 h2 => match xs, zs, h1, h2 with
 | [_, _], [_, _, _, _, _, _, _, _, _], _, _ => rfl
def iW : List Str := [("_law_told_here" : Str)]
def u3 : List Str := [("_law_told_here" : Str)]
abbrev C0 : Scope := defScope (top 38)
def mF (k : bN) : MS :=
 (aY (xO k.aH (gB k) 1 9 (aZ k) (aA (aD aV (aB 0) (eC (.int 0))) aE) (aA (aD aV (aB 0) (eC (.int 9))) (aA (aD aV (aB 0) (eC (.int 8))) (aA (aD aV (aB 0) (eC (.int 7))) (aA (aD aV (aB 0) (eC (.int 6))) (aA (aD aV (aB 0) (eC (.int 5))) (aA (aD aV (aB 0) (eC (.int 4))) (aA (aD aV (aB 0) (eC (.int 3))) (aA (aD aV (aB 0) (eC (.int 2))) (aA (aD aV (aB 0) (eC (.int 1))) aE)))))))))))
def mN (k : bN) : MF := bL (mF k) iW
theorem LO : FnScope iW u3 C0 := bW (by decide +kernel)
theorem M8 {S : aQ} (h : Fx S) : q8 (S.body 7 iW C0) (defBody (top 38)) (mF h.k) :=
 (aW (bT (jmk (aa rfl) h.UP (yX h) (c9 h) rfl h.ML (aC (cK (jv 0) aP) aG) (eJ (cK (jv 0) aP) (eJ (cK (jv 0) aP) (eJ (cK (jv 0) aP) (eJ (cK (jv 0) aP) (eJ (cK (jv 0) aP) (eJ (cK (jv 0) aP) (eJ (cK (jv 0) aP) (eJ (cK (jv 0) aP) (eJ (cK (jv 0) aP) SW))))))))))))
theorem NF {S : aQ} (h : Fx S) : eY S.P S.w S.K S.mg S.base 8 h.lJ h.pO u3 (mN h.k) := eY.of h.tR LO (M8 h) fun _ _ _ => .iT
theorem KI {S : aQ} (h : Fx S) : b5 S.K h.pO u3 1 [] aN := bP h.tR fun _ _ _ _ _ _ us hl => match us, hl with
 | [_], _ => rfl
def oL : List Str := [("_law_told_here" : Str), ("_law_some" : Str), ("_law_lines" : Str), ("_law_one" : Str), ("_law_row" : Str), ("_law_cord" : Str)]
def tV : List Str := [("_law_told_here" : Str)]
abbrev BS : Scope := defScope (top 41)
def uA (k : bN) : MS :=
 (aI (aT (aD bH (aD bH (aD bH (qF mS (aB 0) dB (cR (eC (.int 4)))) (fP (aA (W6 (a8 (aD Y4 (aD aV (aB 0) (eC (.int 4))) (eC .non))) (aD aV (aB 0) (eC (.int 2))) (aD aV (aB 0) (eC (.int 4)))) aE))) (qF mS (aB 0) (cR (eC (.int 5))) (cR (eC (.int 7))))) (fP (aA (aD aV (fP (aA (eC (.str ("no" : Str))) (aA (eC (.str ("yes" : Str))) aE))) (aR BI (aA (aD aV (aB 0) (eC (.int 7))) aE))) (aA (aD aV (aB 0) (eC (.int 9))) aE)))) (aU 1))
 (aI (aT (fP (aA (cL "str" joinM (eC (.str (" " : Str))) (aA (aD bH (fP (aA (eC (.str ("plan" : Str))) aE)) (bQ (dM (qF mS (aB 1) (cR (eC (.int 1))) dB)) [3] (aU 3) bS (aR sN (aA (aB 3) aE)))) aE)) aE)) (aU 2))
 (aI (aT (aD bH (aB 2) (bQ (dM (aD aV (aB 0) (eC (.int 0)))) [4] (aU 4) bS (cL "str" joinM (eC (.str (" " : Str))) (aA (aD bH (fP (aA (eC (.str ("ranks" : Str))) aE)) (bQ (dM (aB 4)) [3] (aU 3) bS (aR sN (aA (aB 3) aE)))) aE)))) (aU 2))
 (aI (aT (aD bH (aB 2) (bQ (dM (aD aV (aB 0) (eC (.int 8)))) [5] (aU 5) bS (cL "str" joinM (eC (.str (" " : Str))) (aA (aD bH (fP (aA (eC (.str ("tie" : Str))) aE)) (bQ (dM (aB 5)) [3] (aU 3) bS (aR sN (aA (aB 3) aE)))) aE)))) (aU 2))
 (aY (cL "str" joinM (eC (.str ("\n" : Str))) (aA (aB 2) aE)))))))
def o7 (k : bN) : MF := bL (uA k) oL
theorem LF : FnScope oL tV BS := bW (by decide +kernel)
theorem KR {S : aQ} (h : Fx S) : q8 (S.body 0 oL BS) (defBody (top 41)) (uA h.k) :=
 (aL (yB 1 (bF cH (bF cH (bF cH (n7 oE (jv 0) gY (fS aP)) (eE (aC (P0 (cW UZ (cK (jv 0) aP) qA) (cK (jv 0) aP) (cK (jv 0) aP)) aG))) (n7 oE (jv 0) (fS aP) (fS aP))) (eE (aC (cK (eE (aC bJ (aC bJ aG))) (dD aBu rfl h.RD rfl (aC (cK (jv 0) aP) aG))) (aC (cK (jv 0) aP) aG)))))
 (aL (yB 2 (eE (aC (gQ PySem.F.plainAttrs_str PySem.F.slot_str_join vY bJ (aC (bF cH (eE (aC bJ aG)) (eU (own := [(("_law_one" : Str), 3)]) (h9 (n7 oE (jv 1) (fS aP) gY)) (by kernel_rfl) (G4 3) dU (dD AX rfl h.wZ rfl (aC (jv 3) aG)))) aG)) aG)))
 (aL (yB 2 (bF cH (jv 2) (eU (own := [(("_law_row" : Str), 4)]) (h9 (cK (jv 0) aP)) (by kernel_rfl) (G4 4) dU (gQ PySem.F.plainAttrs_str PySem.F.slot_str_join vY bJ (aC (bF cH (eE (aC bJ aG)) (eU (own := [(("_law_one" : Str), 3)]) (h9 (jv 4)) (by kernel_rfl) (G4 3) dU (dD AX rfl h.wZ rfl (aC (jv 3) aG)))) aG)))))
 (aL (yB 2 (bF cH (jv 2) (eU (own := [(("_law_cord" : Str), 5)]) (h9 (cK (jv 0) aP)) (by kernel_rfl) (G4 5) dU (gQ PySem.F.plainAttrs_str PySem.F.slot_str_join vY bJ (aC (bF cH (eE (aC bJ aG)) (eU (own := [(("_law_one" : Str), 3)]) (h9 (jv 5)) (by kernel_rfl) (G4 3) dU (dD AX rfl h.wZ rfl (aC (jv 3) aG)))) aG)))))
 (aW (bT (gQ PySem.F.plainAttrs_str PySem.F.slot_str_join vY bJ (aC (jv 2) aG))))))))
theorem M4 {S : aQ} (h : Fx S) : eY S.P S.w S.K S.mg S.base 1 h.l5 h.oJ tV (o7 h.k) := eY.of h.tL LF (KR h) fun _ _ _ => .iT
theorem M5 {S : aQ} (h : Fx S) : b5 S.K h.oJ tV 1 [] aN := bP h.tL fun _ _ _ _ _ _ us hl => match us, hl with
 | [_], _ => rfl
def jT : List Str := [("self" : Str)]
def nC : List Str := [("self" : Str)]
abbrev vA : Scope := defScope (inClass (top 31) 0)
def n9 (k : bN) : MS :=
 (aI (cG k.aM ("head" : Str) (aB 0) (eC .non))
 (aI (cG k.aM ("rows" : Str) (aB 0) (bR aE))
 (cG k.aM ("cords" : Str) (aB 0) (bR aE))))
def kB (k : bN) : MF := bL (n9 k) jT
theorem DG : FnScope jT nC vA := bW (by decide +kernel)
theorem DC {S : aQ} (h : Fx S) : q8 (S.body 0 jT vA) (defBody (inClass (top 31) 0)) (n9 h.k) :=
 (aL (dE h.bK h.fY (jv 0) qA)
 (aL (dE h.bK h.cJ (jv 0) (fW aG))
 (aW (dE h.bK h.cV (jv 0) (fW aG)))))
theorem DB {S : aQ} (h : Fx S) : eY S.P S.w S.K S.mg S.base 1 h.kA h.j5 nC (kB h.k) := eY.of h.m9 DG (DC h) fun _ _ _ => .iT
theorem DE {S : aQ} (h : Fx S) : b5 S.K h.j5 nC 1 [] aN := bP h.m9 fun _ _ _ _ _ _ us hl => match us, hl with
 | [_], _ => rfl
def o8 : List Str := [("word" : Str), ("least" : Str), ("most" : Str), ("number" : Str), ("sign" : Str)]
def t8 : List Str := [("word" : Str), ("least" : Str), ("most" : Str)]
abbrev CN : Scope := defScope (top 30)
def uV (k : bN) : MS :=
 (aI (dR (h8 (cN (a8 (WA HH HH (eC (.int 1)) (aR c7 (aA (aB 0) aE)) (eC (.int 2))))) (cN (eQ (aR allM (aA (bQ (aB9 (aB 0)) [4] (aU 4) bS (aD aCX (aB 4) (eC (.str ("0123456789" : Str))))) aE))))) (aY (eC .non)) aX)
 (aI (aT (aR IS (aA (aB 0) aE)) (aU 3))
 (aY (W6 (gG (a8 (aD fN (aR sN (aA (aB 3) aE)) (aB 0))) (a8 (WA HH HH (aB 1) (aB 3) (aB 2)))) (aB 3) (eC .non)))))
def jB (k : bN) : MF := bL (uV k) o8
theorem L5 : FnScope o8 t8 CN := bW (by decide +kernel)
theorem KD {S : aQ} (h : Fx S) : q8 (S.body 0 o8 CN) (defBody (top 30)) (uV h.k) :=
 (aL (f7 (zB (qH (hZ (yU tN tN aP (bD gL rfl h.iU rfl (aC (jv 0) aG)) (iK h.JY))) (pQ (hZ (fB (bD A4 rfl h.D4 rfl (aC (eU (own := [(("sign" : Str), 4)]) (aFk (jv 0)) (by kernel_rfl) (G4 4) dU (oD aEu (jv 4) (iK h.IU))) aG))))))) (aW (bT qA)) cP)
 (aL (yB 3 (dD aCw rfl h.RD rfl (aC (jv 0) aG)))
 (aW (bT (P0 (zB (K6 (cW nA (dD AX rfl h.wZ rfl (aC (jv 3) aG)) (jv 0)) (DN (yU tN tN (jv 1) (jv 3) (jv 2))))) (jv 3) qA)))))
theorem rK {S : aQ} (h : Fx S) : eY S.P S.w S.K S.mg S.base 1 h.lK h.oO t8 (jB h.k) := eY.of h.u4 L5 (KD h) fun _ _ _ => .iT
theorem rZ {S : aQ} (h : Fx S) : b5 S.K h.oO t8 3 [] aN := bP h.u4 fun _ _ _ _ _ _ us hl => match us, hl with
 | [_, _, _], _ => rfl
def fG : List Str := [("self" : Str), ("words" : Str), ("found" : Str), ("name" : Str), ("word" : Str), ("least" : Str), ("most" : Str)]
def hV : List Str := [("self" : Str), ("words" : Str)]
abbrev mJ : Scope := defScope (inClass (top 31) 2)
def hX (k : bN) : MS :=
 (aI (dR (h8 (a8 (aD qX (aR c7 (aA (aB 1) aE)) (aD bH (aR c7 (aA (eC (.jA [(.str ("every" : Str)), (.str ("lost" : Str)), (.str ("slow" : Str)), (.str ("bears" : Str)), (.str ("gap" : Str)), (.str ("hold" : Str))])) aE)) (eC (.int 2))))) (a8 (aD (y4 k.oZ qJ) (aD aV (aB 1) (AQ sO (eC (.int 2)))) (eC (.con k.oZ))))) (aY (eC (.bl false))) aX)
 (aI (aT VG (aU 2))
 (aI (gZ (eT zmM (aA (aD GL (eC (.jA [(.str ("every" : Str)), (.str ("lost" : Str)), (.str ("slow" : Str)), (.str ("bears" : Str)), (.str ("gap" : Str)), (.str ("hold" : Str))])) (bR (aA (eC (.str ("hosts" : Str))) aE))) (aA (aD bH (qF mS (aB 1) dB (cR (AQ sO (eC (.int 2))))) (qF mS (aB 1) (cR (AQ sO (eC (.int 1)))) dB)) aE))) (bX 2 (aJ (aU 3) (aJ (aU 4) bU))) (aI (aT (aD (NA k.dH cZ) (eC (.con k.dH)) (aB 3)) (bX 2 (aJ (aU 5) (aJ (aU 6) bU))))
 (aT (aK (jB k) 3 aN (aA (aB 4) (aA (aB 5) (aA (aB 6) aE)))) (dQ (aB 2) (aB 3)))))
 (aI (dR (a8 (aD OZ (eC .non) (AQ AW (aB 2)))) (aY (eC (.bl false))) aX)
 (aI (cG k.aM ("head" : Str) (aB 0) (aB 2))
 (aI (aT (aD (NA k.oZ qJ) (eC (.con k.oZ)) (aD aV (aB 1) (AQ sO (eC (.int 2))))) (dQ (bE k.aM ("head" : Str) (aB 0)) (eC (.str ("takes" : Str)))))
 (aY (eC (.bl true)))))))))
def dX (k : bN) : MF := bL (hX k) fG
theorem sJ : FnScope fG hV mJ := bW (by decide +kernel)
theorem sL {S : aQ} (h : Fx S) : q8 (S.body 1 fG mJ) (defBody (inClass (top 31) 2)) (hX h.k) :=
 (aL (f7 (zB (qH (cW uZ (bD gL rfl h.iU rfl (aC (jv 1) aG)) (bF cH (bD gL rfl h.iU rfl (aC (iK h.UN) aG)) aP)) (pQ (cW (WO h.KA) (cK (jv 1) (J7 BN aP)) (iK h.LX))))) (aW (bT mK)) cP)
 (aL (yB 2 aDd)
 (aL (GH (aGc rfl h.aAy (aC (bF aAQ (iK h.UN) (fW (aC bJ aG))) (aC (bF cH (n7 oE (jv 1) gY (fS (J7 BN aP))) (n7 oE (jv 1) (fS (J7 BN aP)) gY)) aG))) (yC (n := 2) (eI (LP 3) (eI (LP 4) rX))) (aL (sV (TQ h.vZ (iK h.vO) (jv 3)) (yC (n := 2) (eI (LP 5) (eI (LP 6) rX))))
 (aW (sV (bG (aa rfl) (rK h) (rZ h) rfl h.oN h.mZ (aC (jv 4) (aC (jv 5) (aC (jv 6) aG)))) (K1 (jv 2) (jv 3))))))
 (aL (f7 (cW aDF qA (ZI rfl h.SD (jv 2))) (aW (bT mK)) cP)
 (aL (dE h.bK h.fY (jv 0) (jv 2))
 (aL (sV (TQ h.KA (iK h.LX) (cK (jv 1) (J7 BN aP))) (K1 (bV h.bK h.fY (jv 0)) bJ))
 (aW (bT mK))))))))
theorem sP {S : aQ} (h : Fx S) : eY S.P S.w S.K S.mg S.base 2 h.fJ h.fI hV (dX h.k) := eY.of h.g6 sJ (sL h) fun _ _ _ => .iT
theorem sI {S : aQ} (h : Fx S) : b5 S.K h.fI hV 2 [] aN := bP h.g6 fun _ _ _ _ _ _ us hl => match us, hl with
 | [_, _], _ => rfl
def eW : List Str := [("self" : Str), ("words" : Str), ("row" : Str), ("word" : Str)]
def gP : List Str := [("self" : Str), ("words" : Str)]
abbrev kI : Scope := defScope (inClass (top 31) 3)
def gI (k : bN) : MS :=
 (aI (aT (aR dZ (aA (bQ (dM (aB 1)) [3] (aU 3) bS (aK (jB k) 3 aN (aA (aB 3) (aA (eC (.int 1)) (aA (eC (.int 12)) aE))))) aE)) (aU 2))
 (aI (dR (h8 (a8 (aD OZ (eC .non) (aB 2))) (h8 (cN (a8 (WA HH HH (eC (.int 1)) (aR c7 (aA (aB 2) aE)) (eC (.int 6))))) (a8 (aD fN (aR c7 (aA (bE k.aM ("rows" : Str) (aB 0)) aE)) (eC (.int 4)))))) (aY (eC (.bl false))) aX)
 (aI (dR (gG (a8 (aD qX (bE k.aM ("rows" : Str) (aB 0)) (bR aE))) (a8 (aD qX (aR c7 (aA (aB 2) aE)) (aR c7 (aA (aD aV (bE k.aM ("rows" : Str) (aB 0)) (eC (.int 0))) aE))))) (aY (eC (.bl false))) aX)
 (aI (cG k.aM ("rows" : Str) (aB 0) (aD bH (bE k.aM ("rows" : Str) (aB 0)) (bR (aA (aB 2) aE))))
 (aY (eC (.bl true)))))))
def dN (k : bN) : MF := bL (gI k) eW
theorem rB : FnScope eW gP kI := bW (by decide +kernel)
theorem sA {S : aQ} (h : Fx S) : q8 (S.body 1 eW kI) (defBody (inClass (top 31) 3)) (gI h.k) :=
 (aL (yB 2 (dD nQ rfl h.iO rfl (aC (eU (own := [(("word" : Str), 3)]) (h9 (jv 1)) (by kernel_rfl) (G4 3) dU (bG (aa rfl) (rK h) (rZ h) rfl h.oN h.mZ (aC (jv 3) (aC aP (aC (iK h.U8) aG))))) aG)))
 (aL (f7 (zB (qH (cW aDF qA (jv 2)) (qH (hZ (yU tN tN aP (bD gL rfl h.iU rfl (aC (jv 2) aG)) (iK h.pR))) (pQ (cW nA (bD gL rfl h.iU rfl (aC (bV h.bK h.cJ (jv 0)) aG)) (iK h.lA)))))) (aW (bT mK)) cP)
 (aL (f7 (zB (K6 (cW uZ (bV h.bK h.cJ (jv 0)) (fW aG)) (DN (cW uZ (bD gL rfl h.iU rfl (aC (jv 2) aG)) (bD gL rfl h.iU rfl (aC (cK (bV h.bK h.cJ (jv 0)) aP) aG)))))) (aW (bT mK)) cP)
 (aL (dE h.bK h.cJ (jv 0) (bF cH (bV h.bK h.cJ (jv 0)) (fW (aC (jv 2) aG))))
 (aW (bT mK))))))
theorem sC {S : aQ} (h : Fx S) : eY S.P S.w S.K S.mg S.base 2 h.eX h.eV gP (dN h.k) := eY.of h.gO rB (sA h) fun _ _ _ => .iT
theorem rJ {S : aQ} (h : Fx S) : b5 S.K h.eV gP 2 [] aN := bP h.gO fun _ _ _ _ _ _ us hl => match us, hl with
 | [_, _], _ => rfl
def fU : List Str := [("self" : Str), ("words" : Str), ("tie" : Str), ("word" : Str)]
def iJ : List Str := [("self" : Str), ("words" : Str)]
abbrev mT : Scope := defScope (inClass (top 31) 4)
def iH (k : bN) : MS :=
 (aI (aT (aR dZ (aA (bQ (dM (aB 1)) [3] (aU 3) bS (aK (jB k) 3 aN (aA (aB 3) (aA (eC (.int 0)) (aA (eC (.int 12)) aE))))) aE)) (aU 2))
 (aI (dR (h8 (cN (eQ (aK (jI k) 2 aN (aA (aB 2) (aA (aR c7 (aA (aD aV (bE k.aM ("rows" : Str) (aB 0)) (eC (.int 0))) aE)) aE))))) (a8 (aD fN (aR c7 (aA (bE k.aM ("cords" : Str) (aB 0)) aE)) (eC (.int 6))))) (aY (eC (.bl false))) aX)
 (aI (dR (gG (a8 (aD qX (bE k.aM ("cords" : Str) (aB 0)) (bR aE))) (a8 (aD geA (qF mS (aD aV (bE k.aM ("cords" : Str) (aB 0)) (AQ sO (eC (.int 1)))) dB (cR (eC (.int 2)))) (qF mS (aB 2) dB (cR (eC (.int 2))))))) (aY (eC (.bl false))) aX)
 (aI (cG k.aM ("cords" : Str) (aB 0) (aD bH (bE k.aM ("cords" : Str) (aB 0)) (bR (aA (aB 2) aE))))
 (aY (eC (.bl true)))))))
def eG (k : bN) : MF := bL (iH k) fU
theorem uK : FnScope fU iJ mT := bW (by decide +kernel)
theorem tQ {S : aQ} (h : Fx S) : q8 (S.body 3 fU mT) (defBody (inClass (top 31) 4)) (iH h.k) :=
 (aL (yB 2 (dD nQ rfl h.iO rfl (aC (eU (own := [(("word" : Str), 3)]) (h9 (jv 1)) (by kernel_rfl) (G4 3) dU (bG (aa rfl) (rK h) (rZ h) rfl h.oN h.mZ (aC (jv 3) (aC aP (aC (iK h.U8) aG))))) aG)))
 (aL (f7 (zB (qH (hZ (fB (bG (aa rfl) (JU h) (JR h) rfl h.FH h.BE (aC (jv 2) (aC (bD gL rfl h.iU rfl (aC (cK (bV h.bK h.cJ (jv 0)) aP) aG)) aG))))) (pQ (cW nA (bD gL rfl h.iU rfl (aC (bV h.bK h.cV (jv 0)) aG)) (iK h.uY))))) (aW (bT mK)) cP)
 (aL (f7 (zB (K6 (cW uZ (bV h.bK h.cV (jv 0)) (fW aG)) (DN (cW aEZ (n7 oE (cK (bV h.bK h.cV (jv 0)) (J7 BN aP)) gY (fS aP)) (n7 oE (jv 2) gY (fS aP)))))) (aW (bT mK)) cP)
 (aL (dE h.bK h.cV (jv 0) (bF cH (bV h.bK h.cV (jv 0)) (fW (aC (jv 2) aG))))
 (aW (bT mK))))))
theorem uN {S : aQ} (h : Fx S) : eY S.P S.w S.K S.mg S.base 4 h.fT h.fQ iJ (eG h.k) := eY.of h.iG uK (tQ h) fun _ _ _ => .iT
theorem sS {S : aQ} (h : Fx S) : b5 S.K h.fQ iJ 2 [] aN := bP h.iG fun _ _ _ _ _ _ us hl => match us, hl with
 | [_, _], _ => rfl
def gT : List Str := [("self" : Str), ("line" : Str), ("word" : Str), ("words" : Str)]
def j4 : List Str := [("self" : Str), ("line" : Str)]
abbrev oS : Scope := defScope (inClass (top 31) 1)
def jG (k : bN) : MS :=
 (aI (aT (cL "str" splitM (aB 1) (aA (eC (.str (" " : Str))) aE)) (HA 1 (aJ (aU 2) (aJ (aU 3) bU))))
 (aI (dR (a8 (aD Y4 (bE k.aM ("head" : Str) (aB 0)) (eC .non))) (aY (jC (aD fN (aB 2) (eC (.str ("plan" : Str)))) (eS k.aM ("takes_head" : Str) (dX k) 2 aN (aB 0) (aA (aB 3) aE)))) aX)
 (aI (dR (gG (a8 (aD fN (aB 2) (eC (.str ("ranks" : Str))))) (a8 (aD fN (bE k.aM ("cords" : Str) (aB 0)) (bR aE)))) (aY (eS k.aM ("takes_ranks" : Str) (dN k) 2 aN (aB 0) (aA (aB 3) aE))) aX)
 (aY (jC (aD fN (aB 2) (eC (.str ("tie" : Str)))) (jC (aD qX (bE k.aM ("rows" : Str) (aB 0)) (bR aE)) (eS k.aM ("takes_tie" : Str) (eG k) 2 aN (aB 0) (aA (aB 3) aE))))))))
def cQ (k : bN) : MF := bL (jG k) gT
theorem yE : FnScope gT j4 oS := bW (by decide +kernel)
theorem xV {S : aQ} (h : Fx S) : q8 (S.body 5 gT oS) (defBody (inClass (top 31) 1)) (jG h.k) :=
 (aL (sV (gQ PySem.F.plainAttrs_str PySem.F.slot_str_split OV (jv 1) (aC bJ aG)) (aA8 (n := 1) (eI (LP 2) (ZN (LP 3)))))
 (aL (f7 (cW UZ (bV h.bK h.fY (jv 0)) qA) (aW (bT (r6 (oD nA (jv 2) bJ) (yG (AO (aa rfl) h.bK h.lY (sP h) (sI h) (jv 0) (aC (jv 3) aG)))))) cP)
 (aL (f7 (zB (K6 (cW nA (jv 2) bJ) (DN (cW nA (bV h.bK h.cV (jv 0)) (fW aG))))) (aW (bT (AO (aa rfl) h.bK h.kK (sC h) (rJ h) (jv 0) (aC (jv 3) aG)))) cP)
 (aW (bT (r6 (oD nA (jv 2) bJ) (r6 (oD uZ (bV h.bK h.cJ (jv 0)) (fW aG)) (yG (AO (aa rfl) h.bK h.mW (uN h) (sS h) (jv 0) (aC (jv 3) aG))))))))))
theorem yK {S : aQ} (h : Fx S) : eY S.P S.w S.K S.mg S.base 6 h.gW h.gS j4 (cQ h.k) := eY.of h.jW yE (xV h) fun _ _ _ => .iT
theorem yJ {S : aQ} (h : Fx S) : b5 S.K h.gS j4 2 [] aN := bP h.jW fun _ _ _ _ _ _ us hl => match us, hl with
 | [_, _], _ => rfl
def jR : List Str := [("self" : Str), ("head" : Str)]
def nJ : List Str := [("self" : Str)]
abbrev vI : Scope := defScope (inClass (top 31) 5)
def nE (k : bN) : MS :=
 (aI (aT (bE k.aM ("head" : Str) (aB 0)) (aU 1))
 (aY (xO k.aH (gB k) 1 9 (aO k) (aA (bE k.aM ("rows" : Str) (aB 0)) aE) (aA (aD aV (aB 1) (eC (.str ("every" : Str)))) (aA (aD aV (aB 1) (eC (.str ("lost" : Str)))) (aA (aD aV (aB 1) (eC (.str ("slow" : Str)))) (aA (aD aV (aB 1) (eC (.str ("bears" : Str)))) (aA (aD aV (aB 1) (eC (.str ("gap" : Str)))) (aA (aD aV (aB 1) (eC (.str ("hold" : Str)))) (aA (aD aV (aB 1) (eC (.str ("takes" : Str)))) (aA (bE k.aM ("cords" : Str) (aB 0)) (aA (aD aV (aB 1) (eC (.str ("hosts" : Str)))) aE))))))))))))
def j6 (k : bN) : MF := bL (nE k) jR
theorem C7 : FnScope jR nJ vI := bW (by decide +kernel)
theorem DF {S : aQ} (h : Fx S) : q8 (S.body 7 jR vI) (defBody (inClass (top 31) 5)) (nE h.k) :=
 (aL (yB 1 (bV h.bK h.fY (jv 0)))
 (aW (bT (jmk (aa rfl) h.UP (yX h) (dC h) rfl h.ML (aC (bV h.bK h.cJ (jv 0)) aG) (eJ (cK (jv 1) bJ) (eJ (cK (jv 1) bJ) (eJ (cK (jv 1) bJ) (eJ (cK (jv 1) bJ) (eJ (cK (jv 1) bJ) (eJ (cK (jv 1) bJ) (eJ (cK (jv 1) bJ) (eJ (bV h.bK h.cV (jv 0)) (eJ (cK (jv 1) bJ) SW)))))))))))))
theorem DI {S : aQ} (h : Fx S) : eY S.P S.w S.K S.mg S.base 8 h.j0 h.jV nJ (j6 h.k) := eY.of h.nU C7 (DF h) fun _ _ _ => .iT
theorem C9 {S : aQ} (h : Fx S) : b5 S.K h.jV nJ 1 [] aN := bP h.nU fun _ _ _ _ _ _ us hl => match us, hl with
 | [_], _ => rfl
def pF : List Str := [("text" : Str), ("reading" : Str), ("lines" : Str), ("at" : Str), ("line" : Str)]
def oR : List Str := [("text" : Str)]
abbrev BQ : Scope := defScope (top 32)
def sQ (k : bN) : MS :=
 (aI (dR (cN (eQ (aR (jD m2) (aA (aB 0) (aA (eC (.ty "str")) aE))))) DD aX)
 (aI (aT (OY k.aM (kB k) 0 aN aE) (aU 1))
 (aI (aT (cL "str" splitM (aB 0) (aA (eC (.str ("\n" : Str))) aE)) (aU 2))
 (aI (gZ (eT qL (aA (aB 2) aE)) (bX 2 (aJ (aU 3) (aJ (aU 4) bU))) (dR (cN (eQ (eS k.aM ("goes_on" : Str) (cQ k) 2 aN (aB 1) (aA (aB 4) aE)))) DD aX))
 (aI (dR (a8 (aD fN (bE k.aM ("rows" : Str) (aB 1)) (bR aE))) DD aX)
 (aY (eS k.aM ("made" : Str) (j6 k) 1 aN (aB 1) aE)))))))
def lR (k : bN) : MF := bL (sQ k) pF
theorem J9 : FnScope pF oR BQ := bW (by decide +kernel)
theorem MW {S : aQ} (h : Fx S) : q8 (S.body 9 pF BQ) (defBody (top 32)) (sQ h.k) :=
 (aL (f7 (hZ (fB (bD (rD pA) rfl h.dW rfl (aC (jv 0) (aC (tE rfl h.wZ rfl) aG))))) (aW G9) cP)
 (aL (yB 1 (aAT (aa rfl) h.JQ (DB h) (DE h) rfl h.GF))
 (aL (yB 2 (gQ PySem.F.plainAttrs_str PySem.F.slot_str_split OV (jv 0) (aC bJ aG)))
 (aL (GH (aBt rfl h.CZ (aC (jv 2) aG)) (yC (n := 2) (eI (LP 3) (eI (LP 4) rX))) (aW (f7 (hZ (fB (AO (aa rfl) h.bK h.pJ (yK h) (yJ h) (jv 1) (aC (jv 4) aG)))) (aW G9) cP)))
 (aL (f7 (cW nA (bV h.bK h.cJ (jv 1)) (fW aG)) (aW G9) cP)
 (aW (bT (A2 (aa rfl) h.bK h.u7 (DI h) (C9 h) (jv 1)))))))))
theorem zF {S : aQ} (h : Fx S) : eY S.P S.w S.K S.mg S.base 10 h.mG h.mO oR (lR h.k) := eY.of h.pB J9 (MW h) fun _ _ _ => .iT
theorem MK {S : aQ} (h : Fx S) : b5 S.K h.mO oR 1 [] aN := bP h.pB fun _ _ _ _ _ _ us hl => match us, hl with
 | [_], _ => rfl
abbrev iR (k : bN) : List D → List D → List D := pick [(true, 0)]
theorem wC {S : aQ} (h : Fx S) : b5 S.K h.mO oR 0 [("text" : Str)] (iR h.k) := YB h.pB 0 _ _ (fun _ _ _ _ _ _ us ws h1 h2 => match us, ws, h1, h2 with
 | [], [_], _, _ => rfl) fun xs zs h1 h2 => match xs, zs, h1, h2 with
 | [], [_], _, _ => rfl
def iC : List Str := [("_law_told_here" : Str), ("_law_made_here" : Str), ("_law_due" : Str), ("_law_found" : Str)]
def r7 : List Str := [("_law_told_here" : Str)]
abbrev AJ : Scope := defScope (top 42)
def kF (k : bN) : MS :=
 (aI (LJ 1 2 (aA (aK (mN k) 1 aN (aA (aB 0) aE)) (aA (aK (o7 k) 1 aN (aA (aB 0) aE)) aE)))
 (aI (dR (h8 (a8 (aD qX (aR (IK sN k.aH (kU k)) (aA (aB 1) aE)) (aB 2))) (a8 (aD qX (aR (IK nS k.aH (pN k)) (aA (aB 1) aE)) (aD bH (aD bH (eC (.str ("Plan(" : Str))) (aR nS (aA (aB 2) aE))) (eC (.str (")" : Str))))))) (aY (eC (.bl false))) aX)
 (aI (gZ (dM (bR (aA (aK (lR k) 1 aN (aA (aB 2) aE)) (aA (yM (lR k) 0 1 (iR k) aE (aA (aB 2) aE)) aE)))) (aU 3) (dR (h8 (a8 (aD qX (aR nS (aA (aK (lF k) 1 aN (aA (aB 3) aE)) aE)) (aR nS (aA (aK (gX k) 1 aN (aA (aB 0) aE)) aE)))) (h8 (cN (a8 (aD (eqI k.aH (kY k)) (aB 3) (aB 1)))) (a8 (aD qX (aR (IK sN k.aH (kU k)) (aA (aB 3) aE)) (aB 2))))) (aY (eC (.bl false))) aX))
 (aY (eC (.bl true))))))
def j8 (k : bN) : MF := bL (kF k) iC
theorem HW : FnScope iC r7 AJ := bW (by decide +kernel)
theorem HG {S : aQ} (h : Fx S) : q8 (S.body 10 iC AJ) (defBody (top 42)) (kF h.k) :=
 (aL (aD6 1 2 (aC (bG (aa rfl) (NF h) (KI h) rfl h.B3 h.y8 (aC (jv 0) aG)) (aC (bG (aa rfl) (M4 h) (M5 h) rfl h.B4 h.AG (aC (jv 0) aG)) aG)))
 (aL (f7 (zB (qH (cW uZ (dD (LN (aa rfl) h.rS (uH h) (tZ h)) rfl h.wZ rfl (aC (jv 1) aG)) (jv 2)) (pQ (cW uZ (bD (Y8 (aa rfl) h.CI (LW h) (M3 h)) rfl h.GG rfl (aC (jv 1) aG)) (bF cH (bF cH bJ (bD DR rfl h.GG rfl (aC (jv 2) aG))) bJ))))) (aW (bT mK)) cP)
 (aL (GH (h9 (fW (aC (bG (aa rfl) (zF h) (MK h) rfl h.uU h.rQ (aC (jv 2) aG)) (aC (aG2 (aa rfl) (zF h) (wC h) rfl h.uU h.rQ (eJ (jv 2) SW)) aG)))) (LP 3) (aW (f7 (zB (qH (cW uZ (bD DR rfl h.GG rfl (aC (bG (aa rfl) (EL h) (FU h) rfl h.wQ h.sU (aC (jv 3) aG)) aG)) (bD DR rfl h.GG rfl (aC (bG (aa rfl) (yP h) (xS h) rfl h.pE h.oF (aC (jv 0) aG)) aG))) (qH (hZ (cW (aEj (aa rfl) h.IM (RW h) (TZ h)) (jv 3) (jv 1))) (pQ (cW uZ (dD (LN (aa rfl) h.rS (uH h) (tZ h)) rfl h.wZ rfl (aC (jv 3) aG)) (jv 2)))))) (aW (bT mK)) cP)))
 (aW (bT mK)))))
theorem HQ {S : aQ} (h : Fx S) : eY S.P S.w S.K S.mg S.base 11 h.jL h.mY r7 (j8 h.k) := eY.of h.rL HW (HG h) fun _ _ _ => .iT
theorem HL {S : aQ} (h : Fx S) : b5 S.K h.mY r7 1 [] aN := bP h.rL fun _ _ _ _ _ _ us hl => match us, hl with
 | [_], _ => rfl
def uJ : List Str := [("_law_deck_here" : Str), ("_law_some" : Str)]
def tO : List Str := [("_law_deck_here" : Str), ("_law_some" : Str)]
abbrev CQ : Scope := defScope (top 36)
def BX (k : bN) : MS :=
 (aY (aD aV (aB 1) (aK (a9 k) 2 aN (aA (aB 0) (aA (aR c7 (aA (aB 1) aE)) aE)))))
def f9 (k : bN) : MF := bL (BX k) uJ
theorem K7 : FnScope uJ tO CQ := bW (by decide +kernel)
theorem KL {S : aQ} (h : Fx S) : q8 (S.body 1 uJ CQ) (defBody (top 36)) (BX h.k) :=
 (aW (bT (cK (jv 1) (bG (aa rfl) (b8 h) (b7 h) rfl h.cE h.bZ (aC (jv 0) (aC (bD gL rfl h.iU rfl (aC (jv 1) aG)) aG))))))
theorem r9 {S : aQ} (h : Fx S) : eY S.P S.w S.K S.mg S.base 2 h.lZ h.o6 tO (f9 h.k) := eY.of h.vC K7 (KL h) fun _ _ _ => .iT
theorem sD {S : aQ} (h : Fx S) : b5 S.K h.o6 tO 2 [] aN := bP h.vC fun _ _ _ _ _ _ us hl => match us, hl with
 | [_, _], _ => rfl
def iZ : List Str := [("_law_deck_here" : Str), ("_law_great" : Str), ("_law_houses" : Str), ("_law_addresses" : Str), ("_law_low" : Str), ("_law_rows" : Str), ("_law_cords" : Str), ("_law_k" : Str), ("_law_some" : Str), ("_law_found" : Str), ("_law_a" : Str), ("_law_h" : Str), ("_law_pair" : Str)]
def tK : List Str := [("_law_deck_here" : Str), ("_law_great" : Str)]
abbrev CS : Scope := defScope (top 37)
def mM (k : bN) : MS :=
 (aI (aT (bR (aA (aD aV (fP (aA (aD bH (eC (.int 1)) (aK (a9 k) 2 aN (aA (aB 0) (aA (eC (.int 6)) aE)))) (aA (eC (.int 6)) aE))) (aB 1)) (aA (aD aV (fP (aA (aD bH (eC (.int 1)) (aK (a9 k) 2 aN (aA (aB 0) (aA (eC (.int 4)) aE)))) (aA (eC (.int 4)) aE))) (aB 1)) aE))) (bX 2 (aJ (aU 2) (aJ (aU 3) bU))))
 (aI (aT (aK (f9 k) 2 aN (aA (aB 0) (aA (fP (aA (eC (.int 1)) (aA (eC (.int 8)) (aA (eC (.int 9)) (aA (eC (.int 10)) aE))))) aE))) (aU 4))
 (aI (aT (bQ (eT l9 (aA (aB 3) aE)) [10] (aU 10) bS (aR dZ (aA (bQ (eT l9 (aA (aB 2) aE)) [11] (aU 11) bS (aD bH (aB 4) (aK (a9 k) 2 aN (aA (aB 0) (aA (aD lO (eC (.int 13)) (aB 4)) aE))))) aE))) (aU 5))
 (aI (aT rH (aU 6))
 (aI (gZ (eT l9 (aA (aD aV (fP (aA (aK (a9 k) 2 aN (aA (aB 0) (aA (eC (.int 7)) aE))) (aA (eC (.int 24)) aE))) (aB 1)) aE)) (aU 7) (dR (a8 (aD O9 (aR EN (aA (aB 6) aE)) (eC (.int 6)))) (aT (aD aV (fP (aA (eC (.int 1)) (aA (eC (.int 9)) (aA (eC (.int 10)) (aA (eC (.int 11)) (aA (eC (.int 2)) aE)))))) (aK (a9 k) 2 aN (aA (aB 0) (aA (eC (.int 5)) aE)))) (dQ (aB 6) (bR (aA (aK (a9 k) 2 aN (aA (aB 0) (aA (aB 2) aE))) (aA (aK (a9 k) 2 aN (aA (aB 0) (aA (eC (.int 10)) aE))) aE))))) aX))
 (aI (aT (aR dZ (aA (aR lC (aA (bQ (vV (aB 6)) [12] (aU 12) bS (aD bH (aB 12) (bR (aA (aD aV (aB 6) (aB 12)) aE)))) aE)) aE)) (aU 8))
 (aI (aT (fP (aA (aR dZ (aA (aB 5) aE)) (aA (aD bH (eC (.int 1)) (aK (a9 k) 2 aN (aA (aB 0) (aA (eC (.int 5)) aE)))) (aA (aK (a9 k) 2 aN (aA (aB 0) (aA (eC (.int 4)) aE))) (aA (aD bH (eC (.int 1)) (aK (a9 k) 2 aN (aA (aB 0) (aA (eC (.int 4)) aE)))) aE))))) (aU 9))
 (aI (aT (aD D8 (aB 9) (fP (aA (aK (f9 k) 2 aN (aA (aB 0) (aA (fP (aA (eC .non) (aA (eC (.int 0)) (aA (eC (.int 1)) (aA (eC (.int 2)) (aA (eC (.int 3)) aE)))))) aE))) (aA (aK (a9 k) 2 aN (aA (aB 0) (aA (eC (.int 4)) aE))) aE)))) (aU 9))
 (aI (cS (cL "list" dA (aB 9) (aA (aK (f9 k) 2 aN (aA (aB 0) (aA (fP (aA (eC (.int 0)) (aA (eC (.int 9)) (aA (eC (.int 10)) (aA (eC (.int 20)) (aA (aK (a9 k) 2 aN (aA (aB 0) (aA (eC (.int 21)) aE))) aE)))))) aE))) aE)))
 (aY (aD R9 (aB 9) (fP (aA (aD fN (aK (a9 k) 2 aN (aA (aB 0) (aA (eC (.int 2)) aE))) (eC (.int 1))) (aA (aB 8) (aA (aK (a9 k) 2 aN (aA (aB 0) (aA (eC (.int 5)) aE))) aE)))))))))))))))
def mC (k : bN) : MF := bL (mM k) iZ
theorem LV : FnScope iZ tK CS := bW (by decide +kernel)
theorem LM {S : aQ} (h : Fx S) : q8 (S.body 2 iZ CS) (defBody (top 37)) (mM h.k) :=
 (aL (ZA (fW (aC (cK (eE (aC (bF cH aP (bG (aa rfl) (b8 h) (b7 h) rfl h.cE h.bZ (aC (jv 0) (aC aP aG)))) (aC aP aG))) (jv 1)) (aC (cK (eE (aC (bF cH aP (bG (aa rfl) (b8 h) (b7 h) rfl h.cE h.bZ (aC (jv 0) (aC aP aG)))) (aC aP aG))) (jv 1)) aG))) (yC (n := 2) (eI (LP 2) (eI (LP 3) rX))))
 (aL (yB 4 (bG (aa rfl) (r9 h) (sD h) rfl h.oK h.mX (aC (jv 0) (aC (eE (aC aP (aC aP (aC aP (aC aP aG))))) aG))))
 (aL (jsc 5 (own := [(("_law_a" : Str), 10)]) (vW rfl h.z9 (aC (jv 3) aG)) (by kernel_rfl) (G4 10) dU (dD nQ rfl h.iO rfl (aC (eU (own := [(("_law_h" : Str), 11)]) (vW rfl h.z9 (aC (jv 2) aG)) (by kernel_rfl) (G4 11) dU (bF cH (jv 4) (bG (aa rfl) (b8 h) (b7 h) rfl h.cE h.bZ (aC (jv 0) (aC (bF ZL aP (jv 4)) aG))))) aG)))
 (aL (yB 6 YY)
 (aL (GH (vW rfl h.z9 (aC (cK (eE (aC (bG (aa rfl) (b8 h) (b7 h) rfl h.cE h.bZ (aC (jv 0) (aC aP aG))) (aC aP aG))) (jv 1)) aG)) (LP 7) (aW (f7 (cW aDt (bD ZS rfl h.iU rfl (aC (jv 6) aG)) aP) (aW (sV (cK (eE (aC aP (aC aP (aC aP (aC aP (aC aP aG)))))) (bG (aa rfl) (b8 h) (b7 h) rfl h.cE h.bZ (aC (jv 0) (aC aP aG)))) (K1 (jv 6) (fW (aC (bG (aa rfl) (b8 h) (b7 h) rfl h.cE h.bZ (aC (jv 0) (aC (jv 2) aG))) (aC (bG (aa rfl) (b8 h) (b7 h) rfl h.cE h.bZ (aC (jv 0) (aC aP aG))) aG)))))) cP)))
 (aL (yB 8 (dD nQ rfl h.iO rfl (aC (bD YA rfl h.NZ rfl (aC (eU (own := [(("_law_pair" : Str), 12)]) (aB2 (jv 6)) (by kernel_rfl) (G4 12) dU (bF cH (jv 12) (fW (aC (cK (jv 6) (jv 12)) aG)))) aG)) aG)))
 (aL (yB 9 (eE (aC (dD nQ rfl h.iO rfl (aC (jv 5) aG)) (aC (bF cH aP (bG (aa rfl) (b8 h) (b7 h) rfl h.cE h.bZ (aC (jv 0) (aC aP aG)))) (aC (bG (aa rfl) (b8 h) (b7 h) rfl h.cE h.bZ (aC (jv 0) (aC aP aG))) (aC (bF cH aP (bG (aa rfl) (b8 h) (b7 h) rfl h.cE h.bZ (aC (jv 0) (aC aP aG)))) aG))))))
 (aL (yB 9 (bF ZR (jv 9) (eE (aC (bG (aa rfl) (r9 h) (sD h) rfl h.oK h.mX (aC (jv 0) (aC (eE (aC qA (aC aP (aC aP (aC aP (aC aP aG)))))) aG))) (aC (bG (aa rfl) (b8 h) (b7 h) rfl h.cE h.bZ (aC (jv 0) (aC aP aG))) aG)))))
 (aL (yY (gQ PySem.F.plainAttrs_list PySem.F.slot_list_append X2 (jv 9) (aC (bG (aa rfl) (r9 h) (sD h) rfl h.oK h.mX (aC (jv 0) (aC (eE (aC aP (aC aP (aC aP (aC aP (aC (bG (aa rfl) (b8 h) (b7 h) rfl h.cE h.bZ (aC (jv 0) (aC aP aG))) aG)))))) aG))) aG)))
 (aW (bT (bF aCc (jv 9) (eE (aC (oD nA (bG (aa rfl) (b8 h) (b7 h) rfl h.cE h.bZ (aC (jv 0) (aC aP aG))) aP) (aC (jv 8) (aC (bG (aa rfl) (b8 h) (b7 h) rfl h.cE h.bZ (aC (jv 0) (aC aP aG))) aG))))))))))))))))
theorem L6 {S : aQ} (h : Fx S) : eY S.P S.w S.K S.mg S.base 3 h.mH h.o4 tK (mC h.k) := eY.of h.vH LV (LM h) fun _ _ _ => .iT
theorem NH {S : aQ} (h : Fx S) : b5 S.K h.o4 tK 2 [] aN := bP h.vH fun _ _ _ _ _ _ us hl => match us, hl with
 | [_, _], _ => rfl
def U9 : List Str := [("_law_script" : Str), ("_law_deck_here" : Str), ("_law_some" : Str), ("_law_k" : Str), ("_law_told_here" : Str)]
def aDS : List Str := [("_law_script" : Str)]
abbrev aDx : Scope := defScope (top 43)
def aA5 (k : bN) : MS :=
 (aI (aT (aK (uB k) 1 aN (aA (aB 0) aE)) (aU 1))
 (aI (aT (bQ (eT l9 (aA (eC (.int 4)) aE)) [3] (aU 3) bS (aK (mC k) 2 aN (aA (aB 1) (aA (aR BI (aA (aD fN (aK (a9 k) 2 aN (aA (aB 1) (aA (eC (.int 8)) aE))) (eC (.int 5))) aE)) aE)))) (aU 2))
 (aY (aD fN (bQ (dM (aD bH (aB 2) (qF mS (aB 2) dB (cR (eC (.int 2)))))) [4] (aU 4) (cN (eQ (aK (j8 k) 1 aN (aA (aB 4) aE)))) (aB 4)) (fP aE)))))
def NO (k : bN) : MF := bL (aA5 k) U9
theorem aEv : FnScope U9 aDS aDx := bW (by decide +kernel)
theorem aEp {S : aQ} (h : Fx S) : q8 (S.body 11 U9 aDx) (defBody (top 43)) (aA5 h.k) :=
 (aL (yB 1 (bG (aa rfl) (MD h) (MH h) rfl h.BU h.yT (aC (jv 0) aG)))
 (aL (jsc 2 (own := [(("_law_k" : Str), 3)]) (vW rfl h.z9 (aC aP aG)) (by kernel_rfl) (G4 3) dU (bG (aa rfl) (L6 h) (NH h) rfl h.CJ h.zM (aC (jv 1) (aC (dD aBu rfl h.RD rfl (aC (oD nA (bG (aa rfl) (b8 h) (b7 h) rfl h.cE h.bZ (aC (jv 1) (aC aP aG))) aP) aG)) aG))))
 (aW (bT (oD nA (eU (own := [(("_law_told_here" : Str), 4)]) (h9 (bF cH (jv 2) (n7 oE (jv 2) gY (fS aP)))) (by kernel_rfl) (G4 4) (aB6 (hZ (fB (bG (aa rfl) (HQ h) (HL h) rfl h.zQ h.wO (aC (jv 4) aG))))) (jv 4)) (eE aG))))))
theorem aES {S : aQ} (h : Fx S) : eY S.P S.w S.K S.mg S.base 12 h.J8 h.VN aDS (NO h.k) := eY.of h.aDM aEv (aEp h) fun _ _ _ => .iT
end K03
namespace K03
open PySem PySem.Spec PyProof.Rows L2 Pc Lb Lw
abbrev lk (k : K03.bN) : Lb.bN := ⟨k.aH, k.dH⟩
section
variable (k : K03.bN)
theorem aE3 : K03.uB k = UL := rfl
theorem MC : K03.a9 k = tF := rfl
theorem ZV : K03.f9 k = UG := rfl
theorem WJ : K03.fK k = Lb.fK (lk k) := rfl
theorem aCG : K03.dO k = Lb.dO (lk k) := rfl
theorem aG4 (x0 : D) : begin iW [x0] = [some x0] := rfl
theorem aHc (x0 : D) : begin lB [x0] = [some x0, none] := rfl
theorem aGT (x0 x1 : D) : begin iZ [x0, x1] = [some x0, some x1, none, none, none, none, none, none, none, none, none, none, none] := rfl
structure Fd where
 r : D
 ev : D
 lo : D
 sl : D
 be : D
 ga : D
 ho : D
 ta : D
 ti : D
 hs : D
def eO (f : Fd) : List D := [f.r, f.ev, f.lo, f.sl, f.be, f.ga, f.ho, f.ta, f.ti, f.hs]
def OW : D → Bool
 | .bl _ => true
 | _ => false
def fE (f : Fd) : D := if f.be.isNon = true then f.lo else f.be
def items (f : Fd) : List (Str × D) := [("every", f.ev), ("lost", f.lo), ("slow", f.sl), ("bears", fE f), ("gap", f.ga), ("hold", f.ho), ("takes", f.ta), ("ties", f.ti), ("hosts", f.hs)]
def hE (h : Int) (z : Str) (d : D) : Bool := match Lb.cZ.lookup z with
 | some (some (.jA [.int lo, .int hi])) => bB lo hi d
 | _ => if z = "takes" then OW d else sG h d
def nR : D → Int
 | .tup (.tup r :: _) => r.length
 | _ => 0
def qU (f : Fd) : Option Str := if kR f.r = true then ((items f).find? fun p => !hE (nR f.r) p.1 p.2).map Prod.fst else some "ranks"
def WM (f : Fd) : Prop := ∀ d ∈ eO f, nY 6 d = true
variable {w w' : W} {P : D → W → Prop} {PF : Fl → W → Prop} {PX : XD → W → Prop} {f : Fd} {p n : Nat} {d : D}
theorem aCJ {h : Int} {z : Str} (hz : z ∈ (["every", "lost", "slow", "bears", "gap", "hold", "takes", "ties", "hosts"] : List Str)) (e : nY 6 d = true) (hP : P (.bl (hE h z d)) w) : T (K03.dO k [.str z, d, .int h] w) P := by
 rw [aCG]
 have num : ∀ (z : Str) (lo hi : Int), Lb.cZ.lookup z = some (some (.jA [.int lo, .int hi])) → P (.bl (hE h z d)) w → T (Lb.dO (lk k) [.str z, d, .int h] w) P := fun z lo hi hz hP => by
  unfold hE at hP
  rw [hz] at hP
  simp only [Lb.dO, Lb.iS, t5, aAO hz, aA6 hz, Option.isSome_some, dI, bA, dS, AB, QU, FL, wH, EG, IQ, R6, D6, A6, FC, AD, GS, zH, T_C, T_V, OX, aAg, RK, aBr, aAX, A5, wB, QG, P4, PD, NR, FV, E9, yW, xH, QK, aBa, P5, RC, vF, x9, N9, rC, mV, FF, y7, wU, q9, NM, Z9, aAL, aAY, WL, qI, NX, vB, sX, Q1, ES, HE, E3, bY, List.getElem?_cons_zero, List.getElem?_cons_succ, List.set_cons_zero, List.set_cons_succ, List.length_cons, List.length_nil, aN, true_and, and_true, FJ, GV, E6, aAP, AA, AE, I7, pU, gD, NP, Q3, QA, wX, OM, xA, ae, bp, ab, Bool.not_true, Bool.not_false, Bool.true_eq_false, ite_true, ite_false, reduceCtorEq]
  have aw := fun PP => qM (k := lk k) (w := w) (P := PP) lo hi e
  simp only [aw, dI, bA, dS, AB, QU, FL, wH, EG, IQ, R6, D6, A6, FC, AD, GS, zH, T_C, T_V, OX, aAg, RK, aBr, aAX, A5, wB, QG, P4, PD, NR, FV, E9, yW, xH, QK, aBa, P5, RC, vF, x9, N9, rC, mV, FF, y7, wU, q9, NM, Z9, aAL, aAY, WL, qI, NX, vB, sX, Q1, ES, HE, E3, bY, List.getElem?_cons_zero, List.getElem?_cons_succ, List.set_cons_zero, List.set_cons_succ, List.length_cons, List.length_nil, aN, true_and, and_true, FJ, GV, E6, aAP, AA, AE, I7, pU, gD, NP, Q3, QA, wX, OM, xA, ae, bp, ab, Bool.not_true, Bool.not_false, Bool.true_eq_false, ite_true, ite_false, reduceCtorEq]
  exact hP
 simp only [bg, bu, or_false] at hz
 rcases hz with rfl | rfl | rfl | rfl | rfl | rfl | rfl | rfl | rfl
 ·exact num _ _ _ rfl hP
 ·exact num _ _ _ rfl hP
 ·exact num _ _ _ rfl hP
 ·exact num _ _ _ rfl hP
 ·exact num _ _ _ rfl hP
 ·exact num _ _ _ rfl hP
 ·have hz : Lb.cZ.lookup ("takes" : Str) = some none := rfl
  have he : yR (.str ("takes" : Str)) (.str ("takes" : Str)) w = some true := by rw [KY (by decide +kernel) (by decide +kernel)]; decide +kernel
  have hB : P (.bl (OW d)) w := hP
  simp only [Lb.dO, Lb.iS, t5, aAO hz, DP he, Option.isSome_none, YK e, dI, bA, dS, AB, QU, FL, wH, EG, IQ, R6, D6, A6, FC, AD, GS, zH, T_C, T_V, OX, aAg, RK, aBr, aAX, A5, wB, QG, P4, PD, NR, FV, E9, yW, xH, QK, aBa, P5, RC, vF, x9, N9, rC, mV, FF, y7, wU, q9, NM, Z9, aAL, aAY, WL, qI, NX, vB, sX, Q1, ES, HE, E3, bY, List.getElem?_cons_zero, List.getElem?_cons_succ, List.set_cons_zero, List.set_cons_succ, List.length_cons, List.length_nil, aN, true_and, and_true, FJ, GV, E6, aAP, AA, AE, I7, pU, gD, NP, Q3, QA, wX, OM, xA, ae, bp, ab, Bool.not_true, Bool.not_false, Bool.true_eq_false, ite_true, ite_false, reduceCtorEq]
  cases d <;> exact hB
 ·have hz : Lb.cZ.lookup ("ties" : Str) = some none := rfl
  have he : yR (.str ("ties" : Str)) (.str ("takes" : Str)) w = some false := by rw [KY (by decide +kernel) (by decide +kernel)]; decide +kernel
  simp only [Lb.dO, Lb.iS, t5, aAO hz, DP he, Option.isSome_none, dI, bA, dS, AB, QU, FL, wH, EG, IQ, R6, D6, A6, FC, AD, GS, zH, T_C, T_V, OX, aAg, RK, aBr, aAX, A5, wB, QG, P4, PD, NR, FV, E9, yW, xH, QK, aBa, P5, RC, vF, x9, N9, rC, mV, FF, y7, wU, q9, NM, Z9, aAL, aAY, WL, qI, NX, vB, sX, Q1, ES, HE, E3, bY, List.getElem?_cons_zero, List.getElem?_cons_succ, List.set_cons_zero, List.set_cons_succ, List.length_cons, List.length_nil, aN, true_and, and_true, FJ, GV, E6, aAP, AA, AE, I7, pU, gD, NP, Q3, QA, wX, OM, xA, ae, bp, ab, Bool.not_true, Bool.not_false, Bool.true_eq_false, ite_true, ite_false, reduceCtorEq]
  exact aD1 (n := 4) (lk k) e hP
 ·exact num _ _ _ rfl hP
theorem seq_eq {a b : MS} {σ σ1 : Sg} {w w1 : W} (h : T (a σ w) fun f u => f = .nx σ1 ∧ u = w1) : aI a b σ w = b σ1 w1 := by
 obtain ⟨g, u, e, e1, e2⟩ := h.ex
 subst e1
 subst e2
 unfold aI
 rw [e]
 rfl
theorem OP {d : D} (h : kR d = true) : ∃ r0 rest, d = .tup (.tup r0 :: rest) ∧ 1 ≤ r0.length ∧ r0.length ≤ 6 ∧ rest.length ≤ 3 := by
 cases d <;> first | (simp [kR] at h; done) | skip
 rename_i xs
 simp only [kR, aj, ak, bj, Bool.not_eq_true'] at h
 obtain ⟨⟨h1, h2⟩, h3, h4, -⟩ := h
 cases xs with
 | nil => simp at h1
 | cons x xs =>
  have h5 := h3 x (bc ..)
  cases x <;> first | (simp [BD] at h5; done) | skip
  rename_i ys
  simp [BD] at h5
  simp [gJ] at h4
  refine ⟨ys, xs, rfl, ?_, h5, by simp at h2; omega⟩
  cases ys with
  | nil => exact absurd rfl h4
  | cons => simp
def aAU (f : Fd) : List (Key × D) := (items f).map fun p => (.inr p.1, p.2)
def CK (f : Fd) : List (Key × D) := [(.inr "ties", f.ti), (.inr "hosts", f.hs)]
def YI (f : Fd) (p q : Nat) (s13 s14 : Option D) : Sg := [some (.ref p), some f.r, some f.ev, some f.lo, some f.sl, some f.be, some f.ga, some f.ho, some f.ta, some f.ti, some f.hs, some (fE f), some (.ref q), s13, s14]
def aDA : MS := (dR (cN (eQ (aK (dO k) 3 aN (aA (aB 13) (aA (aB 14) (aA (aR c7 (aA (aD aV (aB 1) (eC (.int 0))) aE)) aE)))))) DD aX)
def aAa : MS := (gZ (vU (aB 12)) (bX 2 (aJ (aU 13) (aJ (aU 14) bU))) (aDA k))
def aBb : MS := (aI (cG k.aH ("ranks" : Str) (aB 0) (aB 1))
 (aI (cG k.aH ("every" : Str) (aB 0) (aB 2))
 (aI (cG k.aH ("lost" : Str) (aB 0) (aB 3))
 (aI (cG k.aH ("slow" : Str) (aB 0) (aB 4))
 (aI (cG k.aH ("bears" : Str) (aB 0) (aB 11))
 (aI (cG k.aH ("gap" : Str) (aB 0) (aB 6))
 (aI (cG k.aH ("hold" : Str) (aB 0) (aB 7))
 (aI (cG k.aH ("takes" : Str) (aB 0) (aB 8))
 (aI (cG k.aH ("ties" : Str) (aB 0) (aB 9))
 (cG k.aH ("hosts" : Str) (aB 0) (aB 10)))))))))))
def YN : MS := (dR (cN (eQ (aK (fK k) 1 aN (aA (aB 1) aE)))) DD aX)
def aFc (rest : MS) : MS := (aI (aT (W6 (a8 (aD Y4 (aB 5) (eC .non))) (aB 3) (aB 5)) (aU 11))
 (aI (aT (G8 (dP (eC (.str ("every" : Str))) (aB 2) (dP (eC (.str ("lost" : Str))) (aB 3) (dP (eC (.str ("slow" : Str))) (aB 4) (dP (eC (.str ("bears" : Str))) (aB 11) (dP (eC (.str ("gap" : Str))) (aB 6) (dP (eC (.str ("hold" : Str))) (aB 7) (dP (eC (.str ("takes" : Str))) (aB 8) HJ)))))))) (aU 12))
 (aI (cS (cL "dict" R3 (aB 12) (aA (G8 (dP (eC (.str ("ties" : Str))) (aB 9) (dP (eC (.str ("hosts" : Str))) (aB 10) HJ))) aE))) rest)))
theorem VR : mD k = aI (YN k) (aFc (aI (aAa k) (aBb k))) := rfl
def wI (w : W) (f : Fd) : W := w ++ [.dK (aAU f), .dK (CK f)]
theorem aBj {rest : MS} : aFc rest [some (.ref p), some f.r, some f.ev, some f.lo, some f.sl, some f.be, some f.ga, some f.ho, some f.ta, some f.ti, some f.hs, none, none, none, none] w = rest (YI f p w.length none none) (wI w f) := by
 unfold aFc
 refine (seq_eq (σ1 := [some (.ref p), some f.r, some f.ev, some f.lo, some f.sl, some f.be, some f.ga, some f.ho, some f.ta, some f.ti, some f.hs, some (fE f), none, none, none]) (w1 := w) ?_).trans ?_
 ·simp only [qI, zY, ae, ab, reduceCtorEq]
  unfold fE
  cases f.be.isNon <;> first | rfl | exact ⟨rfl, rfl⟩
 refine (seq_eq (σ1 := YI f p w.length none none) (w1 := w ++ [.dK [(.inr "every", f.ev), (.inr "lost", f.lo), (.inr "slow", f.sl), (.inr "bears", fE f), (.inr "gap", f.ga), (.inr "hold", f.ho), (.inr "takes", f.ta)]]) ?_).trans ?_
 ·simp only [aAl, NG, T9, zY, ae, ab, reduceCtorEq]
  exact ⟨_, rfl, aa rfl, rfl, rfl⟩
 refine seq_eq (σ1 := YI f p w.length none none) (w1 := wI w f) ?_
 obtain ⟨w1, e1⟩ : ∃ w1, w1 = w ++ [MO.dK [((.inr "every" : Key), f.ev), (.inr "lost", f.lo), (.inr "slow", f.sl), (.inr "bears", fE f), (.inr "gap", f.ga), (.inr "hold", f.ho), (.inr "takes", f.ta)]] := ⟨_, rfl⟩
 have l1 : w1.length = w.length + 1 := by rw [e1]; simp
 have h1 : w1[w.length]? = some (.dK [(.inr "every", f.ev), (.inr "lost", f.lo), (.inr "slow", f.sl), (.inr "bears", fE f), (.inr "gap", f.ga), (.inr "hold", f.ho), (.inr "takes", f.ta)]) := by rw [e1, bf (az _)]; simp
 have ty1 : TY (.ref w.length) w1 = some "dict" := by simp only [TY, h1]
 rw [← e1]
 simp only [YI, aAl, NG, T9, ty1, zY, ae, ab, reduceCtorEq]
 refine ⟨CK f, rfl, aa rfl, ?_⟩
 have mg2 : tW [] (CK f) = CK f := rfl
 rw [mg2]
 have h2 : (w1 ++ [MO.dK (CK f)])[w.length]? = some (.dK [(.inr "every", f.ev), (.inr "lost", f.lo), (.inr "slow", f.sl), (.inr "bears", fE f), (.inr "gap", f.ga), (.inr "hold", f.ho), (.inr "takes", f.ta)]) := by rw [aq (by omega)]; exact h1
 have h3 : (w1 ++ [MO.dK (CK f)])[w1.length]? = some (.dK (CK f)) := by rw [bf (az _)]; simp
 rw [aDV h2 h3]
 refine ⟨⟨by omega, by rw [sizeLine_eq]; simp [CK]⟩, ?_⟩
 try simp only [zY, ae, ab, reduceCtorEq]
 show _ = _
 rw [e1, wI, cb, List.set_append_right _ _ (az _), Nat.sub_self]
 rfl
def aAR : List Str := ["every", "lost", "slow", "bears", "gap", "hold", "takes", "ties", "hosts"]
theorem aAW {z : Str} {i : Nat} (h : (items f)[i]? = some (z, d)) : z ∈ aAR := by
 have m := bw h
 simp only [items, bg, bu, or_false, Prod.mk.injEq] at m
 unfold aAR
 rcases m with m | m | m | m | m | m | m | m | m <;> (rw [m.1]; decide)
theorem aBi (ok : WM f) {z : Str} {i : Nat} (h : (items f)[i]? = some (z, d)) : nY 6 d = true := by
 have m := bw h
 have bo : nY 6 (fE f) = true := by
  unfold fE
  split
  ·exact ok _ (by simp [eO])
  ·exact ok _ (by simp [eO])
 simp only [items, bg, bu, or_false, Prod.mk.injEq] at m
 rcases m with m | m | m | m | m | m | m | m | m <;> (rw [m.2]; first | exact bo | exact ok _ (by simp [eO]))
theorem xsI : ((aAU f).map fun p => D.tup [iB p.1, p.2]) = (items f).map fun p => D.tup [.str p.1, p.2] := by
 unfold aAU
 rw [List.map_map]
 rfl
theorem aCq {q i : Nat} {z : Str} (ok : WM f) (hr : kR f.r = true) (hx : (items f)[i]? = some (z, d)) {Q : Bool → W → Prop} (hQ : Q (hE (nR f.r) z d) w) :
  T (eQ (aK (dO k) 3 aN (aA (aB 13) (aA (aB 14) (aA (aR c7 (aA (aD aV (aB 1) (eC (.int 0))) aE)) aE)))) (YI f p q (some (.str z)) (some d)) w) Q := by
 obtain ⟨r0, rest, er, -⟩ := OP hr
 have ew : nR f.r = r0.length := by rw [er]; rfl
 rw [ew] at hQ
 have af := fun (P : D → W → Prop) (hP : P (.bl (hE r0.length z d)) w) => aCJ k (P := P) (aAW hx) (aBi ok hx) hP
 simp only [YI, er, TB, at0, ah, bq, zY, ae, ab, reduceCtorEq]
 refine af _ ?_
 simp only [zY, ae, ab, reduceCtorEq]
 exact hQ
def wL (w : W) (f : Fd) : W := (wI w f).set w.length (.dF (aAU f))
theorem VZ (ok : WM f) (hr : kR f.r = true) (hb : ∀ q ∈ items f, hE (nR f.r) q.1 q.2 = true) (hP : ∀ s13 s14, PF (.nx (YI f p w.length s13 s14)) (wL w f)) : T (aAa k (YI f p w.length none none) (wI w f)) PF := by
 have hq : (wI w f)[w.length]? = some (.dK (aAU f)) := by unfold wI; rw [bf (az _)]; simp
 unfold aAa
 have v12 : T (aB 12 (YI f p w.length none none) (wI w f)) = fun PP => PP (.ref w.length) (wI w f) := by
  funext PP
  unfold T
  rfl
 rw [I7, QJ, v12]
 simp only [aDr hq, xsI]
 refine Lb.HD (it := ⟨(items f).map fun p => D.tup [.str p.1, p.2], always⟩) (fun i σ w' => w' = wL w f ∧ ∃ s13 s14, σ = YI f p w.length s13 s14) (fun _ _ _ _ => trivial) ⟨rfl, _, _, rfl⟩ (fun i x σ w' hx hI => ?_) (fun σ w' hI => ?_)
 ·obtain ⟨rfl, s13, s14, rfl⟩ := hI
  rw [bz] at hx
  obtain ⟨⟨z, d⟩, h1, rfl⟩ := ai.mp hx
  have hg := hb _ (bw h1)
  simp only [YI, zY, ae, ab, reduceCtorEq]
  unfold aDA
  rw [wH, vF]
  refine aCq k ok hr h1 ?_
  rw [hg]
  simp only [Bool.not_true, zY, ae, ab, reduceCtorEq]
  exact ⟨rfl, _, _, rfl⟩
 ·obtain ⟨rfl, s13, s14, rfl⟩ := hI
  exact hP _ _
def fA (f : Fd) : List (Str × D) := [("ranks", f.r), ("every", f.ev), ("lost", f.lo), ("slow", f.sl), ("bears", fE f), ("gap", f.ga), ("hold", f.ho), ("takes", f.ta), ("ties", f.ti), ("hosts", f.hs)]
theorem WB {q : Nat} {s13 s14 : Option D} (hp : w[p]? = some (.ins k.aH [])) (hP : ∀ s, PF (.nx s) (w.set p (.ins k.aH (fA f)))) : T (aBb k (YI f p q s13 s14) w) PF := by
 have lp4 : p < w.length := (ag.mp hp).1
 unfold aBb
 rw [bA]
 refine nT hp rfl rfl (aa rfl) ?_
 rw [dS]
 rw [bA]
 refine nT (au lp4) rfl rfl (aa rfl) ?_
 rw [dS, List.set_set]
 rw [bA]
 refine nT (au lp4) rfl rfl (aa rfl) ?_
 rw [dS, List.set_set]
 rw [bA]
 refine nT (au lp4) rfl rfl (aa rfl) ?_
 rw [dS, List.set_set]
 rw [bA]
 refine nT (au lp4) rfl rfl (aa rfl) ?_
 rw [dS, List.set_set]
 rw [bA]
 refine nT (au lp4) rfl rfl (aa rfl) ?_
 rw [dS, List.set_set]
 rw [bA]
 refine nT (au lp4) rfl rfl (aa rfl) ?_
 rw [dS, List.set_set]
 rw [bA]
 refine nT (au lp4) rfl rfl (aa rfl) ?_
 rw [dS, List.set_set]
 rw [bA]
 refine nT (au lp4) rfl rfl (aa rfl) ?_
 rw [dS, List.set_set]
 refine nT (au lp4) rfl rfl (aa rfl) ?_
 rw [List.set_set]
 exact hP _
theorem find_none (h : qU f = none) : kR f.r = true ∧ ∀ q ∈ items f, hE (nR f.r) q.1 q.2 = true := by
 unfold qU at h
 split at h
 ·rename_i hr
  refine ⟨hr, fun q hq => ?_⟩
  rw [Option.map_eq_none_iff, List.find?_eq_none] at h
  simpa using h q hq
 ·cases h
theorem aGm : atI (eO f) 0 = some f.r := kM (j := 0) rfl
theorem aGI : atI (eO f) 1 = some f.ev := kM (j := 1) rfl
theorem Z7 : atI (eO f) 2 = some f.lo := kM (j := 2) rfl
theorem aG5 : atI (eO f) 3 = some f.sl := kM (j := 3) rfl
theorem Y5 : atI (eO f) 4 = some f.be := kM (j := 4) rfl
theorem aHi : atI (eO f) 5 = some f.ga := kM (j := 5) rfl
theorem aHj : atI (eO f) 6 = some f.ho := kM (j := 6) rfl
theorem aEe : atI (eO f) 7 = some f.ta := kM (j := 7) rfl
theorem aF0 : atI (eO f) 8 = some f.ti := kM (j := 8) rfl
theorem aEX : atI (eO f) 9 = some f.hs := kM (j := 9) rfl
theorem aGX : begin fD (aZ k ([D.ref p] ++ [f.r]) [f.hs, f.ti, f.ta, f.ho, f.ga, f.be, f.sl, f.lo, f.ev]) = [some (.ref p), some f.r, some f.ev, some f.lo, some f.sl, some f.be, some f.ga, some f.ho, some f.ta, some f.ti, some f.hs, none, none, none, none] := rfl
theorem aE2 (ok : WM f) (hg : qU f = none) (hP : ∀ w', dJ w w' → w'[w.length]? = some (.ins k.aH (fA f)) → P (.ref w.length) w') : T (K03.mN k [.lst (eO f)] w) P := by
 obtain ⟨hr, hb⟩ := find_none hg
 unfold K03.mN K03.mF
 rw [dI, aG4]
 simp only [xH, ah, bq, aGm, aGI, Z7, aG5, Y5, aHi, aHj, aEe, aF0, aEX, zY, ae, ab, reduceCtorEq]
 rw [KS]
 have hp : (w ++ [MO.ins k.aH []])[w.length]? = some (.ins k.aH []) := by rw [bf (az _)]; simp
 obtain ⟨w0, e0⟩ : ∃ w0, w0 = w ++ [MO.ins k.aH []] := ⟨_, rfl⟩
 have l0 : w0.length = w.length + 1 := by rw [e0]; simp
 rw [← e0] at hp ⊢
 unfold gB
 rw [VR, dI]
 have bI : begin fD (aZ k ([D.ref w.length] ++ [f.r]) [f.hs, f.ti, f.ta, f.ho, f.ga, f.be, f.sl, f.lo, f.ev]) = _ := aGX k
 simp only [kJ] at bI ⊢
 rw [bI, bA]
 unfold YN
 rw [wH, vF]
 simp only [WJ, zY, ae, ab, reduceCtorEq]
 refine VQ (n := 4) (lk k) (by omega) (ok _ (by simp [eO])) ?_
 rw [hr]
 simp only [Bool.not_true, zY, ae, ab, reduceCtorEq]
 rw [aBj, bA]
 refine VZ k ok hr hb fun s13 s14 => ?_
 rw [dS]
 have hp4 : (wL w0 f)[w.length]? = some (.ins k.aH []) := by
  unfold wL wI
  rw [av (by omega), aq (by omega)]
  exact hp
 refine WB k hp4 fun s => ?_
 have l4 : (wL w0 f).length = w.length + 3 := by unfold wL wI; rw [ck, cc, l0]; rfl
 refine hP _ ⟨by rw [ck]; omega, fun i hi => ?_⟩ (au (by omega))
 rw [av (by omega)]
 unfold wL wI
 rw [av (by omega), aq (by omega), e0, aq hi]
theorem Z2 {h : Int} : hE h ("every" : Str) d = bB 1 5 d := rfl
theorem aCP {h : Int} : hE h ("lost" : Str) d = bB 0 3 d := rfl
theorem aDl {h : Int} : hE h ("slow" : Str) d = bB 1 4 d := rfl
theorem Y2 {h : Int} : hE h ("bears" : Str) d = bB 0 3 d := rfl
theorem aEc {h : Int} : hE h ("gap" : Str) d = bB 0 3 d := rfl
theorem aC4 {h : Int} : hE h ("hold" : Str) d = bB 0 20 d := rfl
theorem aBh {h : Int} : hE h ("takes" : Str) d = OW d := rfl
theorem aCF {h : Int} : hE h ("ties" : Str) d = sG h d := rfl
theorem Y7 {h : Int} : hE h ("hosts" : Str) d = bB 0 4 d := rfl
structure Gd (f : Fd) : Prop where
 ok : WM f
 r : kR f.r = true
 ev : bB 1 5 f.ev = true
 lo : bB 0 3 f.lo = true
 sl : bB 1 4 f.sl = true
 be : bB 0 3 (fE f) = true
 ga : bB 0 3 f.ga = true
 ho : bB 0 20 f.ho = true
 ta : OW f.ta = true
 ti : sG (nR f.r) f.ti = true
 hs : bB 0 4 f.hs = true
theorem Gd.first (g : Gd f) : qU f = none := by
 unfold qU
 rw [if_pos g.r, Option.map_eq_none_iff, List.find?_eq_none]
 intro q hq
 simp only [items, bg, bu, or_false] at hq
 rcases hq with rfl | rfl | rfl | rfl | rfl | rfl | rfl | rfl | rfl
 ·simp only [Z2, g.ev, Bool.not_true, bp, not_false_eq_true]
 ·simp only [aCP, g.lo, Bool.not_true, bp, not_false_eq_true]
 ·simp only [aDl, g.sl, Bool.not_true, bp, not_false_eq_true]
 ·simp only [Y2, g.be, Bool.not_true, bp, not_false_eq_true]
 ·simp only [aEc, g.ga, Bool.not_true, bp, not_false_eq_true]
 ·simp only [aC4, g.ho, Bool.not_true, bp, not_false_eq_true]
 ·simp only [aBh, g.ta, Bool.not_true, bp, not_false_eq_true]
 ·simp only [aCF, g.ti, Bool.not_true, bp, not_false_eq_true]
 ·simp only [Y7, g.hs, Bool.not_true, bp, not_false_eq_true]
def FY (f : Fd) : List D := [f.r, f.ev, f.lo, f.sl, fE f, f.ga, f.ho, f.ta, f.ti, f.hs]
theorem aAk {z : Str} {d : D} (h : w[p]? = some (.ins k.aH (fA f))) (hz : (fA f).lookup z = some d) : T (nK k.aH z (.ref p) w) P = P d w := by
 rw [A7 h, hz]
 simp
theorem zW (h : w[p]? = some (.ins k.aH (fA f))) (hP : P (.tup (FY f)) w) : T (K03.lF k [.ref p] w) P := by
 unfold K03.lF K03.pZ
 rw [dI, aHc, bA]
 have o := fun (z : Str) (d : D) (hz : (fA f).lookup z = some d) (P : D → W → Prop) => aAk k (P := P) h hz
 simp only [o "ranks" f.r rfl, o "every" f.ev rfl, o "lost" f.lo rfl, o "slow" f.sl rfl, o "bears" (fE f) rfl, o "gap" f.ga rfl, o "hold" f.ho rfl, o "takes" f.ta rfl, o "ties" f.ti rfl, o "hosts" f.hs rfl, gD, zY, ae, ab, reduceCtorEq]
 have e : dZ [D.lst ([f.r, f.ev, f.lo, f.sl, fE f, f.ga] ++ [f.ho, f.ta, f.ti, f.hs])] w = .ok (.tup (FY f)) w := rfl
 rw [e, bY]
 exact hP
theorem aBM (e : UD n d = true) (hn : n ≤ 60) : yR d d w = some true := by
 obtain ⟨p, e1, e2, e3⟩ := SA (w := w) e
 refine XU e1 ?_
 unfold SeqAt.shaped
 rw [aj, ak]
 exact ⟨e2, by omega⟩
theorem kQ {v : Int} (h : v ≤ 1000) : nY 6 (.int v) = true := by
 simp only [nY, ak]
 omega
theorem eB.ext {r c b : Nat} (d : eB w r c b) (x : dJ w w') : eB w' r c b := by
 obtain ⟨ne, cells, sm, a, h1, h2, h3, h4⟩ := d
 refine ⟨ne, cells, sm, a, ?_, ?_, h3, h4⟩
 ·rw [x.at_ _ (ag.mp h1).1]; exact h1
 ·rw [x.at_ _ (ag.mp h2).1]; exact h2
theorem aCl {b : Bool} : T (BI [.bl b] w) P = P (.int (if b = true then 1 else 0)) w := by unfold T; cases b <;> rfl
def SE : MS := (aI (aT (fP (aA (aR dZ (aA (aB 5) aE)) (aA (aD bH (eC (.int 1)) (aK (a9 k) 2 aN (aA (aB 0) (aA (eC (.int 5)) aE)))) (aA (aK (a9 k) 2 aN (aA (aB 0) (aA (eC (.int 4)) aE))) (aA (aD bH (eC (.int 1)) (aK (a9 k) 2 aN (aA (aB 0) (aA (eC (.int 4)) aE)))) aE))))) (aU 9))
 (aI (aT (aD D8 (aB 9) (fP (aA (aK (f9 k) 2 aN (aA (aB 0) (aA (fP (aA (eC .non) (aA (eC (.int 0)) (aA (eC (.int 1)) (aA (eC (.int 2)) (aA (eC (.int 3)) aE)))))) aE))) (aA (aK (a9 k) 2 aN (aA (aB 0) (aA (eC (.int 4)) aE))) aE)))) (aU 9))
 (aI (cS (cL "list" dA (aB 9) (aA (aK (f9 k) 2 aN (aA (aB 0) (aA (fP (aA (eC (.int 0)) (aA (eC (.int 9)) (aA (eC (.int 10)) (aA (eC (.int 20)) (aA (aK (a9 k) 2 aN (aA (aB 0) (aA (eC (.int 21)) aE))) aE)))))) aE))) aE)))
 (aY (aD R9 (aB 9) (fP (aA (aD fN (aK (a9 k) 2 aN (aA (aB 0) (aA (eC (.int 2)) aE))) (eC (.int 1))) (aA (aB 8) (aA (aK (a9 k) 2 aN (aA (aB 0) (aA (eC (.int 5)) aE))) aE)))))))))
def Y3 (rest : MS) : MS := (aI (aT rH (aU 6)) (aI (gZ (eT l9 (aA (aD aV (fP (aA (aK (a9 k) 2 aN (aA (aB 0) (aA (eC (.int 7)) aE))) (aA (eC (.int 24)) aE))) (aB 1)) aE)) (aU 7) aAr) (aI (aT (aR dZ (aA (aR lC (aA (bQ (vV (aB 6)) [12] (aU 12) bS (aD bH (aB 12) (bR (aA (aD aV (aB 6) (aB 12)) aE)))) aE)) aE)) (aU 8)) rest)))
theorem aCs : mM k = aI (aT (bR (aA (aD aV (fP (aA (aD bH (eC (.int 1)) (aK (a9 k) 2 aN (aA (aB 0) (aA (eC (.int 6)) aE)))) (aA (eC (.int 6)) aE))) (aB 1)) (aA (aD aV (fP (aA (aD bH (eC (.int 1)) (aK (a9 k) 2 aN (aA (aB 0) (aA (eC (.int 4)) aE)))) (aA (eC (.int 4)) aE))) (aB 1)) aE))) (bX 2 (aJ (aU 2) (aJ (aU 3) bU)))) (aI (aT (aK (f9 k) 2 aN (aA (aB 0) (aA (fP (aA (eC (.int 1)) (aA (eC (.int 8)) (aA (eC (.int 9)) (aA (eC (.int 10)) aE))))) aE))) (aU 4)) (aI (aT (bQ (eT l9 (aA (aB 3) aE)) [10] (aU 10) bS (aR dZ (aA (bQ (eT l9 (aA (aB 2) aE)) [11] (aU 11) bS (aD bH (aB 4) (aK (a9 k) 2 aN (aA (aB 0) (aA (aD lO (eC (.int 13)) (aB 4)) aE))))) aE))) (aU 5)) (Y3 k (SE k)))) := rfl
theorem YZ {gi : Int} (hg : gi = 0 ∨ gi = 1) {x m : Int} (x0 : 0 ≤ x) (x1 : x < m) : ∃ H : Nat, atI [D.int (1 + x), .int m] gi = some (.int (H : Nat)) ∧ 1 ≤ H ∧ (H : Int) ≤ m := by
 rcases hg with rfl | rfl
 ·exact ⟨(1 + x).toNat, by rw [at0, show ((1 + x).toNat : Int) = 1 + x by omega], by omega, by omega⟩
 ·refine ⟨m.toNat, ?_, by omega, by omega⟩
  rw [show ((m.toNat : Nat) : Int) = m by omega]
  exact kM (j := 1) rfl
theorem SV {t : Int × Int × Int} (h : t.1 ≤ 1000 ∧ t.2.1 ≤ 1000 ∧ t.2.2 ≤ 1000) : nY 5 (cI t) = true := by
 obtain ⟨a, c, d⟩ := t
 simp only [cI, nY, List.all_cons, List.all_nil, List.length_cons, List.length_nil, Bool.and_true, aj, ak]
 simp only at h
 omega
theorem aCN {H N : Nat} {ds : List D} {us : List (Int × Int × Int)} {e l s g hs x : Int} {be ho : D} {bt : Bool} (hr : O6 H N ds) (n1 : 1 ≤ N) (n4 : N ≤ 4) (H1 : 1 ≤ H) (H6 : H ≤ 6) (hc : GI H us) (e0 : 0 ≤ e) (e1 : e < 5) (l0 : 0 ≤ l) (l1 : l < 4) (s0 : 0 ≤ s) (s1 : s < 4) (hb : be ∈ ([.non, .int 0, .int 1, .int 2, .int 3] : List D)) (g0 : 0 ≤ g) (g1 : g < 4) (x0 : 0 ≤ x) (x1 : x < 21) (hh : ho ∈ ([.int 0, .int 9, .int 10, .int 20, .int x] : List D)) (h0 : 0 ≤ hs) (h1 : hs < 5) :
  Gd ⟨.tup ds, .int (1 + e), .int l, .int (1 + s), be, .int g, ho, .bl bt, .tup ((us.mergeSort GN).map cI), .int hs⟩ := by
 obtain ⟨r1, r2, r0, rest, er, el⟩ := U5 hr n1 n4 H1 H6
 obtain ⟨c1, c2, c3⟩ := hc
 have ew : nR (.tup ds) = (H : Int) := by rw [er]; show ((r0.length : Nat) : Int) = _; omega
 have ob : nY 6 be = true ∧ (be = .non ∨ bB 0 3 be = true) := by
  simp only [bg, bu, or_false] at hb
  rcases hb with rfl | rfl | rfl | rfl | rfl
  ·exact ⟨rfl, .inl rfl⟩
  ·exact ⟨rfl, .inr rfl⟩
  ·exact ⟨rfl, .inr rfl⟩
  ·exact ⟨rfl, .inr rfl⟩
  ·exact ⟨rfl, .inr rfl⟩
 have wi : ∀ {lo hi v : Int}, lo ≤ v → v ≤ hi → bB lo hi (.int v) = true := fun a b => by simp [bB, a, b]
 have oh : nY 6 ho = true ∧ bB 0 20 ho = true := by
  simp only [bg, bu, or_false] at hh
  rcases hh with rfl | rfl | rfl | rfl | rfl
  ·exact ⟨rfl, rfl⟩
  ·exact ⟨rfl, rfl⟩
  ·exact ⟨rfl, rfl⟩
  ·exact ⟨rfl, rfl⟩
  ·exact ⟨kQ (by omega), wi (by omega) (by omega)⟩
 have ot : nY 6 (.tup ((us.mergeSort GN).map cI)) = true := by
  have e5 : (us.mergeSort GN).length = us.length := List.length_mergeSort ..
  simp only [nY, aj, bj, ak, ao, e5]
  refine ⟨fun y hy => ?_, by omega⟩
  obtain ⟨t, ht, rfl⟩ := bx.mp hy
  have ht := c3 t (List.mem_mergeSort.mp ht)
  exact SV ⟨by omega, by omega, by omega⟩
 refine ⟨fun d hd => ?_, r1, wi (by omega) (by omega), wi (by omega) (by omega), wi (by omega) (by omega), ?_, wi (by omega) (by omega), oh.2, rfl, ?_, wi (by omega) (by omega)⟩
 ·simp only [eO, bg, bu, or_false] at hd
  rcases hd with rfl | rfl | rfl | rfl | rfl | rfl | rfl | rfl | rfl | rfl
  ·exact r2
  ·exact kQ (by omega)
  ·exact kQ (by omega)
  ·exact kQ (by omega)
  ·exact ob.1
  ·exact kQ (by omega)
  ·exact oh.1
  ·rfl
  ·exact ot
  ·exact kQ (by omega)
 ·unfold fE
  rcases ob.2 with rfl | h
  ·exact wi (by omega) (by omega)
  ·cases be <;> first | exact h | (simp [bB] at h; done)
 ·show sG (nR (.tup ds)) _ = true
  rw [ew]
  exact OQ c1 c2 c3
theorem aDm {r c b H N : Nat} {ds : List D} {us : List (Int × Int × Int)} {s1 s2 s3 s4 s6 s7 s9 s10 s11 s12 : Option D} (dk : eB w r c (b + 20)) (hr : O6 H N ds) (n1 : 1 ≤ N) (n4 : N ≤ 4) (H1 : 1 ≤ H) (H6 : H ≤ 6) (hc : GI H us) (hP : ∀ f w', Gd f → eB w' r c b → PF (.rt (.lst (eO f))) w') : T (SE k [some (.ref r), s1, s2, s3, s4, some (.lst ds), s6, s7, some (.tup ((us.mergeSort GN).map cI)), s9, s10, s11, s12] w) PF := by
 obtain ⟨ti, eti⟩ : ∃ ti, ti = D.tup ((us.mergeSort GN).map cI) := ⟨_, rfl⟩
 rw [← eti]
 unfold SE
 rw [bA]
 simp only [MC, ZV, UT, zY, ae, ab, reduceCtorEq]
 refine fV (b := b + 19) dk (by omega) (by omega) fun e w1 e0 e1 d1 k1 => ?_
 simp only [mV, zY, ae, ab, reduceCtorEq]
 refine fV (b := b + 18) d1 (by omega) (by omega) fun l w2 l0 l1 d2 k2 => ?_
 try simp only [zY, ae, ab, reduceCtorEq]
 refine fV (b := b + 17) d2 (by omega) (by omega) fun s w3 z0 z1 d3 k3 => ?_
 simp only [mV, zY, ae, ab, reduceCtorEq]
 rw [bA]
 simp only [zY, ae, ab, reduceCtorEq]
 refine LG (b := b + 16) d3 (by simp) (by simp) fun be w4 hb d4 k4 => ?_
 try simp only [zY, ae, ab, reduceCtorEq]
 refine fV (b := b + 15) d4 (by omega) (by omega) fun g w5 g0 g1 d5 k5 => ?_
 try simp only [zY, ae, ab, reduceCtorEq]
 rw [aDj (xs := _) (zs := _) rfl rfl]
 refine ⟨by rw [sizeLine_eq]; simp, ?_⟩
 obtain ⟨L, eL⟩ : ∃ L, L = ([D.tup ds, .int (1 + e), .int l, .int (1 + s)] ++ [be, .int g] : List D) := ⟨_, rfl⟩
 have lL : L.length = 6 := by rw [eL]; rfl
 obtain ⟨q, eq⟩ : ∃ q, q = w5.length := ⟨_, rfl⟩
 rw [← eL, ← eq]
 obtain ⟨w6, e6⟩ : ∃ w6, w6 = w5 ++ [MO.lst L] := ⟨_, rfl⟩
 rw [← e6]
 have hq : w6[q]? = some (.lst L) := by rw [e6, eq, bf (az _)]; simp
 have d6 : eB w6 r c (b + 15) := eB.ext d5 (by rw [e6]; exact dJ.refl.app _)
 obtain ⟨nr, nc⟩ : q ≠ r ∧ q ≠ c := by
  obtain ⟨_, cells, sm, a, h1, h2, _⟩ := d5
  have a1 := (ag.mp h1).1
  have a2 := (ag.mp h2).1
  omega
 clear e6 eq
 rw [bA]
 simp only [tyL hq, zY, ae, ab, reduceCtorEq]
 refine fV (b := b + 14) d6 (by omega) (by omega) fun x w7 x0 x1 d7 k7 => ?_
 try simp only [zY, ae, ab, reduceCtorEq]
 refine LG (b := b + 13) d7 (by simp) (by simp) fun ho w8 hh d8 k8 => ?_
 have hq8 : w8[q]? = some (.lst L) := by rw [k8.2 q nr nc, k7.2 q nr nc]; exact hq
 simp only [tyL hq8, ZO hq8, zY, ae, ab, reduceCtorEq]
 refine ⟨by rw [sizeLine_eq]; omega, ?_⟩
 obtain ⟨w9, e9⟩ : ∃ w9, w9 = w8.set q (.lst (L ++ [ho])) := ⟨_, rfl⟩
 rw [← e9]
 have hq9 : w9[q]? = some (.lst (L ++ [ho])) := by rw [e9]; exact au (ag.mp hq8).1
 have d9 : eB w9 r c (b + 13) := by rw [e9]; exact D1 d8 nr nc
 clear e9
 refine fV (b := b + 12) d9 (by omega) (by omega) fun bt w10 bt0 bt1 d10 k10 => ?_
 simp only [D2, y9, ah, bq, zY, ae, ab, reduceCtorEq]
 refine fV (b := b + 11) d10 (by omega) (by omega) fun hs w11 h0 h1 d11 k11 => ?_
 have hq11 : w11[q]? = some (.lst (L ++ [ho])) := by rw [k11.2 q nr nc, k10.2 q nr nc]; exact hq9
 have ar : ∀ (ys : List D) (P : D → W → Prop), ys.length ≤ 10 → T (Pc.R9 (.ref q) (.lst ys) w11) P = P (.lst (L ++ [ho] ++ ys)) w11 := fun ys P hy => by
  have e1 : C8 (.ref q) w11 = some (L ++ [ho]) := by simp only [C8, hq11]
  have e2 : C8 (.lst ys) w11 = some ys := rfl
  have : Pc.R9 (.ref q) (.lst ys) w11 = .ok (.lst (L ++ [ho] ++ ys)) w11 := by
   simp only [Pc.R9, e1, e2, if_pos (show (L ++ [ho]).length + ys.length ≤ sizeLine by rw [sizeLine_eq, cc]; simp; omega)]
  rw [this, bY]
 try simp only [zY, ae, ab, reduceCtorEq]
 rw [ar _ _ (by simp)]
 rw [eL, eti]
 exact hP ⟨.tup ds, .int (1 + e), .int l, .int (1 + s), be, .int g, ho, .bl (bt == 1), .tup ((us.mergeSort GN).map cI), .int hs⟩ w11 (aCN hr n1 n4 H1 H6 hc e0 e1 l0 l1 z0 z1 hb g0 g1 x0 x1 hh h0 h1) (d11.less (by omega))
theorem aDY {r c b : Nat} {gi : Int} (dk : eB w r c (b + 300)) (hg : gi = 0 ∨ gi = 1) (hP : ∀ f w', Gd f → eB w' r c b → P (.lst (eO f)) w') : T (K03.mC k [.ref r, .int gi] w) P := by
 unfold K03.mC
 rw [dI, aGT, aCs, bA]
 simp only [MC, zY, ae, ab, reduceCtorEq]
 refine fV (b := b + 299) dk (by omega) (by omega) fun x w1 x0 x1 d1 k1 => ?_
 obtain ⟨H, eH, H1, H6⟩ := YZ hg x0 x1
 simp only [mV, wX, xA, eH, ah, bq, zY, ae, ab, reduceCtorEq]
 refine fV (b := b + 298) d1 (by omega) (by omega) fun y w2 y0 y1 d2 k2 => ?_
 obtain ⟨N, eN, N1, N4⟩ := YZ hg y0 y1
 simp only [mV, wX, xA, eN, ah, bq, zY, ae, ab, reduceCtorEq]
 rw [bA]
 simp only [ZV, zY, ae, ab, reduceCtorEq]
 refine LG (b := b + 297) d2 (by simp) (by simp) fun lo w3 hlo d3 k3 => ?_
 obtain ⟨low, rfl, l1, l12⟩ : ∃ low : Int, lo = .int low ∧ 1 ≤ low ∧ low ≤ 10 := by
  simp only [bg, bu, or_false] at hlo
  rcases hlo with rfl | rfl | rfl | rfl
  ·exact ⟨_, rfl, by omega, by omega⟩
  ·exact ⟨_, rfl, by omega, by omega⟩
  ·exact ⟨_, rfl, by omega, by omega⟩
  ·exact ⟨_, rfl, by omega, by omega⟩
 try simp only [zY, ae, ab, reduceCtorEq]
 rw [bA]
 simp only [LU (n := (N : Int)) (by omega) (by omega), zY, ae, ab, reduceCtorEq]
 refine ⟨rW _ (by rw [m5]; omega), ?_⟩
 have eN : ((N : Nat) : Int).toNat = N := by omega
 have eH0 : ((H : Nat) : Int).toNat = H := by omega
 rw [eN]
 refine DM (it := nZ 0 N) (fun i acc w' => eB w' r c (b + 200 + 6 * (4 - i)) ∧ O6 H i acc) (fun _ _ _ _ => trivial) ⟨d3.less (by omega), rfl, fun d hd => nomatch hd⟩ (fun i x acc w4 hx hI => ?_) (fun acc w4 hI => ?_)
 ·obtain ⟨d4, hl, hr⟩ := hI
  obtain ⟨hz, rfl⟩ := z3 hx
  simp only [c0, LU (n := (H : Int)) (by omega) (by omega), zY, ae, ab, reduceCtorEq]
  refine ⟨rW _ (by rw [m5]; omega), ?_⟩
  rw [eH0]
  refine aFl (eh := aB 0) (b := b + 200 + 6 * (4 - (i + 1))) l1 (by omega) (d4.less (by omega)) (by omega) (fun x w P => by simp only [c0, zY, ae, ab, reduceCtorEq]) (fun x w P => by simp only [c0, zY, ae, ab, reduceCtorEq]) fun ns w5 d5 hn hns => ?_
  simp only [UT]
  refine ⟨d5, by simp [hl], fun d hd => ?_⟩
  rcases cf.mp hd with h | h
  ·exact hr d h
  ·rw [cg.mp h]
   exact ⟨ns, rfl, hn, hns⟩
 ·obtain ⟨d4, hr⟩ := hI
  rw [m5] at hr
  unfold Y3
  try simp only [zY, ae, ab, reduceCtorEq]
  rw [bA]
  simp only [aEV, zY, ae, ab, reduceCtorEq]
  obtain ⟨q, eq⟩ : ∃ q, q = w4.length := ⟨_, rfl⟩
  obtain ⟨w5, e5⟩ : ∃ w5, w5 = w4 ++ [MO.dT []] := ⟨_, rfl⟩
  rw [← e5, ← eq]
  have hq : w5[q]? = some (.dT (cO [])) := by rw [e5, eq, bf (az _)]; simp [cO]
  have d5 : eB w5 r c (b + 200) := eB.ext (d4.less (by omega)) (by rw [e5]; exact dJ.refl.app _)
  obtain ⟨nr, nc⟩ : q ≠ r ∧ q ≠ c := by
   obtain ⟨_, cells, sm, a, h1, h2, _⟩ := d4
   have a1 := (ag.mp h1).1
   have a2 := (ag.mp h2).1
   omega
  clear e5 eq
  rw [bA]
  simp only [MC, zY, ae, ab, reduceCtorEq]
  refine fV (b := b + 199) d5 (by omega) (by omega) fun m w6 m0 m1 d6 k6 => ?_
  obtain ⟨M, eM, M24⟩ : ∃ M : Nat, atI [D.int m, .int 24] gi = some (.int (M : Nat)) ∧ M ≤ 24 := by
   rcases hg with rfl | rfl
   ·exact ⟨m.toNat, by rw [at0, show ((m.toNat : Nat) : Int) = m by omega], by omega⟩
   ·exact ⟨24, rfl, by omega⟩
  have hq6 : w6[q]? = some (.dT (cO [])) := by rw [k6.2 q nr nc]; exact hq
  simp only [wX, xA, eM, ah, bq, LU (n := (M : Int)) (by omega) (by omega), zY, ae, ab, reduceCtorEq]
  have eM0 : ((M : Nat) : Int).toNat = M := by omega
  rw [eM0]
  refine Lb.HD (it := nZ 0 M) (fun i σ w' => eB w' r c (b + 100 + 3 * (24 - i)) ∧ (∃ us, w'[q]? = some (.dT (cO us)) ∧ GI H us) ∧ ∃ s7, σ = [some (.ref r), some (.int gi), some (.int (H : Nat)), some (.int (N : Nat)), some (.int low), some (.lst acc), some (.ref q), s7, none, none, none, none, none]) (fun _ _ _ _ => trivial)
   ⟨d6.less (by omega), ⟨[], hq6, List.Pairwise.nil, by simp, fun t ht => nomatch ht⟩, _, rfl⟩ (fun i x σ w7 hx hI => ?_) (fun σ w7 hI => ?_)
  ·obtain ⟨d7, ⟨us, hq7, hc⟩, s7, rfl⟩ := hI
   obtain ⟨hz, rfl⟩ := z3 hx
   have hz : i < M := hz
   simp only [zY, ae, ab, reduceCtorEq]
   refine aFd (b := b + 100 + 3 * (24 - (i + 1))) (d7.less (by omega)) hq7 nr nc hc H1 (by omega) fun w8 us' d8 hq8 hc8 => ?_
   exact ⟨d8, ⟨us', hq8, hc8⟩, _, rfl⟩
  ·obtain ⟨d7, ⟨us, hq7, hc⟩, s7, rfl⟩ := hI
   try simp only [dS, zY, ae, ab, reduceCtorEq]
   rw [bA, IQ]
   refine WR (e6 := aB 6) (v := 12) hq7 hc.1 hc.2.1 (fun w P => by unfold T; rfl) (fun x w P => by unfold T; rfl) (fun x w P => by unfold T; rfl) ?_
   try simp only [zY, ae, ab, reduceCtorEq]
   refine aDm k (b := b) ((D1 d7 nr nc).less (by omega)) hr N1 (by omega) H1 (by omega) hc fun f w' gf df => ?_
   exact hP f w' gf df
structure Pn where
 rows : List (List Int)
 e : Int
 l : Int
 s : Int
 b : Int
 g : Int
 h : Int
 t : Bool
 eR : List (Int × Int × Int)
 c : Int
def gE (r : List Int) : D := .tup (r.map D.int)
structure m4 (q : Pn) (H : Nat) : Prop where
 H1 : 1 ≤ H
 H6 : H ≤ 6
 n1 : 1 ≤ q.rows.length
 n4 : q.rows.length ≤ 4
 rows : ∀ r ∈ q.rows, r.length = H ∧ ∀ x ∈ r, 1 ≤ x ∧ x ≤ 12
 e : 1 ≤ q.e ∧ q.e ≤ 5
 l : 0 ≤ q.l ∧ q.l ≤ 3
 s : 1 ≤ q.s ∧ q.s ≤ 4
 b : 0 ≤ q.b ∧ q.b ≤ 3
 g : 0 ≤ q.g ∧ q.g ≤ 3
 h : 0 ≤ q.h ∧ q.h ≤ 20
 JN : q.eR.length ≤ 6
 eR : ∀ t ∈ q.eR, (0 ≤ t.1 ∧ t.1 < (H : Int)) ∧ (0 ≤ t.2.1 ∧ t.2.1 ≤ 9) ∧ (1 ≤ t.2.2 ∧ t.2.2 ≤ 11)
 rise : mR (q.eR.map fun t => (t.1, t.2.1)) = true
 c : 0 ≤ q.c ∧ q.c ≤ 4
structure Tells (f : Fd) (q : Pn) : Prop where
 r : f.r = .tup (q.rows.map gE)
 ev : f.ev = .int q.e
 lo : f.lo = .int q.l
 sl : f.sl = .int q.s
 be : fE f = .int q.b
 ga : f.ga = .int q.g
 ho : f.ho = .int q.h
 ta : f.ta = .bl q.t
 ti : f.ti = .tup (q.eR.map cI)
 hs : f.hs = .int q.c
theorem within_int {lo hi : Int} (h : bB lo hi d = true) : ∃ i, d = .int i ∧ lo ≤ i ∧ i ≤ hi := by
 cases d <;> first | (simp [bB] at h; done) | skip
 simp only [bB, aj, ak] at h
 exact ⟨_, rfl, h⟩
theorem DK {lo hi : Int} : ∀ {xs : List D}, (∀ x ∈ xs, bB lo hi x = true) → ∃ ns : List Int, xs = ns.map D.int ∧ ∀ x ∈ ns, lo ≤ x ∧ x ≤ hi
 | [], _ => ⟨[], rfl, fun _ h => nomatch h⟩
 | x :: xs, h => by
  obtain ⟨i, rfl, hi⟩ := within_int (h x (bc ..))
  obtain ⟨ns, rfl, hn⟩ := DK fun y hy => h y (bh _ hy)
  refine ⟨i :: ns, rfl, fun y hy => ?_⟩
  rcases bg.mp hy with rfl | hy
  ·exact hi
  ·exact hn y hy
theorem V6 {H : Nat} : ∀ {xs : List D}, (∀ x ∈ xs, BD x = true ∧ (gJ x).length = H ∧ ∀ y ∈ gJ x, bB 1 12 y = true) → ∃ rs : List (List Int), xs = rs.map gE ∧ ∀ r ∈ rs, r.length = H ∧ ∀ x ∈ r, 1 ≤ x ∧ x ≤ 12
 | [], _ => ⟨[], rfl, fun _ h => nomatch h⟩
 | x :: xs, h => by
  obtain ⟨h1, h2, h3⟩ := h x (bc ..)
  obtain ⟨rs, rfl, hr⟩ := V6 fun y hy => h y (bh _ hy)
  cases x <;> first | (simp [BD] at h1; done) | skip
  rename_i ys
  obtain ⟨ns, rfl, hn⟩ := DK h3
  refine ⟨ns :: rs, rfl, fun y hy => ?_⟩
  rcases bg.mp hy with rfl | hy
  ·exact ⟨by simpa [gJ] using h2, hn⟩
  ·exact hr y hy
theorem VX {H : Int} : ∀ {xs : List D}, (∀ x ∈ xs, qN H x = true) → ∃ us : List (Int × Int × Int), xs = us.map cI ∧ ∀ t ∈ us, (0 ≤ t.1 ∧ t.1 < H) ∧ (0 ≤ t.2.1 ∧ t.2.1 ≤ 9) ∧ (1 ≤ t.2.2 ∧ t.2.2 ≤ 11)
 | [], _ => ⟨[], rfl, fun _ h => nomatch h⟩
 | x :: xs, h => by
  have h1 := h x (bc ..)
  obtain ⟨us, rfl, hu⟩ := VX fun y hy => h y (bh _ hy)
  unfold qN at h1
  split at h1
  ·rename_i a c l
   simp only [aj] at h1
   obtain ⟨i, rfl, hi⟩ := within_int h1.1
   obtain ⟨j, rfl, hj⟩ := within_int h1.2.1
   obtain ⟨m, rfl, hm⟩ := within_int h1.2.2
   refine ⟨(i, j, m) :: us, rfl, fun y hy => ?_⟩
   rcases bg.mp hy with rfl | hy
   ·exact ⟨⟨hi.1, by show i < H; omega⟩, hj, hm⟩
   ·exact hu y hy
  ·cases h1
theorem Gd.tells (g : Gd f) : ∃ q H, m4 q H ∧ Tells f q := by
 obtain ⟨e, he, e1⟩ := within_int g.ev
 obtain ⟨l, hl, l1⟩ := within_int g.lo
 obtain ⟨s, hs, s1⟩ := within_int g.sl
 obtain ⟨b, hb, b1⟩ := within_int g.be
 obtain ⟨ga, hg, g1⟩ := within_int g.ga
 obtain ⟨h, hh, h1⟩ := within_int g.ho
 obtain ⟨c, hc, c1⟩ := within_int g.hs
 obtain ⟨t, ht⟩ : ∃ t, f.ta = .bl t := by
  have := g.ta
  cases hf : f.ta <;> first | (rw [hf] at this; simp [OW] at this; done) | exact ⟨_, rfl⟩
 obtain ⟨r0, rest, er, H1, H6, n4⟩ := OP g.r
 have gr := g.r
 rw [er] at gr
 simp only [kR, aj, ak, bj, List.map_cons, List.headD_cons, beq_iff_eq] at gr
 obtain ⟨-, gr1, -, gr2, gr3⟩ := gr
 obtain ⟨rs, ers, hrs⟩ := V6 (H := r0.length) fun x hx => ⟨gr1 x hx, gr2 x hx, fun y hy => gr3 y (List.mem_flatMap.mpr ⟨x, hx, hy⟩)⟩
 have ew : nR f.r = r0.length := by rw [er]; rfl
 have gt := g.ti
 rw [ew] at gt
 obtain ⟨us, eus, hus, hu6, hur⟩ : ∃ us : List (Int × Int × Int), f.ti = .tup (us.map cI) ∧ (∀ t ∈ us, (0 ≤ t.1 ∧ t.1 < (r0.length : Int)) ∧ (0 ≤ t.2.1 ∧ t.2.1 ≤ 9) ∧ (1 ≤ t.2.2 ∧ t.2.2 ≤ 11)) ∧ us.length ≤ 6 ∧ mR (us.map fun t => (t.1, t.2.1)) = true := by
  cases hf : f.ti <;> first | (rw [hf] at gt; simp [sG] at gt; done) | skip
  rename_i xs
  rw [hf] at gt
  simp only [sG, aj, Bool.not_eq_true', decide_eq_false_iff_not, bj] at gt
  obtain ⟨us, rfl, hu⟩ := VX gt.2.1
  refine ⟨us, rfl, hu, by have := gt.1; rw [ao] at this; omega, ?_⟩
  have := gt.2.2
  rw [List.map_map] at this
  exact this
 refine ⟨⟨rs, e, l, s, b, ga, h, t, us, c⟩, r0.length, ⟨H1, H6, ?_, ?_, hrs, e1, l1, s1, b1, g1, h1, hu6, hus, hur, c1⟩, ⟨?_, he, hl, hs, hb, hg, hh, ht, eus, hc⟩⟩
 ·have := congrArg List.length ers
  rw [ao] at this
  show 1 ≤ rs.length
  rw [← this]
  simp
 ·have := congrArg List.length ers
  rw [ao] at this
  show rs.length ≤ 4
  rw [← this]
  simp only [List.length_cons]
  omega
 ·rw [er]
  exact congrArg D.tup ers
def wD : D → Bool
 | .str x => iV x
 | .int i => decide (0 ≤ i) && decide (i ≤ 20)
 | _ => false
def NL : D → Str
 | .str x => x
 | .int i => cU i
 | _ => Str.empty
theorem YQ (h : wD d = true) : iV (NL d) = true := by
 cases d <;> first | (simp [wD] at h; done) | skip
 ·simp only [wD, aj, ak] at h
  exact (aBn h.1 h.2).word
 ·exact h
theorem aBW (h : wD d = true) : T (sN [d] w) P = P (.str (NL d)) w := by
 cases d <;> first | (simp [wD] at h; done) | skip
 ·simp only [wD, aj, ak] at h
  exact aAw h.1 h.2
 ·exact aEN
theorem aD7 : (" " : Str).length = 1 := by decide +kernel
theorem Z6 : ("\n" : Str).length = 1 := by decide +kernel
theorem GB {ds : List D} (h : ∀ d ∈ ds, wD d = true) (hl : ds.length ≤ 9) : T (joinM (.str (" " : Str)) [.lst (ds.map fun d => D.str (NL d))] w) P = P (.str (cY (ds.map NL))) w := by
 have e : (ds.map fun d => D.str (NL d)) = (ds.map NL).map D.str := by rw [List.map_map]; rfl
 rw [e]
 exact U2 (fun p hp => by
  obtain ⟨d, hd, rfl⟩ := bx.mp hp
  have := (zT (YQ (h d hd))).2
  omega) (by rw [ao]; omega) (by rw [aD7]; omega)
theorem aFh (x : D) : begin rO [x] = [some x, none] := rfl
theorem LB {ds : List D} (h : ∀ d ∈ ds, wD d = true) (hl : ds.length ≤ 9) (hd : d = .lst ds ∨ d = .tup ds) (hP : P (.str (cY (ds.map NL))) w) : T (K03.kZ k [d] w) P := by
 unfold K03.kZ K03.xG
 rw [dI, aFh]
 have it : ∀ (w : W) (PI : kL → W → Prop), T (iterM d w) PI = PI ⟨ds, always⟩ w := fun w PI => by
  rcases hd with rfl | rfl
  ·exact RT
  ·exact uP
 have ty : ∀ w : W, TY (.str (" " : Str)) w = some "str" := fun _ => rfl
 simp only [it, ty, zY, ae, ab, reduceCtorEq]
 refine ⟨rW _ (by omega), ?_⟩
 refine fH (it := ⟨ds, always⟩) ds id (fun d => D.str (NL d)) (by simp) trivial (fun d hd => ?_) ?_
 ·simp only [c0, id_eq, aBW (h d hd), zY, ae, ab, reduceCtorEq]
 ·rw [GB h hl]
  exact hP
def yn (b : Bool) : Str := if b = true then "yes" else "no"
def kP (q : Pn) : List D := [.int q.e, .int q.l, .int q.s, .int q.b, .int q.g, .int q.h, .str (yn q.t), .int q.c]
def zV (q : Pn) : List Str := "plan" :: (kP q).map NL
def IH (r : List Int) : List Str := "ranks" :: r.map cU
def XJ (t : Int × Int × Int) : List Str := ["tie", cU t.1, cU t.2.1, cU t.2.2]
def eZ (q : Pn) : List (List Str) := zV q :: (q.rows.map IH ++ q.eR.map XJ)
def g9 (q : Pn) : Str := EA (eZ q)
theorem BB : iV ("plan" : Str) = true := by decide +kernel
theorem pH : iV ("ranks" : Str) = true := by decide +kernel
theorem EV : iV ("tie" : Str) = true := by decide +kernel
theorem aG1 (b : Bool) : iV (yn b) = true := by cases b <;> decide +kernel
section
variable {q : Pn} {H : Nat}
theorem oC {i : Int} (h : 0 ≤ i ∧ i ≤ 20) : wD (.int i) = true := by
 simp only [wD, aj, ak]
 exact h
theorem z4 (o : m4 q H) : ∀ d ∈ kP q, wD d = true := by
 have := o.e
 have := o.l
 have := o.s
 have := o.b
 have := o.g
 have := o.h
 have := o.c
 intro d hd
 simp only [kP, bg, bu, or_false] at hd
 rcases hd with rfl | rfl | rfl | rfl | rfl | rfl | rfl | rfl
 ·exact oC (by omega)
 ·exact oC (by omega)
 ·exact oC (by omega)
 ·exact oC (by omega)
 ·exact oC (by omega)
 ·exact oC (by omega)
 ·exact aG1 q.t
 ·exact oC (by omega)
theorem K0 (o : m4 q H) {r : List Int} (hr : r ∈ q.rows) : ∀ d ∈ r.map D.int, wD d = true := fun d hd => by
 obtain ⟨x, hx, rfl⟩ := bx.mp hd
 have := (o.rows r hr).2 x hx
 exact oC (by omega)
theorem LY (o : m4 q H) {t : Int × Int × Int} (ht : t ∈ q.eR) : ∀ d ∈ [D.int t.1, .int t.2.1, .int t.2.2], wD d = true := fun d hd => by
 have := o.eR t ht
 have := o.H6
 simp only [bg, bu, or_false] at hd
 rcases hd with rfl | rfl | rfl
 ·exact oC (by omega)
 ·exact oC (by omega)
 ·exact oC (by omega)
theorem qZ {ds : List D} {x : Str} (hx : iV x = true) (h : ∀ d ∈ ds, wD d = true) : ∀ y ∈ x :: ds.map NL, iV y = true := fun y hy => by
 rcases bg.mp hy with rfl | hy
 ·exact hx
 ·obtain ⟨d, hd, rfl⟩ := bx.mp hy
  exact YQ (h d hd)
theorem DZ (r : List Int) : IH r = ("ranks" : Str) :: (r.map D.int).map NL := by
 unfold IH
 rw [List.map_map]
 rfl
theorem sW (o : m4 q H) : zA (eZ q) := by
 refine ⟨fun ws hw => ?_, ?_, fun h => by cases h⟩
 ·unfold eZ at hw
  rcases bg.mp hw with rfl | hw
  ·exact ⟨qZ BB (z4 o), aa rfl, aa rfl⟩
  ·rcases cf.mp hw with hw | hw
   ·obtain ⟨r, hr, rfl⟩ := bx.mp hw
    have := (o.rows r hr).1
    have := o.H6
    refine ⟨by rw [DZ]; exact qZ pH (K0 o hr), ?_, ?_⟩
    ·simp [IH]
    ·simp only [IH, List.length_cons, ao]
     omega
   ·obtain ⟨t, ht, rfl⟩ := bx.mp hw
    exact ⟨qZ (ds := [D.int t.1, .int t.2.1, .int t.2.2]) EV (LY o ht), aa rfl, aa rfl⟩
 ·have := o.n4
  have := o.JN
  simp only [eZ, List.length_cons, cc, ao]
  omega
theorem BK {x : Str} {ds : List D} (hx : iV x = true) (h : ∀ d ∈ ds, wD d = true) (hl : ds.length ≤ 8) : T (joinM (.str (" " : Str)) [.lst ([.str x] ++ ds.map fun d => D.str (NL d))] w) P = P (.str (cY (x :: ds.map NL))) w :=
 GB (ds := .str x :: ds) (fun d hd => by
  rcases bg.mp hd with rfl | hd
  ·exact hx
  ·exact h d hd) (by rw [List.length_cons]; omega)
theorem XQ (o : m4 q H) : T (joinM (.str ("\n" : Str)) [.lst ((eZ q).map fun ws => D.str (cY ws))] w) P = P (.str (g9 q)) w := by
 have e : ((eZ q).map fun ws => D.str (cY ws)) = ((eZ q).map cY).map D.str := by rw [List.map_map]; rfl
 have ok := sW o
 have := ok.l
 rw [e]
 exact U2 (fun p hp => by have := ok.aE9 p hp; omega) (by rw [ao]; omega) (by rw [Z6]; omega)
theorem bet (x : D) : begin oL [x] = [some x, none, none, none, none, none] := rfl
theorem aC3 {bd : D} (t : Tells f q) (hb : bd = .int q.b) : ([f.r, f.ev, f.lo, f.sl] ++ [bd] ++ [f.ga, f.ho] ++ [.str (yn q.t), f.hs]) = f.r :: kP q := by
 rw [hb, t.ev, t.lo, t.sl, t.ga, t.ho, t.hs]
 rfl
theorem cA : Pc.cutD (eO f) none (some 4) = [f.r, f.ev, f.lo, f.sl] := rfl
theorem cB : Pc.cutD (eO f) (some 5) (some 7) = [f.ga, f.ho] := rfl
theorem cC : Pc.cutD (d :: kP q) (some 1) none = kP q := rfl
theorem aFe (o : m4 q H) (t : Tells f q) (hP : P (.str (g9 q)) w) : T (K03.o7 k [.lst (eO f)] w) P := by
 unfold K03.o7 K03.uA
 rw [dI, bet]
 have at1 : ∀ x y : D, atI [x, y] 1 = some y := fun x y => kM (j := 1) rfl
 have ay : (if q.t = true then 1 else 0 : Int) = 0 ∧ yn q.t = ("no" : Str) ∨ (if q.t = true then 1 else 0 : Int) = 1 ∧ yn q.t = ("yes" : Str) := by cases q.t <;> simp [yn]
 have fin : ∀ (bd : D) (z : Str), bd = .int q.b → yn q.t = z → ([f.r, f.ev, f.lo, f.sl].length + 1 ≤ sizeLine ∧ ([f.r, f.ev, f.lo, f.sl] ++ [bd]).length + [f.ga, f.ho].length ≤ sizeLine ∧ ([f.r, f.ev, f.lo, f.sl] ++ [bd] ++ [f.ga, f.ho]).length + 2 ≤ sizeLine ∧ Fl.nx [some (.lst (eO f)), some (.lst ([f.r, f.ev, f.lo, f.sl] ++ [bd] ++ [f.ga, f.ho] ++ [.str z, f.hs])), none, none, none, none] = Fl.nx [some (.lst (eO f)), some (.lst (f.r :: kP q)), none, none, none, none]) := fun bd z hb hz => by
  rw [← hz, aC3 t hb]
  exact ⟨rW _ (aa rfl), rW _ (aa rfl), rW _ (aa rfl), rfl⟩
 rw [seq_eq (σ1 := [some (.lst (eO f)), some (.lst (f.r :: kP q)), none, none, none, none]) (w1 := w) (by
  have hb := t.be
  unfold fE at hb
  cases hn : f.be.isNon with
  | true =>
   rw [hn] at hb
   simp only [ae] at hb
   simp only [slL, bY, gD, qI, Z7, Y5, aEe, aEX, hn, t.ta, aCl, ah, bq, cA, cB, zY, ae, ab, reduceCtorEq]
   rcases ay with ⟨e1, e2⟩ | ⟨e1, e2⟩
   ·simp only [e1, at0, ah, bq]
    exact (fin _ _ hb e2).2
   ·simp only [e1, at1, ah, bq]
    exact (fin _ _ hb e2).2
  | false =>
   rw [hn] at hb
   simp only [bp, ab] at hb
   simp only [slL, bY, gD, qI, Z7, Y5, aEe, aEX, hn, t.ta, aCl, ah, bq, cA, cB, zY, ae, ab, reduceCtorEq]
   rcases ay with ⟨e1, e2⟩ | ⟨e1, e2⟩
   ·simp only [e1, at0, ah, bq]
    exact (fin _ _ hb e2).2
   ·simp only [e1, at1, ah, bq]
    exact (fin _ _ hb e2).2)]
 have ty : ∀ w : W, TY (.str (" " : Str)) w = some "str" := fun _ => rfl
 have ty2 : ∀ w : W, TY (.str ("\n" : Str)) w = some "str" := fun _ => rfl
 rw [bA]
 simp only [slL, bY, gD, cC, RT, ty, zY, ae, ab, reduceCtorEq]
 refine ⟨rW _ (aa rfl), ?_⟩
 refine fH (it := ⟨kP q, always⟩) (kP q) id (fun d => D.str (NL d)) (by simp) trivial (fun d hd => ?_) ?_
 ·simp only [c0, id_eq, aBW (z4 o d hd), zY, ae, ab, reduceCtorEq]
 refine ⟨rW _ (aa rfl), ?_⟩
 rw [BK BB (z4 o) (aa rfl)]
 rw [bA]
 simp only [aGm, t.r, ah, bq, uP, ty, gD, zY, ae, ab, reduceCtorEq]
 have n4 := o.n4
 refine ⟨rW _ (by rw [ao]; omega), ?_⟩
 refine fH (it := ⟨q.rows.map gE, always⟩) q.rows gE (fun r => D.str (cY (IH r))) rfl trivial (fun r hr => ?_) ?_
 ·have wr := K0 o hr
  have hl : (r.map D.int).length ≤ 6 := by
   rw [ao]
   have := (o.rows r hr).1
   have := o.H6
   omega
  simp only [c0, gE, uP, ty, gD, zY, ae, ab, reduceCtorEq]
  refine ⟨rW _ (by omega), ?_⟩
  refine fH (it := ⟨r.map D.int, always⟩) (r.map D.int) id (fun d => D.str (NL d)) (by simp) trivial (fun d hd => ?_) ?_
  ·simp only [c0, id_eq, aBW (wr d hd), zY, ae, ab, reduceCtorEq]
  refine ⟨rW _ (by rw [ao]; omega), ?_⟩
  rw [BK pH wr (by omega), DZ]
  exact ⟨rfl, rfl⟩
 refine ⟨rW _ (by rw [ao]; simp; omega), ?_⟩
 rw [bA]
 have n6 := o.JN
 simp only [aF0, t.ti, ah, bq, uP, ty, gD, zY, ae, ab, reduceCtorEq]
 refine ⟨rW _ (by rw [ao]; omega), ?_⟩
 refine fH (it := ⟨q.eR.map cI, always⟩) q.eR cI (fun u => D.str (cY (XJ u))) rfl trivial (fun u hu => ?_) ?_
 ·have wr := LY o hu
  simp only [c0, cI, uP, ty, gD, zY, ae, ab, reduceCtorEq]
  refine fH (it := ⟨[D.int u.1, .int u.2.1, .int u.2.2], always⟩) [D.int u.1, .int u.2.1, .int u.2.2] id (fun d => D.str (NL d)) (by simp) trivial (fun d hd => ?_) ?_
  ·simp only [c0, id_eq, aBW (wr d hd), zY, ae, ab, reduceCtorEq]
  refine ⟨rW _ (aa rfl), ?_⟩
  rw [BK EV wr (aa rfl)]
  exact ⟨rfl, rfl⟩
 refine ⟨rW _ (by simp; omega), ?_⟩
 simp only [ty2, zY, ae, ab, reduceCtorEq]
 have e : ([D.str (cY (("plan" : Str) :: (kP q).map NL))] ++ q.rows.map (fun r => D.str (cY (IH r))) ++ q.eR.map fun u => D.str (cY (XJ u))) = (eZ q).map fun ws => D.str (cY ws) := by
  unfold eZ zV
  rw [List.map_cons, cu, List.map_map, List.map_map]
  rfl
 rw [e, XQ o]
 exact hP
theorem aFL (x : D) : begin sE [x] = [some x, none, none, none, none] := rfl
theorem LH {x : Str} {ds : List D} (hx : iV x = true) (h : ∀ d ∈ ds, wD d = true) : ∀ d ∈ D.str x :: ds, wD d = true := fun d hd => by
 rcases bg.mp hd with rfl | hd
 ·exact hx
 ·exact h d hd
theorem aAb (hp : w[p]? = some (.ins k.aH (fA f))) (o : m4 q H) (t : Tells f q) (hP : ∀ w', dJ w w' → P (.str (g9 q)) w') : T (K03.kU k [.ref p] w) P := by
 unfold K03.kU K03.xX
 rw [dI, aFL, bA]
 have of := fun (w' : W) (h : w'[p]? = some (.ins k.aH (fA f))) (z : Str) (d : D) (hz : (fA f).lookup z = some d) (P : D → W → Prop) => aAk k (P := P) h hz
 have o0 := of w hp
 simp only [o0 "every" f.ev rfl, o0 "lost" f.lo rfl, o0 "slow" f.sl rfl, o0 "bears" (fE f) rfl, o0 "gap" f.ga rfl, o0 "hold" f.ho rfl, o0 "takes" f.ta rfl, o0 "hosts" f.hs rfl, t.ev, t.lo, t.sl, t.be, t.ga, t.ho, t.ta, t.hs, gD, zY, ae, ab, reduceCtorEq]
 rw [seq_eq (σ1 := [some (.ref p), some (.lst [.int q.e, .int q.l, .int q.s, .int q.b, .int q.g, .int q.h]), some (.ref w.length), none, none]) (w1 := w ++ [.lst [.str (cY (zV q))]]) (by
  simp only [o0 "takes" f.ta rfl, o0 "hosts" f.hs rfl, t.ta, t.hs, gD, zY, ae, ab, reduceCtorEq]
  have tw := fun (z : Str) (hz : yn q.t = z) (P : D → W → Prop) (hP : P (.str (cY (zV q))) w) => LB k (w := w) (P := P) (d := .lst ([.str ("plan" : Str)] ++ [.int q.e, .int q.l, .int q.s, .int q.b, .int q.g, .int q.h] ++ [.str z, .int q.c])) (ds := .str ("plan" : Str) :: kP q) (LH BB (z4 o)) (aa rfl) (.inl (by rw [← hz]; rfl)) hP
  cases ht : q.t with
  | true =>
   simp only [ae]
   refine ⟨rW _ (aa rfl), ?_⟩
   refine tw _ (by rw [ht]; rfl) _ ?_
   exact ⟨rfl, rfl⟩
  | false =>
   simp only [bp, ab]
   refine ⟨rW _ (aa rfl), ?_⟩
   refine tw _ (by rw [ht]; rfl) _ ?_
   exact ⟨rfl, rfl⟩)]
 obtain ⟨w1, e1⟩ : ∃ w1, w1 = w ++ [MO.lst [.str (cY (zV q))]] := ⟨_, rfl⟩
 obtain ⟨i, ei⟩ : ∃ i, i = w.length := ⟨_, rfl⟩
 have lp := (ag.mp hp).1
 have x1 : dJ w w1 := by rw [e1]; exact dJ.refl.app _
 have hp1 : w1[p]? = some (.ins k.aH (fA f)) := by rw [x1.at_ p lp]; exact hp
 have hi : w1[i]? = some (.lst [.str (cY (zV q))]) := by rw [e1, ei, bf (az _)]; simp
 have ip : i ≠ p := by omega
 have hP1 : ∀ o, P (.str (g9 q)) (w1.set i o) := fun o => hP _ (x1.set (by omega) o)
 rw [← e1, ← ei]
 clear e1 ei hP x1
 have o1 := of w1 hp1
 rw [bA]
 have n4 := o.n4
 have n6 := o.JN
 simp only [tyL hi, o1 "ranks" f.r rfl, t.r, uP, zY, ae, ab, reduceCtorEq]
 refine ⟨rW _ (by rw [ao]; omega), ?_⟩
 refine fH (it := ⟨q.rows.map gE, always⟩) q.rows gE (fun r => D.str (cY (IH r))) rfl trivial (fun r hr => ?_) ?_
 ·have wr := K0 o hr
  have hl : r.length ≤ 6 := by
   have := (o.rows r hr).1
   have := o.H6
   omega
  simp only [c0, gE, pU, zY, ae, ab, reduceCtorEq]
  refine ⟨rW _ (by rw [ao]; simp; omega), ?_⟩
  refine LB k (ds := .str ("ranks" : Str) :: r.map D.int) (LH pH wr) (by rw [List.length_cons, ao]; omega) (.inr rfl) ?_
  rw [DZ]
  exact ⟨rfl, rfl⟩
 rw [YW hi]
 refine ⟨rW _ (by simp; omega), ?_⟩
 obtain ⟨L1, eL⟩ : ∃ L, L = [D.str (cY (zV q))] ++ q.rows.map fun r => D.str (cY (IH r)) := ⟨_, rfl⟩
 obtain ⟨w2, e2⟩ : ∃ w2, w2 = w1.set i (.lst L1) := ⟨_, rfl⟩
 rw [← eL, ← e2]
 have li := (ag.mp hi).1
 have hi2 : w2[i]? = some (.lst L1) := by rw [e2]; exact au li
 have hp2 : w2[p]? = some (.ins k.aH (fA f)) := by rw [e2, av ip]; exact hp1
 have hP2 : ∀ o, P (.str (g9 q)) (w2.set i o) := fun o => by rw [e2, List.set_set]; exact hP1 o
 have lL : L1.length ≤ 5 := by rw [eL]; simp; omega
 clear e2 hP1 o1 hi hp1 li
 have o2 := of w2 hp2
 rw [bA]
 simp only [tyL hi2, o2 "ties" f.ti rfl, t.ti, uP, zY, ae, ab, reduceCtorEq]
 refine ⟨rW _ (by rw [ao]; omega), ?_⟩
 refine fH (it := ⟨q.eR.map cI, always⟩) q.eR cI (fun u => D.str (cY (XJ u))) rfl trivial (fun u hu => ?_) ?_
 ·have wr := LY o hu
  simp only [c0, cI, pU, zY, ae, ab, reduceCtorEq]
  refine LB k (ds := .str ("tie" : Str) :: [D.int u.1, .int u.2.1, .int u.2.2]) (LH EV wr) (aa rfl) (.inr rfl) ?_
  exact ⟨rfl, rfl⟩
 rw [YW hi2]
 refine ⟨rW _ (by rw [ao]; omega), ?_⟩
 have ty2 : ∀ w : W, TY (.str ("\n" : Str)) w = some "str" := fun _ => rfl
 simp only [ty2, zY, ae, ab, reduceCtorEq]
 have e : (L1 ++ q.eR.map fun u => D.str (cY (XJ u))) = ((eZ q).map cY).map D.str := by
  rw [eL]
  unfold eZ zV
  rw [List.map_map, List.map_cons, cu, List.map_map, List.map_map]
  rfl
 have ok := sW o
 have := ok.l
 rw [e]
 rw [aDo (q := i) (ys := (eZ q).map cY) (au (ag.mp hi2).1) (fun p hp => by have := ok.aE9 p hp; omega) (by rw [ao]; omega) (by rw [Z6]; omega)]
 exact hP2 _
theorem aGs (x y z : D) : begin o8 [x, y, z] = [some x, some y, some z, none, none] := rfl
theorem aEH {m : ME} {σ : Sg} {PI : kL → W → Prop} : T (aB9 m σ w) PI = T (m σ w) fun d w1 => T (aBf d w1) PI := by unfold aB9; rw [bC]
theorem aEW {x : Str} {PI : kL → W → Prop} : T (aBf (.str x) w) PI = PI ⟨nV x, always⟩ w := by unfold T; rfl
theorem aGS {x : Str} (h : x.length ≤ 1000) : T (c7 [.str x] w) P = P (.int x.length) w := by
 have e : EU (.str x) w = some x.length := by
  unfold EU
  simp only []
  rw [if_pos (by rw [sizeLine_eq]; omega)]
 rw [U6, e]
 simp
theorem aBo {i lo hi : Int} (h : 0 ≤ i ∧ i ≤ 20) (h2 : lo ≤ i ∧ i ≤ hi) (hP : P (.int i) w) : T (K03.jB k [.str (cU i), .int lo, .int hi] w) P := by
 have ok := aBn h.1 h.2
 unfold K03.jB K03.uV
 rw [dI, aGs, bA]
 have o1 := ok.one
 have o2 := ok.two
 have sk := lD ok.word
 have d1 : decide ((1 : Int) ≤ ((cU i).length : Nat)) = true := by rw [ak]; omega
 have d2 : decide (((cU i).length : Nat) ≤ (2 : Int)) = true := by rw [ak]; omega
 have d3 : decide (lo ≤ i) = true := by rw [ak]; exact h2.1
 have d4 : decide (i ≤ hi) = true := by rw [ak]; exact h2.2
 have ld : (cU i).cps.toList.length ≤ 2 := by rw [← TL.len_tl]; exact o2
 simp only [aGS (show (cU i).length ≤ 1000 by omega), aEH, aEW, d1, d2, Bool.not_true, zY, ae, ab, reduceCtorEq]
 refine ⟨rW _ (by rw [nV, ao]; omega), ?_⟩
 refine fH (it := ⟨nV (cU i), always⟩) (cU i).cps.toList (fun c => D.str ⟨#[c]⟩) (fun c => D.bl (decide (c ∈ ("0123456789" : Str).cps.toList))) rfl trivial (fun c hc => ?_) ?_
 ·simp only [c0, aEB, zY, ae, ab, reduceCtorEq]
 rw [AZ (cU i).cps.toList fun c => decide (c ∈ ("0123456789" : Str).cps.toList)]
 have dg : ((cU i).cps.toList.all fun c => decide (c ∈ ("0123456789" : Str).cps.toList)) = true := ok.ZQ
 rw [dg]
 simp only [Bool.not_true, zY, ae, ab, reduceCtorEq]
 rw [bA]
 simp only [aCm ok, zY, ae, ab, reduceCtorEq]
 have se : ∀ w, yR (.str (cU i)) (.str (cU i)) w = some true := fun w => by rw [E7 sk sk]; simp
 simp only [aAw h.1 h.2, DP (se w), d3, d4, zY, ae, ab, reduceCtorEq]
 exact hP
end
section
variable {q : Pn} {H : Nat}
def jE (w : W) (a : Nat) (hd : D) (rs : List (List Int)) (cs : List (Int × Int × Int)) : Prop := w[a]? = some (.ins k.aM [("head", hd), ("rows", .tup (rs.map gE)), ("cords", .tup (cs.map cI))])
def kN (q : Pn) : List (Key × D) := [(.inr "every", .int q.e), (.inr "lost", .int q.l), (.inr "slow", .int q.s), (.inr "bears", .int q.b), (.inr "gap", .int q.g), (.inr "hold", .int q.h), (.inr "hosts", .int q.c)]
def AF (q : Pn) : List (Key × D) := kN q ++ [(.inr "takes", .bl q.t)]
def aC8 (q : Pn) : List (Str × Int × Int × Int) := [("every", 1, 5, q.e), ("lost", 0, 3, q.l), ("slow", 1, 4, q.s), ("bears", 0, 3, q.b), ("gap", 0, 3, q.g), ("hold", 0, 20, q.h), ("hosts", 0, 4, q.c)]
theorem aBK (o : m4 q H) : ∀ r ∈ aC8 q, K03.cZ.lookup r.1 = some (some (.jA [.int r.2.1, .int r.2.2.1])) ∧ (0 ≤ r.2.2.2 ∧ r.2.2.2 ≤ 20) ∧ (r.2.1 ≤ r.2.2.2 ∧ r.2.2.2 ≤ r.2.2.1) := by
 have := o.e
 have := o.l
 have := o.s
 have := o.b
 have := o.g
 have := o.h
 have := o.c
 intro r hr
 simp only [aC8, bg, bu, or_false] at hr
 rcases hr with rfl | rfl | rfl | rfl | rfl | rfl | rfl
 ·exact ⟨rfl, by simp only []; omega, by simp only []; omega⟩
 ·exact ⟨rfl, by simp only []; omega, by simp only []; omega⟩
 ·exact ⟨rfl, by simp only []; omega, by simp only []; omega⟩
 ·exact ⟨rfl, by simp only []; omega, by simp only []; omega⟩
 ·exact ⟨rfl, by simp only []; omega, by simp only []; omega⟩
 ·exact ⟨rfl, by simp only []; omega, by simp only []; omega⟩
 ·exact ⟨rfl, by simp only []; omega, by simp only []; omega⟩
theorem ZZ {i : Nat} {r : Str × Int × Int × Int} (h : (aC8 q)[i]? = some r) : putD ((kN q).take i) (.inr r.1) (.int r.2.2.2) = (kN q).take (i + 1) := by
 have hi : i < 7 := (ag.mp h).1
 rcases (show i = 0 ∨ i = 1 ∨ i = 2 ∨ i = 3 ∨ i = 4 ∨ i = 5 ∨ i = 6 by omega) with rfl | rfl | rfl | rfl | rfl | rfl | rfl <;> (cases h; rfl)
theorem JH : putD (kN q) (.inr "takes") (.bl q.t) = AF q := rfl
theorem V9 {dd : Nat} {kvs : List (Key × D)} {i : D} {ky : Key} {PU : Unit → W → Prop} (h : w[dd]? = some (.dK kvs)) (hk : keyD i = some ky) (hl : kvs.length ≤ 1000) : T (setM (.ref dd) i d w) PU = PU () (w.set dd (.dK (putD kvs ky d))) := by
 have : setM (.ref dd) i d w = .ok () (w.set dd (.dK (putD kvs ky d))) := by
  simp only [setM, h, hk, if_pos (show kvs.length < sizeLine by rw [sizeLine_eq]; omega)]
 rw [this, bY]
theorem W8 {xs : List Int} : inD .non (.lst (xs.map D.int)) w = some false := by
 show nG .non (.lst (xs.map D.int)) w = _
 unfold nG
 have e1 : D.py w .non = some .none := rfl
 rw [e1, VB]
 have l1 : SeqAt.shaped .none = true := by simp [SeqAt.shaped, PyData.canLay0, PyData.depth]
 simp only [l1, lay_ints, and_self, ae]
 congr 1
 rw [List.any_map, List.any_eq_false]
 intro x _
 simp [PyData.eqv]
theorem Z1 {a : Addr} {tab : List (Str × Option D)} {z : Str} {o : Option D} (h : tab.lookup z = some o) : T (y4 a tab (.str z) (.con a) w) P = P (.bl (!o.isSome)) w := by
 simp only [y4, ae, h, bY]
theorem YM (b : Bool) : K03.qJ.lookup (yn b) = some (some (.bl b)) := by cases b <;> rfl
def BF (q : Pn) : List D := [.str (cU q.e), .str (cU q.l), .str (cU q.s), .str (cU q.b), .str (cU q.g), .str (cU q.h), .str (yn q.t), .str (cU q.c)]
theorem hsA : atI (BF q) (-2) = some (.str (yn q.t)) := rfl
theorem hsB : Pc.cutD (BF q) none (some (-2)) = [.str (cU q.e), .str (cU q.l), .str (cU q.s), .str (cU q.b), .str (cU q.g), .str (cU q.h)] := rfl
theorem hsC : Pc.cutD (BF q) (some (-1)) none = [.str (cU q.c)] := rfl
theorem aBY {a b : List D} (ha : a ≠ []) (hb : b ≠ []) (hl : a.length + b.length ≤ 1000) : T (GL (.jA a) (.tup b) w) P = P (.tup (a ++ b)) w := by
 have : GL (.jA a) (.tup b) w = .ok (.tup (a ++ b)) w := by
  simp only [GL, if_pos (show a ≠ [] ∧ b ≠ [] ∧ a.length + b.length ≤ sizeLine from ⟨ha, hb, by rw [sizeLine_eq]; omega⟩)]
 rw [this, bY]
theorem aCC {σ : Sg} : T (VG σ w) P = P (.ref w.length) (w ++ [.dK []]) := by unfold VG; rw [bY]
theorem aCz {dd : Nat} {kvs : List (Key × D)} (h : w[dd]? = some (.dK kvs)) : T (AW (.ref dd) w) P = P (.lst (kvs.map fun kv => kv.2)) w := by
 simp only [AW, h, bY]
theorem XA : ((kN q).map fun kv => kv.2) = [q.e, q.l, q.s, q.b, q.g, q.h, q.c].map D.int := rfl
theorem aE5 : T (GL (.jA [D.str ("every" : Str), .str ("lost" : Str), .str ("slow" : Str), .str ("bears" : Str), .str ("gap" : Str), .str ("hold" : Str)]) (.tup [D.str ("hosts" : Str)]) w) P = P (.tup ([D.str ("every" : Str), .str ("lost" : Str), .str ("slow" : Str), .str ("bears" : Str), .str ("gap" : Str), .str ("hold" : Str)] ++ [D.str ("hosts" : Str)])) w := aBY (List.cons_ne_nil _ _) (List.cons_ne_nil _ _) (aa rfl)
def aD0 (q : Pn) : List D := (aC8 q).map fun r => .tup [.str r.1, .str (cU r.2.2.2)]
theorem aGG (x y : D) : begin fG [x, y] = [some x, some y, none, none, none, none, none] := rfl
theorem aD5 {a : Nat} {w0 : W} (o : m4 q H) (ha : jE k w a .non [] []) (x0 : dJ w0 w) (la : w0.length ≤ a) (hP : ∀ w' dd, dJ w0 w' → jE k w' a (.ref dd) [] [] → w0.length ≤ dd → dd ≠ a → w'[dd]? = some (.dK (AF q)) → P (.bl true) w') : T (K03.dX k [.ref a, .lst (BF q)] w) P := by
 unfold K03.dX K03.hX
 rw [dI, aGG, bA]
 have l8 : ((BF q).length : Int) == ((0 + 1 + 1 + 1 + 1 + 1 + 1 : Nat) : Int) + 2 := rfl
 simp only [l8, hsA, ah, bq, Z1 (YM q.t), Option.isSome_some, Bool.not_true, zY, ae, ab, reduceCtorEq]
 rw [bA]
 simp only [aCC, zY, ae, ab, reduceCtorEq]
 obtain ⟨dd, edd⟩ : ∃ dd, dd = w.length := ⟨_, rfl⟩
 obtain ⟨w1, e1⟩ : ∃ w1, w1 = w ++ [MO.dK []] := ⟨_, rfl⟩
 rw [← e1, ← edd]
 have la1 := (ag.mp ha).1
 have ha1 : jE k w1 a .non [] [] := by
  unfold jE
  rw [e1, aq la1]
  exact ha
 have hd1 : w1[dd]? = some (.dK ((kN q).take 0)) := by rw [e1, edd, bf (az _)]; simp
 have x1 : dJ w0 w1 := by rw [e1]; exact x0.app _
 have ld : w0.length ≤ dd := by rw [edd]; exact x0.le
 have nd : dd ≠ a := by omega
 clear e1 edd ha la1 x0
 rw [bA]
 simp only [slL, bY, hsB, hsC, gD, aE5, aHn, zY, ae, ab, reduceCtorEq]
 refine ⟨rfl, ?_⟩
 refine Lb.HD (it := ⟨aD0 q, always⟩) (fun i σ w' => dJ w0 w' ∧ jE k w' a .non [] [] ∧ w'[dd]? = some (.dK ((kN q).take i)) ∧ ∃ s3 s4 s5 s6, σ = [some (.ref a), some (.lst (BF q)), some (.ref dd), s3, s4, s5, s6]) (fun _ _ _ _ => trivial) ⟨x1, ha1, hd1, _, _, _, _, rfl⟩ (fun i x σ w2 hx hI => ?_) (fun σ w2 hI => ?_)
 ·obtain ⟨x2, ha2, hd2, s3, s4, s5, s6, rfl⟩ := hI
  unfold aD0 at hx
  rw [bz] at hx
  obtain ⟨r, hr, rfl⟩ := ai.mp hx
  obtain ⟨h1, h2, h3⟩ := aBK o r (bw hr)
  simp only [zY, ae, ab, reduceCtorEq]
  rw [bA]
  simp only [aA6 h1, zY, ae, ab, reduceCtorEq]
  refine aBo k h2 h3 ?_
  have l7 : ((kN q).take i).length ≤ 1000 := by
   have : (kN q).length = 7 := rfl
   rw [List.length_take]
   omega
  have la2 := (ag.mp ha2).1
  simp only [V9 hd2 (show Pc.keyD (.str r.1) = some (.inr r.1) from rfl) l7, zY, ae, ab, reduceCtorEq]
  rw [ZZ hr]
  refine ⟨x2.set ld _, ?_, au (ag.mp hd2).1, _, _, _, _, rfl⟩
  unfold jE
  rw [av nd]
  exact ha2
 ·obtain ⟨x2, ha2, hd2, s3, s4, s5, s6, rfl⟩ := hI
  have e7 : (kN q).take (aD0 q).length = kN q := rfl
  simp only [e7] at hd2
  try simp only [dS]
  rw [bA]
  simp only [aCz hd2, XA, aE0, W8, ah, bq, zY, ae, ab, reduceCtorEq]
  rw [bA]
  refine nT ha2 rfl rfl (aa rfl) ?_
  rw [dS]
  obtain ⟨w3, e3⟩ : ∃ w3, w3 = w2.set a (.ins k.aM [("head", .ref dd), ("rows", .tup (([] : List (List Int)).map gE)), ("cords", .tup (([] : List (Int × Int × Int)).map cI))]) := ⟨_, rfl⟩
  have ha3 : jE k w3 a (.ref dd) [] [] := by rw [e3]; exact au (ag.mp ha2).1
  have hd3 : w3[dd]? = some (.dK (kN q)) := by rw [e3, av (Ne.symm nd)]; exact hd2
  have x3 : dJ w0 w3 := by rw [e3]; exact x2.set la _
  show T (aI _ _ _ (w2.set a (.ins k.aM [("head", .ref dd), ("rows", .tup (([] : List (List Int)).map gE)), ("cords", .tup (([] : List (Int × Int × Int)).map cI))]))) _
  rw [← e3]
  clear e3 ha2 hd2 x2
  rw [bA]
  have fh : ∀ P : D → W → Prop, T (nK k.aM ("head" : Str) (.ref a) w3) P = P (.ref dd) w3 := fun P => by
   rw [A7 ha3]
   simp [List.lookup]
  simp only [hsA, ah, bq, aA6 (YM q.t), fh, V9 hd3 (show Pc.keyD (.str ("takes" : Str)) = some (.inr "takes") from rfl) (show (kN q).length ≤ 1000 from aa rfl), JH, zY, ae, ab, reduceCtorEq]
  refine hP _ dd (x3.set ld _) ?_ ld nd (au (ag.mp hd3).1)
  unfold jE
  rw [av nd]
  exact ha3
section
variable {a : Nat} {hd : D} {rs : List (List Int)} {cs : List (Int × Int × Int)} {w0 : W}
theorem jE.head (h : jE k w a hd rs cs) : T (nK k.aM ("head" : Str) (.ref a) w) P = P hd w := by
 rw [A7 h]
 simp [List.lookup]
theorem jE.rows (h : jE k w a hd rs cs) : T (nK k.aM ("rows" : Str) (.ref a) w) P = P (.tup (rs.map gE)) w := by
 rw [A7 h]
 have e : ([("head", hd), ("rows", .tup (rs.map gE)), ("cords", .tup (cs.map cI))] : List (Str × D)).lookup ("rows" : Str) = some (.tup (rs.map gE)) := rfl
 rw [e]
 simp
theorem jE.IT (h : jE k w a hd rs cs) : T (nK k.aM ("cords" : Str) (.ref a) w) P = P (.tup (cs.map cI)) w := by
 rw [A7 h]
 have e : ([("head", hd), ("rows", .tup (rs.map gE)), ("cords", .tup (cs.map cI))] : List (Str × D)).lookup ("cords" : Str) = some (.tup (cs.map cI)) := rfl
 rw [e]
 simp
theorem TF {xs : List Int} : inD .non (.tup (xs.map D.int)) w = some false := by
 show nG .non (.tup (xs.map D.int)) w = _
 unfold nG
 have e1 : D.py w .non = some .none := rfl
 rw [e1, aBv]
 have l1 : SeqAt.shaped .none = true := by simp [SeqAt.shaped, PyData.canLay0, PyData.depth]
 simp only [l1, XF, and_self, ae]
 congr 1
 rw [List.any_map, List.any_eq_false]
 intro x _
 simp [PyData.eqv]
theorem ne_nil {xs : List D} : T (qX (.tup xs) (.tup []) w) P = P (.bl (!xs.isEmpty)) w := by
 rw [aCH, A8]
 simp
theorem eq_nil {xs : List D} : T (fN (.tup xs) (.tup []) w) P = P (.bl xs.isEmpty) w := by
 rw [D2, A8]
 simp
theorem aHh (x y : D) : begin eW [x, y] = [some x, some y, none, none] := rfl
theorem aCB {r : List Int} (ha : jE k w a hd rs []) (x0 : dJ w0 w) (la : w0.length ≤ a) (hr : r.length = H ∧ ∀ x ∈ r, 1 ≤ x ∧ x ≤ 12) (H1 : 1 ≤ H) (H6 : H ≤ 6) (h4 : rs.length < 4) (hrs : ∀ y ∈ rs, y.length = H)
  (hP : ∀ w', dJ w0 w' → (∀ j, j ≠ a → w'[j]? = w[j]?) → jE k w' a hd (rs ++ [r]) [] → P (.bl true) w') : T (K03.dN k [.ref a, .lst (r.map fun x => D.str (cU x))] w) P := by
 unfold K03.dN K03.gI
 rw [dI, aHh, bA]
 have lr := hr.1
 simp only [RT, zY, ae, ab, reduceCtorEq]
 refine ⟨rW _ (by rw [ao]; omega), ?_⟩
 refine fH (it := ⟨r.map fun x => D.str (cU x), always⟩) r (fun x => D.str (cU x)) D.int rfl trivial (fun x hx => ?_) ?_
 ·have := hr.2 x hx
  simp only [c0, zY, ae, ab, reduceCtorEq]
  refine aBo k (by omega) (by omega) ?_
  exact ⟨rfl, rfl⟩
 simp only [UT, zY, ae, ab, reduceCtorEq]
 rw [bA]
 have d1 : decide ((1 : Int) ≤ (r.length : Nat)) = true := by rw [ak]; omega
 have d2 : decide (((r.length : Nat) : Int) ≤ 6) = true := by rw [ak]; omega
 have d3 : (((rs.length : Nat) : Int) == 4) = false := by
  rw [beq_eq_false_iff_ne]
  omega
 simp only [aE0, TF, ah, bq, ao, d1, d2, d3, ha.rows, Bool.not_true, Bool.not_false, D2, y9, zY, ae, ab, reduceCtorEq]
 have la1 := (ag.mp ha).1
 have fin : T (aI (cG k.aM ("rows" : Str) (aB 0) (aD bH (bE k.aM ("rows" : Str) (aB 0)) (bR (aA (aB 2) aE)))) (aY (eC (.bl true))) [some (.ref a), some (.lst (r.map fun x => D.str (cU x))), some (.tup (r.map D.int)), none] w) (fun f w1 => match f with
   | .nx _ => P .non w1
   | .rt d => P d w1
   | _ => False) := by
  rw [bA]
  simp only [ha.rows, pU, zY, ae, ab, reduceCtorEq]
  refine ⟨rW _ (by rw [ao]; omega), ?_⟩
  rw [qY ha]
  refine ⟨aa rfl, ?_⟩
  refine hP _ (x0.set la _) (fun j hj => av (Ne.symm hj)) ?_
  unfold jE
  rw [au la1, cu]
  rfl
 rw [bA]
 simp only [ha.rows, ne_nil, wH, x9, zY, ae, ab, reduceCtorEq]
 cases rs with
 | nil =>
  simp only [List.map_nil, List.isEmpty_nil, Bool.not_true, zY, ae, ab, reduceCtorEq]
  exact fin
 | cons r0 rest =>
  have l0 : r0.length = r.length := by rw [lr]; exact hrs r0 (bc ..)
  have dl : (!((r.length : Int) == (r0.length : Nat))) = false := by rw [l0]; simp
  simp only [List.map_cons, List.isEmpty_cons, Bool.not_false, ha.rows, gE, at0, ah, bq, ao, dl, zY, ae, ab, reduceCtorEq]
  exact fin
theorem aGY (x y : D) : begin fU [x, y] = [some x, some y, none, none] := rfl
theorem aGq : K03.jI k = Lb.jI (lk k) := rfl
theorem V4 {t : Int × Int × Int} (h : (0 ≤ t.1 ∧ t.1 < (H : Int)) ∧ (0 ≤ t.2.1 ∧ t.2.1 ≤ 9) ∧ (1 ≤ t.2.2 ∧ t.2.2 ≤ 11)) : qN (H : Int) (cI t) = true := by
 unfold cI
 simp only [qN, bB, aj, ak]
 omega
theorem aFA {t : Int × Int × Int} (ha : jE k w a hd rs cs) (x0 : dJ w0 w) (la : w0.length ≤ a) (ht : (0 ≤ t.1 ∧ t.1 < (H : Int)) ∧ (0 ≤ t.2.1 ∧ t.2.1 ≤ 9) ∧ (1 ≤ t.2.2 ∧ t.2.2 ≤ 11)) (H6 : H ≤ 6) (hn : rs ≠ []) (hrs : ∀ y ∈ rs, y.length = H) (h6 : cs.length < 6)
  (hc : cs = [] ∨ ∃ ini l, cs = ini ++ [l] ∧ HT.lexLt [l.1, l.2.1] [t.1, t.2.1] = true)
  (hP : ∀ w', dJ w0 w' → (∀ j, j ≠ a → w'[j]? = w[j]?) → jE k w' a hd rs (cs ++ [t]) → P (.bl true) w') : T (K03.eG k [.ref a, .lst [.str (cU t.1), .str (cU t.2.1), .str (cU t.2.2)]] w) P := by
 unfold K03.eG K03.iH
 rw [dI, aGY, bA]
 simp only [RT, zY, ae, ab, reduceCtorEq]
 refine fH (it := ⟨[D.str (cU t.1), .str (cU t.2.1), .str (cU t.2.2)], always⟩) [t.1, t.2.1, t.2.2] (fun x => D.str (cU x)) D.int rfl trivial (fun x hx => ?_) ?_
 ·have hx : 0 ≤ x ∧ x ≤ 12 := by
   simp only [bg, bu, or_false] at hx
   rcases hx with rfl | rfl | rfl <;> omega
  simp only [c0, zY, ae, ab, reduceCtorEq]
  refine aBo k (by omega) (by omega) ?_
  exact ⟨rfl, rfl⟩
 simp only [UT, zY, ae, ab, reduceCtorEq]
 show T (aI _ _ [_, _, some (cI t), _] w) _
 obtain ⟨r0, rest, rfl⟩ := List.exists_cons_of_ne_nil hn
 have l0 : r0.length = H := hrs r0 (bc ..)
 rw [bA]
 have okt : nY 6 (cI t) = true := SV ⟨by omega, by omega, by omega⟩
 have e6 : (((cs.length : Nat) : Int) == 6) = false := by
  rw [beq_eq_false_iff_ne]
  omega
 simp only [ha.rows, List.map_cons, gE, at0, ah, bq, ao, aGq, zY, ae, ab, reduceCtorEq]
 refine aDO (lk k) okt ?_
 rw [l0, V4 ht]
 simp only [Bool.not_true, ha.IT, ao, e6, zY, ae, ab, reduceCtorEq]
 have la1 := (ag.mp ha).1
 have fin : T (aI (cG k.aM ("cords" : Str) (aB 0) (aD bH (bE k.aM ("cords" : Str) (aB 0)) (bR (aA (aB 2) aE)))) (aY (eC (.bl true))) [some (.ref a), some (.lst [D.str (cU t.1), .str (cU t.2.1), .str (cU t.2.2)]), some (cI t), none] w) (fun f w1 => match f with
   | .nx _ => P .non w1
   | .rt d => P d w1
   | _ => False) := by
  rw [bA]
  simp only [ha.IT, pU, zY, ae, ab, reduceCtorEq]
  refine ⟨rW _ (by rw [ao]; omega), ?_⟩
  rw [qY ha]
  refine ⟨aa rfl, ?_⟩
  refine hP _ (x0.set la _) (fun j hj => av (Ne.symm hj)) ?_
  unfold jE
  rw [au la1, cu]
  rfl
 rw [bA]
 simp only [ha.IT, ne_nil, wH, x9, zY, ae, ab, reduceCtorEq]
 rcases hc with rfl | ⟨ini, l, rfl, hlt⟩
 ·simp only [List.map_nil, List.isEmpty_nil, Bool.not_true, zY, ae, ab, reduceCtorEq]
  exact fin
 ·have en : (((ini ++ [l]).map cI).isEmpty) = false := by simp
  have ea : atI ((ini ++ [l]).map cI) (-1) = some (cI l) := by
   rw [cu]
   exact aC6
  have g1 : IX [l.1, l.2.1] [t.1, t.2.1] = false := by
   have h : l.1 < t.1 ∨ (l.1 = t.1 ∧ l.2.1 < t.2.1) := by
    simp only [HT.lexLt_cons, HT.lexLt_nil_nil] at hlt
    by_cases c1 : l.1 = t.1
    ·rw [if_pos c1] at hlt
     by_cases c2 : l.2.1 = t.2.1
     ·rw [if_pos c2] at hlt
      cases hlt
     ·rw [if_neg c2, ak] at hlt
      exact .inr ⟨c1, hlt⟩
    ·rw [if_neg c1, ak] at hlt
     exact .inl hlt
   rcases h with h | ⟨h1, h2⟩
   ·have n1 : ¬ l.1 = t.1 := by omega
    have n2 : ¬ t.1 ≤ l.1 := by omega
    simp [IX, Ob.lexAt, n1, n2]
   ·have n1 : ¬ l.2.1 = t.2.1 := by omega
    have n2 : ¬ t.2.1 ≤ l.2.1 := by omega
    simp [IX, Ob.lexAt, h1, n1, n2]
  have sl : ∀ (u : Int × Int × Int) (w : W), mS (cI u) none (some 2) w = .ok (.tup [.int u.1, .int u.2.1]) w := fun _ _ => rfl
  have ge : ∀ (w : W) (P : D → W → Prop), T (geA (.tup [.int l.1, .int l.2.1]) (.tup [.int t.1, .int t.2.1]) w) P = P (.bl (IX [l.1, l.2.1] [t.1, t.2.1])) w := fun w P => by unfold T; rfl
  simp only [en, Bool.not_false, ea, ah, bq, ha.IT, sl, bY, ge, g1, zY, ae, ab, reduceCtorEq]
  exact fin
theorem aGV (x y : D) : begin gT [x, y] = [some x, some y, none, none] := rfl
theorem BM {nm : Str} {fs : List (Str × D)} (h : w[a]? = some (.ins k.aM fs)) (hl : fs.lookup nm = none) : oH k.aM nm (.ref a) w = some a := by
 unfold oH
 simp only [h, hl, and_self, ae]
theorem VF {x y : Str} (hx : PyData.strOk x = true) (hy : PyData.strOk y = true) : T (fN (.str x) (.str y) w) P = P (.bl (decide (x = y))) w := DP (E7 hx hy)
def bGo : MS := (aI (dR (a8 (aD Y4 (bE k.aM ("head" : Str) (aB 0)) (eC .non))) (aY (jC (aD fN (aB 2) (eC (.str ("plan" : Str)))) (eS k.aM ("takes_head" : Str) (dX k) 2 aN (aB 0) (aA (aB 3) aE)))) aX)
 (aI (dR (gG (a8 (aD fN (aB 2) (eC (.str ("ranks" : Str))))) (a8 (aD fN (bE k.aM ("cords" : Str) (aB 0)) (bR aE)))) (aY (eS k.aM ("takes_ranks" : Str) (dN k) 2 aN (aB 0) (aA (aB 3) aE))) aX)
 (aY (jC (aD fN (aB 2) (eC (.str ("tie" : Str)))) (jC (aD qX (bE k.aM ("rows" : Str) (aB 0)) (bR aE)) (eS k.aM ("takes_tie" : Str) (eG k) 2 aN (aB 0) (aA (aB 3) aE)))))))
theorem D5 {x : Str} {ws : List Str} (h : ∀ y ∈ x :: ws, iV y = true) (hl : ws.length ≤ 8)
  (hP : T (bGo k [some (.ref a), some (.str (cY (x :: ws))), some (.str x), some (.lst (ws.map D.str))] w) fun f w1 => match f with
   | .nx _ => P .non w1
   | .rt d => P d w1
   | _ => False) : T (K03.cQ k [.ref a, .str (cY (x :: ws))] w) P := by
 unfold K03.cQ K03.jG
 rw [dI, aGV, bA]
 have ll := QD h
 rw [List.length_cons] at ll
 have ty : TY (.str (cY (x :: ws))) w = some "str" := rfl
 simp only [ty, VL (b := (" " : Str)) (by decide +kernel) (show (cY (x :: ws)).length ≤ 10000 by omega), SS h (List.cons_ne_nil _ _), zY, ae, ab, reduceCtorEq]
 rw [aCK (by simp) (by rw [ao, List.length_cons]; omega)]
 simp only [List.map_cons, List.take_succ_cons, List.take_zero, List.drop_succ_cons, List.drop_zero, List.cons_append, List.nil_append, zY, ae, ab, reduceCtorEq]
 exact hP
theorem W7 (o : m4 q H) (ha : jE k w a .non [] []) (x0 : dJ w0 w) (la : w0.length ≤ a) (hP : ∀ w' dd, dJ w0 w' → jE k w' a (.ref dd) [] [] → w0.length ≤ dd → dd ≠ a → w'[dd]? = some (.dK (AF q)) → P (.bl true) w') : T (K03.cQ k [.ref a, .str (cY (zV q))] w) P := by
 refine D5 k (ws := (kP q).map NL) (qZ BB (z4 o)) (aa rfl) ?_
 unfold bGo
 rw [bA]
 have ei := BM k (nm := ("takes_head" : Str)) ha rfl
 simp only [ha.head, qI, D.isNon, VF (lD BB) (lD BB), decide_true, rF, ei, zY, ae, ab, reduceCtorEq]
 refine aD5 k o ha x0 la fun w' dd x' h1 h2 h3 h4 => ?_
 exact hP w' dd x' h1 h2 h3 h4
theorem aGK : decide (("tie" : Str) = ("ranks" : Str)) = false := by decide +kernel
theorem S5 {r : List Int} {dd : Nat} (o : m4 q H) (ha : jE k w a (.ref dd) rs []) (x0 : dJ w0 w) (la : w0.length ≤ a) (hr : r ∈ q.rows) (h4 : rs.length < 4) (hrs : ∀ y ∈ rs, y.length = H)
  (hP : ∀ w', dJ w0 w' → (∀ j, j ≠ a → w'[j]? = w[j]?) → jE k w' a (.ref dd) (rs ++ [r]) [] → P (.bl true) w') : T (K03.cQ k [.ref a, .str (cY (IH r))] w) P := by
 have h6 := o.H6
 have l6 := (o.rows r hr).1
 refine D5 k (ws := r.map cU) (by have := qZ pH (K0 o hr); rw [← DZ] at this; exact this) (by rw [ao]; omega) ?_
 unfold bGo
 rw [bA]
 have ei := BM k (nm := ("takes_ranks" : Str)) ha rfl
 simp only [ha.head, qI, D.isNon, zY, ae, ab, reduceCtorEq]
 rw [bA]
 simp only [VF (lD pH) (lD pH), decide_true, ha.IT, List.map_nil, eq_nil, List.isEmpty_nil, rF, ei, zY, ae, ab, reduceCtorEq]
 have ew : (r.map cU).map D.str = r.map fun x => D.str (cU x) := by rw [List.map_map]; rfl
 rw [ew]
 refine aCB k ha x0 la (o.rows r hr) o.H1 o.H6 h4 hrs fun w' x' h1 h2 => ?_
 exact hP w' x' h1 h2
theorem ZC {t : Int × Int × Int} {dd : Nat} (o : m4 q H) (ha : jE k w a (.ref dd) rs cs) (x0 : dJ w0 w) (la : w0.length ≤ a) (ht : t ∈ q.eR) (hn : rs ≠ []) (hrs : ∀ y ∈ rs, y.length = H) (h6 : cs.length < 6)
  (hc : cs = [] ∨ ∃ ini l, cs = ini ++ [l] ∧ HT.lexLt [l.1, l.2.1] [t.1, t.2.1] = true)
  (hP : ∀ w', dJ w0 w' → (∀ j, j ≠ a → w'[j]? = w[j]?) → jE k w' a (.ref dd) rs (cs ++ [t]) → P (.bl true) w') : T (K03.cQ k [.ref a, .str (cY (XJ t))] w) P := by
 refine D5 k (ws := [cU t.1, cU t.2.1, cU t.2.2]) (qZ (ds := [D.int t.1, .int t.2.1, .int t.2.2]) EV (LY o ht)) (aa rfl) ?_
 unfold bGo
 rw [bA]
 have ei := BM k (nm := ("takes_tie" : Str)) ha rfl
 simp only [ha.head, qI, D.isNon, zY, ae, ab, reduceCtorEq]
 rw [bA]
 have en : (rs.map gE).isEmpty = false := by
  cases rs with
  | nil => exact absurd rfl hn
  | cons => rfl
 simp only [VF (lD EV) (lD pH), aGK, VF (lD EV) (lD EV), decide_true, ha.rows, ne_nil, en, Bool.not_false, rF, ei, zY, ae, ab, reduceCtorEq]
 refine aFA k ha x0 la (o.eR t ht) o.H6 hn hrs h6 hc fun w' x' h1 h2 => ?_
 exact hP w' x' h1 h2
end
theorem aFD : begin fD (aO k ([D.ref p] ++ [f.r]) [f.ev, f.lo, f.sl, f.be, f.ga, f.ho, f.ta, f.ti, f.hs]) = [some (.ref p), some f.r, some f.ev, some f.lo, some f.sl, some f.be, some f.ga, some f.ho, some f.ta, some f.ti, some f.hs, none, none, none, none] := rfl
theorem aBX (ok : WM f) (hg : qU f = none) (hP : ∀ w', dJ w w' → w'[w.length]? = some (.ins k.aH (fA f)) → P (.ref w.length) w') : T (qK (gB k) k.aH (fun s => aO k (s ++ [f.r]) [f.ev, f.lo, f.sl, f.be, f.ga, f.ho, f.ta, f.ti, f.hs]) w) P := by
 obtain ⟨hr, hb⟩ := find_none hg
 rw [KS]
 have hp : (w ++ [MO.ins k.aH []])[w.length]? = some (.ins k.aH []) := by rw [bf (az _)]; simp
 obtain ⟨w0, e0⟩ : ∃ w0, w0 = w ++ [MO.ins k.aH []] := ⟨_, rfl⟩
 have l0 : w0.length = w.length + 1 := by rw [e0]; simp
 rw [← e0] at hp ⊢
 unfold gB
 rw [VR, dI]
 have bI : begin fD (aO k ([D.ref w.length] ++ [f.r]) [f.ev, f.lo, f.sl, f.be, f.ga, f.ho, f.ta, f.ti, f.hs]) = _ := aFD k
 simp only [kJ] at bI ⊢
 rw [bI, bA]
 unfold YN
 rw [wH, vF]
 simp only [WJ, zY, ae, ab, reduceCtorEq]
 refine VQ (n := 4) (lk k) (by omega) (ok _ (by simp [eO])) ?_
 rw [hr]
 simp only [Bool.not_true, zY, ae, ab, reduceCtorEq]
 rw [aBj, bA]
 refine VZ k ok hr hb fun s13 s14 => ?_
 rw [dS]
 have hp4 : (wL w0 f)[w.length]? = some (.ins k.aH []) := by
  unfold wL wI
  rw [av (by omega), aq (by omega)]
  exact hp
 refine WB k hp4 fun s => ?_
 have l4 : (wL w0 f).length = w.length + 3 := by unfold wL wI; rw [ck, cc, l0]; rfl
 refine hP _ ⟨by rw [ck]; omega, fun i hi => ?_⟩ (au (by omega))
 rw [av (by omega)]
 unfold wL wI
 rw [av (by omega), aq (by omega), e0, aq hi]
def fdOf (q : Pn) : Fd := ⟨.tup (q.rows.map gE), .int q.e, .int q.l, .int q.s, .int q.b, .int q.g, .int q.h, .bl q.t, .tup (q.eR.map cI), .int q.c⟩
theorem aAA (q : Pn) : Tells (fdOf q) q := ⟨rfl, rfl, rfl, rfl, rfl, rfl, rfl, rfl, rfl, rfl⟩
theorem aC9 (o : m4 q H) : Gd (fdOf q) := by
 have wi : ∀ {lo hi v : Int}, lo ≤ v ∧ v ≤ hi → bB lo hi (.int v) = true := fun a => by simp [bB, a.1, a.2]
 have rd : O6 H q.rows.length (q.rows.map gE) := ⟨ao .., fun d hd => by
  obtain ⟨r, hr, rfl⟩ := bx.mp hd
  exact ⟨r, rfl, o.rows r hr⟩⟩
 obtain ⟨r1, r2, r0, rest, er, l0⟩ := U5 rd o.n1 o.n4 o.H1 o.H6
 have ew : nR (.tup (q.rows.map gE)) = H := by rw [er]; show ((r0.length : Nat) : Int) = H; rw [l0]
 have t6 := o.JN
 have ot : nY 6 (.tup (q.eR.map cI)) = true := by
  simp only [nY, aj, bj, ak, ao]
  refine ⟨fun y hy => ?_, by omega⟩
  obtain ⟨t, ht, rfl⟩ := bx.mp hy
  have h := o.eR t ht
  have := o.H6
  exact SV ⟨by omega, by omega, by omega⟩
 have h1 := o.e
 have h2 := o.l
 have h3 := o.s
 have h4 := o.b
 have h5 := o.g
 have h6 := o.h
 have h7 := o.c
 refine ⟨fun d hd => ?_, r1, wi o.e, wi o.l, wi o.s, wi o.b, wi o.g, wi o.h, rfl, ?_, wi o.c⟩
 ·simp only [eO, fdOf, bg, bu, or_false] at hd
  rcases hd with rfl | rfl | rfl | rfl | rfl | rfl | rfl | rfl | rfl | rfl
  ·exact r2
  ·exact kQ (by omega)
  ·exact kQ (by omega)
  ·exact kQ (by omega)
  ·exact kQ (by omega)
  ·exact kQ (by omega)
  ·exact kQ (by omega)
  ·rfl
  ·exact ot
  ·exact kQ (by omega)
 ·show sG (nR (.tup (q.rows.map gE))) (.tup (q.eR.map cI)) = true
  rw [ew]
  simp only [sG, aj, Bool.not_eq_true', decide_eq_false_iff_not, bj, ao, List.map_map]
  refine ⟨by omega, fun x hx => ?_, o.rise⟩
  obtain ⟨t, ht, rfl⟩ := bx.mp hx
  exact V4 (o.eR t ht)
theorem CH {dd : Nat} {kvs : List (Key × D)} {z : Str} (h : w[dd]? = some (.dK kvs)) (hl : jH kvs (.inr z) = some d) : T (aV (.ref dd) (.str z) w) P = P d w := by
 rw [J0 h, hl]
 simp
theorem aGN (x : D) : begin jR [x] = [some x, none] := rfl
theorem N7 {a dd : Nat} (o : m4 q H) (ha : jE k w a (.ref dd) q.rows q.eR) (hd : w[dd]? = some (.dK (AF q))) (hP : ∀ w' p, dJ w w' → w'[p]? = some (.ins k.aH (fA (fdOf q))) → P (.ref p) w') : T (K03.j6 k [.ref a] w) P := by
 unfold K03.j6 K03.nE
 rw [dI, aGN, bA]
 have g := aC9 o
 have i1 : ∀ P : D → W → Prop, T (aV (.ref dd) (.str ("every" : Str)) w) P = P (.int q.e) w := fun P => CH hd rfl
 have i2 : ∀ P : D → W → Prop, T (aV (.ref dd) (.str ("lost" : Str)) w) P = P (.int q.l) w := fun P => CH hd rfl
 have i3 : ∀ P : D → W → Prop, T (aV (.ref dd) (.str ("slow" : Str)) w) P = P (.int q.s) w := fun P => CH hd rfl
 have i4 : ∀ P : D → W → Prop, T (aV (.ref dd) (.str ("bears" : Str)) w) P = P (.int q.b) w := fun P => CH hd rfl
 have i5 : ∀ P : D → W → Prop, T (aV (.ref dd) (.str ("gap" : Str)) w) P = P (.int q.g) w := fun P => CH hd rfl
 have i6 : ∀ P : D → W → Prop, T (aV (.ref dd) (.str ("hold" : Str)) w) P = P (.int q.h) w := fun P => CH hd rfl
 have i7 : ∀ P : D → W → Prop, T (aV (.ref dd) (.str ("takes" : Str)) w) P = P (.bl q.t) w := fun P => CH hd rfl
 have i8 : ∀ P : D → W → Prop, T (aV (.ref dd) (.str ("hosts" : Str)) w) P = P (.int q.c) w := fun P => CH hd rfl
 simp only [ha.head, ha.rows, ha.IT, i1, i2, i3, i4, i5, i6, i7, i8, xH, zY, ae, ab, reduceCtorEq]
 refine aBX k (f := fdOf q) g.ok g.first fun w' x' h => ?_
 try simp only [zY, ae, ab, reduceCtorEq]
 exact hP w' _ x' h
theorem VU : ∀ {ts : List (Int × Int × Int)} {j : Nat} {x y : Int × Int × Int}, mR (ts.map fun t => (t.1, t.2.1)) = true → ts[j]? = some x → ts[j + 1]? = some y → HT.lexLt [x.1, x.2.1] [y.1, y.2.1] = true
 | [], j, x, y, _, h, _ => by simp at h
 | [a], j, x, y, _, _, h => by simp at h
 | a :: b :: ts, 0, x, y, hr, h1, h2 => by
  simp only [List.map_cons, mR, aj] at hr
  simp only [List.getElem?_cons_zero, List.getElem?_cons_succ, ah] at h1 h2
  subst h1
  subst h2
  exact hr.1
 | a :: b :: ts, j + 1, x, y, hr, h1, h2 => by
  simp only [List.map_cons, mR, aj] at hr
  exact VU (ts := b :: ts) (j := j) hr.2 h1 h2
def aAt (w0 w : W) (a : Nat) (q : Pn) : Nat → Prop
 | 0 => jE k w a .non [] []
 | j + 1 => ∃ dd, jE k w a (.ref dd) (q.rows.take j) (q.eR.take (j - q.rows.length)) ∧ w0.length ≤ dd ∧ dd ≠ a ∧ w[dd]? = some (.dK (AF q))
theorem aDZ {w0 : W} {a i : Nat} {ws : List Str} (o : m4 q H) (hs : aAt k w0 w a q i) (x0 : dJ w0 w) (la : w0.length ≤ a) (hw : (eZ q)[i]? = some ws) (hP : ∀ w', dJ w0 w' → aAt k w0 w' a q (i + 1) → P (.bl true) w') : T (K03.cQ k [.ref a, .str (cY ws)] w) P := by
 cases i with
 | zero =>
  simp only [eZ, List.getElem?_cons_zero, ah] at hw
  subst hw
  refine W7 k o hs x0 la fun w' dd x' h1 h2 h3 h4 => ?_
  refine hP w' x' ⟨dd, ?_, h2, h3, h4⟩
  rw [Nat.zero_sub, List.take_zero, List.take_zero]
  exact h1
 | succ j =>
  obtain ⟨dd, ha, h2, h3, h4⟩ := hs
  simp only [eZ, List.getElem?_cons_succ] at hw
  by_cases hj : j < q.rows.length
  ·rw [aq (by rw [ao]; exact hj), bz] at hw
   obtain ⟨r, hr, rfl⟩ := ai.mp hw
   have z : j - q.rows.length = 0 := by omega
   have z1 : j + 1 - q.rows.length = 0 := by omega
   rw [z, List.take_zero] at ha
   have n4 := o.n4
   refine S5 k o ha x0 la (bw hr) (by rw [List.length_take]; omega) (fun y hy => (o.rows y (List.mem_of_mem_take hy)).1) fun w' x' k' h' => ?_
   refine hP w' x' ⟨dd, ?_, h2, h3, by rw [k' dd h3]; exact h4⟩
   rw [z1, List.take_zero, List.take_add_one, hr]
   exact h'
  ·have hj : q.rows.length ≤ j := by omega
   rw [bf (by rw [ao]; exact hj), ao, bz] at hw
   obtain ⟨t, ht, rfl⟩ := ai.mp hw
   have er : q.rows.take j = q.rows := List.take_of_length_le hj
   have er1 : q.rows.take (j + 1) = q.rows := List.take_of_length_le (by omega)
   rw [er] at ha
   have lt := (ag.mp ht).1
   have t6 := o.JN
   have n1 := o.n1
   refine ZC k o ha x0 la (bw ht) (fun z => by rw [z] at n1; simp at n1) (fun y hy => (o.rows y hy).1) (by rw [List.length_take]; omega) ?_ fun w' x' k' h' => ?_
   ·cases hm : j - q.rows.length with
    | zero => exact .inl rfl
    | succ m =>
     rw [hm] at ht lt
     obtain ⟨l, hl⟩ : ∃ l, q.eR[m]? = some l := ⟨q.eR[m], br (by omega)⟩
     refine .inr ⟨q.eR.take m, l, ?_, VU o.rise hl ht⟩
     rw [List.take_add_one, hl]
     rfl
   ·refine hP w' x' ⟨dd, ?_, h2, h3, by rw [k' dd h3]; exact h4⟩
    rw [er1, show j + 1 - q.rows.length = j - q.rows.length + 1 by omega, List.take_add_one, ht]
    exact h'
theorem aHe (x : D) : begin jT [x] = [some x] := rfl
theorem aB4 (hp : w[p]? = some (.ins k.aM [])) (hP : jE k (w.set p (.ins k.aM [("head", .non), ("rows", .tup []), ("cords", .tup [])])) p .non [] [] → P .non (w.set p (.ins k.aM [("head", .non), ("rows", .tup []), ("cords", .tup [])]))) : T (K03.kB k [.ref p] w) P := by
 have lp := (ag.mp hp).1
 unfold K03.kB K03.n9
 rw [dI, aHe, bA]
 simp only [zY, ae, ab, reduceCtorEq]
 rw [qY hp]
 refine ⟨aa rfl, ?_⟩
 rw [bA]
 simp only [zY, ae, ab, reduceCtorEq]
 rw [qY (au lp), List.set_set]
 refine ⟨aa rfl, ?_⟩
 try simp only [zY, ae, ab, reduceCtorEq]
 rw [qY (au lp), List.set_set]
 refine ⟨aa rfl, ?_⟩
 try simp only [zY, ae, ab, reduceCtorEq]
 exact hP (au lp)
theorem aHa (x : D) : begin pF [x] = [some x, none, none, none, none] := rfl
theorem aBl (o : m4 q H) (hP : ∀ w' p, dJ w w' → w'[p]? = some (.ins k.aH (fA (fdOf q))) → P (.ref p) w') : T (K03.lR k [.str (g9 q)] w) P := by
 have ok := sW o
 unfold K03.lR K03.sQ
 rw [dI, aHa, bA]
 simp only [aCo, Bool.not_true, zY, ae, ab, reduceCtorEq]
 rw [bA]
 simp only [aCL, KS, zY, ae, ab, reduceCtorEq]
 refine aB4 k (p := w.length) (by rw [bf (az _)]; simp) fun ha => ⟨rfl, ?_⟩
 obtain ⟨a, ea⟩ : ∃ a, a = w.length := ⟨_, rfl⟩
 obtain ⟨w1, e1⟩ : ∃ w1, w1 = (w ++ [MO.ins k.aM []]).set w.length (.ins k.aM [("head", .non), ("rows", .tup []), ("cords", .tup [])]) := ⟨_, rfl⟩
 have x1 : dJ w w1 := by rw [e1]; exact (dJ.refl.app _).set (az _) _
 have la : w.length ≤ a := by omega
 rw [← e1, ← ea] at ha ⊢
 clear e1 ea
 rw [bA]
 have ty : ∀ (z : Str) (w : W), TY (.str z) w = some "str" := fun _ _ => rfl
 have ll := ok.len
 simp only [ty, VL (b := ("\n" : Str)) (by decide +kernel) (show (g9 q).length ≤ 10000 by show (EA (eZ q)).length ≤ 10000; omega), zY, ae, ab, reduceCtorEq]
 have es : (Txt.split (g9 q) ("\n" : Str)).map D.str = ((eZ q).map cY).map D.str := by
  show (Txt.split (EA (eZ q)) ("\n" : Str)).map D.str = _
  rw [ok.split]
 rw [es]
 rw [bA]
 simp only [aEA, zY, ae, ab, reduceCtorEq]
 refine Lb.HD (it := ⟨nD (((eZ q).map cY).map D.str), always⟩) (fun i σ w' => dJ w w' ∧ aAt k w w' a q i ∧ ∃ s3 s4, σ = [some (.str (g9 q)), some (.ref a), some (.lst (((eZ q).map cY).map D.str)), s3, s4]) (fun _ _ _ _ => trivial) ⟨x1, ha, _, _, rfl⟩ (fun i x σ w2 hx hI => ?_) (fun σ w2 hI => ?_)
 ·obtain ⟨x2, hs, s3, s4, rfl⟩ := hI
  obtain ⟨d, hd, rfl⟩ := GO hx
  rw [bz, bz, Option.map_map] at hd
  obtain ⟨ws, hw, rfl⟩ := ai.mp hd
  simp only [Function.comp_apply, zY, ae, ab, reduceCtorEq]
  have ei : oH k.aM ("goes_on" : Str) (.ref a) w2 = some a := by
   cases i with
   | zero => exact BM k hs rfl
   | succ j =>
    obtain ⟨dd, h1, -⟩ := hs
    exact BM k h1 rfl
  simp only [rF, ei, zY, ae, ab, reduceCtorEq]
  refine aDZ k o hs x2 la hw fun w3 x3 hs3 => ?_
  simp only [Bool.not_true, zY, ae, ab, reduceCtorEq]
  exact ⟨x3, hs3, _, _, rfl⟩
 ·obtain ⟨x2, hs, s3, s4, rfl⟩ := hI
  have el : (nD (((eZ q).map cY).map D.str)).length = q.rows.length + q.eR.length + 1 := by
   rw [xY, ao, ao]
   simp [eZ]
  simp only [el] at hs
  obtain ⟨dd, h1, h2, h3, h4⟩ := hs
  rw [List.take_of_length_le (by omega), List.take_of_length_le (by omega)] at h1
  have n1 := o.n1
  have en : (q.rows.map gE).isEmpty = false := by
   cases hq : q.rows with
   | nil => rw [hq] at n1; simp at n1
   | cons => rfl
  try simp only [dS]
  rw [bA]
  have ei : oH k.aM ("made" : Str) (.ref a) w2 = some a := BM k h1 rfl
  simp only [h1.rows, eq_nil, en, rF, ei, zY, ae, ab, reduceCtorEq]
  refine N7 k o h1 h4 fun w3 p x3 hp => ?_
  try simp only [zY, ae, ab, reduceCtorEq]
  exact hP w3 p (x2.trans x3) hp
theorem MN {nm m : MF} {C : Addr} {fs : List (Str × D)} (hp : w[p]? = some (.ins C fs)) (h : T (m [.ref p] w) fun d w1 => ∃ z, d = .str z ∧ P (.str z) w1) : T (IK nm C m [.ref p] w) P := by
 unfold IK
 simp only [hp, ae]
 rw [bC]
 refine h.mono fun d w1 _ ⟨z, e, q⟩ => ?_
 subst e
 show T (Res.ok (D.str z) w1) P
 rw [bY]
 exact q
theorem str_len (a b : Str) : (a ++ b).length = a.length + b.length := by rw [TL.len_tl, TL.tl_append, cc, ← TL.len_tl, ← TL.len_tl]
theorem VI (a : Str) : Str.empty ++ a = a := TL.ext_tl (by rw [TL.tl_append]; rfl)
theorem VT {a b : Str} (h : a.length + b.length ≤ 100000) : T (bH (.str a) (.str b) w) P = P (.str (a ++ b)) w := by
 have : bH (.str a) (.str b) w = .ok (.str (a ++ b)) w := by
  simp only [bH, if_pos (show a.length + b.length ≤ sizeLine by rw [sizeLine_eq]; omega)]
 rw [this, bY]
def BA (q : Pn) : Str := ("Plan(" : Str) ++ reprText (g9 q) ++ (")" : Str)
theorem BJ : ("Plan(" : Str).length = 5 := by decide +kernel
theorem Y1 : (")" : Str).length = 1 := by decide +kernel
theorem qP (o : m4 q H) : ∀ c ∈ (g9 q).cps.toList, c < 127 := (sW o).low
theorem text_len (o : m4 q H) : (g9 q).length ≤ 1000 := (sW o).len
theorem aDg (o : m4 q H) : PyData.strOk (g9 q) = true := ZD (qP o)
theorem aAZ (o : m4 q H) : PyData.strOk (BA q) = true := by
 unfold BA
 rw [gF, gF, TU (qP o)]
 decide +kernel
theorem aF5 (x : D) : begin pD [x] = [some x, none] := rfl
theorem PN (hp : w[p]? = some (.ins k.aH (fA f))) (o : m4 q H) (t : Tells f q) (hP : ∀ w', dJ w w' → P (.str (BA q)) w') : T (K03.pN k [.ref p] w) P := by
 unfold K03.pN K03.uO
 rw [dI, aF5, bA]
 simp only [zY, ae, ab, reduceCtorEq]
 refine MN hp (aAb k hp o t fun w' x' => ⟨_, rfl, ?_⟩)
 have rl := oX (qP o) (text_len o)
 have e : eFs (wW (eC (.str ("Plan(" : Str))) (wW (JV (aB 1)) (wW (eC (.str (")" : Str))) YG))) [some (.ref p), some (.str (g9 q))] w' = .ok (.str (BA q)) w' := by
  have e1 : (eC (.str ("Plan(" : Str)) : ME) [some (.ref p), some (.str (g9 q))] w' = .ok (.str ("Plan(" : Str)) w' := rfl
  have e2 : JV (aB 1) [some (.ref p), some (.str (g9 q))] w' = .ok (.str (reprText (g9 q))) w' := aDk (qP o) (text_len o) rfl
  have e3 : (eC (.str (")" : Str)) : ME) [some (.ref p), some (.str (g9 q))] w' = .ok (.str (")" : Str)) w' := rfl
  have b1 : (Str.empty ++ ("Plan(" : Str)).length ≤ sizeLine := by rw [VI, BJ, sizeLine_eq]; omega
  have b2 : (("Plan(" : Str) ++ reprText (g9 q)).length ≤ sizeLine := by rw [str_len, BJ, sizeLine_eq]; omega
  have b3 : (("Plan(" : Str) ++ reprText (g9 q) ++ (")" : Str)).length ≤ sizeLine := by rw [str_len, str_len, BJ, Y1, sizeLine_eq]; omega
  unfold eFs wW
  unfold YG
  simp only [e1, e2, e3, Res.KJ, VI, if_pos b2, if_pos b3]
  rw [if_pos (by rw [BJ, sizeLine_eq]; omega)]
  rfl
 try simp only [zY, ae, ab, reduceCtorEq]
 rw [e, bY]
 exact hP _ x'
def oM (q : Pn) : D := .tup (FY (fdOf q))
theorem UX (t : Tells f q) : FY f = FY (fdOf q) := by
 unfold FY
 rw [t.r, t.ev, t.lo, t.sl, t.be, t.ga, t.ho, t.ta, t.ti, t.hs]
 rfl
theorem aG7 (x : D) : begin fM [x] = [some x, none] := rfl
theorem J6 (hp : w[p]? = some (.ins k.aH (fA f))) (t : Tells f q) (hP : P (oM q) w) : T (K03.c8 k [.ref p] w) P := by
 unfold K03.c8 K03.gH
 rw [dI, aG7, bA]
 have o := fun (z : Str) (d : D) (hz : (fA f).lookup z = some d) (P : D → W → Prop) => aAk k (P := P) hp hz
 simp only [o "ranks" f.r rfl, o "every" f.ev rfl, o "lost" f.lo rfl, o "slow" f.sl rfl, o "bears" (fE f) rfl, o "gap" f.ga rfl, o "hold" f.ho rfl, o "takes" f.ta rfl, o "ties" f.ti rfl, o "hosts" f.hs rfl, pU, zY, ae, ab, reduceCtorEq]
 have e : D.tup ([f.r] ++ [f.ev, f.lo, f.sl, fE f, f.ga, f.ho] ++ [f.ta, f.ti, f.hs]) = oM q := by
  unfold oM
  rw [← UX t]
  rfl
 rw [← e] at hP
 first | exact hP | exact ⟨rW _ (by simp), hP⟩ | exact ⟨rW _ (by simp), rW _ (by simp), hP⟩
theorem r8 (o : m4 q H) : ∃ u, (∀ w, (oM q).py w = some u) ∧ YH u := by
 have h6 := o.H6
 have n4 := o.n4
 have t6 := o.JN
 obtain ⟨v1, v2⟩ := o.e
 obtain ⟨v3, v4⟩ := o.l
 obtain ⟨v5, v6⟩ := o.s
 obtain ⟨v13, v14⟩ := o.b
 obtain ⟨v7, v8⟩ := o.g
 obtain ⟨v9, v10⟩ := o.h
 obtain ⟨v11, v12⟩ := o.c
 have fr : eA 100 6 (.tup (q.rows.map gE)) := (eA.ER (n := 6) (d := 2) (c := 4) (fun y hy => by
  obtain ⟨r, hr, rfl⟩ := bx.mp hy
  obtain ⟨e1, e2⟩ := o.rows r hr
  exact eA.row (fun z hz => iE (by have := e2 z hz; omega) (by have := e2 z hz; omega)) (by omega)) (by rw [ao]; omega)).mono (by omega) (by omega)
 have ft : eA 100 6 (.tup (q.eR.map cI)) := (eA.ER (n := 3) (d := 2) (c := 6) (fun y hy => by
  obtain ⟨t, ht, rfl⟩ := bx.mp hy
  obtain ⟨⟨a1, a2⟩, ⟨a3, a4⟩, a5, a6⟩ := o.eR t ht
  exact (eA.tup (cM.cons (eA.int (iE (v := t.1) (by omega) (by omega))) (cM.cons (eA.int (iE (v := t.2.1) (by omega) (by omega))) (cM.cons (eA.int (iE (v := t.2.2) (by omega) (by omega))) (cM.nil.mono (az _) (by omega)))))).mono (by omega) (az _)) (by rw [ao]; omega)).mono (by omega) (by omega)
 exact (eA.tup (cM.cons fr (cM.cons (zG (v := q.e) (by omega) (by omega)) (cM.cons (zG (v := q.l) (by omega) (by omega)) (cM.cons (zG (v := q.s) (by omega) (by omega)) (cM.cons (zG (v := q.b) (by omega) (by omega)) (cM.cons (zG (v := q.g) (by omega) (by omega)) (cM.cons (zG (v := q.h) (by omega) (by omega)) (cM.cons (eA.bl.mono (az _) (by omega)) (cM.cons ft (cM.cons (zG (v := q.c) (by omega) (by omega)) aF8))))))))))).fit (by omega) (by omega)
theorem aGR (x y : D) : begin kO [x, y] = [some x, some y] := rfl
theorem I0 {p2 : Nat} {g : Fd} (hp : w[p]? = some (.ins k.aH (fA f))) (hq : w[p2]? = some (.ins k.aH (fA g))) (o : m4 q H) (tf : Tells f q) (tg : Tells g q) (hP : P (.bl true) w) : T (eqI k.aH (K03.kY k) (.ref p) (.ref p2) w) P := by
 obtain ⟨u, py, hf⟩ := r8 o
 rw [aDw hp hq]
 unfold K03.kY K03.m7
 rw [dI, aGR]
 have i1 : oH k.aH ("fields" : Str) (.ref p) w = some p := by
  unfold oH
  simp only [hp, show (fA f).lookup ("fields" : Str) = none from rfl, and_self, ae]
 have i2 : oH k.aH ("fields" : Str) (.ref p2) w = some p2 := by
  unfold oH
  simp only [hq, show (fA g).lookup ("fields" : Str) = none from rfl, and_self, ae]
 simp only [aDB hq, rF, i1, i2, zY, ae, ab, reduceCtorEq]
 refine J6 k hp tf ?_
 simp only [i2]
 refine J6 k hq tg ?_
 simp only [D2, RQ (py w) hf, ah, bq, zY, ae, ab, reduceCtorEq]
 exact hP
theorem aGU (x : D) : begin gR [x] = [some x] := rfl
theorem cD : Pc.cutD (eO f) (some 5) none = [f.ga, f.ho, f.ta, f.ti, f.hs] := rfl
theorem aFN (t : Tells f q) (hP : P (oM q) w) : T (K03.gX k [.lst (eO f)] w) P := by
 unfold K03.gX K03.jP
 rw [dI, aGU]
 have e : D.tup ([f.r, f.ev, f.lo, f.sl] ++ [fE f] ++ [f.ga, f.ho, f.ta, f.ti, f.hs]) = oM q := by
  unfold oM
  rw [← UX t]
  rfl
 have fin : ∀ bd : D, bd = fE f → ([f.r, f.ev, f.lo, f.sl].length + 1 ≤ sizeLine ∧ ([f.r, f.ev, f.lo, f.sl] ++ [bd]).length + [f.ga, f.ho, f.ta, f.ti, f.hs].length ≤ sizeLine ∧ P (.tup ([f.r, f.ev, f.lo, f.sl] ++ [bd] ++ [f.ga, f.ho, f.ta, f.ti, f.hs])) w) := fun bd hb => by
  rw [hb, e]
  exact ⟨rW _ (aa rfl), rW _ (aa rfl), hP⟩
 cases hn : f.be.isNon with
 | true =>
  simp only [slL, bY, gD, qI, Z7, Y5, hn, ah, bq, cA, cD, UT, zY, ae, ab, reduceCtorEq]
  first | exact fin _ (by unfold fE; rw [hn]; rfl) | exact (fin _ (by unfold fE; rw [hn]; rfl)).2 | exact (fin _ (by unfold fE; rw [hn]; rfl)).2.2
 | false =>
  simp only [slL, bY, gD, qI, Z7, Y5, hn, ah, bq, cA, cD, UT, zY, ae, ab, reduceCtorEq]
  first | exact fin _ (by unfold fE; rw [hn]; rfl) | exact (fin _ (by unfold fE; rw [hn]; rfl)).2 | exact (fin _ (by unfold fE; rw [hn]; rfl)).2.2
theorem DX {x : Str} (hx : PyData.strOk x = true) : T (qX (.str x) (.str x) w) P = P (.bl false) w := by
 rw [aCH, E7 hx hx]
 simp
theorem aCx (x : D) : begin iC [x] = [some x, none, none, none] := rfl
theorem xE {o : MO} (x : dJ w w') (h : w[p]? = some o) : w'[p]? = some o := by rw [x.at_ p (ag.mp h).1]; exact h
theorem aBJ (g : Gd f) (hP : ∀ w', dJ w w' → P (.bl true) w') : T (K03.j8 k [.lst (eO f)] w) P := by
 obtain ⟨q, H, o, t⟩ := g.tells
 have tq := aAA q
 have ok := aDg o
 have sk := aAZ o
 have rl := oX (qP o) (text_len o)
 unfold K03.j8 K03.kF
 rw [dI, aCx, bA, aGe]
 simp only [zY, ae, ab, reduceCtorEq]
 refine aE2 k g.ok g.first fun w1 x1 hp => ?_
 obtain ⟨p, ep⟩ : ∃ p, p = w.length := ⟨_, rfl⟩
 rw [← ep] at hp ⊢
 try simp only [zY, ae, ab, reduceCtorEq]
 refine aFe k o t ?_
 try simp only [zY, ae, ab, reduceCtorEq]
 rw [bA]
 simp only [zY, ae, ab, reduceCtorEq]
 refine MN hp (aAb k hp o t fun w2 x2 => ⟨_, rfl, ?_⟩)
 have hp2 := xE x2 hp
 simp only [DX ok, zY, ae, ab, reduceCtorEq]
 refine MN hp2 (PN k hp2 o t fun w3 x3 => ⟨_, rfl, ?_⟩)
 have hp3 := xE x3 hp2
 simp only [aC7 (qP o) (text_len o), VT (show ("Plan(" : Str).length + (reprText (g9 q)).length ≤ 100000 by rw [BJ]; omega), VT (show (("Plan(" : Str) ++ reprText (g9 q)).length + (")" : Str).length ≤ 100000 by rw [str_len, BJ, Y1]; omega), zY, ae, ab, reduceCtorEq]
 show T (qX (.str (BA q)) (.str (BA q)) w3) _
 simp only [DX sk, zY, ae, ab, reduceCtorEq]
 rw [bA]
 simp only [zY, ae, ab, reduceCtorEq]
 refine aBl k o fun w4 p1 x4 h1 => ?_
 simp only [iR, pick, zY, ae, ab, reduceCtorEq]
 refine aBl k o fun w5 p2 x5 h2 => ?_
 have h1 := xE x5 h1
 have hp5 := xE x5 (xE x4 hp3)
 refine Lb.HD (it := ⟨[D.ref p1, .ref p2], always⟩) (fun i σ w' => dJ w5 w' ∧ ∃ s3, σ = [some (.lst (eO f)), some (.ref p), some (.str (g9 q)), s3]) (fun _ _ _ _ => trivial) ⟨dJ.refl, _, rfl⟩ (fun i x σ w6 hx hI => ?_) (fun σ w6 hI => ?_)
 ·obtain ⟨x6, s3, rfl⟩ := hI
  obtain ⟨pi, rfl, hpi⟩ : ∃ pi, x = .ref pi ∧ w5[pi]? = some (.ins k.aH (fA (fdOf q))) := by
   have m := bw hx
   simp only [bg, bu, or_false] at m
   rcases m with rfl | rfl
   ·exact ⟨_, rfl, h1⟩
   ·exact ⟨_, rfl, h2⟩
  have hpi := xE x6 hpi
  have hp6 := xE x6 hp5
  simp only [zY, ae, ab, reduceCtorEq]
  refine zW k hpi ?_
  obtain ⟨u, py, hf⟩ := r8 o
  have ef : D.tup (FY (fdOf q)) = oM q := rfl
  rw [ef]
  simp only [ZH (py w6) hf, zY, ae, ab, reduceCtorEq]
  refine aFN k t ?_
  have su : PyData.strOk u.shown = true := B1 u hf.plain
  simp only [ZH (py w6) hf, DX su, zY, ae, ab, reduceCtorEq]
  refine I0 k hpi hp6 o tq t ?_
  simp only [Bool.not_true, zY, ae, ab, reduceCtorEq]
  refine MN hpi (aAb k hpi o tq fun w7 x7 => ⟨_, rfl, ?_⟩)
  simp only [DX ok, zY, ae, ab, reduceCtorEq]
  exact ⟨x6.trans x7, _, rfl⟩
 ·obtain ⟨x6, s3, rfl⟩ := hI
  try simp only [dS, zY, ae, ab, reduceCtorEq]
  exact hP _ ((((x1.trans x2).trans x3).trans (x4.trans x5)).trans x6)
end
theorem bel (x0 : D) : begin U9 [x0] = [some x0, none, none, none, none] := rfl
theorem good (ns : List Int) (hl : ns.length ≤ 63) (hP : ∀ w', P (.bl true) w') : T (K03.NO k [.qG (ns.map D.int)] []) P := by
 unfold K03.NO K03.aA5
 rw [dI, bel, bA]
 simp only [aE3, zY, ae, ab, reduceCtorEq]
 refine (aCe hl).mono fun r w0 _ ⟨er, l0, d0⟩ => ?_
 subst er
 try simp only [zY, ae, ab, reduceCtorEq]
 rw [bA]
 simp only [LU (n := 4) (by omega) (by omega), zY, ae, ab, reduceCtorEq]
 have d00 : eB w0 1 0 (10000 - 1000 * 0) := d0.less (by decide)
 refine ⟨rW _ (by rw [m5]; exact aa rfl), ?_⟩
 refine DM (it := nZ 0 (4 : Int).toNat) (fun i acc w' => eB w' 1 0 (10000 - 1000 * i) ∧ acc.length = i ∧ ∀ d ∈ acc, ∃ f, Gd f ∧ d = .lst (eO f)) (fun _ _ _ _ => trivial) ⟨d00, rfl, fun d hd => nomatch hd⟩ (fun z dz acc w1 hx hI => ?_) (fun acc w1 hI => ?_)
 ·obtain ⟨d1, la, hf⟩ := hI
  obtain ⟨hz, rfl⟩ := z3 hx
  have hz4 : z < 4 := hz
  simp only [c0, MC, zY, ae, ab, reduceCtorEq]
  refine fV (b := 9999 - 1000 * z) (d1.less (by omega)) (by omega) (by omega) fun a w2 a0 a1 d2 k2 => ?_
  simp only [D2, y9, aCl, ah, bq, zY, ae, ab, reduceCtorEq]
  refine aDY k (b := 9600 - 1000 * z) (d2.less (by omega)) (by cases (a == 5) <;> simp) fun f w3 gf d3 => ?_
  try simp only [zY, ae, ab, reduceCtorEq]
  refine ⟨d3.less (by omega), by rw [cc, la]; rfl, fun d hd => ?_⟩
  rcases cf.mp hd with h | h
  ·exact hf d h
  ·exact ⟨f, gf, cg.mp h⟩
 ·obtain ⟨d1, la, hf⟩ := hI
  rw [m5] at la
  have la : acc.length = 4 := la
  have lc := Lw.aBF (xs := acc) (lo := none) (hi := some 2)
  simp only [slL, bY, gD, RT, zY, ae, ab, reduceCtorEq]
  refine ⟨rW _ (by omega), rW _ (by rw [cc]; omega), ?_⟩
  refine DM (it := ⟨acc ++ Pc.cutD acc none (some 2), always⟩) (fun i out w' => out = []) (fun _ _ _ _ => trivial) rfl (fun z dz out w2 hz hI => ?_) (fun out w2 hI => ?_)
  ·subst hI
   have hm := bw hz
   obtain ⟨f, gf, rfl⟩ := hf dz (by
    rcases cf.mp hm with h | h
    ·exact h
    ·exact Lw.aCT h)
   simp only [c0, zY, ae, ab, reduceCtorEq]
   refine aBJ k gf fun w3 x3 => ?_
   simp only [Bool.not_true, zY, ae, ab, reduceCtorEq]
  ·subst hI
   have e : yR (.lst []) (.lst []) w2 = some true := aBM (n := 2) rfl (by omega)
   simp only [D2, e, ah, bq, zY, ae, ab, reduceCtorEq]
   exact hP _
end
theorem ZM (k : K03.bN) (ns : List Int) (h : ns.length ≤ 63) : ∃ w', K03.NO k [.qG (ns.map Pc.D.int)] [] = .ok (.bl true) w' := by
 obtain ⟨a, w, e, p⟩ := (good k (P := fun d _ => d = .bl true) ns h fun _ => rfl).ex
 exact ⟨w, by rw [e, p]⟩
end K03
namespace K03H
open PySem PySem.Spec PyProof.Rows L2 Pc K03
open PySem PySem.W PySem.Calls PyProof.Rows HandSHeadRun in
open PySem PySem.W PySem.Calls PyProof.Rows in
open PySem PySem.W PySem.Calls PyProof.Rows in
open PySem PySem.W PySem.Calls PyProof.Rows in
open PySem PySem.W PySem.Calls PyProof.Rows in
abbrev St (w : World) (K : PySem.W.Frag) (mg : Str → Option Value) (base : Heap) : aQ := ⟨PySem.Challenge.pw_onemaster_k03_plans_written_and_read, w, K, mg, base, 0, [], defScope (top 43), fun _ => true⟩
theorem facts {w : World} {K : PySem.W.Frag} {h : Heap} {mg : Str → Option Value} (X : K.In h) (G : h.Ns mainGlobals mg) (c : He.SaysX fa fn ts [] ex w h K) :
  ∃ (d : FuncData) (kk : bN), (FunD K ("law" : Str) ("law" : Str) (defArgs (top 43)) (defBody (top 43)) (defScope (top 43)) [] [] (He.ga K "law") d) ∧ ∀ base, ∃ x : Fx (St w K mg base), x.k = kk ∧ x.J8 = He.ga K "law" ∧ x.VN = d := by
 obtain ⟨d0, F0⟩ := c.t.d.def_ 0 (d := tM) rfl
 obtain ⟨d1, F1⟩ := c.t.d.def_ 1 (d := uC) rfl
 obtain ⟨d2, F2⟩ := c.t.d.def_ 2 (d := pS) rfl
 obtain ⟨d3, F3⟩ := c.t.d.def_ 3 (d := AR) rfl
 obtain ⟨d4, F4⟩ := c.t.d.def_ 4 (d := xZ) rfl
 obtain ⟨d5, F5⟩ := c.t.d.def_ 5 (d := xM) rfl
 obtain ⟨d6, F6⟩ := c.t.d.def_ 6 (d := sZ) rfl
 obtain ⟨d7, F7⟩ := c.t.d.def_ 7 (d := jO) rfl
 obtain ⟨d8, F8⟩ := c.t.d.def_ 8 (d := pY) rfl
 obtain ⟨d9, F9⟩ := c.t.d.def_ 9 (d := xQ) rfl
 obtain ⟨d10, F10⟩ := c.t.d.def_ 10 (d := tY) rfl
 obtain ⟨d11, F11⟩ := c.t.d.def_ 11 (d := tG) rfl
 obtain ⟨d12, F12⟩ := c.t.d.def_ 12 (d := EJ) rfl
 obtain ⟨d13, F13⟩ := c.t.d.def_ 13 (d := yQ) rfl
 obtain ⟨d14, F14⟩ := c.t.d.def_ 14 (d := yA) rfl
 obtain ⟨d15, F15⟩ := c.t.d.def_ 15 (d := t4) rfl
 obtain ⟨d16, F16⟩ := c.t.d.def_ 16 (d := tU) rfl
 obtain ⟨d17, F17⟩ := c.t.d.def_ 17 (d := uG) rfl
 obtain ⟨d18, F18⟩ := c.t.d.def_ 18 (d := nP) rfl
 obtain ⟨d19, F19⟩ := c.t.d.def_ 19 (d := tH) rfl
 obtain ⟨d20, F20⟩ := c.t.d.def_ 20 (d := hY) rfl
 obtain ⟨d21, F21⟩ := c.t.d.def_ 21 (d := gN) rfl
 obtain ⟨d22, F22⟩ := c.t.d.def_ 22 (d := iF) rfl
 obtain ⟨d23, F23⟩ := c.t.d.def_ 23 (d := jF) rfl
 obtain ⟨d24, F24⟩ := c.t.d.def_ 24 (d := nN) rfl
 obtain ⟨d25, F25⟩ := c.t.d.def_ 25 (d := vE) rfl
 obtain ⟨d26, F26⟩ := c.t.d.def_ 26 (d := rR) rfl
 obtain ⟨d27, F27⟩ := c.t.d.def_ 27 (d := uS) rfl
 obtain ⟨d28, F28⟩ := c.t.d.def_ 28 (d := t9) rfl
 obtain ⟨d29, F29⟩ := c.t.d.def_ 29 (d := Z0) rfl
 refine ⟨d29, { aH := He.ga K "Plan", aM := He.ga K "Reading", dH := He.ga K "NUMBERS", oZ := He.ga K "TAKES", kS := kwAt ("Plan", some "__init__") "ties" K }, F29, fun base => ⟨{
  k := { aH := He.ga K "Plan", aM := He.ga K "Reading", dH := He.ga K "NUMBERS", oZ := He.ga K "TAKES", kS := kwAt ("Plan", some "__init__") "ties" K },
  D4 := He.free_ok X G (c.t.d.fact 0 (f := .free "all") rfl),
  S6 := He.free_ok X G (c.t.d.fact 1 (f := .free "bool") rfl),
  CZ := He.free_ok X G (c.t.d.fact 2 (f := .free "enumerate") rfl),
  RD := He.free_ok X G (c.t.d.fact 3 (f := .free "int") rfl),
  dW := He.free_ok X G (c.t.d.fact 4 (f := .free "isinstance") rfl),
  iU := He.free_ok X G (c.t.d.fact 5 (f := .free "len") rfl),
  SD := He.free_ok X G (c.t.d.fact 6 (f := .free "list") rfl),
  z9 := He.free_ok X G (c.t.d.fact 7 (f := .free "range") rfl),
  GG := He.free_ok X G (c.t.d.fact 8 (f := .free "repr") rfl),
  NZ := He.free_ok X G (c.t.d.fact 9 (f := .free "sorted") rfl),
  wZ := He.free_ok X G (c.t.d.fact 10 (f := .free "str") rfl),
  aDK := He.free_ok X G (c.t.d.fact 11 (f := .free "sum") rfl),
  iO := He.free_ok X G (c.t.d.fact 12 (f := .free "tuple") rfl),
  aAy := He.free_ok X G (c.t.d.fact 13 (f := .free "zip") rfl),
  IU := m3 X G (sH c.more 0 rfl),
  UN := m3 X G (sH c.more 1 rfl),
  JY := m3 X G (sH c.more 2 rfl),
  lA := m3 X G (sH c.more 3 rfl),
  pR := m3 X G (sH c.more 4 rfl),
  BR := m3 X G (sH c.more 5 rfl),
  FI := m3 X G (sH c.more 6 rfl),
  uY := m3 X G (sH c.more 7 rfl),
  U8 := m3 X G (sH c.more 8 rfl),
  vO := ⟨.ref _, .ref _, He.glo_ok X G (c.t.d.fact 33 (f := .glo "NUMBERS") rfl), rfl, fun _ _ => by simp [aF]⟩,
  vZ := OR (c.t.tab 0 rfl) (sH c.more 9 rfl),
  LX := ⟨.ref _, .ref _, He.glo_ok X G (c.t.d.fact 34 (f := .glo "TAKES") rfl), rfl, fun _ _ => by simp [aF]⟩,
  KA := OR (c.t.tab 1 rfl) (sH c.more 10 rfl),
  ML := He.glo_ok X G (c.t.d.fact 35 (f := .glo "Plan") rfl),
  aBd := ⟨.ref _, .ref _, He.glo_ok X G (c.t.d.fact 35 (f := .glo "Plan") rfl), rfl, fun _ _ => by simp [aF]⟩,
  b6 := He.cls_ok (c.t.d.fact 36 (f := .cls "Plan") rfl),
  YU := aDn (He.cls_ok (c.t.d.fact 36 (f := .cls "Plan") rfl)) (sH c.more 11 rfl),
  jS := He.noat_ok (c.t.d.fact 41 (f := .noat "Plan" "bears") rfl),
  kE := He.noat_ok (c.t.d.fact 42 (f := .noat "Plan" "every") rfl),
  oA := He.noat_ok (c.t.d.fact 43 (f := .noat "Plan" "gap") rfl),
  mI := He.noat_ok (c.t.d.fact 44 (f := .noat "Plan" "hold") rfl),
  j7 := He.noat_ok (c.t.d.fact 45 (f := .noat "Plan" "hosts") rfl),
  lN := He.noat_ok (c.t.d.fact 46 (f := .noat "Plan" "lost") rfl),
  jU := He.noat_ok (c.t.d.fact 47 (f := .noat "Plan" "ranks") rfl),
  lT := He.noat_ok (c.t.d.fact 48 (f := .noat "Plan" "slow") rfl),
  jN := He.noat_ok (c.t.d.fact 49 (f := .noat "Plan" "takes") rfl),
  lU := He.noat_ok (c.t.d.fact 50 (f := .noat "Plan" "ties") rfl),
  GF := He.glo_ok X G (c.t.d.fact 52 (f := .glo "Reading") rfl),
  WZ := ⟨.ref _, .ref _, He.glo_ok X G (c.t.d.fact 52 (f := .glo "Reading") rfl), rfl, fun _ _ => by simp [aF]⟩,
  bK := He.cls_ok (c.t.d.fact 53 (f := .cls "Reading") rfl),
  cV := He.noat_ok (c.t.d.fact 59 (f := .noat "Reading" "cords") rfl),
  fY := He.noat_ok (c.t.d.fact 60 (f := .noat "Reading" "head") rfl),
  cJ := He.noat_ok (c.t.d.fact 61 (f := .noat "Reading" "rows") rfl),
  lQ := He.fAd K tM.at_,
  pC := d0,
  uQ := F0,
  BU := He.glo_ok X G (c.t.d.fact 14 (f := .glo "_law_deck") rfl),
  yT := F0.kp,
  mP := He.fAd K uC.at_,
  oV := d1,
  uR := F1,
  cE := He.glo_ok X G (c.t.d.fact 15 (f := .glo "_law_draw") rfl),
  bZ := F1.kp,
  lH := He.fAd K pS.at_,
  lE := d2,
  pV := F2,
  qC := He.meth_ok (c.t.d.fact 40 (f := .meth "Plan" "fields") rfl),
  vS := He.fAd K AR.at_,
  vP := d3,
  AU := F3,
  IM := He.meth_ok (c.t.d.fact 37 (f := .meth "Plan" "__eq__") rfl),
  nL := He.fAd K xZ.at_,
  rV := d4,
  xJ := F4,
  rM := He.glo_ok X G (c.t.d.fact 16 (f := .glo "in_words") rfl),
  pK := F4.kp,
  rA := He.fAd K xM.at_,
  r4 := d5,
  xI := F5,
  rS := He.meth_ok (c.t.d.fact 39 (f := .meth "Plan" "__str__") rfl),
  oY := He.fAd K sZ.at_,
  oT := d6,
  tD := F6,
  CI := He.meth_ok (c.t.d.fact 38 (f := .meth "Plan" "__repr__") rfl),
  fF := He.fAd K jO.at_,
  gU := d7,
  kG := F7,
  pE := He.glo_ok X G (c.t.d.fact 17 (f := .glo "_law_due_fields") rfl),
  oF := F7.kp,
  iL := He.fAd K pY.at_,
  lG := d8,
  qE := F8,
  wQ := He.glo_ok X G (c.t.d.fact 18 (f := .glo "_law_fields") rfl),
  sU := F8.kp,
  nW := He.fAd K xQ.at_,
  rN := d9,
  yL := F9,
  G6 := He.glo_ok X G (c.t.d.fact 19 (f := .glo "is_whole") rfl),
  CY := F9.kp,
  mL := He.fAd K tY.at_,
  pG := d10,
  uX := F10,
  iX := He.glo_ok X G (c.t.d.fact 20 (f := .glo "is_within") rfl),
  iD := F10.kp,
  lM := He.fAd K tG.at_,
  oQ := d11,
  u6 := F11,
  CG := He.glo_ok X G (c.t.d.fact 21 (f := .glo "are_ranks") rfl),
  AK := F11.kp,
  qQ := He.fAd K EJ.at_,
  yZ := d12,
  FE := F12,
  FH := He.glo_ok X G (c.t.d.fact 22 (f := .glo "is_tie") rfl),
  BE := F12.kp,
  n5 := He.fAd K yQ.at_,
  sF := d13,
  yF := F13,
  FX := He.glo_ok X G (c.t.d.fact 23 (f := .glo "are_ties") rfl),
  CO := F13.kp,
  nX := He.fAd K yA.at_,
  rG := d14,
  yD := F14,
  EY := He.glo_ok X G (c.t.d.fact 24 (f := .glo "is_field") rfl),
  CV := F14.kp,
  oP := He.fAd K t4.at_,
  lW := d15,
  oI := F15,
  UP := He.mkr_ok (c.t.d.fact 51 (f := .mkr "Plan") rfl),
  lJ := He.fAd K tU.at_,
  pO := d16,
  tR := F16,
  B3 := He.glo_ok X G (c.t.d.fact 25 (f := .glo "_law_made") rfl),
  y8 := F16.kp,
  l5 := He.fAd K uG.at_,
  oJ := d17,
  tL := F17,
  B4 := He.glo_ok X G (c.t.d.fact 26 (f := .glo "_law_text") rfl),
  AG := F17.kp,
  kA := He.fAd K nP.at_,
  j5 := d18,
  m9 := F18,
  JQ := He.mkr_ok (c.t.d.fact 62 (f := .mkr "Reading") rfl),
  lK := He.fAd K tH.at_,
  oO := d19,
  u4 := F19,
  oN := He.glo_ok X G (c.t.d.fact 27 (f := .glo "number_in") rfl),
  mZ := F19.kp,
  fJ := He.fAd K hY.at_,
  fI := d20,
  g6 := F20,
  lY := He.meth_ok (c.t.d.fact 56 (f := .meth "Reading" "takes_head") rfl),
  eX := He.fAd K gN.at_,
  eV := d21,
  gO := F21,
  kK := He.meth_ok (c.t.d.fact 57 (f := .meth "Reading" "takes_ranks") rfl),
  fT := He.fAd K iF.at_,
  fQ := d22,
  iG := F22,
  mW := He.meth_ok (c.t.d.fact 58 (f := .meth "Reading" "takes_tie") rfl),
  gW := He.fAd K jF.at_,
  gS := d23,
  jW := F23,
  pJ := He.meth_ok (c.t.d.fact 54 (f := .meth "Reading" "goes_on") rfl),
  j0 := He.fAd K nN.at_,
  jV := d24,
  nU := F24,
  u7 := He.meth_ok (c.t.d.fact 55 (f := .meth "Reading" "made") rfl),
  mG := He.fAd K vE.at_,
  mO := d25,
  pB := F25,
  uU := He.glo_ok X G (c.t.d.fact 28 (f := .glo "read_plan") rfl),
  rQ := F25.kp,
  jL := He.fAd K rR.at_,
  mY := d26,
  rL := F26,
  zQ := He.glo_ok X G (c.t.d.fact 29 (f := .glo "_law_right") rfl),
  wO := F26.kp,
  lZ := He.fAd K uS.at_,
  o6 := d27,
  vC := F27,
  oK := He.glo_ok X G (c.t.d.fact 30 (f := .glo "_law_pick") rfl),
  mX := F27.kp,
  mH := He.fAd K t9.at_,
  o4 := d28,
  vH := F28,
  CJ := He.glo_ok X G (c.t.d.fact 31 (f := .glo "_law_told") rfl),
  zM := F28.kp,
  J8 := He.fAd K Z0.at_,
  VN := d29,
  aDM := F29,
  aDy := He.glo_ok X G (c.t.d.fact 32 (f := .glo "law") rfl),
  aET := F29.kp }, rfl, rfl, rfl⟩⟩
end K03H
set_option maxHeartbeats 0
open PySem PySem.W PySem.Calls PyProof.Rows
theorem PySem.Challenge.cw_onemaster_k03_plans_written_and_read_holds : PySem.Challenge.rw_onemaster_k03_plans_written_and_read.Holds := by
 refine K03H.early.2 ?_
 ·refine Pc.YO (l := PySem.Challenge.rw_onemaster_k03_plans_written_and_read) (n := 63) (k := 12) (x := "_law_script") rfl (by decide) (by kernel_rfl) ⟨rfl, by decide, by decide⟩ ?F
  intro w mg fa h Y G hmg0
  obtain ⟨K, KX, c⟩ := Y
  have hmg : mg ("law" : PySem.Str) = some (.ref fa) := by
   have e : (HandSHeadRun.topDef (OpenLaw.row PySem.Challenge.rw_onemaster_k03_plans_written_and_read).prog 43).name = ("law" : PySem.Str) := by kernel_rfl
   rw [← e]
   exact hmg0
  obtain ⟨d, kk, F, fx⟩ := K03H.facts KX G c
  have hx : fa = He.ga K "law" := by
   obtain ⟨x0, _, e1, _⟩ := fx {}
   have z := x0.aDy
   rw [e1] at z
   have z2 := hmg.symm.trans z
   cases z2
   rfl
  have bd := L2.FunD.bindsA (ps := ["_law_script"]) F fun _ _ _ _ _ _ us hl => match us, hl with | [_], _ => rfl
  refine ⟨K, d, K03.NO kk, KX, fun s v => bd s [v] rfl, fun ns hl => K03.ZM kk ns hl, fun base _ _ => ?_⟩
  obtain ⟨x, e0, e1, e2⟩ := fx base
  have z := K03.aES x
  rw [e0, e1, e2] at z
  rw [hx]
  exact z
end
