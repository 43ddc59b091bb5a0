import PyProof.Rows.All
import Wide.All
import OpenK.AllK
import Wide.FinOn
import HandS.ForMost
import HandS.ForExc
import HandS.TupAny
import HandS.Style
import HandS.Flow
import HandS.Deep
import PyProof.NeKinds
import HandS.Defaults
import HandS.WordsDict
import HandS.IsInst
import HandS.Conv
import KE.SortKeyHeap
import HandS.MakeKwOnly
import HandS.More
import HandS.ListItems
import HandS.Zip
import KE.GoesEnumKw
import HandS.Head0
import HandS.Head1
import HandS.Head2
import HandS.HeadEnd
import HandS.HeadHook1
import HandS.HeadHook2
import HandS.HeadHook3
import HandS.HeadHook4
import HandS.NamedTupGet
import PyProof.FactsLen
import HandS.TupMul
import KE.GoesEnum
import HandS.Zip0
import HandS.SetFor
import HandS.Strs
import KE.DataAny
import KE.KDictPairs
import HandS.DictComp
import HandS.NoneIn
import KE.KEqDict
import HandS.TupLe
import KE.KAssignIn
import HandS.Finally
import HandS.SlotsOwn
import PyProof.InstNe
import HandS.Dict
import HandS.Iter
import KE.KDictCopyH
import KE.DataMinMax
import KE.SortData
import PyProof.Rows.RowBridgeK
import HandS.Exc
import HandS.ExcInit
import HandS.ExcField
import HandS.ClsMeth
import HandS.Text
import HandS.TryMany
import HandS.ExcIs
import HandS.RaiseMore
import HandS.DictTup
import PyProof.ExcBaseAll.IndexError
import HandS.ExcBuiltin
import KE.KExcInit
import KE.SortUse
import HandS.SortKw
import HandS.TupLen
import PyProof.Rows.IntBool
import HandS.FStr
import KE.KCallOwn
import PyProof.Walks
import HandS.HotCalls
import PyProof.ListMulRight
import HandS.Ends
import PySem.Challenge.RW_onemaster_k01_plans_made_and_refused
import KE.KStateDown
import PyProof.Rows.ReprOcc
noncomputable section
set_option linter.all false
def aa := @if_false
def ae := @if_true
def ah := @Nat.le_of_ble_eq_true
def ai := @List.getElem?_eq_some_iff
def aj := @Option.some.injEq
def ak := @decide_eq_true_eq
def ao := @Bool.and_eq_true
def aq := @Option.map_eq_some_iff
def au := @List.all_eq_true
def av := @List.getElem?_append_left
def ax := @List.cons_append
def ay := @Bool.not_true
def az := @List.getElem?_set_ne
def bc := @List.mem_cons_self
def bf := @List.getElem?_set_self
def bg := @Bool.false_eq_true
def bh := @List.mem_cons
def bj := @List.getElem?_eq_getElem
def bp := @List.getElem?_append_right
def bq := @Bool.not_false
def br := @List.mem_cons_of_mem
def bu := @exists_eq_left'
def bw := @List.not_mem_nil
def bx := @Nat.le_refl
def cb := @List.mem_of_getElem?
def cc := @List.nil_append
def cf := @List.length_cons
def cg := @List.length_map
def cj := @List.append_assoc
def ck := @List.mem_append
def cq := @List.length_append
def cu := @List.getElem?_map
def cw := @List.map_cons
def cz := @List.length_nil
def da := @List.mem_singleton
def dc := @or_false
def de := @Nat.le_trans
def dh := @List.mem_map
def di := @List.length_set
def dj := @Option.bind_eq_some_iff
def dm := @List.getElem?_cons_zero
def dn := @List.getElem?_cons_succ
def dq := @List.take_of_length_le
def du := @List.map_map
def dw := @beq_eq_false_iff_ne
set_option Elab.async false
set_option linter.all false
set_option maxRecDepth 100000
set_option maxHeartbeats 4000000
set_option autoImplicit false
namespace Pc
open PySem PySem.Spec PyProof.Rows L2
inductive D where
 | non | bl (b : Bool) | int (i : Int) | str (x : Str) | ty (n : String) | con (a : Addr)
 | tup (xs : List D) | lst (xs : List D) | oI (xs : List D) | lY (xs : List D) | zX (ks vs : List D) | ref (i : Nat)
inductive MO where
 | lst (xs : List D) | dK (kvs : List (Key × D)) | dT (kvs : List (List Key × D)) | dF (kvs : List (Key × D)) | dG (kvs : List (List Key × D)) | ins (C : Addr) (fs : List (Str × D))
def MO.fz : MO → Bool
 | .dF _ => true
 | .dG _ => true
 | _ => false
abbrev W := List MO
structure XD where
 cls : Value
 fs : Option (List (Str × D))
inductive Res (α : Type) where
 | ok (a : α) (w : W)
 | vY (x : XD) (w : W)
 | bad
def Res.bind {α β : Type} (r : Res α) (f : α → W → Res β) : Res β := match r with
 | .ok a w => f a w
 | .vY x w => .vY x w
 | .bad => .bad
@[simp] theorem Res.aCF {α β : Type} (a : α) (w : W) (f : α → W → Res β) : (Res.ok a w).bind f = f a w := rfl
@[simp] theorem Res.aGP {α β : Type} (x : XD) (w : W) (f : α → W → Res β) : (Res.vY x w : Res α).bind f = .vY x w := rfl
@[simp] theorem Res.aGl {α β : Type} (f : α → W → Res β) : (Res.bad : Res α).bind f = .bad := rfl
theorem Res.bind_assoc {α β γ : Type} (r : Res α) (f : α → W → Res β) (g : β → W → Res γ) : (r.bind f).bind g = r.bind fun a w => (f a w).bind g := by
 cases r <;> rfl
mutual
def aH (K : PySem.W.Frag) (I : List Addr) (F : Hp) : D → V → Prop
 | .non, v => v = .non
 | .bl b, v => v = .bl b
 | .int i, v => v = .int i
 | .str x, v => v = .str x
 | .ty n, v => v = .ty n
 | .con a, v => v = .ref a
 | .tup xs, v => ∃ a vs, v = .ref a ∧ F a = some (.tup vs) ∧ RepL K I F xs vs
 | .lst xs, v => ∃ a vs, v = .ref a ∧ F a = some (.lst vs) ∧ RepL K I F xs vs
 | .oI xs, v => ∃ a vs, v = .ref a ∧ SqL K F a vs ∧ RepL K I F xs vs
 | .lY xs, v => ∃ a vs, v = .ref a ∧ SqT K F a vs ∧ RepL K I F xs vs
 | .zX ks xs, v => ∃ a kvs, v = .ref a ∧ Rd F a (.dK kvs) ∧ RepL K I F ks (kvs.map fun p => kV p.1) ∧ RepL K I F xs (kvs.map fun p => p.2)
 | .ref i, v => ∃ a, v = .ref a ∧ I[i]? = some a
def RepL (K : PySem.W.Frag) (I : List Addr) (F : Hp) : List D → List V → Prop
 | [], vs => vs = []
 | d :: ds, vs => ∃ v r, vs = v :: r ∧ aH K I F d v ∧ RepL K I F ds r
end
def aQ {κ : Type} (K : PySem.W.Frag) (I : List Addr) (F : Hp) : List (κ × D) → List (κ × V) → Prop
 | [], vs => vs = []
 | (k, d) :: ds, vs => ∃ v r, vs = (k, v) :: r ∧ aH K I F d v ∧ aQ K I F ds r
def kP (K : PySem.W.Frag) (I : List Addr) (F : Hp) : MO → HO → Prop
 | .lst xs, u => ∃ vs, u = .lst vs ∧ RepL K I F xs vs
 | .dK kvs, u => ∃ r, u = .dK r ∧ aQ K I F kvs r
 | .dT kvs, u => ∃ r, u = .dT r ∧ aQ K I F kvs r
 | .dF kvs, u => ∃ o r, u = .frz o (.dK r) ∧ aQ K I F kvs r
 | .dG kvs, u => ∃ o r, u = .frz o (.dT r) ∧ aQ K I F kvs r
 | .ins C fs, u => ∃ dx r, u = .ins C dx r ∧ aQ K I F fs r
structure Rel (K : PySem.W.Frag) (I : List Addr) (F : Hp) (G : Hp) (w : W) (H : Hp) : Prop where
 len : I.length = w.length
 nd : I.Nodup
 ob : ∀ (i : Nat) (a : Addr) (o : MO), I[i]? = some a → w[i]? = some o → ∃ u, H a = some u ∧ kP K I F o u
 fz : ∀ a u, F a = some u → H a = some u
 ap : ∀ (i : Nat) (a : Addr) (o : MO), I[i]? = some a → w[i]? = some o → o.fz = false → F a = none
 gz : ∀ a u, G a = some u → H a = some u
 gf : ∀ a u, G a = some u → F a = none ∧ a ∉ I
 gt : ∀ a xs, ¬ G a = some (.tup xs)
structure Ext (I : List Addr) (F : Hp) (I' : List Addr) (F' : Hp) : Prop where
 i : I <+: I'
 f : ∀ a u, F a = some u → F' a = some u
theorem Ext.refl {I : List Addr} {F : Hp} : Ext I F I F := ⟨List.prefix_refl _, fun _ _ h => h⟩
theorem Ext.trans {I I1 I2 : List Addr} {F F1 F2 : Hp} (a : Ext I F I1 F1) (b : Ext I1 F1 I2 F2) : Ext I F I2 F2 := ⟨a.i.trans b.i, fun x u h => b.f x u (a.f x u h)⟩
theorem Ext.get {I I1 : List Addr} {F F1 : Hp} (e : Ext I F I1 F1) {i : Nat} {a : Addr} (h : I[i]? = some a) : I1[i]? = some a := by
 obtain ⟨t, rfl⟩ := e.i
 have hi : i < I.length := (ai.mp h).1
 rw [av hi]; exact h
section
variable {K : PySem.W.Frag} {I I1 I2 : List Addr} {F F1 F2 : Hp}
theorem UT (e : Ext I F I1 F1) {a : Addr} {u : HO} (h : Rd F a u) : Rd F1 a u := by
 rcases h with h | ⟨o, h⟩
 ·exact .inl (e.f _ _ h)
 ·exact .inr ⟨o, e.f _ _ h⟩
theorem DF (e : Ext I F I1 F1) {a : Addr} {vs : List V} (h : SqT K F a vs) : SqT K F1 a vs := by
 rcases h with h | h
 ·exact .inl (UT e h)
 ·exact .inr h
theorem WI (e : Ext I F I1 F1) {a : Addr} {vs : List V} (h : SqL K F a vs) : SqL K F1 a vs := by
 rcases h with h | h
 ·exact .inl (UT e h)
 ·exact .inr h
mutual
theorem aH.ext (e : Ext I F I1 F1) : ∀ (d : D) (v : V), aH K I F d v → aH K I1 F1 d v
 | .non, _, h => h
 | .bl _, _, h => h
 | .int _, _, h => h
 | .str _, _, h => h
 | .ty _, _, h => h
 | .con _, _, h => h
 | .tup xs, v, h => by
  simp only [aH] at h ⊢
  obtain ⟨a, vs, h1, h2, h3⟩ := h
  exact ⟨a, vs, h1, e.f _ _ h2, RepL.ext e xs vs h3⟩
 | .lY xs, v, h => by
  simp only [aH] at h ⊢
  obtain ⟨a, vs, h1, h2, h3⟩ := h
  exact ⟨a, vs, h1, DF e h2, RepL.ext e xs vs h3⟩
 | .lst xs, v, h => by
  simp only [aH] at h ⊢
  obtain ⟨a, vs, h1, h2, h3⟩ := h
  exact ⟨a, vs, h1, e.f _ _ h2, RepL.ext e xs vs h3⟩
 | .oI xs, v, h => by
  simp only [aH] at h ⊢
  obtain ⟨a, vs, h1, h2, h3⟩ := h
  exact ⟨a, vs, h1, WI e h2, RepL.ext e xs vs h3⟩
 | .zX ks xs, v, h => by
  simp only [aH] at h ⊢
  obtain ⟨a, kvs, h1, h2, h3, h4⟩ := h
  exact ⟨a, kvs, h1, UT e h2, RepL.ext e ks _ h3, RepL.ext e xs _ h4⟩
 | .ref i, v, h => by
  simp only [aH] at h ⊢
  obtain ⟨a, h1, h2⟩ := h
  exact ⟨a, h1, e.get h2⟩
theorem RepL.ext (e : Ext I F I1 F1) : ∀ (ds : List D) (vs : List V), RepL K I F ds vs → RepL K I1 F1 ds vs
 | [], _, h => h
 | d :: ds, vs, h => by
  simp only [RepL] at h ⊢
  obtain ⟨v, r, h1, h2, h3⟩ := h
  exact ⟨v, r, h1, aH.ext e d v h2, RepL.ext e ds r h3⟩
end
theorem aQ.ext {κ : Type} (e : Ext I F I1 F1) : ∀ (ds : List (κ × D)) (vs : List (κ × V)), aQ K I F ds vs → aQ K I1 F1 ds vs
 | [], _, h => h
 | (k, d) :: ds, vs, h => by
  simp only [aQ] at h ⊢
  obtain ⟨v, r, h1, h2, h3⟩ := h
  exact ⟨v, r, h1, aH.ext e d v h2, aQ.ext e ds r h3⟩
theorem kP.ext (e : Ext I F I1 F1) {o : MO} {u : HO} (h : kP K I F o u) : kP K I1 F1 o u := by
 cases o with
 | lst xs => obtain ⟨vs, h1, h2⟩ := h; exact ⟨vs, h1, RepL.ext e _ _ h2⟩
 | dK xs => obtain ⟨vs, h1, h2⟩ := h; exact ⟨vs, h1, aQ.ext e _ _ h2⟩
 | dT xs => obtain ⟨vs, h1, h2⟩ := h; exact ⟨vs, h1, aQ.ext e _ _ h2⟩
 | dF xs => obtain ⟨o, vs, h1, h2⟩ := h; exact ⟨o, vs, h1, aQ.ext e _ _ h2⟩
 | dG xs => obtain ⟨o, vs, h1, h2⟩ := h; exact ⟨o, vs, h1, aQ.ext e _ _ h2⟩
 | ins C xs => obtain ⟨dx, vs, h1, h2⟩ := h; exact ⟨dx, vs, h1, aQ.ext e _ _ h2⟩
theorem RepL.length : ∀ {ds : List D} {vs : List V}, RepL K I F ds vs → ds.length = vs.length
 | [], vs, h => by simp only [RepL] at h; subst h; rfl
 | d :: ds, vs, h => by
  simp only [RepL] at h
  obtain ⟨v, r, rfl, _, h3⟩ := h
  simp [RepL.length h3]
theorem RepL.cons {d : D} {ds : List D} {v : V} {vs : List V} (h : aH K I F d v) (t : RepL K I F ds vs) : RepL K I F (d :: ds) (v :: vs) := by
 simp only [RepL]; exact ⟨v, vs, rfl, h, t⟩
theorem RepL.append : ∀ {ds es : List D} {vs us : List V}, RepL K I F ds vs → RepL K I F es us → RepL K I F (ds ++ es) (vs ++ us)
 | [], _, _, _, h, t => by simp only [RepL] at h; subst h; exact t
 | d :: ds, es, vs, us, h, t => by
  simp only [RepL] at h
  obtain ⟨v, r, rfl, h2, h3⟩ := h
  exact RepL.cons h2 (RepL.append h3 t)
theorem RepL.get : ∀ {ds : List D} {vs : List V} {i : Nat} {d : D}, RepL K I F ds vs → ds[i]? = some d → ∃ v, vs[i]? = some v ∧ aH K I F d v
 | [], _, _, _, _, e => by simp at e
 | d :: ds, vs, 0, x, h, e => by
  simp only [RepL] at h
  obtain ⟨v, r, rfl, h2, _⟩ := h
  simp at e; subst e
  exact ⟨v, rfl, h2⟩
 | d :: ds, vs, i + 1, x, h, e => by
  simp only [RepL] at h
  obtain ⟨v, r, rfl, _, h3⟩ := h
  obtain ⟨u, h4, h5⟩ := RepL.get (i := i) h3 (by simpa using e)
  exact ⟨u, by simpa using h4, h5⟩
theorem RepL.set : ∀ {ds : List D} {vs : List V} (i : Nat) {d : D} {v : V}, RepL K I F ds vs → aH K I F d v → RepL K I F (ds.set i d) (vs.set i v)
 | [], vs, _, _, _, h, _ => by simp only [RepL] at h; subst h; simp [RepL]
 | d :: ds, vs, 0, x, u, h, hv => by
  simp only [RepL] at h
  obtain ⟨v, r, rfl, _, h3⟩ := h
  exact RepL.cons hv h3
 | d :: ds, vs, i + 1, x, u, h, hv => by
  simp only [RepL] at h
  obtain ⟨v, r, rfl, h2, h3⟩ := h
  exact RepL.cons h2 (RepL.set i h3 hv)
theorem RepL.take : ∀ {ds : List D} {vs : List V} (n : Nat), RepL K I F ds vs → RepL K I F (ds.take n) (vs.take n)
 | _, _, 0, _ => by simp [RepL]
 | [], vs, n + 1, h => by simp only [RepL] at h; subst h; simp [RepL]
 | d :: ds, vs, n + 1, h => by
  simp only [RepL] at h
  obtain ⟨v, r, rfl, h2, h3⟩ := h
  exact RepL.cons h2 (RepL.take n h3)
theorem RepL.drop : ∀ {ds : List D} {vs : List V} (n : Nat), RepL K I F ds vs → RepL K I F (ds.drop n) (vs.drop n)
 | _, _, 0, h => h
 | [], vs, n + 1, h => by simp only [RepL] at h; subst h; simp [RepL]
 | d :: ds, vs, n + 1, h => by
  simp only [RepL] at h
  obtain ⟨v, r, rfl, h2, h3⟩ := h
  exact RepL.drop n h3
theorem RepL.ints (ns : List Int) : RepL K I F (ns.map D.int) (ns.map V.int) := by
 induction ns with
 | nil => simp [RepL]
 | cons n ns ih => exact RepL.cons (by simp [aH]) ih
end
abbrev Sg := List (Option D)
def dW (K : PySem.W.Frag) (I : List Addr) (F : Hp) (ds : Sg) (s : L2.St) : Prop := ds.length = s.length ∧ ∀ (i : Nat) (d : D), ds[i]? = some (some d) → ∃ v, s[i]? = some (some v) ∧ aH K I F d v
theorem dW.ext {K : PySem.W.Frag} {I I1 : List Addr} {F F1 : Hp} {ds : Sg} {s : L2.St} (h : dW K I F ds s) (e : Ext I F I1 F1) : dW K I1 F1 ds s :=
 ⟨h.1, fun i d q => let ⟨v, h1, h2⟩ := h.2 i d q; ⟨v, h1, aH.ext e d v h2⟩⟩
theorem dW.set {K : PySem.W.Frag} {I : List Addr} {F : Hp} {ds : Sg} {s : L2.St} (h : dW K I F ds s) (i : Nat) {d : D} {v : V} (hv : aH K I F d v) : dW K I F (ds.set i (some d)) (s.set i (some v)) := by
 refine ⟨by simp [h.1], fun j e q => ?_⟩
 by_cases hj : i = j
 ·subst hj
  by_cases hl : i < ds.length
  ·rw [bf hl] at q
   cases q
   exact ⟨v, bf (by rw [← h.1]; exact hl), hv⟩
  ·rw [List.getElem?_eq_none (by simpa using hl)] at q; cases q
 ·rw [az hj] at q
  rw [az hj]
  exact h.2 j e q
theorem dW.unset {K : PySem.W.Frag} {I : List Addr} {F : Hp} {ds : Sg} {s : L2.St} (h : dW K I F ds s) (i : Nat) (x : Option V) : dW K I F (ds.set i none) (s.set i x) := by
 refine ⟨by simp [h.1], fun j e q => ?_⟩
 by_cases hj : i = j
 ·subst hj
  by_cases hl : i < ds.length
  ·rw [bf hl] at q; cases q
  ·rw [List.getElem?_eq_none (by simpa using hl)] at q; cases q
 ·rw [az hj] at q
  rw [az hj]
  exact h.2 j e q
def zT (K : PySem.W.Frag) (I : List Addr) (F H : Hp) (x : XD) (c : Value) (d : Option Addr) : Prop :=
 c = x.cls ∧ match x.fs with
  | none => d = none
  | some fs => ∃ a r, d = some a ∧ H a = some (.xd r) ∧ aQ K I F fs r
def bF {α : Type} (K : PySem.W.Frag) (I : List Addr) (F G : Hp) (E : XK) (R : List Addr → Hp → Hp → α → W → Prop) : Res α → Prop
 | .ok a w => ∀ I' F' H', Ext I F I' F' → Rel K I' F' G w H' → R I' F' H' a w
 | .vY x w => ∀ I' F' H' c d, Ext I F I' F' → Rel K I' F' G w H' → zT K I' F' H' x c d → E c d H'
 | .bad => False
section
variable {α β : Type} {K : PySem.W.Frag} {I I1 : List Addr} {F F1 G : Hp} {E : XK} {R R' : List Addr → Hp → Hp → α → W → Prop} {r : Res α}
theorem bF.ext (h : bF K I F G E R r) (e : Ext I F I1 F1) : bF K I1 F1 G E R r := by
 cases r with
 | ok a w => exact fun I' F' H' e' q => h I' F' H' (e.trans e') q
 | vY x w => exact fun I' F' H' c d e' q y => h I' F' H' c d (e.trans e') q y
 | bad => exact h
theorem bF.mono (h : bF K I F G E R r) (k : ∀ I' F' H' a w, r = .ok a w → Ext I F I' F' → Rel K I' F' G w H' → R I' F' H' a w → R' I' F' H' a w) : bF K I F G E R' r := by
 cases r with
 | ok a w => exact fun I' F' H' e' q => k I' F' H' a w rfl e' q (h I' F' H' e' q)
 | vY x w => exact h
 | bad => exact h
theorem bF.bind {f : α → W → Res β} {R2 : List Addr → Hp → Hp → β → W → Prop} (h : bF K I F G E R2 (r.bind f)) : bF K I F G E (fun I' F' _ a w => bF K I' F' G E R2 (f a w)) r := by
 cases r with
 | ok a w => exact fun I' F' H' e' q => bF.ext (K := K) (R := R2) h e'
 | vY x w => exact h
 | bad => exact h
end
def RV (K : PySem.W.Frag) (Q : VK) : List Addr → Hp → Hp → D → W → Prop := fun I' F' H' d _ => ∀ v, aH K I' F' d v → Q v H'
structure aR where
 P : Program
 w : World
 K : PySem.W.Frag
 mg : Str → Option Value
 base : Heap
 k : Nat
 N : List Str
 sc : Scope
 fn : Str → Bool
structure Ctx (S : aR) (X : Cx) : Prop where
 P : X.prog = S.P
 w : X.w = S.w
 K : X.K = S.K
 mg : X.mg = S.mg
 base : X.base = S.base
 N : X.N = S.N
 sc : X.env.scope = S.sc
 fn : ∀ x, S.fn x = true → X.fn x = true
 calm : X.calm = true
 room : Room S.k X.A
 gds : X.A.guards = some []
 nd : X.N.Nodup
structure qL (X : Cx) (E : XK) : Prop where
 tk : Takes X (fun cls d _ H => E cls d H)
 own : PassesOwn (model X.prog X.w) X.A X.env X.xe
abbrev ME := Sg → W → Res D
abbrev MT := Sg → W → Res Bool
abbrev MA := Sg → W → Res (List D)
inductive Fl where
 | nx (s : Sg) | rt (d : D) | bk (s : Sg) | ct (s : Sg)
abbrev MS := Sg → W → Res Fl
def RL (K : PySem.W.Frag) (Q : List V → Hp → Prop) : List Addr → Hp → Hp → List D → W → Prop := fun I' F' H' ds _ => ∀ vs, RepL K I' F' ds vs → Q vs H'
def RB (Q : Bool → Hp → Prop) : List Addr → Hp → Hp → Bool → W → Prop := fun _ _ H' b _ => Q b H'
def RFl (K : PySem.W.Frag) (Z : Ends) : List Addr → Hp → Hp → Fl → W → Prop := fun I' F' H' f _ => match f with
 | .nx s => ∀ s', dW K I' F' s s' → Z.nx s' H'
 | .rt d => ∀ v, aH K I' F' d v → Z.rt v H'
 | .bk s => ∀ s', dW K I' F' s s' → Z.bk s' H'
 | .ct s => ∀ s', dW K I' F' s s' → Z.ct s' H'
def sP (K : PySem.W.Frag) (E : XK) (m : ME) : TE := fun σ H Q => ∃ I F G ds w, Rel K I F G w H ∧ dW K I F ds σ ∧ bF K I F G E (RV K Q) (m ds w)
def SQ (K : PySem.W.Frag) (E : XK) (m : MT) : TT := fun σ H Q => ∃ I F G ds w, Rel K I F G w H ∧ dW K I F ds σ ∧ bF K I F G E (RB Q) (m ds w)
def aBL (K : PySem.W.Frag) (E : XK) (m : MA) : TA := fun σ H Q => ∃ I F G ds w, Rel K I F G w H ∧ dW K I F ds σ ∧ bF K I F G E (RL K Q) (m ds w)
def FG (K : PySem.W.Frag) (E : XK) (m : MS) : TS := fun Z σ H => ∃ I F G ds w, Rel K I F G w H ∧ dW K I F ds σ ∧ bF K I F G E (RFl K Z) (m ds w)
def JE (S : aR) (e : Expr) (m : ME) : Prop := ∀ X E, Ctx S X → qL X E → PE X e (sP X.K E m)
def JT (S : aR) (e : Expr) (m : MT) : Prop := ∀ X E, Ctx S X → qL X E → PT X e (SQ X.K E m)
def JW (S : aR) (e : Expr) (m : MT) : Prop := ∀ X E, Ctx S X → qL X E → PW X e (SQ X.K E m)
def JA (S : aR) (es : List Expr) (m : MA) : Prop := ∀ X E, Ctx S X → qL X E → PA X es (aBL X.K E m)
def JS (S : aR) (st : Stmt) (m : MS) : Prop := ∀ X E, Ctx S X → qL X E → PS X st (FG X.K E m)
def qK (S : aR) (st : List Stmt) (m : MS) : Prop := ∀ X E, Ctx S X → qL X E → PSs X st (FG X.K E m)
section
variable {X : Cx} {e : Expr} {es : List Expr} {st : Stmt} {sts : List Stmt}
theorem b0 {t t' : TE} (h : PE X e t) (k : ∀ σ H Q, t' σ H Q → t σ H Q) : PE X e t' := ⟨fun pins s σ H Q I q => h.run pins s σ H Q I (k σ H Q q)⟩
theorem DP {t t' : TT} (h : PT X e t) (k : ∀ σ H Q, t' σ H Q → t σ H Q) : PT X e t' := ⟨fun pins s σ H Q I q => h.run pins s σ H Q I (k σ H Q q)⟩
theorem VL {t t' : TT} (h : PW X e t) (k : ∀ σ H Q, t' σ H Q → t σ H Q) : PW X e t' := ⟨fun wh pins s σ H Q I q => h.run wh pins s σ H Q I (k σ H Q q)⟩
theorem DE {t t' : TA} (h : PA X es t) (k : ∀ σ H Q, t' σ H Q → t σ H Q) : PA X es t' := ⟨fun pos pins s σ H Q I q => h.run pos pins s σ H Q I (k σ H Q q)⟩
theorem jF {t t' : TS} (h : PS X st t) (k : ∀ D σ H, t' D σ H → t D σ H) : PS X st t' := ⟨fun pins s σ H D I q => h.run pins s σ H D I (k D σ H q)⟩
theorem zI {t t' : TS} (h : PSs X sts t) (k : ∀ D σ H, t' D σ H → t D σ H) : PSs X sts t' := ⟨fun pins s σ H D I q => h.run pins s σ H D I (k D σ H q)⟩
end
def aB (i : Nat) : ME := fun σ w => match σ[i]? with
 | some (some d) => .ok d w
 | _ => .bad
def eC (d : D) : ME := fun _ w => .ok d w
section
variable {S : aR} {pos : Pos}
theorem aFH (i : Nat) {x : Str} (hN : S.N[i]? = some x) (hv : Vis S.sc x) (hd : (x == ("__debug__" : Str)) = false := by decide) (hcd : (x == ("__classdict__" : Str)) = false := by decide) : JE S (.Name x pos) (aB i) := by
 intro X E c xo
 refine b0 (pe_var (i := i) (by rw [c.N]; exact hN) (by rw [c.sc]; exact hv) hd hcd) fun σ H Q h => ?_
 obtain ⟨I, F, G, ds, w, rel, rs, p⟩ := h
 unfold aB at p
 split at p
 ·rename_i d hi
  obtain ⟨v, hv, hr⟩ := rs.2 i d hi
  exact ⟨v, hv, p I F H .refl rel v hr⟩
 ·exact p.elim
theorem aDI {e : Expr} {d : D} {v : V} (h : ∀ X, PE X e (tC v)) (hr : ∀ K I F, aH K I F d v) : JE S e (eC d) := by
 intro X E c xo
 refine b0 (h X) fun σ H Q h => ?_
 obtain ⟨I, F, G, ds, w, rel, rs, p⟩ := h
 exact p I F H .refl rel v (hr _ _ _)
theorem aG {i : Int} {j : Nat} : JE S (.Constant (.int i) j pos) (eC (.int i)) := aDI (fun _ => pe_int) fun _ _ _ => by simp [aH]
theorem iO {b : Bool} {j : Nat} : JE S (.Constant (.bool b) j pos) (eC (.bl b)) := aDI (fun _ => pe_bl) fun _ _ _ => by simp [aH]
theorem uR {j : Nat} : JE S (.Constant .none j pos) (eC .non) := aDI (fun _ => pe_non) fun _ _ _ => by simp [aH]
theorem cR {x : Str} {j : Nat} : JE S (.Constant (.str x) j pos) (eC (.str x)) := aDI (fun _ => pe_str) fun _ _ _ => by simp [aH]
theorem aDA {x : Str} {d : D} {v : V} {u : Value} (hg : S.sc.names.lookup x = some .globalImplicit) (hm : S.mg x = some u) (r : RelV v u) (hr : ∀ I F, aH S.K I F d v) (hd : (x == ("__debug__" : Str)) = false := by decide) : JE S (.Name x pos) (eC d) := by
 intro X E c xo
 refine b0 (pe_glob (x := x) (v := v) (u := u) (by show X.env.scope.names.lookup x = _; rw [c.sc]; exact hg) (by rw [c.mg]; exact hm) r hd) fun σ H Q h => ?_
 obtain ⟨I, F, G, ds, w, rel, rs, p⟩ := h
 exact p I F H .refl rel v (by rw [c.K]; exact hr _ _)
end
def aD (f : D → D → W → Res D) (a b : ME) : ME := fun σ w => (a σ w).bind fun x w1 => (b σ w1).bind fun y w2 => f x y w2
def yX (f : D → W → Res D) (a : ME) : ME := fun σ w => (a σ w).bind fun x w1 => f x w1
def SN (K : PySem.W.Frag) (E : XK) (f : D → D → W → Res D) : R2 := fun x y H Q => ∃ I F G d e w, Rel K I F G w H ∧ aH K I F d x ∧ aH K I F e y ∧ bF K I F G E (RV K Q) (f d e w)
def aHE (K : PySem.W.Frag) (E : XK) (f : D → W → Res D) : V → Hp → VK → Prop := fun x H Q => ∃ I F G d w, Rel K I F G w H ∧ aH K I F d x ∧ bF K I F G E (RV K Q) (f d w)
def O2 (S : aR) (o : Value → Value → Sem Value) (f : D → D → W → Res D) : Prop := ∀ X E, Ctx S X → qL X E → OpR X o (SN X.K E f)
def O1 (S : aR) (o : Value → Sem Value) (f : D → W → Res D) : Prop := ∀ X E, Ctx S X → qL X E → UnR X o (aHE X.K E f)
section
variable {S : aR} {pos : Pos} {a b : Expr} {ma mb : ME}
theorem y9 {K : PySem.W.Frag} {E : XK} {f : D → D → W → Res D} {σ : L2.St} {H : Hp} {Q : VK} (h : sP K E (aD f ma mb) σ H Q) : tOp (SN K E f) (sP K E ma) (sP K E mb) σ H Q := by
 obtain ⟨I, F, G, ds, w, rel, rs, p⟩ := h
 refine ⟨I, F, G, ds, w, rel, rs, (bF.bind p).mono fun I1 F1 H1 x w1 _ e1 rel1 p1 v rv => ?_⟩
 refine ⟨I1, F1, G, ds, w1, rel1, rs.ext e1, (bF.bind p1).mono fun I2 F2 H2 y w2 _ e2 rel2 p2 u ru => ?_⟩
 exact ⟨I2, F2, G, x, y, w2, rel2, aH.ext e2 _ _ rv, ru, p2⟩
theorem bD {op : Operator} {f : D → D → W → Res D} (ho : O2 S (binaryOp op) f) (ha : JE S a ma) (hb : JE S b mb) : JE S (.BinOp a op b pos) (aD f ma mb) := fun X E c xo =>
 b0 (pe_op (ho X E c xo) (ha X E c xo) (hb X E c xo)) fun _ _ _ h => y9 h
theorem qS {op : CmpOp} {f : D → D → W → Res D} (ho : O2 S (compareOp op) f) (ha : JE S a ma) (hb : JE S b mb) (hm : behindInMarks op b = false := by first | exact nobehind _ (by decide) (by decide) | rfl) : JE S (.Compare a [op] [b] pos) (aD f ma mb) := fun X E c xo =>
 b0 (pe_cmpR (ho X E c xo) (ha X E c xo) (hb X E c xo) hm) fun _ _ _ h => y9 h
theorem U4 {op : UnaryOp} {f : D → W → Res D} (ho : O1 S (unaryOp op) f) (ha : JE S a ma) : JE S (.UnaryOp op a pos) (yX f ma) := fun X E c xo =>
 b0 (pe_un (ho X E c xo) (ha X E c xo)) fun σ H Q h => by
  obtain ⟨I, F, G, ds, w, rel, rs, p⟩ := h
  refine ⟨I, F, G, ds, w, rel, rs, (bF.bind p).mono fun I1 F1 H1 x w1 _ e1 rel1 p1 v rv => ?_⟩
  exact ⟨I1, F1, G, x, w1, rel1, rv, p1⟩
def aHf (d : D) (w : W) : Res Bool := match d with
 | .bl b => .ok b w
 | _ => .bad
def bH (m : ME) : MT := fun σ w => (m σ w).bind aHf
theorem cS {op : CmpOp} {f : D → D → W → Res D} (ho : O2 S (compareOp op) f) (ha : JE S a ma) (hb : JE S b mb) (hm : behindInMarks op b = false := by first | exact nobehind _ (by decide) (by decide) | rfl) : JT S (.Compare a [op] [b] pos) (bH (aD f ma mb)) := fun X E c xo =>
 DP (pt_cmpR (ho X E c xo) (ha X E c xo) (hb X E c xo) hm) fun σ H Q h => by
  obtain ⟨I, F, G, ds, w, rel, rs, p⟩ := h
  show tOp _ _ _ σ H fun x H' => ∃ k, x = .bl k ∧ Q k H'
  refine y9 ⟨I, F, G, ds, w, rel, rs, (bF.bind p).mono fun I1 F1 H1 x w1 _ e1 rel1 p1 v rv => ?_⟩
  cases x <;> first | exact p1.elim | skip
  simp only [aH] at rv
  exact ⟨_, rv, p1 I1 F1 H1 .refl rel1⟩
end
mutual
def D.fW (f : Nat → Option PyData) : D → Option PyData
 | .non => some .none
 | .bl b => some (.bool b)
 | .int i => some (.int i)
 | .str x => some (.str x)
 | .ty _ => none
 | .con _ => none
 | .tup xs => (D.pysR f xs).map .tuple
 | .lst xs => (D.pysR f xs).map .list
 | .oI xs => (D.pysR f xs).map .list
 | .lY xs => (D.pysR f xs).map .tuple
 | .zX _ _ => none
 | .ref i => f i
def D.pysR (f : Nat → Option PyData) : List D → Option (List PyData)
 | [] => some []
 | d :: ds => match D.fW f d, D.pysR f ds with
  | some p, some ps => some (p :: ps)
  | _, _ => none
end
def TB : Nat → W → Nat → Option PyData
 | 0, _, _ => none
 | n + 1, w, i => match w[i]? with
  | some (.lst xs) => (D.pysR (TB n w) xs).map .list
  | _ => none
def D.py (w : W) (d : D) : Option PyData := d.fW (TB 8 w)
section
variable {K : PySem.W.Frag} {I : List Addr} {F G H : Hp} {w : W}
theorem Rel.YS (rel : Rel K I F G w H) {a : Addr} {vs : List V} (h : SqL K F a vs) : SqL K H a vs := by
 rcases h with (h | ⟨o, h⟩) | h
 ·exact .inl (.inl (rel.fz _ _ h))
 ·exact .inl (.inr ⟨o, rel.fz _ _ h⟩)
 ·exact .inr h
theorem Rel.RS (rel : Rel K I F G w H) {a : Addr} {vs : List V} (h : SqT K F a vs) : SqT K H a vs := by
 rcases h with (h | ⟨o, h⟩) | h
 ·exact .inl (.inl (rel.fz _ _ h))
 ·exact .inl (.inr ⟨o, rel.fz _ _ h⟩)
 ·exact .inr h
mutual
theorem aAj (rel : Rel K I F G w H) {f : Nat → Option PyData} (hf : ∀ i a p, I[i]? = some a → f i = some p → Dp K H (.ref a) p) : ∀ (d : D) (v : V) (p : PyData), aH K I F d v → d.fW f = some p → Dp K H v p
 | .non, v, p, h, e => by simp only [aH] at h; simp only [D.fW, aj] at e; subst h; subst e; exact .non
 | .bl b, v, p, h, e => by simp only [aH] at h; simp only [D.fW, aj] at e; subst h; subst e; exact .bl b
 | .int i, v, p, h, e => by simp only [aH] at h; simp only [D.fW, aj] at e; subst h; subst e; exact .int i
 | .str x, v, p, h, e => by simp only [aH] at h; simp only [D.fW, aj] at e; subst h; subst e; exact .str x
 | .ty _, v, p, h, e => by simp [D.fW] at e
 | .con _, v, p, h, e => by simp [D.fW] at e
 | .zX _ _, v, p, h, e => by simp [D.fW] at e
 | .tup xs, v, p, h, e => by
  simp only [aH] at h
  obtain ⟨a, vs, rfl, h2, h3⟩ := h
  simp only [D.fW, aq] at e
  obtain ⟨ps, e1, rfl⟩ := e
  exact .tup (.of (rel.fz _ _ h2)) (dp_pysR rel hf xs vs ps h3 e1)
 | .lY xs, v, p, h, e => by
  simp only [aH] at h
  obtain ⟨a, vs, rfl, h2, h3⟩ := h
  simp only [D.fW, aq] at e
  obtain ⟨ps, e1, rfl⟩ := e
  exact .tup (rel.RS h2) (dp_pysR rel hf xs vs ps h3 e1)
 | .lst xs, v, p, h, e => by
  simp only [aH] at h
  obtain ⟨a, vs, rfl, h2, h3⟩ := h
  simp only [D.fW, aq] at e
  obtain ⟨ps, e1, rfl⟩ := e
  exact .lst (.of (rel.fz _ _ h2)) (dp_pysR rel hf xs vs ps h3 e1)
 | .oI xs, v, p, h, e => by
  simp only [aH] at h
  obtain ⟨a, vs, rfl, h2, h3⟩ := h
  simp only [D.fW, aq] at e
  obtain ⟨ps, e1, rfl⟩ := e
  exact .lst (rel.YS h2) (dp_pysR rel hf xs vs ps h3 e1)
 | .ref i, v, p, h, e => by
  simp only [aH] at h
  obtain ⟨a, rfl, h2⟩ := h
  simp only [D.fW] at e
  exact hf i a p h2 e
theorem dp_pysR (rel : Rel K I F G w H) {f : Nat → Option PyData} (hf : ∀ i a p, I[i]? = some a → f i = some p → Dp K H (.ref a) p) : ∀ (ds : List D) (vs : List V) (ps : List PyData), RepL K I F ds vs → D.pysR f ds = some ps → DpAll K H vs ps
 | [], vs, ps, h, e => by simp only [RepL] at h; simp only [D.pysR, aj] at e; subst h; subst e; exact .nil
 | d :: ds, vs, ps, h, e => by
  simp only [RepL] at h
  obtain ⟨v, r, rfl, h2, h3⟩ := h
  simp only [D.pysR] at e
  split at e
  ·rename_i p ps' e1 e2
   cases e
   exact .cons (aAj rel hf d v p h2 e1) (dp_pysR rel hf ds r ps' h3 e2)
  ·cases e
end
theorem aEh (rel : Rel K I F G w H) : ∀ (n : Nat) (i : Nat) (a : Addr) (p : PyData), I[i]? = some a → TB n w i = some p → Dp K H (.ref a) p
 | 0, i, a, p, _, e => by simp [TB] at e
 | n + 1, i, a, p, h, e => by
  simp only [TB] at e
  split at e
  ·rename_i xs hw
   simp only [aq] at e
   obtain ⟨ps, e1, rfl⟩ := e
   obtain ⟨u, hu, ho⟩ := rel.ob i a _ h hw
   obtain ⟨vs, rfl, h3⟩ := ho
   exact .lst (.of hu) (dp_pysR rel (fun i a p => aEh rel n i a p) xs vs ps h3 e1)
  ·cases e
theorem OB (rel : Rel K I F G w H) {d : D} {v : V} {p : PyData} (h : aH K I F d v) (e : d.py w = some p) : Dp K H v p :=
 aAj rel (fun i a p => aEh rel 8 i a p) d v p h e
end
def bS (x y : D) (w : W) : Res D := match x, y with
 | .int a, .int b => .ok (.int (a + b)) w
 | .str a, .str b => if a.length + b.length ≤ sizeLine then .ok (.str (a ++ b)) w else .bad
 | .tup a, .tup b => if a.length + b.length ≤ sizeLine then .ok (.tup (a ++ b)) w else .bad
 | .lst a, .lst b => if a.length + b.length ≤ sizeLine then .ok (.lst (a ++ b)) w else .bad
 | _, _ => .bad
def kH (x y : D) (w : W) : Res D := match x, y with
 | .int a, .int b => .ok (.int (a - b)) w
 | _, _ => .bad
def D3 (a b : Int) : Bool := (decide (-(2 ^ 64) < a) && decide (a < 2 ^ 64)) || (decide (-(2 ^ 64) < b) && decide (b < 2 ^ 64))
def mulM (x y : D) (w : W) : Res D := match x, y with
 | .int a, .int b => if D3 a b then .ok (.int (a * b)) w else .bad
 | .lst a, .int k => if -(2 ^ 63) ≤ k ∧ k < 2 ^ 63 ∧ a.length * k.toNat ≤ sizeLine then .ok (.lst (List.replicate k.toNat a).flatten) w else .bad
 | _, _ => .bad
def wB (x y : D) (w : W) : Res D := match x, y with
 | .int a, .int b => if 0 < b ∧ b < 1073741824 then .ok (.int (a / b)) w else .bad
 | _, _ => .bad
def kN (x y : D) (w : W) : Res D := match x, y with
 | .int a, .int b => if 0 < b then .ok (.int (a % b)) w else .bad
 | _, _ => .bad
def G0 (x y : D) (w : W) : Res D := match x, y with
 | .int a, .int b => if 0 ≤ b ∧ b ≤ 1000000 ∧ a.natAbs < 2 ^ 64 then .ok (.int (a ^ b.toNat)) w else .bad
 | _, _ => .bad
def vK (x : D) (w : W) : Res D := match x with
 | .int a => .ok (.int (-a)) w
 | _ => .bad
def yS (x y : D) (w : W) : Option Bool := match x.py w, y.py w with
 | some p, some q => if SeqAt.shaped p = true ∧ SeqAt.shaped q = true then some (PyData.eqv p q) else none
 | _, _ => none
def aE2 (x y : D) (w : W) : Res D := match yS x y w with
 | some b => .ok (.bl b) w
 | none => .bad
def aFp (x y : D) (w : W) : Res D := match yS x y w with
 | some b => .ok (.bl (!b)) w
 | none => .bad
def aAa : D → D → Option Bool
 | .tup xs, .tup [] => some xs.isEmpty
 | .lst xs, .lst [] => some xs.isEmpty
 | _, _ => none
def G3 (x y : D) (w : W) : Option Bool := match yS x y w with
 | some b => some b
 | none => aAa x y
def gA (x y : D) (w : W) : Res D := match G3 x y w with
 | some b => .ok (.bl b) w
 | none => .bad
def sL (x y : D) (w : W) : Res D := match G3 x y w with
 | some b => .ok (.bl (!b)) w
 | none => .bad
def DX (x y : D) (w : W) : Res D := match x, y with
 | .int a, .int b => .ok (.bl (decide (a ≤ b))) w
 | _, _ => .bad
def MZ (x y : D) (w : W) : Res D := match x, y with
 | .int a, .int b => .ok (.bl (decide (b < a))) w
 | _, _ => .bad
def geM (x y : D) (w : W) : Res D := match x, y with
 | .int a, .int b => .ok (.bl (decide (b ≤ a))) w
 | _, _ => .bad
def D.isNon : D → Bool
 | .non => true
 | _ => false
def isM (x y : D) (w : W) : Res D := match x, y with
 | x, .non => .ok (.bl x.isNon) w
 | .bl a, .bl b => .ok (.bl (decide (a = b))) w
 | _, _ => .bad
def rS (x y : D) (w : W) : Res D := match x, y with
 | x, .non => .ok (.bl (!x.isNon)) w
 | .bl a, .bl b => .ok (.bl (!decide (a = b))) w
 | _, _ => .bad
def D.items (w : W) : D → Option (List D)
 | .tup xs => some xs
 | .lst xs => some xs
 | .oI xs => some xs
 | .lY xs => some xs
 | .ref i => match w[i]? with
  | some (.lst xs) => some xs
  | _ => none
 | _ => none
section
variable {S : aR}
theorem jG {o : Value → Value → Sem Value} {f : D → D → W → Res D}
  (h : ∀ (X : Cx) (E : XK), Ctx S X → qL X E → ∀ (I : List Addr) (F G : Hp) (d e : D) (w : W) (H : Hp) (x y : V) (Q : VK), Rel X.K I F G w H → aH X.K I F d x → aH X.K I F e y → bF X.K I F G E (RV X.K Q) (f d e w) →
   ∃ r : R2, OpR X o r ∧ r x y H Q) : O2 S o f := fun X E c xo pins s σ H x y v u Q I rx ry ⟨J, F, G, d, e, w, rel, rd, re, p⟩ => by
 obtain ⟨r, ho, hr⟩ := h X E c xo J F G d e w H x y Q rel rd re p
 exact ho pins s σ H x y v u Q I rx ry hr
theorem wX {o : Value → Value → Sem Value} {f : D → D → W → Res D} {C : Int → Int → Prop} {g : Int → Int → V} {gd : Int → Int → D} (ho : ∀ X : Cx, OpR X o (rI C g))
  (hg : ∀ K I F a b, aH K I F (gd a b) (g a b)) (hf : ∀ d e w r, f d e w = r → r = .bad ∨ ∃ a b, d = .int a ∧ e = .int b ∧ C a b ∧ r = .ok (gd a b) w) : O2 S o f :=
 jG fun X E c xo I F G d e w H x y Q rel rd re p => by
  rcases hf d e w _ rfl with h | ⟨a, b, rfl, rfl, hc, h⟩
  ·rw [h] at p; exact p.elim
  ·rw [h] at p
   simp only [aH] at rd re
   exact ⟨_, ho X, a, b, rd, re, hc, p I F H .refl rel _ (hg _ _ _ _ _)⟩
theorem Q2 {o : Value → Value → Sem Value} {X : Cx} {g : Int → Int → V} (h : OpR X o (rI0 g)) : OpR X o (rI (fun _ _ => True) g) := fun pins s σ H x y v u Q I rx ry ⟨i, j, e1, e2, _, q⟩ => h pins s σ H x y v u Q I rx ry ⟨i, j, e1, e2, q⟩
theorem MN : O2 S (binaryOp .Sub) kH := wX (gd := fun a b => .int (a - b)) (fun _ => Q2 op_sub) (fun _ _ _ _ _ => by simp [aH]) fun d e w r h => by
 subst h; cases d <;> cases e <;> simp [kH]
theorem uP : O2 S (compareOp .LtE) DX := wX (gd := fun a b => .bl (decide (a ≤ b))) (fun _ => Q2 op_le) (fun _ _ _ _ _ => by simp [aH]) fun d e w r h => by
 subst h; cases d <;> cases e <;> simp [DX]
theorem aEb : O2 S (compareOp .Gt) MZ := wX (gd := fun a b => .bl (decide (b < a))) (fun _ => Q2 op_gt) (fun _ _ _ _ _ => by simp [aH]) fun d e w r h => by
 subst h; cases d <;> cases e <;> simp [MZ]
theorem aHM : O2 S (compareOp .GtE) geM := wX (gd := fun a b => .bl (decide (b ≤ a))) (fun _ => Q2 op_ge) (fun _ _ _ _ _ => by simp [aH]) fun d e w r h => by
 subst h; cases d <;> cases e <;> simp [geM]
theorem UW : O2 S (binaryOp .FloorDiv) wB := wX (gd := fun a b => .int (a / b)) (fun _ => op_fdiv) (fun _ _ _ _ _ => by simp [aH]) fun d e w r h => by
 subst h; cases d <;> cases e <;> simp only [wB, true_or, reduceCtorEq, false_and, and_false, exists_const, dc]
 rename_i a b
 by_cases hc : 0 < b ∧ b < 1073741824
 ·rw [if_pos hc]; exact .inr ⟨a, b, rfl, rfl, hc, rfl⟩
 ·rw [if_neg hc]; exact .inl rfl
theorem xF : O2 S (binaryOp .Mod) kN := wX (gd := fun a b => .int (a % b)) (fun _ => op_mod) (fun _ _ _ _ _ => by simp [aH]) fun d e w r h => by
 subst h; cases d <;> cases e <;> simp only [kN, true_or, reduceCtorEq, false_and, and_false, exists_const, dc]
 rename_i a b
 by_cases hc : 0 < b
 ·rw [if_pos hc]; exact .inr ⟨a, b, rfl, rfl, hc, rfl⟩
 ·rw [if_neg hc]; exact .inl rfl
theorem aAx : O2 S (binaryOp .Pow) G0 := wX (gd := fun a b => .int (a ^ b.toNat)) (fun _ => op_pow) (fun _ _ _ _ _ => by simp [aH]) fun d e w r h => by
 subst h; cases d <;> cases e <;> simp only [G0, true_or, reduceCtorEq, false_and, and_false, exists_const, dc]
 rename_i a b
 by_cases hc : 0 ≤ b ∧ b ≤ 1000000 ∧ a.natAbs < 2 ^ 64
 ·rw [if_pos hc]; exact .inr ⟨a, b, rfl, rfl, hc, rfl⟩
 ·rw [if_neg hc]; exact .inl rfl
theorem kI {K : PySem.W.Frag} {I : List Addr} {F G H : Hp} {E : XK} {w : W} {ds : List D} {vs : List V} {Q : VK} (rel : Rel K I F G w H) (r : RepL K I F ds vs) (p : bF K I F G E (RV K Q) (.ok (.lst ds) w)) : ∀ q, H q = none → Q (.ref q) (upd H q (.lst vs)) := fun q hq => by
 have hF : F q = none := by
  cases h : F q with
  | none => rfl
  | some u => rw [rel.fz _ _ h] at hq; cases hq
 have e : Ext I F I (upd F q (.lst vs)) := ⟨List.prefix_refl _, fun a u h => by rw [upd_ne (ne_of_none h hF)]; exact h⟩
 refine p I (upd F q (.lst vs)) (upd H q (.lst vs)) e ⟨rel.len, rel.nd, fun i a o h1 h2 => ?_, fun a u h => ?_, fun i a o h h0 hf => ?_, fun a u h => ?_, fun a u h => ?_, rel.gt⟩ _ ?_
 ·obtain ⟨u, h3, h4⟩ := rel.ob i a o h1 h2
  exact ⟨u, by rw [upd_ne (ne_of_none h3 hq)]; exact h3, kP.ext e h4⟩
 ·by_cases ha : a = q
  ·subst ha; rw [upd_same] at h ⊢; exact h
  ·rw [upd_ne ha] at h ⊢; exact rel.fz a u h
 ·obtain ⟨u, h3, _⟩ := rel.ob i a o h h0
  rw [upd_ne (ne_of_none h3 hq)]; exact rel.ap i a o h h0 hf
 ·rw [upd_ne (ne_of_none (rel.gz a u h) hq)]; exact rel.gz a u h
 ·rw [upd_ne (ne_of_none (rel.gz a u h) hq)]; exact rel.gf a u h
 ·simp only [aH]
  exact ⟨q, vs, rfl, upd_same, RepL.ext e _ _ r⟩
theorem vA {K : PySem.W.Frag} {I : List Addr} {F G H : Hp} {E : XK} {w : W} {ds : List D} {vs : List V} {Q : VK} (rel : Rel K I F G w H) (r : RepL K I F ds vs) (p : bF K I F G E (RV K Q) (.ok (.tup ds) w)) : ∀ q, H q = none → Q (.ref q) (upd H q (.tup vs)) := fun q hq => by
 have hF : F q = none := by
  cases h : F q with
  | none => rfl
  | some u => rw [rel.fz _ _ h] at hq; cases hq
 have e : Ext I F I (upd F q (.tup vs)) := ⟨List.prefix_refl _, fun a u h => by rw [upd_ne (ne_of_none h hF)]; exact h⟩
 refine p I (upd F q (.tup vs)) (upd H q (.tup vs)) e ⟨rel.len, rel.nd, fun i a o h1 h2 => ?_, fun a u h => ?_, fun i a o h h0 hf => ?_, fun a u h => ?_, fun a u h => ?_, rel.gt⟩ _ ?_
 ·obtain ⟨u, h3, h4⟩ := rel.ob i a o h1 h2
  exact ⟨u, by rw [upd_ne (ne_of_none h3 hq)]; exact h3, kP.ext e h4⟩
 ·by_cases ha : a = q
  ·subst ha; rw [upd_same] at h ⊢; exact h
  ·rw [upd_ne ha] at h ⊢; exact rel.fz a u h
 ·obtain ⟨u, h3, _⟩ := rel.ob i a o h h0
  rw [upd_ne (ne_of_none h3 hq)]; exact rel.ap i a o h h0 hf
 ·rw [upd_ne (ne_of_none (rel.gz a u h) hq)]; exact rel.gz a u h
 ·rw [upd_ne (ne_of_none (rel.gz a u h) hq)]; exact rel.gf a u h
 ·simp only [aH]
  exact ⟨q, vs, rfl, upd_same, RepL.ext e _ _ r⟩
theorem RepL.eq_nil {K : PySem.W.Frag} {I : List Addr} {F : Hp} {ds : List D} (r : RepL K I F ds []) : ds = [] := by
 have := r.length
 exact List.eq_nil_of_length_eq_zero (by simpa using this)
theorem cH : O2 S (binaryOp .Add) bS := jG fun X E c xo I F G d e w H x y Q rel rd re p => by
 cases d <;> cases e <;> first | exact p.elim | skip
 ·simp only [aH] at rd re
  exact ⟨_, op_add, _, _, rd, re, p I F H .refl rel _ (by simp [aH])⟩
 ·rename_i a b
  simp only [aH] at rd re
  simp only [bS] at p
  split at p
  ·rename_i hl
   exact ⟨_, op_add_str, _, _, rd, re, hl, p I F H .refl rel _ (by simp [aH])⟩
  ·exact p.elim
 ·rename_i a b
  simp only [aH] at rd re
  obtain ⟨q, vs, rfl, h1, h2⟩ := rd
  obtain ⟨q', vs', rfl, h1', h2'⟩ := re
  simp only [bS] at p
  split at p
  ·rename_i hl
   refine ⟨_, op_catA, q, q', vs, vs', rfl, rfl, .of (rel.fz _ _ h1), .of (rel.fz _ _ h1'), by rw [← h2.length, ← h2'.length]; exact hl, fun hn => ?_, fun _ hn => ?_, fun _ _ => ?_⟩
   ·subst hn
    obtain rfl := h2.eq_nil
    exact p I F H .refl rel _ (by simp only [aH, cc]; exact ⟨_, _, rfl, h1', h2'⟩)
   ·subst hn
    obtain rfl := h2'.eq_nil
    exact p I F H .refl rel _ (by simp only [aH, List.append_nil]; exact ⟨_, _, rfl, h1, h2⟩)
   ·exact vA rel (h2.append h2') p
  ·exact p.elim
 ·rename_i a b
  simp only [aH] at rd re
  obtain ⟨q, vs, rfl, h1, h2⟩ := rd
  obtain ⟨q', vs', rfl, h1', h2'⟩ := re
  simp only [bS] at p
  split at p
  ·rename_i hl
   exact ⟨_, op_cat, q, q', vs, vs', rfl, rfl, rel.fz _ _ h1, rel.fz _ _ h1', by rw [← h2.length, ← h2'.length]; exact hl, kI rel (h2.append h2') p⟩
  ·exact p.elim
theorem RepL.rep {K : PySem.W.Frag} {I : List Addr} {F : Hp} {ds : List D} {vs : List V} (r : RepL K I F ds vs) : ∀ n : Nat, RepL K I F (List.replicate n ds).flatten (List.replicate n vs).flatten
 | 0 => by simp [RepL]
 | n + 1 => by
  rw [List.replicate_succ, List.replicate_succ, List.flatten_cons, List.flatten_cons]
  exact r.append (r.rep n)
theorem wJ : O2 S (binaryOp .Mult) mulM := jG fun X E c xo I F G d e w H x y Q rel rd re p => by
 cases d <;> cases e <;> first | exact p.elim | skip
 ·rename_i a b
  simp only [aH] at rd re
  simp only [mulM] at p
  split at p
  ·rename_i hl
   refine ⟨_, op_mul, _, _, rd, re, ?_, p I F H .refl rel _ (by simp [aH])⟩
   simpa [D3, CMul] using hl
  ·exact p.elim
 ·rename_i a b
  simp only [aH] at rd re
  obtain ⟨q, vs, rfl, h1, h2⟩ := rd
  simp only [mulM] at p
  split at p
  ·rename_i hl
   exact ⟨_, op_rep, q, b, vs, rfl, re, rel.fz _ _ h1, hl.1, hl.2.1, by rw [← h2.length]; exact hl.2.2, kI rel (h2.rep _) p⟩
  ·exact p.elim
theorem aGe : O2 S (compareOp .Eq) aE2 := jG fun X E c xo I F G d e w H x y Q rel rd re p => by
 unfold aE2 yS at p
 split at p
 ·rename_i b hb
  split at hb
  ·rename_i p1 q1 e1 e2
   split at hb
   ·rename_i hs
    cases hb
    exact ⟨_, op_eqD c.room.units, p1, q1, OB rel rd e1, OB rel re e2, hs.1, hs.2, p I F H .refl rel _ (by simp [aH])⟩
   ·cases hb
  ·cases hb
 ·exact p.elim
theorem aFM : O2 S (compareOp .NotEq) aFp := jG fun X E c xo I F G d e w H x y Q rel rd re p => by
 unfold aFp yS at p
 split at p
 ·rename_i b hb
  split at hb
  ·rename_i p1 q1 e1 e2
   split at hb
   ·rename_i hs
    cases hb
    exact ⟨_, op_neD c.room.units, p1, q1, OB rel rd e1, OB rel re e2, hs.1, hs.2, p I F H .refl rel _ (by simp [aH])⟩
   ·cases hb
  ·cases hb
 ·exact p.elim
theorem JZ {K : PySem.W.Frag} {I : List Addr} {F : Hp} {d : D} {v : V} (h : aH K I F d v) : decide (v = .non) = d.isNon := by
 cases d <;> simp only [aH] at h
 case non => subst h; rfl
 case bl => subst h; rfl
 case int => subst h; rfl
 case str => subst h; rfl
 case ty => subst h; rfl
 case con => subst h; rfl
 case tup => obtain ⟨a, vs, rfl, _⟩ := h; rfl
 case lst => obtain ⟨a, vs, rfl, _⟩ := h; rfl
 case oI => obtain ⟨a, vs, rfl, _⟩ := h; rfl
 case lY => obtain ⟨a, vs, rfl, _⟩ := h; rfl
 case zX => obtain ⟨a, vs, rfl, _⟩ := h; rfl
 case ref => obtain ⟨a, rfl, _⟩ := h; rfl
theorem aBJ {x : D} {w : W} : isM x .non w = .ok (.bl x.isNon) w := by cases x <;> rfl
theorem SH {x : D} {w : W} : rS x .non w = .ok (.bl (!x.isNon)) w := by cases x <;> rfl
theorem EG {n : Nat} {xs : List D} (h : n = xs.length) : ((List.range (min n 0)).all (fun _ => true) && n == 0) = xs.isEmpty := by
 subst h
 cases xs <;> simp
theorem DN {X : Cx} {pins : List (Addr × Obj)} {σ : L2.St} {H : Hp} {s : Shared} (J : Inv X pins σ H s) {a : Addr} {vs : List V} (h : H a = some (.tup vs)) : ∃ its : Array Value, s.heap.IsTuple a its ∧ its.size = vs.length := by
 obtain ⟨its, rv, ht, _⟩ := J.tuple (show SqT X.K H a vs from .of h)
 refine ⟨its.toArray, ht, ?_⟩
 rw [List.size_toArray]
 exact (Vals.length rv).symm
theorem DG {X : Cx} {pins : List (Addr × Obj)} {σ : L2.St} {H : Hp} {s : Shared} (J : Inv X pins σ H s) {a : Addr} {vs : List V} (h : H a = some (.lst vs)) : ∃ its : Array Value, s.heap.IsList a its ∧ its.size = vs.length := by
 obtain ⟨its, rv, ⟨o, n, ho, hc, _, hd⟩, _⟩ := J.list (show SqL X.K H a vs from .of h)
 refine ⟨its.toArray, ⟨o, ho, hc, n, hd⟩, ?_⟩
 rw [List.size_toArray]
 exact (Vals.length rv).symm
theorem iP : O2 S (compareOp .Eq) gA := fun X E c xo pins s σ H x y v u Q J rx ry ⟨I, F, G, d, e, w, rel, rd, re, p⟩ => by
 unfold gA G3 at p
 cases h0 : yS d e w with
 | some b =>
  rw [h0] at p
  exact aGe X E c xo pins s σ H x y v u Q J rx ry ⟨I, F, G, d, e, w, rel, rd, re, by unfold aE2; rw [h0]; exact p⟩
 | none =>
  rw [h0] at p
  simp only at p
  have hu : X.A.units < cLine := by have := c.room.units; omega
  unfold aAa at p
  split at p
  ·rename_i b hb
   split at hb
   ·rename_i xs
    cases hb
    simp only [aH, RepL] at rd re
    obtain ⟨a, vs, rfl, h2, h3⟩ := rd
    obtain ⟨b, us, rfl, h4, rfl⟩ := re
    obtain rfl : v = Value.ref a := rx
    obtain rfl : u = Value.ref b := ry
    obtain ⟨i1, t1, l1⟩ := DN J (rel.fz _ _ h2)
    obtain ⟨i2, t2, l2⟩ := DN J (rel.fz _ _ h4)
    have z : i2.size = 0 := l2
    refine SeqAt.eq_tupleAt (e := fun _ => true) t1 t2 hu (fun j h1 h2 => absurd h2 (by omega)) ?_
    rw [z, EG (l1.trans h3.length.symm)]
    exact ⟨.bl xs.isEmpty, H, J, rfl, p I F H .refl rel _ (by simp [aH])⟩
   ·rename_i xs
    cases hb
    simp only [aH, RepL] at rd re
    obtain ⟨a, vs, rfl, h2, h3⟩ := rd
    obtain ⟨b, us, rfl, h4, rfl⟩ := re
    obtain rfl : v = Value.ref a := rx
    obtain rfl : u = Value.ref b := ry
    obtain ⟨i1, t1, l1⟩ := DG J (rel.fz _ _ h2)
    obtain ⟨i2, t2, l2⟩ := DG J (rel.fz _ _ h4)
    have z : i2.size = 0 := l2
    have lx : i1.size = xs.length := l1.trans h3.length.symm
    cases xs with
    | nil =>
     refine SeqAt.eq_listAt (e := fun _ => true) t1 t2 (lx.trans z.symm) hu (fun j h1 h2 => absurd h2 (by omega)) ?_
     have : (List.range i1.size).all (fun _ => true) = true := by simp
     rw [this]
     exact ⟨.bl true, H, J, rfl, p I F H .refl rel _ (by simp [aH])⟩
    | cons x xs =>
     refine SeqAt.eq_list_lengthsAt t1 t2 (by rw [lx, z]; rfl) hu ?_
     exact ⟨.bl false, H, J, rfl, p I F H .refl rel _ (by simp [aH])⟩
   ·cases hb
  ·exact p.elim
theorem zK : O2 S (compareOp .NotEq) sL := fun X E c xo pins s σ H x y v u Q J rx ry ⟨I, F, G, d, e, w, rel, rd, re, p⟩ => by
 unfold sL G3 at p
 cases h0 : yS d e w with
 | some b =>
  rw [h0] at p
  exact aFM X E c xo pins s σ H x y v u Q J rx ry ⟨I, F, G, d, e, w, rel, rd, re, by unfold aFp; rw [h0]; exact p⟩
 | none =>
  rw [h0] at p
  simp only at p
  have hu : X.A.units < cLine := by have := c.room.units; omega
  unfold aAa at p
  split at p
  ·rename_i b hb
   split at hb
   ·rename_i xs
    cases hb
    simp only [aH, RepL] at rd re
    obtain ⟨a, vs, rfl, h2, h3⟩ := rd
    obtain ⟨b, us, rfl, h4, rfl⟩ := re
    obtain rfl : v = Value.ref a := rx
    obtain rfl : u = Value.ref b := ry
    obtain ⟨i1, t1, l1⟩ := DN J (rel.fz _ _ h2)
    obtain ⟨i2, t2, l2⟩ := DN J (rel.fz _ _ h4)
    have z : i2.size = 0 := l2
    refine SeqAt.RcNeAt.tuples (e := fun _ => true) t1 t2 hu (fun j h1 h2 => absurd h2 (by omega)) _ _ _ _ ?_
    rw [z, EG (l1.trans h3.length.symm)]
    exact ⟨.bl (!xs.isEmpty), H, J, rfl, p I F H .refl rel _ (by simp [aH])⟩
   ·rename_i xs
    cases hb
    simp only [aH, RepL] at rd re
    obtain ⟨a, vs, rfl, h2, h3⟩ := rd
    obtain ⟨b, us, rfl, h4, rfl⟩ := re
    obtain rfl : v = Value.ref a := rx
    obtain rfl : u = Value.ref b := ry
    obtain ⟨i1, t1, l1⟩ := DG J (rel.fz _ _ h2)
    obtain ⟨i2, t2, l2⟩ := DG J (rel.fz _ _ h4)
    have z : i2.size = 0 := l2
    have lx : i1.size = xs.length := l1.trans h3.length.symm
    cases xs with
    | nil =>
     refine SeqAt.RcNeAt.lists (e := fun _ => true) t1 t2 (lx.trans z.symm) hu (fun j h1 h2 => absurd h2 (by omega)) _ _ _ _ ?_
     have : (List.range i1.size).all (fun _ => true) = true := by simp
     rw [this]
     exact ⟨.bl false, H, J, rfl, p I F H .refl rel _ (by simp [aH])⟩
    | cons x xs =>
     refine SeqAt.RcNeAt.lists_lengths t1 t2 (by rw [lx, z]; rfl) hu _ _ _ _ ?_
     exact ⟨.bl true, H, J, rfl, p I F H .refl rel _ (by simp [aH])⟩
   ·cases hb
  ·exact p.elim
theorem aEk : O2 S (compareOp .Is) isM := jG fun X E c xo I F G d e w H x y Q rel rd re p => by
 cases e
 case non =>
  simp only [aBJ] at p
  simp only [aH] at re
  exact ⟨_, op_isN, re, p I F H .refl rel _ (by simp [aH, JZ rd])⟩
 case bl b =>
  cases d <;> first | exact p.elim | skip
  simp only [aH] at rd re
  exact ⟨_, op_isBl, _, _, rd, re, p I F H .refl rel _ (by simp [aH])⟩
 all_goals (cases d <;> exact p.elim)
theorem D0 : O2 S (compareOp .IsNot) rS := jG fun X E c xo I F G d e w H x y Q rel rd re p => by
 cases e
 case non =>
  simp only [SH] at p
  simp only [aH] at re
  exact ⟨_, op_notN, re, p I F H .refl rel _ (by simp [aH, JZ rd])⟩
 case bl b =>
  cases d <;> first | exact p.elim | skip
  simp only [aH] at rd re
  exact ⟨_, op_notBl, _, _, rd, re, p I F H .refl rel _ (by simp [aH])⟩
 all_goals (cases d <;> exact p.elim)
theorem KP : O1 S (unaryOp .USub) vK := fun X E c xo pins s σ H x v Q I rx ⟨J, F, G, d, w, rel, rd, p⟩ => by
 cases d <;> first | exact p.elim | skip
 simp only [aH] at rd
 exact un_neg pins s σ H x v Q I rx ⟨_, rd, p J F H .refl rel _ (by simp [aH])⟩
end
def nN (d : D) (w : W) : Option Bool := match d with
 | .non => some false
 | .bl b => some b
 | .int i => some (i != 0)
 | .str x => if x.length ≤ sizeLine then some ((x.length : Int) != 0) else none
 | .tup xs => some (!xs.isEmpty)
 | .lst xs => some (!xs.isEmpty)
 | .oI xs => some (!xs.isEmpty)
 | .lY xs => some (!xs.isEmpty)
 | .ref i => (match w[i]? with
  | some (.lst xs) => some (!xs.isEmpty)
  | some (.dK kvs) => some (!kvs.isEmpty)
  | _ => none)
 | _ => none
theorem RepL.isEmpty {K : PySem.W.Frag} {I : List Addr} {F : Hp} {ds : List D} {vs : List V} (r : RepL K I F ds vs) : vs.isEmpty = ds.isEmpty := by
 cases ds with
 | nil => simp only [RepL] at r; subst r; rfl
 | cons d ds => simp only [RepL] at r; obtain ⟨v, t, rfl, _⟩ := r; rfl
theorem aQ.isEmpty {κ : Type} {K : PySem.W.Frag} {I : List Addr} {F : Hp} {ds : List (κ × D)} {vs : List (κ × V)} (r : aQ K I F ds vs) : vs.isEmpty = ds.isEmpty := by
 cases ds with
 | nil => simp only [aQ] at r; subst r; rfl
 | cons d ds => obtain ⟨k, d⟩ := d; simp only [aQ] at r; obtain ⟨v, t, rfl, _⟩ := r; rfl
theorem aCk {K : PySem.W.Frag} {I : List Addr} {F G H : Hp} {w : W} (rel : Rel K I F G w H) {d : D} {v : V} (h : aH K I F d v) {b : Bool} (e : nN d w = some b) : TruV K v H b := by
 cases d <;> simp only [aH] at h
 case non => subst h; simp only [nN, aj] at e; exact e.symm
 case bl => subst h; simp only [nN, aj] at e; exact e.symm
 case int => subst h; simp only [nN, aj] at e; exact e.symm
 case str x =>
  subst h
  simp only [nN] at e
  split at e
  ·rename_i hl
   cases e; exact ⟨hl, rfl⟩
  ·cases e
 case ty => cases e
 case con => cases e
 case zX => cases e
 case tup xs =>
  obtain ⟨a, vs, rfl, h1, h2⟩ := h
  simp only [nN, aj] at e
  exact .inr (.inl ⟨vs, .of (rel.fz _ _ h1), by rw [h2.isEmpty]; exact e.symm⟩)
 case lY xs =>
  obtain ⟨a, vs, rfl, h1, h2⟩ := h
  simp only [nN, aj] at e
  exact .inr (.inl ⟨vs, rel.RS h1, by rw [h2.isEmpty]; exact e.symm⟩)
 case lst xs =>
  obtain ⟨a, vs, rfl, h1, h2⟩ := h
  simp only [nN, aj] at e
  exact .inl ⟨vs, .of (rel.fz _ _ h1), by rw [h2.isEmpty]; exact e.symm⟩
 case oI xs =>
  obtain ⟨a, vs, rfl, h1, h2⟩ := h
  simp only [nN, aj] at e
  exact .inl ⟨vs, rel.YS h1, by rw [h2.isEmpty]; exact e.symm⟩
 case ref i =>
  obtain ⟨a, rfl, h1⟩ := h
  simp only [nN] at e
  split at e
  ·rename_i xs hw
   cases e
   obtain ⟨u, hu, vs, rfl, h2⟩ := rel.ob i a _ h1 hw
   exact .inl ⟨vs, .of hu, by rw [h2.isEmpty]⟩
  ·rename_i kvs hw
   cases e
   obtain ⟨u, hu, vs, rfl, h2⟩ := rel.ob i a _ h1 hw
   exact .inr (.inr ⟨vs, hu, by rw [h2.isEmpty]⟩)
  ·cases e
def gZ (d : D) (w : W) : Res Bool := match nN d w with
 | some b => .ok b w
 | none => .bad
def cW (m : ME) : MT := fun σ w => (m σ w).bind gZ
def iD (a b : MT) : MT := fun σ w => (a σ w).bind fun c w1 => if c = true then b σ w1 else .ok false w1
def eV (a b : MT) : MT := fun σ w => (a σ w).bind fun c w1 => if c = true then .ok true w1 else b σ w1
def bU (a : MT) : MT := fun σ w => (a σ w).bind fun c w1 => .ok (!c) w1
def jX (a b : ME) : ME := fun σ w => (a σ w).bind fun x w1 => (gZ x w1).bind fun c _ => if c = true then b σ w1 else .ok x w1
def eOr (a b : ME) : ME := fun σ w => (a σ w).bind fun x w1 => (gZ x w1).bind fun c _ => if c = true then .ok x w1 else b σ w1
def notM (x : D) (w : W) : Res D := (gZ x w).bind fun c _ => .ok (.bl (!c)) w
def eIf (t : MT) (a b : ME) : ME := fun σ w => (t σ w).bind fun c w1 => if c = true then a σ w1 else b σ w1
section
variable {S : aR} {pos : Pos} {a b c : Expr} {ma mb : ME} {ta tb : MT} {rest : List Expr}
theorem bX {α : Type} {K : PySem.W.Frag} {E : XK} {m : ME} {f : Sg → D → W → Res α} {I : List Addr} {F G H : Hp} {ds : Sg} {w : W} {σ : L2.St} {R : List Addr → Hp → Hp → α → W → Prop} (rel : Rel K I F G w H) (rs : dW K I F ds σ)
  (p : bF K I F G E R ((m ds w).bind (f ds))) {Q : VK} (k : ∀ I1 F1 H1 x w1 v, Ext I F I1 F1 → Rel K I1 F1 G w1 H1 → dW K I1 F1 ds σ → aH K I1 F1 x v → bF K I1 F1 G E R (f ds x w1) → Q v H1) : sP K E m σ H Q :=
 ⟨I, F, G, ds, w, rel, rs, (bF.bind p).mono fun I1 F1 H1 x w1 _ e1 rel1 p1 v rv => k I1 F1 H1 x w1 v e1 rel1 (rs.ext e1) rv p1⟩
theorem qI {α : Type} {K : PySem.W.Frag} {E : XK} {m : MT} {f : Sg → Bool → W → Res α} {I : List Addr} {F G H : Hp} {ds : Sg} {w : W} {σ : L2.St} {R : List Addr → Hp → Hp → α → W → Prop} (rel : Rel K I F G w H) (rs : dW K I F ds σ)
  (p : bF K I F G E R ((m ds w).bind (f ds))) {Q : Bool → Hp → Prop} (k : ∀ I1 F1 H1 c w1, Ext I F I1 F1 → Rel K I1 F1 G w1 H1 → dW K I1 F1 ds σ → bF K I1 F1 G E R (f ds c w1) → Q c H1) : SQ K E m σ H Q :=
 ⟨I, F, G, ds, w, rel, rs, (bF.bind p).mono fun I1 F1 H1 x w1 _ e1 rel1 p1 => k I1 F1 H1 x w1 e1 rel1 (rs.ext e1) p1⟩
theorem fD {α : Type} {K : PySem.W.Frag} {E : XK} {m : MA} {f : Sg → List D → W → Res α} {I : List Addr} {F G H : Hp} {ds : Sg} {w : W} {σ : L2.St} {R : List Addr → Hp → Hp → α → W → Prop} (rel : Rel K I F G w H) (rs : dW K I F ds σ)
  (p : bF K I F G E R ((m ds w).bind (f ds))) {Q : List V → Hp → Prop} (k : ∀ I1 F1 H1 xs w1 vs, Ext I F I1 F1 → Rel K I1 F1 G w1 H1 → dW K I1 F1 ds σ → RepL K I1 F1 xs vs → bF K I1 F1 G E R (f ds xs w1) → Q vs H1) : aBL K E m σ H Q :=
 ⟨I, F, G, ds, w, rel, rs, (bF.bind p).mono fun I1 F1 H1 x w1 _ e1 rel1 p1 v rv => k I1 F1 H1 x w1 v e1 rel1 (rs.ext e1) rv p1⟩
theorem bF.nL {K : PySem.W.Frag} {I : List Addr} {F G H : Hp} {E : XK} {Q : VK} {d : D} {w : W} (p : bF K I F G E (RV K Q) (.ok d w)) (rel : Rel K I F G w H) {v : V} (h : aH K I F d v) : Q v H := p I F H .refl rel v h
theorem bF.okB {K : PySem.W.Frag} {I : List Addr} {F G H : Hp} {E : XK} {Q : Bool → Hp → Prop} {b : Bool} {w : W} (p : bF K I F G E (RB Q) (.ok b w)) (rel : Rel K I F G w H) : Q b H := p I F H .refl rel
theorem bF.truth {α : Type} {K : PySem.W.Frag} {I : List Addr} {F G H : Hp} {E : XK} {R : List Addr → Hp → Hp → α → W → Prop} {d : D} {w : W} {v : V} {f : Bool → W → Res α} (p : bF K I F G E R ((gZ d w).bind f)) (rel : Rel K I F G w H) (h : aH K I F d v) :
  ∃ b, TruV K v H b ∧ bF K I F G E R (f b w) := by
 unfold gZ at p
 split at p
 ·rename_i b e
  exact ⟨b, aCk rel h e, p⟩
 ·exact p.elim
theorem bT (ha : JE S a ma) (he : ∀ (env : Env) (whole : Sem Value), isTrue a env whole = (do let v ← whole; standAt a.pos; holding [v] (truthy v)) := by intro _ _; rfl) : JT S a (cW ma) := fun X E cx xo =>
 DP (pt_truth (ha X E cx xo) (he X.env)) fun σ H Q ⟨I, F, G, ds, w, rel, rs, p⟩ => bX (f := fun _ => gZ) rel rs p fun I1 F1 H1 x w1 v e1 rel1 rs1 rv p1 => by
  have p2 : bF X.K I1 F1 G E (RB Q) ((gZ x w1).bind fun b w => .ok b w) := by
   cases h : gZ x w1 <;> rw [h] at p1 <;> exact p1
  obtain ⟨b, hb, p3⟩ := p2.truth rel1 rv
  exact ⟨b, hb, p3.okB rel1⟩
theorem qZ (h : JW S a ta) : JT S a ta := fun X E cx xo => (h X E cx xo).pt
theorem WJ (ha : JT S a ta) : JW S (.BoolOp .And [a] pos) ta := fun X E cx xo => pw_and1 (ha X E cx xo)
theorem g9 (ha : JT S a ta) : JW S (.BoolOp .Or [a] pos) ta := fun X E cx xo => pw_or1 (ha X E cx xo)
theorem aBc (ha : JT S a ta) (hb : JW S (.BoolOp .And (b :: rest) pos) tb) : JW S (.BoolOp .And (a :: b :: rest) pos) (iD ta tb) := fun X E cx xo =>
 VL (pw_and (ha X E cx xo) (hb X E cx xo)) fun σ H Q ⟨I, F, G, ds, w, rel, rs, p⟩ => qI (f := fun ds c w1 => if c = true then tb ds w1 else .ok false w1) rel rs p fun I1 F1 H1 c w1 e1 rel1 rs1 p1 => by
  cases c with
  | true => exact ⟨I1, F1, G, ds, w1, rel1, rs1, p1⟩
  | false => exact p1.okB rel1
theorem fR (ha : JT S a ta) (hb : JW S (.BoolOp .Or (b :: rest) pos) tb) : JW S (.BoolOp .Or (a :: b :: rest) pos) (eV ta tb) := fun X E cx xo =>
 VL (pw_or (ha X E cx xo) (hb X E cx xo)) fun σ H Q ⟨I, F, G, ds, w, rel, rs, p⟩ => qI (f := fun ds c w1 => if c = true then .ok true w1 else tb ds w1) rel rs p fun I1 F1 H1 c w1 e1 rel1 rs1 p1 => by
  cases c with
  | true => exact p1.okB rel1
  | false => exact ⟨I1, F1, G, ds, w1, rel1, rs1, p1⟩
theorem c7 (ha : JT S a ta) : JT S (.UnaryOp .Not a pos) (bU ta) := fun X E cx xo =>
 DP (pt_not (ha X E cx xo)) fun σ H Q ⟨I, F, G, ds, w, rel, rs, p⟩ => qI (f := fun _ c w1 => .ok (!c) w1) rel rs p fun I1 F1 H1 c w1 e1 rel1 rs1 p1 => p1.okB rel1
theorem BN {op : BoolOp} (h : JE S a ma) : JE S (.BoolOp op [a] pos) ma := fun X E cx xo => pe_one (h X E cx xo)
theorem t6 (ha : JE S a ma) (hb : JE S (.BoolOp .And (b :: rest) pos) mb) : JE S (.BoolOp .And (a :: b :: rest) pos) (jX ma mb) := fun X E cx xo =>
 b0 (pe_andT (ha X E cx xo) (hb X E cx xo)) fun σ H Q ⟨I, F, G, ds, w, rel, rs, p⟩ => bX (f := fun ds x w1 => (gZ x w1).bind fun c _ => if c = true then mb ds w1 else .ok x w1) rel rs p fun I1 F1 H1 x w1 v e1 rel1 rs1 rv p1 => by
  obtain ⟨k, hk, p2⟩ := p1.truth rel1 rv
  refine ⟨k, hk, ?_⟩
  cases k with
  | true => exact ⟨I1, F1, G, ds, w1, rel1, rs1, p2⟩
  | false => exact p2.nL rel1 rv
theorem YV (ha : JE S a ma) : JE S (.UnaryOp .Not a pos) (yX notM ma) := fun X E cx xo =>
 b0 (pe_notT (ha X E cx xo)) fun σ H Q ⟨I, F, G, ds, w, rel, rs, p⟩ => bX (f := fun _ => notM) rel rs p fun I1 F1 H1 x w1 v e1 rel1 rs1 rv p1 => by
  obtain ⟨k, hk, p2⟩ := bF.truth p1 rel1 rv
  exact ⟨k, hk, p2.nL rel1 (by simp [aH])⟩
theorem YX (ht : JT S c ta) (ha : JE S a ma) (hb : JE S b mb) : JE S (.IfExp c a b pos) (eIf ta ma mb) := fun X E cx xo =>
 b0 (pe_ifExp (ht X E cx xo) (ha X E cx xo) (hb X E cx xo)) fun σ H Q ⟨I, F, G, ds, w, rel, rs, p⟩ => qI (f := fun ds c w1 => if c = true then ma ds w1 else mb ds w1) rel rs p fun I1 F1 H1 c w1 e1 rel1 rs1 p1 => by
  cases c with
  | true => exact ⟨I1, F1, G, ds, w1, rel1, rs1, p1⟩
  | false => exact ⟨I1, F1, G, ds, w1, rel1, rs1, p1⟩
end
def aE : MA := fun _ w => .ok [] w
def aA (a : ME) (r : MA) : MA := fun σ w => (a σ w).bind fun x w1 => (r σ w1).bind fun xs w2 => .ok (x :: xs) w2
def bQ (a : MA) : ME := fun σ w => (a σ w).bind fun xs w1 => if xs.length ≤ sizeLine then .ok (.tup xs) w1 else .bad
def eI (a : MA) : ME := fun σ w => (a σ w).bind fun xs w1 => if xs.length ≤ sizeLine then .ok (.lst xs) w1 else .bad
def eNew (a : MA) : ME := fun σ w => (a σ w).bind fun xs w1 => if xs.length ≤ sizeLine then .ok (.ref w1.length) (w1 ++ [.lst xs]) else .bad
theorem x8 {K : PySem.W.Frag} {I : List Addr} {F G H : Hp} {E : XK} {w : W} {o : MO} {u : HO} {Q : VK} (rel : Rel K I F G w H) (r : kP K I F o u) (p : bF K I F G E (RV K Q) (.ok (.ref w.length) (w ++ [o]))) : ∀ q, H q = none → Q (.ref q) (upd H q u) := fun q hq => by
 have hF : F q = none := by
  cases h : F q with
  | none => rfl
  | some u => rw [rel.fz _ _ h] at hq; cases hq
 have hI : q ∉ I := fun z => by
  obtain ⟨i, hi⟩ := List.mem_iff_getElem?.mp z
  have hl : i < w.length := by rw [← rel.len]; exact (ai.mp hi).1
  obtain ⟨u, h3, _⟩ := rel.ob i q _ hi (bj hl)
  rw [h3] at hq; cases hq
 have e : Ext I F (I ++ [q]) F := ⟨List.prefix_append _ _, fun _ _ h => h⟩
 refine p (I ++ [q]) F (upd H q u) e ⟨by simp [rel.len], ?_, fun i a o' h1 h2 => ?_, fun a u' h => ?_, fun i a o' h h0 hf => ?_, fun a u' h => ?_, fun a u' h => ?_, rel.gt⟩ _ ?_
 ·rw [List.nodup_append]
  exact ⟨rel.nd, by simp, fun a ha b hb => by simp at hb; subst hb; exact fun z => hI (z ▸ ha)⟩
 ·by_cases hi : i < I.length
  ·rw [av hi] at h1
   rw [av (by rw [← rel.len]; exact hi)] at h2
   obtain ⟨u', h3, h4⟩ := rel.ob i a o' h1 h2
   exact ⟨u', by rw [upd_ne (ne_of_none h3 hq)]; exact h3, kP.ext e h4⟩
  ·have hi2 : i = I.length := by
    have := (ai.mp h1).1
    simp at this; omega
   subst hi2
   rw [bp (bx _)] at h1
   simp at h1
   rw [rel.len, bp (bx _)] at h2
   simp at h2
   subst h1 h2
   exact ⟨u, upd_same, kP.ext e r⟩
 ·rw [upd_ne (ne_of_none h hF)]; exact rel.fz a u' h
 ·by_cases hi : i < I.length
  ·rw [av hi] at h
   rw [av (by rw [← rel.len]; exact hi)] at h0
   exact rel.ap i a o' h h0 hf
  ·have hi2 : i = I.length := by
    have := (ai.mp h).1
    simp at this; omega
   subst hi2
   rw [bp (bx _)] at h
   simp at h
   subst h; exact hF
 ·rw [upd_ne (ne_of_none (rel.gz a u' h) hq)]; exact rel.gz a u' h
 ·refine ⟨(rel.gf a u' h).1, fun z => ?_⟩
  rcases ck.mp z with z | z
  ·exact (rel.gf a u' h).2 z
  ·simp at z; subst z; rw [rel.gz a u' h] at hq; cases hq
 ·simp only [aH]
  refine ⟨q, rfl, ?_⟩
  rw [← rel.len, bp (bx _)]
  simp
section
variable {S : aR} {pos : Pos} {e : Expr} {es : List Expr} {m : ME} {ma : MA}
theorem aF : JA S [] aE := fun X E cx xo => DE pa_nil fun σ H Q ⟨I, F, G, ds, w, rel, rs, p⟩ => p I F H .refl rel [] (by simp [RepL])
theorem aC (he : JE S e m) (hr : JA S es ma) (hs : ∀ env : Env, starEach (e :: es) env = (false, eval e env) :: starEach es env := by intro _; rfl) : JA S (e :: es) (aA m ma) := fun X E cx xo =>
 DE (pa_cons (he X E cx xo) (hr X E cx xo) (hs X.env)) fun σ H Q ⟨I, F, G, ds, w, rel, rs, p⟩ =>
  bX (f := fun ds x w1 => (ma ds w1).bind fun xs w2 => .ok (x :: xs) w2) rel rs p fun I1 F1 H1 x w1 v e1 rel1 rs1 rv p1 =>
   fD (f := fun _ xs w2 => .ok (x :: xs) w2) rel1 rs1 p1 fun I2 F2 H2 xs w2 vs e2 rel2 rs2 rvs p2 => p2 I2 F2 H2 .refl rel2 _ (RepL.cons (aH.ext e2 _ _ rv) rvs)
theorem cF {k : Nat} (h : JA S es ma) : JE S (.Tuple es k pos) (bQ ma) := fun X E cx xo =>
 b0 (pe_tup (h X E cx xo)) fun σ H Q ⟨I, F, G, ds, w, rel, rs, p⟩ =>
  fD (f := fun _ xs w1 => if xs.length ≤ sizeLine then Res.ok (D.tup xs) w1 else .bad) rel rs p fun I1 F1 H1 xs w1 vs e1 rel1 rs1 rvs p1 => by
   split at p1
   ·rename_i hl
    exact ⟨by rw [← rvs.length]; exact hl, vA rel1 rvs p1⟩
   ·exact p1.elim
theorem dE (h : JA S es ma) : JE S (.List es pos) (eI ma) := fun X E cx xo =>
 b0 (pe_lst (h X E cx xo)) fun σ H Q ⟨I, F, G, ds, w, rel, rs, p⟩ =>
  fD (f := fun _ xs w1 => if xs.length ≤ sizeLine then Res.ok (D.lst xs) w1 else .bad) rel rs p fun I1 F1 H1 xs w1 vs e1 rel1 rs1 rvs p1 => by
   split at p1
   ·rename_i hl
    exact ⟨by rw [← rvs.length]; exact hl, kI rel1 rvs p1⟩
   ·exact p1.elim
theorem aFk (h : JA S es ma) : JE S (.List es pos) (eNew ma) := fun X E cx xo =>
 b0 (pe_lst (h X E cx xo)) fun σ H Q ⟨I, F, G, ds, w, rel, rs, p⟩ =>
  fD (f := fun _ xs w1 => if xs.length ≤ sizeLine then Res.ok (D.ref w1.length) (w1 ++ [.lst xs]) else .bad) rel rs p fun I1 F1 H1 xs w1 vs e1 rel1 rs1 rvs p1 => by
   split at p1
   ·rename_i hl
    exact ⟨by rw [← rvs.length]; exact hl, x8 (o := .lst xs) rel1 ⟨vs, rfl, rvs⟩ p1⟩
   ·exact p1.elim
end
def bC : MS := fun σ w => .ok (.nx σ) w
def aI (a b : MS) : MS := fun σ w => (a σ w).bind fun f w1 => match f with
 | .nx σ1 => b σ1 w1
 | f => .ok f w1
def bE (e : ME) : MS := fun σ w => (e σ w).bind fun d w1 => .ok (.rt d) w1
def cY (e : ME) : MS := fun σ w => (e σ w).bind fun _ w1 => .ok (.nx σ) w1
def dN (t : MT) (a b : MS) : MS := fun σ w => (t σ w).bind fun c w1 => if c = true then a σ w1 else b σ w1
abbrev MG := D → Sg → W → Res Sg
def a7 (i : Nat) : MG := fun d σ w => .ok (σ.set i (some d)) w
def aT (e : ME) (g : MG) : MS := fun σ w => (e σ w).bind fun d w1 => (g d σ w1).bind fun σ2 w2 => .ok (.nx σ2) w2
def aC8 : MS := fun _ _ => .bad
def RSg (K : PySem.W.Frag) (Q : L2.St → Hp → Prop) : List Addr → Hp → Hp → Sg → W → Prop := fun I' F' H' s _ => ∀ s', dW K I' F' s s' → Q s' H'
def lowG (K : PySem.W.Frag) (E : XK) (g : MG) : TG := fun v σ H Q => ∃ I F G d ds w, Rel K I F G w H ∧ dW K I F ds σ ∧ aH K I F d v ∧ bF K I F G E (RSg K Q) (g d ds w)
def JG (S : aR) (t : Expr) (g : MG) : Prop := ∀ X E, Ctx S X → qL X E → PG X t (lowG X.K E g)
theorem yQ {X : Cx} {e : Expr} {t t' : TG} (h : PG X e t) (k : ∀ v σ H Q, t' v σ H Q → t v σ H Q) : PG X e t' := ⟨fun pins s σ H v u Q I r q => h.run pins s σ H v u Q I r (k v σ H Q q)⟩
section
variable {S : aR} {pos pos' : Pos} {e : Expr} {st : Stmt} {sts : List Stmt} {m : ME} {a b : MS} {g : MG} {t : MT}
theorem b8 : qK S [] bC := fun X E cx xo => zI pss_nil fun Z σ H ⟨I, F, G, ds, w, rel, rs, p⟩ => p I F H .refl rel _ rs
theorem NJ {K : PySem.W.Frag} {E : XK} {Z : Ends} {σ : L2.St} {H : Hp} (h : FG K E (aI a b) Z σ H) : FG K E a { Z with nx := FG K E b Z } σ H := by
 obtain ⟨I, F, G, ds, w, rel, rs, p⟩ := h
 refine ⟨I, F, G, ds, w, rel, rs, (bF.bind p).mono fun I1 F1 H1 f w1 _ e1 rel1 p1 => ?_⟩
 cases f with
 | nx s => exact fun s' rs' => ⟨I1, F1, G, s, w1, rel1, rs', p1⟩
 | rt d => exact fun v rv => p1 I1 F1 H1 .refl rel1 v rv
 | bk s => exact fun s' rs' => p1 I1 F1 H1 .refl rel1 s' rs'
 | ct s => exact fun s' rs' => p1 I1 F1 H1 .refl rel1 s' rs'
theorem aL (h1 : JS S st a) (h2 : qK S sts b) : qK S (st :: sts) (aI a b) := fun X E cx xo =>
 zI (pss_cons (h1 X E cx xo) (h2 X E cx xo)) fun Z σ H h => NJ h
theorem aZ (h1 : JS S st a) : qK S [st] a := fun X E cx xo => pss_one (h1 X E cx xo)
theorem bO (he : JE S e m) : JS S (.Return (some e) pos) (bE m) := fun X E cx xo =>
 jF (ps_ret (he X E cx xo)) fun Z σ H ⟨I, F, G, ds, w, rel, rs, p⟩ => bX (f := fun _ d w1 => Res.ok (Fl.rt d) w1) rel rs p fun I1 F1 H1 x w1 v e1 rel1 rs1 rv p1 => p1 I1 F1 H1 .refl rel1 v rv
theorem DO (he : JE S e m) (hs : ∀ env : Env, swapsWith e none pos.line env = pure false := by intro _; rfl) : JS S (.Expr e pos) (cY m) := fun X E cx xo =>
 jF (ps_expr (he X E cx xo) (hs X.env)) fun Z σ H ⟨I, F, G, ds, w, rel, rs, p⟩ => bX (f := fun ds _ w1 => Res.ok (Fl.nx ds) w1) rel rs p fun I1 F1 H1 x w1 v e1 rel1 rs1 rv p1 => p1 I1 F1 H1 .refl rel1 σ rs1
theorem eJ {x : Expr} {sa sb : List Stmt} (ht : JT S x t) (ha : qK S sa a) (hb : qK S sb b) : JS S (.If x sa sb pos) (dN t a b) := fun X E cx xo =>
 jF (ps_if (ht X E cx xo) (ha X E cx xo) (hb X E cx xo)) fun Z σ H ⟨I, F, G, ds, w, rel, rs, p⟩ => qI (f := fun ds c w1 => if c = true then a ds w1 else b ds w1) rel rs p fun I1 F1 H1 c w1 e1 rel1 rs1 p1 => by
  cases c with
  | true => exact ⟨I1, F1, G, ds, w1, rel1, rs1, p1⟩
  | false => exact ⟨I1, F1, G, ds, w1, rel1, rs1, p1⟩
def Sto (S : aR) (x : Str) : Prop := Loc S.sc x ∧ (S.fn x = true ∨ S.sc.names.lookup x = some .local)
theorem aC9 {i : Nat} {x : Str} (hi : S.N[i]? = some x) (hx : Sto S x) : JG S (.Name x pos) (a7 i) := fun X E cx xo =>
 yQ (pg_name (i := i) (x := x) cx.nd (by rw [cx.N]; exact hi) (by rw [cx.sc]; exact hx.1) (by rw [cx.sc]; exact hx.2.imp (cx.fn x) id)) fun v σ H Q ⟨I, F, G, d, ds, w, rel, rs, rv, p⟩ => p I F H .refl rel _ (rs.set i rv)
theorem VH {K : PySem.W.Frag} {E : XK} {Z : Ends} {σ : L2.St} {H : Hp} (h : FG K E (aT m g) Z σ H) : sP K E m σ H fun v H1 => lowG K E g v σ H1 Z.nx := by
 obtain ⟨I, F, G, ds, w, rel, rs, p⟩ := h
 exact bX (f := fun ds d w1 => (g d ds w1).bind fun σ2 w2 => Res.ok (Fl.nx σ2) w2) rel rs p fun I1 F1 H1 x w1 v e1 rel1 rs1 rv p1 =>
  ⟨I1, F1, G, x, ds, w1, rel1, rs1, rv, (bF.bind p1).mono fun I2 F2 H2 s w2 _ e2 rel2 p2 s' rs2 => p2 I2 F2 H2 .refl rel2 s' rs2⟩
theorem aF1 {i : Nat} {x : Str} (hi : S.N[i]? = some x) (hx : Sto S x) (he : JE S e m) (hs : ∀ env : Env, swapsWith e (some (.Name x pos')) pos.line env = pure false := by intro _; rfl) : JS S (.Assign [.Name x pos'] e pos) (aT m (a7 i)) := fun X E cx xo =>
 jF (ps_set (i := i) (x := x) cx.nd (by rw [cx.N]; exact hi) (by rw [cx.sc]; exact hx.1) (he X E cx xo) (hs X.env) (by rw [cx.sc]; exact hx.2.imp (cx.fn x) id)) fun Z σ H ⟨I, F, G, ds, w, rel, rs, p⟩ =>
  bX (f := fun ds d w1 => (a7 i d ds w1).bind fun σ2 w2 => Res.ok (Fl.nx σ2) w2) rel rs p fun I1 F1 H1 x w1 v e1 rel1 rs1 rv p1 => p1 I1 F1 H1 .refl rel1 _ (rs1.set i rv)
theorem AS {tg : Expr} (he : JE S e m) (hg : JG S tg g) (hs : ∀ env : Env, swapsWithSole [tg] e pos.line env = pure false := by intro _; rfl) (hw : ∀ env : Env, swappedStores [tg] e env = pure none := by intro _; rfl)
  (h1 : ∀ env : Env, (assignEach [tg] env).map (·.2) = [assign tg env] := by intro _; rfl) : JS S (.Assign [tg] e pos) (aT m g) := fun X E cx xo =>
 jF (ps_asg (he X E cx xo) (hg X E cx xo) (hs X.env) (hw X.env) (h1 X.env)) fun Z σ H h => VH h
end
abbrev XR := List D → Sg → W → Res Sg
def bW : XR := fun ds σ w => match ds with
 | [] => .ok σ w
 | _ => .bad
def aK (g : MG) (r : XR) : XR := fun ds σ w => match ds with
 | d :: ds => (g d σ w).bind fun σ1 w1 => r ds σ1 w1
 | [] => .bad
def bY (n : Nat) (r : XR) : MG := fun d σ w => match d with
 | .tup xs => if xs.length = n then r xs σ w else .bad
 | .lY xs => if xs.length = n then r xs σ w else .bad
 | _ => .bad
def aGm (K : PySem.W.Frag) (E : XK) (g : XR) : TGs := fun vs σ H Q => ∃ I F G xs ds w, Rel K I F G w H ∧ dW K I F ds σ ∧ RepL K I F xs vs ∧ bF K I F G E (RSg K Q) (g xs ds w)
def JGs (S : aR) (ts : List Expr) (g : XR) : Prop := ∀ X E, Ctx S X → qL X E → PGs X ts (aGm X.K E g)
theorem xY {X : Cx} {e : List Expr} {t t' : TGs} (h : PGs X e t) (k : ∀ v σ H Q, t' v σ H Q → t v σ H Q) : PGs X e t' := ⟨fun pins s σ H v u Q I r q => h.run pins s σ H v u Q I r (k v σ H Q q)⟩
section
variable {S : aR} {pos pos' : Pos} {e : Expr} {es : List Expr} {g : MG} {r : XR}
theorem zS : JGs S [] bW := fun X E cx xo => xY pgs_nil fun vs σ H Q ⟨I, F, G, xs, ds, w, rel, rs, rv, p⟩ => by
 cases xs with
 | nil =>
  simp only [RepL] at rv
  exact ⟨rv, p I F H .refl rel _ rs⟩
 | cons => exact p.elim
theorem hR (h1 : JG S e g) (h2 : JGs S es r) (hs : ∀ env : Env, (assignEach (e :: es) env).map (·.2) = assign e env :: (assignEach es env).map (·.2) := by intro _; rfl) : JGs S (e :: es) (aK g r) := fun X E cx xo =>
 xY (pgs_cons (h1 X E cx xo) (h2 X E cx xo) (hs X.env)) fun vs σ H Q ⟨I, F, G, xs, ds, w, rel, rs, rv, p⟩ => by
  cases xs with
  | nil => exact p.elim
  | cons x xs =>
   simp only [RepL] at rv
   obtain ⟨v, t, rfl, rv1, rvs⟩ := rv
   exact ⟨v, t, rfl, I, F, G, x, ds, w, rel, rs, rv1, (bF.bind p).mono fun I1 F1 H1 s w1 _ e1 rel1 p1 s' rs1 => ⟨I1, F1, G, xs, s, w1, rel1, rs1, RepL.ext e1 _ _ rvs, p1⟩⟩
theorem GU {k n : Nat} (h : JGs S es r) (hn : ∀ env : Env, (assignEach es env).length = n := by intro _; rfl) (hst : ∀ env : Env, (assignEach es env).findIdx? (·.1) = none := by intro _; rfl) : JG S (.Tuple es k pos) (bY n r) := fun X E cx xo =>
 yQ (pg_tup cx.calm (h X E cx xo) (hn X.env) (hst X.env)) fun v σ H Q ⟨I, F, G, d, ds, w, rel, rs, rv, p⟩ => by
  cases d <;> first | exact p.elim | skip
  all_goals
   rename_i xs
   simp only [aH] at rv
   obtain ⟨a, vs, rfl, h1, h2⟩ := rv
   simp only [bY] at p
   split at p
   ·rename_i hl
    exact ⟨a, vs, rfl, (by first | exact .of (rel.fz _ _ h1) | exact rel.RS h1), by rw [← h2.length]; exact hl, I, F, G, xs, ds, w, rel, rs, h2, p⟩
   ·exact p.elim
end
mutual
def D.cl (n : Nat) : D → Bool
 | .tup xs => D.cls n xs
 | .lst xs => D.cls n xs
 | .oI xs => D.cls n xs
 | .lY xs => D.cls n xs
 | .zX ks xs => D.cls n ks && D.cls n xs
 | .ref i => decide (i < n)
 | .non => true
 | .bl _ => true
 | .int _ => true
 | .str _ => true
 | .ty _ => true
 | .con _ => true
def D.cls (n : Nat) : List D → Bool
 | [] => true
 | d :: ds => D.cl n d && D.cls n ds
end
def MO.cl (n : Nat) : MO → Bool
 | .lst xs => D.cls n xs
 | .dK kvs => D.cls n (kvs.map (·.2))
 | .dT kvs => D.cls n (kvs.map (·.2))
 | .dF kvs => D.cls n (kvs.map (·.2))
 | .dG kvs => D.cls n (kvs.map (·.2))
 | .ins _ fs => D.cls n (fs.map (·.2))
section
variable {K : PySem.W.Frag} {I : List Addr} {F : Hp} {n : Nat}
theorem aAN {n i : Nat} {a : Addr} (h : I[i]? = some a) (hi : i < n) : (I.take n)[i]? = some a := by
 rw [List.getElem?_take_of_lt hi]; exact h
mutual
theorem aH.cut : ∀ (d : D) (v : V), aH K I F d v → d.cl n = true → aH K (I.take n) F d v
 | .non, _, h, _ => by simpa only [aH] using h
 | .bl _, _, h, _ => by simpa only [aH] using h
 | .int _, _, h, _ => by simpa only [aH] using h
 | .str _, _, h, _ => by simpa only [aH] using h
 | .ty _, _, h, _ => by simpa only [aH] using h
 | .con _, _, h, _ => by simpa only [aH] using h
 | .tup xs, v, h, c => by
  simp only [aH, D.cl] at h c ⊢
  obtain ⟨a, vs, h1, h2, h3⟩ := h
  exact ⟨a, vs, h1, h2, RepL.cut xs vs h3 c⟩
 | .lst xs, v, h, c => by
  simp only [aH, D.cl] at h c ⊢
  obtain ⟨a, vs, h1, h2, h3⟩ := h
  exact ⟨a, vs, h1, h2, RepL.cut xs vs h3 c⟩
 | .oI xs, v, h, c => by
  simp only [aH, D.cl] at h c ⊢
  obtain ⟨a, vs, h1, h2, h3⟩ := h
  exact ⟨a, vs, h1, h2, RepL.cut xs vs h3 c⟩
 | .lY xs, v, h, c => by
  simp only [aH, D.cl] at h c ⊢
  obtain ⟨a, vs, h1, h2, h3⟩ := h
  exact ⟨a, vs, h1, h2, RepL.cut xs vs h3 c⟩
 | .zX ks xs, v, h, c => by
  simp only [aH, D.cl, ao] at h c ⊢
  obtain ⟨a, kvs, h1, h2, h3, h4⟩ := h
  exact ⟨a, kvs, h1, h2, RepL.cut ks _ h3 c.1, RepL.cut xs _ h4 c.2⟩
 | .ref i, v, h, c => by
  simp only [aH, D.cl, ak] at h c ⊢
  obtain ⟨a, h1, h2⟩ := h
  exact ⟨a, h1, aAN h2 c⟩
theorem RepL.cut : ∀ (ds : List D) (vs : List V), RepL K I F ds vs → D.cls n ds = true → RepL K (I.take n) F ds vs
 | [], _, h, _ => by simpa only [RepL] using h
 | d :: ds, vs, h, c => by
  simp only [RepL, D.cls, ao] at h c ⊢
  obtain ⟨v, r, h1, h2, h3⟩ := h
  exact ⟨v, r, h1, aH.cut d v h2 c.1, RepL.cut ds r h3 c.2⟩
end
theorem aQ.cut {κ : Type} : ∀ (ds : List (κ × D)) (vs : List (κ × V)), aQ K I F ds vs → D.cls n (ds.map (·.2)) = true → aQ K (I.take n) F ds vs
 | [], _, h, _ => by simpa only [aQ] using h
 | (k, d) :: ds, vs, h, c => by
  simp only [aQ, cw, D.cls, ao] at h c ⊢
  obtain ⟨v, r, h1, h2, h3⟩ := h
  exact ⟨v, r, h1, aH.cut d v h2 c.1, aQ.cut ds r h3 c.2⟩
theorem kP.cut {o : MO} {u : HO} (h : kP K I F o u) (c : o.cl n = true) : kP K (I.take n) F o u := by
 cases o with
 | lst xs => obtain ⟨vs, h1, h2⟩ := h; exact ⟨vs, h1, RepL.cut _ _ h2 c⟩
 | dK xs => obtain ⟨vs, h1, h2⟩ := h; exact ⟨vs, h1, aQ.cut _ _ h2 c⟩
 | dT xs => obtain ⟨vs, h1, h2⟩ := h; exact ⟨vs, h1, aQ.cut _ _ h2 c⟩
 | dF xs => obtain ⟨o, vs, h1, h2⟩ := h; exact ⟨o, vs, h1, aQ.cut _ _ h2 c⟩
 | dG xs => obtain ⟨o, vs, h1, h2⟩ := h; exact ⟨o, vs, h1, aQ.cut _ _ h2 c⟩
 | ins C xs => obtain ⟨dx, vs, h1, h2⟩ := h; exact ⟨dx, vs, h1, aQ.cut _ _ h2 c⟩
mutual
theorem aH.cl : ∀ (d : D) (v : V), aH K I F d v → I.length ≤ n → d.cl n = true
 | .non, _, _, _ => by simp [D.cl]
 | .bl _, _, _, _ => by simp [D.cl]
 | .int _, _, _, _ => by simp [D.cl]
 | .str _, _, _, _ => by simp [D.cl]
 | .ty _, _, _, _ => by simp [D.cl]
 | .con _, _, _, _ => by simp [D.cl]
 | .tup xs, v, h, l => by
  simp only [aH, D.cl] at h ⊢
  obtain ⟨a, vs, h1, h2, h3⟩ := h
  exact RepL.cl xs vs h3 l
 | .lst xs, v, h, l => by
  simp only [aH, D.cl] at h ⊢
  obtain ⟨a, vs, h1, h2, h3⟩ := h
  exact RepL.cl xs vs h3 l
 | .oI xs, v, h, l => by
  simp only [aH, D.cl] at h ⊢
  obtain ⟨a, vs, h1, h2, h3⟩ := h
  exact RepL.cl xs vs h3 l
 | .lY xs, v, h, l => by
  simp only [aH, D.cl] at h ⊢
  obtain ⟨a, vs, h1, h2, h3⟩ := h
  exact RepL.cl xs vs h3 l
 | .zX ks xs, v, h, l => by
  simp only [aH, D.cl, ao] at h ⊢
  obtain ⟨a, kvs, h1, h2, h3, h4⟩ := h
  exact ⟨RepL.cl ks _ h3 l, RepL.cl xs _ h4 l⟩
 | .ref i, v, h, l => by
  simp only [aH, D.cl, ak] at h ⊢
  obtain ⟨a, h1, h2⟩ := h
  have := (ai.mp h2).1
  omega
theorem RepL.cl : ∀ (ds : List D) (vs : List V), RepL K I F ds vs → I.length ≤ n → D.cls n ds = true
 | [], _, _, _ => by simp [D.cls]
 | d :: ds, vs, h, l => by
  simp only [RepL, D.cls, ao] at h ⊢
  obtain ⟨v, r, h1, h2, h3⟩ := h
  exact ⟨aH.cl d v h2 l, RepL.cl ds r h3 l⟩
end
theorem aQ.cl {κ : Type} : ∀ (ds : List (κ × D)) (vs : List (κ × V)), aQ K I F ds vs → I.length ≤ n → D.cls n (ds.map (·.2)) = true
 | [], _, _, _ => by simp [D.cls]
 | (k, d) :: ds, vs, h, l => by
  simp only [aQ, cw, D.cls, ao] at h ⊢
  obtain ⟨v, r, h1, h2, h3⟩ := h
  exact ⟨aH.cl d v h2 l, aQ.cl ds r h3 l⟩
theorem kP.cl {o : MO} {u : HO} (h : kP K I F o u) (l : I.length ≤ n) : o.cl n = true := by
 cases o with
 | lst xs => obtain ⟨vs, h1, h2⟩ := h; exact RepL.cl _ _ h2 l
 | dK xs => obtain ⟨vs, h1, h2⟩ := h; exact aQ.cl _ _ h2 l
 | dT xs => obtain ⟨vs, h1, h2⟩ := h; exact aQ.cl _ _ h2 l
 | dF xs => obtain ⟨o, vs, h1, h2⟩ := h; exact aQ.cl _ _ h2 l
 | dG xs => obtain ⟨o, vs, h1, h2⟩ := h; exact aQ.cl _ _ h2 l
 | ins C xs => obtain ⟨dx, vs, h1, h2⟩ := h; exact aQ.cl _ _ h2 l
end
def aF5 (w0 w : W) : Prop := w0.length ≤ w.length ∧ ∀ (i : Nat) (o : MO), w[i]? = some o → w0[i]? = some o ∨ o.cl w.length = true
def XD.cl (n : Nat) (x : XD) : Bool := match x.fs with
 | none => true
 | some fs => D.cls n (fs.map (·.2))
def Fits (w0 : W) (r r' : Res D) : Prop := match r with
 | .bad => True
 | .ok d w => ∃ g, r' = .ok d (w ++ g) ∧ (g = [] ∨ (d.cl w.length = true ∧ aF5 w0 w))
 | .vY x w => ∃ g, r' = .vY x (w ++ g) ∧ (g = [] ∨ (x.cl w.length = true ∧ aF5 w0 w))
theorem Fits.kK {w0 : W} {r : Res D} : Fits w0 r r := by
 cases r with
 | ok d w => exact ⟨[], by simp, .inl rfl⟩
 | vY x w => exact ⟨[], by simp, .inl rfl⟩
 | bad => trivial
theorem Fits.of_eq {w0 : W} {r r' : Res D} (h : r' = r) : Fits w0 r r' := h ▸ Fits.kK
theorem VE {K : PySem.W.Frag} {I I' : List Addr} {F F' G H H' : Hp} {w0 w g : W} (rel0 : Rel K I F G w0 H) (e : Ext I F I' F') (rel : Rel K I' F' G (w ++ g) H') (s : aF5 w0 w) : Ext I F (I'.take w.length) F' ∧ Rel K (I'.take w.length) F' G w H' := by
 have hl : I'.length = w.length + g.length := by rw [rel.len, cq]
 have e2 : Ext I F (I'.take w.length) F' := ⟨by
  obtain ⟨t, rfl⟩ := e.i
  rw [List.take_append, dq (by rw [rel0.len]; exact s.1)]
  exact List.prefix_append _ _, e.f⟩
 refine ⟨e2, ⟨by simp [hl], rel.nd.sublist (List.take_sublist _ _), fun i a o h1 h2 => ?_, rel.fz, fun i a o h h0 hf => rel.ap i a o (List.getElem?_take_of_lt (ai.mp h0).1 ▸ h) (by rw [av (ai.mp h0).1]; exact h0) hf, rel.gz, fun a u h => ⟨(rel.gf a u h).1, fun z => (rel.gf a u h).2 (List.mem_of_mem_take z)⟩, rel.gt⟩⟩
 have hi : i < w.length := (ai.mp h2).1
 rw [List.getElem?_take_of_lt hi] at h1
 obtain ⟨u, h3, h4⟩ := rel.ob i a o h1 (by rw [av hi]; exact h2)
 refine ⟨u, h3, ?_⟩
 rcases s.2 i o h2 with q | q
 ·refine kP.cut h4 ?_
  have hi0 : i < w0.length := (ai.mp q).1
  obtain ⟨u0, _, h6⟩ := rel0.ob i _ o (bj (by rw [rel0.len]; exact hi0)) q
  exact h6.cl (by rw [rel0.len]; exact s.1)
 ·exact kP.cut h4 q
theorem zT.cut {K : PySem.W.Frag} {I : List Addr} {F H : Hp} {x : XD} {c : Value} {d : Option Addr} {n : Nat} (h : zT K (I.take n) F H x c d) (hn : n ≤ I.length) : zT K I F H x c d := by
 have e : Ext (I.take n) F I F := ⟨List.take_prefix _ _, fun _ _ h => h⟩
 obtain ⟨h1, h2⟩ := h
 refine ⟨h1, ?_⟩
 cases hf : x.fs with
 | none => rw [hf] at h2; exact h2
 | some fs =>
  rw [hf] at h2
  obtain ⟨a, r, q1, q2, q3⟩ := h2
  exact ⟨a, r, q1, q2, aQ.ext e _ _ q3⟩
theorem zT.aIv {K : PySem.W.Frag} {I : List Addr} {F H : Hp} {x : XD} {c : Value} {d : Option Addr} {n : Nat} (h : zT K I F H x c d) (hx : x.cl n = true) : zT K (I.take n) F H x c d := by
 obtain ⟨h1, h2⟩ := h
 refine ⟨h1, ?_⟩
 unfold XD.cl at hx
 cases hf : x.fs with
 | none => rw [hf] at h2; exact h2
 | some fs =>
  rw [hf] at h2 hx
  obtain ⟨a, r, q1, q2, q3⟩ := h2
  exact ⟨a, r, q1, q2, aQ.cut _ _ q3 hx⟩
theorem bF.fits {K : PySem.W.Frag} {I : List Addr} {F G H : Hp} {E : XK} {Q : VK} {w0 : W} {r r' : Res D} (rel0 : Rel K I F G w0 H) (p : bF K I F G E (RV K Q) r) (f : Fits w0 r r') : bF K I F G E (RV K Q) r' := by
 cases r with
 | bad => exact p.elim
 | ok d w =>
  obtain ⟨g, rfl, hg⟩ := f
  rcases hg with rfl | ⟨hd, hs⟩
  ·rw [List.append_nil]; exact p
  ·intro I' F' H' e rel v rv
   obtain ⟨e2, rel2⟩ := VE rel0 e rel hs
   exact p _ F' H' e2 rel2 v (aH.cut d v rv hd)
 | vY x w =>
  obtain ⟨g, rfl, hg⟩ := f
  rcases hg with rfl | ⟨hd, hs⟩
  ·rw [List.append_nil]; exact p
  ·intro I' F' H' c d e rel rx
   obtain ⟨e2, rel2⟩ := VE rel0 e rel hs
   exact p _ F' H' c d e2 rel2 (zT.aIv rx hd)
abbrev MF := List D → W → Res D
def spM (K : PySem.W.Frag) (m : MF) : Sp := fun vs H Q E => ∃ I F G ds w, Rel K I F G w H ∧ RepL K I F ds vs ∧ bF K I F G E (RV K Q) (m ds w)
structure gI (P : Program) (w : World) (K : PySem.W.Frag) (mg : Str → Option Value) (base : Heap) (k : Nat) (f : Addr) (fd : FuncData) (ps : List Str) (m : MF) : Prop where
 run : ∀ (A : Around) (outer : List Env) (s : Shared) (H : Hp) (args : Args) (us : List Value) (vs : List V) (Q : VK) (E : XK), Room k A → A.guards = some [] → Env0 P w K mg base A outer s H → BindsTo s fd args (ps.zip us) → Vals vs us →
  vs.length = ps.length → spM K m vs H Q E → codeAny (model P w) A (.call (.ref f) args) (CR (L2.CX P w) outer P w H s Q E) s
theorem gI.mono {P : Program} {w : World} {K : PySem.W.Frag} {mg : Str → Option Value} {base : Heap} {j k : Nat} {f : Addr} {fd : FuncData} {ps : List Str} {m : MF} (G : gI P w K mg base j f fd ps m) (h : j ≤ k) : gI P w K mg base k f fd ps m :=
 ⟨fun A outer s H args us vs Q E hr => G.run A outer s H args us vs Q E (hr.mono h)⟩
def begin (N : List Str) (ds : List D) : Sg := ds.map some ++ List.replicate (N.length - ds.length) none
def bP (mb : MS) (N : List Str) (ds : List D) (w : W) : Res D := (mb (begin N ds) w).bind fun f w1 => match f with
 | .nx _ => .ok .non w1
 | .rt d => .ok d w1
 | _ => .bad
theorem RepL.aBd {K : PySem.W.Frag} {I : List Addr} {F : Hp} {ds : List D} {vs : List V} (r : RepL K I F ds vs) (N : List Str) : dW K I F (begin N ds) (L2.start N vs) := by
 unfold begin L2.start
 refine ⟨by simp [r.length], fun i d h => ?_⟩
 by_cases hi : i < ds.length
 ·rw [av (by simpa using hi), cu] at h
  cases q : ds[i]? with
  | none => rw [q] at h; cases h
  | some x =>
   rw [q] at h; cases h
   obtain ⟨v, h1, h2⟩ := r.get q
   exact ⟨v, by rw [av (by simpa [← r.length] using hi), cu, h1]; rfl, h2⟩
 ·rw [bp (by simpa using hi), List.getElem?_replicate] at h
  split at h <;> cases h
abbrev aR.body (S : aR) (k : Nat) (N : List Str) (sc : Scope) : aR := { S with k := k, N := N, sc := sc, fn := fun _ => true }
theorem gI.of {S : aR} {x qual : Str} {params : Arguments} {body : List Stmt} {scope : Scope} {dvs : List V} {kws : List (Str × V)} {f : Addr} {fd : FuncData} {N ps : List Str} {k : Nat} {mb : MS} {m : MF}
  (F : FunD S.K x qual params body scope dvs kws f fd) (Sc : FnScope N ps scope) (hb : qK (S.body k N scope) body mb) (hm : ∀ ds w, ds.length = ps.length → Fits w (m ds w) (bP mb N ds w)) : gI S.P S.w S.K S.mg S.base (k + 1) f fd ps m := by
 refine ⟨fun A outer s H args us vs Q E hr hg e0 hbt r hl hsp => ?_⟩
 obtain ⟨oc, od, dV, kV, doc, pm, an, cdv, ct, osl, rfl, lk, hcd, _, _⟩ := F.ex
 have KX : S.K.In s.heap := e0.mod.kin.keeps fun b o e => (e0.bs b o e).1
 have lim : s.heap.NoLimit := e0.mod.nolimit.keeps fun b o e => (e0.bs b o e).1
 have kinds : ∀ y ∈ ps.zip us, scope.names.lookup y.1 = some .local ∨ (scope.names.lookup y.1 = some .cell ∧ ((cellsFrom (s.heap.objs.size + 1) scope.names []).lookup y.1).isSome = true) := by
  rintro ⟨n, v⟩ hy
  have hn : n ∈ ps := (List.of_mem_zip hy).1
  rcases Sc.par n hn with q | q
  ·exact Or.inl q
  ·exact Or.inr ⟨q, PySem.W.cellsFrom_some _ _ _ (.inl q)⟩
 refine codeAny_call_function hr.depth (KX _ _ lk) rfl Sc.co Sc.gen rfl (PySem.W.codeRec_of KX hcd) (hbt _ _ _ _ ?_)
 refine wpAny_newFunctionEnv_cells Sc.kind kinds fun env he s1 y => ?_
 subst he
 refine ⟨lim.keeps y.toInCall.keep, codeAny_func ?_⟩
 obtain ⟨I, F0, G, ds, w, rel, rl, p⟩ := hsp
 have J : Inv (cxOf (L2.CX S.P S.w) S.P S.w S.K S.mg S.base N qual scope f cdv A outer s H E) [] (start N vs) H s1 := inv_start Sc hr.hd e0 hl r y
 have cx : Ctx (S.body k N scope) (cxOf (L2.CX S.P S.w) S.P S.w S.K S.mg S.base N qual scope f cdv A outer s H E) := ⟨rfl, rfl, rfl, rfl, rfl, rfl, rfl, fun _ _ => rfl, rfl, hr.deeper _, hg, Sc.nd⟩
 have xo : qL (cxOf (L2.CX S.P S.w) S.P S.w S.K S.mg S.base N qual scope f cdv A outer s H E) E := ⟨takes_of rfl rfl rfl rfl, passes_of rfl⟩
 have p' : bF S.K I F0 G E (RV S.K Q) (bP mb N ds w) := p.fits rel (hm ds w (by rw [rl.length]; exact hl))
 have go := (hb _ E cx xo).run [] s1 (start N vs) H { nx := fun _ H' => Q .non H', rt := Q } J ⟨I, F0, G, begin N ds, w, rel, rl.aBd N, (bF.bind p').mono fun I1 F1 H1 fl w1 _ e1 rel1 p1 => ?_⟩
 ·refine wpAny_mono go (fun fl s' hs => ?_) fun e s' hs => hs
  cases fl with
  | ret u =>
   obtain ⟨v, σ', H', J', rv, q⟩ := hs
   exact ⟨v, H', J'.os, J'.bare, J'.base, J'.hok, rv, q⟩
  | next =>
   obtain ⟨σ', H', J', q⟩ := hs
   exact ⟨V.non, H', J'.os, J'.bare, J'.base, J'.hok, rfl, q⟩
  | brk =>
   obtain ⟨_, _, _, q⟩ := hs
   exact q.elim
  | cont =>
   obtain ⟨_, _, _, q⟩ := hs
   exact q.elim
 ·cases fl with
  | nx z => exact fun s' _ => p1.nL rel1 (by simp [aH])
  | rt d => exact fun v rv => p1.nL rel1 rv
  | bk z => exact p1.elim
  | ct z => exact p1.elim
structure eW (K : PySem.W.Frag) (fd : FuncData) (ps : List Str) (n : Nat) (ks : List Str) (gd : List D → List D → List D) : Prop where
 ex : ∃ (g : List Value → List Value → List Value) (gV : List V → List V → List V), KBn K fd ps n ks g gV ∧
  ∀ I F xs vs zs us, RepL K I F xs vs → RepL K I F zs us → RepL K I F (gd xs zs) (gV vs us)
 len : ∀ xs zs, xs.length = n → zs.length = ks.length → (gd xs zs).length = ps.length
def aJ (m : MF) (n : Nat) (gd : List D → List D → List D) (ma : MA) : ME := fun σ w => (ma σ w).bind fun xs w1 => if xs.length = n then m (gd xs []) w1 else .bad
def KU (m : MF) (n j : Nat) (gd : List D → List D → List D) (ma mk : MA) : ME := fun σ w => (ma σ w).bind fun xs w1 => (mk σ w1).bind fun zs w2 => if xs.length = n ∧ zs.length = j then m (gd xs zs) w2 else .bad
def JK (S : aR) (kws : List Keyword) (m : MA) : Prop := ∀ X E, Ctx S X → qL X E → PK X kws (aBL X.K E m)
theorem aHx {X : Cx} {pins : List (Addr × Obj)} {σ : L2.St} {H : Hp} {s : Shared} {Q : VK} {E : XK} {k : Nat} {f : Addr} {fd : FuncData} {ps ks : List Str} {m : MF} {n : Nat} {gd : List D → List D → List D} {I : List Addr} {F G : Hp} {xs zs : List D} {w : W} {us ws : List Value} {vs ys : List V}
  (xo : qL X E) (Gf : gI X.prog X.w X.K X.mg X.base k f fd ps m) (B : eW X.K fd ps n ks gd) (hr : Room k X.A) (hg : X.A.guards = some []) (J : Inv X pins σ H s) (rel : Rel X.K I F G w H) (rx : RepL X.K I F xs vs) (rz : RepL X.K I F zs ys)
  (r : Vals vs us) (q : Vals ys ws) (h1 : xs.length = n) (h2 : zs.length = ks.length) (p : bF X.K I F G E (RV X.K Q) (m (gd xs zs) w)) : wpAny (model X.prog X.w) X.A (call (.ref f) us (ks.zip ws)) (EP X pins σ Q) X.xe s := by
 obtain ⟨g, gV, kb, rep⟩ := B.ex
 have r2 := kb.rel r q
 have r3 := rep I F xs vs zs ys rx rz
 have hl : (gV vs ys).length = ps.length := by rw [← r3.length]; exact B.len xs zs h1 h2
 refine wpAny_call (codeAny_mono (Gf.run X.A X.stack s H ⟨us, ks.zip ws⟩ (g us ws) (gV vs ys) Q E hr hg J.env0 (kb.to s us ws J.kIn (by rw [← r.length, ← rx.length]; exact h1) (by rw [← q.length, ← rz.length]; exact h2)) r2 hl ⟨I, F, G, _, w, rel, r3, p⟩) fun fl s' hq => ?_)
 cases fl with
 | error e => exact passes_call xo.tk (fun _ _ _ _ h => h) pins σ H s e s' J hq
 | ok fl =>
  cases fl with
  | ret u => exact J.after hq
  | next => exact hq.elim
  | brk => exact hq.elim
  | cont => exact hq.elim
section
variable {S : aR} {k n : Nat} {f : Addr} {fd : FuncData} {ps ks : List Str} {m : MF} {gd : List D → List D → List D} {x : Str} {p pos kpos : Pos} {e : Expr} {es : List Expr} {kws : List Keyword} {ma mk : MA} {me : ME} {nm : Option Str}
theorem aFm : JK S [] aE := fun X E cx xo => ⟨fun pos pins s σ H Q J ⟨I, F, G, ds, w, rel, rs, p⟩ => pk_nil.run pos pins s σ H Q J (p I F H .refl rel [] (by simp [RepL]))⟩
theorem mZ (he : JE S e me) (hr : JK S kws mk) : JK S (⟨nm, e, kpos⟩ :: kws) (aA me mk) := fun X E cx xo =>
 ⟨fun pos pins s σ H Q J ⟨I, F, G, ds, w, rel, rs, p⟩ => (pk_cons (he X E cx xo) (hr X E cx xo)).run pos pins s σ H Q J
  (bX (f := fun ds x w1 => (mk ds w1).bind fun xs w2 => Res.ok (x :: xs) w2) rel rs p fun I1 F1 H1 x w1 v e1 rel1 rs1 rv p1 =>
   fD (f := fun _ xs w2 => Res.ok (x :: xs) w2) rel1 rs1 p1 fun I2 F2 H2 xs w2 vs e2 rel2 rs2 rvs p2 => p2 I2 F2 H2 .refl rel2 _ (RepL.cons (aH.ext e2 _ _ rv) rvs))⟩
theorem aS (hk : k ≤ S.k) (Gf : gI S.P S.w S.K S.mg S.base k f fd ps m) (B : eW S.K fd ps n [] gd) (hg : S.sc.names.lookup x = some .globalImplicit) (hm : S.mg x = some (.ref f)) (kp : PySem.W.keepIn S.K (.ref f) = true) (ha : JA S (e :: es) ma)
  (hdb : (x == ("__debug__" : Str)) = false := by decide) (he : ∀ env : Env, starEach (e :: es) env = (false, eval e env) :: starEach es env := by intro _; rfl) (hpl : ∀ env : Env, (backTo pos (starEach es env)).any (·.1) = false := by intro _; rfl) :
  JE S (.Call (.Name x p) (e :: es) [] pos) (aJ m n gd ma) := fun X E cx xo => by
 refine ⟨fun pins s σ H Q J ⟨I, F, G, ds, w, rel, rs, p⟩ => ?_⟩
 refine wpAny_Call_Name_kw (ld_glob J (by show X.env.scope.names.lookup x = _; rw [cx.sc]; exact hg) (by rw [cx.mg]; exact hm) ?_ hdb)
 refine PySem.W.callWith_K (h₀ := X.base) J.ok.mod.kin (by rw [cx.K]; exact kp) (thn ((ha X E cx xo).run pos pins s σ H _ J (fD (f := fun _ xs w1 => if xs.length = n then m (gd xs []) w1 else .bad) (Q := fun vs H1 => ∃ I1 F1 xs w1, Rel X.K I1 F1 G w1 H1 ∧ RepL X.K I1 F1 xs vs ∧ xs.length = n ∧ bF X.K I1 F1 G E (RV X.K Q) (m (gd xs []) w1)) rel rs p fun I1 F1 H1 xs w1 vs e1 rel1 rs1 rvs p1 => ?_)) fun us s1 hq => ?_) (he X.env) (hpl X.env)
 ·split at p1
  ·rename_i hl
   exact ⟨I1, F1, xs, w1, rel1, rvs, hl, p1⟩
  ·exact p1.elim
 ·obtain ⟨vs, H1, J1, r, I1, F1, xs, w1, rel1, rvs, hl, p1⟩ := hq
  refine ⟨J1.kIn, ?_⟩
  have Gf' : gI X.prog X.w X.K X.mg X.base k f fd ps m := by rw [cx.P, cx.w, cx.K, cx.mg, cx.base]; exact Gf
  have B' : eW X.K fd ps n [] gd := by rw [cx.K]; exact B
  exact aHx (ks := []) (ws := []) (zs := []) (ys := []) xo Gf' B' (cx.room.mono hk) cx.gds J1 rel1 rvs (by simp [RepL]) r .nil hl rfl p1
end
theorem cM {K : PySem.W.Frag} {x qual : Str} {params : Arguments} {body : List Stmt} {scope : Scope} {kws : List (Str × V)} {f : Addr} {fd : FuncData} {ps : List Str} (F : FunD K x qual params body scope [] kws f fd)
  (h : ∀ (kV doc pm : Value) (an : Option Addr) (cdv ct : Value) (us : List Value), us.length = ps.length → bindArgs (PySem.W.fnOf x qual params body scope .none kV doc pm an cdv ct) ⟨us, []⟩ = pure (ps.zip us)) : eW K fd ps ps.length [] fun xs _ => xs := by
 refine ⟨⟨fun us _ => us, fun vs _ => vs, ⟨fun s us ws KX h1 h2 => ?_, fun r _ => r⟩, fun _ _ _ _ _ _ r _ => r⟩, fun xs zs h1 _ => h1⟩
 have e : ws = [] := List.eq_nil_of_length_eq_zero (by simpa using h2)
 subst e
 exact F.bindsA h s us h1
structure l9 where
 xs : List D
 okp : W → Prop
def l9.ok (it : l9) (w : W) : Prop := it.okp w
def always : W → Prop := fun _ => True
def holds (i : Nat) (o : MO) : W → Prop := fun w => w[i]? = some o
def FD (K : PySem.W.Frag) (I : List Addr) (F : Hp) (J : It) (it : l9) : Prop :=
 ∀ I' F' G w H j, Ext I F I' F' → Rel K I' F' G w H → it.ok w →
  (∀ x, it.xs[j]? = some x → J.go j H ∧ ∀ v H', J.yld j H v H' → ∃ F2, Ext I' F' I' F2 ∧ Rel K I' F2 G w H' ∧ aH K I' F2 x v) ∧ (it.xs.length = j → J.stop j H)
abbrev MI := Sg → W → Res l9
def RI (K : PySem.W.Frag) (R : It → Hp → Prop) : List Addr → Hp → Hp → l9 → W → Prop := fun I' F' H' it w' => it.ok w' → ∀ J, FD K I' F' J it → R J H'
def aB6 (K : PySem.W.Frag) (E : XK) (m : MI) : TI := fun σ H R => ∃ I F G ds w, Rel K I F G w H ∧ dW K I F ds σ ∧ bF K I F G E (RI K R) (m ds w)
def JI (S : aR) (tg iter : Expr) (m : MI) : Prop := ∀ X E, Ctx S X → qL X E → PI X tg iter (aB6 X.K E m)
theorem zC {X : Cx} {tg e : Expr} {t t' : TI} (h : PI X tg e t) (k : ∀ σ H R, t' σ H R → t σ H R) : PI X tg e t' := ⟨fun pins s σ H R I q => h.run pins s σ H R I (k σ H R q)⟩
def aHV (K : PySem.W.Frag) (tl : TE) : TI := fun σ H R => tl σ H fun x H1 => ∃ a, x = .ref a ∧ (((∃ xs, SqL K H1 a xs) ∧ R (Itl K a) H1) ∨ ((∃ xs, SqT K H1 a xs) ∧ R (Itt K a) H1))
theorem aBI {X : Cx} {tg l : Expr} {tl : TE} (hl : PE X l tl) : PI X tg l (aHV X.K tl) := by
 constructor
 intro pins s σ H R J h
 apply thn (hl.run pins s σ H _ J h)
 rintro v s1 ⟨x, H1, J1, r1, a, ex, q⟩
 subst ex
 cases r1
 have fp : ∀ b ∈ [s1.heap.objs.size], FpOk X pins H1 b := fun b hb => by
  rw [da.mp hb]
  exact J1.fpOk (bx _) (J1.hok.fresh (bx _))
 rcases q with ⟨⟨xs, hq⟩, q⟩ | ⟨⟨xs, hq⟩, q⟩
 ·obtain ⟨its, rv, p, hz⟩ := J1.list hq
  apply wpAny_pyIter_list p.isList
  exact ⟨s1.heap.objs.size, [s1.heap.objs.size], _, _, H1, rfl, J1.kept (t' := s1.toks) fun b o e => Heap.get?_push_of_some _ e, turn_list a _, ⟨_, Heap.get?_push_size _ rfl, rfl, rfl⟩, fp, q⟩
 ·obtain ⟨its, rv, p, hz⟩ := J1.tuple hq
  apply wpAny_pyIter_tuple (show s1.heap.IsTuple a its.toArray from p)
  exact ⟨s1.heap.objs.size, [s1.heap.objs.size], _, _, H1, rfl, J1.kept (t' := s1.toks) fun b o e => Heap.get?_push_of_some _ e, turn_tuple a _, ⟨_, Heap.get?_push_size _ rfl, rfl, rfl⟩, fp, q⟩
def iterM (d : D) (w : W) : Res l9 := match d with
 | .tup xs => .ok ⟨xs, always⟩ w
 | .lY xs => .ok ⟨xs, always⟩ w
 | .lst xs => .ok ⟨xs, always⟩ w
 | .oI xs => .ok ⟨xs, always⟩ w
 | .ref i => (match w[i]? with
  | some (.lst xs) => .ok ⟨xs, holds i (.lst xs)⟩ w
  | _ => .bad)
 | _ => .bad
def dY (m : ME) : MI := fun σ w => (m σ w).bind iterM
section
variable {K : PySem.W.Frag} {I : List Addr} {F : Hp} {a : Addr} {it : l9}
theorem T5 (h : ∀ I' F' G w H, Ext I F I' F' → Rel K I' F' G w H → it.ok w → ∃ vs, SqL K H a vs ∧ RepL K I' F' it.xs vs) : FD K I F (Itl K a) it := fun I' F' G w H j e rel ok => by
 obtain ⟨vs, hq, r⟩ := h I' F' G w H e rel ok
 refine ⟨fun x hx => ?_, fun hl => ⟨vs, hq, by rw [← r.length, hl]; exact bx _⟩⟩
 obtain ⟨v, hv, rv⟩ := r.get hx
 refine ⟨⟨vs, v, hq, hv⟩, fun u H' y => ?_⟩
 obtain ⟨rfl, y⟩ := y
 have := y vs hq
 rw [hv] at this; cases this
 exact ⟨F', .refl, rel, rv⟩
theorem aBt (h : ∀ I' F' G w H, Ext I F I' F' → Rel K I' F' G w H → it.ok w → ∃ vs, SqT K H a vs ∧ RepL K I' F' it.xs vs) : FD K I F (Itt K a) it := fun I' F' G w H j e rel ok => by
 obtain ⟨vs, hq, r⟩ := h I' F' G w H e rel ok
 refine ⟨fun x hx => ?_, fun hl => ⟨vs, hq, by rw [← r.length, hl]; exact bx _⟩⟩
 obtain ⟨v, hv, rv⟩ := r.get hx
 refine ⟨⟨vs, v, hq, hv⟩, fun u H' y => ?_⟩
 obtain ⟨rfl, y⟩ := y
 have := y vs hq
 rw [hv] at this; cases this
 exact ⟨F', .refl, rel, rv⟩
theorem aFw {lo : Int} {n : Nat} (hx : it.xs = (List.range n).map fun k : Nat => D.int (lo + (k : Int))) : FD K I F (Itr lo n) it := fun I' F' G w H j e rel ok => by
 refine ⟨fun x h => ?_, fun hl => ?_⟩
 ·rw [hx, cu] at h
  by_cases hj : j < n
  ·rw [List.getElem?_range hj] at h
   cases h
   refine ⟨hj, fun v H' y => ?_⟩
   obtain ⟨rfl, rfl⟩ := y
   exact ⟨F', .refl, rel, by simp [aH]⟩
  ·rw [List.getElem?_eq_none (by simpa using hj)] at h; cases h
 ·rw [hx] at hl
  simp at hl
  show n ≤ j
  omega
end
section
variable {S : aR} {pos p : Pos} {tg l e e2 : Expr} {m : ME} {ma : MA} {x : Str}
theorem nX (hl : JE S l m) : JI S tg l (dY m) := fun X E cx xo =>
 zC (aBI (hl X E cx xo)) fun σ H R ⟨I, F, G, ds, w, rel, rs, p⟩ => bX (f := fun _ => iterM) rel rs p fun I1 F1 H1 d w1 v e1 rel1 rs1 rv p1 => by
  cases d <;> first | exact p1.elim | skip
  case tup xs =>
   simp only [aH] at rv
   obtain ⟨a, vs, rfl, h1, h2⟩ := rv
   exact ⟨a, rfl, .inr ⟨⟨vs, .of (rel1.fz _ _ h1)⟩, p1 I1 F1 H1 .refl rel1 trivial _ (aBt fun I' F' G w H e rel ok => ⟨vs, .of (rel.fz _ _ (e.f _ _ h1)), RepL.ext e _ _ h2⟩)⟩⟩
  case lY xs =>
   simp only [aH] at rv
   obtain ⟨a, vs, rfl, h1, h2⟩ := rv
   exact ⟨a, rfl, .inr ⟨⟨vs, rel1.RS h1⟩, p1 I1 F1 H1 .refl rel1 trivial _ (aBt fun I' F' G w H e rel ok => ⟨vs, rel.RS (DF e h1), RepL.ext e _ _ h2⟩)⟩⟩
  case lst xs =>
   simp only [aH] at rv
   obtain ⟨a, vs, rfl, h1, h2⟩ := rv
   exact ⟨a, rfl, .inl ⟨⟨vs, .of (rel1.fz _ _ h1)⟩, p1 I1 F1 H1 .refl rel1 trivial _ (T5 fun I' F' G w H e rel ok => ⟨vs, .of (rel.fz _ _ (e.f _ _ h1)), RepL.ext e _ _ h2⟩)⟩⟩
  case oI xs =>
   simp only [aH] at rv
   obtain ⟨a, vs, rfl, h1, h2⟩ := rv
   exact ⟨a, rfl, .inl ⟨⟨vs, rel1.YS h1⟩, p1 I1 F1 H1 .refl rel1 trivial _ (T5 fun I' F' G w H e rel ok => ⟨vs, rel.YS (WI e h1), RepL.ext e _ _ h2⟩)⟩⟩
  case ref i =>
   simp only [aH] at rv
   obtain ⟨a, rfl, h1⟩ := rv
   simp only [iterM] at p1
   split at p1
   ·rename_i xs hw
    obtain ⟨u, hu, vs, rfl, h2⟩ := rel1.ob i a _ h1 hw
    refine ⟨a, rfl, .inl ⟨⟨vs, .of hu⟩, p1 I1 F1 H1 .refl rel1 hw _ (T5 fun I' F' G w H e rel ok => ?_)⟩⟩
    obtain ⟨u', hu', vs', rfl, h2'⟩ := rel.ob i a _ (e.get h1) ok
    exact ⟨vs', .of hu', h2'⟩
   ·exact p1.elim
def jK (lo : Int) (n : Nat) : l9 := ⟨(List.range n).map fun k : Nat => D.int (lo + (k : Int)), always⟩
def kO (ds : List D) (w : W) : Res l9 := match ds with
 | [.int n] => if -(2 ^ 62) ≤ n ∧ n < 2 ^ 62 then .ok (jK 0 n.toNat) w else .bad
 | _ => .bad
def eZ (f : List D → W → Res l9) (ma : MA) : MI := fun σ w => (ma σ w).bind f
theorem nJ (hg : S.sc.names.lookup ("range" : Str) = some .globalImplicit) (hm : S.mg "range" = none) (ha : JA S [e] ma) (hs : ∀ env : Env, starEach [e] env = [(false, eval e env)] := by intro _; rfl) : JI S tg (.Call (.Name "range" p) [e] [] pos) (eZ kO ma) := fun X E cx xo =>
 zC (pi_range1 (by show X.env.scope.names.lookup _ = _; rw [cx.sc]; exact hg) (by rw [cx.mg]; exact hm) (ha X E cx xo) (hs X.env)) fun σ H R ⟨I, F, G, ds, w, rel, rs, p⟩ => fD (f := fun _ => kO) rel rs p fun I1 F1 H1 xs w1 vs e1 rel1 rs1 rv p1 => by
  unfold kO at p1
  split at p1
  ·rename_i n
   split at p1
   ·rename_i hn
    simp only [RepL, aH] at rv
    obtain ⟨v, r, rfl, rfl, rfl⟩ := rv
    exact ⟨n, rfl, hn.1, hn.2, p1 I1 F1 H1 .refl rel1 trivial _ (aFw rfl)⟩
   ·exact p1.elim
  ·exact p1.elim
end
open Classical in
def forL (it : l9) (g : MG) (body : MS) : List D → Sg → W → Res Fl
 | [], σ, w => if it.ok w then .ok (.nx σ) w else .bad
 | x :: xs, σ, w => if it.ok w then (g x σ w).bind fun σ1 w1 => (body σ1 w1).bind fun f w2 => match f with
   | .nx s => forL it g body xs s w2
   | .ct s => forL it g body xs s w2
   | .bk s => .ok (.nx s) w2
   | .rt d => .ok (.rt d) w2
  else .bad
def fX (m : MI) (g : MG) (body : MS) : MS := fun σ w => (m σ w).bind fun it w1 => forL it g body it.xs σ w1
section
variable {S : aR} {pos : Pos} {tg iter : Expr} {body : List Stmt} {m : MI} {g : MG} {b : MS}
theorem uT (hi : JI S tg iter m) (hg : JG S tg g) (hb : qK S body b) (hs : ∀ (env : Env) x, foldedSetIterable iter env x = pure x := by intro _ _; rfl) : JS S (.For tg iter body [] pos) (fX m g b) := fun X E cx xo =>
 jF (ps_for xo.own cx.calm (hi X E cx xo) (hg X E cx xo) (hb X E cx xo) (hs X.env)) fun Z σ H ⟨I, F, G, ds, w, rel, rs, p⟩ => by
  refine ⟨I, F, G, ds, w, rel, rs, (bF.bind p).mono fun I1 F1 H1 it w1 _ e1 rel1 p1 hok J hJ => ?_⟩
  refine ⟨fun i n σ' H' => n = it.xs.length - i ∧ i ≤ it.xs.length ∧ ∃ I' F' ds' w', Ext I1 F1 I' F' ∧ Rel X.K I' F' G w' H' ∧ dW X.K I' F' ds' σ' ∧ bF X.K I' F' G E (RFl X.K Z) (forL it g b (it.xs.drop i) ds' w'),
   ⟨it.xs.length, by simp, Nat.zero_le _, I1, F1, ds, w1, .refl, rel1, rs.ext e1, p1⟩, ?_⟩
  rintro i n σ' H' ⟨rfl, hi, I', F', ds', w', e', rel', rs', p'⟩
  by_cases hlt : i < it.xs.length
  ·rw [List.drop_eq_getElem_cons hlt] at p'
   unfold forL at p'
   split at p'
   ·rename_i hw
    obtain ⟨h1, _⟩ := hJ I' F' G w' H' i e' rel' hw
    obtain ⟨hgo, hy⟩ := h1 _ (bj hlt)
    refine .inr ⟨hgo, fun σ2 H2 => ∃ I2 F2 ds2 w2, Ext I1 F1 I2 F2 ∧ Rel X.K I2 F2 G w2 H2 ∧ dW X.K I2 F2 ds2 σ2 ∧ bF X.K I2 F2 G E (RFl X.K Z) (forL it g b (it.xs.drop (i + 1)) ds2 w2), fun σ2 H2 q => ⟨it.xs.length - (i + 1), by omega, rfl, hlt, q⟩, fun v H2 y => ?_⟩
    obtain ⟨F2, e2, rel2, rv⟩ := hy v H2 y
    refine ⟨I', F2, G, _, ds', w', rel2, rs'.ext e2, rv, (bF.bind (p'.ext e2)).mono fun I3 F3 H3 s3 w3 _ e3 rel3 p3 σ3 rs3 => ?_⟩
    refine ⟨I3, F3, G, s3, w3, rel3, rs3, (bF.bind p3).mono fun I4 F4 H4 f w4 _ e4 rel4 p4 => ?_⟩
    have ee : Ext I1 F1 I4 F4 := ((e'.trans e2).trans e3).trans e4
    cases f with
    | nx s => exact fun s' rs4 => ⟨I4, F4, s, w4, ee, rel4, rs4, p4⟩
    | ct s => exact fun s' rs4 => ⟨I4, F4, s, w4, ee, rel4, rs4, p4⟩
    | bk s => exact fun s' rs4 => p4 I4 F4 H4 .refl rel4 s' rs4
    | rt d => exact fun v rv => p4 I4 F4 H4 .refl rel4 v rv
   ·exact p'.elim
  ·have hl : i = it.xs.length := by omega
   subst hl
   rw [List.drop_length] at p'
   unfold forL at p'
   split at p'
   ·rename_i hw
    exact .inl ⟨(hJ I' F' G w' H' _ e' rel' hw).2 rfl, p' I' F' H' .refl rel' σ' rs'⟩
   ·exact p'.elim
end
def Res.M4 {α : Type} (r : Res α) : Res α := match r with
 | .vY _ _ => .bad
 | r => r
@[simp] theorem Res.aIr {α : Type} (a : α) (w : W) : (Res.ok a w).M4 = .ok a w := rfl
@[simp] theorem Res.aH9 {α : Type} (x : XD) (w : W) : (Res.vY x w : Res α).M4 = .bad := rfl
@[simp] theorem Res.aHX {α : Type} : (Res.bad : Res α).M4 = .bad := rfl
abbrev E0 : XK := fun _ _ _ => False
theorem bF.iQ {α β : Type} {K : PySem.W.Frag} {I : List Addr} {F G : Hp} {E : XK} {r : Res α} {f : α → W → Res β} {R2 : List Addr → Hp → Hp → β → W → Prop} (h : bF K I F G E R2 (r.M4.bind f)) :
  bF K I F G E0 (fun I' F' _ a w => bF K I' F' G E R2 (f a w)) r := by
 cases r with
 | ok a w => exact fun I' F' H' e' q => bF.ext (K := K) (R := R2) h e'
 | vY x w => exact h.elim
 | bad => exact h
theorem Rel.keep {K : PySem.W.Frag} {I : List Addr} {F G H : Hp} {w : W} (rel : Rel K I F G w H) {q : Addr} {u : HO} (hq : H q = none) (hu : ∀ xs, u ≠ .tup xs := by intro _ h; cases h) : Rel K I F (upd G q u) w (upd H q u) := by
 have hI : q ∉ I := fun z => by
  obtain ⟨i, hi⟩ := List.mem_iff_getElem?.mp z
  have hl : i < w.length := by rw [← rel.len]; exact (ai.mp hi).1
  obtain ⟨u, h3, _⟩ := rel.ob i q _ hi (bj hl)
  rw [h3] at hq; cases hq
 have hF : F q = none := by
  cases h : F q with
  | none => rfl
  | some u => rw [rel.fz _ _ h] at hq; cases hq
 refine ⟨rel.len, rel.nd, fun i a o h1 h2 => ?_, fun a u' h => ?_, rel.ap, fun a u' h => ?_, fun a u' h => ?_, fun a xs h => ?_⟩
 ·obtain ⟨u', h3, h4⟩ := rel.ob i a o h1 h2
  exact ⟨u', by rw [upd_ne (ne_of_none h3 hq)]; exact h3, h4⟩
 ·rw [upd_ne (ne_of_none h hF)]; exact rel.fz a u' h
 ·by_cases ha : a = q
  ·subst ha; rw [upd_same] at h ⊢; exact h
  ·rw [upd_ne ha] at h ⊢; exact rel.gz a u' h
 ·by_cases ha : a = q
  ·subst ha; exact ⟨hF, hI⟩
  ·rw [upd_ne ha] at h; exact rel.gf a u' h
 ·by_cases ha : a = q
  ·subst ha; rw [upd_same] at h; exact hu xs (Option.some.inj h)
  ·rw [upd_ne ha] at h; exact rel.gt a xs h
theorem Rel.J5 {K : PySem.W.Frag} {I : List Addr} {F G H : Hp} {w : W} {q : Addr} {u u' : HO} (rel : Rel K I F (upd G q u) w H) (hu : ∀ xs, u' ≠ .tup xs := by intro _ h; cases h) : Rel K I F (upd G q u') w (upd H q u') := by
 obtain ⟨hF, hI⟩ := rel.gf q u upd_same
 refine ⟨rel.len, rel.nd, fun i a o h1 h2 => ?_, fun a v h => ?_, rel.ap, fun a v h => ?_, fun a v h => ?_, fun a xs h => ?_⟩
 ·obtain ⟨v, h3, h4⟩ := rel.ob i a o h1 h2
  have ha : a ≠ q := fun z => hI (by rw [← z]; exact cb h1)
  exact ⟨v, by rw [upd_ne ha]; exact h3, h4⟩
 ·rw [upd_ne (ne_of_none h hF)]; exact rel.fz a v h
 ·by_cases ha : a = q
  ·subst ha; rw [upd_same] at h ⊢; exact h
  ·rw [upd_ne ha] at h ⊢; exact rel.gz a v (by rw [upd_ne ha]; exact h)
 ·by_cases ha : a = q
  ·subst ha; exact ⟨hF, hI⟩
  ·rw [upd_ne ha] at h; exact rel.gf a v (by rw [upd_ne ha]; exact h)
 ·by_cases ha : a = q
  ·subst ha; rw [upd_same] at h; exact hu xs (Option.some.inj h)
  ·rw [upd_ne ha] at h; exact rel.gt a xs (by rw [upd_ne ha]; exact h)
theorem Rel.Z8 {K : PySem.W.Frag} {I : List Addr} {F G H : Hp} {w : W} {q : Addr} {u : HO} (rel : Rel K I F (upd G q u) w H) (hG : G q = none) : Ext I F I (upd F q u) ∧ Rel K I (upd F q u) G w H := by
 obtain ⟨hF, hI⟩ := rel.gf q u upd_same
 have e : Ext I F I (upd F q u) := ⟨List.prefix_refl _, fun a v h => by rw [upd_ne (ne_of_none h hF)]; exact h⟩
 refine ⟨e, rel.len, rel.nd, fun i a o h1 h2 => ?_, fun a v h => ?_, fun i a o h h0 hf => ?_, fun a v h => ?_, fun a v h => ?_, fun a xs h => rel.gt a xs (by rw [upd_ne (ne_of_none h hG)]; exact h)⟩
 ·obtain ⟨v, h3, h4⟩ := rel.ob i a o h1 h2
  exact ⟨v, h3, kP.ext e h4⟩
 ·by_cases ha : a = q
  ·subst ha; rw [upd_same] at h; cases h; exact rel.gz a u upd_same
  ·rw [upd_ne ha] at h; exact rel.fz a v h
 ·have ha : a ≠ q := fun z => hI (by rw [← z]; exact cb h)
  rw [upd_ne ha]; exact rel.ap i a o h h0 hf
 ·have ha : a ≠ q := ne_of_none h hG
  exact rel.gz a v (by rw [upd_ne ha]; exact h)
 ·have ha : a ≠ q := ne_of_none h hG
  rw [upd_ne ha]
  exact rel.gf a v (by rw [upd_ne ha]; exact h)
theorem Rel.owned {K : PySem.W.Frag} {I : List Addr} {F G H : Hp} {w : W} {q : Addr} {u : HO} {o : MO} (rel : Rel K I F (upd G q u) w H) (hG : G q = none) (r : kP K I F o u) : Ext I F (I ++ [q]) F ∧ Rel K (I ++ [q]) F G (w ++ [o]) H := by
 obtain ⟨hF, hI⟩ := rel.gf q u upd_same
 have e : Ext I F (I ++ [q]) F := ⟨List.prefix_append _ _, fun _ _ h => h⟩
 refine ⟨e, by simp [rel.len], ?_, fun i a o' h1 h2 => ?_, rel.fz, fun i a o' h h0 hf => ?_, fun a v h => ?_, fun a v h => ?_, fun a xs h => rel.gt a xs (by rw [upd_ne (ne_of_none h hG)]; exact h)⟩
 ·rw [List.nodup_append]
  exact ⟨rel.nd, by simp, fun a ha b hb => by simp at hb; subst hb; exact fun z => hI (z ▸ ha)⟩
 ·by_cases hi : i < I.length
  ·rw [av hi] at h1
   rw [av (by rw [← rel.len]; exact hi)] at h2
   obtain ⟨v, h3, h4⟩ := rel.ob i a o' h1 h2
   exact ⟨v, h3, kP.ext e h4⟩
  ·have hi2 : i = I.length := by
    have := (ai.mp h1).1
    simp at this; omega
   subst hi2
   rw [bp (bx _)] at h1
   simp at h1
   rw [rel.len, bp (bx _)] at h2
   simp at h2
   subst h1 h2
   exact ⟨u, rel.gz _ _ upd_same, kP.ext e r⟩
 ·by_cases hi : i < I.length
  ·rw [av hi] at h
   rw [av (by rw [← rel.len]; exact hi)] at h0
   exact rel.ap i a o' h h0 hf
  ·have hi2 : i = I.length := by
    have := (ai.mp h).1
    simp at this; omega
   subst hi2
   rw [bp (bx _)] at h
   simp at h
   subst h; exact hF
 ·have ha : a ≠ q := ne_of_none h hG
  exact rel.gz a v (by rw [upd_ne ha]; exact h)
 ·have ha : a ≠ q := ne_of_none h hG
  have := rel.gf a v (by rw [upd_ne ha]; exact h)
  refine ⟨this.1, fun z => ?_⟩
  rcases ck.mp z with z | z
  ·exact this.2 z
  ·simp at z; exact ha z
def eO (σ : Sg) : List Nat → Sg
 | [] => σ
 | v :: vs => (eO σ vs).set v none
theorem dW.wipe {K : PySem.W.Frag} {I : List Addr} {F : Hp} {ds : Sg} {s : L2.St} (h : dW K I F ds s) : ∀ vs : List Nat, dW K I F (eO ds vs) (L2.wipe s vs)
 | [] => h
 | v :: vs => (h.wipe vs).unset v none
theorem EX {s : L2.St} {i : Nat} {x : Option V} : ∀ {vs : List Nat}, i ∈ vs → L2.wipe (s.set i x) vs = L2.wipe s vs
 | [], h => by cases h
 | v :: vs, h => by
  show (L2.wipe (s.set i x) vs).set v none = (L2.wipe s vs).set v none
  by_cases hi : i ∈ vs
  ·rw [EX hi]
  ·have hv : i = v := by
    rcases bh.mp h with e | e
    ·exact e
    ·exact absurd e hi
   subst hv
   have key : ∀ ws : List Nat, i ∉ ws → L2.wipe (s.set i x) ws = (L2.wipe s ws).set i x := by
    intro ws
    induction ws with
    | nil => intro _; rfl
    | cons b bs ih =>
     intro hn
     show (L2.wipe (s.set i x) bs).set b none = ((L2.wipe s bs).set b none).set i x
     rw [ih (fun z => hn (br _ z))]
     rw [List.set_comm _ _ (fun z => hn (by rw [z]; exact bc ..))]
   rw [key vs hi, List.set_set]
theorem BJ {s : L2.St} : ∀ {vs : List Nat}, L2.wipe (L2.wipe s vs) vs = L2.wipe s vs := by
 intro vs
 have key : ∀ ws : List Nat, (∀ v ∈ ws, v ∈ vs) → L2.wipe (L2.wipe s ws) vs = L2.wipe s vs := by
  intro ws
  induction ws with
  | nil => intro _; rfl
  | cons b bs ih =>
   intro h
   show L2.wipe ((L2.wipe s bs).set b none) vs = _
   rw [EX (h b (bc ..)), ih fun v hv => h v (br _ hv)]
 exact key vs fun _ h => h
def RSw (K : PySem.W.Frag) (vs : List Nat) (σ : L2.St) (Q : L2.St → Hp → Prop) : List Addr → Hp → Hp → Sg → W → Prop := fun I' F' H' s _ => ∀ s', dW K I' F' s s' → L2.wipe s' vs = L2.wipe σ vs → Q s' H'
def aBU (K : PySem.W.Frag) (E : XK) (vs : List Nat) (g : MG) : TG := fun v σ H Q => ∃ I F G d ds w, Rel K I F G w H ∧ dW K I F ds σ ∧ aH K I F d v ∧ bF K I F G E (RSw K vs σ Q) (g d ds w)
def aG9 (K : PySem.W.Frag) (E : XK) (vs : List Nat) (g : XR) : TGs := fun v σ H Q => ∃ I F G d ds w, Rel K I F G w H ∧ dW K I F ds σ ∧ RepL K I F d v ∧ bF K I F G E (RSw K vs σ Q) (g d ds w)
def JC (S : aR) (vs : List Nat) (t : Expr) (g : MG) : Prop := ∀ X E, Ctx S X → qL X E → PG X t (aBU X.K E vs g)
def JCs (S : aR) (vs : List Nat) (t : List Expr) (g : XR) : Prop := ∀ X E, Ctx S X → qL X E → PGs X t (aG9 X.K E vs g)
section
variable {S : aR} {pos : Pos} {vs : List Nat} {e : Expr} {es : List Expr} {g : MG} {r : XR}
theorem aDg {i : Nat} {x : Str} (hi : S.N[i]? = some x) (hx : Sto S x) (hv : i ∈ vs) : JC S vs (.Name x pos) (a7 i) := fun X E cx xo =>
 yQ (pg_name (i := i) (x := x) cx.nd (by rw [cx.N]; exact hi) (by rw [cx.sc]; exact hx.1) (by rw [cx.sc]; exact hx.2.imp (cx.fn x) id)) fun v σ H Q ⟨I, F, G, d, ds, w, rel, rs, rv, p⟩ => p I F H .refl rel _ (rs.set i rv) (EX hv)
theorem aC5 : JCs S vs [] bW := fun X E cx xo => xY pgs_nil fun v σ H Q ⟨I, F, G, xs, ds, w, rel, rs, rv, p⟩ => by
 cases xs with
 | nil =>
  simp only [RepL] at rv
  exact ⟨rv, p I F H .refl rel _ rs rfl⟩
 | cons => exact p.elim
theorem NQ (h1 : JC S vs e g) (h2 : JCs S vs es r) (hs : ∀ env : Env, (assignEach (e :: es) env).map (·.2) = assign e env :: (assignEach es env).map (·.2) := by intro _; rfl) : JCs S vs (e :: es) (aK g r) := fun X E cx xo =>
 xY (pgs_cons (h1 X E cx xo) (h2 X E cx xo) (hs X.env)) fun v σ H Q ⟨I, F, G, xs, ds, w, rel, rs, rv, p⟩ => by
  cases xs with
  | nil => exact p.elim
  | cons x xs =>
   simp only [RepL] at rv
   obtain ⟨v, t, rfl, rv1, rvs⟩ := rv
   refine ⟨v, t, rfl, I, F, G, x, ds, w, rel, rs, rv1, (bF.bind p).mono fun I1 F1 H1 s w1 _ e1 rel1 p1 s' rs1 ew => ⟨I1, F1, G, xs, s, w1, rel1, rs1, RepL.ext e1 _ _ rvs, p1.mono fun I2 F2 H2 s2 w2 _ e2 rel2 p2 s3 rs3 ew3 => p2 s3 rs3 (ew3.trans ew)⟩⟩
theorem aE1 {k n : Nat} (h : JCs S vs es r) (hn : ∀ env : Env, (assignEach es env).length = n := by intro _; rfl) (hst : ∀ env : Env, (assignEach es env).findIdx? (·.1) = none := by intro _; rfl) : JC S vs (.Tuple es k pos) (bY n r) := fun X E cx xo =>
 yQ (pg_tup cx.calm (h X E cx xo) (hn X.env) (hst X.env)) fun v σ H Q ⟨I, F, G, d, ds, w, rel, rs, rv, p⟩ => by
  cases d <;> first | exact p.elim | skip
  all_goals
   rename_i xs
   simp only [aH] at rv
   obtain ⟨a, us, rfl, h1, h2⟩ := rv
   simp only [bY] at p
   split at p
   ·rename_i hl
    exact ⟨a, us, rfl, (by first | exact .of (rel.fz _ _ h1) | exact rel.RS h1), by rw [← h2.length]; exact hl, I, F, G, xs, ds, w, rel, rs, h2, p⟩
   ·exact p.elim
end
open Classical in
def mV (it : l9) (vs : List Nat) (g : MG) (t : MT) (e : ME) : List D → Sg → W → Res (List D)
 | [], σ, w => if it.ok w then .ok [] w else .bad
 | x :: xs, σ, w => if it.ok w then (g x (eO σ vs) w).M4.bind fun σ1 w1 => (t σ1 w1).M4.bind fun b w2 =>
   if b = true then (e σ1 w2).M4.bind fun y w3 => (mV it vs g t e xs σ w3).bind fun ys w4 => .ok (y :: ys) w4 else mV it vs g t e xs σ w2
  else .bad
def U9 (m : MI) (vs : List Nat) (g : MG) (t : MT) (e : ME) : MA := fun σ w => (m σ w).bind fun it w1 => if it.xs.length ≤ sizeLine then mV it vs g t e it.xs σ w1 else .bad
def b6 (m : MI) (vs : List Nat) (g : MG) (t : MT) (e : ME) : ME := fun σ w => (U9 m vs g t e σ w).bind fun ys w1 => .ok (.lst ys) w1
def R4 (m : MI) (vs : List Nat) (g : MG) (t : MT) (e : ME) : ME := fun σ w => (U9 m vs g t e σ w).bind fun ys w1 => .ok (.ref w1.length) (w1 ++ [.lst ys])
def JTs (S : aR) (ifs : List Expr) (t : MT) : Prop := ∀ X E, Ctx S X → qL X E → PTs X ifs (SQ X.K E t)
def cD : MT := fun _ w => .ok true w
abbrev aR.blk (S : aR) (scope : Scope) : aR := { S with sc := relS scope S.sc, fn := fun x => scope.names.lookup x == some .cell }
theorem i0 {S : aR} {X : Cx} (c : Ctx S X) (s : Shared) (H : Hp) (scope : Scope) (C : Addr) (cl : List (Str × Addr)) (fp : List Addr) : Ctx (S.blk scope) (X.blk s H scope (compEnvC scope cl C X.env) fp) :=
 ⟨c.P, c.w, c.K, c.mg, c.base, c.N, by show relS scope X.env.scope = relS scope S.sc; rw [c.sc], fun _ h => h, c.calm, c.room, c.gds, c.nd⟩
theorem jC {X : Cx} (s : Shared) (H : Hp) (scope : Scope) (cenv : Env) (fp : List Addr) : qL (X.blk s H scope cenv fp) E0 :=
 ⟨fun _ _ ⟨_, _, _, _, _, _, _, _, _, _, _, _, _, _, _, _, h⟩ => h.elim, PassesOwn.never⟩
section
variable {S : aR} {pos : Pos} {elt tg iter c : Expr} {ifs : List Expr} {scope : Scope} {own : List (Str × Nat)} {mi : MI} {g : MG} {t : MT} {me : ME}
theorem m6 : JTs S [] cD := fun X E cx xo => ⟨fun pins s σ H Q J ⟨I, F, G, ds, w, rel, rs, p⟩ => pts_nil.run pins s σ H Q J (p I F H .refl rel)⟩
theorem K3 (h : JT S c t) : JTs S [c] t := fun X E cx xo => pts_one (h X E cx xo)
theorem OT {K : PySem.W.Frag} {E : XK} {vs : List Nat} {f : List D → W → Res D} {σ : L2.St} {H : Hp} {Q : VK} (h : sP K E (fun σ w => (U9 mi vs g t me σ w).bind f) σ H Q)
  (fin : ∀ I F G w H q xs us, Rel K I F (upd G q (.lst us)) w H → G q = none → RepL K I F xs us → bF K I F G E (RV K Q) (f xs w) → Q (.ref q) H) :
  tLc (aB6 K E mi) (aBU K E0 vs g) (SQ K E0 t) (sP K E0 me) vs σ H Q := by
 obtain ⟨I, F, G, ds, w, rel, rs, p⟩ := h
 have p0 : bF K I F G E (RV K Q) ((mi ds w).bind fun it w1 => (if it.xs.length ≤ sizeLine then mV it vs g t me it.xs ds w1 else .bad).bind f) := by
  rw [← Res.bind_assoc]; exact p
 refine ⟨I, F, G, ds, w, rel, rs, (bF.bind p0).mono fun I1 F1 H1 it w1 _ e1 rel1 p1 hok J hJ q hq => ?_⟩
 have hG : G q = none := by
  cases h : G q with
  | none => rfl
  | some u => rw [rel1.gz _ _ h] at hq; cases hq
 split at p1
 ·rename_i hz
  refine ⟨fun i n H' => n = it.xs.length - i ∧ i ≤ it.xs.length ∧ ∃ I' F' w' xs us, Ext I1 F1 I' F' ∧ Rel K I' F' (upd G q (.lst us)) w' H' ∧ RepL K I' F' xs us ∧ xs.length ≤ i ∧
    bF K I' F' G E (RV K Q) ((mV it vs g t me (it.xs.drop i) ds w').bind fun ys w2 => f (xs ++ ys) w2),
   ⟨it.xs.length, by simp, Nat.zero_le _, I1, F1, w1, [], [], .refl, rel1.keep hq, by simp [RepL], bx _, by simpa using p1⟩, ?_⟩
  rintro i n H' ⟨rfl, hi, I', F', w', xs, us, e', rel', rx, hxi, p'⟩
  by_cases hlt : i < it.xs.length
  ·rw [List.drop_eq_getElem_cons hlt] at p'
   unfold mV at p'
   split at p'
   ·rename_i hw
    obtain ⟨h1, _⟩ := hJ I' F' _ w' H' i e' rel' hw
    obtain ⟨hgo, hy⟩ := h1 _ (bj hlt)
    refine .inr ⟨hgo, fun H2 => ∃ I2 F2 w2 xs2 us2, Ext I1 F1 I2 F2 ∧ Rel K I2 F2 (upd G q (.lst us2)) w2 H2 ∧ RepL K I2 F2 xs2 us2 ∧ xs2.length ≤ i + 1 ∧ bF K I2 F2 G E (RV K Q) ((mV it vs g t me (it.xs.drop (i + 1)) ds w2).bind fun ys w2 => f (xs2 ++ ys) w2),
     fun H2 q => ⟨it.xs.length - (i + 1), by omega, rfl, hlt, q⟩, fun v H2 y => ?_⟩
    obtain ⟨F2, e2, rel2, rv⟩ := hy v H2 y
    have p2 := p'.ext e2
    rw [Res.bind_assoc] at p2
    -- from here on the list at q lies still
    have still : ∀ {α : Type} {R : List Addr → Hp → Hp → α → W → Prop} {r : Res α} {I3 : List Addr} {F3 : Hp}, bF K I3 F3 G E0 R r → bF K I3 F3 (upd G q (.lst us)) E0 (fun I' F' H' a w => Rel K I' F' (upd G q (.lst us)) w H' ∧ ∀ H'', Rel K I' F' G w H'' → R I' F' H'' a w) r := by
     intro α R r I3 F3 hp
     cases r with
     | ok a w => exact fun I' F' H' e q => ⟨q, fun H'' q' => hp I' F' H'' e q'⟩
     | vY x w =>
      intro I' F' H' c d e q rx
      exact hp I' F' H' c d e ⟨q.len, q.nd, q.ob, q.fz, q.ap, fun a u h => q.gz a u (by rw [upd_ne (ne_of_none h hG)]; exact h), fun a u h => q.gf a u (by rw [upd_ne (ne_of_none h hG)]; exact h), fun a xs h => q.gt a xs (by rw [upd_ne (ne_of_none h hG)]; exact h)⟩ rx
     | bad => exact hp
    have less : ∀ {I3 : List Addr} {F3 : Hp} {w3 : W} {H3 : Hp}, Rel K I3 F3 (upd G q (.lst us)) w3 H3 → Rel K I3 F3 G w3 H3 := fun {I3 F3 w3 H3} q => ⟨q.len, q.nd, q.ob, q.fz, q.ap, fun a u h => q.gz a u (by rw [upd_ne (ne_of_none h hG)]; exact h), fun a u h => q.gf a u (by rw [upd_ne (ne_of_none h hG)]; exact h), fun a xs h => q.gt a xs (by rw [upd_ne (ne_of_none h hG)]; exact h)⟩
    refine ⟨I', F2, upd G q (.lst us), _, eO ds vs, w', rel2, (((rs.ext e1).ext e').ext e2).wipe vs, rv, (still (bF.iQ p2)).mono fun I3 F3 H3 s3 w3 _ e3 rel3 p3 σ3 rs3 ew => ⟨ew.trans BJ, ?_⟩⟩
    have p3' := p3.2 H3 (less rel3)
    rw [Res.bind_assoc] at p3'
    refine ⟨I3, F3, upd G q (.lst us), s3, w3, rel3, rs3, (still (bF.iQ p3')).mono fun I4 F4 H4 b w4 _ e4 rel4 p4 => ?_⟩
    have p4' := p4.2 H4 (less rel4)
    cases b with
    | true =>
     simp only [ae] at p4' ⊢
     rw [Res.bind_assoc] at p4'
     refine ⟨I4, F4, upd G q (.lst us), s3, w4, rel4, rs3.ext e4, (still (bF.iQ p4')).mono fun I5 F5 H5 y w5 _ e5 rel5 p5 u ru => ?_⟩
     have p5' := p5.2 H5 (less rel5)
     rw [Res.bind_assoc] at p5'
     have ee : Ext I' F' I5 F5 := ((e2.trans e3).trans e4).trans e5
     refine ⟨us, rel5.gz _ _ upd_same, by rw [← rx.length]; omega, I5, F5, w5, xs ++ [y], us ++ [u], e'.trans ee, rel5.J5, (RepL.ext ee _ _ rx).append (RepL.cons ru (by simp [RepL])), by simp; omega, ?_⟩
     simpa using p5'
    | false =>
     simp only [bg, aa] at p4' ⊢
     exact ⟨I4, F4, w4, xs, us, (e'.trans e2).trans (e3.trans e4), rel4, RepL.ext ((e2.trans e3).trans e4) _ _ rx, by omega, p4'⟩
   ·exact p'.elim
  ·have hl : i = it.xs.length := by omega
   subst hl
   rw [List.drop_length] at p'
   unfold mV at p'
   split at p'
   ·rename_i hw
    refine .inl ⟨(hJ I' F' _ w' H' _ e' rel' hw).2 rfl, fin I' F' G w' H' q xs us rel' hG rx ?_⟩
    simpa using p'
   ·exact p'.elim
 ·exact p1.elim
theorem K7 {K : PySem.W.Frag} {E : XK} {Q : VK} (I : List Addr) (F G : Hp) (w : W) (H : Hp) (q : Addr) (xs : List D) (us : List V) (rel : Rel K I F (upd G q (.lst us)) w H) (hG : G q = none) (rx : RepL K I F xs us)
  (p : bF K I F G E (RV K Q) (.ok (.lst xs) w)) : Q (.ref q) H := by
 obtain ⟨e, rel2⟩ := rel.Z8 hG
 exact p _ _ H e rel2 _ (by simp only [aH]; exact ⟨q, us, rfl, upd_same, RepL.ext e _ _ rx⟩)
theorem nD (hi : JI S tg iter mi) (hb : blkC S.N S.sc scope own = true) (hg : JC (S.blk scope) (own.map (·.2)) tg g) (ht : JTs (S.blk scope) ifs t) (he : JE (S.blk scope) elt me)
  (hs : ∀ (env : Env) x, foldedSetIterable iter env x = pure x := by intro _ _; rfl) : JE S (.ListComp elt [⟨tg, iter, ifs, 0⟩] scope pos) (b6 mi (own.map (·.2)) g t me) := fun X E cx xo =>
 b0 (pe_lc (own := own) cx.calm cx.nd (hi X E cx xo) (blkOk_by (by rw [cx.N, cx.sc]; exact hb)) (fun s H C cl fp => hg _ E0 (i0 cx s H scope C cl fp) (jC ..)) (fun s H C cl fp => ht _ E0 (i0 cx s H scope C cl fp) (jC ..))
  (fun s H C cl fp => he _ E0 (i0 cx s H scope C cl fp) (jC ..)) (hs X.env)) fun σ H Q h => OT h K7
theorem TM {i : Nat} {y : Str} {py spos : Pos} (hy : S.N[i]? = some y) (hyl : S.sc.names.lookup y = some .local) (hsw : ∀ env : Env, env.scope = S.sc → env.scope.kind = .function → swapsWith (.ListComp elt [⟨tg, iter, ifs, 0⟩] scope pos) (some (.Name y py)) spos.line env = pure true)
  (hi : JI S tg iter mi) (hb : blkC S.N S.sc scope own = true) (hg : JC (S.blk scope) (own.map (·.2)) tg g) (ht : JTs (S.blk scope) ifs t) (he : JE (S.blk scope) elt me)
  (hk : S.sc.kind = .function) (hs : ∀ (env : Env) x, foldedSetIterable iter env x = pure x := by intro _ _; rfl) : JS S (.Assign [.Name y py] (.ListComp elt [⟨tg, iter, ifs, 0⟩] scope pos) spos) (aT (b6 mi (own.map (·.2)) g t me) (a7 i)) := fun X E cx xo =>
 jF (ps_setLc (i := i) (own := own) cx.calm cx.nd (by rw [cx.N]; exact hy) (by rw [cx.sc]; exact hyl) (hsw X.env cx.sc (by rw [cx.sc]; exact hk)) (hi X E cx xo) (blkOk_by (by rw [cx.N, cx.sc]; exact hb)) (fun s H C cl fp => hg _ E0 (i0 cx s H scope C cl fp) (jC ..)) (fun s H C cl fp => ht _ E0 (i0 cx s H scope C cl fp) (jC ..))
  (fun s H C cl fp => he _ E0 (i0 cx s H scope C cl fp) (jC ..)) (hs X.env)) fun Z σ H ⟨I, F, G, ds, w, rel, rs, p⟩ => by
  obtain ⟨I, F, G, ds, w, rel, rs, q⟩ : sP X.K E (b6 mi (own.map (·.2)) g t me) σ H (fun x H1 => gName i x σ H1 Z.nx) := bX (f := fun ds d w1 => (a7 i d ds w1).bind fun σ2 w2 => Res.ok (Fl.nx σ2) w2) rel rs p fun I1 F1 H1 x w1 v e1 rel1 rs1 rv p1 => p1 I1 F1 H1 .refl rel1 _ (rs1.set i rv)
  exact OT (f := fun ys w1 => Res.ok (D.lst ys) w1) ⟨I, F, G, ds, w, rel, rs, q⟩ K7
end
def keyD : D → Option Key
 | .int i => some (.inl i)
 | .str x => some (.inr x)
 | _ => none
def v5 : List D → Option (List Key)
 | [] => some []
 | d :: ds => match keyD d, v5 ds with
  | some k, some ks => some (k :: ks)
  | _, _ => none
def kB {κ : Type} [DecidableEq κ] : List (κ × D) → κ → Option D
 | [], _ => none
 | (j, d) :: r, k => if j = k then some d else kB r k
def putD {κ : Type} [DecidableEq κ] (kvs : List (κ × D)) (k : κ) (d : D) : List (κ × D) :=
 if (kB kvs k).isSome then kvs.map (fun p => if p.1 = k then (p.1, d) else p) else kvs ++ [(k, d)]
section
variable {K : PySem.W.Frag} {I : List Addr} {F G H : Hp} {w : W} {κ : Type} [DecidableEq κ]
def RP (K : PySem.W.Frag) (I : List Addr) (F : Hp) : Option D → Option V → Prop
 | some d, q => ∃ v, q = some v ∧ aH K I F d v
 | none, q => q = none
theorem aQ.look : ∀ {kvs : List (κ × D)} {r : List (κ × V)} (k : κ), aQ K I F kvs r → RP K I F (kB kvs k) (valV r k)
 | [], r, k, h => by simp only [aQ] at h; subst h; rfl
 | (j, d) :: kvs, r, k, h => by
  simp only [aQ] at h
  obtain ⟨v, t, rfl, h1, h2⟩ := h
  simp only [kB]
  by_cases e : j = k
  ·rw [if_pos e]; exact ⟨v, by rw [valV_pos e], h1⟩
  ·rw [if_neg e]
   have := aQ.look k h2
   rw [valV_neg (by exact e)]
   exact this
theorem aQ.length : ∀ {kvs : List (κ × D)} {r : List (κ × V)}, aQ K I F kvs r → kvs.length = r.length
 | [], r, h => by simp only [aQ] at h; subst h; rfl
 | (j, d) :: kvs, r, h => by
  simp only [aQ] at h
  obtain ⟨v, t, rfl, h1, h2⟩ := h
  simp [aQ.length h2]
theorem aQ.repl {d : D} {v : V} (k : κ) (hv : aH K I F d v) : ∀ {kvs : List (κ × D)} {r : List (κ × V)}, aQ K I F kvs r → aQ K I F (kvs.map (fun p => if p.1 = k then (p.1, d) else p)) (r.map (fun p => if p.1 = k then (p.1, v) else p))
 | [], r, h => by simp only [aQ] at h; subst h; simp [aQ]
 | (j, x) :: kvs, r, h => by
  simp only [aQ] at h
  obtain ⟨u, t, rfl, h1, h2⟩ := h
  simp only [cw]
  by_cases e : j = k
  ·rw [if_pos e, if_pos e]; simp only [aQ]; exact ⟨v, _, rfl, hv, aQ.repl k hv h2⟩
  ·rw [if_neg e, if_neg e]; simp only [aQ]; exact ⟨u, _, rfl, h1, aQ.repl k hv h2⟩
theorem aQ.snoc {d : D} {v : V} (k : κ) (hv : aH K I F d v) : ∀ {kvs : List (κ × D)} {r : List (κ × V)}, aQ K I F kvs r → aQ K I F (kvs ++ [(k, d)]) (r ++ [(k, v)])
 | [], r, h => by simp only [aQ] at h; subst h; simp only [cc, aQ]; exact ⟨v, [], rfl, hv, rfl⟩
 | (j, x) :: kvs, r, h => by
  simp only [aQ] at h
  obtain ⟨u, t, rfl, h1, h2⟩ := h
  simp only [ax, aQ]
  exact ⟨u, _, rfl, h1, aQ.snoc k hv h2⟩
theorem aCd (r : List (κ × V)) (k : κ) (v : V) : putK r k v = if (valV r k).isSome then r.map (fun p => if p.1 = k then (p.1, v) else p) else r ++ [(k, v)] := by
 unfold putK
 rw [valV_any]
theorem aQ.put {d : D} {v : V} (k : κ) (hv : aH K I F d v) {kvs : List (κ × D)} {r : List (κ × V)} (h : aQ K I F kvs r) : aQ K I F (putD kvs k d) (putK r k v) := by
 rw [aCd]
 unfold putD
 have hl := h.look k
 cases e : kB kvs k with
 | some x =>
  rw [e] at hl
  obtain ⟨u, hu, _⟩ := hl
  rw [hu]
  exact h.repl k hv
 | none =>
  rw [e] at hl
  rw [hl]
  exact h.snoc k hv
theorem uI {d : D} {v : V} {k : Key} (h : aH K I F d v) (e : keyD d = some k) : v = kV k := by
 cases d <;> simp only [keyD, aj, reduceCtorEq] at e
 ·subst e; simp only [aH] at h; exact h
 ·subst e; simp only [aH] at h; exact h
theorem vC : ∀ {ds : List D} {vs : List V} {ks : List Key}, RepL K I F ds vs → v5 ds = some ks → vs = ks.map kV
 | [], vs, ks, h, e => by simp only [v5, aj] at e; subst e; simp only [RepL] at h; exact h
 | d :: ds, vs, ks, h, e => by
  simp only [RepL] at h
  obtain ⟨v, r, rfl, h1, h2⟩ := h
  simp only [v5] at e
  split at e
  ·rename_i k ks' e1 e2
   cases e
   rw [uI h1 e1, vC h2 e2]
   rfl
  ·cases e
theorem Rel.upd {i : Nat} {a : Addr} {o o' : MO} {u' : HO} (rel : Rel K I F G w H) (hi : I[i]? = some a) (ho : w[i]? = some o) (r : kP K I F o' u') (hf : o.fz = false := by rfl) : Rel K I F G (w.set i o') (upd H a u') := by
 have hF : F a = none := rel.ap i a o hi ho hf
 have hil : i < w.length := (ai.mp ho).1
 refine ⟨by simp [rel.len], rel.nd, fun j b q h1 h2 => ?_, fun b u h => ?_, fun j b q h1 h2 h3 => ?_, fun b u h => ?_, rel.gf, rel.gt⟩
 ·by_cases hj : i = j
  ·subst hj
   rw [bf hil] at h2
   cases h2
   rw [hi] at h1; cases h1
   exact ⟨u', upd_same, r⟩
  ·rw [az hj] at h2
   obtain ⟨u, h3, h4⟩ := rel.ob j b q h1 h2
   have hb : b ≠ a := fun z => by
    subst z
    obtain ⟨l1, e1⟩ := ai.mp hi
    obtain ⟨l2, e2⟩ := ai.mp h1
    exact hj ((List.getElem_inj rel.nd).mp (e1.trans e2.symm))
   exact ⟨u, by rw [upd_ne hb]; exact h3, h4⟩
 ·rw [upd_ne (ne_of_none h hF)]; exact rel.fz b u h
 ·by_cases hj : i = j
  ·subst hj
   rw [hi] at h1; cases h1; exact hF
  ·rw [az hj] at h2
   exact rel.ap j b q h1 h2 h3
 ·have hb : b ≠ a := fun z => (rel.gf b u h).2 (z ▸ cb hi)
  rw [upd_ne hb]; exact rel.gz b u h
end
theorem RepL.at' {K : PySem.W.Frag} {I : List Addr} {F : Hp} {ds : List D} {vs : List V} (r : RepL K I F ds vs) {i : Int} {d : D} (h : atI ds i = some d) : ∃ v, atI vs i = some v ∧ aH K I F d v := by
 unfold atI at h ⊢
 rw [← r.length]
 cases e : ixN ds.length i with
 | none => rw [e] at h; cases h
 | some j => rw [e] at h; exact r.get h
def pZ (o : MO) (y : D) : Option (Option D) := match o, y with
 | .dK kvs, y => (keyD y).map (kB kvs)
 | .dF kvs, y => (keyD y).map (kB kvs)
 | .dT kvs, .tup ys => (v5 ys).map (kB kvs)
 | .dG kvs, .tup ys => (v5 ys).map (kB kvs)
 | _, _ => none
def U1 (xs : List D) (y : D) (w : W) : Res D := match y with
 | .int i => (match atI xs i with
  | some d => .ok d w
  | none => .bad)
 | _ => .bad
def atS (z : Str) (y : D) (w : W) : Res D := match y with
 | .int i => if z.length ≤ sizeLine then (match atI z.cps.toList i with
   | some c => .ok (.str ⟨#[c]⟩) w
   | none => .bad) else .bad
 | _ => .bad
def a9 (x y : D) (w : W) : Res D := match x with
 | .tup xs => U1 xs y w
 | .lY xs => U1 xs y w
 | .lst xs => U1 xs y w
 | .oI xs => U1 xs y w
 | .str z => atS z y w
 | .ref r => (match w[r]? with
  | some (.lst xs) => U1 xs y w
  | some o => (match pZ o y with
   | some (some d) => .ok d w
   | _ => .bad)
  | none => .bad)
 | _ => .bad
theorem aCy {X : Cx} (hu : X.A.units + 1 < cLine) : IxR X (fun x y H Q => ∃ a v, x = .ref a ∧ DGet H a y (some v) ∧ Q v H) := by
 intro value slice pins s σ H x y ov iv Q J rx ry h hs
 obtain ⟨a, v, ex, g, q⟩ := h
 subst ex
 cases rx
 have hT : s.TypeIs (.ref a) "dict" := dict_typeIs J g
 unfold subscriptTail
 apply wpAny_bind
 rw [getitemInPython_of_ne hT.not_modules]
 apply wpAny_bind
 apply wpAny_specialOf hT PySem.F.slot_dict_getitem.lookup
 have fin : wpAny (model X.prog X.w) X.A (subscripted slice false (.ref a) iv) (fun r s₃ => wpAny (model X.prog X.w) X.A (letTemporaryGo value (.ref a) r >>= fun _ => pure r) (EP X pins σ Q) X.xe s₃) X.xe s := by
  rw [hs]
  apply wpAny_operating
  exact d_getItem hu J g ry fun w' s3 J3 rw' => wpAny_bind (wpAny_letTemporaryGo (wpAny_pure ⟨v, H, J3, rw', q⟩))
 first
  | exact wpAny_pure (wpAny_bind fin)
  | exact wpAny_bind (wpAny_pure (wpAny_bind fin))
  | exact wpAny_bind fin
theorem aCM {K : PySem.W.Frag} {I : List Addr} {F G H : Hp} {w : W} (rel : Rel K I F G w H) {i : Nat} {a : Addr} {o : MO} {y : D} {v : V} {r : Option D} (hi : I[i]? = some a) (ho : w[i]? = some o) (ry : aH K I F y v) (e : pZ o y = some r) :
  ∃ q, DGet H a v q ∧ RP K I F r q := by
 obtain ⟨u, hu, ro⟩ := rel.ob i a o hi ho
 cases o with
 | lst => simp [pZ] at e
 | ins => simp [pZ] at e
 | dK kvs =>
  obtain ⟨t, rfl, rk⟩ := ro
  simp only [pZ, aq] at e
  obtain ⟨k, ek, rfl⟩ := e
  exact ⟨valV t k, .inl ⟨t, k, .inl hu, uI ry ek, rfl⟩, rk.look k⟩
 | dF kvs =>
  obtain ⟨ob, t, rfl, rk⟩ := ro
  simp only [pZ, aq] at e
  obtain ⟨k, ek, rfl⟩ := e
  exact ⟨valV t k, .inl ⟨t, k, .inr ⟨ob, hu⟩, uI ry ek, rfl⟩, rk.look k⟩
 | dT kvs =>
  obtain ⟨t, rfl, rk⟩ := ro
  cases y <;> simp only [pZ, aq, reduceCtorEq] at e
  obtain ⟨k, ek, rfl⟩ := e
  simp only [aH] at ry
  obtain ⟨b, us, rfl, hb, rl⟩ := ry
  obtain rfl := vC rl ek
  exact ⟨valV t k, .inr ⟨t, k, b, .inl hu, rfl, rel.fz _ _ hb, rfl⟩, rk.look k⟩
 | dG kvs =>
  obtain ⟨ob, t, rfl, rk⟩ := ro
  cases y <;> simp only [pZ, aq, reduceCtorEq] at e
  obtain ⟨k, ek, rfl⟩ := e
  simp only [aH] at ry
  obtain ⟨b, us, rfl, hb, rl⟩ := ry
  obtain rfl := vC rl ek
  exact ⟨valV t k, .inr ⟨t, k, b, .inr ⟨ob, hu⟩, rfl, rel.fz _ _ hb, rfl⟩, rk.look k⟩
def aAM (S : aR) (f : D → D → W → Res D) : Prop := ∀ X E, Ctx S X → qL X E → IxR X (SN X.K E f)
section
variable {S : aR} {pos : Pos} {a b : Expr} {ma mb : ME}
theorem PH {f : D → D → W → Res D}
  (h : ∀ (X : Cx) (E : XK), Ctx S X → qL X E → ∀ (I : List Addr) (F G : Hp) (d e : D) (w : W) (H : Hp) (x y : V) (Q : VK), Rel X.K I F G w H → aH X.K I F d x → aH X.K I F e y → bF X.K I F G E (RV X.K Q) (f d e w) →
   ∃ r : R2, IxR X r ∧ r x y H Q) : aAM S f := fun X E c xo value slice pins s σ H x y v u Q J rx ry ⟨I, F, G, d, e, w, rel, rd, re, p⟩ hs => by
 obtain ⟨r, ho, hr⟩ := h X E c xo I F G d e w H x y Q rel rd re p
 exact ho value slice pins s σ H x y v u Q J rx ry hr hs
theorem DS {X : Cx} {E : XK} {I : List Addr} {F G : Hp} {e : D} {w : W} {H : Hp} {x y : V} {Q : VK} (rel : Rel X.K I F G w H) (re : aH X.K I F e y) {xs : List D} {vs : List V} {q : Addr} (h1 : SqL X.K H q vs ∨ SqT X.K H q vs) (h2 : RepL X.K I F xs vs) (ex : x = .ref q)
  (p : bF X.K I F G E (RV X.K Q) (U1 xs e w)) : ∃ r : R2, IxR X r ∧ r x y H Q := by
 cases e <;> first | exact p.elim | skip
 rename_i i
 simp only [aH] at re
 simp only [U1] at p
 cases ha : atI xs i with
 | none => rw [ha] at p; exact p.elim
 | some d =>
  rw [ha] at p
  obtain ⟨v, hv, rv⟩ := h2.at' ha
  rcases h1 with h1 | h1
  ·exact ⟨_, ix_list, q, vs, i, v, ex, re, h1, hv, p.nL rel rv⟩
  ·exact ⟨_, ix_tup, q, vs, i, v, ex, re, h1, hv, p.nL rel rv⟩
theorem aGM : aAM S a9 := PH fun X E c xo I F G d e w H x y Q rel rd re p => by
 cases d <;> first | exact p.elim | skip
 case str z =>
  cases e <;> first | exact p.elim | skip
  rename_i i
  simp only [aH] at rd re
  simp only [a9, atS] at p
  split at p
  ·rename_i hz
   split at p
   ·rename_i c hc
    exact ⟨_, ix_str, z, i, c, rd, re, hz, hc, p.nL rel (by simp [aH])⟩
   ·exact p.elim
  ·exact p.elim
 case tup xs =>
  simp only [aH] at rd
  obtain ⟨q, vs, ex, h1, h2⟩ := rd
  exact DS rel re (.inr (.of (rel.fz _ _ h1))) h2 ex p
 case lY xs =>
  simp only [aH] at rd
  obtain ⟨q, vs, ex, h1, h2⟩ := rd
  exact DS rel re (.inr (rel.RS h1)) h2 ex p
 case lst xs =>
  simp only [aH] at rd
  obtain ⟨q, vs, ex, h1, h2⟩ := rd
  exact DS rel re (.inl (.of (rel.fz _ _ h1))) h2 ex p
 case oI xs =>
  simp only [aH] at rd
  obtain ⟨q, vs, ex, h1, h2⟩ := rd
  exact DS rel re (.inl (rel.YS h1)) h2 ex p
 case ref i =>
  simp only [aH] at rd
  obtain ⟨q, ex, h1⟩ := rd
  simp only [a9] at p
  split at p
  ·rename_i xs hw
   obtain ⟨u, hu, vs, rfl, h2⟩ := rel.ob i q _ h1 hw
   exact DS rel re (.inl (.of hu)) h2 ex p
  ·rename_i o hn hw
   split at p
   ·rename_i d hd
    obtain ⟨r, hr, u, rfl, ru⟩ := aCM rel h1 hw re hd
    exact ⟨_, aCy (by have := c.room.units; omega), q, u, ex, hr, p.nL rel ru⟩
   ·exact p.elim
  ·exact p.elim
theorem cG (ha : JE S a ma) (hb : JE S b mb) (hs : PlainIx b := by intro _ _; rfl) : JE S (.Subscript a b pos) (aD a9 ma mb) := fun X E c xo =>
 b0 (pe_ix (aGM X E c xo) (ha X E c xo) (hb X E c xo) hs) fun _ _ _ h => y9 h
end
abbrev MO' := Sg → W → Res (Option Int)
def cV : MO' := fun _ w => .ok none w
def cK (m : ME) : MO' := fun σ w => (m σ w).bind fun d w1 => match d with
 | .int i => .ok (some i) w1
 | _ => .bad
def RO (Q : Option Int → Hp → Prop) : List Addr → Hp → Hp → Option Int → W → Prop := fun _ _ H' o _ => Q o H'
def aIG (K : PySem.W.Frag) (E : XK) (m : MO') : TO := fun σ H Q => ∃ I F G ds w, Rel K I F G w H ∧ dW K I F ds σ ∧ bF K I F G E (RO Q) (m ds w)
def JO (S : aR) (e : Option Expr) (m : MO') : Prop := ∀ X E, Ctx S X → qL X E → PO X e (aIG X.K E m)
def cutD (xs : List D) (lo hi : Option Int) : List D := (xs.drop (HT.sIx xs.length 0 lo)).take (HT.sIx xs.length xs.length hi - HT.sIx xs.length 0 lo)
def iZ (x : D) (lo hi : Option Int) (w : W) : Res D := match x with
 | .tup xs => .ok (.tup (cutD xs lo hi)) w
 | .str z => if z.length ≤ sizeLine then .ok (.str (cutS z lo hi)) w else .bad
 | .lst xs => .ok (.lst (cutD xs lo hi)) w
 | .oI xs => .ok (.lst (cutD xs lo hi)) w
 | .ref i => (match w[i]? with
  | some (.lst xs) => .ok (.lst (cutD xs lo hi)) w
  | _ => .bad)
 | _ => .bad
def m9 (f : D → Option Int → Option Int → W → Res D) (a : ME) (lo hi : MO') : ME := fun σ w => (a σ w).bind fun x w1 => (lo σ w1).bind fun l w2 => (hi σ w2).bind fun u w3 => f x l u w3
theorem RepL.cutV {K : PySem.W.Frag} {I : List Addr} {F : Hp} {ds : List D} {vs : List V} (r : RepL K I F ds vs) (lo hi : Option Int) : RepL K I F (cutD ds lo hi) (L2.cutV vs lo hi) := by
 unfold cutD L2.cutV
 rw [← r.length]
 exact (r.drop _).take _
theorem X9 {xs : List D} {lo hi : Option Int} (h : HT.sIx xs.length 0 lo = 0 ∧ HT.sIx xs.length xs.length hi = xs.length) : cutD xs lo hi = xs := by
 unfold cutD
 rw [h.1, h.2]
 simp
def SlM (S : aR) (f : D → Option Int → Option Int → W → Res D) : Prop := ∀ X E, Ctx S X → qL X E → ∀ (I : List Addr) (F G : Hp) (d : D) (w : W) (H : Hp) (x : V) (lo hi : Option Int) (Q : VK), Rel X.K I F G w H → aH X.K I F d x → bF X.K I F G E (RV X.K Q) (f d lo hi w) →
   ∃ r, SlR X r ∧ r x lo hi H Q
def aHd (K : PySem.W.Frag) (E : XK) (f : D → Option Int → Option Int → W → Res D) : V → Option Int → Option Int → Hp → VK → Prop := fun x lo hi H Q => ∃ I F G d w, Rel K I F G w H ∧ aH K I F d x ∧ bF K I F G E (RV K Q) (f d lo hi w)
section
variable {S : aR} {pos p2 : Pos} {a e : Expr} {ma m : ME} {lo hi : Option Expr} {ml mh : MO'} {f : D → Option Int → Option Int → W → Res D}
theorem cQ : JO S none cV := fun X E c xo => ⟨fun pins s σ H Q J ⟨I, F, G, ds, w, rel, rs, p⟩ => po_none.run pins s σ H Q J (p I F H .refl rel)⟩
theorem cL (h : JE S e m) : JO S (some e) (cK m) := fun X E c xo => ⟨fun pins s σ H Q J ⟨I, F, G, ds, w, rel, rs, p⟩ => (po_some (h X E c xo)).run pins s σ H Q J
 (bX (f := fun _ d w1 => match d with
  | .int i => Res.ok (some i) w1
  | _ => .bad) rel rs p fun I1 F1 H1 x w1 v e1 rel1 rs1 rv p1 => by
  cases x <;> first | exact p1.elim | skip
  simp only [aH] at rv
  exact ⟨_, rv, p1 I1 F1 H1 .refl rel1⟩)⟩
theorem fM : SlM S iZ := fun X E c xo I F G d w H x lo hi Q rel rd p => by
 cases d <;> first | exact p.elim | skip
 case tup xs =>
  simp only [aH] at rd
  obtain ⟨q, vs, ex, h1, h2⟩ := rd
  refine ⟨_, sl_tupA, q, vs, ex, .of (rel.fz _ _ h1), fun hw => ?_, fun hw => ?_⟩
  ·rw [← h2.length] at hw
   refine p.nL rel ?_
   rw [X9 hw]
   simp only [aH]
   exact ⟨q, vs, ex ▸ rfl, h1, h2⟩
  ·exact vA rel (h2.cutV lo hi) p
 case str z =>
  simp only [aH] at rd
  simp only [iZ] at p
  split at p
  ·rename_i hz
   exact ⟨_, sl_str, z, rd, hz, p.nL rel (by simp [aH])⟩
  ·exact p.elim
 case lst xs =>
  simp only [aH] at rd
  obtain ⟨q, vs, ex, h1, h2⟩ := rd
  exact ⟨_, sl_list, q, vs, ex, .of (rel.fz _ _ h1), kI rel (h2.cutV lo hi) p⟩
 case oI xs =>
  simp only [aH] at rd
  obtain ⟨q, vs, ex, h1, h2⟩ := rd
  exact ⟨_, sl_list, q, vs, ex, rel.YS h1, kI rel (h2.cutV lo hi) p⟩
 case ref i =>
  simp only [aH] at rd
  obtain ⟨q, ex, h1⟩ := rd
  simp only [iZ] at p
  split at p
  ·rename_i xs hw
   obtain ⟨u, hu, vs, rfl, h2⟩ := rel.ob i q _ h1 hw
   exact ⟨_, sl_list, q, vs, ex, .of hu, kI rel (h2.cutV lo hi) p⟩
  ·exact p.elim
theorem fE (hf : SlM S f) (ha : JE S a ma) (hl : JO S lo ml) (hh : JO S hi mh) : JE S (.Subscript a (.Slice lo hi none p2) pos) (m9 f ma ml mh) := fun X E c xo => by
 have hr : SlR X (aHd X.K E f) := fun pins s σ H x v vl vu l u sl Q J rx hs pl pu ⟨I, F, G, d, w, rel, rd, p⟩ => by
  obtain ⟨r, h1, h2⟩ := hf X E c xo I F G d w H x l u Q rel rd p
  exact h1 pins s σ H x v vl vu l u sl Q J rx hs pl pu h2
 refine b0 (pe_slice hr (ha X E c xo) (hl X E c xo) (hh X E c xo)) fun σ H Q ⟨I, F, G, ds, w, rel, rs, p⟩ => ?_
 refine bX (f := fun ds x w1 => (ml ds w1).bind fun l w2 => (mh ds w2).bind fun u w3 => f x l u w3) rel rs p fun I1 F1 H1 x w1 v e1 rel1 rs1 rv p1 => ?_
 refine ⟨I1, F1, G, ds, w1, rel1, rs1, (bF.bind p1).mono fun I2 F2 H2 l w2 _ e2 rel2 p2 => ?_⟩
 refine ⟨I2, F2, G, ds, w2, rel2, rs1.ext e2, (bF.bind p2).mono fun I3 F3 H3 u w3 _ e3 rel3 p3 => ?_⟩
 exact ⟨I3, F3, G, x, w3, rel3, aH.ext (e2.trans e3) _ _ rv, p3⟩
end
def setM (o i d : D) (w : W) : Res Unit := match o with
 | .ref r => (match w[r]? with
  | some (.lst xs) => (match i with
   | .int k => (match ixN xs.length k with
    | some j => .ok () (w.set r (.lst (xs.set j d)))
    | none => .bad)
   | _ => .bad)
  | some (.dK kvs) => (match keyD i with
   | some k => if kvs.length < sizeLine then .ok () (w.set r (.dK (putD kvs k d))) else .bad
   | none => .bad)
  | some (.dT kvs) => (match i with
   | .tup ys => (match v5 ys with
    | some k => if kvs.length < sizeLine then .ok () (w.set r (.dT (putD kvs k d))) else .bad
    | none => .bad)
   | _ => .bad)
  | _ => .bad)
 | _ => .bad
def dR (mo mi : ME) : MG := fun d σ w => (mo σ w).bind fun o w1 => (mi σ w1).bind fun i w2 => (setM o i d w2).bind fun _ w3 => .ok σ w3
def aFn (K : PySem.W.Frag) (E : XK) : TSet := fun o i v H Q => ∃ I F G x y d w, Rel K I F G w H ∧ aH K I F x o ∧ aH K I F y i ∧ aH K I F d v ∧ bF K I F G E (fun _ _ H' _ _ => Q H') (setM x y d w)
theorem aAc {X : Cx} {E : XK} (hu : X.A.units + 1 < cLine) : PSet X (aFn X.K E) := by
 intro pins s σ H o i v ov iv u Q J ro ri rv ⟨I, F, G, x, y, d, w, rel, rx, ry, rd, p⟩
 cases x <;> first | exact p.elim | skip
 rename_i r
 simp only [aH] at rx
 obtain ⟨a, rfl, h1⟩ := rx
 simp only [setM] at p
 split at p
 ·rename_i xs hw
  obtain ⟨t, hu', vs, rfl, h2⟩ := rel.ob r a _ h1 hw
  cases y <;> first | exact p.elim | skip
  rename_i k
  simp only [aH] at ry
  subst ry
  dsimp only at p
  split at p
  ·rename_i j hj
   exact set_list pins s σ H _ _ v ov iv u Q J ro ri rv ⟨a, vs, k, j, rfl, rfl, hu', by rw [← h2.length]; exact hj, p I F _ .refl (rel.upd h1 hw ⟨_, rfl, h2.set j rd⟩)⟩
  ·exact p.elim
 ·rename_i kvs hw
  obtain ⟨t, hu', vs, rfl, h2⟩ := rel.ob r a _ h1 hw
  split at p
  ·rename_i k hk
   split at p
   ·rename_i hl
    obtain rfl := uI ry hk
    cases ro
    exact d_setItem hu J (.inl ⟨vs, k, hu', rfl, by rw [← h2.length]; exact hl, rfl⟩) ri rv fun s' J' => ⟨_, J', p I F _ .refl (rel.upd h1 hw ⟨_, rfl, h2.put k rd⟩)⟩
   ·exact p.elim
  ·exact p.elim
 ·rename_i kvs hw
  obtain ⟨t, hu', vs, rfl, h2⟩ := rel.ob r a _ h1 hw
  cases y <;> first | exact p.elim | skip
  rename_i ys
  dsimp only at p
  split at p
  ·rename_i k hk
   split at p
   ·rename_i hl
    simp only [aH] at ry
    obtain ⟨b, us, rfl, hb, rl⟩ := ry
    obtain rfl := vC rl hk
    cases ro
    exact d_setItem hu J (.inr ⟨vs, k, b, hu', rfl, rel.fz _ _ hb, by rw [← h2.length]; exact hl, rfl⟩) ri rv fun s' J' => ⟨_, J', p I F _ .refl (rel.upd h1 hw ⟨_, rfl, h2.put k rd⟩)⟩
   ·exact p.elim
  ·exact p.elim
 ·exact p.elim
section
variable {S : aR} {pos : Pos} {o i : Expr} {mo mi : ME}
theorem R9 (ho : JE S o mo) (hi : JE S i mi)
  (ha : ∀ (env : Env) v, assign (.Subscript o i pos) env v = (do
   let ov ← holding [v] (eval o env)
   let iv ← holding [v, ov] (eval i env)
   standAt pos
   holding [v, ov, iv] (setItem ov iv v)
   release [v, ov, iv] []) := by intro _ _; rfl) : JG S (.Subscript o i pos) (dR mo mi) := fun X E c xo =>
 yQ (pg_sub (ho X E c xo) (hi X E c xo) (aAc (E := E) (by have := c.room.units; omega)) (ha X.env)) fun v σ H Q ⟨I, F, G, d, ds, w, rel, rs, rv, p⟩ => by
  refine bX (f := fun ds x w1 => (mi ds w1).bind fun y w2 => (setM x y d w2).bind fun _ w3 => Res.ok ds w3) rel rs p fun I1 F1 H1 x w1 u e1 rel1 rs1 ru p1 => ?_
  refine bX (f := fun ds y w2 => (setM x y d w2).bind fun _ w3 => Res.ok ds w3) rel1 rs1 p1 fun I2 F2 H2 y w2 t e2 rel2 rs2 rt p2 => ?_
  exact ⟨I2, F2, G, x, y, d, w2, rel2, aH.ext e2 _ _ ru, rt, aH.ext (e1.trans e2) _ _ rv, (bF.bind p2).mono fun I3 F3 H3 z w3 _ e3 rel3 p3 => p3 I3 F3 H3 .refl rel3 σ (rs2.ext e3)⟩
end
def aHt (K : PySem.W.Frag) (E : XK) (m : MF) : List V → Hp → VK → Prop := fun vs H Q => ∃ I F G ds w, Rel K I F G w H ∧ RepL K I F ds vs ∧ bF K I F G E (RV K Q) (m ds w)
def CB (S : aR) (f : Value) (m : MF) : Prop := ∀ X E, Ctx S X → qL X E → CallR X f (aHt X.K E m)
def aP (m : MF) (ma : MA) : ME := fun σ w => (ma σ w).bind fun xs w1 => m xs w1
section
variable {S : aR} {m : MF} {x : Str} {p pos : Pos} {e : Expr} {es : List Expr} {ma : MA} {f : Value}
theorem uY (h : ∀ (X : Cx) (E : XK), Ctx S X → qL X E → ∀ (I : List Addr) (F G : Hp) (ds : List D) (w : W) (H : Hp) (vs : List V) (Q : VK), Rel X.K I F G w H → RepL X.K I F ds vs → bF X.K I F G E (RV X.K Q) (m ds w) → ∃ r, CallR X f r ∧ r vs H Q) : CB S f m :=
 fun X E c xo pins s σ H vs us Q J r ⟨I, F, G, ds, w, rel, rl, p⟩ => by
  obtain ⟨r', h1, h2⟩ := h X E c xo I F G ds w H vs Q rel rl p
  exact h1 pins s σ H vs us Q J r h2
theorem VI {K : PySem.W.Frag} {E : XK} {σ : L2.St} {H : Hp} {Q : VK} (h : sP K E (aP m ma) σ H Q) : tCB (aHt K E m) (aBL K E ma) σ H Q := by
 obtain ⟨I, F, G, ds, w, rel, rs, p⟩ := h
 exact fD (f := fun _ xs w1 => m xs w1) rel rs p fun I1 F1 H1 xs w1 vs e1 rel1 rs1 rvs p1 => ⟨I1, F1, G, xs, w1, rel1, rvs, p1⟩
theorem a8 {id : String} (hc : CB S (.builtin id) m) (hg : S.sc.names.lookup x = some .globalImplicit) (hm : S.mg x = none) (hv : bootBuiltins x = some (.builtin id)) (ha : JA S (e :: es) ma) (hn : x ≠ "__name__" := by decide) (hdb : (x == ("__debug__" : Str)) = false := by decide)
  (he : ∀ env : Env, starEach (e :: es) env = (false, eval e env) :: starEach es env := by intro _; rfl) (hpl : ∀ env : Env, (backTo pos (starEach es env)).any (·.1) = false := by intro _; rfl) : JE S (.Call (.Name x p) (e :: es) [] pos) (aP m ma) := fun X E c xo =>
 b0 (pe_callB (hc X E c xo) (by show X.env.scope.names.lookup x = _; rw [c.sc]; exact hg) (by rw [c.mg]; exact hm) hv (ha X E c xo) hn hdb (he X.env) (hpl X.env)) fun _ _ _ h => VI h
theorem g6 {id : String} (hc : CB S (.type id) m) (hg : S.sc.names.lookup x = some .globalImplicit) (hm : S.mg x = none) (hv : bootBuiltins x = some (.type id)) (ha : JA S (e :: es) ma) (hn : x ≠ "__name__" := by decide) (hdb : (x == ("__debug__" : Str)) = false := by decide)
  (he : ∀ env : Env, starEach (e :: es) env = (false, eval e env) :: starEach es env := by intro _; rfl) (hpl : ∀ env : Env, (backTo pos (starEach es env)).any (·.1) = false := by intro _; rfl) : JE S (.Call (.Name x p) (e :: es) [] pos) (aP m ma) := fun X E c xo =>
 b0 (pe_callTy (hc X E c xo) (by show X.env.scope.names.lookup x = _; rw [c.sc]; exact hg) (by rw [c.mg]; exact hm) hv (ha X E c xo) hn hdb (he X.env) (hpl X.env)) fun _ _ _ h => VI h
end
theorem RepL.one {K : PySem.W.Frag} {I : List Addr} {F : Hp} {d : D} {vs : List V} (h : RepL K I F [d] vs) : ∃ v, vs = [v] ∧ aH K I F d v := by
 simp only [RepL] at h
 obtain ⟨v, r, rfl, h1, rfl⟩ := h
 exact ⟨v, rfl, h1⟩
theorem RepL.two {K : PySem.W.Frag} {I : List Addr} {F : Hp} {d e : D} {vs : List V} (h : RepL K I F [d, e] vs) : ∃ v u, vs = [v, u] ∧ aH K I F d v ∧ aH K I F e u := by
 simp only [RepL] at h
 obtain ⟨v, r, rfl, h1, u, r2, rfl, h2, rfl⟩ := h
 exact ⟨v, u, rfl, h1, h2⟩
theorem FR {K : PySem.W.Frag} {I : List Addr} {F G H : Hp} {w : W} (rel : Rel K I F G w H) {d : D} {v : V} {xs : List D} (h : aH K I F d v) (e : d.items w = some xs) : ∃ a vs, v = .ref a ∧ (SqL K H a vs ∨ SqT K H a vs) ∧ RepL K I F xs vs := by
 cases d <;> simp only [D.items, aj, reduceCtorEq] at e <;> simp only [aH] at h
 case tup => subst e; obtain ⟨a, vs, h0, h1, h2⟩ := h; exact ⟨a, vs, h0, .inr (.of (rel.fz _ _ h1)), h2⟩
 case lY => subst e; obtain ⟨a, vs, h0, h1, h2⟩ := h; exact ⟨a, vs, h0, .inr (rel.RS h1), h2⟩
 case lst => subst e; obtain ⟨a, vs, h0, h1, h2⟩ := h; exact ⟨a, vs, h0, .inl (.of (rel.fz _ _ h1)), h2⟩
 case oI => subst e; obtain ⟨a, vs, h0, h1, h2⟩ := h; exact ⟨a, vs, h0, .inl (rel.YS h1), h2⟩
 case ref i =>
  split at e
  ·rename_i ys hw
   cases e
   obtain ⟨a, h0, h1⟩ := h
   obtain ⟨u, hu, vs, rfl, h2⟩ := rel.ob i a _ h1 hw
   exact ⟨a, vs, h0, .inl (.of hu), h2⟩
  ·cases e
def LN (d : D) (w : W) : Option Nat := match d with
 | .str z => if z.length ≤ sizeLine then some z.length else none
 | .ref i => (match w[i]? with
  | some (.lst xs) => some xs.length
  | some (.dK kvs) => some kvs.length
  | _ => none)
 | d => (d.items w).map List.length
def c5 : MF := fun ds w => match ds with
 | [d] => (match LN d w with
  | some n => .ok (.int n) w
  | none => .bad)
 | _ => .bad
def nU : List D → Option (List Int)
 | [] => some []
 | .int i :: r => (nU r).map (i :: ·)
 | _ :: _ => none
theorem nM {K : PySem.W.Frag} {I : List Addr} {F : Hp} : ∀ {ds : List D} {vs : List V} {ns : List Int}, RepL K I F ds vs → nU ds = some ns → vs = ns.map V.int
 | [], vs, ns, h, e => by simp only [nU, aj] at e; subst e; simp only [RepL] at h; exact h
 | d :: ds, vs, ns, h, e => by
  cases d <;> simp only [nU, aq, reduceCtorEq] at e
  obtain ⟨r, e1, rfl⟩ := e
  simp only [RepL, aH] at h
  obtain ⟨v, t, rfl, rfl, h2⟩ := h
  rw [nM h2 e1]
  rfl
def wG (d : D) (w : W) : Option (List D) := match d with
 | .lst xs => some xs
 | .oI xs => some xs
 | .ref i => (match w[i]? with
  | some (.lst xs) => some xs
  | _ => none)
 | _ => none
def zL (d : D) : Option (List D) := match d with
 | .tup xs => some xs
 | .lY xs => some xs
 | _ => none
theorem DQ {K : PySem.W.Frag} {I : List Addr} {F G H : Hp} {w : W} (rel : Rel K I F G w H) {d : D} {v : V} {xs : List D} (h : aH K I F d v) (e : wG d w = some xs) : ∃ a vs, v = .ref a ∧ SqL K H a vs ∧ RepL K I F xs vs := by
 cases d <;> simp only [wG, aj, reduceCtorEq] at e <;> simp only [aH] at h
 case lst => subst e; obtain ⟨a, vs, h0, h1, h2⟩ := h; exact ⟨a, vs, h0, .of (rel.fz _ _ h1), h2⟩
 case oI => subst e; obtain ⟨a, vs, h0, h1, h2⟩ := h; exact ⟨a, vs, h0, rel.YS h1, h2⟩
 case ref i =>
  split at e
  ·rename_i ys hw
   cases e
   obtain ⟨a, h0, h1⟩ := h
   obtain ⟨u, hu, vs, rfl, h2⟩ := rel.ob i a _ h1 hw
   exact ⟨a, vs, h0, .of hu, h2⟩
  ·cases e
theorem LV {K : PySem.W.Frag} {I : List Addr} {F G H : Hp} {w : W} (rel : Rel K I F G w H) {d : D} {v : V} {xs : List D} (h : aH K I F d v) (e : zL d = some xs) : ∃ a vs, v = .ref a ∧ SqT K H a vs ∧ RepL K I F xs vs := by
 cases d <;> simp only [zL, aj, reduceCtorEq] at e <;> simp only [aH] at h
 case tup => subst e; obtain ⟨a, vs, h0, h1, h2⟩ := h; exact ⟨a, vs, h0, .of (rel.fz _ _ h1), h2⟩
 case lY => subst e; obtain ⟨a, vs, h0, h1, h2⟩ := h; exact ⟨a, vs, h0, rel.RS h1, h2⟩
def O0 : MF := fun ds w => match ds with
 | [d] => (match (wG d w).bind nU with
  | some ns => .ok (.int ns.sum) w
  | none => .bad)
 | _ => .bad
def IM : MF := fun ds w => match ds with
 | [d] => (match d.items w with
  | some xs => .ok (.lst xs) w
  | none => .bad)
 | _ => .bad
def tG : MF := fun ds w => match ds with
 | [d] => (match d.items w with
  | some xs => .ok (.ref w.length) (w ++ [.lst xs])
  | none => .bad)
 | _ => .bad
def dZ : MF := fun ds w => match ds with
 | [.tup xs] => .ok (.tup xs) w
 | [d] => (match wG d w with
  | some xs => .ok (.tup xs) w
  | none => .bad)
 | _ => .bad
def aHc (d : D) (w : W) : Option Str := match d.py w with
 | some p => if p.showable = true ∧ p.hasDict = false ∧ p.depth ≤ 60 ∧ p.shown.length ≤ sizeLine then some p.shown else none
 | none => none
def VU : MF := fun ds w => match ds with
 | [d] => (match aHc d w with
  | some z => .ok (.str z) w
  | none => .bad)
 | _ => .bad
def x7 : MF := fun ds w => match ds with
 | [.int i] => .ok (.int i) w
 | [.bl b] => .ok (.int (if b then 1 else 0)) w
 | _ => .bad
def max2 : MF := fun ds w => match ds with
 | [.int i, .int j] => .ok (.int (if j > i then j else i)) w
 | _ => .bad
def min2 : MF := fun ds w => match ds with
 | [.int i, .int j] => .ok (.int (if j < i then j else i)) w
 | _ => .bad
section
variable {S : aR}
theorem eS : CB S (.builtin "len") c5 := uY fun X E c xo I F G ds w H vs Q rel rl p => by
 unfold c5 at p
 split at p
 ·rename_i d
  obtain ⟨v, rfl, rv⟩ := rl.one
  split at p
  ·rename_i n hn
   have go : ∀ {xs : List D}, d.items w = some xs → n = xs.length → ∃ r, CallR X (.builtin "len") r ∧ r [v] H Q := fun {xs} h1 h2 => by
    obtain ⟨a, us, rfl, hq, hr⟩ := FR rel rv h1
    refine ⟨_, call_len, .ref a, n, rfl, ?_, p.nL rel (by simp [aH])⟩
    rw [h2, hr.length]
    rcases hq with hq | hq
    ·exact .inl ⟨us, hq, rfl⟩
    ·exact .inr ⟨us, hq, rfl⟩
   cases d <;> simp only [LN, D.items, Option.map_some, Option.map_none, aj, reduceCtorEq] at hn
   case str z =>
    split at hn
    ·rename_i hz
     cases hn
     simp only [aH] at rv
     subst rv
     exact ⟨_, call_len, .str z, z.length, rfl, ⟨hz, rfl⟩, p.nL rel (by simp [aH])⟩
    ·cases hn
   case tup => exact go (by simp [D.items]) hn.symm
   case lY => exact go (by simp [D.items]) hn.symm
   case lst => exact go (by simp [D.items]) hn.symm
   case oI => exact go (by simp [D.items]) hn.symm
   case ref i =>
    split at hn
    ·rename_i xs hw
     exact go (by simp [D.items, hw]) (Option.some.inj hn).symm
    ·rename_i kvs hw
     cases hn
     simp only [aH] at rv
     obtain ⟨a, rfl, h1⟩ := rv
     obtain ⟨u, hu, us, rfl, h2⟩ := rel.ob i a _ h1 hw
     exact ⟨_, call_lenD, a, us, rfl, hu, p.nL rel (by simp [aH, h2.length])⟩
    ·cases hn
  ·exact p.elim
 ·exact p.elim
theorem aEZ : CB S (.builtin "sum") O0 := uY fun X E c xo I F G ds w H vs Q rel rl p => by
 unfold O0 at p
 split at p
 ·rename_i d
  obtain ⟨v, rfl, rv⟩ := rl.one
  split at p
  ·rename_i ns hn
   obtain ⟨xs, h1, h2⟩ := dj.mp hn
   obtain ⟨a, us, rfl, hq, hr⟩ := DQ rel rv h1
   obtain rfl := nM hr h2
   exact ⟨_, cr_sum c.calm, a, ns, rfl, hq, p.nL rel (by simp [aH])⟩
  ·exact p.elim
 ·exact p.elim
theorem aDv : CB S (.type "list") IM := uY fun X E c xo I F G ds w H vs Q rel rl p => by
 unfold IM at p
 split at p
 ·rename_i d
  obtain ⟨v, rfl, rv⟩ := rl.one
  split at p
  ·rename_i xs hn
   obtain ⟨a, us, rfl, hq, hr⟩ := FR rel rv hn
   exact ⟨_, call_list_of, a, us, rfl, hq, kI rel hr p⟩
  ·exact p.elim
 ·exact p.elim
theorem QV : CB S (.type "list") tG := uY fun X E c xo I F G ds w H vs Q rel rl p => by
 unfold tG at p
 split at p
 ·rename_i d
  obtain ⟨v, rfl, rv⟩ := rl.one
  split at p
  ·rename_i xs hn
   obtain ⟨a, us, rfl, hq, hr⟩ := FR rel rv hn
   exact ⟨_, call_list_of, a, us, rfl, hq, x8 (o := .lst xs) rel ⟨us, rfl, hr⟩ p⟩
  ·exact p.elim
 ·exact p.elim
theorem sR : CB S (.type "tuple") dZ := uY fun X E c xo I F G ds w H vs Q rel rl p => by
 unfold dZ at p
 split at p
 ·rename_i xs
  obtain ⟨v, rfl, rv⟩ := rl.one
  have rv' := rv
  simp only [aH] at rv'
  obtain ⟨a, us, rfl, h1, h2⟩ := rv'
  exact ⟨_, call_tuple_of, a, us, rfl, .inr ⟨.of (rel.fz _ _ h1), p.nL rel rv⟩⟩
 ·rename_i d _
  obtain ⟨v, rfl, rv⟩ := rl.one
  split at p
  ·rename_i xs hn
   obtain ⟨a, us, rfl, hq, hr⟩ := DQ rel rv hn
   exact ⟨_, call_tuple_of, a, us, rfl, .inl ⟨hq, vA rel hr p⟩⟩
  ·exact p.elim
 ·exact p.elim
theorem aA7 : CB S (.type "int") x7 := uY fun X E c xo I F G ds w H vs Q rel rl p => by
 unfold x7 at p
 split at p
 ·rename_i i
  obtain ⟨v, rfl, rv⟩ := rl.one
  simp only [aH] at rv
  subst rv
  exact ⟨_, call_int1, .inl ⟨i, rfl, p.nL rel (by simp [aH])⟩⟩
 ·rename_i b
  obtain ⟨v, rfl, rv⟩ := rl.one
  simp only [aH] at rv
  subst rv
  exact ⟨_, call_int1, .inr ⟨b, rfl, p.nL rel (by simp [aH])⟩⟩
 ·exact p.elim
end
abbrev MMt := D → List D → W → Res D
def aIi (K : PySem.W.Frag) (E : XK) (m : MMt) : V → List V → Hp → VK → Prop := fun x vs H Q => ∃ I F G d ds w, Rel K I F G w H ∧ aH K I F d x ∧ RepL K I F ds vs ∧ bF K I F G E (RV K Q) (m d ds w)
def MB (S : aR) (id : String) (m : MMt) : Prop := ∀ X E, Ctx S X → qL X E → MtR X id (aIi X.K E m)
def tyD (d : D) (w : W) : Option String := match d with
 | .str _ => some "str"
 | .lst _ => some "list"
 | .oI _ => some "list"
 | .ref i => (match w[i]? with
  | some (.lst _) => some "list"
  | some (.dK _) => some "dict"
  | some (.dT _) => some "dict"
  | some (.dG _) => some "dict"
  | _ => none)
 | _ => none
def aE8 (K : PySem.W.Frag) (T : String) (x : V) (H : Hp) : Prop := tyV K T x H ∨ (T = "dict" ∧ ∃ p o kvs, x = .ref p ∧ H p = some (.frz o (.dT kvs)))
theorem aBM {X : Cx} {pins : List (Addr × Obj)} {σ : L2.St} {H : Hp} {s : Shared} {T : String} {x : V} {v : Value} (I : Inv X pins σ H s) (r : RelV x v) (ty : aE8 X.K T x H) :
  s.TypeIs v T ∧ ∀ a, v = .ref a → ∃ ob, s.heap.get? a = some ob ∧ ob.dict = none := by
 rcases ty with ty | ⟨rfl, p, o, kvs, rfl, hp⟩
 ·exact tyV_is I r ty
 ·cases r
  obtain ⟨_, hgd, ex, _⟩ := I.frzT hp
  exact ⟨⟨o, hgd, ex.1⟩, fun a e => by cases e; exact ⟨o, hgd, ex.2.1⟩⟩
def aIe (K : PySem.W.Frag) (T : String) (r : V → List V → Hp → VK → Prop) (to : TE) (t : TA) : TE := fun σ H Q => to σ H fun x H1 => aE8 K T x H1 ∧ t σ H1 fun xs H2 => r x xs H2 Q
section
variable {X : Cx} {o e : Expr} {es : List Expr} {to : TE} {t : TA} {name : Str} {apos cpos : Pos} {T id : String} {r : V → List V → Hp → VK → Prop}
theorem aE0 (pa : PlainAttrs T) (slot : Slot T name id) (hty : typeOf (.builtin id) = pure (.type "method_descriptor")) (hm : MtR X id r) (ho : PE X o to) (ha : PA X (e :: es) t)
  (hbase : attributeBase o name X.env (eval o X.env) = eval o X.env := by rfl)
  (hfew : ((backTo cpos (starEach (e :: es) X.env)).all (fun x => !x.1) && (backToKw cpos (keywordEach [] X.env)).all (fun x => x.1.isSome)
   && decide ((e :: es).length + ([] : List Keyword).length + (if ([] : List Keyword).isEmpty then 0 else 1) < 30)) = true := by rfl)
  (hline : (apos.endLine == cpos.line) = true := by rfl) (hs : starEach (e :: es) X.env = (false, eval e X.env) :: starEach es X.env := by rfl) (hplain : (backTo cpos (starEach es X.env)).any (·.1) = false := by rfl) :
  PE X (.Call (.Attribute o name apos) (e :: es) [] cpos) (aIe X.K T r to t) := by
 refine ⟨fun pins s σ H Q I h => ?_⟩
 refine wpAny_Call_method_late hbase hfew hline rfl (thn (ho.run pins s σ H _ I h) fun v s1 ⟨x, H1, I1, r1, ty, q1⟩ => ?_)
 obtain ⟨h1, h2⟩ := aBM I1 r1 ty
 refine ⟨T, id, pa, slot, hty, h1, h2, ?_⟩
 have hA := ha.run cpos pins s1 σ H1 _ I1 q1
 rw [hs] at hA ⊢
 refine Calls.callWith_builtin (by show (false || (backTo cpos (starEach es X.env)).any (·.1)) = false; rw [hplain] <;> rfl) (Calls.evalArgs_plain ?_)
 exact thn hA fun us s2 ⟨vs, H2, I2, r2, q2⟩ => hm pins s2 σ H2 x vs v us Q I2 r1 r2 q2
end
theorem aGf {K : PySem.W.Frag} {I : List Addr} {F G H : Hp} {w : W} (rel : Rel K I F G w H) {d : D} {v : V} (h : aH K I F d v) {T : String} (e : tyD d w = some T) : aE8 K T v H := by
 cases d <;> simp only [tyD, aj, reduceCtorEq] at e <;> simp only [aH] at h
 case str => subst h; exact .inl e.symm
 case lst => obtain ⟨a, vs, rfl, h1, h2⟩ := h; exact .inl (.inl ⟨e.symm, vs, .of (rel.fz _ _ h1)⟩)
 case oI => obtain ⟨a, vs, rfl, h1, h2⟩ := h; exact .inl (.inl ⟨e.symm, vs, rel.YS h1⟩)
 case ref i =>
  obtain ⟨a, rfl, h1⟩ := h
  split at e
  ·rename_i xs hw
   cases e
   obtain ⟨u, hu, vs, rfl, _⟩ := rel.ob i a _ h1 hw
   exact .inl (.inl ⟨rfl, vs, .of hu⟩)
  ·rename_i xs hw
   cases e
   obtain ⟨u, hu, vs, rfl, _⟩ := rel.ob i a _ h1 hw
   exact .inl (.inr (.inr (.inl ⟨rfl, .inl ⟨vs, hu⟩⟩)))
  ·rename_i xs hw
   cases e
   obtain ⟨u, hu, vs, rfl, _⟩ := rel.ob i a _ h1 hw
   exact .inl (.inr (.inr (.inl ⟨rfl, .inr ⟨vs, hu⟩⟩)))
  ·rename_i xs hw
   cases e
   obtain ⟨u, hu, ob, vs, rfl, _⟩ := rel.ob i a _ h1 hw
   exact .inr ⟨rfl, a, ob, vs, rfl, hu⟩
  ·cases e
def dO (T : String) (m : MMt) (mo : ME) (ma : MA) : ME := fun σ w => (mo σ w).bind fun d w1 => if tyD d w1 = some T then (ma σ w1).bind fun xs w2 => m d xs w2 else .bad
section
variable {S : aR} {m : MMt} {o e : Expr} {es : List Expr} {mo : ME} {ma : MA} {name : Str} {apos cpos : Pos} {T id : String}
theorem yK (pa : PlainAttrs T) (slot : Slot T name id) (hm : MB S id m) (ho : JE S o mo) (ha : JA S (e :: es) ma) (hty : typeOf (.builtin id) = pure (.type "method_descriptor") := by rfl)
  (hbase : ∀ env : Env, attributeBase o name env (eval o env) = eval o env := by intro _; rfl)
  (hfew : ∀ env : Env, ((backTo cpos (starEach (e :: es) env)).all (fun x => !x.1) && (backToKw cpos (keywordEach [] env)).all (fun x => x.1.isSome)
   && decide ((e :: es).length + ([] : List Keyword).length + (if ([] : List Keyword).isEmpty then 0 else 1) < 30)) = true := by intro _; rfl)
  (hline : (apos.endLine == cpos.line) = true := by rfl) (hs : ∀ env : Env, starEach (e :: es) env = (false, eval e env) :: starEach es env := by intro _; rfl) (hplain : ∀ env : Env, (backTo cpos (starEach es env)).any (·.1) = false := by intro _; rfl) :
  JE S (.Call (.Attribute o name apos) (e :: es) [] cpos) (dO T m mo ma) := fun X E c xo =>
 b0 (aE0 pa slot hty (hm X E c xo) (ho X E c xo) (ha X E c xo) (hbase X.env) (hfew X.env) hline (hs X.env) (hplain X.env)) fun σ H Q ⟨I, F, G, ds, w, rel, rs, p⟩ =>
  bX (f := fun ds d w1 => if tyD d w1 = some T then (ma ds w1).bind fun xs w2 => m d xs w2 else .bad) rel rs p fun I1 F1 H1 d w1 v e1 rel1 rs1 rv p1 => by
   split at p1
   ·rename_i ht
    refine ⟨aGf rel1 rv ht, ?_⟩
    exact fD (f := fun _ xs w2 => m d xs w2) rel1 rs1 p1 fun I2 F2 H2 xs w2 vs e2 rel2 rs2 rvs p2 => ⟨I2, F2, G, d, xs, w2, rel2, aH.ext e2 _ _ rv, rvs, p2⟩
   ·exact p1.elim
theorem WL {id : String} (h : ∀ (X : Cx) (E : XK), Ctx S X → qL X E → ∀ (I : List Addr) (F G : Hp) (d : D) (ds : List D) (w : W) (H : Hp) (x : V) (vs : List V) (Q : VK), Rel X.K I F G w H → aH X.K I F d x → RepL X.K I F ds vs → bF X.K I F G E (RV X.K Q) (m d ds w) →
  ∃ r, MtR X id r ∧ r x vs H Q) : MB S id m := fun X E c xo pins s σ H x vs v us Q J rx rv ⟨I, F, G, d, ds, w, rel, rd, rl, p⟩ => by
 obtain ⟨r', h1, h2⟩ := h X E c xo I F G d ds w H x vs Q rel rd rl p
 exact h1 pins s σ H x vs v us Q J rx rv h2
end
def dA : MMt := fun d ds w => match d, ds with
 | .ref i, [y] => (match w[i]? with
  | some (.lst xs) => if xs.length < sizeLine then .ok .non (w.set i (.lst (xs ++ [y]))) else .bad
  | _ => .bad)
 | _, _ => .bad
def BD : MMt := fun d ds w => match d, ds with
 | .ref i, [.int n] => (match w[i]? with
  | some (.lst xs) => if -(2 ^ 63) ≤ n ∧ n < 2 ^ 63 then (match seqIndex? n xs.length with
   | some k => (match xs[k]? with
    | some y => .ok y (w.set i (.lst (xs.eraseIdx k)))
    | none => .bad)
   | none => .bad) else .bad
  | _ => .bad)
 | _, _ => .bad
section
variable {K : PySem.W.Frag} {I : List Addr} {F : Hp}
theorem RepL.dropLast {ds : List D} {vs : List V} (r : RepL K I F ds vs) : RepL K I F ds.dropLast vs.dropLast := by
 rw [List.dropLast_eq_take, List.dropLast_eq_take, ← r.length]
 exact r.take _
theorem RepL.eraseIdx {ds : List D} {vs : List V} (r : RepL K I F ds vs) (i : Nat) : RepL K I F (ds.eraseIdx i) (vs.eraseIdx i) := by
 rw [List.eraseIdx_eq_take_drop_succ, List.eraseIdx_eq_take_drop_succ]
 exact (r.take _).append (r.drop _)
theorem RepL.reverse : ∀ {ds : List D} {vs : List V}, RepL K I F ds vs → RepL K I F ds.reverse vs.reverse
 | [], vs, h => by simp only [RepL] at h; subst h; simp [RepL]
 | d :: ds, vs, h => by
  simp only [RepL] at h
  obtain ⟨v, r, rfl, h2, h3⟩ := h
  rw [List.reverse_cons, List.reverse_cons]
  exact h3.reverse.append (RepL.cons h2 (by simp [RepL]))
end
section
variable {S : aR}
theorem IH : MB S "list.append" dA := WL fun X E c xo I F G d ds w H x vs Q rel rd rl p => by
 unfold dA at p
 split at p
 ·rename_i i y
  simp only [aH] at rd
  obtain ⟨a, rfl, hi⟩ := rd
  obtain ⟨v, rfl, rv⟩ := rl.one
  split at p
  ·rename_i xs hw
   obtain ⟨u, hu, us, rfl, hr⟩ := rel.ob i a _ hi hw
   split at p
   ·rename_i hl
    exact ⟨_, mt_append, a, us, v, rfl, rfl, hu, by rw [← hr.length]; exact hl, p.nL (rel.upd hi hw ⟨_, rfl, hr.append (RepL.cons rv (by simp [RepL]))⟩) (by simp [aH])⟩
   ·exact p.elim
  ·exact p.elim
 ·exact p.elim
theorem aAO : MB S "list.pop" BD := WL fun X E c xo I F G d ds w H x vs Q rel rd rl p => by
 unfold BD at p
 split at p
 ·rename_i i n
  simp only [aH] at rd
  obtain ⟨a, rfl, hi⟩ := rd
  obtain ⟨t, rfl, rt⟩ := rl.one
  simp only [aH] at rt
  subst rt
  split at p
  ·rename_i xs hw
   obtain ⟨u, hu, us, rfl, hr⟩ := rel.ob i a _ hi hw
   split at p
   ·rename_i hn
    split at p
    ·rename_i k hk
     split at p
     ·rename_i y hy
      obtain ⟨v, hv, rv⟩ := hr.get hy
      exact ⟨_, mt_popAt, a, us, n, k, v, rfl, rfl, hu, hn.1, hn.2, by rw [← hr.length]; exact hk, hv, p.nL (rel.upd hi hw ⟨_, rfl, hr.eraseIdx k⟩) rv⟩
     ·exact p.elim
    ·exact p.elim
   ·exact p.elim
  ·exact p.elim
 ·exact p.elim
end
def LB (x y : D) (w : W) : Option Bool := match x.py w, y.py w with
 | some p, some (.list qs) => if SeqAt.shaped p = true ∧ SeqAt.shaped (.list qs) = true then some (qs.any fun z => PyData.eqv z p) else none
 | some p, some (.tuple qs) => if SeqAt.shaped p = true ∧ SeqAt.shaped (.tuple qs) = true then some (qs.any fun z => PyData.eqv z p) else none
 | _, _ => none
def inD (x y : D) (w : W) : Option Bool := match y with
 | .ref i => (match w[i]? with
  | some (.dK kvs) => (pZ (.dK kvs) x).map Option.isSome
  | some (.dT kvs) => (pZ (.dT kvs) x).map Option.isSome
  | _ => LB x y w)
 | y => LB x y w
def YG (x y : D) (w : W) : Res D := match inD x y w with
 | some b => .ok (.bl b) w
 | none => .bad
def aAo (x y : D) (w : W) : Res D := match inD x y w with
 | some b => .ok (.bl (!b)) w
 | none => .bad
theorem RP.isSome {K : PySem.W.Frag} {I : List Addr} {F : Hp} {d : Option D} {q : Option V} (h : RP K I F d q) : q.isSome = d.isSome := by
 cases d with
 | none => rw [show q = none from h]; rfl
 | some d => obtain ⟨v, rfl, _⟩ := h; rfl
open PySem.W (EachIs AllAlike Sortable alike dataLe)
def J7 (w : W) (d : D) : PyData := (d.py w).getD .none
def ZJ : PyData → Bool
 | .tuple (_ :: _) => true
 | _ => false
def U6 : PyData → Bool
 | .none => false
 | .tuple _ => false
 | _ => true
def kL (ps : List PyData) : Bool := (ps.all fun p => ps.all fun q => alike p q) && (ps.all ZJ || ps.all U6) && ps.all fun p => decide (p.depth ≤ 60)
theorem kL.h1 {ps : List PyData} (h : kL ps = true) : AllAlike ps := by
 simp only [kL, ao, au] at h
 exact fun d hd e he => h.1.1 d hd e he
theorem kL.h2 {ps : List PyData} (h : kL ps = true) : Sortable ps := by
 simp only [kL, ao, Bool.or_eq_true, au] at h
 rcases h.1.2 with h | h
 ·refine .inl fun d hd => ?_
  have := h d hd
  unfold ZJ at this
  split at this
  ·exact ⟨_, _, rfl⟩
  ·cases this
 ·refine .inr fun d hd => ?_
  have := h d hd
  unfold U6 at this
  split at this
  ·cases this
  ·cases this
  ·rename_i n1 n2
   exact ⟨n1, fun xs z => n2 xs z⟩
theorem kL.h3 {ps : List PyData} (h : kL ps = true) : ∀ p ∈ ps, p.depth ≤ 60 := by
 simp only [kL, ao, au, ak] at h
 exact h.2
def NF (xs : List D) (w : W) : Option (List D) := if xs.all (fun d => (d.py w).isSome) = true ∧ kL (xs.map (J7 w)) = true ∧ xs.length ≤ sizeLine then some (xs.mergeSort (dataLe false (J7 w))) else none
def lO : MF := fun ds w => match ds with
 | [d] => (match (wG d w).bind fun xs => NF xs w with
  | some ys => .ok (.lst ys) w
  | none => .bad)
 | _ => .bad
def aE9 (K : PySem.W.Frag) (I : List Addr) (F : Hp) (v : Value) (d : D) : Prop := ∃ x, RelV x v ∧ aH K I F d x
theorem VA {K : PySem.W.Frag} {I : List Addr} {F : Hp} : ∀ {ds : List D} {vs : List V} {us : List Value}, RepL K I F ds vs → Vals vs us → EachIs (aE9 K I F) us ds
 | [], vs, us, h, r => by simp only [RepL] at h; subst h; cases r; exact .nil
 | d :: ds, vs, us, h, r => by
  simp only [RepL] at h
  obtain ⟨v, t, rfl, h2, h3⟩ := h
  cases r with
  | cons r1 r2 => exact .cons ⟨v, r1, h2⟩ (VA h3 r2)
theorem VP {K : PySem.W.Frag} {I : List Addr} {F : Hp} : ∀ {ds : List D} {us : List Value}, EachIs (aE9 K I F) us ds → ∃ vs, RepL K I F ds vs ∧ Vals vs us
 | _, _, .nil => ⟨[], by simp [RepL], .nil⟩
 | _, _, .cons ⟨v, r1, h1⟩ t => by
  obtain ⟨vs, h2, h3⟩ := VP t
  exact ⟨v :: vs, RepL.cons h1 h2, .cons r1 h3⟩
def ZA (K : PySem.W.Frag) : List V → Hp → VK → Prop := fun vs H Q => ∃ I F G w a xs us, Rel K I F G w H ∧ vs = [V.ref a] ∧ SqL K H a us ∧ RepL K I F xs us ∧ ∃ ys, NF xs w = some ys ∧ ∀ zs q, RepL K I F ys zs → H q = none → Q (.ref q) (upd H q (.lst zs))
theorem TC {X : Cx} (hu : X.A.units + 64 < cLine) : CallR X (.builtin "sorted") (ZA X.K) := by
 intro pins s σ H vs us0 Q J r h
 obtain ⟨I, F, G, w, a, xs, us, rel, rfl, hq, hr, ys, hy, q⟩ := h
 obtain ⟨its, rv, hl, hz⟩ := J.list hq
 obtain ⟨u, rfl, ru⟩ := vals1 r
 obtain rfl : u = Value.ref a := ru
 unfold NF at hy
 split at hy
 ·rename_i hc
  cases hy
  obtain ⟨c1, c2, c3⟩ := hc
  have e := VA hr rv
  have er : EachIs (fun v d => ∃ as, Reads s.heap v (J7 w d) as) its xs := by
   have : ∀ {ds : List D} {us : List Value}, EachIs (aE9 X.K I F) us ds → ds.all (fun d => (d.py w).isSome) = true → EachIs (fun v d => ∃ as, Reads s.heap v (J7 w d) as) us ds := by
    intro ds us h hs
    induction h with
    | nil => exact .nil
    | cons h1 _ ih =>
     rw [List.all_cons, ao] at hs
     refine .cons ?_ (ih hs.2)
     obtain ⟨x, r1, h2⟩ := h1
     obtain ⟨p, hp⟩ := Option.isSome_iff_exists.mp hs.1
     unfold J7
     rw [hp]
     exact Dp.reads J p x _ (OB rel h2 hp) r1
   exact this e c1
  refine PySem.W.sorted_data (enc := J7 w) hl.isList e er (kL.h1 c2) (kL.h2 c2) c3 (fun d hd => ?_) fun out ho eo => ?_
  ·have := kL.h3 c2 _ (List.mem_map_of_mem hd)
   omega
  ·obtain ⟨zs, h1, h2⟩ := VP eo
   obtain ⟨n, hn⟩ := sortedAll_at s.heap its (List.toArray out)
   refine ⟨.ref (s.heap.objs.size + 1), upd H (s.heap.objs.size + 1) (.lst zs), J.laid (t' := s.toks) (fun b o hb => sortedAll_old hb) (Nat.le_succ _) ⟨?_, out, n, h2, hn⟩, rfl, q zs _ h1 (J.hok.fresh (Nat.le_succ _))⟩
   rw [h2.length, ho]; exact c3
 ·cases hy
section
variable {S : aR}
theorem YJ : CB S (.builtin "sorted") lO := uY fun X E c xo I F G ds w H vs Q rel rl p => by
 unfold lO at p
 split at p
 ·rename_i d
  obtain ⟨v, rfl, rv⟩ := rl.one
  split at p
  ·rename_i ys hy
   obtain ⟨xs, h1, h2⟩ := dj.mp hy
   obtain ⟨a, us, rfl, hq, hr⟩ := DQ rel rv h1
   exact ⟨_, TC (by have := c.room.un; omega), I, F, G, w, a, xs, us, rel, rfl, hq, hr, ys, h2, fun zs q hz hn => kI rel hz p q hn⟩
  ·exact p.elim
 ·exact p.elim
end
def tP (f : Str) (v : D) : List (Str × D) → List (Str × D)
 | [] => [(f, v)]
 | (g, x) :: r => if g = f then (g, v) :: r else (g, x) :: tP f v r
theorem aQ.lookup {K : PySem.W.Frag} {I : List Addr} {F : Hp} {κ : Type} [BEq κ] (k : κ) : ∀ {kvs : List (κ × D)} {r : List (κ × V)}, aQ K I F kvs r → RP K I F (kvs.lookup k) (r.lookup k)
 | [], r, h => by simp only [aQ] at h; subst h; rfl
 | (j, d) :: kvs, r, h => by
  simp only [aQ] at h
  obtain ⟨v, t, rfl, h1, h2⟩ := h
  simp only [List.lookup]
  cases e : (k == j) with
  | true => exact ⟨v, rfl, h1⟩
  | false => exact aQ.lookup k h2
theorem aQ.tP {K : PySem.W.Frag} {I : List Addr} {F : Hp} (f : Str) {d : D} {v : V} (hv : aH K I F d v) : ∀ {kvs : List (Str × D)} {r : List (Str × V)}, aQ K I F kvs r → aQ K I F (Pc.tP f d kvs) (putF f v r)
 | [], r, h => by simp only [aQ] at h; subst h; simp only [Pc.tP, putF, aQ]; exact ⟨v, [], rfl, hv, rfl⟩
 | (j, x) :: kvs, r, h => by
  simp only [aQ] at h
  obtain ⟨u, t, rfl, h1, h2⟩ := h
  simp only [Pc.tP, putF]
  by_cases e : j = f
  ·rw [if_pos e, if_pos e]; simp only [aQ]; exact ⟨v, t, rfl, hv, h2⟩
  ·rw [if_neg e, if_neg e]; simp only [aQ]; exact ⟨u, _, rfl, h1, aQ.tP f hv h2⟩
def rH (C : Addr) (f : Str) (d : D) (w : W) : Res D := match d with
 | .ref i => (match w[i]? with
  | some (.ins C' fs) => if C' = C then (match fs.lookup f with
   | some x => .ok x w
   | none => .bad) else .bad
  | _ => .bad)
 | _ => .bad
def oP (C : Addr) (f : Str) (d x : D) (w : W) : Res Unit := match d with
 | .ref i => (match w[i]? with
  | some (.ins C' fs) => if C' = C ∧ fs.length < 1000 then .ok () (w.set i (.ins C (tP f x fs))) else .bad
  | _ => .bad)
 | _ => .bad
def cP (C : Addr) (f : Str) (m : ME) : ME := yX (rH C f) m
def c9 (C : Addr) (f : Str) (mo mv : ME) : MS := fun σ w => (mv σ w).bind fun x w1 => (mo σ w1).bind fun d w2 => (oP C f d x w2).bind fun _ w3 => .ok (.nx σ) w3
section
variable {S : aR} {C : Addr} {f : Str} {o e : Expr} {mo mv : ME} {pos pos' : Pos}
theorem pI (hc : Cls S.K C) (hn : NoAttr S.K C f) (ho : JE S o mo) (hb : ∀ env : Env, attributeBase o f env (eval o env) = eval o env := by intro _; rfl) : JE S (.Attribute o f pos) (cP C f mo) := fun X E cx xo =>
 b0 (pe_fld (ho X E cx xo) (hb X.env)) fun σ H Q ⟨I, F, G, ds, w, rel, rs, p⟩ => bX (f := fun _ d w1 => rH C f d w1) rel rs p fun I1 F1 H1 d w1 v e1 rel1 rs1 rv pp => by
  unfold rH at pp
  split at pp
  ·rename_i i
   simp only [aH] at rv
   obtain ⟨a, rfl, hi⟩ := rv
   split at pp
   ·rename_i C' fs hw
    obtain ⟨u, hu, dx, r, rfl, hr⟩ := rel1.ob i a _ hi hw
    split at pp
    ·rename_i hC
     subst hC
     have hl := hr.lookup f
     split at pp
     ·rename_i x hx
      rw [hx] at hl
      obtain ⟨t, ht, rt⟩ := hl
      exact ⟨a, C', dx, r, t, rfl, hu, by rw [cx.K]; exact hc, by rw [cx.K]; exact hn, ht, pp.nL rel1 rt⟩
     ·exact pp.elim
    ·exact pp.elim
   ·exact pp.elim
  ·exact pp.elim
theorem gO (hc : Cls S.K C) (hn : NoAttr S.K C f) (ho : JE S o mo) (hv : JE S e mv) (hs : ∀ env : Env, swapsWith e (some (.Attribute o f pos')) pos.line env = pure false := by intro _; rfl) : JS S (.Assign [.Attribute o f pos'] e pos) (c9 C f mo mv) := fun X E cx xo =>
 jF (ps_fld (ho X E cx xo) (hv X E cx xo) (hs X.env)) fun Z σ H ⟨I, F, G, ds, w, rel, rs, p⟩ => bX (f := fun ds x w1 => (mo ds w1).bind fun d w2 => (oP C f d x w2).bind fun _ w3 => Res.ok (Fl.nx ds) w3) rel rs p fun I1 F1 H1 x w1 v e1 rel1 rs1 rv p1 =>
  bX (f := fun ds d w2 => (oP C f d x w2).bind fun _ w3 => Res.ok (Fl.nx ds) w3) rel1 rs1 p1 fun I2 F2 H2 d w2 u e2 rel2 rs2 ru pp => by
   unfold oP at pp
   split at pp
   ·rename_i i
    simp only [aH] at ru
    obtain ⟨a, rfl, hi⟩ := ru
    split at pp
    ·rename_i C' fs hw
     obtain ⟨t, hu, dx, r, rfl, hr⟩ := rel2.ob i a _ hi hw
     split at pp
     ·rename_i hC
      obtain ⟨rfl, hl⟩ := hC
      have e0 : fs.length = r.length := hr.length
      exact ⟨a, C', dx, r, rfl, hu, by rw [cx.K]; exact hc, by rw [cx.K]; exact hn, by rw [← e0]; exact hl,
       pp I2 F2 _ .refl (rel2.upd (o' := .ins C' (tP f x fs)) hi hw ⟨dx, _, rfl, hr.tP f (aH.ext e2 _ _ rv)⟩) σ rs2⟩
     ·exact pp.elim
    ·exact pp.elim
   ·exact pp.elim
end
theorem E6 {K : PySem.W.Frag} {I : List Addr} {F G H : Hp} {w : W} (rel : Rel K I F G w H) {q : Addr} (hq : H q = none) (u : HO) : Rel K I F G w (upd H q u) := by
 refine ⟨rel.len, rel.nd, fun i a o h1 h2 => ?_, fun a t h => ?_, rel.ap, fun a t h => ?_, rel.gf, rel.gt⟩
 ·obtain ⟨t, h3, h4⟩ := rel.ob i a o h1 h2
  exact ⟨t, by rw [upd_ne (ne_of_none h3 hq)]; exact h3, h4⟩
 ·rw [upd_ne (ne_of_none (rel.fz a t h) hq)]; exact rel.fz a t h
 ·rw [upd_ne (ne_of_none (rel.gz a t h) hq)]; exact rel.gz a t h
theorem YQ {K : PySem.W.Frag} {I : List Addr} {F G H : Hp} {E : XK} {w : W} {o : MO} {u : HO} (rel : Rel K I F G w H) (r : kP K I F o u) {q : Addr} (hq : H q = none) : ∃ I' F', Ext I F I' F' ∧ Rel K I' F' G (w ++ [o]) (upd H q u) ∧ aH K I' F' (.ref w.length) (.ref q) :=
 x8 (E := E) (Q := fun v H1 => ∃ I' F', Ext I F I' F' ∧ Rel K I' F' G (w ++ [o]) H1 ∧ aH K I' F' (.ref w.length) v) rel r (fun I' F' H' e rel' v rv => ⟨I', F', e, rel', rv⟩) q hq
def vM (m : MF) (C : Addr) (xs : List D → List D) (w : W) : Res D := (m (xs [.ref w.length]) (w ++ [.ins C []])).bind fun r w1 => match r with
 | .non => .ok (.ref w.length) w1
 | _ => .bad
def aGu (C : Addr) (m : MF) (n : Nat) (gd : List D → List D → List D) (ma : MA) : ME := fun σ w => (ma σ w).bind fun xs w1 => if xs.length = n then vM m C (fun s => gd (s ++ xs) []) w1 else .bad
def xD (C : Addr) (m : MF) (n j : Nat) (gd : List D → List D → List D) (ma mk : MA) : ME := fun σ w => (ma σ w).bind fun xs w1 => (mk σ w1).bind fun zs w2 => if xs.length = n ∧ zs.length = j then vM m C (fun s => gd (s ++ xs) zs) w2 else .bad
theorem run_mk {X : Cx} {pins : List (Addr × Obj)} {σ : L2.St} {H : Hp} {s : Shared} {Q : VK} {E : XK} {k : Nat} {f C : Addr} {fd : FuncData} {ps ks : List Str} {m : MF} {n : Nat} {gd : List D → List D → List D} {I : List Addr} {F G : Hp} {xs zs : List D} {w : W} {us ws : List Value} {vs ys : List V}
  (M : Mk X.K C f) (xo : qL X E) (Gf : gI X.prog X.w X.K X.mg X.base k f fd ps m) (B : eW X.K fd ps (n + 1) ks gd) (hr : Room (k + 1) X.A) (hg : X.A.guards = some []) (J : Inv X pins σ H s) (rel : Rel X.K I F G w H) (rx : RepL X.K I F xs vs) (rz : RepL X.K I F zs ys)
  (r : Vals vs us) (q : Vals ys ws) (h1 : xs.length = n) (h2 : zs.length = ks.length) (p : bF X.K I F G E (RV X.K Q) (vM m C (fun s => gd (s ++ xs) zs) w)) : wpAny (model X.prog X.w) X.A (call (.ref C) us (ks.zip ws)) (EP X pins σ Q) X.xe s := by
 obtain ⟨g, gV, kb, rep⟩ := B.ex
 have f1 : H (s.heap.objs.size + 1) = none := J.hok.fresh (Nat.le_succ _)
 have f2 : H s.heap.objs.size = none := J.hok.fresh (bx _)
 have J2 := Inv.made (C := C) J
 have r1 : Vals (V.ref (s.heap.objs.size + 1) :: vs) (Value.ref (s.heap.objs.size + 1) :: us) := .cons rfl r
 have r2 := kb.rel r1 q
 have n1 : (Value.ref (s.heap.objs.size + 1) :: us).length = n + 1 := by
  rw [cf, ← r.length, ← rx.length, h1]
 have f3 : (upd H s.heap.objs.size (.own (s.heap.objs.size + 1))) (s.heap.objs.size + 1) = none := by
  rw [upd_ne (Nat.succ_ne_self _)]; exact f1
 obtain ⟨I', F', ee, rel', rn⟩ := YQ (E := E) (E6 rel f2 (.own (s.heap.objs.size + 1))) (o := .ins C []) (u := .ins C s.heap.objs.size []) ⟨_, [], rfl, by simp [aQ]⟩ f3
 have rxs : RepL X.K I' F' ([.ref w.length] ++ xs) (V.ref (s.heap.objs.size + 1) :: vs) := RepL.cons rn (RepL.ext ee _ _ rx)
 have r3 := rep I' F' _ _ zs ys rxs (RepL.ext ee _ _ rz)
 have hl : (gV (V.ref (s.heap.objs.size + 1) :: vs) ys).length = ps.length := by rw [← r3.length]; exact B.len _ zs (by simp [h1]) h2
 have pp : bF X.K I' F' G E (RV X.K fun v H2 => v = .non ∧ Q (.ref (s.heap.objs.size + 1)) H2) (m (gd ([.ref w.length] ++ xs) zs) (w ++ [.ins C []])) := by
  refine (bF.bind (p.ext ee)).mono fun I1 F1 H1 d w1 _ e1 rel1 p1 v rv => ?_
  cases d <;> first | exact p1.elim | skip
  simp only [aH] at rv
  exact ⟨rv, p1.nL rel1 (aH.ext e1 _ _ rn)⟩
 refine wpAny_call (make_map (f := f) J.kIn M.makes M.init (beq_iff_eq.mp M.fn) (codeAny_mono (Gf.run _ X.stack _ _ ⟨Value.ref (s.heap.objs.size + 1) :: us, ks.zip ws⟩ (g (Value.ref (s.heap.objs.size + 1) :: us) ws) _ _ E (hr.make C us (ks.zip ws)) hg
  (J2.env0.make C us (ks.zip ws)) (kb.to _ (Value.ref (s.heap.objs.size + 1) :: us) ws J2.kIn n1 (by rw [← q.length, ← rz.length]; exact h2)) r2 hl ⟨I', F', G, _, _, rel', r3, pp⟩) fun r s' hq' => ?_))
 cases r with
 | error e => exact passes_call xo.tk (fun _ _ _ _ h => h) pins σ _ _ e s' J2 hq'
 | ok fl =>
  cases fl with
  | ret u =>
   obtain ⟨v, H', I3, rv, ev, q3⟩ := J2.after hq'
   subst ev
   exact ⟨rv, ⟨V.ref (s.heap.objs.size + 1), H', I3, rfl, q3⟩⟩
  | next => exact False.elim hq'
  | brk => exact False.elim hq'
  | cont => exact False.elim hq'
section
variable {S : aR} {k n : Nat} {f C : Addr} {fd : FuncData} {ps ks : List Str} {m : MF} {gd : List D → List D → List D} {x : Str} {p pos kpos : Pos} {e : Expr} {es : List Expr} {kws : List Keyword} {ma mk : MA} {me : ME} {nm : Option Str}
theorem aAB (hk : k + 1 ≤ S.k) (M : Mk S.K C f) (Gf : gI S.P S.w S.K S.mg S.base k f fd ps m) (B : eW S.K fd ps (n + 1) ks gd) (hg : S.sc.names.lookup x = some .globalImplicit) (hm : S.mg x = some (.ref C)) (ha : JA S (e :: es) ma) (hkw : JK S kws mk)
  (hall : ∀ env : Env, (backToKw pos (keywordEach kws env)).all (·.1.isSome) = true := by intro _; rfl) (hks : ∀ env : Env, (backToKw pos (keywordEach kws env)).filterMap (·.1) = ks := by intro _; rfl)
  (hdb : (x == ("__debug__" : Str)) = false := by decide) (he : ∀ env : Env, starEach (e :: es) env = (false, eval e env) :: starEach es env := by intro _; rfl)
  (hpl : ∀ env : Env, ((backTo pos (starEach (e :: es) env)).any (·.1) || (backToKw pos (keywordEach kws env)).any (·.1.isNone)) = false := by intro _; rfl) :
  JE S (.Call (.Name x p) (e :: es) kws pos) (xD C m n ks.length gd ma mk) := fun X E cx xo => by
 refine ⟨fun pins s σ H Q J ⟨I, F, G, ds, w, rel, rs, p⟩ => ?_⟩
 refine wpAny_Call_Name_kw (ld_glob J (by show X.env.scope.names.lookup x = _; rw [cx.sc]; exact hg) (by rw [cx.mg]; exact hm) ?_ hdb)
 refine PySem.W.callWith_KW (h₀ := X.base) J.ok.mod.kin (by rw [cx.K]; exact M.kp) (hall X.env) (thn ((ha X E cx xo).run pos pins s σ H _ J (fD (f := fun ds xs w1 => (mk ds w1).bind fun zs w2 => if xs.length = n ∧ zs.length = ks.length then vM m C (fun s => gd (s ++ xs) zs) w2 else .bad)
  (Q := fun vs H1 => ∃ I1 F1 xs w1, Rel X.K I1 F1 G w1 H1 ∧ dW X.K I1 F1 ds σ ∧ RepL X.K I1 F1 xs vs ∧ bF X.K I1 F1 G E (RV X.K Q) ((mk ds w1).bind fun zs w2 => if xs.length = n ∧ zs.length = ks.length then vM m C (fun s => gd (s ++ xs) zs) w2 else .bad)) rel rs p fun I1 F1 H1 xs w1 vs e1 rel1 rs1 rvs p1 => ⟨I1, F1, xs, w1, rel1, rs1, rvs, p1⟩)) fun us s1 hq => ?_) (hpl X.env) (he X.env)
 obtain ⟨vs, H1, J1, r, I1, F1, xs, w1, rel1, rs1, rvs, p1⟩ := hq
 refine thn ((hkw X E cx xo).run pos pins s1 σ H1 _ J1 (fD (f := fun _ zs w2 => if xs.length = n ∧ zs.length = ks.length then vM m C (fun s => gd (s ++ xs) zs) w2 else .bad)
  (Q := fun ys H2 => ∃ I2 F2 zs w2, Rel X.K I2 F2 G w2 H2 ∧ RepL X.K I2 F2 xs vs ∧ RepL X.K I2 F2 zs ys ∧ (xs.length = n ∧ zs.length = ks.length) ∧ bF X.K I2 F2 G E (RV X.K Q) (vM m C (fun s => gd (s ++ xs) zs) w2)) rel1 rs1 p1 fun I2 F2 H2 zs w2 ys e2 rel2 rs2 rvs2 p2 => ?_)) fun ws s2 hq2 => ?_
 ·split at p2
  ·rename_i hl
   exact ⟨I2, F2, zs, w2, rel2, RepL.ext e2 _ _ rvs, rvs2, hl, p2⟩
  ·exact p2.elim
 ·obtain ⟨ys, H2, J2, r2, I2, F2, zs, w2, rel2, rvs', rvs2, hl, p2⟩ := hq2
  refine ⟨J2.kIn, ?_⟩
  have Gf' : gI X.prog X.w X.K X.mg X.base k f fd ps m := by rw [cx.P, cx.w, cx.K, cx.mg, cx.base]; exact Gf
  have B' : eW X.K fd ps (n + 1) ks gd := by rw [cx.K]; exact B
  have M' : Mk X.K C f := by rw [cx.K]; exact M
  rw [hks X.env]
  exact run_mk (ks := ks) M' xo Gf' B' (cx.room.mono hk) cx.gds J2 rel2 rvs' rvs2 r r2 hl.1 hl.2 p2
end
section
variable {S : aR} {pos pos' : Pos} {e : Expr} {m : ME}
theorem jv (i : Nat) {x : Str} (hN : S.N[i]? = some x := by rfl) (hv : Vis S.sc x := by first | exact Or.inl rfl | exact Or.inr (Or.inl rfl) | exact Or.inr (Or.inr rfl)) (hd : (x == ("__debug__" : Str)) = false := by decide) (hcd : (x == ("__classdict__" : Str)) = false := by decide) : JE S (.Name x pos) (aB i) :=
 aFH i hN hv hd hcd
theorem M5 (i : Nat) {x : Str} (hN : S.N[i]? = some x := by rfl) (h1 : Loc S.sc x := by first | exact Or.inl rfl | exact Or.inr rfl) (h2 : S.fn x = true ∨ S.sc.names.lookup x = some .local := by first | exact Or.inl rfl | exact Or.inr rfl) : JG S (.Name x pos) (a7 i) := aC9 hN ⟨h1, h2⟩
theorem XZ {vs : List Nat} (i : Nat) {x : Str} (hN : S.N[i]? = some x := by rfl) (h1 : Loc S.sc x := by first | exact Or.inl rfl | exact Or.inr rfl) (h2 : S.fn x = true ∨ S.sc.names.lookup x = some .local := by first | exact Or.inl rfl | exact Or.inr rfl) (hv : i ∈ vs := by decide) : JC S vs (.Name x pos) (a7 i) := aDg hN ⟨h1, h2⟩ hv
theorem qJ (i : Nat) {x : Str} (he : JE S e m) (hN : S.N[i]? = some x := by rfl) (h1 : Loc S.sc x := by first | exact Or.inl rfl | exact Or.inr rfl) (h2 : S.fn x = true ∨ S.sc.names.lookup x = some .local := by first | exact Or.inl rfl | exact Or.inr rfl) (hs : ∀ env : Env, swapsWith e (some (.Name x pos')) pos.line env = pure false := by intro _; rfl) :
  JS S (.Assign [.Name x pos'] e pos) (aT m (a7 i)) := aF1 hN ⟨h1, h2⟩ he hs
end
def aN : List D → List D → List D := fun xs _ => xs
theorem Vals.at? {vs : List V} {us : List Value} (r : Vals vs us) (i : Nat) : (vs[i]? = none ∧ us[i]? = none) ∨ ∃ v u, vs[i]? = some v ∧ us[i]? = some u ∧ RelV v u := by
 induction r generalizing i with
 | nil => exact .inl ⟨by simp, by simp⟩
 | cons h _ ih =>
  cases i with
  | zero => exact .inr ⟨_, _, rfl, rfl, h⟩
  | succ i => simpa using ih i
theorem RepL.at? {K : PySem.W.Frag} {I : List Addr} {F : Hp} {ds : List D} {vs : List V} (r : RepL K I F ds vs) (i : Nat) : (ds[i]? = none ∧ vs[i]? = none) ∨ ∃ d v, ds[i]? = some d ∧ vs[i]? = some v ∧ aH K I F d v := by
 cases h : ds[i]? with
 | none => exact .inl ⟨rfl, by rw [List.getElem?_eq_none_iff] at h ⊢; rw [← r.length]; exact h⟩
 | some d => obtain ⟨v, h1, h2⟩ := r.get h; exact .inr ⟨d, v, rfl, h1, h2⟩
def aBu (N ps : List Str) (sc : Scope) : Bool := (match sc.kind with
 | .function => true
 | _ => false) && !sc.isCoroutine && !sc.isGenerator && decide N.Nodup && decide (N.take ps.length = ps) && (ps.all fun x => decide (sc.names.lookup x = some .local) || decide (sc.names.lookup x = some .cell)) && sc.names.all fun y => decide (y.2 ≠ .free)
theorem cJ {N ps : List Str} {sc : Scope} (h : aBu N ps sc = true) : FnScope N ps sc := by
 unfold aBu at h
 simp only [ao, ak, au, Bool.or_eq_true, Bool.not_eq_true'] at h
 obtain ⟨⟨⟨⟨⟨⟨h1, h2⟩, h3⟩, h4⟩, h5⟩, h6⟩, h7⟩ := h
 refine ⟨?_, h2, h3, h4, h5, h6, h7⟩
 split at h1
 ·assumption
 ·cases h1
def UI (f g : D → D → W → Res D) (ma mb mc : ME) : ME := fun σ w => (ma σ w).bind fun x w1 => (mb σ w1).bind fun y w2 => (f x y w2).bind fun r w3 => match r with
 | .bl b => if b = true then (mc σ w3).bind fun z w4 => g y z w4 else .ok (.bl false) w3
 | _ => .bad
section
variable {S : aR} {pos : Pos} {a b c : Expr} {ma mb mc : ME} {f g : D → D → W → Res D}
theorem aA0 {K : PySem.W.Frag} {E : XK} {σ : L2.St} {H : Hp} {Q : VK} (h : sP K E (UI f g ma mb mc) σ H Q) : tChain (SN K E f) (SN K E g) (sP K E ma) (sP K E mb) (sP K E mc) σ H Q := by
 obtain ⟨I, F, G, ds, w, rel, rs, p⟩ := h
 refine ⟨I, F, G, ds, w, rel, rs, (bF.bind p).mono fun I1 F1 H1 x w1 _ e1 rel1 p1 v rv => ?_⟩
 refine ⟨I1, F1, G, ds, w1, rel1, rs.ext e1, (bF.bind p1).mono fun I2 F2 H2 y w2 _ e2 rel2 p2 u ru => ?_⟩
 refine ⟨I2, F2, G, x, y, w2, rel2, aH.ext e2 _ _ rv, ru, (bF.bind p2).mono fun I3 F3 H3 r w3 _ e3 rel3 p3 t rt => ?_⟩
 cases r <;> first | exact p3.elim | skip
 rename_i k _
 simp only [aH] at rt
 refine ⟨k, rt, ?_⟩
 cases k with
 | false => exact p3.nL rel3 (by simp [aH])
 | true =>
  refine ⟨I3, F3, G, ds, w3, rel3, (rs.ext e1).ext (e2.trans e3), (bF.bind p3).mono fun I4 F4 H4 z w4 _ e4 rel4 p4 q rq => ?_⟩
  exact ⟨I4, F4, G, y, z, w4, rel4, aH.ext (e3.trans e4) _ _ ru, rq, p4⟩
theorem QC {op op' : CmpOp} (ho : O2 S (compareOp op) f) (ho' : O2 S (compareOp op') g) (ha : JE S a ma) (hb : JE S b mb) (hc : JE S c mc) (hm : lastMarks [op, op'] [b, c] = false := by with_unfolding_all rfl) :
  JE S (.Compare a [op, op'] [b, c] pos) (UI f g ma mb mc) := fun X E cx xo => b0 (pe_chain (ho X E cx xo) (ho' X E cx xo) (ha X E cx xo) (hb X E cx xo) (hc X E cx xo) hm) fun _ _ _ h => aA0 h
end
theorem fC {S : aR} {x : Str} {n : String} {pos : Pos} (hg : S.sc.names.lookup x = some .globalImplicit) (hm : S.mg x = none) (hv : bootBuiltins x = some (.type n)) (hn : x ≠ "__name__" := by decide) (hd : (x == ("__debug__" : Str)) = false := by decide) : JE S (.Name x pos) (eC (.ty n)) := fun X E cx xo =>
 b0 (pe_bltn (v := .ty n) (by show X.env.scope.names.lookup x = _; rw [cx.sc]; exact hg) (by rw [cx.mg]; exact hm) hv rfl hn hd) fun σ H Q ⟨I, F, G, ds, w, rel, rs, p⟩ => p I F H .refl rel _ (by simp [aH])
inductive kX where
 | b (n : String) | o (C : Addr)
 deriving DecidableEq
def kX.v : kX → Value
 | .b n => .type n
 | .o C => .ref C
def C1 (d : D) (w : W) : Option kX := match d with
 | .non => some (.b "NoneType")
 | .bl _ => some (.b "bool")
 | .int _ => some (.b "int")
 | .str _ => some (.b "str")
 | .tup _ => some (.b "tuple")
 | .lY _ => some (.b "tuple")
 | .lst _ => some (.b "list")
 | .oI _ => some (.b "list")
 | .ref i => (match w[i]? with
  | some (.lst _) => some (.b "list")
  | some (.dK _) => some (.b "dict")
  | some (.dT _) => some (.b "dict")
  | some (.dF _) => some (.b "dict")
  | some (.dG _) => none
  | some (.ins C _) => some (.o C)
  | none => none)
 | .zX _ _ => some (.b "dict")
 | _ => none
def names7 : List String := ["NoneType", "bool", "int", "str", "tuple", "list", "dict"]
def ZW (t n : String) : Bool := t == n || (t == "bool" && n == "int")
theorem V3 : ∀ t ∈ names7, ∀ n ∈ ["bool", "int", "str", "tuple", "list", "dict"], kitB t n = some (ZW t n) := by decide +kernel
structure aEi (K : PySem.W.Frag) (C : Addr) : Prop where
 cl : Cls K C
 ha : PySem.W.findIn K (.ref C) "__class__" = some (some (.builtin "object.__class__"))
 hn : PySem.W.specialIn K (.builtin "object.__class__") "__get__" = some (some (.builtin "getset_descriptor.__get__"))
 tk : PySem.W.takesIn K (.builtin "object.__class__") = some true
 hm : PySem.W.mroIn K C (.type "object") = some true
def aAb : List D → Option (List String)
 | [] => some []
 | .ty n :: ds => (aAb ds).map fun ns => n :: ns
 | _ :: _ => none
def gF (kc : kX → kX → Option Bool) : MF := fun ds w => match ds with
 | [d, .ty n] => (match C1 d w with
  | some (.b t) => if t ∈ names7 ∧ n ∈ ["bool", "int", "str", "tuple", "list", "dict"] then .ok (.bl (ZW t n)) w else .bad
  | some (.o C) => (match kc (.o C) (.b n) with
   | some r => .ok (.bl r) w
   | none => .bad)
  | none => .bad)
 | [d, .con C] => (match C1 d w with
  | some t => (match kc t (.o C) with
   | some r => .ok (.bl r) w
   | none => .bad)
  | none => .bad)
 | [d, .tup cs] => (match C1 d w, aAb cs with
  | some (.b t), some ns => if t ∈ names7 ∧ ∀ n ∈ ns, n ∈ ["bool", "int", "str", "tuple", "list", "dict"] then .ok (.bl (ns.any (ZW t))) w else .bad
  | _, _ => .bad)
 | _ => .bad
structure aG2 (K : PySem.W.Frag) (kc : kX → kX → Option Bool) : Prop where
 one : ∀ t c r, kc t c = some r → PySem.W.kitOne K t.v c.v = some r
 ins : ∀ C c r, kc (.o C) c = some r → aEi K C
def gL : kX → kX → Option Bool := fun _ _ => none
theorem dM {K : PySem.W.Frag} : aG2 K gL := ⟨fun _ _ _ h => (by cases h), fun _ _ _ h => (by cases h)⟩
theorem KH {K : PySem.W.Frag} {I : List Addr} {F G H : Hp} {w : W} (rel : Rel K I F G w H) {d : D} {v : V} (h : aH K I F d v) {t : kX} (e : C1 d w = some t) (hi : ∀ C, t = .o C → aEi K C) : TyX K H v t.v := by
 have hT : ∀ {a : Addr} {vs : List V}, SqT K H a vs → TyX K H (.ref a) (.type "tuple") := fun {a vs} q => by
  rcases q with (q | ⟨o, q⟩) | q
  ·exact .base (.tup q)
  ·exact .fTuple q
  ·obtain ⟨o, its, n, q1, q2, _⟩ := q
   exact .kTuple q1 q2
 have hL : ∀ {a : Addr} {vs : List V}, SqL K H a vs → TyX K H (.ref a) (.type "list") := fun {a vs} q => by
  rcases q with (q | ⟨o, q⟩) | q
  ·exact .base (.lst q)
  ·exact .base (.frz q)
  ·obtain ⟨o, its, n, q1, q2, _⟩ := q
   exact .kList q1 q2
 cases d <;> simp only [C1, aj, reduceCtorEq] at e <;> simp only [aH] at h
 case non => subst h; subst e; exact .base .non
 case bl => subst h; subst e; exact .base (.bl _)
 case int => subst h; subst e; exact .base (.int _)
 case str => subst h; subst e; exact .base (.str _)
 case tup => obtain ⟨a, vs, rfl, h1, _⟩ := h; subst e; exact hT (.of (rel.fz _ _ h1))
 case lY => obtain ⟨a, vs, rfl, h1, _⟩ := h; subst e; exact hT (rel.RS h1)
 case lst => obtain ⟨a, vs, rfl, h1, _⟩ := h; subst e; exact hL (.of (rel.fz _ _ h1))
 case oI => obtain ⟨a, vs, rfl, h1, _⟩ := h; subst e; exact hL (rel.YS h1)
 case ref i =>
  obtain ⟨a, rfl, hi'⟩ := h
  split at e
  ·rename_i hw; cases e; obtain ⟨u, hu, vs, rfl, _⟩ := rel.ob i a _ hi' hw; exact .base (.lst hu)
  ·rename_i hw; cases e; obtain ⟨u, hu, vs, rfl, _⟩ := rel.ob i a _ hi' hw; exact .base (.dK hu)
  ·rename_i hw; cases e; obtain ⟨u, hu, vs, rfl, _⟩ := rel.ob i a _ hi' hw; exact .base (.dT hu)
  ·rename_i hw; cases e; obtain ⟨u, hu, o, vs, rfl, _⟩ := rel.ob i a _ hi' hw; exact .fDict hu
  ·cases e
  ·rename_i C fs hw
   cases e
   obtain ⟨u, hu, dx, r, rfl, _⟩ := rel.ob i a _ hi' hw
   have z := hi C rfl
   exact .base (.ins hu z.cl z.ha z.hn z.tk z.hm)
  ·cases e
 case zX =>
  obtain ⟨a, kvs, rfl, h1, _⟩ := h
  subst e
  rcases h1 with h1 | ⟨o, h1⟩
  ·exact .base (.dK (rel.fz _ _ h1))
  ·exact .fDict (rel.fz _ _ h1)
theorem P2 {K : PySem.W.Frag} {I : List Addr} {F : Hp} {t : String} (ht : t ∈ names7) : ∀ {cs : List D} {ns : List String} {vs : List V}, aAb cs = some ns → RepL K I F cs vs → (∀ n ∈ ns, n ∈ ["bool", "int", "str", "tuple", "list", "dict"]) → ∃ ws, Paired ClsV vs ws ∧ PySem.W.kitAny K (.type t) ws = some (ns.any (ZW t))
 | [], ns, vs, e, r, _ => by
  simp only [aAb, aj] at e
  subst e
  simp only [RepL] at r
  subst r
  exact ⟨[], .nil, kitAny_nil⟩
 | d :: ds, ns, vs, e, r, hn => by
  cases d <;> simp only [aAb, aq, reduceCtorEq] at e
  rename_i n
  obtain ⟨ns', e1, rfl⟩ := e
  simp only [RepL, aH] at r
  obtain ⟨v, r', rfl, rfl, r2⟩ := r
  obtain ⟨ws, p, q⟩ := P2 ht e1 r2 fun m hm => hn m (br _ hm)
  refine ⟨.type n :: ws, .cons (.ty n) p, ?_⟩
  have k1 : PySem.W.kitOne K (.type t) (.type n) = some (ZW t n) := kit_ty (V3 t ht n (hn n (bc ..)))
  rw [List.any_cons]
  refine kitAny_cons k1 (fun hb => ?_) fun hb => ?_
  ·rw [hb, Bool.false_or]; exact q
  ·rw [hb, Bool.true_or]
theorem fB {S : aR} {kc : kX → kX → Option Bool} (hk : aG2 S.K kc) : CB S (.builtin "isinstance") (gF kc) := uY fun X E c xo I F G ds w H vs Q rel rl p => by
 unfold gF at p
 split at p
 ·rename_i d n
  obtain ⟨v, u, rfl, rv, ru⟩ := rl.two
  simp only [aH] at ru
  subst ru
  split at p
  ·rename_i t ht
   split at p
   ·rename_i hc
    exact ⟨_, call_isi, v, .ty n, _, .type n, _, rfl, .ty n, KH rel rv ht (fun C z => by cases z), kit_ty (V3 t hc.1 n hc.2), p.nL rel (by simp [aH])⟩
   ·exact p.elim
  ·rename_i C hC
   split at p
   ·rename_i r hr
    exact ⟨_, call_isi, v, .ty n, _, .type n, _, rfl, .ty n, KH rel rv hC (fun C' z => by cases z; rw [c.K]; exact hk.ins _ _ _ hr), by rw [c.K]; exact hk.one _ _ _ hr, p.nL rel (by simp [aH])⟩
   ·exact p.elim
  ·exact p.elim
 ·rename_i d C
  obtain ⟨v, u, rfl, rv, ru⟩ := rl.two
  simp only [aH] at ru
  subst ru
  split at p
  ·rename_i t ht
   split at p
   ·rename_i r hr
    exact ⟨_, call_isi, v, .ref C, _, .ref C, _, rfl, .own C, KH rel rv ht (fun C' z => by subst z; rw [c.K]; exact hk.ins _ _ _ hr), by rw [c.K]; exact hk.one _ _ _ hr, p.nL rel (by simp [aH])⟩
   ·exact p.elim
  ·exact p.elim
 ·rename_i d cs
  obtain ⟨v, u, rfl, rv, ru⟩ := rl.two
  simp only [aH] at ru
  obtain ⟨tp, vs, rfl, h2, h3⟩ := ru
  split at p
  ·rename_i t ns ht hn
   split at p
   ·rename_i hc
    obtain ⟨ws, hp, hk2⟩ := P2 (K := X.K) hc.1 hn h3 hc.2
    exact ⟨_, call_isiT, v, tp, vs, _, ws, _, rfl, rel.fz _ _ h2, hp, KH rel rv ht (fun C z => by cases z), hk2, p.nL rel (by simp [aH])⟩
   ·exact p.elim
  ·exact p.elim
 ·exact p.elim
def uB : List D → Option (List Bool)
 | [] => some []
 | .bl b :: r => (uB r).map (b :: ·)
 | _ :: _ => none
theorem GW {K : PySem.W.Frag} {I : List Addr} {F : Hp} : ∀ {ds : List D} {vs : List V} {ns : List Bool}, RepL K I F ds vs → uB ds = some ns → vs = ns.map V.bl
 | [], vs, ns, h, e => by simp only [uB, aj] at e; subst e; simp only [RepL] at h; exact h
 | d :: ds, vs, ns, h, e => by
  cases d <;> simp only [uB, aq, reduceCtorEq] at e
  obtain ⟨r, e1, rfl⟩ := e
  simp only [RepL, aH] at h
  obtain ⟨v, t, rfl, rfl, h2⟩ := h
  rw [GW h2 e1]
  rfl
def allM : MF := fun ds w => match ds with
 | [d] => (match (wG d w).bind uB with
  | some bs => .ok (.bl (bs.all id)) w
  | none => .bad)
 | _ => .bad
theorem EF {S : aR} : CB S (.builtin "all") allM := uY fun X E c xo I F G ds w H vs Q rel rl p => by
 unfold allM at p
 split at p
 ·rename_i d
  obtain ⟨v, rfl, rv⟩ := rl.one
  split at p
  ·rename_i bs hn
   obtain ⟨xs, h1, h2⟩ := dj.mp hn
   obtain ⟨a, us, rfl, hq, hr⟩ := DQ rel rv h1
   obtain rfl := GW hr h2
   exact ⟨_, cr_all c.calm, a, bs, rfl, hq, p.nL rel (by simp [aH])⟩
  ·exact p.elim
 ·exact p.elim
def RN (x y : D) (w : W) : Res D := match x, y with
 | .int a, .int b => .ok (.bl (decide (a < b))) w
 | x, y => match (zL x).bind nU, (zL y).bind nU with
  | some ns, some ms => .ok (.bl (HT.lexLt ns ms)) w
  | _, _ => .bad
theorem aEs {S : aR} : O2 S (compareOp .Lt) RN := jG fun X E c xo I F G d e w H x y Q rel rd re p => by
 unfold RN at p
 split at p
 ·simp only [aH] at rd re
  exact ⟨_, op_lt, _, _, rd, re, p.nL rel (by simp [aH])⟩
 ·split at p
  ·rename_i ns ms h1 h2
   obtain ⟨xs, q1, q2⟩ := dj.mp h1
   obtain ⟨ys, q3, q4⟩ := dj.mp h2
   obtain ⟨a, us, rfl, g1, g2⟩ := LV rel rd q1
   obtain ⟨b, ts, rfl, g3, g4⟩ := LV rel re q3
   obtain rfl := nM g2 q2
   obtain rfl := nM g4 q4
   exact ⟨_, op_ltT (by have := c.room.un; omega), a, b, ns, ms, rfl, rfl, g1, g3, p.nL rel (by simp [aH])⟩
  ·exact p.elim
theorem kE {K : PySem.W.Frag} {I : List Addr} {F G H : Hp} {w : W} {q : Addr} {u : HO} (rel : Rel K I F (upd G q u) w H) (hG : G q = none) : Rel K I F G w H :=
 ⟨rel.len, rel.nd, rel.ob, rel.fz, rel.ap, fun a v h => rel.gz a v (by rw [upd_ne (ne_of_none h hG)]; exact h), fun a v h => rel.gf a v (by rw [upd_ne (ne_of_none h hG)]; exact h), fun a xs h => rel.gt a xs (by rw [upd_ne (ne_of_none h hG)]; exact h)⟩
theorem bF.more {α : Type} {K : PySem.W.Frag} {I : List Addr} {F G : Hp} {E : XK} {R R' : List Addr → Hp → Hp → α → W → Prop} {r : Res α} {q : Addr} {u : HO} (p : bF K I F G E R r) (hG : G q = none)
  (k : ∀ I' F' H' a w, r = .ok a w → Ext I F I' F' → Rel K I' F' (upd G q u) w H' → R I' F' H' a w → R' I' F' H' a w) : bF K I F (upd G q u) E R' r := by
 cases r with
 | ok a w => exact fun I' F' H' e rel => k I' F' H' a w rfl e rel (p I' F' H' e (kE rel hG))
 | vY x w => exact fun I' F' H' c d e rel rx => p I' F' H' c d e (kE rel hG) rx
 | bad => exact p
abbrev MP := Sg → W → Res (List (D × D))
def C2 : MP := fun _ w => .ok [] w
def dJ (mk mv : ME) (r : MP) : MP := fun σ w => (mk σ w).bind fun k w1 => (mv σ w1).bind fun v w2 => (r σ w2).bind fun ps w3 => .ok ((k, v) :: ps) w3
def keyed : List (D × D) → Option (List (Key × D))
 | [] => some []
 | (k, v) :: r => match keyD k, keyed r with
  | some j, some t => some ((j, v) :: t)
  | _, _ => none
def mH {κ : Type} [DecidableEq κ] (kvs more : List (κ × D)) : List (κ × D) := more.foldl (fun acc kv => putD acc kv.1 kv.2) kvs
def GG (m : MP) : ME := fun σ w => (m σ w).bind fun ps w1 => match keyed ps with
 | some kvs => if kvs.length ≤ 15 then .ok (.ref w1.length) (w1 ++ [.dK (mH [] kvs)]) else .bad
 | none => .bad
def q9 : ME := fun _ w => .ok (.ref w.length) (w ++ [.dT []])
def aGR (K : PySem.W.Frag) (I : List Addr) (F : Hp) (ps : List (D × D)) (vs : List (V × V)) : Prop := RepL K I F (ps.map (·.1)) (vs.map (·.1)) ∧ RepL K I F (ps.map (·.2)) (vs.map (·.2))
def RPs (K : PySem.W.Frag) (Q : List (V × V) → Hp → Prop) : List Addr → Hp → Hp → List (D × D) → W → Prop := fun I' F' H' ps _ => ∀ vs, aGR K I' F' ps vs → Q vs H'
def lowP (K : PySem.W.Frag) (E : XK) (m : MP) : L2.St → Hp → (List (V × V) → Hp → Prop) → Prop := fun σ H Q => ∃ I F G ds w, Rel K I F G w H ∧ dW K I F ds σ ∧ bF K I F G E (RPs K Q) (m ds w)
def JD (S : aR) (pos : Pos) (ks : List (Option Expr)) (vs : List Expr) (m : MP) : Prop := ∀ X E, Ctx S X → qL X E → ∃ trs, PPs X pos ks vs trs ∧ ∀ σ H Q, lowP X.K E m σ H Q → tPairs trs σ H Q
theorem aQ.merge {K : PySem.W.Frag} {I : List Addr} {F : Hp} {κ : Type} [DecidableEq κ] : ∀ {more : List (κ × D)} {rs : List (κ × V)} {kvs : List (κ × D)} {vs : List (κ × V)}, aQ K I F more rs → aQ K I F kvs vs → aQ K I F (mH kvs more) (rs.foldl (fun acc kv => putK acc kv.1 kv.2) vs)
 | [], rs, kvs, vs, h, g => by simp only [aQ] at h; subst h; exact g
 | (k, d) :: more, rs, kvs, vs, h, g => by
  simp only [aQ] at h
  obtain ⟨v, r, rfl, h1, h2⟩ := h
  exact aQ.merge (more := more) (rs := r) h2 (g.put k h1)
theorem BG {K : PySem.W.Frag} {I : List Addr} {F : Hp} : ∀ {ps : List (D × D)} {vs : List (V × V)} {kvs : List (Key × D)}, aGR K I F ps vs → keyed ps = some kvs → ∃ r : List (Key × V), vs = r.map (fun kv => (kV kv.1, kv.2)) ∧ aQ K I F kvs r
 | [], vs, kvs, h, e => by
  simp only [keyed, aj] at e
  subst e
  have := h.1
  simp only [List.map_nil, RepL, List.map_eq_nil_iff] at this
  subst this
  exact ⟨[], rfl, by simp [aQ]⟩
 | (k, d) :: ps, vs, kvs, h, e => by
  obtain ⟨h1, h2⟩ := h
  cases vs with
  | nil => simp only [cw, List.map_nil, RepL] at h1; obtain ⟨_, _, z, _⟩ := h1; cases z
  | cons x vs =>
   obtain ⟨x1, x2⟩ := x
   simp only [cw, RepL] at h1 h2
   obtain ⟨v, r, z1, g1, g2⟩ := h1
   obtain ⟨u, t, z2, g3, g4⟩ := h2
   cases z1
   cases z2
   simp only [keyed] at e
   split at e
   ·rename_i j tt e1 e2
    cases e
    obtain ⟨rr, e3, e4⟩ := BG ⟨g2, g4⟩ e2
    refine ⟨(j, x2) :: rr, ?_, ?_⟩
    ·rw [cw, ← e3, uI g1 e1]
    ·simp only [aQ]; exact ⟨x2, rr, rfl, g3, e4⟩
   ·cases e
section
variable {S : aR} {pos : Pos} {k v : Expr} {ks : List (Option Expr)} {vs : List Expr} {mk mv : ME} {m : MP}
theorem LA : JD S pos [] [] C2 := fun X E cx xo => ⟨[], pps_nil, fun σ H Q ⟨I, F, G, ds, w, rel, rs, p⟩ => p I F H .refl rel [] ⟨by simp [RepL], by simp [RepL]⟩⟩
theorem iK (hk : JE S k mk) (hv : JE S v mv) (hr : JD S pos ks vs m) : JD S pos (some k :: ks) (v :: vs) (dJ mk mv m) := fun X E cx xo => by
 obtain ⟨trs, h1, h2⟩ := hr X E cx xo
 refine ⟨(sP X.K E mk, sP X.K E mv) :: trs, pps_cons (hk X E cx xo) (hv X E cx xo) h1, fun σ H Q ⟨I, F, G, ds, w, rel, rs, p⟩ => ?_⟩
 refine bX (f := fun ds x w1 => (mv ds w1).bind fun y w2 => (m ds w2).bind fun ps w3 => .ok ((x, y) :: ps) w3) rel rs p fun I1 F1 H1 x w1 a e1 rel1 rs1 ra p1 => ?_
 refine bX (f := fun ds y w2 => (m ds w2).bind fun ps w3 => .ok ((x, y) :: ps) w3) rel1 rs1 p1 fun I2 F2 H2 y w2 b e2 rel2 rs2 rb p2 => ?_
 refine h2 σ H2 _ ⟨I2, F2, G, ds, w2, rel2, rs2, (bF.bind p2).mono fun I3 F3 H3 ps w3 _ e3 rel3 p3 us ru => ?_⟩
 refine p3 I3 F3 H3 .refl rel3 ((a, b) :: us) ⟨?_, ?_⟩
 ·exact RepL.cons (aH.ext (e2.trans e3) _ _ ra) ru.1
 ·exact RepL.cons (aH.ext e3 _ _ rb) ru.2
theorem US (h : JD S pos ks vs m) (hall : ks.all (·.isSome) = true := by rfl) (hl : ks.length = vs.length := by rfl) (h0 : ks ≠ [] := by simp) (h15 : ks.length ≤ 15 := by exact ah rfl) : JE S (.Dict ks vs pos) (GG m) := fun X E cx xo => by
 obtain ⟨trs, g1, g2⟩ := h X E cx xo
 refine b0 (pe_disp g1 hall hl h0 h15) fun σ H Q ⟨I, F, G, ds, w, rel, rs, p⟩ q hq => ?_
 have hG : G q = none := by
  cases z : G q with
  | none => rfl
  | some u => rw [rel.gz _ _ z] at hq; cases hq
 refine g2 σ _ _ ⟨I, F, upd G q (.dK []), ds, w, rel.keep hq, rs, (bF.bind p).more hG fun I1 F1 H1 ps w1 _ e1 rel1 p1 us ru => ?_⟩
 refine ⟨rel1.gz q _ upd_same, ?_⟩
 split at p1
 ·rename_i kvs hk
  split at p1
  ·rename_i hl'
   obtain ⟨r, e2, e3⟩ := BG ru hk
   refine ⟨r, e2, by rw [← e3.length]; exact hl', ?_⟩
   obtain ⟨ee, rel2⟩ := (rel1.J5 (u' := .dK (mergeK [] r))).owned hG (o := .dK (mH [] kvs)) ⟨_, rfl, aQ.merge e3 (by simp [aQ])⟩
   refine p1 _ _ _ ee rel2 _ ?_
   simp only [aH]
   refine ⟨q, rfl, ?_⟩
   rw [← rel1.len, bp (bx _)]
   simp
  ·exact p1.elim
 ·exact p1.elim
theorem Y2 : JE S (.Dict [] [] pos) q9 := fun X E cx xo => b0 pe_dnewT fun σ H Q ⟨I, F, G, ds, w, rel, rs, p⟩ => x8 (o := .dT []) rel ⟨[], rfl, by simp [aQ]⟩ p
end
def getM : MMt := fun d ds w => match d, ds with
 | .ref i, [k, z] => (match w[i]? with
  | some o => (match pZ o k with
   | some r => .ok (r.getD z) w
   | none => .bad)
  | none => .bad)
 | _, _ => .bad
def SS : MMt := fun d ds w => match d, ds with
 | .ref i, [.ref j] => (match w[i]?, w[j]? with
  | some (.dK kvs), some (.dK more) => if i ≠ j ∧ kvs.length + more.length ≤ sizeLine then .ok .non (w.set i (.dK (mH kvs more))) else .bad
  | _, _ => .bad)
 | _, _ => .bad
theorem aBN {X : Cx} : MtR X "dict.update" (fun x xs H Q => ∃ a b kvs more, x = V.ref a ∧ xs = [V.ref b] ∧ H a = some (.dK kvs) ∧ H b = some (.dK more) ∧ a ≠ b ∧ kvs.length + more.length ≤ sizeLine ∧ Q .non (upd H a (.dK (mergeK kvs more)))) := by
 intro pins s σ H x xs v us Q J rx rxs h
 obtain ⟨a, b, kvs, more, rfl, rfl, ha, hb, ne, hz, q⟩ := h
 cases rx
 obtain ⟨u, rfl, ru⟩ := rxs.one
 cases ru
 obtain ⟨z1, d1, vs1, r1, dd1⟩ := dk_of J.hok ha
 obtain ⟨z2, d2, vs2, r2, dd2⟩ := dk_of J.hok hb
 refine PySem.call_meetsIn PySem.F.slot_dict_update dd1.typeIs PySem.F.entry_dict_update (PySem.F.args_dict_update_2 _ _) (meets_dict_update (mixKind X.prog X.w) a b ne d2) ⟨vs1, vs2, dd1, dd2, by rw [← r1.length, ← r2.length]; exact hz, fun h' g1 _ hs => ?_⟩
 have he : ∃ q, h'.get? a = some q := by
  obtain ⟨q, _, _, hq, _⟩ := g1
  exact ⟨q, hq⟩
 refine ⟨.non, _, d_write J (t' := s.toks) (by rw [ha]; exact True.intro) hs he (dk_new ?_ d1 (KV.merge r2 r1) g1), rfl, q⟩
 exact de (length_mergeK more kvs) hz
theorem YC {S : aR} : MB S "dict.update" SS := WL fun X E c xo I F G d ds w H x vs Q rel rd rl p => by
 unfold SS at p
 split at p
 ·rename_i i j
  simp only [aH] at rd
  obtain ⟨a, rfl, hi⟩ := rd
  obtain ⟨t, rfl, rt⟩ := rl.one
  simp only [aH] at rt
  obtain ⟨b, rfl, hj⟩ := rt
  split at p
  ·rename_i kvs more hw1 hw2
   obtain ⟨u, hu, r, rfl, hr⟩ := rel.ob i a _ hi hw1
   obtain ⟨u2, hu2, r2, rfl, hr2⟩ := rel.ob j b _ hj hw2
   split at p
   ·rename_i hc
    refine ⟨_, aBN, a, b, r, r2, rfl, rfl, hu, hu2, fun z => hc.1 ?_, by rw [← hr.length, ← hr2.length]; exact hc.2, p.nL (rel.upd hi hw1 ⟨_, rfl, aQ.merge hr2 hr⟩) (by simp [aH])⟩
    subst z
    obtain ⟨l1, e1⟩ := ai.mp hi
    obtain ⟨l2, e2⟩ := ai.mp hj
    exact (List.getElem_inj rel.nd).mp (e1.trans e2.symm)
   ·exact p.elim
  ·exact p.elim
 ·exact p.elim
def gG : Key → D
 | .inl i => .int i
 | .inr x => .str x
theorem tK {K : PySem.W.Frag} {I : List Addr} {F : Hp} (k : Key) : aH K I F (gG k) (kV k) := by
 cases k <;> simp [gG, aH, kV]
def BE (d : D) (w : W) : Res l9 := match d with
 | .ref i => (match w[i]? with
  | some (.dK kvs) => .ok ⟨kvs.map fun p => .tup [gG p.1, p.2], always⟩ (w.set i (.dF kvs))
  | _ => .bad)
 | _ => .bad
def vF (m : ME) : MI := fun σ w => (m σ w).bind BE
def tLock (te : TE) : TE := fun σ H Q => te σ H fun x H1 => ∃ d kvs, x = V.ref d ∧ H1 d = some (.dK kvs) ∧ ∀ o, Q x (upd H1 d (.frz o (.dK kvs)))
theorem pe_lock {X : Cx} {e : Expr} {te : TE} (h : PE X e te) : PE X e (tLock te) := ⟨fun pins s σ H Q J q => thn (h.run pins s σ H _ J q) fun u s1 ⟨x, H1, J1, r, d, kvs, ex, hd, k⟩ => by
 obtain ⟨o, J2⟩ := J1.lock hd trivial
 exact ⟨x, _, J2, r, k o⟩⟩
theorem aQ.get {K : PySem.W.Frag} {I : List Addr} {F : Hp} {κ : Type} : ∀ {kvs : List (κ × D)} {r : List (κ × V)} {i : Nat} {k : κ} {v : V}, aQ K I F kvs r → r[i]? = some (k, v) → ∃ d, kvs[i]? = some (k, d) ∧ aH K I F d v
 | [], r, i, k, v, h, e => by simp only [aQ] at h; subst h; simp at e
 | (j, d) :: kvs, r, 0, k, v, h, e => by
  simp only [aQ] at h
  obtain ⟨u, t, rfl, h1, h2⟩ := h
  simp at e
  obtain ⟨rfl, rfl⟩ := e
  exact ⟨d, rfl, h1⟩
 | (j, d) :: kvs, r, i + 1, k, v, h, e => by
  simp only [aQ] at h
  obtain ⟨u, t, rfl, h1, h2⟩ := h
  obtain ⟨d', h3, h4⟩ := aQ.get (i := i) h2 (by simpa using e)
  exact ⟨d', by simpa using h3, h4⟩
theorem JJ {K : PySem.W.Frag} {I : List Addr} {F G H : Hp} {w : W} {ds : List D} {vs : List V} (rel : Rel K I F G w H) (r : RepL K I F ds vs) {q : Addr} (hq : H q = none) : ∃ F2, Ext I F I F2 ∧ Rel K I F2 G w (upd H q (.tup vs)) ∧ aH K I F2 (.tup ds) (.ref q) := by
 have hF : F q = none := by
  cases h : F q with
  | none => rfl
  | some u => rw [rel.fz _ _ h] at hq; cases hq
 have e : Ext I F I (upd F q (.tup vs)) := ⟨List.prefix_refl _, fun a u h => by rw [upd_ne (ne_of_none h hF)]; exact h⟩
 refine ⟨_, e, ⟨rel.len, rel.nd, fun i a o h1 h2 => ?_, fun a u h => ?_, fun i a o h h0 hf => ?_, fun a u h => ?_, fun a u h => ?_, rel.gt⟩, ?_⟩
 ·obtain ⟨u, h3, h4⟩ := rel.ob i a o h1 h2
  exact ⟨u, by rw [upd_ne (ne_of_none h3 hq)]; exact h3, kP.ext e h4⟩
 ·by_cases ha : a = q
  ·subst ha; rw [upd_same] at h ⊢; exact h
  ·rw [upd_ne ha] at h ⊢; exact rel.fz a u h
 ·obtain ⟨u, h3, _⟩ := rel.ob i a o h h0
  rw [upd_ne (ne_of_none h3 hq)]; exact rel.ap i a o h h0 hf
 ·rw [upd_ne (ne_of_none (rel.gz a u h) hq)]; exact rel.gz a u h
 ·rw [upd_ne (ne_of_none (rel.gz a u h) hq)]; exact rel.gf a u h
 ·simp only [aH]
  exact ⟨q, vs, rfl, upd_same, RepL.ext e _ _ r⟩
theorem aA3 {K : PySem.W.Frag} {I : List Addr} {F G H : Hp} {w : W} {i : Nat} {a : Addr} {kvs : List (Key × D)} {r : List (Key × V)} (o : Obj) (rel : Rel K I F G w H) (hi : I[i]? = some a) (hw : w[i]? = some (.dK kvs)) (hr : aQ K I F kvs r) :
  Ext I F I (upd F a (.frz o (.dK r))) ∧ Rel K I (upd F a (.frz o (.dK r))) G (w.set i (.dF kvs)) (upd H a (.frz o (.dK r))) := by
 have hF : F a = none := rel.ap i a _ hi hw rfl
 have rel' := rel.upd (u' := .frz o (.dK r)) (o' := .dF kvs) hi hw ⟨o, r, rfl, hr⟩
 have e : Ext I F I (upd F a (.frz o (.dK r))) := ⟨List.prefix_refl _, fun b u h => by rw [upd_ne (ne_of_none h hF)]; exact h⟩
 refine ⟨e, rel'.len, rel'.nd, fun j b q h1 h2 => ?_, fun b u h => ?_, fun j b q h1 h2 h3 => ?_, rel'.gz, fun b u h => ?_, rel.gt⟩
 ·obtain ⟨u, h3, h4⟩ := rel'.ob j b q h1 h2
  exact ⟨u, h3, kP.ext e h4⟩
 ·by_cases hb : b = a
  ·subst hb; rw [upd_same] at h ⊢; exact h
  ·rw [upd_ne hb] at h; exact rel'.fz b u h
 ·have hb : b ≠ a := fun z => by
   subst z
   obtain ⟨l1, e1⟩ := ai.mp hi
   obtain ⟨l2, e2⟩ := ai.mp h1
   have hij : i = j := (List.getElem_inj rel.nd).mp (e1.trans e2.symm)
   subst hij
   rw [bf (ai.mp hw).1] at h2
   cases h2
   cases h3
  rw [upd_ne hb]; exact rel'.ap j b q h1 h2 h3
 ·obtain ⟨g1, g2⟩ := rel.gf b u h
  have hb : b ≠ a := fun z => g2 (by rw [z]; exact cb hi)
  exact ⟨by rw [upd_ne hb]; exact g1, g2⟩
theorem ZT {S : aR} {e : Expr} {m : ME} {apos cpos tpos : Pos} {elts : List Expr} {kk : Nat} (he : JE S e m) (hbase : ∀ env : Env, attributeBase e "items" env (eval e env) = eval e env := by intro _; rfl) (hline : (apos.endLine == cpos.line) = true := by rfl) :
  JI S (.Tuple elts kk tpos) (.Call (.Attribute e "items" apos) [] [] cpos) (vF m) := fun X E cx xo =>
 zC (pi_items (pe_lock (he X E cx xo)) (hbase X.env) hline) fun σ H R ⟨I, F, G, ds, w, rel, rs, p⟩ => bX (f := fun _ => BE) rel rs p fun I1 F1 H1 d w1 v e1 rel1 rs1 rv p1 => by
  unfold BE at p1
  split at p1
  ·rename_i i
   simp only [aH] at rv
   obtain ⟨a, rfl, hi⟩ := rv
   split at p1
   ·rename_i kvs hw
    obtain ⟨u, hu, r, rfl, hr⟩ := rel1.ob i a _ hi hw
    refine ⟨a, r, rfl, hu, fun o => ⟨a, o, r, rfl, upd_same, ?_⟩⟩
    have hl : i < w1.length := (ai.mp hw).1
    obtain ⟨e2, rel2⟩ := aA3 o rel1 hi hw hr
    refine p1 I1 _ _ e2 rel2 trivial _ fun I' F' G' w' H' j e' rel' _ => ?_
    have hH : H' a = some (.frz o (.dK r)) := rel'.fz _ _ (e'.f _ _ upd_same)
    have hr' := aQ.ext (e2.trans e') _ _ hr
    have hlen : kvs.length = r.length := hr.length
    refine ⟨fun x hx => ?_, fun hl' => ⟨hH, by rw [cg] at hl'; omega⟩⟩
    rw [cu] at hx
    cases hk : kvs[j]? with
    | none => rw [hk] at hx; cases hx
    | some kd =>
     rw [hk] at hx
     cases hx
     refine ⟨⟨hH, by rw [← hlen]; exact (ai.mp hk).1⟩, fun v H'' y => ?_⟩
     obtain ⟨T, k, v', g1, rfl, g2, rfl⟩ := y
     obtain ⟨d', g3, g4⟩ := hr'.get g1
     rw [hk] at g3
     cases g3
     exact JJ rel' (RepL.cons (tK k) (RepL.cons g4 (by simp [RepL]))) g2
   ·exact p1.elim
  ·exact p1.elim
open Classical in
def inL (it : l9) (vs : List Nat) (g : MG) (t : MT) (e : ME) : List D → List D → Sg → W → Res (List D)
 | acc, [], σ, w => if it.ok w then .ok acc w else .bad
 | acc, x :: xs, σ, w => if it.ok w then (g x (eO σ vs) w).M4.bind fun σ1 w1 => (t σ1 w1).M4.bind fun b w2 =>
   if b = true then (e σ1 w2).M4.bind fun y w3 => if acc.length < sizeLine then inL it vs g t e (acc ++ [y]) xs σ w3 else .bad else inL it vs g t e acc xs σ w2
  else .bad
open Classical in
def yE (it : l9) (vs : List Nat) (g : MG) (t : MT) (mi1 : MI) (vs1 : List Nat) (g1 : MG) (t1 : MT) (e : ME) : List D → List D → Sg → W → Res (List D)
 | acc, [], σ, w => if it.ok w then .ok acc w else .bad
 | acc, x :: xs, σ, w => if it.ok w then (g x (eO σ vs) w).M4.bind fun σ1 w1 => (t σ1 w1).M4.bind fun b w2 =>
   if b = true then (mi1 σ1 w2).M4.bind fun it1 w3 => (inL it1 vs1 g1 t1 e acc it1.xs σ1 w3).bind fun acc' w4 => yE it vs g t mi1 vs1 g1 t1 e acc' xs σ w4
   else yE it vs g t mi1 vs1 g1 t1 e acc xs σ w2
  else .bad
def Z1 (m : MI) (vs : List Nat) (g : MG) (t : MT) (mi1 : MI) (vs1 : List Nat) (g1 : MG) (t1 : MT) (e : ME) : MA := fun σ w => (m σ w).bind fun it w1 => yE it vs g t mi1 vs1 g1 t1 e [] it.xs σ w1
def FH (m : MI) (vs : List Nat) (g : MG) (t : MT) (mi1 : MI) (vs1 : List Nat) (g1 : MG) (t1 : MT) (e : ME) : ME := fun σ w => (Z1 m vs g t mi1 vs1 g1 t1 e σ w).bind fun ys w1 => .ok (.lst ys) w1
theorem still {α : Type} {K : PySem.W.Frag} {R : List Addr → Hp → Hp → α → W → Prop} {r : Res α} {I : List Addr} {F G : Hp} {q : Addr} {u : HO} (hG : G q = none) (p : bF K I F G E0 R r) :
  bF K I F (upd G q u) E0 (fun I' F' H' a w => Rel K I' F' (upd G q u) w H' ∧ ∀ H'', Rel K I' F' G w H'' → R I' F' H'' a w) r := by
 cases r with
 | ok a w => exact fun I' F' H' e q => ⟨q, fun H'' q' => p I' F' H'' e q'⟩
 | vY x w => exact fun I' F' H' c d e q rx => p I' F' H' c d e (kE q hG) rx
 | bad => exact p
theorem W7 {mi : MI} {g : MG} {t : MT} {mi1 : MI} {g1 : MG} {t1 : MT} {me : ME} {K : PySem.W.Frag} {E : XK} {vs vs1 : List Nat} {f : List D → W → Res D} {σ : L2.St} {H : Hp} {Q : VK} (h : sP K E (fun σ w => (Z1 mi vs g t mi1 vs1 g1 t1 me σ w).bind f) σ H Q)
  (fin : ∀ I F G w H q xs us, Rel K I F (upd G q (.lst us)) w H → G q = none → RepL K I F xs us → bF K I F G E (RV K Q) (f xs w) → Q (.ref q) H) :
  tLc2 (aB6 K E mi) (aBU K E0 vs g) (SQ K E0 t) (aB6 K E0 mi1) (aBU K E0 vs1 g1) (SQ K E0 t1) (sP K E0 me) vs vs1 σ H Q := by
 obtain ⟨I, F, G, ds, w, rel, rs, p⟩ := h
 have p0 : bF K I F G E (RV K Q) ((mi ds w).bind fun it w1 => (yE it vs g t mi1 vs1 g1 t1 me [] it.xs ds w1).bind f) := by
  rw [← Res.bind_assoc]; exact p
 refine ⟨I, F, G, ds, w, rel, rs, (bF.bind p0).mono fun I1 F1 H1 it w1 _ e1 rel1 p1 hok J hJ q hq => ?_⟩
 have hG : G q = none := by
  cases h : G q with
  | none => rfl
  | some u => rw [rel1.gz _ _ h] at hq; cases hq
 refine ⟨fun i n H' => n = it.xs.length - i ∧ i ≤ it.xs.length ∧ ∃ I' F' w' xs us, Ext I1 F1 I' F' ∧ Rel K I' F' (upd G q (.lst us)) w' H' ∧ RepL K I' F' xs us ∧
   bF K I' F' G E (RV K Q) ((yE it vs g t mi1 vs1 g1 t1 me xs (it.xs.drop i) ds w').bind f),
  ⟨it.xs.length, by simp, Nat.zero_le _, I1, F1, w1, [], [], .refl, rel1.keep hq, by simp [RepL], by simpa using p1⟩, ?_⟩
 rintro i n H' ⟨rfl, hi, I', F', w', xs, us, e', rel', rx, p'⟩
 by_cases hlt : i < it.xs.length
 ·rw [List.drop_eq_getElem_cons hlt] at p'
  unfold yE at p'
  split at p'
  ·rename_i hw
   obtain ⟨h1, _⟩ := hJ I' F' _ w' H' i e' rel' hw
   obtain ⟨hgo, hy⟩ := h1 _ (bj hlt)
   refine .inr ⟨hgo, fun H2 => ∃ I2 F2 w2 xs2 us2, Ext I1 F1 I2 F2 ∧ Rel K I2 F2 (upd G q (.lst us2)) w2 H2 ∧ RepL K I2 F2 xs2 us2 ∧ bF K I2 F2 G E (RV K Q) ((yE it vs g t mi1 vs1 g1 t1 me xs2 (it.xs.drop (i + 1)) ds w2).bind f),
    fun H2 q => ⟨it.xs.length - (i + 1), by omega, rfl, hlt, q⟩, fun v H2 y => ?_⟩
   obtain ⟨F2, e2, rel2, rv⟩ := hy v H2 y
   have p2 := p'.ext e2
   rw [Res.bind_assoc] at p2
   refine ⟨I', F2, upd G q (.lst us), _, eO ds vs, w', rel2, (((rs.ext e1).ext e').ext e2).wipe vs, rv, (still hG (bF.iQ p2)).mono fun I3 F3 H3 s3 w3 _ e3 rel3 p3 σ3 rs3 ew => ⟨ew.trans BJ, ?_⟩⟩
   have p3' := p3.2 H3 (kE rel3 hG)
   rw [Res.bind_assoc] at p3'
   refine ⟨I3, F3, upd G q (.lst us), s3, w3, rel3, rs3, (still hG (bF.iQ p3')).mono fun I4 F4 H4 b w4 _ e4 rel4 p4 => ?_⟩
   have p4' := p4.2 H4 (kE rel4 hG)
   cases b with
   | false =>
    simp only [bg, aa] at p4' ⊢
    exact ⟨I4, F4, w4, xs, us, (e'.trans e2).trans (e3.trans e4), rel4, RepL.ext ((e2.trans e3).trans e4) _ _ rx, p4'⟩
   | true =>
    simp only [ae] at p4' ⊢
    rw [Res.bind_assoc] at p4'
    refine ⟨I4, F4, upd G q (.lst us), s3, w4, rel4, rs3.ext e4, (still hG (bF.iQ p4')).mono fun I5 F5 H5 it1 w5 _ e5 rel5 p5 hok1 J1 hJ1 => ?_⟩
    have p5' := p5.2 H5 (kE rel5 hG)
    rw [Res.bind_assoc] at p5'
    have ee : Ext I' F' I5 F5 := ((e2.trans e3).trans e4).trans e5
    refine ⟨fun j k H' => k = it1.xs.length - j ∧ j ≤ it1.xs.length ∧ ∃ I' F' w' xs us, Ext I5 F5 I' F' ∧ Rel K I' F' (upd G q (.lst us)) w' H' ∧ RepL K I' F' xs us ∧
      bF K I' F' G E (RV K Q) ((inL it1 vs1 g1 t1 me xs (it1.xs.drop j) s3 w').bind fun xs2 w2 => (yE it vs g t mi1 vs1 g1 t1 me xs2 (it.xs.drop (i + 1)) ds w2).bind f),
     ⟨it1.xs.length, by simp, Nat.zero_le _, I5, F5, w5, xs, us, .refl, rel5, RepL.ext ee _ _ rx, by simpa using p5'⟩, ?_⟩
    rintro j k H6 ⟨rfl, hj, I6, F6, w6, xs6, us6, e6, rel6, rx6, p6⟩
    by_cases hlt1 : j < it1.xs.length
    ·rw [List.drop_eq_getElem_cons hlt1] at p6
     unfold inL at p6
     split at p6
     ·rename_i hw1
      obtain ⟨k1, _⟩ := hJ1 I6 F6 _ w6 H6 j e6 rel6 hw1
      obtain ⟨kgo, ky⟩ := k1 _ (bj hlt1)
      refine .inr ⟨kgo, fun H2 => ∃ I' F' w' xs us, Ext I5 F5 I' F' ∧ Rel K I' F' (upd G q (.lst us)) w' H2 ∧ RepL K I' F' xs us ∧
        bF K I' F' G E (RV K Q) ((inL it1 vs1 g1 t1 me xs (it1.xs.drop (j + 1)) s3 w').bind fun xs2 w2 => (yE it vs g t mi1 vs1 g1 t1 me xs2 (it.xs.drop (i + 1)) ds w2).bind f),
       fun H2 q => ⟨it1.xs.length - (j + 1), by omega, rfl, hlt1, q⟩, fun v1 H7 y1 => ?_⟩
      obtain ⟨F7, e7, rel7, rv7⟩ := ky v1 H7 y1
      have p7 := p6.ext e7
      rw [Res.bind_assoc] at p7
      have e47 : Ext I3 F3 I6 F7 := ((e4.trans e5).trans e6).trans e7
      refine ⟨I6, F7, upd G q (.lst us6), _, eO s3 vs1, w6, rel7, (rs3.ext e47).wipe vs1, rv7, (still hG (bF.iQ p7)).mono fun I8 F8 H8 s8 w8 _ e8 rel8 p8 σ8 rs8 ew8 => ⟨ew8.trans BJ, ?_⟩⟩
      have p8' := p8.2 H8 (kE rel8 hG)
      rw [Res.bind_assoc] at p8'
      refine ⟨I8, F8, upd G q (.lst us6), s8, w8, rel8, rs8, (still hG (bF.iQ p8')).mono fun I9 F9 H9 b9 w9 _ e9 rel9 p9 => ?_⟩
      have p9' := p9.2 H9 (kE rel9 hG)
      cases b9 with
      | false =>
       simp only [bg, aa] at p9' ⊢
       exact ⟨I9, F9, w9, xs6, us6, e6.trans ((e7.trans e8).trans e9), rel9, RepL.ext ((e7.trans e8).trans e9) _ _ rx6, p9'⟩
      | true =>
       simp only [ae] at p9' ⊢
       rw [Res.bind_assoc] at p9'
       refine ⟨I9, F9, upd G q (.lst us6), s8, w9, rel9, rs8.ext e9, (still hG (bF.iQ p9')).mono fun Ia Fa Ha ya wa _ ea rela pa ua rua => ?_⟩
       have pa' := pa.2 Ha (kE rela hG)
       split at pa'
       ·rename_i hz
        have eee : Ext I6 F6 Ia Fa := ((e7.trans e8).trans e9).trans ea
        exact ⟨us6, rela.gz _ _ upd_same, by rw [← rx6.length]; exact hz, Ia, Fa, wa, xs6 ++ [ya], us6 ++ [ua], e6.trans eee, rela.J5, (RepL.ext eee _ _ rx6).append (RepL.cons rua (by simp [RepL])), pa'⟩
       ·exact pa'.elim
     ·exact p6.elim
    ·have hl : j = it1.xs.length := by omega
     subst hl
     rw [List.drop_length] at p6
     unfold inL at p6
     split at p6
     ·rename_i hw1
      exact .inl ⟨(hJ1 I6 F6 _ w6 H6 _ e6 rel6 hw1).2 rfl, I6, F6, w6, xs6, us6, (e'.trans ee).trans e6, rel6, rx6, p6⟩
     ·exact p6.elim
  ·exact p'.elim
 ·have hl : i = it.xs.length := by omega
  subst hl
  rw [List.drop_length] at p'
  unfold yE at p'
  split at p'
  ·rename_i hw
   exact .inl ⟨(hJ I' F' _ w' H' _ e' rel' hw).2 rfl, fin I' F' G w' H' q xs us rel' hG rx p'⟩
  ·exact p'.elim
section
variable {S : aR} {pos : Pos} {elt tg iter tg1 iter1 : Expr} {ifs ifs1 : List Expr} {scope : Scope} {own : List (Str × Nat)} {vs1 : List Nat} {mi mi1 : MI} {g g1 : MG} {t t1 : MT} {me : ME}
theorem aAQ (hi : JI S tg iter mi) (hb : blkC S.N S.sc scope own = true) (hg : JC (S.blk scope) (own.map (·.2)) tg g) (ht : JTs (S.blk scope) ifs t) (hi1 : JI (S.blk scope) tg1 iter1 mi1) (hg1 : JC (S.blk scope) vs1 tg1 g1) (ht1 : JTs (S.blk scope) ifs1 t1) (he : JE (S.blk scope) elt me)
  (hv : ∀ i ∈ vs1, i ∈ own.map (·.2) := by decide) (hs : ∀ (env : Env) x, foldedSetIterable iter env x = pure x := by intro _ _; rfl) (hs1 : ∀ (env : Env) x, foldedSetIterable iter1 env x = pure x := by intro _ _; rfl) :
  JE S (.ListComp elt [⟨tg, iter, ifs, 0⟩, ⟨tg1, iter1, ifs1, 0⟩] scope pos) (FH mi (own.map (·.2)) g t mi1 vs1 g1 t1 me) := fun X E cx xo =>
 b0 (pe_lc2 (own := own) (vs1 := vs1) cx.calm cx.nd (hi X E cx xo) (blkOk_by (by rw [cx.N, cx.sc]; exact hb)) hv (fun s H C cl fp => hg _ E0 (i0 cx s H scope C cl fp) (jC ..)) (fun s H C cl fp => ht _ E0 (i0 cx s H scope C cl fp) (jC ..))
  (fun s H C cl fp => hi1 _ E0 (i0 cx s H scope C cl fp) (jC ..)) (fun s H C cl fp => hg1 _ E0 (i0 cx s H scope C cl fp) (jC ..)) (fun s H C cl fp => ht1 _ E0 (i0 cx s H scope C cl fp) (jC ..))
  (fun s H C cl fp => he _ E0 (i0 cx s H scope C cl fp) (jC ..)) (hs X.env) hs1) fun σ H Q h => W7 h K7
end
structure KTab (K : PySem.W.Frag) (w : World) (d : Addr) (tab : List (Str × Option D)) : Prop where
 ex : ∃ es n, KDict K w d es n
 hit : ∀ z x, tab.lookup z = some (some x) → ∃ u v, PySem.W.nsIn K d z = some (some u) ∧ RelV v u ∧ ∀ I F, aH K I F x v
 miss : ∀ z, tab.lookup z = some none → PySem.W.nsIn K d z = some none
 out : ∀ z, tab.lookup z = none → PySem.W.nsIn K d z = some none
def W6 (d : Addr) (tab : List (Str × Option D)) (x y : D) (w : W) : Res D := match x, y with
 | .str z, .con a => if a = d then (match tab.lookup z with
  | some o => .ok (.bl o.isSome) w
  | none => .ok (.bl false) w) else .bad
 | _, _ => .bad
def T4 (d : Addr) (tab : List (Str × Option D)) (x y : D) (w : W) : Res D := match x, y with
 | .con a, .str z => if a = d then (match tab.lookup z with
  | some (some v) => .ok v w
  | _ => .bad) else .bad
 | _, _ => .bad
theorem aFy {S : aR} {d : Addr} {tab : List (Str × Option D)} (T : KTab S.K S.w d tab) : O2 S (compareOp .In) (W6 d tab) := jG fun X E c xo I F G a b w H x y Q rel rd re p => by
 unfold W6 at p
 split at p
 ·rename_i z a'
  simp only [aH] at rd re
  subst rd re
  split at p
  ·rename_i hd
   subst hd
   obtain ⟨es, n, T1⟩ := T.ex
   rw [← c.K, ← c.w] at T1
   cases h : tab.lookup z with
   | none => rw [h] at p; exact ⟨_, op_in_kd T1, z, none, rfl, rfl, by rw [c.K]; exact T.out z h, p.nL rel (by simp [aH])⟩
   | some o =>
    rw [h] at p
    cases o with
    | none => exact ⟨_, op_in_kd T1, z, none, rfl, rfl, by rw [c.K]; exact T.miss z h, p.nL rel (by simp [aH])⟩
    | some v =>
     obtain ⟨u, v', h1, h2, h3⟩ := T.hit z v h
     exact ⟨_, op_in_kd T1, z, some u, rfl, rfl, by rw [c.K]; exact h1, p.nL rel (by simp [aH])⟩
  ·exact p.elim
 ·exact p.elim
theorem aEF {S : aR} {d : Addr} {tab : List (Str × Option D)} (T : KTab S.K S.w d tab) : aAM S (T4 d tab) := PH fun X E c xo I F G a b w H x y Q rel rd re p => by
 unfold T4 at p
 split at p
 ·rename_i a' z
  simp only [aH] at rd re
  subst rd re
  split at p
  ·rename_i hd
   subst hd
   obtain ⟨es, n, T1⟩ := T.ex
   rw [← c.K, ← c.w] at T1
   cases h : tab.lookup z with
   | none => rw [h] at p; exact p.elim
   | some o =>
    cases o with
    | none => rw [h] at p; exact p.elim
    | some v =>
    rw [h] at p
    obtain ⟨u, v', h1, h2, h3⟩ := T.hit z v h
    exact ⟨_, ix_kdict, a', z, v', rfl, rfl, ⟨es, n, u, T1.at_, T1.lit, by rw [c.K]; exact h1, h2⟩, p.nL rel (by rw [c.K]; exact h3 _ _)⟩
  ·exact p.elim
 ·exact p.elim
theorem aFZ {S : aR} {d : Addr} {tab : List (Str × Option D)} {a b : Expr} {ma mb : ME} {pos : Pos} (T : KTab S.K S.w d tab) (ha : JE S a ma) (hb : JE S b mb) (hs : PlainIx b := by intro _ _; rfl) : JE S (.Subscript a b pos) (aD (T4 d tab) ma mb) := fun X E c xo =>
 b0 (pe_ix (aEF T X E c xo) (ha X E c xo) (hb X E c xo) hs) fun _ _ _ h => y9 h
open RZ (nextOf_tuple_item nextOf_tuple_end zipTH1 zipTH2 zipTH3 zipTH4)
abbrev sO (h : Heap) (z TI TO : Addr) (f0 : Value) : Prop :=
 h.get? z = some { cls := .type "zip", dict := none, data := .fields #[f0, .bool false, .bool true, .ref TI, .ref TO], slots := #[] }
abbrev zsH (h : Heap) (l1 l2 : Addr) : Heap := (zipTH4 h l1 l2).push { cls := .type "zip", data := .fields #[.none, .bool false, .bool true, .ref (zipTH2 h l1 l2).objs.size, .ref (zipTH3 h l1 l2).objs.size] }
theorem RK (a b c : Value) : checkTypeCall "zip" ⟨[a, b], [(Str.ofString "strict", c)]⟩ = pure () := by kernel_rfl
theorem UJ (a b c : Value) : checkBuiltinCall "zip.__new__" ⟨[.type "zip", a, b], [(Str.ofString "strict", c)]⟩ = pure () := by kernel_rfl
theorem aDp (x a b c : Value) : argsOk "object.__init__" ⟨[x, a, b], [(Str.ofString "strict", c)]⟩ := by unfold argsOk; kernel_rfl
theorem aEw (l1 l2 : Addr) (xs ys : Array Value) : Meets (Builtin.«zip.__new__» ⟨[.type "zip", .ref l1, .ref l2], [(Str.ofString "strict", .bool true)]⟩) (fun _ R s => s.heap.IsTuple l1 xs ∧ s.heap.IsTuple l2 ys ∧
   R (.ok (.ret (.ref (zipTH4 s.heap l1 l2).objs.size))) { s with heap := zsH s.heap l1 l2 }) :=
 .of_wp fun prog w A R s ⟨t1, t2, fin⟩ => by
  obtain ⟨hp, gs, dr, tk, os⟩ := s
  have sub0 := sub_zip
  have T1 : Heap.IsTuple (Shared.heap ⟨hp, gs, dr, tk, os⟩) l1 xs := t1
  have T2 : Heap.IsTuple (Shared.heap ⟨hp.push { cls := .type "tuple_iterator", data := .fields #[.ref l1, .int 0 0] }, gs, dr, tk, os⟩) l2 ys := Heap.IsTuple.push t2 _
  have s1 : (Str.ofString "strict" == ("strict" : Str)) = true := by decide +kernel
  have s2 : (Str.ofString "strict" != ("strict" : Str)) = false := by decide +kernel
  wp_walk using wpAny_pyIter_tuple T1, wpAny_pyIter_tuple T2
  exact ⟨_, rfl, fin⟩
open RZ (nextOf_tuple_item nextOf_tuple_end zipTH1 zipTH2 zipTH3 zipTH4)
section
variable {prog : Program} {w : World} {A : Around} {E : Value → Shared → Prop} {s : Shared}
theorem aCe {l1 l2 : Addr} {xs ys : Array Value} {Q : Value → Shared → Prop} (t1 : s.heap.IsTuple l1 xs) (t2 : s.heap.IsTuple l2 ys)
  (fin : ∀ g, sO g (s.heap.objs.size + 4) (s.heap.objs.size + 2) (s.heap.objs.size + 3) .none → IsPair g (s.heap.objs.size + 2) (.ref s.heap.objs.size) (.ref (s.heap.objs.size + 1)) → IsPair g (s.heap.objs.size + 3) .none .none →
   g.IsTupleIter s.heap.objs.size l1 0 → g.IsTupleIter (s.heap.objs.size + 1) l2 0 → (∀ c o, s.heap.get? c = some o → g.get? c = some o) → Q (.ref (s.heap.objs.size + 4)) { s with heap := g }) :
  wpAny (model prog w) A (call (.type "zip") [.ref l1, .ref l2] [(Str.ofString "strict", .bool true)]) Q E s := by
 refine callType_newKw F.called_zip (by decide) (RK _ _ _) (UJ _ _ _) (fun x => aDp x _ _ _) F.entry_zip_new (aEw l1 l2 xs ys) ⟨t1, t2, ?_⟩
 have n1 : (zipTH1 s.heap l1).objs.size = s.heap.objs.size + 1 := Heap.size_push ..
 have n2 : (zipTH2 s.heap l1 l2).objs.size = s.heap.objs.size + 2 := by rw [Heap.size_push, n1]
 have n3 : (zipTH3 s.heap l1 l2).objs.size = s.heap.objs.size + 3 := by rw [Heap.size_push, n2]
 have n4 : (zipTH4 s.heap l1 l2).objs.size = s.heap.objs.size + 4 := by rw [Heap.size_push, n3]
 have up1 : ∀ {c o}, (zipTH4 s.heap l1 l2).get? c = some o → (zsH s.heap l1 l2).get? c = some o := fun h => Heap.get?_push_of_some _ h
 have up2 : ∀ {c o}, (zipTH3 s.heap l1 l2).get? c = some o → (zsH s.heap l1 l2).get? c = some o := fun h => up1 (Heap.get?_push_of_some _ h)
 have up3 : ∀ {c o}, (zipTH2 s.heap l1 l2).get? c = some o → (zsH s.heap l1 l2).get? c = some o := fun h => up2 (Heap.get?_push_of_some _ h)
 have up4 : ∀ {c o}, (zipTH1 s.heap l1).get? c = some o → (zsH s.heap l1 l2).get? c = some o := fun h => up3 (Heap.get?_push_of_some _ h)
 have k5 : (zsH s.heap l1 l2).get? (zipTH4 s.heap l1 l2).objs.size = some _ := Heap.get?_push_size _ rfl
 have k4 : (zsH s.heap l1 l2).get? (zipTH3 s.heap l1 l2).objs.size = some _ := up1 (Heap.get?_push_size _ rfl)
 have k3 : (zsH s.heap l1 l2).get? (zipTH2 s.heap l1 l2).objs.size = some _ := up2 (Heap.get?_push_size _ rfl)
 have k2 : (zsH s.heap l1 l2).get? (zipTH1 s.heap l1).objs.size = some _ := up3 (Heap.get?_push_size _ rfl)
 have k1 : (zsH s.heap l1 l2).get? s.heap.objs.size = some _ := up4 (Heap.get?_push_size _ rfl)
 show _ ∧ _
 rw [n2, n3, n4] at k5
 rw [n1, n2] at k3
 rw [n3] at k4
 rw [n1] at k2
 rw [n4]
 exact ⟨⟨_, k5, rfl⟩, fin _ k5 k3 k4 ⟨_, k1, rfl, rfl⟩ ⟨_, k2, rfl, rfl⟩ fun c o h => up4 (Heap.get?_push_of_some _ h)⟩
theorem O9 {it l : Addr} {i : Nat} {items : Array Value} {x : Value} {Q : Option Value → Shared → Prop} (a : s.heap.IsTupleIter it l i) (b : s.heap.IsTuple l items) (c : items[i]? = some x)
  (q : ∀ g, g.IsTupleIter it l (i + 1) → Heap.SameBut it s.heap g → Q (some x) { s with heap := g }) : wpAny (model prog w) A (Builtin.SmallTypes.nextOrEnd (.ref it)) Q E s := by
 unfold Builtin.SmallTypes.nextOrEnd
 exact wpAny_bind (wpAny_attempt (nextOf_tuple_item a b c fun g g1 g2 => wpAny_pure (q g g1 g2)))
theorem WM {it l : Addr} {i : Nat} {items : Array Value} {Q : Option Value → Shared → Prop} (hh : A.handled = none) (a : s.heap.IsTupleIter it l i) (b : s.heap.IsTuple l items) (c : items[i]? = none)
  (q : ∀ g, Heap.ExtBut it s.heap g → Q none { s with heap := g }) : wpAny (model prog w) A (Builtin.SmallTypes.nextOrEnd (.ref it)) Q E s := by
 unfold Builtin.SmallTypes.nextOrEnd
 refine wpAny_bind (wpAny_attempt (nextOf_tuple_end hh a b c fun g e g1 ⟨o, g2, g3⟩ => ?_))
 refine wpAny_bind (wpAny_isInstance (T := "StopIteration") (b := true) ⟨o, g2, g3⟩ isSubtype_stop ?_)
 exact wpAny_pure (q g g1)
theorem GF {T : Addr} {a b x : Value} {k : Nat} {Q : Unit → Shared → Prop} (h : IsPair s.heap T a b) (q : ∀ g, g.get? T = some { cls := .type "tuple", data := .seq ((#[a, b] : Array Value).setIfInBounds k x) } → Heap.SameBut T s.heap g → Q () { s with heap := g }) :
  wpAny (model prog w) A (updateSeq T (·.setIfInBounds k x)) Q E s := wpAny_updateSeq_pair h q
theorem aDn {z TI TO i1 i2 l1 l2 : Addr} {k : Nat} {xs ys : Array Value} {x y a b : Value} {Q : Value → Shared → Prop} (D : ZipApart z TI TO i1 i2 l1 l2)
  (hz : sO s.heap z TI TO .none) (hI : IsPair s.heap TI (.ref i1) (.ref i2)) (hO : IsPair s.heap TO a b) (a1 : s.heap.IsTupleIter i1 l1 k) (a2 : s.heap.IsTupleIter i2 l2 k) (b1 : s.heap.IsTuple l1 xs) (b2 : s.heap.IsTuple l2 ys) (c1 : xs[k]? = some x) (c2 : ys[k]? = some y)
  (fin : ∀ g, sO g z TI TO (rawInt s.heap.objs.size) → IsPair g TO x y → g.IsTupleIter i1 l1 (k + 1) → g.IsTupleIter i2 l2 (k + 1) → IsPair g s.heap.objs.size x y → (∀ c o, c ≠ z → c ≠ TO → c ≠ i1 → c ≠ i2 → s.heap.get? c = some o → g.get? c = some o) → Q (.ref s.heap.objs.size) { s with heap := g }) :
  wpAny (model prog w) A (Builtin.«zip.__next__» ⟨[.ref z], []⟩) (fun f t => ∃ v, f = .done (.ret v) ∧ Q v t) E s := by
 show wpAny _ _ (field (.ref z) 2 >>= _) _ _ _
 refine wpAny_bind (wpAny_field hz rfl (x := .bool true) rfl ?_)
 show wpAny _ _ (field (.ref z) 3 >>= _) _ _ _
 refine wpAny_bind (wpAny_field hz rfl (x := .ref TI) rfl ?_)
 refine wpAny_bind (wpAny_seqItems hI rfl ?_)
 show wpAny _ _ (Builtin.SmallTypes.ownedTupleIsFree (.ref z) >>= _) _ _ _
 refine wpAny_bind ?_
 unfold Builtin.SmallTypes.ownedTupleIsFree
 refine wpAny_bind (wpAny_field hz rfl (x := .none) rfl (wpAny_pure ?_))
 simp only [ae]
 refine wpAny_bind (wpAny_rule ?_)
 refine wpAny_bind (wpAny_field hz rfl (x := .ref TO) rfl ?_)
 refine wpAny_bind (wpAny_setField_rec hz (by simp) fun g1 z1 s1 => ?_)
 have z1' : sO g1 z TI TO .ellipsis := z1
 refine wpAny_bind ?_
 simp only [List.zipIdx_cons, List.zipIdx_nil, List.forIn_cons, List.forIn_nil]
 refine wpAny_bind (wpAny_bind (wpAny_onRaise ?_))
 show wpAny _ _ (Builtin.SmallTypes.nextOrEnd (.ref i1)) _ _ _
 refine O9 (a1.extBut s1.extBut D.i1z) (b1.extBut s1.extBut D.l1z) c1 fun g2 d1 s2 => ?_
 have O2 : IsPair g2 TO a b := s2.extBut _ _ D.TOi1 (s1.extBut _ _ D.TOz hO)
 refine wpAny_bind (wpAny_seqItems O2 rfl ?_)
 refine wpAny_bind (GF O2 fun g3 O3 s3 => ?_)
 have O3' : IsPair g3 TO x b := O3
 refine wpAny_bind (wpAny_letGo (wpAny_pure ?_))
 refine wpAny_bind (wpAny_bind (wpAny_onRaise ?_))
 show wpAny _ _ (Builtin.SmallTypes.nextOrEnd (.ref i2)) _ _ _
 refine O9 (((a2.extBut s1.extBut D.i2z).extBut s2.extBut D.i12.symm).extBut s3.extBut D.TOi2.symm) (((b2.extBut s1.extBut D.l2z).extBut s2.extBut D.l2i1).extBut s3.extBut D.l2TO) c2 fun g4 d2 s4 => ?_
 have O4 : IsPair g4 TO x b := s4.extBut _ _ D.TOi2 O3'
 refine wpAny_bind (wpAny_seqItems O4 rfl ?_)
 refine wpAny_bind (GF O4 fun g5 O5 s5 => ?_)
 have O5' : IsPair g5 TO x y := O5
 refine wpAny_bind (wpAny_letGo (wpAny_pure (wpAny_pure ?_)))
 refine wpAny_bind (wpAny_seqItems O5' rfl ?_)
 refine wpAny_bind (wpAny_newTuple ?_)
 have size5 : g5.objs.size = s.heap.objs.size := by rw [s5.1, s4.1, s3.1, s2.1, s1.1]
 have z5 : sO g5 z TI TO .ellipsis := s5.extBut _ _ D.TOz.symm (s4.extBut _ _ D.i2z.symm (s3.extBut _ _ D.TOz.symm (s2.extBut _ _ D.i1z.symm z1')))
 have kp : ∀ c o, c ≠ z → c ≠ TO → c ≠ i1 → c ≠ i2 → s.heap.get? c = some o → g5.get? c = some o := fun c o n1 n2 n3 n4 e =>
  s5.extBut _ _ n2 (s4.extBut _ _ n4 (s3.extBut _ _ n2 (s2.extBut _ _ n3 (s1.extBut _ _ n1 e))))
 have d1' : g5.IsTupleIter i1 l1 (k + 1) := ((d1.extBut s3.extBut D.TOi1.symm).extBut s4.extBut D.i12).extBut s5.extBut D.TOi1.symm
 have d2' : g5.IsTupleIter i2 l2 (k + 1) := d2.extBut s5.extBut D.TOi2.symm
 have zl : z < g5.objs.size := Heap.lt_size z5
 show wpAny _ _ (Builtin.SmallTypes.ownedTupleHandOut (.ref z) (.ref g5.objs.size) >>= _) _ _ _
 refine wpAny_bind ?_
 unfold Builtin.SmallTypes.ownedTupleHandOut
 have z6 : sO (g5.push { cls := .type "tuple", data := .seq #[x, y] }) z TI TO .ellipsis := Heap.get?_push_of_some _ z5
 refine wpAny_bind (wpAny_setField_rec z6 (by simp) fun g7 z7 s7 => ?_)
 have z7' : sO g7 z TI TO (rawInt g5.objs.size) := z7
 refine wpAny_setField_rec z7' (by simp) fun g8 z8 s8 => ?_
 have z8' : sO g8 z TI TO (rawInt g5.objs.size) := z8
 have up : ∀ c o, c ≠ z → g5.get? c = some o → g8.get? c = some o := fun c o n e => s8.extBut _ _ n (s7.extBut _ _ n (Heap.get?_push_of_some _ e))
 have T8 : IsPair g8 g5.objs.size x y := s8.extBut _ _ (Nat.ne_of_gt zl) (s7.extBut _ _ (Nat.ne_of_gt zl) (Heap.get?_push_size _ rfl))
 rw [size5] at z8' T8
 refine wpAny_pure ⟨_, rfl, ?_⟩
 show Q (.ref g5.objs.size) _
 rw [size5]
 exact fin g8 z8' (up _ _ D.TOz O5') (d1'.at fun o e => up _ o D.i1z e) (d2'.at fun o e => up _ o D.i2z e) T8 fun c o n1 n2 n3 n4 e => up c o n1 (kp c o n1 n2 n3 n4 e)
theorem aEO {z TI TO i1 i2 l1 l2 : Addr} {k : Nat} {xs ys : Array Value} {a b : Value} {Q : Fin → Shared → Prop} (hh : A.handled = none) (D : ZipApart z TI TO i1 i2 l1 l2)
  (hz : sO s.heap z TI TO .none) (hI : IsPair s.heap TI (.ref i1) (.ref i2)) (hO : IsPair s.heap TO a b) (a1 : s.heap.IsTupleIter i1 l1 k) (a2 : s.heap.IsTupleIter i2 l2 k) (b1 : s.heap.IsTuple l1 xs) (b2 : s.heap.IsTuple l2 ys) (c1 : xs[k]? = none) (c2 : ys[k]? = none)
  (fin : ∀ g e, (∀ c o, c ≠ z → c ≠ TO → c ≠ i1 → c ≠ i2 → s.heap.get? c = some o → g.get? c = some o) → (∃ o, g.get? e = some o ∧ o.cls = .type "StopIteration") → E (.ref e) { s with heap := g }) :
  wpAny (model prog w) A (Builtin.«zip.__next__» ⟨[.ref z], []⟩) Q E s := by
 show wpAny _ _ (field (.ref z) 2 >>= _) _ _ _
 refine wpAny_bind (wpAny_field hz rfl (x := .bool true) rfl ?_)
 show wpAny _ _ (field (.ref z) 3 >>= _) _ _ _
 refine wpAny_bind (wpAny_field hz rfl (x := .ref TI) rfl ?_)
 refine wpAny_bind (wpAny_seqItems hI rfl ?_)
 show wpAny _ _ (Builtin.SmallTypes.ownedTupleIsFree (.ref z) >>= _) _ _ _
 refine wpAny_bind ?_
 unfold Builtin.SmallTypes.ownedTupleIsFree
 refine wpAny_bind (wpAny_field hz rfl (x := .none) rfl (wpAny_pure ?_))
 simp only [ae]
 refine wpAny_bind (wpAny_rule ?_)
 refine wpAny_bind (wpAny_field hz rfl (x := .ref TO) rfl ?_)
 refine wpAny_bind (wpAny_setField_rec hz (by simp) fun g1 z1 s1 => ?_)
 have z1' : sO g1 z TI TO .ellipsis := z1
 refine wpAny_bind ?_
 simp only [List.zipIdx_cons, List.zipIdx_nil, List.forIn_cons, List.forIn_nil]
 refine wpAny_bind (wpAny_bind (wpAny_onRaise ?_))
 show wpAny _ _ (Builtin.SmallTypes.nextOrEnd (.ref i1)) _ _ _
 refine WM hh (a1.extBut s1.extBut D.i1z) (b1.extBut s1.extBut D.l1z) c1 fun g2 s2 => ?_
 have z2 : sO g2 z TI TO .ellipsis := s2 _ _ D.i1z.symm z1'
 refine wpAny_bind (wpAny_setField_rec z2 (by simp) fun g3 _ s3 => ?_)
 refine wpAny_bind (wpAny_bind ?_)
 show wpAny _ _ (forIn ((List.drop 1 [Value.ref i1, Value.ref i2]).zipIdx 1) PUnit.unit _) _ _ _
 simp only [List.drop_succ_cons, List.drop_zero, List.zipIdx_cons, List.zipIdx_nil, List.forIn_cons, List.forIn_nil]
 refine wpAny_bind (wpAny_bind (WM hh (((a2.extBut s1.extBut D.i2z).extBut s2 D.i12.symm).extBut s3.extBut D.i2z) (((b2.extBut s1.extBut D.l2z).extBut s2 D.l2i1).extBut s3.extBut D.l2z) c2 fun g4 s4 => ?_))
 show wpAny _ _ (pure (ForInStep.yield PUnit.unit)) _ _ _
 refine wpAny_pure ?_
 refine wpAny_pure ?_
 refine wpAny_bind (wpAny_rule ?_)
 unfold Builtin.SmallTypes.stopIteration
 refine wpAny_bind ?_
 simp only [newExc, newTuple]
 refine wpAny_bind (wpAny_newObj_type ?_ (by size_fits))
 refine wpAny_bind (m := firstArgMember _ _) (wpAny_of_eq (a := Value.none) (by first | rfl | (simp only [firstArgMember]; rfl)) ?_)
 refine wpAny_newObj_type ?_ (by size_fits)
 simp only [raiseNew]
 refine wpAny_bind (wpAny_handled ?_)
 rw [hh]
 refine wpAny_bind (wpAny_pure (wpAny_throw ?_))
 refine fin _ _ (fun c o n1 _ n3 n4 e => ?_) ⟨_, Heap.get?_push_size _ rfl, rfl⟩
 exact Heap.get?_push_of_some _ (Heap.get?_push_of_some _ (s4 _ _ n4 (s3.extBut _ _ n1 (s2 _ _ n3 (s1.extBut _ _ n1 e)))))
theorem RM {z TI TO i1 i2 l1 l2 : Addr} {k : Nat} {xs ys : Array Value} {x y a b : Value} {Q : Option Value → Shared → Prop} (D : ZipApart z TI TO i1 i2 l1 l2)
  (hz : sO s.heap z TI TO .none) (hI : IsPair s.heap TI (.ref i1) (.ref i2)) (hO : IsPair s.heap TO a b) (a1 : s.heap.IsTupleIter i1 l1 k) (a2 : s.heap.IsTupleIter i2 l2 k) (b1 : s.heap.IsTuple l1 xs) (b2 : s.heap.IsTuple l2 ys) (c1 : xs[k]? = some x) (c2 : ys[k]? = some y)
  (fin : ∀ g, sO g z TI TO (rawInt s.heap.objs.size) → IsPair g TO x y → g.IsTupleIter i1 l1 (k + 1) → g.IsTupleIter i2 l2 (k + 1) → IsPair g s.heap.objs.size x y → (∀ c o, c ≠ z → c ≠ TO → c ≠ i1 → c ≠ i2 → s.heap.get? c = some o → g.get? c = some o) → Q (some (.ref s.heap.objs.size)) { s with heap := g }) :
  wpAny (model prog w) A (pyNext (.ref z)) Q E s := by
 have ty : s.TypeIs (.ref z) "zip" := ⟨_, hz, rfl⟩
 unfold pyNext
 exact wpAny_bind (wpAny_attempt (wpAny_callSpecial?_slot (name := Str.ofString "__next__") ty F.slot_zip_next (wpAny_call_entry F.slot_zip_next ty F.entry_zip_next (aDn D hz hI hO a1 a2 b1 b2 c1 c2 fun g e1 e2 e3 e4 e5 e6 => wpAny_pure (fin g e1 e2 e3 e4 e5 e6)) (F.args_zip_next_1 _))))
theorem TR {z TI TO i1 i2 l1 l2 : Addr} {k : Nat} {xs ys : Array Value} {a b : Value} {Q : Option Value → Shared → Prop} (hh : A.handled = none) (D : ZipApart z TI TO i1 i2 l1 l2)
  (hz : sO s.heap z TI TO .none) (hI : IsPair s.heap TI (.ref i1) (.ref i2)) (hO : IsPair s.heap TO a b) (a1 : s.heap.IsTupleIter i1 l1 k) (a2 : s.heap.IsTupleIter i2 l2 k) (b1 : s.heap.IsTuple l1 xs) (b2 : s.heap.IsTuple l2 ys) (c1 : xs[k]? = none) (c2 : ys[k]? = none)
  (fin : ∀ g, (∀ c o, c ≠ z → c ≠ TO → c ≠ i1 → c ≠ i2 → s.heap.get? c = some o → g.get? c = some o) → Q none { s with heap := g }) : wpAny (model prog w) A (pyNext (.ref z)) Q E s := by
 have ty : s.TypeIs (.ref z) "zip" := ⟨_, hz, rfl⟩
 unfold pyNext
 refine wpAny_bind (wpAny_attempt (wpAny_callSpecial?_slot (name := Str.ofString "__next__") ty F.slot_zip_next (wpAny_call_entry F.slot_zip_next ty F.entry_zip_next (aEO hh D hz hI hO a1 a2 b1 b2 c1 c2 fun g e kp he => ?_) (F.args_zip_next_1 _))))
 obtain ⟨o, h1, h2⟩ := he
 refine wpAny_bind (wpAny_isInstance (T := "StopIteration") (b := true) ⟨o, h1, h2⟩ isSubtype_stop ?_)
 exact wpAny_pure (fin _ kp)
theorem VR {z TI TO : Addr} {f0 : Value} {Q : Value → Shared → Prop} (hz : sO s.heap z TI TO f0) (h : Q (.ref z) s) : wpAny (model prog w) A (pyIter (.ref z)) Q E s := by
 have ty : s.TypeIs (.ref z) "zip" := ⟨_, hz, rfl⟩
 refine wpAny_pyIter_slot ty F.slot_zip_iter (wpAny_call_entry F.slot_zip_iter ty F.entry_zip_iter ?_ (F.args_zip_iter_1 _))
 show wpAny _ _ (ret (.ref z)) _ _ s
 exact wpAny_pure ⟨_, rfl, "zip", _, ty, F.slot_zip_next.lookup, h⟩
theorem aBk {elts : List Expr} {x1 : Nat} {pos : Pos} {z TI TO T : Addr} {Q : Unit → Shared → Prop} (hz : sO s.heap z TI TO (rawInt T))
  (fin : ∀ g, sO g z TI TO .none → Heap.SameBut z s.heap g → Q () { s with heap := g }) : wpAny (model prog w) A (letOwnedTupleGo (.Tuple elts x1 pos) (.ref z) (.ref T)) Q E s := by
 unfold letOwnedTupleGo
 refine wpAny_bind (wpAny_load hz ?_)
 show wpAny _ _ (if (["enumerate", "zip", "dict_itemiterator", "dict_reverseitemiterator", "odict_iterator", "itertools.zip_longest", "itertools.pairwise"].contains "zip" &&
   (#[rawInt T, .bool false, .bool true, .ref TI, .ref TO] : Array Value)[0]? == some (rawInt T)) = true then _ else _) Q E s
 rw [if_pos (by simp)]
 refine wpAny_bind (wpAny_rule ?_)
 show wpAny _ _ (setField (.ref z) 0 .none) Q E s
 exact wpAny_setField_rec hz (by simp) fun g h1 h2 => fin g h1 h2
end
def aG8 (K : PySem.W.Frag) (a b : Addr) : It :=
 ⟨fun i H => ∃ (xs ys : List V) (x y : V), SqT K H a xs ∧ SqT K H b ys ∧ xs[i]? = some x ∧ ys[i]? = some y,
  fun i H v H' => ∃ T x y, v = .ref T ∧ H T = none ∧ H' = upd H T (.tup [x, y]) ∧ (∀ xs, SqT K H a xs → xs[i]? = some x) ∧ ∀ ys, SqT K H b ys → ys[i]? = some y,
  fun i H => ∃ xs ys : List V, SqT K H a xs ∧ SqT K H b ys ∧ xs.length ≤ i ∧ ys.length ≤ i⟩
theorem aCA {P : Program} {w : World} {K : PySem.W.Frag} {elts : List Expr} {kk : Nat} {tpos : Pos} {a b z TI TO i1 i2 : Addr} (D : ZipApart z TI TO i1 i2 a b) :
  Turn P w K (.Tuple elts kk tpos) (aG8 K a b) [z, TI, TO, i1, i2] z (fun i h => sO h z TI TO .none ∧ IsPair h TI (.ref i1) (.ref i2) ∧ (∃ x y, IsPair h TO x y) ∧ h.IsTupleIter i1 a i ∧ h.IsTupleIter i2 b i) where
 mem := by simp
 obj := fun i h st c hc => by
  obtain ⟨f1, f2, ⟨x, y, f3⟩, ⟨o1, e1, _, d1⟩, ⟨o2, e2, _, d2⟩⟩ := st
  have cs : c = z ∨ c = TI ∨ c = TO ∨ c = i1 ∨ c = i2 := by simpa using hc
  rcases cs with rfl | rfl | rfl | rfl | rfl
  ·exact ⟨_, f1, fun v q => nomatch q⟩
  ·exact ⟨_, f2, fun v q => nomatch q⟩
  ·exact ⟨_, f3, fun v q => nomatch q⟩
  ·exact ⟨o1, e1, fun v q => by rw [d1] at q; cases q⟩
  ·exact ⟨o2, e2, fun v q => by rw [d2] at q; cases q⟩
 keep := fun i h h' st k => by
  obtain ⟨f1, f2, ⟨x, y, f3⟩, f4, f5⟩ := st
  exact ⟨k z (by simp) _ f1, k TI (by simp) _ f2, ⟨x, y, k TO (by simp) _ f3⟩, f4.at fun o q => k i1 (by simp) o q, f5.at fun o q => k i2 (by simp) o q⟩
 item := by
  intro X hP hw hK hc i pins s σ H E I fp st go
  subst hP hw hK
  obtain ⟨f1, f2, ⟨x0, y0, f3⟩, f4, f5⟩ := st
  obtain ⟨xs, ys, x, y, qx, qy, gx, gy⟩ := go
  obtain ⟨us, rv, p, _⟩ := I.tuple qx
  obtain ⟨us2, rv2, p2, _⟩ := I.tuple qy
  obtain ⟨u, hu, ru⟩ := rv.get gx
  obtain ⟨u2, hu2, ru2⟩ := rv2.get gy
  have zl : z < s.heap.objs.size := Heap.lt_size f1
  refine RM D f1 f2 f3 f4 f5 p p2 (x := u) (y := u2) (by simpa using hu) (by simpa using hu2) fun g z' TO' h1' h2' hT hk => ?_
  refine ⟨_, rfl, aBk (s := { s with heap := g }) z' fun g2 z'' sb => ?_⟩
  have hT2 : g2.get? s.heap.objs.size = some { cls := .type "tuple", data := .seq #[u, u2] } := (sb.2 _ (Nat.ne_of_gt zl)).trans hT
  have new : ObjOk X.prog X.w (upd H s.heap.objs.size (.tup [x, y])) g2 s.heap.objs.size (.tup [x, y]) := ⟨by show 2 ≤ sizeLine; decide, [u, u2], .cons ru (.cons ru2 .nil), ⟨_, hT2, rfl, _, rfl⟩⟩
  have I1 : Inv X pins σ (upd H s.heap.objs.size (.tup [x, y])) { s with heap := g2 } :=
   I.turnedNew (t' := s.toks) (ch := [z, TI, TO, i1, i2]) (fun c o hb q => by
    simp only [bh, bw, dc, not_or] at hb
    exact (sb.2 c hb.1).trans (hk c o hb.1 hb.2.2.1 hb.2.2.2.1 hb.2.2.2.2 q)) fp (bx _) new
  refine ⟨.ref s.heap.objs.size, _, I1, rfl, ⟨_, x, y, rfl, I.hok.fresh (bx _), rfl, fun l hl => by rw [I.tuple_inj hl qx]; exact gx, fun l hl => by rw [I.tuple_inj hl qy]; exact gy⟩, ⟨z'', ?_, ⟨u, u2, ?_⟩, ?_, ?_⟩, fun c hcm => ?_⟩
  ·exact (sb.2 _ D.TIz).trans (hk _ _ D.TIz D.TITO D.TIi1 D.TIi2 f2)
  ·exact (sb.2 _ D.TOz).trans TO'
  ·exact h1'.at fun o q => (sb.2 _ D.i1z).trans q
  ·exact h2'.at fun o q => (sb.2 _ D.i2z).trans q
  ·have hlt : c < s.heap.objs.size := by
    have cs : c = z ∨ c = TI ∨ c = TO ∨ c = i1 ∨ c = i2 := by simpa using hcm
    rcases cs with rfl | rfl | rfl | rfl | rfl
    ·exact zl
    ·exact Heap.lt_size f2
    ·exact Heap.lt_size f3
    ·obtain ⟨_, e1, _⟩ := f4; exact Heap.lt_size e1
    ·obtain ⟨_, e2, _⟩ := f5; exact Heap.lt_size e2
   rw [upd_ne (Nat.ne_of_lt hlt)]
   exact (fp c hcm).1
 done := by
  intro X hP hw hK hc i pins s σ H E I fp st go
  subst hP hw hK
  obtain ⟨f1, f2, ⟨x0, y0, f3⟩, f4, f5⟩ := st
  obtain ⟨xs, ys, qx, qy, e1, e2⟩ := go
  obtain ⟨us, rv, p, _⟩ := I.tuple qx
  obtain ⟨us2, rv2, p2, _⟩ := I.tuple qy
  have l1 := rv.length
  have l2 := rv2.length
  refine TR (I.ok.hd hc) D f1 f2 f3 f4 f5 p p2 (by simp; omega) (by simp; omega) fun g hk => ⟨rfl, I.turnedL (t' := s.toks) (ch := [z, TI, TO, i1, i2]) (fun c o hb q => ?_) fp⟩
  simp only [bh, bw, dc, not_or] at hb
  exact hk c o hb.1 hb.2.2.1 hb.2.2.2.1 hb.2.2.2.2 q
 self := fun A i s Q E st h => VR st.1 h
section
variable {M : Model} {A : Around} {E : Value → Shared → Prop} {s : Shared} {env : Env}
theorem HY {pos : Pos} {T : String} {first : List Value} {args : List (Bool × Sem Value)} {kws : List (Option Str × Sem Value)} {Q : Value → Shared → Prop} (p1 : args.any (·.1) = false) (p2 : kws.any (·.1.isNone) = false)
  (h : wpAny M A (evalArgs (.type T) true args kws) (fun a t => wpAny M A (call (.type T) (first ++ a.pos) a.kw) Q E t) E s) : wpAny M A (callWith pos (.type T) first args kws) Q E s := by
 unfold callWith
 refine wpAny_bind (wpAny_holding (wpAny_mono h (fun a t g => wpAny_bind (wpAny_standAt ?_)) fun _ _ z => z))
 simp only [p1, p2, Bool.or_false]
 refine wpAny_bind (wpAny_pure ?_)
 exact wpAny_bind (wpAny_mono g (fun r t2 hr => wpAny_bind (wpAny_holding (wpAny_point (wpAny_pure hr)))) fun _ _ z => z)
end
section
variable {X : Cx} {e e2 : Expr} {ta : TA} {p pos tpos cp kp : Pos} {elts : List Expr} {kk k : Nat}
def iZs (K : PySem.W.Frag) (ta : TA) : TI := fun σ H R => ta σ H fun vs H1 => ∃ a b xs ys, vs = [V.ref a, V.ref b] ∧ SqT K H1 a xs ∧ SqT K H1 b ys ∧ R (aG8 K a b) H1
theorem aHU (hg : Gl X "zip") (hm : X.mg "zip" = none) (ha : PA X [e, e2] ta) (hs : starEach [e, e2] X.env = (false, eval e X.env) :: starEach [e2] X.env := by rfl) (hpl : (backTo pos (starEach [e, e2] X.env)).any (·.1) = false := by rfl)
  (hk1 : (backToKw pos (keywordEach [⟨some "strict", .Constant (.bool true) k cp, kp⟩] X.env)).any (·.1.isNone) = false := by rfl) (hk2 : (backToKw pos (keywordEach [⟨some "strict", .Constant (.bool true) k cp, kp⟩] X.env)).all (·.1.isSome) = true := by rfl)
  (hk3 : (backToKw pos (keywordEach [⟨some "strict", .Constant (.bool true) k cp, kp⟩] X.env)).filterMap (·.1) = [Str.ofString "strict"] := by rfl) :
  PI X (.Tuple elts kk tpos) (.Call (.Name "zip" p) [e, e2] [⟨some "strict", .Constant (.bool true) k cp, kp⟩] pos) (iZs X.K ta) := by
 refine ⟨fun pins s σ H R I h => ?_⟩
 refine wpAny_Call_Name_kw (ld_blt I hg hm PyProof.Rows.boot_zip (HY hpl hk1 ?_))
 have hA := ha.run pos pins s σ H _ I h
 rw [hs] at hA ⊢
 refine evalArgs_kwB hk2 (thn hA fun us s1 ⟨vs, H1, I1, r1, a, b, xs, ys, ex, qx, qy, q⟩ => ?_)
 subst ex
 rw [hk3]
 refine thn ((pk_cons (nm := some "strict") (kpos := kp) (pe_bl (b := true) (j := k) (pos := cp)) pk_nil).run pos pins s1 σ H1 (fun zs H2 => zs = [V.bl true] ∧ H2 = H1) I1 ⟨rfl, rfl⟩) fun ws s2 ⟨zs, H2, I2, rz, ez, eH⟩ => ?_
 subst ez eH
 obtain ⟨w1, rfl, rw1⟩ := rz.one
 cases rw1
 obtain ⟨u1, u2, rfl, ra, rb⟩ := r1.two
 cases ra
 cases rb
 obtain ⟨us1, rv, p1, _⟩ := I2.tuple qx
 obtain ⟨us2, rv2, p2, _⟩ := I2.tuple qy
 obtain ⟨o1, ho1, _⟩ := id p1
 obtain ⟨o2, ho2, _⟩ := id p2
 refine aCe (show s2.heap.IsTuple a us1.toArray from p1) (show s2.heap.IsTuple b us2.toArray from p2) fun g hz hI hO h1 h2 hk => VR hz ?_
 have I3 : Inv X pins σ H2 { s2 with heap := g } := I2.kept (t' := s2.toks) hk
 refine ⟨s2.heap.objs.size + 4, [s2.heap.objs.size + 4, s2.heap.objs.size + 2, s2.heap.objs.size + 3, s2.heap.objs.size, s2.heap.objs.size + 1], _, _, H2, rfl, I3, aCA (PySem.W.ktu_apart s2.heap.objs.size a b (Heap.lt_size ho1) (Heap.lt_size ho2)), ⟨hz, hI, ⟨_, _, hO⟩, h1, h2⟩, fun c hc => ?_, q⟩
 have le : s2.heap.objs.size ≤ c := by
  simp only [bh, bw, dc] at hc
  rcases hc with rfl | rfl | rfl | rfl | rfl <;> omega
 exact I2.fpOk le (I2.hok.fresh le)
end
def zsM (ds : List D) (w : W) : Res l9 := match ds with
 | [x, y] => (match zL x, zL y with
  | some xs, some ys => if xs.length = ys.length then .ok ⟨(xs.zip ys).map fun p => .tup [p.1, p.2], always⟩ w else .bad
  | _, _ => .bad)
 | _ => .bad
theorem QI {K : PySem.W.Frag} {I : List Addr} {F : Hp} {d : D} {v : V} {xs : List D} (h : aH K I F d v) (e : zL d = some xs) : ∃ a vs, v = .ref a ∧ SqT K F a vs ∧ RepL K I F xs vs := by
 cases d <;> simp only [zL, aj, reduceCtorEq] at e <;> simp only [aH] at h
 case tup => subst e; obtain ⟨a, vs, h0, h1, h2⟩ := h; exact ⟨a, vs, h0, .of h1, h2⟩
 case lY => subst e; obtain ⟨a, vs, h0, h1, h2⟩ := h; exact ⟨a, vs, h0, h1, h2⟩
theorem aGD {S : aR} {e e2 : Expr} {ma : MA} {p pos tpos cp kp : Pos} {elts : List Expr} {kk k : Nat} (hg : S.sc.names.lookup ("zip" : Str) = some .globalImplicit) (hm : S.mg "zip" = none) (ha : JA S [e, e2] ma)
  (hs : ∀ env : Env, starEach [e, e2] env = (false, eval e env) :: starEach [e2] env := by intro _; rfl) (hpl : ∀ env : Env, (backTo pos (starEach [e, e2] env)).any (·.1) = false := by intro _; rfl) :
  JI S (.Tuple elts kk tpos) (.Call (.Name "zip" p) [e, e2] [⟨some "strict", .Constant (.bool true) k cp, kp⟩] pos) (eZ zsM ma) := fun X E cx xo =>
 zC (aHU (by show X.env.scope.names.lookup _ = _; rw [cx.sc]; exact hg) (by rw [cx.mg]; exact hm) (ha X E cx xo) (hs X.env) (hpl X.env)) fun σ H R ⟨I, F, G, ds, w, rel, rs, p⟩ => fD (f := fun _ => zsM) rel rs p fun I1 F1 H1 xs w1 vs e1 rel1 rs1 rv p1 => by
  unfold zsM at p1
  split at p1
  ·rename_i x y
   obtain ⟨v, u, rfl, rx, ry⟩ := rv.two
   split at p1
   ·rename_i xs ys hx hy
    split at p1
    ·rename_i hl
     obtain ⟨a, us, rfl, q1, q2⟩ := QI rx hx
     obtain ⟨b, ts, rfl, q3, q4⟩ := QI ry hy
     refine ⟨a, b, us, ts, rfl, rel1.RS q1, rel1.RS q3, p1 I1 F1 H1 .refl rel1 trivial _ fun I' F' G' w' H' j e' rel' _ => ?_⟩
     have t1 := rel'.RS (DF e' q1)
     have t2 := rel'.RS (DF e' q3)
     have r1 := RepL.ext e' _ _ q2
     have r2 := RepL.ext e' _ _ q4
     have l1 : xs.length = us.length := r1.length
     have l2 : ys.length = ts.length := r2.length
     refine ⟨fun x hx => ?_, fun hj => ⟨us, ts, t1, t2, ?_, ?_⟩⟩
     ·rw [cu] at hx
      cases hz : (xs.zip ys)[j]? with
      | none => rw [hz] at hx; cases hx
      | some pr =>
       rw [hz] at hx
       cases hx
       obtain ⟨pa, pb⟩ := pr
       rw [List.getElem?_zip_eq_some] at hz
       obtain ⟨v1, g1, g2⟩ := r1.get hz.1
       obtain ⟨v2, g3, g4⟩ := r2.get hz.2
       refine ⟨⟨us, ts, v1, v2, t1, t2, g1, g3⟩, fun v H'' y => ?_⟩
       obtain ⟨T, x', y', rfl, k1, rfl, k2, k3⟩ := y
       have z1 := k2 us t1
       have z2 := k3 ts t2
       rw [g1] at z1
       rw [g3] at z2
       cases z1
       cases z2
       exact JJ rel' (RepL.cons g2 (RepL.cons g4 (by simp [RepL]))) k1
     ·simp only [cg, List.length_zip] at hj; omega
     ·simp only [cg, List.length_zip] at hj; omega
    ·exact p1.elim
   ·exact p1.elim
  ·exact p1.elim
def VJ : D → Value → Bool
 | .non, .none => true
 | .bl b, .bool c => b == c
 | .int i, .int j _ => decide (i = j)
 | .str x, .str y _ => decide (x = y)
 | _, _ => false
def BY : D → V
 | .bl b => .bl b
 | .int i => .int i
 | .str x => .str x
 | _ => .non
theorem RR {d : D} {u : Value} (h : VJ d u = true) : RelV (BY d) u ∧ ∀ K I F, aH K I F d (BY d) := by
 cases d <;> cases u <;> simp only [VJ, bg, beq_iff_eq, ak] at h
 ·exact ⟨rfl, fun _ _ _ => by simp [aH, BY]⟩
 ·subst h; exact ⟨rfl, fun _ _ _ => by simp [aH, BY]⟩
 ·subst h; exact ⟨⟨_, rfl⟩, fun _ _ _ => by simp [aH, BY]⟩
 ·subst h; exact ⟨⟨_, rfl⟩, fun _ _ _ => by simp [aH, BY]⟩
def A8 : List D → List Value → Bool
 | [], [] => true
 | d :: ds, u :: us => VJ d u && A8 ds us
 | _, _ => false
theorem IZ : ∀ {ds : List D} {us : List Value}, A8 ds us = true → Vals (ds.map BY) us ∧ ∀ K I F, RepL K I F ds (ds.map BY)
 | [], [], _ => ⟨.nil, fun _ _ _ => by simp [RepL]⟩
 | d :: ds, u :: us, h => by
  simp only [A8, ao] at h
  obtain ⟨h1, h2⟩ := RR h.1
  obtain ⟨h3, h4⟩ := IZ h.2
  exact ⟨.cons h1 h3, fun K I F => RepL.cons (h2 K I F) (h4 K I F)⟩
 | [], _ :: _, h => by simp [A8] at h
 | _ :: _, [], h => by simp [A8] at h
def KZ (K : PySem.W.Frag) (d : D) (u : Value) : Bool := match d, u with
 | .lY ds, .ref a => (match K.lookup a with
  | some ⟨.type c, _, .seq its _, _⟩ => decide (c = "tuple") && (decide (its.size ≤ sizeLine) && A8 ds its.toList)
  | _ => false)
 | .con a, .ref b => decide (a = b)
 | d, u => VJ d u
theorem II {K : PySem.W.Frag} {d : D} {u : Value} (h : KZ K d u = true) : ∃ v, RelV v u ∧ ∀ I F, aH K I F d v := by
 unfold KZ at h
 split at h
 ·rename_i ds a
  split at h
  ·rename_i c od its n sl hl
   simp only [ao, ak] at h
   obtain ⟨rfl, h2, h3⟩ := h
   obtain ⟨h4, h5⟩ := IZ h3
   refine ⟨.ref a, rfl, fun I F => ?_⟩
   simp only [aH]
   exact ⟨a, _, rfl, .inr ⟨_, its, n, hl, rfl, rfl, h2, h4⟩, h5 K I F⟩
  ·cases h
 ·rename_i a b
  simp only [ak] at h
  subst h
  exact ⟨.ref a, rfl, fun I F => by simp [aH]⟩
 ·obtain ⟨h1, h2⟩ := RR h
  exact ⟨_, h1, h2 K⟩
def NV (S : aR) (x : Str) (d : D) : Prop := ∃ v u, S.mg x = some u ∧ RelV v u ∧ ∀ I F, aH S.K I F d v
theorem CN {S : aR} {x : Str} {d : D} {pos : Pos} (G : NV S x d) (hg : S.sc.names.lookup x = some .globalImplicit := by rfl) (hd : (x == ("__debug__" : Str)) = false := by decide) : JE S (.Name x pos) (eC d) := by
 obtain ⟨v, u, h1, h2, h3⟩ := G
 exact aDA hg h1 h2 h3 hd
def NZ (K : PySem.W.Frag) (x : Str) (d : D) : Bool := match PySem.W.nsIn K mainGlobals x with
 | some (some u) => KZ K d u
 | _ => false
theorem vJ {S : aR} {h : Heap} {x : Str} {d : D} (kin : S.K.In h) (ns : h.Ns mainGlobals S.mg) (c : NZ S.K x d = true) : NV S x d := by
 unfold NZ at c
 split at c
 ·rename_i u hu
  obtain ⟨v, h1, h2⟩ := II c
  exact ⟨v, u, PySem.W.mg_of kin ns hu, h1, h2⟩
 ·cases c
def ZG (K : PySem.W.Frag) (a : Addr) (tab : List (Str × Option D)) : Bool := match K.lookup a with
 | some ⟨_, _, .dict es _, _⟩ => es.toList.all fun e => !e.refKey && tab.any fun p => e.key.isStr p.1
 | _ => false
def aAY (K : PySem.W.Frag) (a : Addr) (tab : List (Str × Option D)) : Bool := ZG K a tab && tab.all fun p => match p.2 with
 | some d => (match PySem.W.nsIn K a p.1 with
  | some (some u) => KZ K d u
  | _ => false)
 | none => He.eqO (PySem.W.nsIn K a p.1) (some none)
theorem WU {v : Value} {x y : Str} (h1 : v.isStr x = true) (h2 : v.isStr y = true) : x = y := by
 cases v <;> simp only [Value.isStr, bg] at h1 h2
 simp only [beq_iff_eq] at h1 h2
 rw [← h1, ← h2]
theorem aAu {K : PySem.W.Frag} {a : Addr} {tab : List (Str × Option D)} (h : ZG K a tab = true) (z : Str) (hz : tab.lookup z = none) : PySem.W.nsIn K a z = some none := by
 unfold ZG at h
 unfold PySem.W.nsIn
 split at h
 ·rename_i c od es n sl hl
  simp only [hl]
  rw [au] at h
  have no : ∀ p ∈ tab, p.1 ≠ z := fun p hp e => by
   rw [List.lookup_eq_none_iff] at hz
   have := hz p hp
   rw [e] at this
   simp at this
  have h1 : es.toList.find? (·.key.isStr z) = none := by
   rw [List.find?_eq_none]
   intro e he q
   have := h e he
   simp only [ao, List.any_eq_true] at this
   obtain ⟨_, p, hp, hk⟩ := this
   exact no p hp (WU hk q)
  have h2 : es.toList.any (·.refKey) = false := by
   rw [List.any_eq_false]
   intro e he
   have := h e he
   simp only [ao, Bool.not_eq_true'] at this
   simp [this.1]
  rw [h1, h2]
  rfl
 ·cases h
theorem lookup_mem {α : Type} {k : Str} {x : α} : ∀ {l : List (Str × α)}, l.lookup k = some x → (k, x) ∈ l
 | [], h => by simp at h
 | (j, y) :: r, h => by
  simp only [List.lookup] at h
  split at h
  ·rename_i e
   cases h
   rw [beq_iff_eq] at e
   subst e
   exact bc ..
  ·exact br _ (lookup_mem h)
theorem ZY {K : PySem.W.Frag} {w : World} {a : Addr} {tab : List (Str × Option D)} (ex : ∃ es n, KDict K w a es n) (c : aAY K a tab = true) : KTab K w a tab := by
 unfold aAY at c
 rw [ao] at c
 obtain ⟨c0, c⟩ := c
 rw [au] at c
 refine ⟨ex, fun z x h => ?_, fun z h => ?_, fun z h => aAu c0 z h⟩
 ·have := c _ (lookup_mem h)
  dsimp only at this
  split at this
  ·rename_i u hu
   obtain ⟨v, h1, h2⟩ := II this
   exact ⟨u, v, hu, h1, h2⟩
  ·cases this
 ·exact He.eqO_ok (c _ (lookup_mem h))
def l7 {α : Type} (is : List (Nat × Nat)) (us ws mv : List α) : List α := is.filterMap fun p => match p.1 with
 | 0 => us[p.2]?
 | 1 => ws[p.2]?
 | _ => mv[p.2]?
theorem SV (is : List (Nat × Nat)) {vs zs ms : List V} {us ws mv : List Value} (h1 : Vals vs us) (h2 : Vals zs ws) (h3 : Vals ms mv) : Vals (l7 is vs zs ms) (l7 is us ws mv) := by
 induction is with
 | nil => exact .nil
 | cons p is ih =>
  obtain ⟨b, i⟩ := p
  unfold l7 at ih ⊢
  match b with
  | 0 =>
   rcases Vals.at? h1 i with ⟨e1, e2⟩ | ⟨v, u, e1, e2, r⟩
   ·simpa [List.filterMap_cons, e1, e2] using ih
   ·simpa [List.filterMap_cons, e1, e2] using (show Vals (v :: _) (u :: _) from .cons r ih)
  | 1 =>
   rcases Vals.at? h2 i with ⟨e1, e2⟩ | ⟨v, u, e1, e2, r⟩
   ·simpa [List.filterMap_cons, e1, e2] using ih
   ·simpa [List.filterMap_cons, e1, e2] using (show Vals (v :: _) (u :: _) from .cons r ih)
  | n + 2 =>
   rcases Vals.at? h3 i with ⟨e1, e2⟩ | ⟨v, u, e1, e2, r⟩
   ·simpa [List.filterMap_cons, e1, e2] using ih
   ·simpa [List.filterMap_cons, e1, e2] using (show Vals (v :: _) (u :: _) from .cons r ih)
theorem YL (is : List (Nat × Nat)) {K : PySem.W.Frag} {I : List Addr} {F : Hp} {xs zs ms : List D} {vs us mv : List V} (h1 : RepL K I F xs vs) (h2 : RepL K I F zs us) (h3 : RepL K I F ms mv) : RepL K I F (l7 is xs zs ms) (l7 is vs us mv) := by
 induction is with
 | nil => simp [l7, RepL]
 | cons p is ih =>
  obtain ⟨b, i⟩ := p
  unfold l7 at ih ⊢
  match b with
  | 0 =>
   rcases RepL.at? h1 i with ⟨e1, e2⟩ | ⟨v, u, e1, e2, r⟩
   ·simpa [List.filterMap_cons, e1, e2] using ih
   ·simpa [List.filterMap_cons, e1, e2] using RepL.cons r ih
  | 1 =>
   rcases RepL.at? h2 i with ⟨e1, e2⟩ | ⟨v, u, e1, e2, r⟩
   ·simpa [List.filterMap_cons, e1, e2] using ih
   ·simpa [List.filterMap_cons, e1, e2] using RepL.cons r ih
  | n + 2 =>
   rcases RepL.at? h3 i with ⟨e1, e2⟩ | ⟨v, u, e1, e2, r⟩
   ·simpa [List.filterMap_cons, e1, e2] using ih
   ·simpa [List.filterMap_cons, e1, e2] using RepL.cons r ih
theorem ZV {K : PySem.W.Frag} {x qual : Str} {params : Arguments} {body : List Stmt} {scope : Scope} {kws : List (Str × V)} {f : Addr} {fd : FuncData} {ps : List Str} (F : FunD K x qual params body scope [] kws f fd) (n : Nat) (ks : List Str) (ms : List (Str × V)) (mds : List D) (is : List (Nat × Nat))
  (hk : kws ≠ []) (hms : ∀ q ∈ ms, q ∈ kws) (hmd : ∀ I F', RepL K I F' mds (ms.map (·.2)))
  (h : ∀ (D : Addr) (doc pm : Value) (an : Option Addr) (cdv ct : Value) (us mv ws : List Value), us.length = n → mv.length = ms.length → ws.length = ks.length →
   KwChain D ((ms.map (·.1)).zip mv) (bindArgs (PySem.W.fnOf x qual params body scope .none (.ref D) doc pm an cdv ct) ⟨us, ks.zip ws⟩) (ps.zip (l7 is us ws mv)))
  (hlen : ∀ xs zs : List D, xs.length = n → zs.length = ks.length → (l7 is xs zs mds).length = ps.length) : eW K fd ps n ks fun xs zs => l7 is xs zs mds := by
 obtain ⟨mv, kb⟩ := F.kbinds0 n ks ms (fun us mv ws => l7 is us ws mv) hk hms (fun h1 h2 h3 => SV is h1 h3 h2) h
 exact ⟨⟨_, _, kb, fun I F' xs vs zs us h1 h2 => YL is h1 h2 (hmd I F')⟩, hlen⟩
def kwAt (f : Str × Option Str) (x : Str) (K : PySem.W.Frag) : Addr := match K.lookup (He.fAd K f) with
 | some ⟨_, _, .func fd, _⟩ => (match fd.kwdefaults with
  | .ref d => (match PySem.W.nsIn K d x with
   | some (some (.ref a)) => a
   | _ => 0)
  | _ => 0)
 | _ => 0
section
variable {S : aR} {k n j : Nat} {f C : Addr} {fd : FuncData} {ps ks : List Str} {m : MF} {gd : List D → List D → List D} {x : Str} {p pos kpos : Pos} {e : Expr} {es : List Expr} {kws : List Keyword} {ma mk : MA}
theorem jmk (hk : k + 1 ≤ S.k) (M : Mk S.K C f) (Gf : gI S.P S.w S.K S.mg S.base k f fd ps m) (B : eW S.K fd ps (n + 1) ks gd) (hg : S.sc.names.lookup x = some .globalImplicit) (hm : S.mg x = some (.ref C)) (ha : JA S (e :: es) ma) (hkw : JK S kws mk) (hj : ks.length = j := by rfl)
  (hall : ∀ env : Env, (backToKw pos (keywordEach kws env)).all (·.1.isSome) = true := by intro _; rfl) (hks : ∀ env : Env, (backToKw pos (keywordEach kws env)).filterMap (·.1) = ks := by intro _; rfl)
  (hdb : (x == ("__debug__" : Str)) = false := by decide) (he : ∀ env : Env, starEach (e :: es) env = (false, eval e env) :: starEach es env := by intro _; rfl)
  (hpl : ∀ env : Env, ((backTo pos (starEach (e :: es) env)).any (·.1) || (backToKw pos (keywordEach kws env)).any (·.1.isNone)) = false := by intro _; rfl) :
  JE S (.Call (.Name x p) (e :: es) kws pos) (xD C m n j gd ma mk) := by subst hj; exact aAB hk M Gf B hg hm ha hkw hall hks hdb he hpl
end
theorem GC {S : aR} {pos : Pos} {a b c : Expr} {ma mb mc : ME} {f g : D → D → W → Res D} {op op' : CmpOp} (ho : O2 S (compareOp op) f) (ho' : O2 S (compareOp op') g) (ha : JE S a ma) (hb : JE S b mb) (hc : JE S c mc) (hm : lastMarks [op, op'] [b, c] = false := by with_unfolding_all rfl) :
  JT S (.Compare a [op, op'] [b, c] pos) (bH (UI f g ma mb mc)) := fun X E cx xo => DP (pt_chain (ho X E cx xo) (ho' X E cx xo) (ha X E cx xo) (hb X E cx xo) (hc X E cx xo) hm) fun σ H Q ⟨I, F, G, ds, w, rel, rs, p⟩ => by
  show tChain _ _ _ _ _ σ H fun x H' => ∃ k, x = .bl k ∧ Q k H'
  refine aA0 ⟨I, F, G, ds, w, rel, rs, (bF.bind p).mono fun I1 F1 H1 x w1 _ e1 rel1 p1 v rv => ?_⟩
  cases x <;> first | exact p1.elim | skip
  simp only [aH] at rv
  exact ⟨_, rv, p1 I1 F1 H1 .refl rel1⟩
def YT (i j : Nat) (ma : MA) : MS := fun σ w => (ma σ w).bind fun xs w1 => match xs with
 | [u, v] => .ok (.nx ((σ.set i (some u)).set j (some v))) w1
 | _ => .bad
section
variable {S : aR} {elt tg iter : Expr} {ifs : List Expr} {scope : Scope} {pos py spos : Pos} {y : Str} {mi : MI} {g : MG} {t : MT} {me : ME} {own : List (Str × Nat)}
theorem jsc (i : Nat) (hi : JI S tg iter mi) (hb : blkC S.N S.sc scope own = true) (hg : JC (S.blk scope) (own.map (·.2)) tg g) (ht : JTs (S.blk scope) ifs t) (he : JE (S.blk scope) elt me)
  (hy : S.N[i]? = some y := by rfl) (hyl : S.sc.names.lookup y = some .local := by rfl) (hl : (py.line == pos.line) = true := by rfl) (ha : (scope.names.any fun (n, k) => n == y && (k == .local || k == .cell)) = false := by rfl)
  (hk : S.sc.kind = .function := by rfl) (hs : ∀ (env : Env) x, foldedSetIterable iter env x = pure x := by intro _ _; rfl) : JS S (.Assign [.Name y py] (.ListComp elt [⟨tg, iter, ifs, 0⟩] scope pos) spos) (aT (b6 mi (own.map (·.2)) g t me) (a7 i)) :=
 TM hy hyl (fun env e k => sw_true k (by rw [e]; exact hyl) hl ha) hi hb hg ht he hk hs
end
def QX (C : Addr) (m : MF) : MF := fun ds w => match ds with
 | [.ref i] => (match w[i]? with
  | some (.ins C' _) => if C' = C then (m [.ref i] w).bind fun d w1 => (match d with
    | .int n => if 0 ≤ n ∧ n < 2 ^ 62 then .ok (.int n) w1 else .bad
    | _ => .bad) else .bad
  | _ => c5 [.ref i] w)
 | _ => c5 ds w
open AutoSeq1 (wpAny_loadPart')
open RZ (nextOf_tuple_item nextOf_tuple_end)
def GS (ds : List D) (w : W) : Res l9 := match ds with
 | [x] => (match zL x with
  | some xs => .ok ⟨(List.range xs.length).zipWith (fun i x => D.tup [.int (i : Nat), x]) xs, always⟩ w
  | none => .bad)
 | _ => .bad
def CZ (d : D) (w : W) : Option (List D) := match d with
 | .lst xs => some xs
 | .ref i => (match w[i]? with
  | some (.lst xs) => some xs
  | _ => none)
 | _ => none
theorem yO {K : PySem.W.Frag} {I : List Addr} {F G H : Hp} {w : W} (rel : Rel K I F G w H) {d : D} {v : V} {xs : List D} (h : aH K I F d v) (e : CZ d w = some xs) : ∃ a vs, v = .ref a ∧ H a = some (.lst vs) ∧ RepL K I F xs vs := by
 cases d <;> simp only [CZ, aj, reduceCtorEq] at e <;> simp only [aH] at h
 case lst =>
  subst e
  obtain ⟨a, vs, h0, h1, h2⟩ := h
  exact ⟨a, vs, h0, rel.fz _ _ h1, h2⟩
 case ref i =>
  obtain ⟨a, h0, h1⟩ := h
  split at e
  ·rename_i ys hw
   cases e
   obtain ⟨u, h2, vs, rfl, h3⟩ := rel.ob i a _ h1 hw
   exact ⟨a, vs, h0, h2, h3⟩
  ·cases e
def UQ (x y : D) (w : W) : Res D := match CZ x w, CZ y w with
 | some a, some b => if a.length + b.length ≤ sizeLine then .ok (.lst (a ++ b)) w else .bad
 | _, _ => .bad
theorem aDJ {S : aR} : O2 S (binaryOp .Add) UQ := jG fun X E c xo I F G d e w H x y Q rel rd re p => by
 unfold UQ at p
 split at p
 ·rename_i a b ha hb
  obtain ⟨q, vs, rfl, h1, h2⟩ := yO rel rd ha
  obtain ⟨q', vs', rfl, h1', h2'⟩ := yO rel re hb
  split at p
  ·rename_i hl
   exact ⟨_, op_cat, q, q', vs, vs', rfl, rfl, h1, h1', by rw [← h2.length, ← h2'.length]; exact hl, kI rel (h2.append h2') p⟩
  ·exact p.elim
 ·exact p.elim
theorem Rel.less {K : PySem.W.Frag} {I : List Addr} {F G H : Hp} {w : W} {q : Addr} {u : HO} (rel : Rel K I F (L2.upd G q u) w H) (hG : G q = none) : Rel K I F G w H :=
 ⟨rel.len, rel.nd, rel.ob, rel.fz, rel.ap, fun a v h => rel.gz a v (by rw [upd_ne (ne_of_none h hG)]; exact h), fun a v h => rel.gf a v (by rw [upd_ne (ne_of_none h hG)]; exact h), fun a xs h => rel.gt a xs (by rw [upd_ne (ne_of_none h hG)]; exact h)⟩
theorem Rel.aHI {K : PySem.W.Frag} {I : List Addr} {F G H : Hp} {w : W} (rel : Rel K I F G w H) {q : Addr} {u : HO} (hq : H q = none) : Rel K I F G w (L2.upd H q u) := E6 rel hq u
end Pc
namespace Pc
open PySem PySem.Spec PyProof.Rows L2 HT
theorem QL {α β : Type} {f g : α → Option β} : ∀ {l : List α}, (∀ x ∈ l, f x = g x) → l.filterMap f = l.filterMap g
 | [], _ => rfl
 | a :: l, h => by
  rw [List.filterMap_cons, List.filterMap_cons, h a (bc ..), QL fun x hx => h x (br _ hx)]
theorem aA6 (xs : Array Value) : ((List.range xs.size).filterMap fun (m : Nat) => xs[(((xs.size : Int) - 1) + (m : Int) * (-1)).toNat]?).toArray = xs.toList.reverse.toArray := by
 rw [← PySem.W.krv_pick]
 unfold slicePick
 rw [PySem.W.krv_bounds]
 show _ = ((sliceRange ((xs.size : Int) - 1) (-1) (-1)).filterMap (xs[·]?)).toArray
 rw [PySem.W.krv_sliceRange, List.filterMap_map]
 congr 1
 refine QL fun m hm => ?_
 have := List.mem_range.mp hm
 have e : (((xs.size : Int) - 1) + (m : Int) * (-1)).toNat = xs.size - 1 - m := by omega
 rw [e]; rfl
theorem SA (n : Nat) : Builtin.Slice.slicePlaces ((n : Int) - 1) (-1) (-1) = n := by
 unfold Builtin.Slice.slicePlaces
 have h1 : ¬ ((-1 : Int) > 0) := by decide
 simp only [h1, aa]
 split
 ·rw [show (- -1 : Int) = 1 by decide, Int.ediv_one]; omega
 ·omega
section
variable {prog : Program} {w : World} {A : Around} {E : Value → Shared → Prop} {s : Shared}
theorem A4 {sl : Addr} {vl vu vs : Value} {n : Nat} {Q : Int × Int × Nat → Shared → Prop} (hs : s.heap.IsSliceOf sl vl vu vs) (pl : IsPart vl none) (pu : IsPart vu none) (ps : IsPart vs (some (-1)))
  (h : Q ((n : Int) - 1, -1, n) s) : wpAny (model prog w) A (Builtin.Slice.sliceApplied (.ref sl) (pure (n : Int))) Q E s := by
 obtain ⟨os, hos, hcs, hds⟩ := id hs
 unfold Builtin.Slice.sliceApplied Builtin.Slice.sliceFields
 refine wpAny_bind (wpAny_bind (wpAny_field hos hds (x := vl) rfl (wpAny_bind (wpAny_field hos hds (x := vu) rfl (wpAny_bind (wpAny_field hos hds (x := vs) rfl (wpAny_pure ?_)))))))
 refine wpAny_bind (slicePart_ ps ?_)
 show wpAny _ _ (if ((-1 : Int) == 0) = true then _ else _) _ _ s
 rw [if_neg (by decide)]
 refine wpAny_bind (slicePart_ pl (wpAny_bind (slicePart_ pu (wpAny_bind (wpAny_pure ?_)))))
 show wpAny _ _ (pure ((n : Int) - 1, (-1 : Int), Builtin.Slice.slicePlaces ((n : Int) - 1) (-1) (-1))) _ _ s
 rw [SA]
 exact wpAny_pure h
theorem x3 {t sl : Addr} {items : Array Value} {vl vu vs : Value} {Q : Value → Shared → Prop} (ht : IsTup s.heap t items) (hs : s.heap.IsSliceOf sl vl vu vs) (pl : IsPart vl none) (pu : IsPart vu none) (ps : IsPart vs (some (-1)))
  (h : Q (.ref s.heap.objs.size) { s with heap := s.heap.push { cls := .type "tuple", data := .seq items.toList.reverse.toArray } })
  (hsz : items.size ≤ sizeLine) : wpAny (model prog w) A (getItem (.ref t) (.ref sl)) Q E s := by
 have htake : sizeOk (.seq items.toList.reverse.toArray) := by
  show (items.toList.reverse.toArray).size ≤ sizeLine
  rw [List.size_toArray, List.length_reverse, Array.length_toList]
  exact hsz
 obtain ⟨os, hos, hcs, hds⟩ := id hs
 have hTs : s.TypeIs (.ref sl) "slice" := ⟨os, hos, hcs⟩
 unfold getItem
 try with_reducible refine wpAny_holding ?_
 first | refine wpAny_bind (wpAny_pure ?_) | skip
 refine wpAny_bind (wpAny_sequenceKey ht.typeIs (by decide) ?_)
 refine wpAny_bind (wpAny_callSpecial?_slot (name := Str.ofString "__getitem__") ht.typeIs PyProof.Rows.slot_tuple_getitem
  (wpAny_call_entry PyProof.Rows.slot_tuple_getitem ht.typeIs entry_tuple_getitem ?_ (args_tuple_getitem _ _)))
 show wpAny _ _ (Builtin.Tuple.tupleItemsOf (.ref t) >>= _) _ _ s
 refine wpAny_bind (tupleItemsOf_ ht ?_)
 refine wpAny_bind (wpAny_typeOf hTs ?_)
 rw [if_pos (by decide)]
 refine wpAny_bind (A4 hs pl pu ps ?_)
 have hno : ¬ ((((items.size : Int) - 1) == 0 && (-1 : Int) == 1 && items.size == items.size) = true) := by
  intro q
  rw [ao, ao] at q
  exact absurd q.1.2 (by decide)
 show wpAny _ _ (if (((items.size : Int) - 1) == 0 && (-1 : Int) == 1 && items.size == items.size) = true then _ else _) _ _ s
 rw [if_neg hno, aA6]
 first
  | exact wpAny_bind (m := Builtin.Tuple.tupleExact _) (wpAny_newObj_type (wpAny_pure ⟨_, rfl, wpAny_pure h⟩) htake)
  | exact wpAny_bind (m := Builtin.Tuple.tupleExact _) (wpAny_newObj_type (wpAny_bind (wpAny_pure (wpAny_pure ⟨_, rfl, wpAny_pure h⟩))) htake)
  | exact wpAny_bind (wpAny_bind (m := Builtin.Tuple.tupleExact _) (wpAny_newObj_type (wpAny_pure (wpAny_pure ⟨_, rfl, wpAny_pure h⟩)) htake))
  | exact wpAny_bind (wpAny_bind (m := Builtin.Tuple.tupleExact _) (wpAny_newObj_type (wpAny_pure ⟨_, rfl, wpAny_pure h⟩) htake))
end
section
variable {X : Cx}
def aG7 (K : PySem.W.Frag) (te : TE) : TE := fun σ H Q => te σ H fun x H1 => ∃ a xs, x = .ref a ∧ SqT K H1 a xs ∧ ∀ p, H1 p = none → Q (.ref p) (upd H1 p (.tup xs.reverse))
theorem aB8 {e : Expr} {te : TE} {k : Nat} {p1 p2 p3 pos : Pos} (he : PE X e te) : PE X (.Subscript e (.Slice none none (some (.UnaryOp .USub (.Constant (.int 1) k p1) p2)) p3) pos) (aG7 X.K te) := by
 refine ⟨fun pins s σ H Q I h => ?_⟩
 refine Subscript_ (thn (he.run pins s σ H _ I h) fun v s1 ⟨x, H1, I1, r1, q1⟩ => ?_)
 obtain ⟨a, xs, ex, hx, q⟩ := q1
 subst ex
 cases r1
 have hst : PO X (some (.UnaryOp .USub (.Constant (.int 1) k p1) p2)) (tPart (tUn (rU fun i => .int (-i)) (tC (.int 1)))) := po_some (pe_un un_neg pe_int)
 refine wpAny_Slice (thn (po_none.run pins s1 σ H1 (fun o H2 => o = none ∧ H2 = H1) I1 ⟨rfl, rfl⟩) fun vl s2 ⟨l, H2, I2, pl, el, e2⟩ => ?_)
 subst el e2
 refine thn (po_none.run pins s2 σ H2 (fun o H3 => o = none ∧ H3 = H2) I2 ⟨rfl, rfl⟩) fun vu s3 ⟨u, H3, I3, pu, eu, e3⟩ => ?_
 subst eu e3
 refine thn (hst.run pins s3 σ H3 (fun o H4 => o = some (-1) ∧ H4 = H3) I3 ⟨1, rfl, -1, rfl, rfl, rfl⟩) fun vs s4 ⟨o, H4, I4, ps, eo, e4⟩ => ?_
 subst eo e4
 have I5 : Inv X pins σ H4 { s4 with heap := s4.heap.push { cls := .type "slice", data := .fields #[vl, vu, vs] } } := I4.kept (t' := s4.toks) fun b ob q => Heap.get?_push_of_some _ q
 obtain ⟨its, r, ht, hz⟩ := I5.tuple hx
 have hlen := r.length
 show wpAny (model X.prog X.w) X.A (subscriptTail e (.Slice none none (some (.UnaryOp .USub (.Constant (.int 1) k p1) p2)) p3) (.ref a) (.ref s4.heap.objs.size)) (EP X pins σ Q) X.xe { s4 with heap := s4.heap.push { cls := .type "slice", data := .fields #[vl, vu, vs] } }
 refine tail_any (ops := [.ref a, .ref s4.heap.objs.size]) ht.typeIs (PyProof.Rows.slot_tuple_getitem.lookup) ?_ (by with_unfolding_all rfl)
 refine x3 ht (Heap.IsSliceOf.new _ vl vu vs) pl pu ps ?_ (by rw [List.size_toArray]; omega)
 refine ⟨.ref _, _, I5.laid (t' := s4.toks) (o := .tup xs.reverse) (fun b ob q => Heap.get?_push_of_some _ q) (bx _) ?_, rfl, q _ (I5.hok.fresh (bx _))⟩
 exact ⟨by rw [List.length_reverse]; exact hz, _, r.reverse, ⟨_, Heap.get?_push_size _ rfl, rfl, 0, by simp⟩⟩
end
def XN (d : D) (w : W) : Res D := match d with
 | .tup xs => .ok (.tup xs.reverse) w
 | _ => .bad
theorem WR {S : aR} {e : Expr} {m : ME} {k : Nat} {p1 p2 p3 pos : Pos} (h : JE S e m) : JE S (.Subscript e (.Slice none none (some (.UnaryOp .USub (.Constant (.int 1) k p1) p2)) p3) pos) (yX XN m) := fun X E c xo =>
 b0 (aB8 (h X E c xo)) fun σ H Q ⟨I, F, G, ds, w, rel, rs, p⟩ => bX (f := fun _ d w1 => XN d w1) rel rs p fun I1 F1 H1 d w1 v e1 rel1 rs1 rv p => by
  unfold XN at p
  split at p
  ·simp only [aH] at rv
   obtain ⟨a, us, rfl, h1, h2⟩ := rv
   exact ⟨a, us, rfl, .of (rel1.fz _ _ h1), vA rel1 h2.reverse p⟩
  ·exact p.elim
end Pc
namespace Pc
open PySem PySem.Spec PyProof.Rows L2
theorem aHW {f : Expr → Option Str} {t1 t2 : Expr} (h : f t1 = none ∨ f t2 = none) : (([t1, t2].filterMap f).length != 2) = true := by
 have : ([t1, t2].filterMap f).length ≤ 1 := by
  rcases h with h | h <;> rw [List.filterMap_cons, List.filterMap_cons, h]
  ·exact de (List.length_filterMap_le f []|> fun _ => by cases f t2 <;> simp) (bx 1)
  ·cases f t1 <;> simp
 simp; omega
theorem aCL {x y : Str} {a b : Expr} {px py pt pt2 : Pos} {kt k2 : Nat} {env : Env} (h : env.scope.names.lookup x ≠ some .local ∨ env.scope.names.lookup y ≠ some .local) :
  swappedStores [.Tuple [.Name x px, .Name y py] kt pt] (.Tuple [a, b] k2 pt2) env = pure none := by
 unfold swappedStores
 simp only [cf, cz, Nat.zero_add, Nat.reduceAdd, beq_self_eq_true, Bool.true_or, ay, bne_self_eq_false, Bool.false_or]
 cases hb : (env.blockKind != .function) with
 | true => rfl
 | false =>
  simp only [bg, aa]
  split
  ·rfl
  ·split
   ·rfl
   ·rename_i h2
    exfalso
    apply h2
    rw [Bool.or_eq_true]
    refine .inl (aHW ?_)
    rcases h with h | h
    ·refine .inl ?_
     have : (env.kindOf x == some .local) = false := dw.mpr h
     simp [this]
    ·refine .inr ?_
     have : (env.kindOf y == some .local) = false := dw.mpr h
     simp [this]
theorem aCJ {S : aR} {x y : Str} {a b : Expr} {px py pt pt2 pos : Pos} {kt k2 : Nat} {m : ME} {g : MG} (he : JE S (.Tuple [a, b] k2 pt2) m) (hg : JG S (.Tuple [.Name x px, .Name y py] kt pt) g)
  (h : S.sc.names.lookup x ≠ some .local ∨ S.sc.names.lookup y ≠ some .local) (hs : ∀ env : Env, swapsWithSole [.Tuple [.Name x px, .Name y py] kt pt] (.Tuple [a, b] k2 pt2) pos.line env = pure false := by intro _; rfl)
  (h1 : ∀ env : Env, (assignEach [.Tuple [.Name x px, .Name y py] kt pt] env).map (·.2) = [assign (.Tuple [.Name x px, .Name y py] kt pt) env] := by intro _; rfl) : JS S (.Assign [.Tuple [.Name x px, .Name y py] kt pt] (.Tuple [a, b] k2 pt2) pos) (aT m g) := fun X E cx xo =>
 jF (ps_asg (he X E cx xo) (hg X E cx xo) (hs X.env) (aCL (by rw [cx.sc]; exact h)) (h1 X.env)) fun Z σ H h => VH h
theorem aBi {S : aR} {x y : Str} {a b : Expr} {px py pt pt2 pos : Pos} {kt k2 : Nat} {m : ME} {g : MG} (he : JE S (.Tuple [a, b] k2 pt2) m) (hg : JG S (.Tuple [.Name x px, .Name y py] kt pt) g)
  (h : S.sc.names.lookup x = some .cell := by rfl) (hs : ∀ env : Env, swapsWithSole [.Tuple [.Name x px, .Name y py] kt pt] (.Tuple [a, b] k2 pt2) pos.line env = pure false := by intro _; rfl)
  (h1 : ∀ env : Env, (assignEach [.Tuple [.Name x px, .Name y py] kt pt] env).map (·.2) = [assign (.Tuple [.Name x px, .Name y py] kt pt) env] := by intro _; rfl) : JS S (.Assign [.Tuple [.Name x px, .Name y py] kt pt] (.Tuple [a, b] k2 pt2) pos) (aT m g) :=
 aCJ he hg (.inl (by rw [h]; decide)) hs h1
def noM : MF := fun _ _ => .bad
theorem gI.bad {P : Program} {w : World} {K : PySem.W.Frag} {mg : Str → Option Value} {base : Heap} {k : Nat} {f : Addr} {fd : FuncData} {ps : List Str} : gI P w K mg base k f fd ps noM :=
 ⟨fun A outer s H args us vs Q E hr hg e0 hb r hl ⟨_, _, _, _, _, _, _, p⟩ => p.elim⟩
def VY (n : Nat) (r : XR) : MG := fun d σ w => match zL d with
 | some xs => if n ≤ xs.length ∧ xs.length ≤ sizeLine then r (xs.take n ++ [.lst (xs.drop n)]) σ w else .bad
 | none => .bad
def anyM : MF := fun ds w => match ds with
 | [d] => (match (zL d).bind nU with
  | some ns => .ok (.bl (ns.any fun n => n != 0)) w
  | none => match (wG d w).bind uB with
   | some bs => .ok (.bl (bs.any id)) w
   | none => .bad)
 | _ => .bad
def TN (xs : List D) : List D := (List.range xs.length).zipWith (fun i x => D.tup [.int (i : Nat), x]) xs
def CT (ds : List D) (w : W) : Res l9 := match ds with
 | [.lst xs] => .ok ⟨TN xs, always⟩ w
 | [.ref i] => (match w[i]? with
  | some (.lst xs) => .ok ⟨TN xs, holds i (.lst xs)⟩ w
  | _ => .bad)
 | _ => .bad
end Pc
namespace L2
open PySem PySem.Spec PyProof.Rows
def smallKey : List Key → Bool
 | [.inl a, .inl s, .inl r] => (decide (0 ≤ a) && decide (a < 4)) && ((decide (0 ≤ s) && decide (s < 6)) && (decide (0 ≤ r) && decide (r < 10)))
 | _ => false
end L2
namespace Pc
open PySem PySem.Spec PyProof.Rows L2
open Classical in
def dcL (it : l9) (vs : List Nat) (g : MG) (t : MT) (ek ev : ME) : List D → List (List Key × D) → Sg → W → Res (List (List Key × D))
 | [], acc, σ, w => if it.ok w then .ok acc w else .bad
 | x :: xs, acc, σ, w => if it.ok w then (g x (eO σ vs) w).M4.bind fun σ1 w1 => (t σ1 w1).M4.bind fun b w2 =>
   if b = true then (ek σ1 w2).M4.bind fun k w3 => (ev σ1 w3).M4.bind fun v w4 => match k with
    | .tup ks => (match v5 ks with
     | some kk => if acc.length < sizeLine then dcL it vs g t ek ev xs (putD acc kk v) σ w4 else .bad
     | none => .bad)
    | _ => .bad
   else dcL it vs g t ek ev xs acc σ w2
  else .bad
def aIg (m : MI) (vs : List Nat) (g : MG) (t : MT) (ek ev : ME) : ME := fun σ w => (m σ w).bind fun it w1 => (dcL it vs g t ek ev it.xs [] σ w1).bind fun kvs w2 => .ok (.ref w2.length) (w2 ++ [.dT kvs])
theorem aQ.len {κ : Type} {K : PySem.W.Frag} {I : List Addr} {F : Hp} : ∀ {ds : List (κ × D)} {vs : List (κ × V)}, aQ K I F ds vs → ds.length = vs.length
 | [], vs, h => by simp only [aQ] at h; subst h; rfl
 | (k, d) :: ds, vs, h => by
  simp only [aQ] at h
  obtain ⟨v, r, rfl, _, h3⟩ := h
  simp [aQ.len h3]
def pairOf : D → Option (List Key × D)
 | .tup [.tup ks, v] => (v5 ks).map fun k => (k, v)
 | _ => none
def pairsOf : List D → Option (List (List Key × D))
 | [] => some []
 | d :: ds => match pairOf d, pairsOf ds with
  | some p, some ps => some (p :: ps)
  | _, _ => none
def aHm : MF := fun ds w => match ds with
 | [.ref i] => (match w[i]? with
  | some (.dK kvs) => .ok (.ref w.length) (w ++ [.dK kvs])
  | some (.dT kvs) => if (kvs.all fun p => smallKey p.1) = true then .ok (.ref w.length) (w ++ [.dT kvs]) else .bad
  | _ => .bad)
 | [.lst ps] => (match pairsOf ps with
  | some kvs => .ok (.ref w.length) (w ++ [.dT (mH [] kvs)])
  | none => .bad)
 | _ => .bad
def aHl (tab : List (Str × Option D)) (ys : List D) (w : W) : Res D := match ys with
 | [.str z, y] => (match tab.lookup z with
  | some o => .ok (o.getD y) w
  | none => .ok y w)
 | _ => .bad
def aGN (d : Addr) (tab : List (Str × Option D)) (mo : ME) (ma : MA) : ME := fun σ w => (mo σ w).bind fun x w1 => match x with
 | .con a => if a = d then (ma σ w1).bind fun ys w2 => aHl tab ys w2 else .bad
 | _ => .bad
end Pc
namespace L2
open PySem PySem.Spec PyProof.Rows
open PySem.W (EachIs AllAlike Sortable dataLe)
def leI (a b : Int) : Bool := decide (a ≤ b)
end L2
namespace Pc
open PySem PySem.Spec PyProof.Rows L2
def aCo : MF := fun ds w => match ds with
 | [.tup xs] => (match nU xs with
  | some ns => .ok (.lst ((ns.mergeSort leI).map D.int)) w
  | none => .bad)
 | ds => lO ds w
def aEt (n : Nat) (r : XR) : MG := fun d σ w => match CZ d w with
 | some xs => if xs.length = n then r xs σ w else .bad
 | none => .bad
open RZ (nextOf_tuple_item nextOf_tuple_end)
def zmM (ds : List D) (w : W) : Res l9 := match ds with
 | [.tup xs, .lst ys] => if xs.length = ys.length then .ok ⟨(xs.zip ys).map fun p => .tup [p.1, p.2], always⟩ w else .bad
 | _ => .bad
end Pc
namespace Pc
open PySem PySem.Spec PyProof.Rows L2 PySem.W
def eqE (x y : D) (w : W) : Res D := match x, y with
 | .ref i, .ref j => (match w[i]?, w[j]? with
  | some (.dT kvs), some (.dT []) => .ok (.bl kvs.isEmpty) w
  | _, _ => .bad)
 | _, _ => .bad
end Pc
namespace Pc
open PySem PySem.Spec PyProof.Rows L2
def aGZ (C : Addr) (nm : Str) (x : D) (w : W) : Option Nat := match x with
 | .ref i => (match w[i]? with
  | some (.ins C' fs) => if C' = C ∧ fs.lookup nm = none then some i else none
  | _ => none)
 | _ => none
def wU (C : Addr) (nm : Str) (m : MF) (n : Nat) (gd : List D → List D → List D) (mo : ME) (ma : MA) : ME := fun σ w => (mo σ w).bind fun x w1 => match aGZ C nm x w1 with
 | some i => (ma σ w1).bind fun xs w2 => if xs.length + 1 = n then m (gd (.ref i :: xs) []) w2 else .bad
 | none => .bad
def aCh : MMt := fun d ds w => match d, ds with
 | .ref i, [.tup zs] => (match w[i]? with
  | some (.lst xs) => if xs.length + zs.length ≤ sizeLine then .ok .non (w.set i (.lst (xs ++ zs))) else .bad
  | _ => .bad)
 | _, _ => .bad
def lexLeI (ns ms : List Int) : Bool := Ob.lexAt (fun j => decide (ns.getD j 0 = ms.getD j 0)) (fun j => decide (ns.getD j 0 ≤ ms.getD j 0)) (decide (ns.length ≤ ms.length)) 0 (min ns.length ms.length)
def leA (x y : D) (w : W) : Res D := match x, y with
 | .int a, .int b => .ok (.bl (decide (a ≤ b))) w
 | .tup a, .tup b => (match nU a, nU b with
  | some ns, some ms => .ok (.bl (lexLeI ns ms)) w
  | _, _ => .bad)
 | _, _ => .bad
theorem aEJ {S : aR} : O2 S (compareOp .LtE) leA := jG fun X E c xo I F G d e w H x y Q rel rd re p => by
 cases d <;> cases e <;> first | exact p.elim | skip
 ·simp only [aH] at rd re
  exact ⟨_, Q2 op_le, _, _, rd, re, trivial, p I F H .refl rel _ (by simp [aH])⟩
 ·rename_i as bs
  simp only [leA] at p
  split at p
  ·rename_i ns ms h1 h2
   obtain ⟨a, us, rfl, g1, g2⟩ := LV rel rd (show zL (.tup as) = some as from rfl)
   obtain ⟨b, ts, rfl, g3, g4⟩ := LV rel re (show zL (.tup bs) = some bs from rfl)
   obtain rfl := nM g2 h1
   obtain rfl := nM g4 h2
   exact ⟨_, op_leT (by have := c.room.un; omega), a, b, ns, ms, rfl, rfl, g1, g3, p.nL rel (by simp [aH, lexLeI])⟩
  ·exact p.elim
def EE (x y : D) (w : W) : Res D := match CZ x w, CZ y w with
 | some a, some b => if a.length + b.length ≤ sizeLine then .ok (.ref w.length) (w ++ [.lst (a ++ b)]) else .bad
 | _, _ => .bad
theorem aBj {S : aR} : O2 S (binaryOp .Add) EE := jG fun X E c xo I F G d e w H x y Q rel rd re p => by
 unfold EE at p
 split at p
 ·rename_i a b ha hb
  obtain ⟨q, vs, rfl, h1, h2⟩ := yO rel rd ha
  obtain ⟨q', vs', rfl, h1', h2'⟩ := yO rel re hb
  split at p
  ·rename_i hl
   exact ⟨_, op_cat, q, q', vs, vs', rfl, rfl, h1, h1', by rw [← h2.length, ← h2'.length]; exact hl, x8 (o := .lst (a ++ b)) rel ⟨_, rfl, h2.append h2'⟩ p⟩
  ·exact p.elim
 ·exact p.elim
end Pc
namespace He
open PySem PySem.Spec PyProof.Rows L2
abbrev AlY : Type := AlT × Bool
def aCG (as : List Addr) (fa : List Fa) (fn : List DefD) (ts : List Tab) (ex : PySem.W.Frag → Bool) (g : Addr → Option Obj) : AlY := (obsT fa fn ts (frT g as), ex (frT g as))
def aHS (fn : List DefD) (ts : List Tab) (w : World) : AlY := (valT fn ts w, true)
theorem aBe {as : List Addr} {fa : List Fa} {fn : List DefD} {ts : List Tab} {ex : PySem.W.Frag → Bool} {w : World} {h : Heap} (e : aCG as fa fn ts ex h.get? = aHS fn ts w) : SaysX fa fn ts [] ex w h (frT h.get? as) :=
 ⟨congrArg (fun z : AlY => z.1) e, congrArg (fun z : AlY => z.2) e, (fun _ hp => nomatch hp), (fun _ hp => nomatch hp), (fun _ hp => nomatch hp)⟩
def aEa (as : List Addr) (fa : List Fa) (fn : List DefD) (ts : List Tab) (ex : PySem.W.Frag → Bool) : PySem.W.Hook where
 α := AlY
 obs := fun s => aCG as fa fn ts ex s.heap.get?
 val := fun w => aHS fn ts w
 says := fun w h => ∃ K : PySem.W.Frag, K.In h ∧ SaysX fa fn ts [] ex w h K
 of := fun _ _ e => ⟨_, frT_in, aBe e⟩
 keeps := fun _ _ _ ⟨K, hK, c⟩ k => ⟨K, PySem.W.Frag.In.keeps hK k, ⟨c.t, c.more, c.hd, c.out, (fun _ hp => nomatch hp)⟩⟩
theorem aC6 {as : List Addr} {fa : List Fa} {fn : List DefD} {ts : List Tab} {ex : PySem.W.Frag → Bool} {g : Addr → Option Obj} {s : Shared} (h : ∀ a, g a = s.heap.get? a) : aCG as fa fn ts ex g = (aEa as fa fn ts ex).obs s := by
 have e : g = s.heap.get? := funext h
 rw [e]
 rfl
theorem aDY {α β γ δ : Type} {e : Option α} {f : α → β} {g : α → γ} {h : α → δ} {a : β} {b : γ} {c : δ} (h1 : e.map (fun s => (f s, g s)) = some (a, b)) (h2 : e.map h = some c) : e.map (fun s => (f s, g s, h s)) = some (a, b, c) := by
 cases e with
 | none => exact nomatch h1
 | some s => 
  have q : (f s, g s) = (a, b) := Option.some.inj h1
  have q2 : h s = c := Option.some.inj h2
  have q3 := congrArg Prod.fst q
  have q4 := congrArg Prod.snd q
  show some (f s, g s, h s) = some (a, b, c)
  rw [q2, show f s = a from q3, show g s = b from q4]
end He
namespace Pc
open PySem PySem.Spec PyProof.Rows L2
def u7 : MMt := fun d ds w => match d, ds with
 | .ref i, [.int j, y] => (match w[i]? with
  | some (.lst xs) => if xs.length < sizeLine ∧ 0 ≤ j ∧ j < 2 ^ 63 then .ok .non (w.set i (.lst (xs.take j.toNat ++ [y] ++ xs.drop j.toNat))) else .bad
  | _ => .bad)
 | _, _ => .bad
theorem XC {S : aR} : MB S "list.insert" u7 := WL fun X E c xo I F G d ds w H x vs Q rel rd rl p => by
 unfold u7 at p
 split at p
 ·rename_i i j y
  simp only [aH] at rd
  obtain ⟨a, rfl, hi⟩ := rd
  obtain ⟨v, u0, rfl, rj, ry⟩ := rl.two
  simp only [aH] at rj
  subst rj
  split at p
  ·rename_i xs hw
   obtain ⟨u, hu, us, rfl, hr⟩ := rel.ob i a _ hi hw
   split at p
   ·rename_i hl
    exact ⟨_, mt_insert, a, us, j, u0, rfl, rfl, hu, by rw [← hr.length]; exact hl.1, hl.2.1, hl.2.2, p.nL (rel.upd hi hw ⟨_, rfl, ((hr.take _).append (RepL.cons ry (by simp [RepL]))).append (hr.drop _)⟩) (by simp [aH])⟩
   ·exact p.elim
  ·exact p.elim
 ·exact p.elim
def aEu (C : Addr) (f : Str) (mo mv : ME) : MS := fun σ w => (mo σ w).bind fun x w1 => (rH C f x w1).bind fun u w2 => (mv σ w2).bind fun v w3 => match u, v with
 | .int i, .int j => (oP C f x (.int (i + j)) w3).bind fun _ w4 => .ok (.nx σ) w4
 | _, _ => .bad
def aIj (mb mf : MS) : MS := fun σ w => match mb σ w with
 | .ok (.nx σ1) w1 => (match mf σ1 w1 with
  | .ok (.nx σ2) w2 => .ok (.nx σ2) w2
  | _ => .bad)
 | _ => .bad
def aCg (C : Addr) (nm : Str) (m : MF) (n j : Nat) (gd : List D → List D → List D) (mo : ME) (ma mk : MA) : ME := fun σ w => (mo σ w).bind fun x w1 => match aGZ C nm x w1 with
 | some i => (ma σ w1).bind fun xs w2 => (mk σ w2).bind fun zs w3 => if xs.length + 1 = n ∧ zs.length = j then m (gd (.ref i :: xs) zs) w3 else .bad
 | none => .bad
end Pc
namespace L2
open PySem PySem.Spec PyProof.Rows
section
variable {X : Cx} {e : Expr} {es : List Expr} {ta : TA} {p1 p2 pos : Pos} {x : Str} {N : Addr}
theorem aA5 {pl : Sem Bool} (hg : Gl X x) (hm : X.mg x = some (.ref N)) (hdb : (x == ("__debug__" : Str)) = false) (rd : ClX.CRead X.K N (.type "type")) (vN : PySem.W.findCls X.K (.ref N) (.type "type") "__init__" = some (.val (.builtin "ValueError.__init__"))) (ha : PA X (e :: es) ta)
  (hc : eval (.Call (.Attribute (.Name x p1) "__init__" p2) (e :: es) [] pos) X.env = (do
   let ov ← eval (.Name x p1) X.env
   standAt p2.atName
   let (f, first) ← holding [ov] (getMethod ov "__init__" pl)
   callWith pos f first (backTo pos (starEach (e :: es) X.env)) (backToKw pos (keywordEach [] X.env))) := by rfl)
  (he : starEach (e :: es) X.env = (false, eval e X.env) :: starEach es X.env := by rfl) (hpl : (backTo pos (starEach es X.env)).any (·.1) = false := by rfl) :
  PE X (.Call (.Attribute (.Name x p1) "__init__" p2) (e :: es) [] pos) (tVeI X.K ta) := by
 refine ⟨fun pins s σ H Q I h => ?_⟩
 refine PySem.W.methodCall_KW (ld_glob I hg hm ?_ hdb) hc
 refine PySem.W.method_cls I.kIn rd.ga (PySem.W.cls_value I.kIn rd.rd vN (by decide +kernel) ?_)
 show wpAny _ _ (callWith pos (Value.builtin "ValueError.__init__") [] (backTo pos (starEach (e :: es) X.env)) []) _ _ _
 refine PyProof.Rows.callWith_method1 (thn (ha.run pos pins _ σ H _ (I.tok _) h) fun us s1 ⟨vs, H1, I1, r1, a, C, ws, ev, hl, T, ea, q⟩ => ?_) he hpl
 subst ev
 cases r1 with
 | @cons _ u0 _ ur ra rw' =>
  obtain rfl : u0 = Value.ref a := ra
  have hlen : ur.length ≤ sizeLine := by
   rw [← Paired.length rw', sizeLine_eq]
   omega
  exact oinit_ok T I1 ea hlen fun s' J => ⟨.non, H1, J, rfl, q⟩
end
end L2
namespace Pc
open PySem PySem.Spec PyProof.Rows L2
structure ExF (K : PySem.W.Frag) (C N fI : Addr) (f : Str) : Prop where
 oex : OexC K C
 iC : PySem.W.findIn K (.ref C) "__init__" = some (some (.ref fI))
 tI : PySem.W.typeIn K (.ref fI) = some (.type "function")
 no : PySem.W.findIn K (.ref C) f = some none
 xf : XfC K C
 rd : ClX.CRead K N (.type "type")
 vN : PySem.W.findCls K (.ref N) (.type "type") "__init__" = some (.val (.builtin "ValueError.__init__"))
def spX (C : Addr) (f : Str) : Sp := fun vs H Q E => ∃ (a : Addr) (v : V), vs = [.ref a, v] ∧ H a = some (exo a C none) ∧ ∀ dx, H dx = none → dx ≠ a → Q .non (upd (upd H dx (exd dx [(f, v)])) a (exo a C (some dx)))
def CXn : CXT := fun _ _ _ _ _ _ => False
theorem aGW {X : Cx} {E : XK} : Passes CXn X E := fun _ _ _ _ _ _ _ h => h.elim
theorem aDM {P : Program} {w : World} {K : PySem.W.Frag} {mg : Str → Option Value} {base : Heap} {C N fI : Addr} {f xN a qual txt : Str} {fd : FuncData} {params : Arguments} {scope : Scope} {body : List Stmt} {p1 p2 p3 p4 p5 p6 p7 p8 p9 p10 : Pos} {j : Nat}
  (T : ExF K C N fI f) (F : FunD K "__init__" qual params body scope [] [] fI fd) (Sc : FnScope ["self", a] ["self", a] scope)
  (hb : body = [.Expr (.Call (.Attribute (.Name xN p1) "__init__" p2) [.Name "self" p3, .Constant (.str txt) j p4] [] p5) p6, .Assign [.Attribute (.Name "self" p7) f p8] (.Name a p9) p10])
  (hg : scope.names.lookup xN = some .globalImplicit) (hm : mg xN = some (.ref N)) (hdb : (xN == ("__debug__" : Str)) = false) (v0 : Vis scope "self") (v1 : Vis scope a) (d1 : (a == ("__debug__" : Str)) = false) (d2 : (a == ("__classdict__" : Str)) = false)
  {pl : Env → Sem Bool} (hc : ∀ env : Env, eval (.Call (.Attribute (.Name xN p1) "__init__" p2) [.Name "self" p3, .Constant (.str txt) j p4] [] p5) env = (do
   let ov ← eval (.Name xN p1) env
   standAt p2.atName
   let (f, first) ← holding [ov] (getMethod ov "__init__" (pl env))
   callWith p5 f first (backTo p5 (starEach [.Name "self" p3, .Constant (.str txt) j p4] env)) (backToKw p5 (keywordEach [] env))))
  (hs1 : ∀ env : Env, swapsWith (.Call (.Attribute (.Name xN p1) "__init__" p2) [.Name "self" p3, .Constant (.str txt) j p4] [] p5) none p6.line env = pure false)
  (hs2 : ∀ env : Env, swapsWith (.Name a p9) (some (.Attribute (.Name "self" p7) f p8)) p10.line env = pure false) :
  FnOk P w K mg base CXn 1 fI fd ["self", a] (spX C f) := by
 subst hb
 refine F.ok Sc (fun vs H Q E ⟨b, v, e, _⟩ => by rw [e]; rfl) fun cdv A outer s H vs Q E hr ⟨b, v, e, hb, k⟩ => ?_
 subst e
 refine ⟨_, pss_cons (ps_expr (aA5 (by exact hg) (by exact hm) hdb (by exact T.rd) (by exact T.vN) (pa_cons (pe_var (i := 0) rfl (by exact v0)) (pa_cons pe_str pa_nil)) (hc _)) (hs1 _)) (pss_one (ps_ost (pe_var (i := 0) rfl (by exact v0)) (pe_var (i := 1) rfl (by exact v1) d1 d2) (hs2 _))), ?_⟩
 refine ⟨.ref b, rfl, b, C, [.str txt], rfl, by simp, T.oex, hb, ?_⟩
 refine ⟨v, rfl, .ref b, rfl, b, C, rfl, T.oex, T.no, .inl ⟨hb, fun dx n ne => ?_⟩⟩
 exact k dx n ne
def AB (C : Addr) (f : Str) (me : ME) : MS := fun σ w => (me σ w).bind fun d w1 => .vY ⟨.ref C, some [(f, d)]⟩ w1
theorem QP {S : aR} {C N fI : Addr} {f x : Str} {fd : FuncData} {ps : List Str} {e : Expr} {me : ME} {p cpos pos : Pos} (hk : 2 ≤ S.k) (T : ExF S.K C N fI f) (F1 : FnOk S.P S.w S.K S.mg S.base CXn 1 fI fd ps (spX C f)) (hb : Binds S.K fd ps [])
  (hg : S.sc.names.lookup x = some .globalImplicit) (hm : S.mg x = some (.ref C)) (he : JE S e me) (hdb : (x == ("__debug__" : Str)) = false := by decide)
  (hst : ∀ env : Env, starEach [e] env = (false, eval e env) :: starEach [] env := by intro _; rfl) (hpl : ∀ env : Env, (backTo cpos (starEach [] env)).any (·.1) = false := by intro _; rfl) :
  JS S (.Raise (some (.Call (.Name x p) [e] [] cpos)) none pos) (AB C f me) := fun X E cx xo => by
 have T' : ExF X.K C N fI f := by rw [cx.K]; exact T
 have F' : FnOk X.prog X.w X.K X.mg X.base CXn 1 fI fd ps (spX C f) := by rw [cx.P, cx.w, cx.K, cx.mg, cx.base]; exact F1
 refine jF (ps_raise cx.calm xo.tk (pmk_oex (dvs := []) T'.oex T'.iC T'.tI F' (cx.room.mono hk) (by rw [cx.K]; exact hb) .nil aGW (by show X.env.scope.names.lookup x = _; rw [cx.sc]; exact hg) (by rw [cx.mg]; exact hm) (pa_cons (he X E cx xo) pa_nil (hst X.env)) hdb (hst X.env) (hpl X.env))) fun Z σ H ⟨I, F, G, ds, w, rel, rs, p⟩ => ?_
 refine bX (f := fun _ d w1 => (Res.vY ⟨.ref C, some [(f, d)]⟩ w1 : Res Fl)) rel rs p fun I1 F1 H1 y w1 v e1 rel1 rs1 rv p1 => ?_
 refine ⟨by simp, fun a na => ⟨a, v, rfl, upd_same, fun dx n ne => ⟨rfl, dx, [(f, v)], upd_same, ?_, ?_, ?_⟩⟩⟩
 ·rw [upd_ne ne, upd_same]
 ·rw [upd_ne ne] at n
  exact n
 have n' : H1 dx = none := by rw [upd_ne ne] at n; exact n
 have eH : upd (del (upd (upd (upd H1 a (exo a C none)) dx (exd dx [(f, v)])) a (exo a C (some dx))) a) dx (.xd [(f, v)]) = upd H1 dx (.xd [(f, v)]) := by
  funext b
  by_cases h1 : b = dx
  ·rw [h1, upd_same, upd_same]
  ·rw [upd_ne h1, upd_ne h1]
   by_cases h2 : b = a
   ·rw [h2, del_same, na]
   ·rw [del_ne h2, upd_ne h2, upd_ne h1, upd_ne h2]
 rw [eH]
 exact p1 I1 F1 _ (.ref C) (some dx) .refl (rel1.aHI n') ⟨rfl, dx, [(f, v)], rfl, upd_same, ⟨v, [], rfl, rv, rfl⟩⟩
def kmL (l : List (Addr × Bool)) : Value → Option Bool
 | .ref a => l.lookup a
 | _ => none
def ZK (K : PySem.W.Frag) (Hc : Addr) (l : List (Addr × Bool)) : Prop := ∀ a b, l.lookup a = some b → PySem.W.exmOne K (.ref a) (.ref Hc) = some b
def unI (i : Nat) : Fl → Fl
 | .nx s => .nx (s.set i none)
 | .rt d => .rt d
 | .bk s => .bk (s.set i none)
 | .ct s => .ct (s.set i none)
def forget (σ : Sg) : Sg := List.replicate σ.length none
def calm {α : Type} : Res α → Res α
 | .ok a w => .ok a w
 | _ => .bad
def SJ (mb : MS) (l : List (Addr × Bool)) (i : Nat) (ms : XD → MS) : MS := fun σ w => match mb σ w with
 | .ok f w1 => .ok f w1
 | .bad => .bad
 | .vY x w1 => match kmL l x.cls with
  | some true => (calm (ms x (forget σ) w1)).bind fun f w2 => .ok (unI i f) w2
  | some false => .vY x w1
  | none => .bad
def aEp (K : PySem.W.Frag) (i : Nat) (a : Addr) (cls : Value) (d : Option Addr) (ms : XD → MS) : TS := fun Z σ H => σ[i]? = some (some (.ref a)) ∧ ∃ I F G ds w x, Rel K I F G w H ∧ dW K I F ds σ ∧ zT K I F H x cls d ∧ bF K I F G (fun _ _ _ => False) (RFl K Z) (calm (ms x ds w))
def JSu (S : aR) (i : Nat) (suite : List Stmt) (ms : XD → MS) : Prop := ∀ (X : Cx) (a : Addr) (oe : Obj) (cls : Value) (d : Option Addr) (pn : List (Addr × Obj)), Ctx S X → Zc cls d oe → (∃ vs, oe.data = .fields vs) → PSs (X.suite a ((a, oe) :: pn)) suite (aEp X.K i a cls d ms)
theorem dW.forget {K : PySem.W.Frag} {I : List Addr} {F : Hp} {ds : Sg} {s : L2.St} (h : ds.length = s.length) : dW K I F (forget ds) s := by
 refine ⟨by simp [Pc.forget, h], fun i d e => ?_⟩
 unfold Pc.forget at e
 rw [List.getElem?_replicate] at e
 split at e <;> cases e
def Top (X : Cx) : Prop := X.stack = X.env :: X.outer ∧ X.env.frame = some X.env.locals
def JST (S : aR) (st : Stmt) (m : MS) : Prop := ∀ X E, Ctx S X → qL X E → Top X → PS X st (FG X.K E m)
def XX (S : aR) (st : List Stmt) (m : MS) : Prop := ∀ X E, Ctx S X → qL X E → Top X → PSs X st (FG X.K E m)
theorem JS.t {S : aR} {st : Stmt} {m : MS} (h : JS S st m) : JST S st m := fun X E cx xo _ => h X E cx xo
theorem qK.t {S : aR} {st : List Stmt} {m : MS} (h : qK S st m) : XX S st m := fun X E cx xo _ => h X E cx xo
theorem NC {S : aR} {st : Stmt} {sts : List Stmt} {a b : MS} (h1 : JST S st a) (h2 : XX S sts b) : XX S (st :: sts) (aI a b) := fun X E cx xo t =>
 zI (pss_cons (h1 X E cx xo t) (h2 X E cx xo t)) fun Z σ H h => NJ h
theorem aCu {S : aR} {st : Stmt} {a : MS} (h1 : JST S st a) : XX S [st] a := fun X E cx xo t => pss_one (h1 X E cx xo t)
theorem aF8 {S : aR} {Hc : Addr} {l : List (Addr × Bool)} {i : Nat} {x n : Str} {body suite : List Stmt} {b₀ : Stmt} {np pos pos' : Pos} {mb : MS} {ms : XD → MS} (hi : S.N[i]? = some n) (hln : S.sc.names.lookup n = some .local) (hg : S.sc.names.lookup x = some .globalImplicit) (hm : S.mg x = some (.ref Hc))
  (km : ZK S.K Hc l) (hb : qK S body mb) (hs : JSu S i (b₀ :: suite) ms) (hdb : (x == ("__debug__" : Str)) = false := by decide) :
  JST S (.Try body [.ExceptHandler (some (.Name x np)) (some n) (b₀ :: suite) pos'] [] [] pos) (SJ mb l i ms) := fun X E cx xo ⟨s1, s2⟩ => by
 have hi' : X.N[i]? = some n := by rw [cx.N]; exact hi
 have PT := ps_try_as (X := X) (i := i) (x := x) (n := n) (np := np) (pos := pos) (pos' := pos') (body := body) (b₀ := b₀) (suite := suite) (c := .ref Hc) (tb := fun W => FG X.K (fun cls d H => ∀ σ' : L2.St, σ'.length = X.N.length → W cls d σ' H) mb) (ts := fun a cls d => aEp X.K i a cls d ms) (Wout := fun cls d _ H => E cls d H) s1 s2 cx.nd hi' (by show X.env.scope.names.lookup n = _; rw [cx.sc]; exact hln)
  ⟨by show X.env.scope.names.lookup x = _; rw [cx.sc]; exact hg, hdb, .inl (by rw [cx.mg]; exact hm)⟩ xo.tk (fun W pn xe tk ow => by
   have cx' : Ctx S (X.tr pn xe) := ⟨cx.P, cx.w, cx.K, cx.mg, cx.base, cx.N, cx.sc, cx.fn, cx.calm, cx.room, cx.gds, cx.nd⟩
   refine hb (X.tr pn xe) _ cx' ⟨fun u s' ⟨a, B, sI, pins, σ, H, cls, d, e, J, nb, up, sky, na, os, ag, w⟩ => ?_, ow⟩
   exact tk u s' ⟨a, B, sI, pins, σ, H, cls, d, e, J, nb, up, sky, na, os, ag, w σ J.len⟩) (fun a oe cls d pn hz hf => hs X a oe cls d pn cx hz hf)
 refine ⟨fun pins s σ H Z J ⟨I, F, G, ds, w, rel, rs, p⟩ => PT.run pins s σ H Z J ?_⟩
 have hlen0 : ds.length = X.N.length := by rw [rs.1]; exact J.len
 refine ⟨I, F, G, ds, w, rel, rs, ?_⟩
 unfold SJ at p
 cases hr : mb ds w with
 | ok f w1 => rw [hr] at p; exact p
 | bad => rw [hr] at p; exact p.elim
 | vY z w1 =>
  rw [hr] at p
  intro I' F' H' c d e rel' rx σ' hlen
  have ec : c = z.cls := rx.1
  have hl : ds.length = σ'.length := by rw [hlen, hlen0]
  simp only at p
  cases hk : kmL l z.cls with
  | none => rw [hk] at p; exact p.elim
  | some b =>
   rw [hk] at p
   have hex : PySem.W.exmOne X.K c (.ref Hc) = some b := by
    rw [ec, cx.K]
    unfold kmL at hk
    split at hk
    ·rename_i a ha
     rw [ha]
     exact km a b hk
    ·cases hk
   refine ⟨b, hex, fun hb a na => ?_, fun hb => ?_⟩
   ·subst hb
    simp only at p
    have hin : i < σ'.length := by rw [hlen]; exact (ai.mp hi').1
    refine ⟨bf hin, I', F', G, forget ds, w1, z, rel', dW.forget (by rw [di]; exact hl), rx, ?_⟩
    have p' := (bF.ext (bF.bind p) e)
    cases hq : calm (ms z (forget ds) w1) with
    | bad => rw [hq] at p'; exact p'.elim
    | vY y w2 => unfold calm at hq; split at hq <;> cases hq
    | ok f w2 =>
     rw [hq] at p'
     intro I2 F2 H2 e2 rel2
     have p2 := p' I2 F2 H2 e2 rel2
     have p3 := p2 I2 F2 H2 .refl rel2
     cases f with
     | nx s => exact fun s' hs' => p3 (s'.set i none) (hs'.unset i none)
     | rt d => exact fun v hv => p3 v hv
     | bk s => exact fun s' hs' => p3 (s'.set i none) (hs'.unset i none)
     | ct s => exact fun s' hs' => p3 (s'.set i none) (hs'.unset i none)
   ·subst hb
    exact p I' F' H' c d e rel' rx
theorem gI.ofT {S : aR} {x qual : Str} {params : Arguments} {body : List Stmt} {scope : Scope} {dvs : List V} {kws : List (Str × V)} {f : Addr} {fd : FuncData} {N ps : List Str} {k : Nat} {mb : MS} {m : MF}
  (F : FunD S.K x qual params body scope dvs kws f fd) (Sc : FnScope N ps scope) (hb : XX (S.body k N scope) body mb) (hm : ∀ ds w, ds.length = ps.length → Fits w (m ds w) (bP mb N ds w)) : gI S.P S.w S.K S.mg S.base (k + 1) f fd ps m := by
 refine ⟨fun A outer s H args us vs Q E hr hg e0 hbt r hl hsp => ?_⟩
 obtain ⟨oc, od, dV, kV, doc, pm, an, cdv, ct, osl, rfl, lk, hcd, _, _⟩ := F.ex
 have KX : S.K.In s.heap := e0.mod.kin.keeps fun b o e => (e0.bs b o e).1
 have lim : s.heap.NoLimit := e0.mod.nolimit.keeps fun b o e => (e0.bs b o e).1
 have kinds : ∀ y ∈ ps.zip us, scope.names.lookup y.1 = some .local ∨ (scope.names.lookup y.1 = some .cell ∧ ((cellsFrom (s.heap.objs.size + 1) scope.names []).lookup y.1).isSome = true) := by
  rintro ⟨n, v⟩ hy
  have hn : n ∈ ps := (List.of_mem_zip hy).1
  rcases Sc.par n hn with q | q
  ·exact Or.inl q
  ·exact Or.inr ⟨q, PySem.W.cellsFrom_some _ _ _ (.inl q)⟩
 refine codeAny_call_function hr.depth (KX _ _ lk) rfl Sc.co Sc.gen rfl (PySem.W.codeRec_of KX hcd) (hbt _ _ _ _ ?_)
 refine wpAny_newFunctionEnv_cells Sc.kind kinds fun env he s1 y => ?_
 subst he
 refine ⟨lim.keeps y.toInCall.keep, codeAny_func ?_⟩
 obtain ⟨I, F0, G, ds, w, rel, rl, p⟩ := hsp
 have J : Inv (cxOf (L2.CX S.P S.w) S.P S.w S.K S.mg S.base N qual scope f cdv A outer s H E) [] (start N vs) H s1 := inv_start Sc hr.hd e0 hl r y
 have cx : Ctx (S.body k N scope) (cxOf (L2.CX S.P S.w) S.P S.w S.K S.mg S.base N qual scope f cdv A outer s H E) := ⟨rfl, rfl, rfl, rfl, rfl, rfl, rfl, fun _ _ => rfl, rfl, hr.deeper _, hg, Sc.nd⟩
 have xo : qL (cxOf (L2.CX S.P S.w) S.P S.w S.K S.mg S.base N qual scope f cdv A outer s H E) E := ⟨takes_of rfl rfl rfl rfl, passes_of rfl⟩
 have p' : bF S.K I F0 G E (RV S.K Q) (bP mb N ds w) := p.fits rel (hm ds w (by rw [rl.length]; exact hl))
 have go := (hb _ E cx xo ⟨rfl, rfl⟩).run [] s1 (start N vs) H { nx := fun _ H' => Q .non H', rt := Q } J ⟨I, F0, G, begin N ds, w, rel, rl.aBd N, (bF.bind p').mono fun I1 F1 H1 fl w1 _ e1 rel1 p1 => ?_⟩
 ·refine wpAny_mono go (fun fl s' hs => ?_) fun e s' hs => hs
  cases fl with
  | ret u =>
   obtain ⟨v, σ', H', J', rv, q⟩ := hs
   exact ⟨v, H', J'.os, J'.bare, J'.base, J'.hok, rv, q⟩
  | next =>
   obtain ⟨σ', H', J', q⟩ := hs
   exact ⟨V.non, H', J'.os, J'.bare, J'.base, J'.hok, rfl, q⟩
  | brk =>
   obtain ⟨_, _, _, q⟩ := hs
   exact q.elim
  | cont =>
   obtain ⟨_, _, _, q⟩ := hs
   exact q.elim
 ·cases fl with
  | nx z => exact fun s' _ => p1.nL rel1 (by simp [aH])
  | rt d => exact fun v rv => p1.nL rel1 rv
  | bk z => exact p1.elim
  | ct z => exact p1.elim
def wR (Cs : List Addr) (f : Str) (x : XD) : Option D := match x.cls, x.fs with
 | .ref C, some fs => if Cs.contains C = true then fs.lookup f else none
 | _, _ => none
def aBx (K : PySem.W.Frag) (Cs : List Addr) (f : Str) : Prop := ∀ C ∈ Cs, XfC K C ∧ PySem.W.findIn K (.ref C) f = some none
theorem aBv {K : PySem.W.Frag} {I : List Addr} {F H : Hp} {x : XD} {cls : Value} {d : Option Addr} {Cs : List Addr} {f : Str} {y : D} (rx : zT K I F H x cls d) (e : wR Cs f x = some y) :
  ∃ C dd fs v, C ∈ Cs ∧ cls = .ref C ∧ d = some dd ∧ H dd = some (.xd fs) ∧ fs.lookup f = some v ∧ aH K I F y v := by
 obtain ⟨ec, h⟩ := rx
 unfold wR at e
 split at e
 ·rename_i C gs h1 h2
  rw [h2] at h
  obtain ⟨dd, r, e1, e2, e3⟩ := h
  split at e
  ·rename_i hc
   have := aQ.lookup f e3
   rw [e] at this
   obtain ⟨v, e4, e5⟩ := this
   exact ⟨C, dd, r, v, by simpa using hc, by rw [ec, h1], e1, e2, e4, e5⟩
  ·cases e
 ·cases e
theorem aEV {K : PySem.W.Frag} {Hc : Addr} : ZK K Hc [] := fun a b e => nomatch e
theorem aDa {K : PySem.W.Frag} {Hc a : Addr} {b : Bool} {l : List (Addr × Bool)} (h : PySem.W.exmOne K (.ref a) (.ref Hc) = some b) (t : ZK K Hc l) : ZK K Hc ((a, b) :: l) := fun a' b' e => by
 rw [List.lookup_cons] at e
 by_cases q : a' = a
 ·subst q
  simp at e
  rw [← e]
  exact h
 ·have : (a' == a) = false := by simpa using q
  rw [this] at e
  exact t a' b' e
theorem aFW {K : PySem.W.Frag} {f : Str} : aBx K [] f := fun C h => nomatch h
theorem aDs {K : PySem.W.Frag} {C N fI : Addr} {f : Str} {l : List Addr} (h : ExF K C N fI f) (t : aBx K l f) : aBx K (C :: l) f := fun C' hC => by
 rcases bh.mp hC with rfl | hC
 ·exact ⟨h.xf, h.no⟩
 ·exact t C' hC
def aFr (K : PySem.W.Frag) (C : Addr) : Bool := match K.lookup C with
 | some ⟨.type t, _, .cls ⟨_, _, .ref C' :: bm, _, _, hd, _, _, _, _, del⟩, ⟨[_, _, _, _, some (.builtin n), _]⟩⟩ => t == "type" && decide (C' = C) && hd && !del && n == "ValueError.__new__" && PySem.HandSPX.refsVE bm
 | _ => false
theorem aBP {K : PySem.W.Frag} {C : Addr} (h : aFr K C = true) : ∃ nm q N bs bm sn sub ab col dd k0 k1 k2 k3 k5, K.lookup C = some (excClassObj nm q C N bs bm true sn sub ab col dd k0 k1 k2 k3 k5 "ValueError.__new__") ∧ PySem.HandSPX.refsVE bm = true := by
 unfold aFr at h
 split at h
 ·rename_i t dd nm bs C' bm N q hd sn sub ab col del k0 k1 k2 k3 n k5 e
  simp only [ao, beq_iff_eq, ak, Bool.not_eq_true'] at h
  obtain ⟨⟨⟨⟨⟨rfl, rfl⟩, rfl⟩, rfl⟩, rfl⟩, h6⟩ := h
  exact ⟨nm, q, N, bs, bm, sn, sub, ab, col, dd, k0, k1, k2, k3, k5, e, h6⟩
 ·cases h
def aFG : Option PySem.W.CFound → String → Bool
 | some (.val (.builtin n)), x => n == x
 | _, _ => false
theorem aCR {r : Option PySem.W.CFound} {x : String} (h : aFG r x = true) : r = some (.val (.builtin x)) := by
 unfold aFG at h
 split at h
 ·rw [beq_iff_eq] at h
  rw [h]
 ·cases h
def aGb (K : PySem.W.Frag) (C N fI : Addr) (f : Str) : Bool :=
 aFr K C && He.eqO (PySem.W.findIn K (.ref C) "__setattr__") (some (some (.builtin "object.__setattr__"))) && decide (PySem.W.subIn K (.ref C) (.type "BaseException") = some true) && decide (PySem.W.typeIn K (.ref C) = some (.type "type")) && PySem.W.keepIn K (.ref C) &&
 He.eqO (PySem.W.findIn K (.ref C) "__init__") (some (some (.ref fI))) && decide (PySem.W.typeIn K (.ref fI) = some (.type "function")) && He.eqO (PySem.W.findIn K (.ref C) f) (some none) && xfB K C &&
 PySem.W.readsIn K N (.type "type") && He.eqO (PySem.W.specialIn K (.ref N) "__getattribute__") (some (some (.builtin "type.__getattribute__"))) && aFG (PySem.W.findCls K (.ref N) (.type "type") "__init__") "ValueError.__init__"
theorem aC2 {K : PySem.W.Frag} {C N fI : Addr} {f : Str} (h : aGb K C N fI f = true) : ExF K C N fI f := by
 unfold aGb at h
 simp only [ao, ak] at h
 obtain ⟨⟨⟨⟨⟨⟨⟨⟨⟨⟨⟨h1, h2⟩, h3⟩, h4⟩, h5⟩, h6⟩, h7⟩, h8⟩, h9⟩, h10⟩, h11⟩, h12⟩ := h
 exact ⟨⟨aBP h1, He.eqO_ok h2, h3, h4, h5⟩, He.eqO_ok h6, h7, He.eqO_ok h8, xfB_ok h9, ⟨h10, He.eqO_ok h11⟩, aCR h12⟩
def aHp (K : PySem.W.Frag) (C Hc : Addr) (b : Bool) : Bool := decide (PySem.W.exmOne K (.ref C) (.ref Hc) = some b)
theorem aB0 {K : PySem.W.Frag} {C Hc : Addr} {b : Bool} (h : aHp K C Hc b = true) : PySem.W.exmOne K (.ref C) (.ref Hc) = some b := of_decide_eq_true h
theorem aAh {K : PySem.W.Frag} {fd : FuncData} {ps : List Str} (h : ∀ (s : Shared) (us : List Value), us.length = ps.length → BindsTo s fd ⟨us, []⟩ (ps.zip us)) : Binds K fd ps [] := fun s us _ hl => by
 rw [List.append_nil] at hl ⊢
 exact h s us hl
def xA (d : D) (w : W) : Res l9 := match d with
 | .ref i => (match w[i]? with
  | some (.dT kvs) => .ok ⟨kvs.map fun p => .tup (p.1.map gG), always⟩ (w.set i (.dG kvs))
  | some (.dG kvs) => .ok ⟨kvs.map fun p => .tup (p.1.map gG), always⟩ w
  | _ => .bad)
 | _ => .bad
def vI (m : ME) : MI := fun σ w => (m σ w).bind xA
def aFo (te : TE) : TE := fun σ H Q => te σ H fun x H1 => ∃ d, x = V.ref d ∧ ((∃ kvs, H1 d = some (.dT kvs) ∧ ∀ o, Q x (upd H1 d (.frz o (.dT kvs)))) ∨ ∃ o kvs, H1 d = some (.frz o (.dT kvs)) ∧ Q x H1)
theorem aAq {X : Cx} {e : Expr} {te : TE} (h : PE X e te) : PE X e (aFo te) := ⟨fun pins s σ H Q J q => thn (h.run pins s σ H _ J q) fun u s1 ⟨x, H1, J1, r, d, ex, k⟩ => by
 rcases k with ⟨kvs, hd, k⟩ | ⟨o, kvs, hd, k⟩
 ·obtain ⟨o, J2⟩ := J1.lock hd trivial
  exact ⟨x, _, J2, r, k o⟩
 ·exact ⟨x, _, J1, r, k⟩⟩
theorem Q6 {K : PySem.W.Frag} {I : List Addr} {F : Hp} : ∀ ks : List Key, RepL K I F (ks.map gG) (ks.map kV)
 | [] => by simp [RepL]
 | k :: ks => RepL.cons (tK k) (Q6 ks)
theorem aAy {K : PySem.W.Frag} {I : List Addr} {F G H : Hp} {w : W} {ds : List D} {vs : List V} (rel : Rel K I F G w H) (r : ∀ F', RepL K I F' ds vs) {q : Addr} (hq : H q = some (.tup vs)) : ∃ F2, Ext I F I F2 ∧ Rel K I F2 G w H ∧ aH K I F2 (.tup ds) (.ref q) := by
 cases hF : F q with
 | some u =>
  have := rel.fz _ _ hF
  rw [hq] at this
  cases this
  refine ⟨F, .refl, rel, ?_⟩
  simp only [aH]
  exact ⟨q, vs, rfl, hF, r F⟩
 | none =>
  have e : Ext I F I (upd F q (.tup vs)) := ⟨List.prefix_refl _, fun a u h => by rw [upd_ne (ne_of_none h hF)]; exact h⟩
  refine ⟨_, e, ⟨rel.len, rel.nd, fun i a o h1 h2 => ?_, fun a u h => ?_, fun i a o h h0 hf => ?_, rel.gz, fun a u h => ?_, rel.gt⟩, ?_⟩
  ·obtain ⟨u, h3, h4⟩ := rel.ob i a o h1 h2
   exact ⟨u, h3, kP.ext e h4⟩
  ·by_cases ha : a = q
   ·subst ha; rw [upd_same] at h; cases h; exact hq
   ·rw [upd_ne ha] at h; exact rel.fz a u h
  ·have ha : a ≠ q := fun z => by
    subst z
    obtain ⟨u, h3, h4⟩ := rel.ob i a o h h0
    rw [hq] at h3
    cases h3
    cases o with
    | lst xs => obtain ⟨_, z, _⟩ := h4; cases z
    | dK xs => obtain ⟨_, z, _⟩ := h4; cases z
    | dT xs => obtain ⟨_, z, _⟩ := h4; cases z
    | dF xs => cases hf
    | dG xs => cases hf
    | ins C xs => obtain ⟨_, _, z, _⟩ := h4; cases z
   rw [upd_ne ha]; exact rel.ap i a o h h0 hf
  ·have ha : a ≠ q := fun z => by
    subst z
    have := rel.gz a u h
    rw [hq] at this
    cases this
    exact rel.gt a vs h
   rw [upd_ne ha]; exact rel.gf a u h
  ·simp only [aH]
   exact ⟨q, vs, rfl, upd_same, r _⟩
theorem XM {K : PySem.W.Frag} {I : List Addr} {F G H : Hp} {w : W} {i : Nat} {a : Addr} {kvs : List (List Key × D)} {r : List (List Key × V)} (o : Obj) (rel : Rel K I F G w H) (hi : I[i]? = some a) (hw : w[i]? = some (.dT kvs)) (hr : aQ K I F kvs r) :
  Ext I F I (upd F a (.frz o (.dT r))) ∧ Rel K I (upd F a (.frz o (.dT r))) G (w.set i (.dG kvs)) (upd H a (.frz o (.dT r))) := by
 have hF : F a = none := rel.ap i a _ hi hw rfl
 have rel' := rel.upd (u' := .frz o (.dT r)) (o' := .dG kvs) hi hw ⟨o, r, rfl, hr⟩
 have e : Ext I F I (upd F a (.frz o (.dT r))) := ⟨List.prefix_refl _, fun b u h => by rw [upd_ne (ne_of_none h hF)]; exact h⟩
 refine ⟨e, rel'.len, rel'.nd, fun j b q h1 h2 => ?_, fun b u h => ?_, fun j b q h1 h2 h3 => ?_, rel'.gz, fun b u h => ?_, rel.gt⟩
 ·obtain ⟨u, h3, h4⟩ := rel'.ob j b q h1 h2
  exact ⟨u, h3, kP.ext e h4⟩
 ·by_cases hb : b = a
  ·subst hb; rw [upd_same] at h ⊢; exact h
  ·rw [upd_ne hb] at h; exact rel'.fz b u h
 ·have hb : b ≠ a := fun z => by
   subst z
   obtain ⟨l1, e1⟩ := ai.mp hi
   obtain ⟨l2, e2⟩ := ai.mp h1
   have hij : i = j := (List.getElem_inj rel.nd).mp (e1.trans e2.symm)
   subst hij
   rw [bf (ai.mp hw).1] at h2
   cases h2
   cases h3
  rw [upd_ne hb]; exact rel'.ap j b q h1 h2 h3
 ·obtain ⟨g1, g2⟩ := rel.gf b u h
  have hb : b ≠ a := fun z => g2 (by rw [z]; exact cb hi)
  exact ⟨by rw [upd_ne hb]; exact g1, g2⟩
theorem aAC {K : PySem.W.Frag} {I : List Addr} {F G H : Hp} {w : W} {i : Nat} {a : Addr} {kvs : List (List Key × D)} {o : Obj} {r : List (List Key × V)} (rel : Rel K I F G w H) (hi : I[i]? = some a) (hw : w[i]? = some (.dG kvs)) (ha : H a = some (.frz o (.dT r))) :
  ∃ F2, Ext I F I F2 ∧ Rel K I F2 G w H ∧ F2 a = some (.frz o (.dT r)) := by
 cases hF : F a with
 | some u =>
  have := rel.fz _ _ hF
  rw [ha] at this
  cases this
  exact ⟨F, .refl, rel, hF⟩
 | none =>
  have e : Ext I F I (upd F a (.frz o (.dT r))) := ⟨List.prefix_refl _, fun b u h => by rw [upd_ne (ne_of_none h hF)]; exact h⟩
  refine ⟨_, e, ⟨rel.len, rel.nd, fun j b q h1 h2 => ?_, fun b u h => ?_, fun j b q h1 h2 h3 => ?_, rel.gz, fun b u h => ?_, rel.gt⟩, upd_same⟩
  ·obtain ⟨u, h3, h4⟩ := rel.ob j b q h1 h2
   exact ⟨u, h3, kP.ext e h4⟩
  ·by_cases hb : b = a
   ·subst hb; rw [upd_same] at h; cases h; exact ha
   ·rw [upd_ne hb] at h; exact rel.fz b u h
  ·have hb : b ≠ a := fun z => by
    subst z
    obtain ⟨l1, e1⟩ := ai.mp hi
    obtain ⟨l2, e2⟩ := ai.mp h1
    have hij : i = j := (List.getElem_inj rel.nd).mp (e1.trans e2.symm)
    subst hij
    rw [hw] at h2
    cases h2
    cases h3
   rw [upd_ne hb]; exact rel.ap j b q h1 h2 h3
  ·obtain ⟨g1, g2⟩ := rel.gf b u h
   have hb : b ≠ a := fun z => g2 (by rw [z]; exact cb hi)
   exact ⟨by rw [upd_ne hb]; exact g1, g2⟩
theorem V0 {K : PySem.W.Frag} {I1 : List Addr} {F2 : Hp} {a : Addr} {o : Obj} {kvs : List (List Key × D)} {r : List (List Key × V)} (hF : F2 a = some (.frz o (.dT r))) (hr : aQ K I1 F2 kvs r) : FD K I1 F2 (Itkt a o r) ⟨kvs.map fun p => .tup (p.1.map gG), always⟩ := fun I' F' G' w' H' j e' rel' _ => by
 have hH : H' a = some (.frz o (.dT r)) := rel'.fz _ _ (e'.f _ _ hF)
 have hr' := aQ.ext e' _ _ hr
 have hlen : kvs.length = r.length := hr.length
 refine ⟨fun x hx => ?_, fun hl' => ⟨hH, by rw [cg] at hl'; omega⟩⟩
 rw [cu] at hx
 cases hk : kvs[j]? with
 | none => rw [hk] at hx; cases hx
 | some kd =>
  rw [hk] at hx
  cases hx
  refine ⟨⟨hH, by rw [← hlen]; exact (ai.mp hk).1⟩, fun v H'' y => ?_⟩
  obtain ⟨rfl, k, v', q, g1, rfl, g2⟩ := y
  obtain ⟨d', g3, _⟩ := hr'.get g1
  rw [hk] at g3
  cases g3
  exact aAy rel' (fun F' => Q6 k) g2
theorem aDe {S : aR} {tg e : Expr} {m : ME} (he : JE S e m) : JI S tg e (vI m) := fun X E cx xo =>
 zC (pi_keys (aAq (he X E cx xo))) fun σ H R ⟨I, F, G, ds, w, rel, rs, p⟩ => bX (f := fun _ => xA) rel rs p fun I1 F1 H1 d w1 v e1 rel1 rs1 rv p1 => by
  unfold xA at p1
  split at p1
  ·rename_i i
   simp only [aH] at rv
   obtain ⟨a, rfl, hi⟩ := rv
   split at p1
   ·rename_i kvs hw
    obtain ⟨u, hu, r, rfl, hr⟩ := rel1.ob i a _ hi hw
    refine ⟨a, rfl, .inl ⟨r, hu, fun o => ⟨a, o, rfl, .inr ⟨r, upd_same, ?_⟩⟩⟩⟩
    obtain ⟨e2, rel2⟩ := XM o rel1 hi hw hr
    exact p1 I1 _ _ e2 rel2 trivial _ (V0 upd_same (aQ.ext e2 _ _ hr))
   ·rename_i kvs hw
    obtain ⟨u, hu, o, r, rfl, hr⟩ := rel1.ob i a _ hi hw
    refine ⟨a, rfl, .inr ⟨o, r, hu, a, o, rfl, .inr ⟨r, hu, ?_⟩⟩⟩
    obtain ⟨F2, e2, rel2, hF2⟩ := aAC rel1 hi hw hu
    exact p1 I1 F2 _ e2 rel2 trivial _ (V0 hF2 (aQ.ext e2 _ _ hr))
   ·exact p1.elim
  ·exact p1.elim
abbrev Ez : XK := fun _ _ _ => False
theorem bF.calm {α β : Type} {K : PySem.W.Frag} {I : List Addr} {F G : Hp} {E : XK} {R : List Addr → Hp → Hp → β → W → Prop} {r : Res α} {f : α → W → Res β} (p : bF K I F G E R ((Pc.calm r).bind f)) : bF K I F G Ez (fun I1 F1 _ x w1 => bF K I1 F1 G E R (f x w1)) r := by
 cases r with
 | ok a w => exact fun I' F' H' e rel => bF.ext p e
 | vY x w => exact False.elim p
 | bad => exact False.elim p
def aHg (X : Cx) : Prop := Top X ∧ X.ex = []
def aII (S : aR) (st : Stmt) (m : MS) : Prop := ∀ X E, Ctx S X → qL X E → aHg X → PS X st (FG X.K E m)
def aGO (S : aR) (st : List Stmt) (m : MS) : Prop := ∀ X E, Ctx S X → qL X E → aHg X → PSs X st (FG X.K E m)
theorem JS.t3 {S : aR} {st : Stmt} {m : MS} (h : JS S st m) : aII S st m := fun X E cx xo _ => h X E cx xo
theorem qK.t3 {S : aR} {st : List Stmt} {m : MS} (h : qK S st m) : aGO S st m := fun X E cx xo _ => h X E cx xo
theorem Rel.hold {K : PySem.W.Frag} {I : List Addr} {F G H : Hp} {w : W} {x : XD} {c : Value} {d : Option Addr} (rel : Rel K I F G w H) (rx : zT K I F H x c d) :
  ∃ G', Rel K I F G' w H ∧ (∀ I2 F2 w2 H2, Ext I F I2 F2 → Rel K I2 F2 G' w2 H2 → Rel K I2 F2 G w2 H2 ∧ zT K I2 F2 H2 x c d) := by
 obtain ⟨ec, hx⟩ := rx
 cases hf : x.fs with
 | none =>
  rw [hf] at hx
  exact ⟨G, rel, fun I2 F2 w2 H2 e r2 => ⟨r2, ec, by rw [hf]; exact hx⟩⟩
 | some fs =>
  rw [hf] at hx
  obtain ⟨a, r, e1, e2, e3⟩ := hx
  have fin : ∀ {I2 F2 H2}, Ext I F I2 F2 → H2 a = some (.xd r) → zT K I2 F2 H2 x c d := fun e h => ⟨ec, by rw [hf]; exact ⟨a, r, e1, h, aQ.ext e _ _ e3⟩⟩
  have nI : a ∉ I := fun hm => by
   obtain ⟨i, hi⟩ := List.mem_iff_getElem?.mp hm
   have li : i < w.length := by rw [← rel.len]; exact (ai.mp hi).1
   obtain ⟨u, h1, h2⟩ := rel.ob i a w[i] hi (bj li)
   rw [e2] at h1
   cases h1
   cases hw : w[i] with
   | lst xs => rw [hw] at h2; obtain ⟨_, z, _⟩ := h2; cases z
   | dK xs => rw [hw] at h2; obtain ⟨_, z, _⟩ := h2; cases z
   | dT xs => rw [hw] at h2; obtain ⟨_, z, _⟩ := h2; cases z
   | dF xs => rw [hw] at h2; obtain ⟨_, _, z, _⟩ := h2; cases z
   | dG xs => rw [hw] at h2; obtain ⟨_, _, z, _⟩ := h2; cases z
   | ins C xs => rw [hw] at h2; obtain ⟨_, _, z, _⟩ := h2; cases z
  cases hF : F a with
  | some u =>
   have hu := rel.fz a u hF
   rw [e2] at hu
   cases hu
   exact ⟨G, rel, fun I2 F2 w2 H2 e r2 => ⟨r2, fin e (r2.fz a _ (e.f a _ hF))⟩⟩
  | none =>
   cases hG : G a with
   | some u =>
    have hu := rel.gz a u hG
    rw [e2] at hu
    cases hu
    exact ⟨G, rel, fun I2 F2 w2 H2 e r2 => ⟨r2, fin e (r2.gz a _ hG)⟩⟩
   | none =>
    refine ⟨L2.upd G a (.xd r), ⟨rel.len, rel.nd, rel.ob, rel.fz, rel.ap, fun b v hb => ?_, fun b v hb => ?_, fun b xs hb => ?_⟩, fun I2 F2 w2 H2 e r2 => ⟨r2.less hG, fin e (r2.gz a _ upd_same)⟩⟩
    ·by_cases q : b = a
     ·subst q
      rw [upd_same] at hb
      cases hb
      exact e2
     ·rw [upd_ne q] at hb
      exact rel.gz b v hb
    ·by_cases q : b = a
     ·subst q
      exact ⟨hF, nI⟩
     ·rw [upd_ne q] at hb
      exact rel.gf b v hb
    ·by_cases q : b = a
     ·subst q
      rw [upd_same] at hb
      cases hb
     ·rw [upd_ne q] at hb
      exact rel.gt b xs hb
end Pc
namespace PySem.W
open PySem PySem.Spec PySem.Calls PyProof.Rows
section
variable {prog : Program} {w : World} {A : Around} {E : Value → Shared → Prop} {s : Shared} {K : Frag} {x D : Addr} {ox od : Obj}
structure XT (K : Frag) (D : Addr) : Prop where
 hg : findIn K (.ref D) "__getattribute__" = some (some (.builtin "BaseException.__getattribute__"))
 hk : findIn K (.ref D) "__getattr__" = some none
 hs : subIn K (.ref D) (.type "BaseException") = some true
 hd : hasDictIn K D = true
 ha : findIn K (.ref D) "__class__" = some (some (.builtin "object.__class__"))
 hn : specialIn K (.builtin "object.__class__") "__get__" = some (some (.builtin "getset_descriptor.__get__"))
 ht : takesIn K (.builtin "object.__class__") = some true
 hm : mroIn K D (.type "object") = some true
def xcB (K : Frag) (D : Addr) : Bool := decide (findIn K (.ref D) "__getattribute__" = some (some (.builtin "BaseException.__getattribute__"))) && (decide (findIn K (.ref D) "__getattr__" = some none) && (decide (subIn K (.ref D) (.type "BaseException") = some true) && (hasDictIn K D && (decide (findIn K (.ref D) "__class__" = some (some (.builtin "object.__class__"))) &&
 (decide (specialIn K (.builtin "object.__class__") "__get__" = some (some (.builtin "getset_descriptor.__get__"))) && (decide (takesIn K (.builtin "object.__class__") = some true) && decide (mroIn K D (.type "object") = some true)))))))
theorem aF6 (h : xcB K D = true) : XT K D := by
 unfold xcB at h
 simp only [ao, ak] at h
 obtain ⟨h1, h2, h3, h4, h5, h6, h7, h8⟩ := h
 exact ⟨h1, h2, h3, h4, h5, h6, h7, h8⟩
theorem XT.cls (C : XT K D) : ∃ cd, clsIn K D = some cd := by
 obtain ⟨cd, h, _⟩ := any_some C.hd
 exact ⟨cd, h⟩
theorem XT.aFJ (C : XT K D) {Q : Option Value → Shared → Prop} (X : K.In s.heap) (I : InstAt s.heap x ox D (some od)) (h : Q (some (.ref D)) { s with toks := s.toks + 1 }) : wpAny (model prog w) A (getAttr? (.ref x) "__class__") Q E s := by
 obtain ⟨cd, hcd⟩ := C.cls
 have own : findObj K D (some od) "__class__" = some (.bind (.builtin "getset_descriptor.__get__") (.builtin "object.__class__")) := findObj_data (by rw [hcd]; rfl) C.ha C.hn C.ht
 obtain ⟨hp, gs, dr, tk, os⟩ := s
 have T0 := I.type (M := model prog w)
 have T1 := looks_findIn (M := model prog w) X C.hg
 have T2 := looks_findIn (M := model prog w) X C.hk
 have T3 := looks_find (M := model prog w) X I own
 have isB : Looks (model prog w) hp (isInstance (.ref x) (.type "BaseException")) true := T0.andThen (looks_subIn X C.hs)
 have n0 : (false && onTheHeap (Value.builtin "BaseException.__getattribute__")) = false := rfl
 have n1 : (onTheHeap (Value.ref D) && Value.builtin "BaseException.__getattribute__" == Value.builtin "object.__getattribute__") = false := by
  have : (Value.builtin "BaseException.__getattribute__" == Value.builtin "object.__getattribute__") = false := by decide +kernel
  rw [this]
  rfl
 unfold getAttr? getAttrBy? getAttrBy
 apply wpAny_bind
 apply wpAny_mkText
 apply wpAny_bind
 apply wpAny_attempt
 apply wpAny_holding
 apply wpAny_bind
 apply T0.at
 apply wpAny_bind
 apply T1.at
 show wpAny _ _ (if (onTheHeap (Value.ref D) && Value.builtin "BaseException.__getattribute__" == Value.builtin "object.__getattribute__") = true then _ else _) _ _ _
 rw [n1, if_neg Bool.false_ne_true]
 unfold getAttrByItsOwn hookBefore
 apply wpAny_bind
 rw [if_pos (show onTheHeap (Value.ref D) = true from rfl)]
 apply T2.at
 apply wpAny_bind
 apply wpAny_attempt
 apply wpAny_holding
 unfold callGetattribute
 rw [n0, if_neg Bool.false_ne_true]
 unfold boundAndCalled
 rw [PySem.F.excAttr_ValueError.ga.bind (.ref x)]
 apply wpAny_bind
 apply wpAny_pure
 show wpAny _ _ (call (.builtin "BaseException.__getattribute__") [.ref x, .str "__class__" tk]) _ _ _
 apply wpAny_call
 refine codeAny_call_builtin PySem.F.excAttr_ValueError.ga.plain PySem.F.entry_bexc_ga ?_
 refine @check_slot (model prog w) _ _ ⟨hp, gs, dr, tk + 1, os⟩ "BaseException.__getattribute__" "BaseException" "__getattribute__" (.ref x) [.str "__class__" tk] [] _ (by decide +kernel) (by decide +kernel) isB (PySem.F.args_bexc_ga (.ref x) (.str "__class__" tk)) ?_
 unfold Builtin.«object.__getattribute__»
 apply wpAny_bind
 refine wpAny_of_eq (a := ((Value.ref x : Value), [Value.str "__class__" tk])) (by first | rfl | (simp only [slotArgs]; rfl)) ?_
 apply wpAny_bind
 apply wpAny_pure
 apply wpAny_bind
 apply T0.at
 apply wpAny_bind
 apply T3.at
 show wpAny _ _ (holding [Value.builtin "object.__class__"] (call (.builtin "getset_descriptor.__get__") [.builtin "object.__class__", .ref x, .ref D]) >>= ret) _ _ _
 apply wpAny_bind
 apply wpAny_holding
 apply wpAny_call
 refine class_get (s := ⟨hp, gs, dr, tk + 1, os⟩) (ox := ox) (od := some od) X I C.hm ?_
 apply wpAny_pure
 show wpAny _ _ (handedOut (.ref D)) _ _ _
 rw [handedOut_of (v := .ref D) rfl]
 first
  | exact wpAny_pure (wpAny_pure h)
  | exact wpAny_pure h
  | exact wpAny_pure (wpAny_bind (wpAny_pure (wpAny_pure h)))
theorem XT.kit (C : XT K D) : KitX K (.ref x) (.ref D) (fun h => InstAt h x ox D (some od)) where
 ty := fun _ _ _ I => I.type
 it := fun _ _ X _ => by
  obtain ⟨cd, hcd⟩ := C.cls
  unfold clsIn at hcd
  split at hcd
  ·rename_i ho
   intro _ _ _ _ k q
   unfold isType loadHead
   exact wpAny_bind (wpAny_loadPart (k _ _ (X _ _ ho)) (wpAny_pure q))
  ·cases hcd
 ne := fun _ tp _ _ _ _ X htp => by
  obtain ⟨cd, hcd⟩ := C.cls
  cases hb : ((Value.ref D : Value) == .ref tp) with
  | false => rfl
  | true =>
   obtain rfl : D = tp := Value.ref.inj (beq_iff_eq.mp hb)
   unfold clsIn at hcd
   split at hcd
   ·rename_i ho
    rw [X _ _ ho] at htp
    cases htp
   ·cases hcd
 ca := fun X I k => C.aFJ X I k
end
end PySem.W
namespace L2
open PySem PySem.Spec PyProof.Rows
section
variable {X : Cx}
def aHs (K : PySem.W.Frag) (a : Addr) (cls : Value) (d : Option Addr) : List V → Hp → VK → Prop := fun xs H Q => ∃ (c : V) (cv : Value) (b : Bool) (D dd : Addr) (fs : List (Str × V)), xs = [.ref a, c] ∧ ClsV c cv ∧ cls = .ref D ∧ d = some dd ∧ H dd = some (.xd fs) ∧ PySem.W.XT K D ∧ PySem.W.kitOne K (.ref D) cv = some b ∧ Q (.bl b) H
def aDO (K : PySem.W.Frag) (a : Addr) (cls : Value) (d : Option Addr) : List V → Hp → VK → Prop := fun xs H Q => ∃ (tp : Addr) (cs : List V) (us : List Value) (b : Bool) (D dd : Addr) (fs : List (Str × V)), xs = [.ref a, .ref tp] ∧ H tp = some (.tup cs) ∧ Paired ClsV cs us ∧ cls = .ref D ∧ d = some dd ∧ H dd = some (.xd fs) ∧ PySem.W.XT K D ∧ PySem.W.kitAny K (.ref D) us = some b ∧ Q (.bl b) H
theorem ZF {a : Addr} {oe : Obj} {cls : Value} {d : Option Addr} {pn : List (Addr × Obj)} {pins : List (Addr × Obj)} {σ : St} {H : Hp} {s : Shared} {D dd : Addr} {fs : List (Str × V)} (I : Inv (X.suite a ((a, oe) :: pn)) pins σ H s) (hz : Zc cls d oe) (hf : ∃ vs, oe.data = .fields vs) (ec : cls = .ref D) (ed : d = some dd) (ea : H dd = some (.xd fs)) :
  ∃ od, PySem.W.InstAt s.heap a oe D (some od) := by
 subst ec ed
 obtain ⟨ha, _⟩ := I.pin (a, oe) (List.mem_append_left _ bc)
 obtain ⟨vs, hd⟩ := hf
 obtain ⟨mA, hns, _⟩ := (show ObjOk X.prog X.w H s.heap dd (.xd fs) from I.hok dd _ ea)
 obtain ⟨od, ho, _⟩ := lookIn_ns hns
 exact ⟨od, ha, hz.1, by unfold PySem.W.notCls; rw [hd] <;> rfl, by rw [hz.2]; exact ho⟩
theorem aBD {a : Addr} {oe : Obj} {cls : Value} {d : Option Addr} {pn : List (Addr × Obj)} (hz : Zc cls d oe) (hf : ∃ vs, oe.data = .fields vs) : CallR (X.suite a ((a, oe) :: pn)) (.builtin "isinstance") (aHs X.K a cls d) := by
 intro pins s σ H xs us Q I r h
 obtain ⟨c, cv, b, D, dd, fs, rfl, hcv, ec, ed, ea, C, e, q⟩ := h
 obtain ⟨u1, u2, rfl, r1, r2⟩ := vals2 r
 cases (show u1 = Value.ref a from r1)
 obtain rfl := hcv.eq r2
 obtain ⟨od, J⟩ := ZF I hz hf ec ed ea
 exact PySem.W.kia_one C.kit I.kIn J e (fun z => nomatch z) fun tk => ⟨.bl b, H, I.tok tk, rfl, q⟩
theorem W4 {a : Addr} {oe : Obj} {cls : Value} {d : Option Addr} {pn : List (Addr × Obj)} (hz : Zc cls d oe) (hf : ∃ vs, oe.data = .fields vs) : CallR (X.suite a ((a, oe) :: pn)) (.builtin "isinstance") (aDO X.K a cls d) := by
 intro pins s σ H xs us Q I r h
 obtain ⟨tp, cs, ws, b, D, dd, fs, rfl, hT, hk, ec, ed, ea, C, e, q⟩ := h
 obtain ⟨u1, u2, rfl, r1, r2⟩ := vals2 r
 cases (show u1 = Value.ref a from r1)
 cases (show u2 = Value.ref tp from r2)
 obtain ⟨od, J⟩ := ZF I hz hf ec ed ea
 obtain ⟨_, its, rv, o, h1, h2, n, h3⟩ := (show ObjOk X.prog X.w H s.heap tp (.tup cs) from I.hok tp _ hT)
 obtain rfl := ClsV.all hk rv
 obtain ⟨oc, od', dt, sl⟩ := o
 simp only at h2 h3
 subst h2 h3
 exact PySem.W.kia_tup C.kit I.kIn J h1 e (fun z => nomatch z) fun tk => ⟨.bl b, H, I.tok tk, rfl, q⟩
end
end L2
namespace Pc
open PySem PySem.Spec PyProof.Rows L2
structure XH where
 i : Nat
 a : Addr
 cls : Value
 d : Option Addr
 x : XD
def D5 (K : PySem.W.Frag) (h : XH) (I : List Addr) (F G : Hp) : Prop := ∀ I2 F2 w2 H2, Ext I F I2 F2 → Rel K I2 F2 G w2 H2 → zT K I2 F2 H2 h.x h.cls h.d
theorem D5.ext {K : PySem.W.Frag} {h : XH} {I I1 : List Addr} {F F1 G : Hp} (hd : D5 K h I F G) (e : Ext I F I1 F1) : D5 K h I1 F1 G := fun I2 F2 w2 H2 e2 r => hd I2 F2 w2 H2 (e.trans e2) r
structure aAP (S : aR) (i : Nat) (X : Cx) (h : XH) : Prop where
 K : X.K = S.K
 N : X.N = S.N
 sc : X.env.scope = S.sc
 mg : X.mg = S.mg
 nd : X.N.Nodup
 gds : X.A.guards = some []
 un : X.A.units + 200 < cLine
 at_ : ∃ (Y : Cx) (oe : Obj) (pn : List (Addr × Obj)), X = Y.suite h.a ((h.a, oe) :: pn) ∧ Zc h.cls h.d oe ∧ ∃ vs, oe.data = .fields vs
 i : h.i = i
 P : X.prog = S.P
 w : X.w = S.w
 base : X.base = S.base
 rm : X.A.depth + 3 * S.k + 5 < recursionLimit ∧ X.A.units + 16 * S.k + 200 < cLine
abbrev EU (h : XH) (σ : L2.St) : Prop := σ[h.i]? = some (some (.ref h.a))
def NI (K : PySem.W.Frag) (h : XH) (m : ME) : TE := fun σ H Q => EU h σ ∧ ∃ I F G ds w, Rel K I F G w H ∧ dW K I F ds σ ∧ D5 K h I F G ∧ bF K I F G Ez (RV K Q) (m ds w)
def aDW (K : PySem.W.Frag) (h : XH) (m : MA) : TA := fun σ H Q => EU h σ ∧ ∃ I F G ds w, Rel K I F G w H ∧ dW K I F ds σ ∧ D5 K h I F G ∧ bF K I F G Ez (RL K Q) (m ds w)
def aHb (K : PySem.W.Frag) (h : XH) (Z : Ends) : List Addr → Hp → Hp → Fl → W → Prop := fun I' F' H' f _ => match f with
 | .nx s => ∀ s', dW K I' F' s s' → EU h s' → Z.nx s' H'
 | .rt d => ∀ v, aH K I' F' d v → Z.rt v H'
 | .bk s => ∀ s', dW K I' F' s s' → Z.bk s' H'
 | .ct s => ∀ s', dW K I' F' s s' → Z.ct s' H'
def OV (K : PySem.W.Frag) (h : XH) (m : MS) : TS := fun Z σ H => EU h σ ∧ ∃ I F G ds w, Rel K I F G w H ∧ dW K I F ds σ ∧ D5 K h I F G ∧ bF K I F G Ez (aHb K h Z) (m ds w)
def SK (S : aR) (i : Nat) (e : Expr) (m : XD → ME) : Prop := ∀ X h, aAP S i X h → PE X e (NI X.K h (m h.x))
def JUA (S : aR) (i : Nat) (es : List Expr) (m : XD → MA) : Prop := ∀ X h, aAP S i X h → PA X es (aDW X.K h (m h.x))
def JUS (S : aR) (i : Nat) (st : Stmt) (m : XD → MS) : Prop := ∀ X h, aAP S i X h → PS X st (OV X.K h (m h.x))
def YM (S : aR) (i : Nat) (st : List Stmt) (m : XD → MS) : Prop := ∀ X h, aAP S i X h → PSs X st (OV X.K h (m h.x))
section
variable {α : Type} {K : PySem.W.Frag} {h : XH} {I : List Addr} {F G H : Hp} {ds : Sg} {w : W} {σ : L2.St} {R : List Addr → Hp → Hp → α → W → Prop}
theorem qQ {m : ME} {f : Sg → D → W → Res α} (sl : EU h σ) (rel : Rel K I F G w H) (rs : dW K I F ds σ) (hd : D5 K h I F G) (p : bF K I F G Ez R ((m ds w).bind (f ds))) {Q : VK}
  (k : ∀ I1 F1 H1 x w1 v, Ext I F I1 F1 → Rel K I1 F1 G w1 H1 → dW K I1 F1 ds σ → D5 K h I1 F1 G → aH K I1 F1 x v → bF K I1 F1 G Ez R (f ds x w1) → Q v H1) : NI K h m σ H Q :=
 ⟨sl, I, F, G, ds, w, rel, rs, hd, (bF.bind p).mono fun I1 F1 H1 x w1 _ e1 rel1 p1 v rv => k I1 F1 H1 x w1 v e1 rel1 (rs.ext e1) (hd.ext e1) rv p1⟩
theorem xK {m : MA} {f : Sg → List D → W → Res α} (sl : EU h σ) (rel : Rel K I F G w H) (rs : dW K I F ds σ) (hd : D5 K h I F G) (p : bF K I F G Ez R ((m ds w).bind (f ds))) {Q : List V → Hp → Prop}
  (k : ∀ I1 F1 H1 xs w1 vs, Ext I F I1 F1 → Rel K I1 F1 G w1 H1 → dW K I1 F1 ds σ → D5 K h I1 F1 G → RepL K I1 F1 xs vs → bF K I1 F1 G Ez R (f ds xs w1) → Q vs H1) : aDW K h m σ H Q :=
 ⟨sl, I, F, G, ds, w, rel, rs, hd, (bF.bind p).mono fun I1 F1 H1 x w1 _ e1 rel1 p1 v rv => k I1 F1 H1 x w1 v e1 rel1 (rs.ext e1) (hd.ext e1) rv p1⟩
end
section
variable {S : aR} {i : Nat} {e a b : Expr} {rest es : List Expr} {m ma mb : XD → ME} {mas : XD → MA} {ta tb : XD → MT} {pos pos' p p2 : Pos}
theorem UU (j : Nat) {x : Str} (hN : S.N[j]? = some x := by rfl) (hv : Vis S.sc x := by first | exact Or.inl rfl | exact Or.inr (Or.inl rfl) | exact Or.inr (Or.inr rfl)) (hd : (x == ("__debug__" : Str)) = false := by decide) (hcd : (x == ("__classdict__" : Str)) = false := by decide) : SK S i (.Name x pos) (fun _ => aB j) := fun X h cx =>
 b0 (L2.pe_var (i := j) (by rw [cx.N]; exact hN) (by rw [cx.sc]; exact hv) hd hcd) fun σ H Q ⟨sl, I, F, G, ds, w, rel, rs, hh, p⟩ => by
  change bF X.K I F G Ez (RV X.K Q) (match ds[j]? with | some (some d) => Res.ok d w | _ => .bad) at p
  split at p
  ·rename_i d hi
   obtain ⟨v, hv, hr⟩ := rs.2 j d hi
   exact ⟨v, hv, p I F H .refl rel v hr⟩
  ·exact p.elim
theorem rF {x : Str} {C : Addr} (hg : S.sc.names.lookup x = some .globalImplicit) (hm : S.mg x = some (.ref C)) (hd : (x == ("__debug__" : Str)) = false := by decide) : SK S i (.Name x pos) (fun _ => eC (.con C)) := fun X h cx =>
 b0 (pe_glob (x := x) (v := .ref C) (u := .ref C) (by show X.env.scope.names.lookup x = _; rw [cx.sc]; exact hg) (by rw [cx.mg]; exact hm) rfl hd) fun σ H Q ⟨sl, I, F, G, ds, w, rel, rs, hh, p⟩ => p I F H .refl rel _ (by simp [aH])
theorem V1 {x : Str} {n : String} (hg : S.sc.names.lookup x = some .globalImplicit) (hm : S.mg x = none) (hv : bootBuiltins x = some (.type n)) (hn : x ≠ "__name__" := by decide) (hd : (x == ("__debug__" : Str)) = false := by decide) : SK S i (.Name x pos) (fun _ => eC (.ty n)) := fun X h cx =>
 b0 (pe_bltn (v := .ty n) (by show X.env.scope.names.lookup x = _; rw [cx.sc]; exact hg) (by rw [cx.mg]; exact hm) hv rfl hn hd) fun σ H Q ⟨sl, I, F, G, ds, w, rel, rs, hh, p⟩ => p I F H .refl rel _ (by simp [aH])
theorem DI : JUA S i [] (fun _ => aE) := fun X h cx => DE pa_nil fun σ H Q ⟨sl, I, F, G, ds, w, rel, rs, hh, p⟩ => p I F H .refl rel [] (by simp [RepL])
theorem gX (he : SK S i e m) (hr : JUA S i es mas) (hs : ∀ env : Env, starEach (e :: es) env = (false, eval e env) :: starEach es env := by intro _; rfl) : JUA S i (e :: es) (fun x => aA (m x) (mas x)) := fun X h cx =>
 DE (pa_cons (he X h cx) (hr X h cx) (hs X.env)) fun σ H Q ⟨sl, I, F, G, ds, w, rel, rs, hh, p⟩ =>
  qQ (f := fun ds x w1 => (mas h.x ds w1).bind fun xs w2 => .ok (x :: xs) w2) sl rel rs hh p fun I1 F1 H1 x w1 v e1 rel1 rs1 hh1 rv p1 =>
   xK (f := fun _ xs w2 => .ok (x :: xs) w2) sl rel1 rs1 hh1 p1 fun I2 F2 H2 xs w2 vs e2 rel2 rs2 hh2 rvs p2 => p2 I2 F2 H2 .refl rel2 _ (RepL.cons (aH.ext e2 _ _ rv) rvs)
theorem aCm {k : Nat} (h : JUA S i es mas) : SK S i (.Tuple es k pos) (fun x => bQ (mas x)) := fun X xh cx =>
 b0 (pe_tup (h X xh cx)) fun σ H Q ⟨sl, I, F, G, ds, w, rel, rs, hh, p⟩ =>
  xK (f := fun _ xs w1 => if xs.length ≤ sizeLine then Res.ok (D.tup xs) w1 else .bad) sl rel rs hh p fun I1 F1 H1 xs w1 vs e1 rel1 rs1 hh1 rvs p1 => by
   split at p1
   ·rename_i hl
    exact ⟨by rw [← rvs.length]; exact hl, vA rel1 rvs p1⟩
   ·exact p1.elim
theorem KI (h : JUA S i es mas) : SK S i (.List es pos) (fun x => eI (mas x)) := fun X xh cx =>
 b0 (pe_lst (h X xh cx)) fun σ H Q ⟨sl, I, F, G, ds, w, rel, rs, hh, p⟩ =>
  xK (f := fun _ xs w1 => if xs.length ≤ sizeLine then Res.ok (D.lst xs) w1 else .bad) sl rel rs hh p fun I1 F1 H1 xs w1 vs e1 rel1 rs1 hh1 rvs p1 => by
   split at p1
   ·rename_i hl
    exact ⟨by rw [← rvs.length]; exact hl, kI rel1 rvs p1⟩
   ·exact p1.elim
abbrev KxT := Addr → kX → Option Bool
structure RU (K : PySem.W.Frag) (kx : KxT) : Prop where
 one : ∀ D c r, kx D c = some r → PySem.W.kitOne K (.ref D) c.v = some r
 cls : ∀ D c r, kx D c = some r → PySem.W.XT K D
def JV : List D → Option (List Addr)
 | [] => some []
 | .con C :: r => (JV r).map (C :: ·)
 | _ :: _ => none
def X7 (kx : KxT) (D : Addr) : List Addr → Option Bool
 | [] => some false
 | C :: r => match kx D (.o C) with
  | some true => some true
  | some false => X7 kx D r
  | none => none
theorem JY {K : PySem.W.Frag} {I : List Addr} {F : Hp} : ∀ {cs : List Pc.D} {vs : List V} {As : List Addr}, RepL K I F cs vs → JV cs = some As → vs = As.map V.ref
 | [], vs, As, h, e => by simp only [JV, aj] at e; subst e; simp only [RepL] at h; exact h
 | c :: cs, vs, As, h, e => by
  cases c <;> simp only [JV, aq, reduceCtorEq] at e
  obtain ⟨r, e1, rfl⟩ := e
  simp only [RepL, aH] at h
  obtain ⟨v, t, rfl, rfl, h2⟩ := h
  rw [JY h2 e1]
  rfl
theorem CA : ∀ As : List Addr, Paired ClsV (As.map V.ref) (As.map Value.ref)
 | [] => .nil
 | C :: As => .cons (.own C) (CA As)
theorem VM {K : PySem.W.Frag} {kx : KxT} (hk : RU K kx) {D : Addr} : ∀ {As : List Addr} {r : Bool}, X7 kx D As = some r → PySem.W.kitAny K (.ref D) (As.map Value.ref) = some r
 | [], r, e => e
 | C :: As, r, e => by
  unfold X7 at e
  show (match PySem.W.kitOne K (.ref D) (.ref C) with
   | some true => some true
   | some false => PySem.W.kitAny K (.ref D) (As.map Value.ref)
   | none => none) = _
  cases hc : kx D (.o C) with
  | none => rw [hc] at e; cases e
  | some b =>
   rw [hc] at e
   rw [show PySem.W.kitOne K (.ref D) (.ref C) = some b from hk.one _ _ _ hc]
   cases b with
   | true => exact e
   | false => exact VM hk e
def GV (kx : KxT) (c : D) (x : XD) : Option Bool := match x.cls, x.fs with
 | .ref E, some _ => (match c with
  | .con C => kx E (.o C)
  | .ty n => kx E (.b n)
  | .tup cs => if cs = [] then none else (JV cs).bind (X7 kx E)
  | _ => none)
 | _, _ => none
theorem aBq {K : PySem.W.Frag} {kx : KxT} (hk : RU K kx) {D : Addr} {As : List Addr} {r : Bool} (hn : As ≠ []) (e : X7 kx D As = some r) : PySem.W.XT K D := by
 cases As with
 | nil => exact absurd rfl hn
 | cons C As =>
  unfold X7 at e
  cases hc : kx D (.o C) with
  | none => rw [hc] at e; cases e
  | some b => exact hk.cls _ _ _ hc
def C0 (kx : KxT) (mc : ME) (x : XD) : ME := fun σ w => (mc σ w).bind fun c w1 => match GV kx c x with
 | some b => .ok (.bl b) w1
 | none => .bad
theorem qN {kx : KxT} {n : Str} {mc : XD → ME} (hk : RU S.K kx) (hg : S.sc.names.lookup ("isinstance" : Str) = some .globalImplicit) (hm : S.mg ("isinstance" : Str) = none) (hn : S.N[i]? = some n) (hv : Vis S.sc n) (hc : SK S i b mc) (hd : (n == ("__debug__" : Str)) = false := by decide) (hcd : (n == ("__classdict__" : Str)) = false := by decide)
  (h1 : ∀ env : Env, starEach [.Name n p2, b] env = (false, eval (.Name n p2) env) :: starEach [b] env := by intro _; rfl) (h2 : ∀ env : Env, starEach [b] env = (false, eval b env) :: starEach [] env := by intro _; rfl) (hpl : ∀ env : Env, (backTo pos (starEach [b] env)).any (·.1) = false := by intro _; rfl) :
  SK S i (.Call (.Name ("isinstance" : Str) p) [.Name n p2, b] [] pos) (fun x => C0 kx (mc x) x) := fun X h cx => by
 obtain ⟨Y, oe, pn, eX, hz, hf⟩ := cx.at_
 have cN : Y.K = S.K := by have := cx.K; rw [eX] at this; exact this
 have pv : PE X (.Name n p2) (tVar h.i) := L2.pe_var (i := h.i) (by rw [cx.N, cx.i]; exact hn) (by rw [cx.sc]; exact hv) hd hcd
 have pb := hc X h cx
 have gl : Gl X ("isinstance" : Str) := by show X.env.scope.names.lookup _ = _; rw [cx.sc]; exact hg
 have mg : X.mg ("isinstance" : Str) = none := by rw [cx.mg]; exact hm
 -- a tuple of classes or one class
 refine ⟨fun pins s σ H Q J ⟨sl, I, F, G, ds, w, rel, rs, hh, pp⟩ => ?_⟩
 have cr : CallR X (.builtin "isinstance") (fun xs H Q => aHs Y.K h.a h.cls h.d xs H Q ∨ aDO Y.K h.a h.cls h.d xs H Q) := by
  rw [eX]
  intro pins s σ H xs us Q I r q
  rcases q with q | q
  ·exact aBD hz hf pins s σ H xs us Q I r q
  ·exact W4 hz hf pins s σ H xs us Q I r q
 refine (pe_callB cr gl mg rfl (pa_cons (hs := h1 X.env) pv (pa_cons (hs := h2 X.env) pb pa_nil)) (he := h1 X.env) (hpl := hpl X.env)).run pins s σ H Q J ?_
 refine ⟨.ref h.a, sl, ?_⟩
 refine qQ (f := fun ds c w1 => match GV kx c h.x with
  | some b => Res.ok (D.bl b) w1
  | none => .bad) sl rel rs hh pp fun I1 F1 H1 c w1 v e1 rel1 rs1 hh1 rv p1 => ?_
 cases hi : GV kx c h.x with
 | none => rw [hi] at p1; exact p1.elim
 | some r =>
  rw [hi] at p1
  have q : Q (.bl r) H1 := p1 I1 F1 H1 .refl rel1 (.bl r) (by simp [aH])
  obtain ⟨ec, hx⟩ := hh1 I1 F1 w1 H1 .refl rel1
  unfold GV at hi
  split at hi
  ·rename_i E fs hE hfs
   rw [hfs] at hx
   obtain ⟨dd, rr, ed, ea, _⟩ := hx
   rw [hE] at ec
   split at hi
   ·rename_i C
    simp only [aH] at rv
    subst rv
    exact .inl ⟨.ref C, .ref C, r, E, dd, rr, rfl, .own C, ec, ed, ea, by rw [cN]; exact hk.cls _ _ _ hi, by rw [cN]; exact hk.one _ _ _ hi, q⟩
   ·rename_i n
    simp only [aH] at rv
    subst rv
    exact .inl ⟨.ty n, .type n, r, E, dd, rr, rfl, .ty n, ec, ed, ea, by rw [cN]; exact hk.cls _ _ _ hi, by rw [cN]; exact hk.one _ _ _ hi, q⟩
   ·rename_i cs
    split at hi
    ·cases hi
    ·rename_i hne
     obtain ⟨As, h3, h4⟩ := dj.mp hi
     simp only [aH] at rv
     obtain ⟨tp, us, rfl, h5, h6⟩ := rv
     obtain rfl := JY h6 h3
     have hA : As ≠ [] := fun z => by
      subst z
      cases cs with
      | nil => exact hne rfl
      | cons c cs => cases c <;> simp [JV] at h3
     exact .inr ⟨tp, As.map V.ref, As.map Value.ref, r, E, dd, rr, rfl, rel1.fz _ _ h5, CA As, ec, ed, ea, by rw [cN]; exact aBq hk hA h4, by rw [cN]; exact VM hk h4, q⟩
   ·cases hi
  ·cases hi
def eFX (Cs : List Addr) (f : Str) (x : XD) : ME := fun _ w => match wR Cs f x with
 | some y => .ok y w
 | none => .bad
theorem aBZ {n f : Str} {Cs : List Addr} (hn : S.N[i]? = some n) (hv : Vis S.sc n) (xf : aBx S.K Cs f) (hd : (n == ("__debug__" : Str)) = false := by decide) (hcd : (n == ("__classdict__" : Str)) = false := by decide)
  (hb : ∀ env : Env, attributeBase (.Name n p) f env (eval (.Name n p) env) = eval (.Name n p) env := by intro _; rfl) : SK S i (.Attribute (.Name n p) f pos) (fun x => eFX Cs f x) := fun X h cx => by
 obtain ⟨Y, oe, pn, eX, hz, hf⟩ := cx.at_
 have cN : Y.K = S.K := by have := cx.K; rw [eX] at this; exact this
 have pv : PE X (.Name n p) (tVar h.i) := L2.pe_var (i := h.i) (by rw [cx.N, cx.i]; exact hn) (by rw [cx.sc]; exact hv) hd hcd
 refine ⟨fun pins s σ H Q J ⟨sl, I, F, G, ds, w, rel, rs, hh, pp⟩ => ?_⟩
 change bF X.K I F G Ez (RV X.K Q) (match wR Cs f h.x with | some y => Res.ok y w | none => .bad) at pp
 cases e : wR Cs f h.x with
 | none => rw [e] at pp; exact pp.elim
 | some y =>
  rw [e] at pp
  obtain ⟨C, dd, fs, u, hC, ec, ed, hH, hl, rv⟩ := aBv (hh I F w H .refl rel) e
  have xf' := xf C hC
  rw [← cN] at xf'
  have ev : Y.env = X.env := by rw [eX]
  rw [eX] at pv J ⊢
  exact (pe_xf xf'.1 xf'.2 hz hf pv (hb Y.env)).run pins s σ H Q J ⟨.ref h.a, sl, rfl, ec, dd, fs, u, ed, hH, hl, pp I F H .refl rel u rv⟩
def O2U (o : Value → Value → Sem Value) (f : D → D → W → Res D) : Prop := ∀ X : Cx, OpR X o (SN X.K Ez f)
theorem ZQ {K : PySem.W.Frag} {f : D → D → W → Res D} {h : XH} {σ : L2.St} {H : Hp} {Q : VK} {m1 m2 : ME} (q : NI K h (aD f m1 m2) σ H Q) : tOp (SN K Ez f) (NI K h m1) (NI K h m2) σ H Q := by
 obtain ⟨sl, I, F, G, ds, w, rel, rs, hh, p⟩ := q
 refine ⟨sl, I, F, G, ds, w, rel, rs, hh, (bF.bind p).mono fun I1 F1 H1 x w1 _ e1 rel1 p1 v rv => ?_⟩
 refine ⟨sl, I1, F1, G, ds, w1, rel1, rs.ext e1, hh.ext e1, (bF.bind p1).mono fun I2 F2 H2 y w2 _ e2 rel2 p2 u ru => ?_⟩
 exact ⟨I2, F2, G, x, y, w2, rel2, aH.ext e2 _ _ rv, ru, p2⟩
theorem YI {K : PySem.W.Frag} {h : XH} {ma mb : MS} {Z : Ends} {σ : L2.St} {H : Hp} (q : OV K h (aI ma mb) Z σ H) : OV K h ma { Z with nx := OV K h mb Z } σ H := by
 obtain ⟨sl, I, F, G, ds, w, rel, rs, hh, p⟩ := q
 refine ⟨sl, I, F, G, ds, w, rel, rs, hh, ?_⟩
 have p := bF.bind p
 cases hr : ma ds w with
 | bad => rw [hr] at p; exact p.elim
 | vY x w1 => rw [hr] at p; exact p
 | ok f w1 =>
  rw [hr] at p
  intro I1 F1 H1 e1 rel1
  have p1 := p I1 F1 H1 e1 rel1
  cases f with
  | nx s => exact fun s' rs' sl' => ⟨sl', I1, F1, G, s, w1, rel1, rs', hh.ext e1, p1⟩
  | rt d => exact fun v rv => p1 I1 F1 H1 .refl rel1 v rv
  | bk s => exact fun s' rs' => p1 I1 F1 H1 .refl rel1 s' rs'
  | ct s => exact fun s' rs' => p1 I1 F1 H1 .refl rel1 s' rs'
theorem IF {st : Stmt} {sts : List Stmt} {sa sb : XD → MS} (h1 : JUS S i st sa) (h2 : YM S i sts sb) : YM S i (st :: sts) (fun x => aI (sa x) (sb x)) := fun X h cx =>
 zI (pss_cons (h1 X h cx) (h2 X h cx)) fun Z σ H q => YI q
theorem QG {st : Stmt} {sa : XD → MS} (h1 : JUS S i st sa) : YM S i [st] sa := fun X h cx => pss_one (h1 X h cx)
theorem aDu (he : SK S i e m) : JUS S i (.Return (some e) pos) (fun x => bE (m x)) := fun X h cx =>
 jF (L2.ps_ret (he X h cx)) fun Z σ H ⟨sl, I, F, G, ds, w, rel, rs, hh, p⟩ => qQ (f := fun _ d w1 => Res.ok (Fl.rt d) w1) sl rel rs hh p fun I1 F1 H1 x w1 v e1 rel1 rs1 hh1 rv p1 => p1 I1 F1 H1 .refl rel1 v rv
theorem KJ {j : Nat} {x : Str} (he : SK S i e m) (hj : S.N[j]? = some x := by rfl) (hx : S.sc.names.lookup x = some .local := by rfl) (hij : i ≠ j := by decide) (hs : ∀ env : Env, swapsWith e (some (.Name x pos')) pos.line env = pure false := by intro _; rfl) : JUS S i (.Assign [.Name x pos'] e pos) (fun y => aT (m y) (a7 j)) := fun X h cx =>
 jF (L2.ps_set (i := j) cx.nd (by rw [cx.N]; exact hj) (.inl (by rw [cx.sc]; exact hx)) (he X h cx) (hs X.env) (.inr (by rw [cx.sc]; exact hx))) fun Z σ H ⟨sl, I, F, G, ds, w, rel, rs, hh, p⟩ =>
  qQ (f := fun ds d w1 => (a7 j d ds w1).bind fun σ2 w2 => Res.ok (Fl.nx σ2) w2) sl rel rs hh p fun I1 F1 H1 y w1 v e1 rel1 rs1 hh1 rv p1 => p1 I1 F1 H1 .refl rel1 _ (rs1.set j rv) (by
   show (σ.set j (some v))[h.i]? = _
   rw [az (by rw [cx.i]; exact Ne.symm hij)]
   exact sl)
theorem aEA {suite : List Stmt} {ms : XD → MS} (hs : YM S i suite ms) : JSu S i suite ms := fun X a oe cls d pn cx hz hf => by
 refine ⟨fun pins s σ H Z J ⟨hσ, I, F, G, ds, w, x, rel, rs, rx, p⟩ => ?_⟩
 obtain ⟨G', rel', back⟩ := rel.hold rx
 refine (hs (X.suite a ((a, oe) :: pn)) ⟨i, a, cls, d, x⟩ ⟨cx.K, cx.N, cx.sc, cx.mg, cx.nd, cx.gds, (by have := cx.room.un; show X.A.units + 200 < _; omega), ⟨X, oe, pn, rfl, hz, hf⟩, rfl, cx.P, cx.w, cx.base, ⟨cx.room.dp, cx.room.un⟩⟩).run pins s σ H Z J ⟨hσ, I, F, G', ds, w, rel', rs, fun I2 F2 w2 H2 e r => (back I2 F2 w2 H2 e r).2, ?_⟩
 ·show bF X.K I F G' Ez (aHb X.K ⟨i, a, cls, d, x⟩ Z) (ms x ds w)
  cases hr : ms x ds w with
  | bad => rw [hr] at p; exact p.elim
  | vY y w1 => rw [hr] at p; exact p.elim
  | ok f w1 =>
   rw [hr] at p
   intro I1 F1 H1 e1 rel1
   have p1 := p I1 F1 H1 e1 (back I1 F1 w1 H1 e1 rel1).1
   cases f with
   | nx s => exact fun s' rs' _ => p1 s' rs'
   | rt d => exact p1
   | bk s => exact p1
   | ct s => exact p1
end
def kxT (l : List (Addr × List (kX × Bool))) : KxT := fun D c => (l.lookup D).bind fun r => r.lookup c
def aCT (K : PySem.W.Frag) (D : Addr) (r : List (kX × Bool)) : Prop := ∀ c b, r.lookup c = some b → PySem.W.kitOne K (.ref D) c.v = some b
theorem aEM {K : PySem.W.Frag} {D : Addr} : aCT K D [] := fun c b e => nomatch e
theorem m7 {K : PySem.W.Frag} {D : Addr} {c : kX} {b : Bool} {r : List (kX × Bool)} (h : PySem.W.kitOne K (.ref D) c.v = some b) (t : aCT K D r) : aCT K D ((c, b) :: r) := fun c' b' e => by
 rw [List.lookup_cons] at e
 by_cases q : c' = c
 ·subst q
  simp at e
  rw [← e]
  exact h
 ·have : (c' == c) = false := by simpa using q
  rw [this] at e
  exact t c' b' e
theorem aEN {K : PySem.W.Frag} : RU K (kxT []) := ⟨(fun _ _ _ e => nomatch e), (fun _ _ _ e => nomatch e)⟩
theorem aD3 {E D : Addr} {c : kX} {row : List (kX × Bool)} {l : List (Addr × List (kX × Bool))} : kxT ((D, row) :: l) E c = if E = D then row.lookup c else kxT l E c := by
 unfold kxT
 rw [List.lookup_cons]
 by_cases q : E = D
 ·subst q; simp
 ·have : (E == D) = false := by simpa using q
  rw [this, if_neg q]
theorem aCr {K : PySem.W.Frag} {D : Addr} {row : List (kX × Bool)} {l : List (Addr × List (kX × Bool))} (hc : PySem.W.XT K D) (h : aCT K D row) (t : RU K (kxT l)) : RU K (kxT ((D, row) :: l)) := by
 constructor
 ·intro E c r e
  rw [aD3] at e
  by_cases q : E = D
  ·subst q; rw [if_pos rfl] at e; exact h c r e
  ·rw [if_neg q] at e; exact t.one E c r e
 ·intro E c r e
  rw [aD3] at e
  by_cases q : E = D
  ·subst q; exact hc
  ·rw [if_neg q] at e; exact t.cls E c r e
def LW (K : PySem.W.Frag) : Prop := ∃ o, K.lookup sysModules = some o ∧ o.cls = .type "dict"
def aF9 (K : PySem.W.Frag) : Bool := match K.lookup sysModules with
 | some o => (match o.cls with
  | .type n => n == "dict"
  | _ => false)
 | none => false
theorem aDd {K : PySem.W.Frag} (h : aF9 K = true) : LW K := by
 unfold aF9 at h
 split at h
 ·rename_i o e
  split at h
  ·rename_i n e2
   exact ⟨o, e, by rw [e2]; exact congrArg Value.type (eq_of_beq h)⟩
  ·cases h
 ·cases h
mutual
inductive Dq (K : PySem.W.Frag) (H : Hp) : V → PyData → Prop
 | non : Dq K H .non .none
 | bl (b : Bool) : Dq K H (.bl b) (.bool b)
 | int (i : Int) : Dq K H (.int i) (.int i)
 | str (x : Str) : Dq K H (.str x) (.str x)
 | lst {a : Addr} {xs : List V} {ds : List PyData} : SqL K H a xs → DqAll K H xs ds → Dq K H (.ref a) (.list ds)
 | tup {a : Addr} {xs : List V} {ds : List PyData} : SqT K H a xs → DqAll K H xs ds → Dq K H (.ref a) (.tuple ds)
 | emp {a : Addr} : (H a = some (.dK []) ∨ H a = some (.dT [])) → Dq K H (.ref a) (.dict [])
inductive DqAll (K : PySem.W.Frag) (H : Hp) : List V → List PyData → Prop
 | nil : DqAll K H [] []
 | cons {v : V} {vs : List V} {d : PyData} {ds : List PyData} : Dq K H v d → DqAll K H vs ds → DqAll K H (v :: vs) (d :: ds)
end
theorem aBS {P : Program} {w : World} {H : Hp} {h : Heap} {a : Addr} {o : HO} (x : ObjOk P w H h a o) (e : o = .dK [] ∨ o = .dT []) : (a == sysModules) = false ∧ ∃ ob es n, h.get? a = some ob ∧ ob.cls = .type "dict" ∧ ob.data = .dict es n ∧ es.toList = [] := by
 rcases e with rfl | rfl
 ·obtain ⟨_, ns, vs, kv, o, es, n, e1, e2, e3, e4, e5⟩ := x
  cases kv
  have e6 := e5.1
  refine ⟨ns, o, es, n, e1, e2.1, e3, ?_⟩
  generalize es.toList = l at e6
  cases l with
  | nil => rfl
  | cons x l => cases e6
 ·obtain ⟨_, ns, xs, pr, o, es, n, e1, e2, e3, e4, e5⟩ := x
  cases pr
  exact ⟨ns, o, es, n, e1, e2.1, e3, by rw [e4]; rfl⟩
section
variable {X : Cx} {pins : List (Addr × Obj)} {σ : L2.St} {H : Hp} {s : Shared}
mutual
theorem Dq.reads (hS : LW X.K) (I : Inv X pins σ H s) : ∀ (d : PyData) (v : V) (u : Value), Dq X.K H v d → RelV v u → ∃ as, Reads s.heap u d as ∧ sysModules ∉ as
 | .none, _, _, h, r => by
  cases h
  cases r
  exact ⟨_, Reads.none, by simp⟩
 | .bool b, _, _, h, r => by
  cases h
  cases r
  exact ⟨_, Reads.bool b, by simp⟩
 | .int i, _, _, h, r => by
  cases h
  obtain ⟨t, rfl⟩ := r
  exact ⟨_, Reads.int i t, by simp⟩
 | .str x, _, _, h, r => by
  cases h
  obtain ⟨t, rfl⟩ := r
  exact ⟨_, Reads.str x t, by simp⟩
 | .list ds, _, _, h, r => by
  cases h with
  | lst hs ha =>
   cases r
   obtain ⟨its, rv, ⟨o, n, ho, hc, _, hd⟩, _⟩ := I.list hs
   obtain ⟨as, hr, ns⟩ := Dq.readsAll hS I ds _ its ha rv
   refine ⟨_, Reads.list ho hc hd hr, fun hm => ?_⟩
   rcases bh.mp hm with e | e
   ·obtain ⟨o2, h1, h2⟩ := hS
    have := I.kIn _ _ h1
    rw [e, ho] at this
    cases this
    rw [h2] at hc
    exact absurd (Value.type.inj hc) (by decide)
   ·exact ns e
 | .tuple ds, _, _, h, r => by
  cases h with
  | tup hs ha =>
   cases r
   obtain ⟨its, rv, ⟨o, ho, hc, n, hd⟩, _⟩ := I.tuple hs
   obtain ⟨as, hr, ns⟩ := Dq.readsAll hS I ds _ its ha rv
   exact ⟨_, Reads.tuple ho hc hd hr, ns⟩
 | .dict kvs, _, _, h, r => by
  cases h with
  | emp he =>
   cases r
   rename_i a
   have hx : ∃ o, H a = some o ∧ (o = .dK [] ∨ o = .dT []) := by
    rcases he with he | he
    ·exact ⟨_, he, .inl rfl⟩
    ·exact ⟨_, he, .inr rfl⟩
   obtain ⟨o, h1, h2⟩ := hx
   obtain ⟨ne, ob, es, n, e1, e2, e3, e4⟩ := aBS (I.hok a o h1) h2
   have r0 : ReadsAll s.heap (es.toList.map (·.key)) (([] : List (PyData × PyData)).map (·.1)) [] := by rw [e4]; exact .nil
   have r1 : ReadsAll s.heap (es.toList.map (·.val)) (([] : List (PyData × PyData)).map (·.2)) [] := by rw [e4]; exact .nil
   refine ⟨_, Reads.dict e1 e2 e3 r0 r1, fun hm => ?_⟩
   have : sysModules = a := by simpa using hm
   rw [← this] at ne
   simp at ne
theorem Dq.readsAll (hS : LW X.K) (I : Inv X pins σ H s) : ∀ (ds : List PyData) (vs : List V) (us : List Value), DqAll X.K H vs ds → Vals vs us → ∃ as, ReadsAll s.heap us ds as ∧ sysModules ∉ as
 | [], _, _, h, r => by
  cases h
  cases r
  exact ⟨_, ReadsAll.nil, by simp⟩
 | d :: ds, _, _, h, r => by
  cases h with
  | cons h1 h2 =>
   cases r with
   | cons r1 r2 =>
    obtain ⟨as, q1, n1⟩ := Dq.reads hS I d _ _ h1 r1
    obtain ⟨bs, q2, n2⟩ := Dq.readsAll hS I ds _ _ h2 r2
    exact ⟨_, ReadsAll.cons q1 q2, fun hm => by
     rcases ck.mp hm with e | e
     ·exact n1 e
     ·exact n2 e⟩
end
end
section
variable {K : PySem.W.Frag} {I : List Addr} {F G H : Hp} {w : W}
mutual
theorem aEY (rel : Rel K I F G w H) {f : Nat → Option PyData} (hf : ∀ i a p, I[i]? = some a → f i = some p → Dq K H (.ref a) p) : ∀ (d : D) (v : V) (p : PyData), aH K I F d v → d.fW f = some p → Dq K H v p
 | .non, v, p, h, e => by simp only [aH] at h; simp only [D.fW, aj] at e; subst h; subst e; exact .non
 | .bl b, v, p, h, e => by simp only [aH] at h; simp only [D.fW, aj] at e; subst h; subst e; exact .bl b
 | .int i, v, p, h, e => by simp only [aH] at h; simp only [D.fW, aj] at e; subst h; subst e; exact .int i
 | .str x, v, p, h, e => by simp only [aH] at h; simp only [D.fW, aj] at e; subst h; subst e; exact .str x
 | .ty _, v, p, h, e => by simp [D.fW] at e
 | .con _, v, p, h, e => by simp [D.fW] at e
 | .zX _ _, v, p, h, e => by simp [D.fW] at e
 | .tup xs, v, p, h, e => by
  simp only [aH] at h
  obtain ⟨a, vs, rfl, h2, h3⟩ := h
  simp only [D.fW, aq] at e
  obtain ⟨ps, e1, rfl⟩ := e
  exact .tup (.of (rel.fz _ _ h2)) (dq_pysR rel hf xs vs ps h3 e1)
 | .lY xs, v, p, h, e => by
  simp only [aH] at h
  obtain ⟨a, vs, rfl, h2, h3⟩ := h
  simp only [D.fW, aq] at e
  obtain ⟨ps, e1, rfl⟩ := e
  exact .tup (rel.RS h2) (dq_pysR rel hf xs vs ps h3 e1)
 | .lst xs, v, p, h, e => by
  simp only [aH] at h
  obtain ⟨a, vs, rfl, h2, h3⟩ := h
  simp only [D.fW, aq] at e
  obtain ⟨ps, e1, rfl⟩ := e
  exact .lst (.of (rel.fz _ _ h2)) (dq_pysR rel hf xs vs ps h3 e1)
 | .oI xs, v, p, h, e => by
  simp only [aH] at h
  obtain ⟨a, vs, rfl, h2, h3⟩ := h
  simp only [D.fW, aq] at e
  obtain ⟨ps, e1, rfl⟩ := e
  exact .lst (rel.YS h2) (dq_pysR rel hf xs vs ps h3 e1)
 | .ref i, v, p, h, e => by
  simp only [aH] at h
  obtain ⟨a, rfl, h2⟩ := h
  simp only [D.fW] at e
  exact hf i a p h2 e
theorem dq_pysR (rel : Rel K I F G w H) {f : Nat → Option PyData} (hf : ∀ i a p, I[i]? = some a → f i = some p → Dq K H (.ref a) p) : ∀ (ds : List D) (vs : List V) (ps : List PyData), RepL K I F ds vs → D.pysR f ds = some ps → DqAll K H vs ps
 | [], vs, ps, h, e => by simp only [RepL] at h; simp only [D.pysR, aj] at e; subst h; subst e; exact .nil
 | d :: ds, vs, ps, h, e => by
  simp only [RepL] at h
  obtain ⟨v, r, rfl, h2, h3⟩ := h
  simp only [D.pysR] at e
  split at e
  ·rename_i p ps' e1 e2
   cases e
   exact .cons (aEY rel hf d v p h2 e1) (dq_pysR rel hf ds r ps' h3 e2)
  ·cases e
end
end
def X2 : MF := fun ds w => match ds with
 | [.int i] => if i.natAbs.log2 < 1920 then .ok (.str (toString i)) w else .bad
 | [.str a] => .ok (.str a) w
 | _ => .bad
theorem aGg {S : aR} : CB S (.type "str") X2 := uY fun X E c xo I F G ds w H vs Q rel rl p => by
 unfold X2 at p
 split at p
 ·rename_i i
  obtain ⟨v, rfl, rv⟩ := rl.one
  simp only [aH] at rv
  subst rv
  split at p
  ·rename_i hi
   exact ⟨_, call_str_int, i, rfl, hi, p.nL rel (by simp [aH])⟩
  ·exact p.elim
 ·rename_i a
  obtain ⟨v, rfl, rv⟩ := rl.one
  simp only [aH] at rv
  subst rv
  exact ⟨_, SkE.call_str_str, a, rfl, p.nL rel (by simp [aH])⟩
 ·exact p.elim
def ET : MF := fun ds w => match ds with
 | [.ref i] => (match w[i]? with
  | some (.dT kvs) => .ok (.int ((kvs.length : Nat) : Int)) w
  | _ => .bad)
 | _ => .bad
theorem aAi {S : aR} : CB S (.builtin "len") ET := uY fun X E c xo I F G ds w H vs Q rel rl p => by
 unfold ET at p
 split at p
 ·rename_i i
  obtain ⟨v, rfl, rv⟩ := rl.one
  simp only [aH] at rv
  obtain ⟨a, rfl, hi⟩ := rv
  split at p
  ·rename_i kvs hw
   obtain ⟨u, hu, r, rfl, hr⟩ := rel.ob i a _ hi hw
   refine ⟨_, call_len_dT, a, r, rfl, hu, p.nL rel ?_⟩
   rw [← aQ.len hr]
   simp [aH]
  ·exact p.elim
 ·exact p.elim
def V5 (kvs : List (Key × D)) : D := .zX (kvs.map fun p => gG p.1) (kvs.map fun p => p.2)
def IJ (m : MP) : ME := fun σ w => (m σ w).bind fun ps w1 => match keyed ps with
 | some kvs => if kvs.length ≤ 15 then .ok (V5 (mH [] kvs)) w1 else .bad
 | none => .bad
def LL : ME := fun _ w => .ok (.zX [] []) w
section
variable {K : PySem.W.Frag} {I : List Addr} {F G H : Hp} {w : W}
theorem OC : ∀ {kvs : List (Key × D)} {r : List (Key × V)}, aQ K I F kvs r → RepL K I F (kvs.map fun p => gG p.1) (r.map fun p => kV p.1)
 | [], r, h => by simp only [aQ] at h; subst h; simp [RepL]
 | (k, d) :: kvs, r, h => by
  simp only [aQ] at h
  obtain ⟨v, t, rfl, h1, h2⟩ := h
  exact RepL.cons (tK k) (OC h2)
theorem OG : ∀ {kvs : List (Key × D)} {r : List (Key × V)}, aQ K I F kvs r → RepL K I F (kvs.map fun p => p.2) (r.map fun p => p.2)
 | [], r, h => by simp only [aQ] at h; subst h; simp [RepL]
 | (k, d) :: kvs, r, h => by
  simp only [aQ] at h
  obtain ⟨v, t, rfl, h1, h2⟩ := h
  exact RepL.cons h1 (OG h2)
end
section
variable {S : aR} {pos : Pos} {ks : List (Option Expr)} {vs : List Expr} {m : MP}
theorem aCx (h : JD S pos ks vs m) (hall : ks.all (·.isSome) = true := by rfl) (hl : ks.length = vs.length := by rfl) (h0 : ks ≠ [] := by simp) (h15 : ks.length ≤ 15 := by exact ah rfl) : JE S (.Dict ks vs pos) (IJ m) := fun X E cx xo => by
 obtain ⟨trs, g1, g2⟩ := h X E cx xo
 refine b0 (pe_disp g1 hall hl h0 h15) fun σ H Q ⟨I, F, G, ds, w, rel, rs, p⟩ q hq => ?_
 have hG : G q = none := by
  cases z : G q with
  | none => rfl
  | some u => rw [rel.gz _ _ z] at hq; cases hq
 refine g2 σ _ _ ⟨I, F, upd G q (.dK []), ds, w, rel.keep hq, rs, (bF.bind p).more hG fun I1 F1 H1 ps w1 _ e1 rel1 p1 us ru => ?_⟩
 refine ⟨rel1.gz q _ upd_same, ?_⟩
 split at p1
 ·rename_i kvs hk
  split at p1
  ·rename_i hl'
   obtain ⟨r, e2, e3⟩ := BG ru hk
   refine ⟨r, e2, by rw [← e3.length]; exact hl', ?_⟩
   have e4 : aQ X.K I1 F1 (mH [] kvs) (mergeK [] r) := aQ.merge e3 (by simp [aQ])
   obtain ⟨ee, rel2⟩ := (rel1.J5 (u' := .dK (mergeK [] r))).Z8 hG
   refine p1 _ _ _ ee rel2 _ ?_
   have e5 := aQ.ext ee _ _ e4
   simp only [V5, aH]
   exact ⟨q, _, rfl, .inl upd_same, OC e5, OG e5⟩
  ·exact p1.elim
 ·exact p1.elim
theorem YZ : JE S (.Dict [] [] pos) LL := fun X E cx xo => b0 pe_dnewK fun σ H Q ⟨I, F, G, ds, w, rel, rs, p⟩ q hq => by
 have hG : G q = none := by
  cases z : G q with
  | none => rfl
  | some u => rw [rel.gz _ _ z] at hq; cases hq
 obtain ⟨e, rel2⟩ := (rel.keep (u := .dK []) hq).Z8 hG
 refine p _ _ _ e rel2 _ ?_
 simp only [aH]
 exact ⟨q, [], rfl, .inl upd_same, by simp [RepL], by simp [RepL]⟩
end
def uF : List D → Option (List PyData)
 | [] => some []
 | .int i :: ds => (uF ds).map fun ps => .int i :: ps
 | .str x :: ds => (uF ds).map fun ps => .str x :: ps
 | _ :: _ => none
mutual
def D.z4 (f : Nat → Option PyData) : D → Option PyData
 | .non => some .none
 | .bl b => some (.bool b)
 | .int i => some (.int i)
 | .str x => some (.str x)
 | .ty _ => none
 | .con _ => none
 | .tup xs => (D.pysV f xs).map .tuple
 | .lY xs => (D.pysV f xs).map .tuple
 | .lst xs => (D.pysV f xs).map .list
 | .oI xs => (D.pysV f xs).map .list
 | .zX ks vs => (match uF ks, D.pysV f vs with
  | some kp, some vp => if kp.length = vp.length then some (.dict (kp.zip vp)) else none
  | _, _ => none)
 | .ref i => f i
def D.pysV (f : Nat → Option PyData) : List D → Option (List PyData)
 | [] => some []
 | d :: ds => match D.z4 f d, D.pysV f ds with
  | some p, some ps => some (p :: ps)
  | _, _ => none
end
theorem TF {d : D} {ds : List D} {kp : List PyData} (h : uF (d :: ds) = some kp) : ∃ p ps, kp = p :: ps ∧ uF ds = some ps ∧ ((∃ i, d = .int i ∧ p = .int i) ∨ ∃ x, d = .str x ∧ p = .str x) := by
 cases d <;> simp only [uF, aq, reduceCtorEq] at h
 ·obtain ⟨ps, h1, rfl⟩ := h
  exact ⟨_, ps, rfl, h1, .inl ⟨_, rfl, rfl⟩⟩
 ·obtain ⟨ps, h1, rfl⟩ := h
  exact ⟨_, ps, rfl, h1, .inr ⟨_, rfl, rfl⟩⟩
theorem BS {h : Heap} {P : Program} {w : World} {K : PySem.W.Frag} {I : List Addr} {F : Hp} : ∀ {ks : List D} {kp : List PyData} {kvs : List (Key × V)} {kvs2 : List (Key × Value)} {es : List DictEntry}, uF ks = some kp → RepL K I F ks (kvs.map fun p => kV p.1) → KV kvs kvs2 → Pairs (mixKind P w) es kvs2 → ReadsAll h (es.map (·.key)) kp []
 | [], kp, kvs, kvs2, es, e, r, kv, ps => by
  simp only [uF, aj] at e
  subst e
  simp only [RepL, List.map_eq_nil_iff] at r
  subst r
  cases kv
  cases ps
  exact .nil
 | d :: ds, kp, kvs, kvs2, es, e, r, kv, ps => by
  obtain ⟨p, pp, rfl, e2, e3⟩ := TF e
  cases kvs with
  | nil => simp only [List.map_nil, RepL] at r; obtain ⟨_, _, z, _⟩ := r; cases z
  | cons kv1 kvs =>
   simp only [cw, RepL] at r
   obtain ⟨v, t, z, r1, r2⟩ := r
   cases z
   cases kv with
   | cons k1 k2 =>
    cases ps with
    | @cons en kv0 es0 kvs0 p1 p2 p3 =>
     have ih := BS (h := h) e2 r2 k2 p3
     have hp : Reads h en.key p [] := by
      obtain ⟨q1, q2⟩ := k1
      obtain ⟨k, v0⟩ := kv1
      simp only at q1
      subst q1
      rcases keyIs_shape p1 with ⟨i, t, e5, e6⟩ | ⟨x, t, e5, e6⟩
      ·rw [e6]
       simp only [e5] at r1
       rcases e3 with ⟨j, rfl, rfl⟩ | ⟨x, rfl, rfl⟩
       ·simp only [aH, kV, V.int.injEq] at r1
        subst r1
        exact Reads.int _ t
       ·simp [aH, kV] at r1
      ·rw [e6]
       simp only [e5] at r1
       rcases e3 with ⟨j, rfl, rfl⟩ | ⟨y, rfl, rfl⟩
       ·simp [aH, kV] at r1
       ·simp only [aH, kV, V.str.injEq] at r1
        subst r1
        exact Reads.str _ t
     exact ReadsAll.cons (as := []) (bs := []) hp ih
theorem VX {P : Program} {w : World} : ∀ {kvs : List (Key × V)} {kvs2 : List (Key × Value)} {es : List DictEntry}, KV kvs kvs2 → Pairs (mixKind P w) es kvs2 → Vals (kvs.map fun p => p.2) (es.map (·.val))
 | [], _, _, kv, ps => by
  cases kv
  cases ps
  exact .nil
 | p :: kvs, _, _, kv, ps => by
  cases kv with
  | cons k1 k2 =>
   cases ps with
   | cons p1 p2 p3 =>
    exact .cons (by show L2.RelV p.2 (DictEntry.val _); rw [p2]; exact k1.2) (VX k2 p3)
section
variable {X : Cx} {pins : List (Addr × Obj)} {σ : L2.St} {H : Hp} {s : Shared} {I : List Addr} {F G : Hp} {w : W}
mutual
theorem IU (hS : LW X.K) (J : Inv X pins σ H s) (rel : Rel X.K I F G w H) {f : Nat → Option PyData} (hf : ∀ i a p, I[i]? = some a → f i = some p → ∃ as, Reads s.heap (.ref a) p as ∧ sysModules ∉ as) : ∀ (d : D) (v : V) (u : Value) (p : PyData), aH X.K I F d v → RelV v u → d.z4 f = some p → ∃ as, Reads s.heap u p as ∧ sysModules ∉ as
 | .non, v, u, p, h, r, e => by
  simp only [aH] at h
  simp only [D.z4, aj] at e
  subst h e
  cases r
  exact ⟨_, Reads.none, by simp⟩
 | .bl b, v, u, p, h, r, e => by
  simp only [aH] at h
  simp only [D.z4, aj] at e
  subst h e
  cases r
  exact ⟨_, Reads.bool b, by simp⟩
 | .int i, v, u, p, h, r, e => by
  simp only [aH] at h
  simp only [D.z4, aj] at e
  subst h e
  obtain ⟨t, rfl⟩ := r
  exact ⟨_, Reads.int i t, by simp⟩
 | .str x, v, u, p, h, r, e => by
  simp only [aH] at h
  simp only [D.z4, aj] at e
  subst h e
  obtain ⟨t, rfl⟩ := r
  exact ⟨_, Reads.str x t, by simp⟩
 | .ty _, v, u, p, h, r, e => by simp [D.z4] at e
 | .con _, v, u, p, h, r, e => by simp [D.z4] at e
 | .tup xs, v, u, p, h, r, e => by
  simp only [aH] at h
  obtain ⟨a, vs, rfl, h2, h3⟩ := h
  simp only [D.z4, aq] at e
  obtain ⟨ps, e1, rfl⟩ := e
  cases r
  obtain ⟨its, rv, ⟨o, ho, hc, n, hd⟩, _⟩ := J.tuple (show SqT X.K H a vs from .of (rel.fz _ _ h2))
  obtain ⟨as, hr, ns⟩ := pysV_reads hS J rel hf xs vs its ps h3 rv e1
  exact ⟨_, Reads.tuple ho hc hd hr, ns⟩
 | .lY xs, v, u, p, h, r, e => by
  simp only [aH] at h
  obtain ⟨a, vs, rfl, h2, h3⟩ := h
  simp only [D.z4, aq] at e
  obtain ⟨ps, e1, rfl⟩ := e
  cases r
  obtain ⟨its, rv, ⟨o, ho, hc, n, hd⟩, _⟩ := J.tuple (rel.RS h2)
  obtain ⟨as, hr, ns⟩ := pysV_reads hS J rel hf xs vs its ps h3 rv e1
  exact ⟨_, Reads.tuple ho hc hd hr, ns⟩
 | .lst xs, v, u, p, h, r, e => by
  simp only [aH] at h
  obtain ⟨a, vs, rfl, h2, h3⟩ := h
  simp only [D.z4, aq] at e
  obtain ⟨ps, e1, rfl⟩ := e
  cases r
  obtain ⟨its, rv, ⟨o, n, ho, hc, _, hd⟩, _⟩ := J.list (show SqL X.K H a vs from .of (rel.fz _ _ h2))
  obtain ⟨as, hr, ns⟩ := pysV_reads hS J rel hf xs vs its ps h3 rv e1
  refine ⟨_, Reads.list ho hc hd hr, fun hm => ?_⟩
  rcases bh.mp hm with e | e
  ·obtain ⟨o2, h1, h2⟩ := hS
   have := J.kIn _ _ h1
   rw [e, ho] at this
   cases this
   rw [h2] at hc
   exact absurd (Value.type.inj hc) (by decide)
  ·exact ns e
 | .oI xs, v, u, p, h, r, e => by
  simp only [aH] at h
  obtain ⟨a, vs, rfl, h2, h3⟩ := h
  simp only [D.z4, aq] at e
  obtain ⟨ps, e1, rfl⟩ := e
  cases r
  obtain ⟨its, rv, ⟨o, n, ho, hc, _, hd⟩, _⟩ := J.list (rel.YS h2)
  obtain ⟨as, hr, ns⟩ := pysV_reads hS J rel hf xs vs its ps h3 rv e1
  refine ⟨_, Reads.list ho hc hd hr, fun hm => ?_⟩
  rcases bh.mp hm with e | e
  ·obtain ⟨o2, h1, h2⟩ := hS
   have := J.kIn _ _ h1
   rw [e, ho] at this
   cases this
   rw [h2] at hc
   exact absurd (Value.type.inj hc) (by decide)
  ·exact ns e
 | .zX ks xs, v, u, p, h, r, e => by
  simp only [aH] at h
  obtain ⟨a, kvs, rfl, h2, h3, h4⟩ := h
  simp only [D.z4] at e
  split at e
  ·rename_i kp vp e1 e2
   split at e
   ·rename_i el
    cases e
    cases r
    have hx : ∃ u, H a = some u ∧ (u = .dK kvs ∨ ∃ o, u = .frz o (.dK kvs)) := by
     rcases h2 with h2 | ⟨o, h2⟩
     ·exact ⟨_, rel.fz _ _ h2, .inl rfl⟩
     ·exact ⟨_, rel.fz _ _ h2, .inr ⟨o, rfl⟩⟩
    obtain ⟨u, h5, h6⟩ := hx
    have ok := J.hok a u h5
    have ok2 : ObjOk X.prog X.w H s.heap a (.dK kvs) := by
     rcases h6 with rfl | ⟨o, rfl⟩
     ·exact ok
     ·exact ok.2
    obtain ⟨_, ns, kv2, kv, o, es, n, q1, q2, q3, q4, q5, q6⟩ := ok2
    have rk := BS (h := s.heap) e1 h3 kv q5
    have hv : Vals (kvs.map fun p => p.2) (es.toList.map (·.val)) := VX kv q5
    obtain ⟨as, hr, ns2⟩ := pysV_reads hS J rel hf xs _ _ vp h4 hv e2
    have f1 : ((kp.zip vp).map fun p => p.1) = kp := by
     rw [List.map_fst_zip]
     omega
    have f2 : ((kp.zip vp).map fun p => p.2) = vp := by
     rw [List.map_snd_zip]
     omega
    refine ⟨_, Reads.dict (kvs := kp.zip vp) q1 q2.1 q3 (by rw [f1]; exact rk) (by rw [f2]; exact hr), fun hm => ?_⟩
    simp only [List.append_nil, ax, bh] at hm
    rcases hm with e | e
    ·rw [← e] at ns
     simp at ns
    ·exact ns2 e
   ·cases e
  ·cases e
 | .ref i, v, u, p, h, r, e => by
  simp only [aH] at h
  obtain ⟨a, rfl, h2⟩ := h
  simp only [D.z4] at e
  cases r
  exact hf i a p h2 e
theorem pysV_reads (hS : LW X.K) (J : Inv X pins σ H s) (rel : Rel X.K I F G w H) {f : Nat → Option PyData} (hf : ∀ i a p, I[i]? = some a → f i = some p → ∃ as, Reads s.heap (.ref a) p as ∧ sysModules ∉ as) : ∀ (ds : List D) (vs : List V) (us : List Value) (ps : List PyData), RepL X.K I F ds vs → Vals vs us → D.pysV f ds = some ps → ∃ as, ReadsAll s.heap us ps as ∧ sysModules ∉ as
 | [], vs, us, ps, h, r, e => by
  simp only [RepL] at h
  simp only [D.pysV, aj] at e
  subst h e
  cases r
  exact ⟨_, ReadsAll.nil, by simp⟩
 | d :: ds, vs, us, ps, h, r, e => by
  simp only [RepL] at h
  obtain ⟨v, t, rfl, h2, h3⟩ := h
  simp only [D.pysV] at e
  split at e
  ·rename_i p ps' e1 e2
   cases e
   cases r with
   | cons r1 r2 =>
    obtain ⟨as, q1, n1⟩ := IU hS J rel hf d v _ p h2 r1 e1
    obtain ⟨bs, q2, n2⟩ := pysV_reads hS J rel hf ds t _ ps' h3 r2 e2
    exact ⟨_, ReadsAll.cons q1 q2, fun hm => by
     rcases ck.mp hm with e | e
     ·exact n1 e
     ·exact n2 e⟩
  ·cases e
end
end
def vQ : Nat → W → Nat → Option PyData
 | 0, _, _ => none
 | n + 1, w, i => match w[i]? with
  | some (.lst xs) => (D.pysV (vQ n w) xs).map .list
  | _ => none
theorem B2 {X : Cx} {pins : List (Addr × Obj)} {σ : L2.St} {H : Hp} {s : Shared} {I : List Addr} {F G : Hp} {w : W} (hS : LW X.K) (J : Inv X pins σ H s) (rel : Rel X.K I F G w H) : ∀ (n i : Nat) (a : Addr) (p : PyData), I[i]? = some a → vQ n w i = some p → ∃ as, Reads s.heap (.ref a) p as ∧ sysModules ∉ as
 | 0, i, a, p, _, e => by simp [vQ] at e
 | n + 1, i, a, p, h, e => by
  simp only [vQ] at e
  split at e
  ·rename_i xs hw
   simp only [aq] at e
   obtain ⟨ps, e1, rfl⟩ := e
   obtain ⟨u, hu, ho⟩ := rel.ob i a _ h hw
   obtain ⟨vs, rfl, h3⟩ := ho
   obtain ⟨its, rv, ⟨o, n', ho, hc, _, hd⟩, _⟩ := J.list (show SqL X.K H a vs from .of hu)
   obtain ⟨as, hr, ns⟩ := pysV_reads hS J rel (fun i a p => B2 hS J rel n i a p) xs vs its ps h3 rv e1
   refine ⟨_, Reads.list ho hc hd hr, fun hm => ?_⟩
   rcases bh.mp hm with e | e
   ·obtain ⟨o2, h1, h2⟩ := hS
    have := J.kIn _ _ h1
    rw [e, ho] at this
    cases this
    rw [h2] at hc
    exact absurd (Value.type.inj hc) (by decide)
   ·exact ns e
  ·cases e
def xQ (d : D) (w : W) : Option Str := match d.z4 (vQ 8 w) with
 | some p => if p.showable = true ∧ p.depth ≤ 60 ∧ p.shown.length ≤ sizeLine then some p.shown else none
 | none => none
def mW : MF := fun ds w => match ds with
 | [d] => (match xQ d w with
  | some z => .ok (.str z) w
  | none => .bad)
 | _ => .bad
theorem yV {S : aR} (hS : LW S.K) : CB S (.builtin "repr") mW := fun X E c xo pins s σ H vs us Q J r ⟨I, F, G, ds, w, rel, rl, p⟩ => by
 have hS' : LW X.K := by rw [c.K]; exact hS
 unfold mW at p
 split at p
 ·rename_i d
  obtain ⟨v, rfl, rv⟩ := rl.one
  obtain ⟨u, rfl, ru⟩ := vals1 r
  split at p
  ·rename_i z hz
   unfold xQ at hz
   split at hz
   ·rename_i q hq
    split at hz
    ·rename_i hc
     cases hz
     obtain ⟨c1, c3, c4⟩ := hc
     obtain ⟨as, rd, ns⟩ := IU hS' J rel (fun i a p => B2 hS' J rel 8 i a p) d v u q rv ru hq
     have fin : ∀ (h' : Heap) (t tk : Nat), (∀ b o, s.heap.get? b = some o → h'.get? b = some o) → EP X pins σ Q (.str q.shown t) { s with heap := h', toks := tk } := fun h' t tk hk => ⟨.str q.shown, H, J.kept hk, ⟨_, rfl⟩, p.nL rel (by simp [aH])⟩
     cases u with
     | ref a => exact repr_of_reads' rd c1 (fun _ => ns) c.gds (by have := c.room.units; omega) (fun _ _ h => h) (fun h' t tk hk => fin h' t tk hk) c4
     | none => cases rd; exact PySem.P.repr_of_none (by have := fin s.heap s.toks (s.toks + 1) fun _ _ h => h; simpa [PyData.shown] using this)
     | bool b => cases rd; exact PySem.P.repr_of_bool (by have := fin s.heap s.toks (s.toks + 1) fun _ _ h => h; simpa [PyData.shown] using this)
     | int i t => cases rd; exact PySem.P.repr_of_int (by simpa [PyData.showable] using c1) (by have := fin s.heap s.toks (s.toks + 1) fun _ _ h => h; simpa [PyData.shown] using this)
     | str x t => cases rd; exact PySem.P.repr_of_str (by have := fin s.heap s.toks (s.toks + 1) fun _ _ h => h; simpa [PyData.shown] using this) (by simpa [PyData.shown] using c4)
     | _ => cases rd
    ·cases hz
   ·cases hz
  ·exact p.elim
 ·exact p.elim
end Pc
namespace L2
open PySem PySem.Spec PyProof.Rows
section
variable {X : Cx}
theorem YF : OpR X (binaryOp .Add) (fun x y H Q => ∃ k i, x = .bl k ∧ y = .int i ∧ Q (.int (b2i k + i)) H) := by
 intro pins s σ H x y v u Q I rx ry h
 obtain ⟨k, i, rfl, rfl, q⟩ := h
 cases rx
 obtain ⟨t, rfl⟩ := ry
 exact IntBool.add_bool_int ⟨.int (b2i k + i), H, I.tok _, ⟨_, rfl⟩, q⟩
theorem YH : OpR X (binaryOp .Sub) (fun x y H Q => ∃ k i, x = .bl k ∧ y = .int i ∧ Q (.int (b2i k - i)) H) := by
 intro pins s σ H x y v u Q I rx ry h
 obtain ⟨k, i, rfl, rfl, q⟩ := h
 cases rx
 obtain ⟨t, rfl⟩ := ry
 exact IntBool.sub_bool_int ⟨.int (b2i k - i), H, I.tok _, ⟨_, rfl⟩, q⟩
theorem X1 : OpR X (binaryOp .Sub) (fun x y H Q => ∃ i k, x = .int i ∧ y = .bl k ∧ Q (.int (i - b2i k)) H) := by
 intro pins s σ H x y v u Q I rx ry h
 obtain ⟨i, k, rfl, rfl, q⟩ := h
 obtain ⟨t, rfl⟩ := rx
 cases ry
 exact IntBool.sub_int_bool ⟨.int (i - b2i k), H, I.tok _, ⟨_, rfl⟩, q⟩
theorem RF : CallR X (.type "str") (fun xs H Q => ∃ b, xs = [.bl b] ∧ Q (.str (if b then "True" else "False")) H) := by
 intro pins s σ H xs us Q I r h
 obtain ⟨b, rfl, q⟩ := h
 obtain ⟨u, rfl, rx⟩ := vals1 r
 cases rx
 exact PySem.P.str_of_bool ⟨.str _, H, I.tok _, ⟨_, rfl⟩, q⟩
end
end L2
namespace Pc
open PySem PySem.Spec PyProof.Rows L2
def sQ (x y : D) (w : W) : Res D := match x, y with
 | .bl k, .int i => .ok (.int (b2i k + i)) w
 | x, y => bS x y w
def subB (x y : D) (w : W) : Res D := match x, y with
 | .bl k, .int i => .ok (.int (b2i k - i)) w
 | .int i, .bl k => .ok (.int (i - b2i k)) w
 | x, y => kH x y w
theorem jD {S : aR} : O2 S (binaryOp .Add) sQ := fun X E c xo pins s σ H x y v u Q J rx ry ⟨I, F, G, d, e, w, rel, rd, re, p⟩ => by
 unfold sQ at p
 split at p
 ·simp only [aH] at rd re
  exact YF pins s σ H x y v u Q J rx ry ⟨_, _, rd, re, p.nL rel (by simp [aH])⟩
 ·exact cH X E c xo pins s σ H x y v u Q J rx ry ⟨I, F, G, _, _, w, rel, rd, re, p⟩
theorem zU {S : aR} : O2 S (binaryOp .Sub) subB := fun X E c xo pins s σ H x y v u Q J rx ry ⟨I, F, G, d, e, w, rel, rd, re, p⟩ => by
 unfold subB at p
 split at p
 ·simp only [aH] at rd re
  exact YH pins s σ H x y v u Q J rx ry ⟨_, _, rd, re, p.nL rel (by simp [aH])⟩
 ·simp only [aH] at rd re
  exact X1 pins s σ H x y v u Q J rx ry ⟨_, _, rd, re, p.nL rel (by simp [aH])⟩
 ·exact MN X E c xo pins s σ H x y v u Q J rx ry ⟨I, F, G, _, _, w, rel, rd, re, p⟩
def NL : MF := fun ds w => match ds with
 | [.bl b] => .ok (.str (if b then "True" else "False")) w
 | ds => X2 ds w
theorem aCQ {S : aR} : CB S (.type "str") NL := fun X E cx xo pins s σ H vs us Q J r ⟨I, F, G, ds, w, rel, rl, p⟩ => by
 unfold NL at p
 split at p
 ·obtain ⟨v, rfl, rv⟩ := rl.one
  simp only [aH] at rv
  exact RF pins s σ H _ us Q J r ⟨_, by rw [rv], p.nL rel (by simp [aH])⟩
 ·exact aGg X E cx xo pins s σ H vs us Q J r ⟨I, F, G, _, w, rel, rl, p⟩
structure FnX (P : Program) (w : World) (K : PySem.W.Frag) (mg : Str → Option Value) (base : Heap) (k : Nat) (f : Addr) (fd : FuncData) (ps : List Str) (m : XD → W → Res D) : Prop where
 one : ps.length = 1
 run : ∀ (A : Around) (outer : List Env) (s : Shared) (H : Hp) (args : Args) (Q : VK) (h : XH) (oe : Obj), L2H.RoomH k A → A.guards = some [] → A.handled = some (.ref h.a) → L2H.PinOk outer H s (h.a, oe) → Zc h.cls h.d oe → (∃ vs, oe.data = .fields vs) → Env0 P w K mg base A outer s H →
  BindsTo s fd args (ps.zip [.ref h.a]) → (∃ I F G w1, Rel K I F G w1 H ∧ D5 K h I F G ∧ bF K I F G Ez (RV K Q) (m h.x w1)) → codeAny (model P w) A (.call (.ref f) args) (CR (L2.CX P w) outer P w H s Q Ez) s
def UE (mb : XD → MS) (N : List Str) (x : XD) (w : W) : Res D := (mb x (List.replicate N.length none) w).bind fun f w1 => match f with
 | .nx _ => .ok .non w1
 | .rt d => .ok d w1
 | _ => .bad
theorem YE {A : Around} {v : Value} (h : A.handled = some v) : A.mark (some v) = A := by
 cases A
 simp only at h
 subst h
 rfl
theorem FnX.of {S : aR} {x qual : Str} {params : Arguments} {body : List Stmt} {scope : Scope} {dvs : List V} {kws : List (Str × V)} {f : Addr} {fd : FuncData} {N ps : List Str} {k : Nat} {mb : XD → MS} {m : XD → W → Res D}
  (F : FunD S.K x qual params body scope dvs kws f fd) (Sc : FnScope N ps scope) (hb : YM (S.body k N scope) 0 body mb) (h1 : ps.length = 1) (hm : ∀ x w, m x w = UE mb N x w) : FnX S.P S.w S.K S.mg S.base (k + 1) f fd ps m := by
 refine ⟨h1, fun A outer s H args Q h oe hr hg hh hpin hz hf e0 hbt hsp => ?_⟩
 obtain ⟨oc, od, dV, kV, doc, pm, an, cdv, ct, osl, rfl, lk, hcd, _, _⟩ := F.ex
 have KX : S.K.In s.heap := e0.mod.kin.keeps fun b o e => (e0.bs b o e).1
 have lim : s.heap.NoLimit := e0.mod.nolimit.keeps fun b o e => (e0.bs b o e).1
 have kinds : ∀ y ∈ ps.zip [Value.ref h.a], scope.names.lookup y.1 = some .local ∨ (scope.names.lookup y.1 = some .cell ∧ ((cellsFrom (s.heap.objs.size + 1) scope.names []).lookup y.1).isSome = true) := by
  rintro ⟨n, v⟩ hy
  have hn : n ∈ ps := (List.of_mem_zip hy).1
  rcases Sc.par n hn with q | q
  ·exact Or.inl q
  ·exact Or.inr ⟨q, PySem.W.cellsFrom_some _ _ _ (.inl q)⟩
 refine codeAny_call_function hr.depth (KX _ _ lk) rfl Sc.co Sc.gen rfl (PySem.W.codeRec_of KX hcd) (hbt _ _ _ _ ?_)
 refine wpAny_newFunctionEnv_cells Sc.kind kinds fun env he s1 y => ?_
 subst he
 refine ⟨lim.keeps y.toInCall.keep, codeAny_func ?_⟩
 obtain ⟨I, F0, G, w, rel, hd, p⟩ := hsp
 obtain ⟨vs, hvs⟩ := hf
 have J0 := L2H.inv_startH (CX := L2.CX S.P S.w) (P := S.P) (w := S.w) (K := S.K) (mg := S.mg) (base := S.base) (N := N) (ps := ps) (qual := qual) (scope := scope) (f := f) (cd := cdv) (A := A) (outer := outer) (s := s) (s1 := s1) (H := H) (E := Ez) (us := [.ref h.a]) (vs := [.ref h.a]) Sc hpin e0 (by rw [h1]; rfl) (.cons rfl .nil) y
 obtain ⟨X0, eX0⟩ : ∃ X0, X0 = L2H.cxH (L2.CX S.P S.w) S.P S.w S.K S.mg S.base N qual scope f cdv A outer s H Ez (h.a, oe) := ⟨_, rfl⟩
 rw [← eX0] at J0
 have ga : s1.heap.get? h.a = some oe := y.toInCall.keep _ _ hpin.get
 have J : Inv (X0.suite h.a ((h.a, oe) :: (X0.pn ++ []))) [] (L2.start N [.ref h.a]) H s1 := J0.suite ga hvs hpin.free (by
  rw [eX0]
  exact Nat.ne_of_lt (Heap.lt_size hpin.get)) (by
  rw [eX0]
  exact hpin.nofs)
 have eA : X0.A.mark (some (.ref h.a)) = X0.A := by
  rw [eX0]
  exact YE hh
 have hi : (0 : Nat) = 0 := rfl
 have cx : aAP (S.body k N scope) 0 (X0.suite h.a ((h.a, oe) :: (X0.pn ++ []))) ⟨0, h.a, h.cls, h.d, h.x⟩ := by
  have hdp := hr.deeper (envOfC qual scope s.heap.objs.size f cdv)
  refine ⟨?_, ?_, ?_, ?_, ?_, ?_, ?_, ⟨X0, oe, X0.pn ++ [], rfl, hz, ⟨vs, hvs⟩⟩, rfl, ?_, ?_, ?_, ?_⟩
  ·rw [eX0]; rfl
  ·rw [eX0]; rfl
  ·rw [eX0]; rfl
  ·rw [eX0]; rfl
  ·rw [eX0]; exact Sc.nd
  ·show (X0.A.mark _).guards = _
   rw [eA, eX0]; exact hg
  ·show (X0.A.mark _).units + 200 < cLine
   rw [eA, eX0]
   have := hdp.un
   show (A.deeper (envOfC qual scope s.heap.objs.size f cdv)).units + 200 < cLine
   omega
  ·rw [eX0]; rfl
  ·rw [eX0]; rfl
  ·rw [eX0]; rfl
  ·show (X0.A.mark _).depth + 3 * k + 5 < recursionLimit ∧ (X0.A.mark _).units + 16 * k + 200 < cLine
   rw [eA, eX0]
   exact ⟨hdp.dp, hdp.un⟩
 have e1 : m h.x w = UE mb N h.x w := hm _ _
 rw [e1] at p
 have sl : EU ⟨0, h.a, h.cls, h.d, h.x⟩ (L2.start N [.ref h.a]) := rfl
 have rs : dW S.K I F0 (List.replicate N.length none) (L2.start N [.ref h.a]) := by
  have hN : 1 ≤ N.length := by
   have := congrArg List.length Sc.pre
   rw [List.length_take, h1] at this
   omega
  refine ⟨by unfold L2.start; simp; omega, fun i d e => ?_⟩
  rw [List.getElem?_replicate] at e
  split at e <;> cases e
 have go := (hb _ _ cx).run [] s1 (L2.start N [.ref h.a]) H { nx := fun _ H' => Q .non H', rt := Q } J (by
  refine ⟨sl, I, F0, G, List.replicate N.length none, w, ?_, ?_, ?_, ?_⟩
  ·rw [eX0]; exact rel
  ·rw [eX0]; exact rs
  ·rw [eX0]; exact hd
  ·rw [eX0]
   refine (bF.bind p).mono fun I1 F1 H1 fl w1 _ e1 rel1 p1 => ?_
   cases fl with
   | nx z => exact fun s' _ _ => p1.nL rel1 (by simp [aH])
   | rt d => exact fun v rv => p1.nL rel1 rv
   | bk z => exact p1.elim
   | ct z => exact p1.elim)
 have eA2 : (X0.suite h.a ((h.a, oe) :: (X0.pn ++ []))).A = A.deeper (envOfC qual scope s.heap.objs.size f cdv) := by
  show X0.A.mark _ = _
  rw [eA, eX0]
  rfl
 have fin : ∀ {σ' : L2.St} {H' : Hp} {s' : Shared} {v : V} {u : Value}, Inv (X0.suite h.a ((h.a, oe) :: (X0.pn ++ []))) [] σ' H' s' → RelV v u → Q v H' → CE outer S.P S.w H s Q u s' := fun {σ' H' s' v u} J2 rv q => by
  have b := J2.base
  have o := J2.hok
  have os := J2.os
  rw [eX0] at b o os
  exact ⟨v, H', os, J2.bare, b, o, rv, q⟩
 rw [eA2] at go
 rw [eX0] at go fin
 refine wpAny_mono go (fun fl s' hs => ?_) fun e s' hs => hs.elim
 cases fl with
 | ret u =>
  obtain ⟨v, σ', H', J', rv, q⟩ := hs
  exact fin J' rv q
 | next =>
  obtain ⟨σ', H', J', q⟩ := hs
  exact fin (v := V.non) (u := Value.none) J' rfl q
 | brk =>
  obtain ⟨_, _, _, q⟩ := hs
  exact q.elim
 | cont =>
  obtain ⟨_, _, _, q⟩ := hs
  exact q.elim
def R3 (K : PySem.W.Frag) (fd : FuncData) (ps : List Str) : Prop := ∀ (s : Shared) (us : List Value), K.In s.heap → us.length = ps.length → BindsTo s fd ⟨us, []⟩ (ps.zip us)
theorem XO {K : PySem.W.Frag} {x qual : Str} {params : Arguments} {body : List Stmt} {scope : Scope} {kws : List (Str × V)} {f : Addr} {fd : FuncData} {ps : List Str} (F : FunD K x qual params body scope [] kws f fd)
  (h : ∀ (kV doc pm : Value) (an : Option Addr) (cdv ct : Value) (us : List Value), us.length = ps.length → bindArgs (PySem.W.fnOf x qual params body scope .none kV doc pm an cdv ct) ⟨us, []⟩ = pure (ps.zip us)) : R3 K fd ps := fun s us _ h1 => F.bindsA h s us h1
section
variable {S : aR} {i k : Nat} {f : Addr} {fd : FuncData} {ps : List Str} {m : XD → W → Res D} {x n : Str} {p p2 pos : Pos} {a b : Expr} {ma mb : XD → ME}
def R6 (m : XD → W → Res D) (x : XD) : ME := fun _ w => m x w
theorem XJ (hk : k ≤ S.k) (Ff : FnX S.P S.w S.K S.mg S.base k f fd ps m) (B : R3 S.K fd ps) (hg : S.sc.names.lookup x = some .globalImplicit) (hm : S.mg x = some (.ref f)) (kp : PySem.W.keepIn S.K (.ref f) = true)
  (hn : S.N[i]? = some n := by rfl) (hv : Vis S.sc n := by first | exact Or.inl rfl | exact Or.inr (Or.inl rfl) | exact Or.inr (Or.inr rfl)) (hdb : (x == ("__debug__" : Str)) = false := by decide) (hd2 : (n == ("__debug__" : Str)) = false := by decide) (hcd : (n == ("__classdict__" : Str)) = false := by decide)
  (he : ∀ env : Env, starEach [.Name n p2] env = (false, eval (.Name n p2) env) :: starEach [] env := by intro _; rfl) (hpl : ∀ env : Env, (backTo pos (starEach [] env)).any (·.1) = false := by intro _; rfl) :
  SK S i (.Call (.Name x p) [.Name n p2] [] pos) (fun x => R6 m x) := fun X h cx => by
 obtain ⟨Y, oe, pn, eX, hz, hf⟩ := cx.at_
 have pv : PE X (.Name n p2) (tVar h.i) := L2.pe_var (i := h.i) (by rw [cx.N, cx.i]; exact hn) (by rw [cx.sc]; exact hv) hd2 hcd
 refine ⟨fun pins s σ H Q J ⟨sl, I, F, G, ds, w, rel, rs, hh, pp⟩ => ?_⟩
 refine wpAny_Call_Name_kw (ld_glob J (by show X.env.scope.names.lookup x = _; rw [cx.sc]; exact hg) (by rw [cx.mg]; exact hm) ?_ hdb)
 refine PySem.W.callWith_K (h₀ := X.base) J.ok.mod.kin (by rw [cx.K]; exact kp) (thn ((pa_cons (hs := he X.env) pv pa_nil).run pos pins s σ H (fun vs H1 => vs = [.ref h.a] ∧ H1 = H) J ⟨.ref h.a, sl, rfl, rfl⟩) fun us s1 ⟨vs, H1, J1, r, ev, eH⟩ => ⟨J1.kIn, ?_⟩) (he X.env) (hpl X.env)
 subst ev eH
 obtain ⟨u, rfl, ru⟩ := r.one
 cases (show u = Value.ref h.a from ru)
 have P1 := J1.pin (h.a, oe) (List.mem_append_left _ (by rw [eX]; exact bc ..))
 have hpin : L2H.PinOk X.stack H1 s1 (h.a, oe) := ⟨P1.1, P1.2.1, fun hmm => (bh.mp (J1.stkSub h.a hmm)).elim P1.2.2.1 P1.2.2.2.1, P1.2.2.2.2⟩
 have hA : X.A.handled = some (.ref h.a) := by rw [eX]; rfl
 have hb := B s1 [.ref h.a] (by rw [← cx.K]; exact J1.kIn) (by rw [Ff.one]; rfl)
 have Ff' : FnX X.prog X.w X.K X.mg X.base k f fd ps m := by rw [cx.P, cx.w, cx.K, cx.mg, cx.base]; exact Ff
 have hr : L2H.RoomH k X.A := ⟨by have := cx.rm.1; omega, by have := cx.rm.2; omega⟩
 refine wpAny_call (codeAny_mono (Ff'.run X.A X.stack s1 H1 ⟨[.ref h.a], []⟩ Q h oe hr cx.gds hA hpin hz hf J1.env0 hb ⟨I, F, G, w, rel, hh, pp⟩) fun fl s' hq => ?_)
 cases fl with
 | error e =>
  obtain ⟨_, _, _, _, _, _, _, _, _, _, _, _, q⟩ := hq
  exact q.elim
 | ok fl =>
  cases fl with
  | ret u => exact J1.after hq
  | next => exact hq.elim
  | brk => exact hq.elim
  | cont => exact hq.elim
def E1 (x y : D) (w : W) : Res D := match x, y with
 | .lst a, .lst b => if a.length + b.length ≤ sizeLine then .ok (.lst (a ++ b)) w else .bad
 | _, _ => .bad
theorem JL : O2U (binaryOp .Add) E1 := fun X pins s σ H x y v u Q J rx ry ⟨I, F, G, d, e, w, rel, rd, re, p⟩ => by
 unfold E1 at p
 split at p
 ·rename_i a b
  simp only [aH] at rd re
  obtain ⟨q, vs, ex, h1, h2⟩ := rd
  obtain ⟨q', vs', ex', h1', h2'⟩ := re
  split at p
  ·rename_i hl
   exact op_cat pins s σ H _ _ v u Q J rx ry ⟨q, q', vs, vs', ex, ex', rel.fz _ _ h1, rel.fz _ _ h1', by rw [← h2.length, ← h2'.length]; exact hl, kI rel (h2.append h2') p⟩
  ·exact p.elim
 ·exact p.elim
theorem VW {op : Operator} {f : D → D → W → Res D} (ho : O2U (binaryOp op) f) (ha : SK S i a ma) (hb : SK S i b mb) : SK S i (.BinOp a op b pos) (fun x => aD f (ma x) (mb x)) := fun X h c =>
 b0 (pe_op (ho X) (ha X h c) (hb X h c)) fun _ _ _ q => ZQ q
end
theorem aAV {P : Program} {w : World} {K : PySem.W.Frag} {mg mb : Str → Option Value} {k : Nat} {fa a : Addr} {fd : FuncData} {x : Str} {m : MF} {s : Shared} {ns : List Int} (H : Hp)
  (kin : K.In s.heap) (glo : s.heap.Ns mainGlobals mg) (blt : s.heap.Ns builtinsNs mb) (boot : ∀ y : Str, y ≠ "__name__" → mb y = bootBuiltins y) (free : s.heap.NoLimit) (gens : s.gens = #[]) (room : Room k callerA)
  (prom : ∀ base : Heap, K.In base → base.Ns mainGlobals mg → gI P w K mg base k fa fd [x] m) (bind : ∀ (t : Shared) (u : Value), BindsTo t fd ⟨[u], []⟩ [(x, u)]) (w' : W) (good : m [.oI (ns.map D.int)] [] = .ok (.bl true) w')
  (only : Only H) (held : SqL K H a (ns.map V.int)) (ok : HOk P w H s.heap) (nod : ∀ b o, s.heap.get? b = some o → H b ≠ none → ∀ es ep, o.data ≠ .dict es ep) (nok : ∀ b, H b ≠ none → K.lookup b = none) :
  codeAny (model P w) callerA (.call (.ref fa) ⟨[.ref a], []⟩) (fun r t => r = .ok (.ret (.bool true)) ∧ OldK s.heap t.heap ∧ t.os = s.os ∧ AllBare t.gens) s := by
 have low : ∀ {b : Addr} {o : Obj}, s.heap.get? b = some o → H b = none → (hidT s.heap H).get? b = some o := hidT_get
 have dicts : ∀ {b : Addr} {f : Str → Option Value}, s.heap.Ns b f → (hidT s.heap H).Ns b f := by
  rintro b f ⟨o, es, ep, h1, h2, h3⟩
  refine ⟨o, es, ep, low h1 ?_, h2, h3⟩
  by_cases q : H b = none
  ·exact q
  ·exact absurd h2 (nod b o h1 q es ep)
 have kb : K.In (hidT s.heap H) := fun b o h => low (kin b o h) (by
  by_cases q : H b = none
  ·exact q
  ·rw [nok b q] at h; cases h)
 obtain ⟨mc, c1, c2⟩ := free
 have e0 : Env0 P w K mg (hidT s.heap H) callerA [] s H := {
  frames := rfl
  mod := ⟨kb, dicts glo, ⟨mb, dicts blt, boot⟩, ⟨mc, dicts c1, c2⟩⟩
  bs := fun b o h => of_hidT h
  bsz := Nat.le_of_eq (hidT_size _ _)
  funs := trivial
  frf := fun b hb => by simp [frs] at hb
  hok := ok
  bare := .of_eq gens }
 have rel : Rel K [] H (fun _ => none) [] H := ⟨rfl, List.nodup_nil, fun i b o h => by simp at h, fun _ _ h => h, fun i b o h => by simp at h, fun _ _ h => (by cases h), fun _ _ h => (by cases h), fun _ _ h => (by cases h)⟩
 have sp : spM K m [V.ref a] H (fun v _ => v = .bl true) fun _ _ _ => False := by
  refine ⟨[], H, fun _ => none, [.oI (ns.map D.int)], [], rel, RepL.cons ?_ (by simp [RepL]), ?_⟩
  ·simp only [aH]; exact ⟨a, _, rfl, held, RepL.ints ns⟩
  ·rw [good]
   intro I' F' H' _ _ v rv
   simpa only [aH] using rv
 refine codeAny_mono ((prom _ kb (dicts glo)).run callerA [] s H ⟨[.ref a], []⟩ [.ref a] [.ref a] _ _ room rfl e0 (bind s (.ref a)) (.cons rfl .nil) rfl sp) fun r t h => ?_
 match r, h with
 | .error e, h =>
  obtain ⟨_, _, _, _, _, h⟩ := h
  simp at h
 | .ok (.ret u), h =>
  obtain ⟨v, H2, h1, h2, h3, h4, h5, h6⟩ := h
  subst h6
  obtain rfl : u = Value.bool true := h5
  refine ⟨rfl, OldK.of_keep fun b o hb => ?_, h1, h2⟩
  rcases only b with q | ⟨ob, xs, q⟩
  ·exact h3.keep b o hb q (by intro z; simp [frs] at z) (by simp)
  ·obtain ⟨g1, _⟩ := ok b _ q
   obtain ⟨g2, _⟩ := h4 b _ (h3.frzs b ob _ q)
   rw [hb] at g1; cases g1
   exact g2
 | .ok .next, h => exact h.elim
 | .ok .brk, h => exact h.elim
 | .ok .cont, h => exact h.elim
theorem ZS {P : Program} {w : World} {K : PySem.W.Frag} {mg mb : Str → Option Value} {k : Nat} {fa a : Addr} {fd : FuncData} {x : Str} {m : MF} {s : Shared} {us : List Value} {ns : List Int}
  (kin : K.In s.heap) (glo : s.heap.Ns mainGlobals mg) (blt : s.heap.Ns builtinsNs mb) (boot : ∀ y : Str, y ≠ "__name__" → mb y = bootBuiltins y) (free : s.heap.NoLimit) (gens : s.gens = #[]) (room : Room k callerA)
  (laid : s.heap.get? a = some { cls := .type "list", data := .seq us.toArray }) (nums : IntsAre us ns) (few : ns.length ≤ sizeLine)
  (prom : ∀ base : Heap, K.In base → base.Ns mainGlobals mg → gI P w K mg base k fa fd [x] m) (bind : ∀ (t : Shared) (u : Value), BindsTo t fd ⟨[u], []⟩ [(x, u)]) (w' : W) (good : m [.oI (ns.map D.int)] [] = .ok (.bl true) w') :
  codeAny (model P w) callerA (.call (.ref fa) ⟨[.ref a], []⟩) (fun r t => r = .ok (.ret (.bool true)) ∧ OldK s.heap t.heap ∧ t.os = s.os ∧ AllBare t.gens) s := by
 have vals := vals_ints nums
 cases hk : K.lookup a with
 | some o =>
  have h := kin a o hk
  rw [laid] at h
  cases h
  refine aAV (fun _ => none) kin glo blt boot free gens room prom bind w' good (fun _ => .inl rfl) (.inr ⟨_, us.toArray, _, hk, rfl, rfl, rfl, ?_, by simpa using vals⟩) (fun _ _ h => by cases h) (fun _ _ _ h => absurd rfl h) fun _ h => absurd rfl h
  rw [List.size_toArray]; have := nums.length; omega
 | none =>
  let ob : Obj := { cls := .type "list", data := .seq us.toArray }
  let H : Hp := fun b => if b = a then some (.frz ob (.lst (ns.map V.int))) else none
  have at1 : H a = some (.frz ob (.lst (ns.map V.int))) := if_pos rfl
  have at2 : ∀ {b : Addr}, H b ≠ none → b = a := fun {b} h => by
   by_cases e : b = a
   ·exact e
   ·exact absurd (if_neg e) h
  refine aAV H kin glo blt boot free gens room prom bind w' good (fun b => ?_) (.inl (.inr ⟨ob, at1⟩)) (fun b u h => ?_) (fun b o h hb es ep hd => ?_) fun b hb => by rw [at2 hb]; exact hk
  ·by_cases e : b = a
   ·exact .inr ⟨ob, _, if_pos e⟩
   ·exact .inl (if_neg e)
  ·obtain rfl := at2 (b := b) (by rw [h]; simp)
   rw [at1] at h
   cases h
   exact ⟨laid, by rw [cg]; exact few, us, _, vals, laid⟩
  ·obtain rfl := at2 hb
   rw [laid] at h
   cases h
   cases hd
theorem aAS {l : PySem.W.OpenLaw} {n k : Nat} {q : Program} {loose : List Str} {XP : (Str → Option Value) → Heap → Prop} {YP : World → Heap → Prop} {d : DefRec} {x : Str}
  (hn : l.most = some n) (hn2 : n ≤ sizeLine) (hdf : d.params.defaults = []) (hr : Room k callerA)
  (F : ∀ (w : World) (mg : Str → Option Value) (fa : Addr) (h : Heap), YP w h → h.Ns mainGlobals mg → mg d.name = some (.ref fa) →
   ∃ (K : PySem.W.Frag) (fd : FuncData) (m : MF), K.In h ∧ (∀ (s : Shared) (u : Value), BindsTo s fd ⟨[u], []⟩ [(x, u)]) ∧ (∀ ns : List Int, ns.length ≤ n → ∃ w', m [.oI (ns.map D.int)] [] = .ok (.bl true) w') ∧
    ∀ base : Heap, K.In base → base.Ns mainGlobals mg → gI l.prog w K mg base k fa fd [x] m) :
  PySem.W.WalkO q loose XP YP l.row.toRowW d [] (fun f vs => PySem.call f vs) :=
 Att.attach_call hn hdf fun w _ s mg _ fa _ _ _ _ _ us ns G Y _ _ _ hmg laid nums few gens => by
  obtain ⟨K, fd, m, kin, bind, good, prom⟩ := F w mg fa _ Y G.T.g hmg
  obtain ⟨w', hw⟩ := good ns few
  exact ZS kin G.T.g G.T.b G.T.builtins G.T.nolimit gens hr laid nums (de few hn2) prom bind w' hw
end Pc
namespace K01
open PySem PySem.Spec PyProof.Rows L2 Pc
def top (i : Nat) : Stmt := PySem.Challenge.pw_onemaster_k01_plans_made_and_refused.main.body.getD i (.Pass ⟨0, 0, 0, 0⟩)
structure bN where
 eU : Addr
 iU : Addr
 iX : Addr
 bL : Addr
 lH : Addr
 iV : Addr
 aO : Addr
 gN : Addr
 eE : Addr
 k9 : Addr
 zz : Unit := ()
def dX : List (Str × Option D) := [(("every" : Str), some (.lY [(.int 1), (.int 5)])), (("lost" : Str), some (.lY [(.int 0), (.int 3)])), (("slow" : Str), some (.lY [(.int 1), (.int 4)])), (("bears" : Str), some (.lY [(.int 0), (.int 3)])), (("gap" : Str), some (.lY [(.int 0), (.int 3)])), (("hold" : Str), some (.lY [(.int 0), (.int 20)])), (("hosts" : Str), some (.lY [(.int 0), (.int 4)])), (("takes" : Str), none), (("ties" : Str), none)]
abbrev Dis (k : bN) : Prop := [k.eU, k.iU, k.iX, k.bL, k.lH, k.iV, k.gN].Nodup
end K01
set_option maxHeartbeats 0
namespace K01H
open PySem PySem.Spec PyProof.Rows L2 Pc K01
def sT : He.DefD := ⟨("_law_deck", none), "_law_deck", "_law_deck", defArgs (top 30), defBody (top 30), defScope (top 30), [], []⟩
def sZ : He.DefD := ⟨("_law_draw", none), "_law_draw", "_law_draw", defArgs (top 31), defBody (top 31), defScope (top 31), [], []⟩
def kY : He.DefD := ⟨("_law_is_within", none), "_law_is_within", "_law_is_within", defArgs (top 37), defBody (top 37), defScope (top 37), [], []⟩
def lA : He.DefD := ⟨("_law_are_cords", none), "_law_are_cords", "_law_are_cords", defArgs (top 39), defBody (top 39), defScope (top 39), [], []⟩
def mK : He.DefD := ⟨("_law_are_rows", none), "_law_are_rows", "_law_are_rows", defArgs (top 38), defBody (top 38), defScope (top 38), [], []⟩
def rL : He.DefD := ⟨("_law_fault", none), "_law_fault", "_law_fault", defArgs (top 40), defBody (top 40), defScope (top 40), [], []⟩
def jZ : He.DefD := ⟨("_law_due_fields", none), "_law_due_fields", "_law_due_fields", defArgs (top 36), defBody (top 36), defScope (top 36), [], []⟩
def nZ : He.DefD := ⟨("_law_classes", none), "_law_classes", "_law_classes", defArgs (top 43), defBody (top 43), defScope (top 43), [], []⟩
def pO : He.DefD := ⟨("_law_fields", none), "_law_fields", "_law_fields", defArgs (top 35), defBody (top 35), defScope (top 35), [], []⟩
def wM : He.DefD := ⟨("is_whole", none), "is_whole", "is_whole", defArgs (top 21), defBody (top 21), defScope (top 21), [], []⟩
def uL : He.DefD := ⟨("is_within", none), "is_within", "is_within", defArgs (top 22), defBody (top 22), defScope (top 22), [], []⟩
def sW : He.DefD := ⟨("are_ranks", none), "are_ranks", "are_ranks", defArgs (top 23), defBody (top 23), defScope (top 23), [], []⟩
def G2 : He.DefD := ⟨("is_tie", none), "is_tie", "is_tie", defArgs (top 24), defBody (top 24), defScope (top 24), [], []⟩
def xU : He.DefD := ⟨("are_ties", none), "are_ties", "are_ties", defArgs (top 25), defBody (top 25), defScope (top 25), [], []⟩
def xE : He.DefD := ⟨("is_field", none), "is_field", "is_field", defArgs (top 26), defBody (top 26), defScope (top 26), [], []⟩
def tV : He.DefD := ⟨("Plan", some "__init__"), "__init__", "Plan.__init__", defArgs (inClass (top 28) 0), defBody (inClass (top 28) 0), defScope (inClass (top 28) 0), [], [(("every" : Str), (.int 1)), (("lost" : Str), (.int 1)), (("slow" : Str), (.int 1)), (("bears" : Str), .non), (("gap" : Str), (.int 1)), (("hold" : Str), (.int 0)), (("takes" : Str), (.bl true)), (("ties" : Str), (.adr (Pc.kwAt ("Plan", some "__init__") "ties"))), (("hosts" : Str), (.int 0))]⟩
def sV : He.DefD := ⟨("_law_made", none), "_law_made", "_law_made", defArgs (top 34), defBody (top 34), defScope (top 34), [], []⟩
def rV : He.DefD := ⟨("_law_heard", none), "_law_heard", "_law_heard", defArgs (top 44), defBody (top 44), defScope (top 44), [], []⟩
def rP : He.DefD := ⟨("_law_right", none), "_law_right", "_law_right", defArgs (top 45), defBody (top 45), defScope (top 45), [], []⟩
def xJ : He.DefD := ⟨("_law_odd", none), "_law_odd", "_law_odd", defArgs (top 41), defBody (top 41), defScope (top 41), [], []⟩
def pG : He.DefD := ⟨("_law_spoilt", none), "_law_spoilt", "_law_spoilt", defArgs (top 42), defBody (top 42), defScope (top 42), [], []⟩
def sS : He.DefD := ⟨("_law_pick", none), "_law_pick", "_law_pick", defArgs (top 32), defBody (top 32), defScope (top 32), [], []⟩
def tJ : He.DefD := ⟨("_law_told", none), "_law_told", "_law_told", defArgs (top 33), defBody (top 33), defScope (top 33), [], []⟩
def aAl : He.DefD := ⟨("law", none), "law", "law", defArgs (top 46), defBody (top 46), defScope (top 46), [], []⟩
def lR : He.DefD := ⟨("NoPlan", some "__init__"), "__init__", "NoPlan.__init__", defArgs (inClass (top 8) 0), defBody (inClass (top 8) 0), defScope (inClass (top 8) 0), [], []⟩
def fn : List He.DefD := [sT, sZ, kY, lA, mK, rL, jZ, nZ, pO, wM, uL, sW, G2, xU, xE, tV, sV, rV, rP, xJ, pG, sS, tJ, aAl, lR]
def fa : List He.Fa := [.free "IndexError", .free "ValueError", .free "all", .free "bool", .free "int", .free "isinstance", .free "len", .free "list", .free "range", .free "repr", .free "sorted", .free "str", .free "sum", .free "tuple", .free "zip", .glo "_law_deck", .glo "_law_draw", .glo "_law_is_within", .glo "_law_are_cords", .glo "_law_are_rows", .glo "_law_fault", .glo "_law_due_fields", .glo "_law_classes", .glo "_law_fields", .glo "is_whole", .glo "is_within", .glo "are_ranks", .glo "is_tie", .glo "are_ties", .glo "is_field", .glo "_law_made", .glo "_law_heard", .glo "_law_right", .glo "_law_odd", .glo "_law_spoilt", .glo "_law_pick", .glo "_law_told", .glo "law", .glo "NUMBERS", .glo "NetError", .glo "NoDeed", .glo "NoFate", .glo "NoPlan", .glo "NoRow", .glo "NoText", .glo "Plan", .cls "Plan", .noat "Plan" "bears", .noat "Plan" "every", .noat "Plan" "gap", .noat "Plan" "hold", .noat "Plan" "hosts", .noat "Plan" "lost", .noat "Plan" "ranks", .noat "Plan" "slow", .noat "Plan" "takes", .noat "Plan" "ties", .mkr "Plan", .glo "TooMany"]
def ts : List He.Tab := [((fun K => He.ga K "NUMBERS"), [("every" : Str), ("lost" : Str), ("slow" : Str), ("bears" : Str), ("gap" : Str), ("hold" : Str), ("hosts" : Str)])]
def exl (K : PySem.W.Frag) : List Bool := [NZ K "MOST_ADDRESSES" (.int 4), NZ K "MOST_HOUSES" (.int 6), NZ K "MOST_LESS" (.int 11), NZ K "MOST_TIE" (.int 9), NZ K "MOST_TIES" (.int 6), NZ K "TOP" (.int 12), aAY K (He.ga K "NUMBERS") dX, aGb K (He.ga K "NoPlan") (He.ga K "NetError") (He.fAd K lR.at_) ("field" : Str), aHp K (He.ga K "NoPlan") (He.ga K "NoPlan") true, PySem.W.xcB K (He.ga K "NoPlan"), decide (PySem.W.kitOne K (.ref (He.ga K "NoPlan")) (.type "IndexError") = some false), decide (PySem.W.kitOne K (.ref (He.ga K "NoPlan")) (.ref (He.ga K "NetError")) = some true), decide (PySem.W.kitOne K (.ref (He.ga K "NoPlan")) (.ref (He.ga K "NoDeed")) = some false), decide (PySem.W.kitOne K (.ref (He.ga K "NoPlan")) (.ref (He.ga K "NoFate")) = some false), decide (PySem.W.kitOne K (.ref (He.ga K "NoPlan")) (.ref (He.ga K "NoPlan")) = some true), decide (PySem.W.kitOne K (.ref (He.ga K "NoPlan")) (.ref (He.ga K "NoRow")) = some false), decide (PySem.W.kitOne K (.ref (He.ga K "NoPlan")) (.ref (He.ga K "NoText")) = some false), decide (PySem.W.kitOne K (.ref (He.ga K "NoPlan")) (.ref (He.ga K "TooMany")) = some false), decide (PySem.W.kitOne K (.ref (He.ga K "NoPlan")) (.type "ValueError") = some true), decide ([He.ga K "NetError", He.ga K "NoDeed", He.ga K "NoFate", He.ga K "NoPlan", He.ga K "NoRow", He.ga K "NoText", He.ga K "TooMany"].Nodup), aF9 K]
def ex (K : PySem.W.Frag) : Bool := (exl K).all id
theorem iY {K : PySem.W.Frag} (h : ex K = true) (i : Nat) {b : Bool} (hi : (exl K)[i]? = some b) : b = true := by
 unfold ex at h
 rw [au] at h
 exact h b (cb hi)
def loose : List PySem.Str := (["EVERY", "LOST", "SLOW", "GAP", "HOLD", "TOP", "NetError", "NoPlan", "NoText", "NoDeed", "NoFate", "TooMany", "NoRow", "MOST_ADDRESSES", "MOST_HOUSES", "MOST_TIES", "MOST_TIE", "MOST_LESS", "NUMBERS", "is_whole", "is_within", "are_ranks", "is_tie", "are_ties", "is_field", "in_words", "Plan", "_law_deck", "_law_draw", "_law_pick"] : List PySem.Str) ++ (["_law_told", "_law_made", "_law_fields", "_law_due_fields", "_law_is_within", "_law_are_rows", "_law_are_cords", "_law_fault", "_law_odd", "_law_spoilt", "_law_classes", "_law_heard", "_law_right"] : List PySem.Str)
abbrev R : PySem.W.OpenRow := PySem.W.OpenLaw.row PySem.Challenge.rw_onemaster_k01_plans_made_and_refused
def as : List Nat := ([3, 6, 4, 24, 44, 63, 82, 101, 120, 132, 135, 149, 156, 161, 168, 173, 180, 185, 237, 248, 255, 262, 267, 274, 281, 288, 295, 300, 307, 314, 321, 328, 335, 342, 349, 356, 0, 23, 43, 62, 81, 100, 119, 131, 136, 137, 138, 139, 140, 141, 142, 148, 155, 160, 167, 172, 179, 184, 236, 247] : List Nat) ++ ([254, 261, 266, 273, 280, 287, 294, 299, 306, 313, 320, 327, 334, 341, 348, 355, 22, 25, 41, 42, 60, 61, 79, 80, 98, 99, 117, 118, 130, 143, 145, 146, 147, 150, 152, 153, 154, 157, 159, 162, 164, 165, 166, 169, 171, 174, 176, 177, 178, 181, 183, 201, 208, 215, 222, 227, 234, 235, 238, 239] : List Nat) ++ ([242, 244, 245, 246, 249, 251, 252, 253, 256, 258, 259, 260, 263, 265, 268, 270, 271, 272, 275, 277, 278, 279, 282, 284, 285, 286, 289, 291, 292, 293, 296, 298, 301, 303, 304, 305, 308, 310, 311, 312, 315, 317, 318, 319, 322, 324, 325, 326, 329, 331, 332, 333, 336, 338, 339, 340, 343, 345, 346, 347] : List Nat) ++ ([350, 352, 353, 354, 40, 59, 78, 97, 116, 200, 194, 207, 214, 221, 226, 233, 2, 1] : List Nat)
abbrev hk : PySem.W.Hook := He.aEa as fa fn ts ex
def ob (s : PySem.W.SharedT) : He.AlY := He.aCG as fa fn ts ex (HandSHeadRun.getT s)
theorem aHH (s : PySem.W.SharedT) : ob s = hk.obs s.abs := He.aC6 (HandSHeadRun.getT_eq s)
open PySem PySem.W PySem.Calls PyProof.Rows HandSHeadRun in
abbrev eF (w : World) (os : OsState) : Option SharedT := endF (stepQ (denQ tabQ) R.prog w) 8000 R.prog w os
open PySem PySem.W PySem.Calls PyProof.Rows in
theorem OW (w : World) (os : OsState) : (eF (w.withFollow "special-get-raises" false) os).map (fun s => (HandSHeadRun.looksF R.prog (boot_heap (w.withFollow "special-get-raises" false).params) s.abs, HandSHeadRun.seenQ (PySem.W.view R.prog [46]) loose (importedModules R.prog.main.body) (fun s => xlAt (PySem.W.view R.prog [46]) [] s && recOk R.toRowW.records s) s.abs)) = some (true, openGood (PySem.W.view R.prog [46]) loose) := by
 kernel_rfl
open PySem PySem.W PySem.Calls PyProof.Rows in
theorem SX (w : World) (os : OsState) : (eF (w.withFollow "special-get-raises" false) os).map (ob) = some (hk.val (w.withFollow "special-get-raises" false)) := by
 kernel_rfl
theorem W2 (w : World) : HandSHeadRun.RunEq R (PySem.W.view R.prog [46]) hk ob 8000 loose (w.withFollow "special-get-raises" false) := fun os => He.aDY (OW w os) (SX w os)
open PySem PySem.W PySem.Calls PyProof.Rows in
theorem S6 (w : World) (os : OsState) : (eF (w.withFollow "special-get-raises" true) os).map (fun s => (HandSHeadRun.looksF R.prog (boot_heap (w.withFollow "special-get-raises" true).params) s.abs, HandSHeadRun.seenQ (PySem.W.view R.prog [46]) loose (importedModules R.prog.main.body) (fun s => xlAt (PySem.W.view R.prog [46]) [] s && recOk R.toRowW.records s) s.abs)) = some (true, openGood (PySem.W.view R.prog [46]) loose) := by
 kernel_rfl
open PySem PySem.W PySem.Calls PyProof.Rows in
theorem X6 (w : World) (os : OsState) : (eF (w.withFollow "special-get-raises" true) os).map (ob) = some (hk.val (w.withFollow "special-get-raises" true)) := by
 kernel_rfl
theorem aAr (w : World) : HandSHeadRun.RunEq R (PySem.W.view R.prog [46]) hk ob 8000 loose (w.withFollow "special-get-raises" true) := fun os => He.aDY (S6 w os) (X6 w os)
theorem run (w : World) : HandSHeadRun.RunEq R (PySem.W.view R.prog [46]) hk ob 8000 loose w := PySem.W.byRow2 "special-get-raises" (P := fun w => HandSHeadRun.RunEq R (PySem.W.view R.prog [46]) hk ob 8000 loose w) W2 aAr w
section
 open PySem PySem.W PySem.Calls PyProof.Rows
def early : { E : Prop // E → PySem.Challenge.rw_onemaster_k01_plans_made_and_refused.Holds } := ⟨_, fun hc => by
 w_on; o_law
 refine HandSHeadRun.head_any (r := OpenLaw.row PySem.Challenge.rw_onemaster_k01_plans_made_and_refused) (q := view (OpenLaw.row PySem.Challenge.rw_onemaster_k01_plans_made_and_refused).prog [46]) (H := hk) (ob := ob) (M := 8000) (loose := loose) (d := HandSHeadRun.topDef (OpenLaw.row PySem.Challenge.rw_onemaster_k01_plans_made_and_refused).prog 46) (kwd := []) aHH
  (by kernel_rfl) (fun s => by kernel_rfl) run (by kernel_rfl) (by kernel_rfl) (by kernel_rfl) (by rfl) (by first | assumption | decide +kernel) (by decide +kernel) ⟨rfl, rfl, rfl, rfl, rfl, by decide +kernel⟩ ?hw ?hc
 case hw => w_witness2
 case hc => exact hc⟩
end
end K01H
set_option maxHeartbeats 4000000
namespace Pc
open PySem PySem.Spec PyProof.Rows L2
def DW (w : W) (d c : Nat) : Prop := d ≠ c ∧ ∃ (cells : List Int) (sm n : Int), w[d]? = some (.lst [.ref c, .int sm, .int n]) ∧ w[c]? = some (.lst (cells.map .int)) ∧ cells.length ≤ 63
def Kept (w w' : W) (d c : Nat) : Prop := w'.length = w.length ∧ ∀ i, i ≠ d → i ≠ c → w'[i]? = w[i]?
theorem N9 : ∀ cells : List Int, PyData.canLayAll0 (cells.map PyData.int) = true
 | [] => rfl
 | x :: xs => by simp [PyData.canLayAll0, PyData.canLay0, N9 xs]
theorem QA : ∀ cells : List Int, PyData.depthAll (cells.map PyData.int) ≤ 1
 | [] => by simp [PyData.depthAll]
 | x :: xs => by
  have := QA xs
  simp only [cw, PyData.depthAll, PyData.depth]
  omega
theorem lay_ints (cells : List Int) : SeqAt.shaped (.list (cells.map PyData.int)) = true := by
 have h1 := N9 cells
 have h2 := QA cells
 unfold SeqAt.shaped
 simp [PyData.canLay0, PyData.depth, h1]
 omega
theorem QS (f : Nat → Option PyData) (cells : List Int) : D.pysR f (cells.map D.int) = some (cells.map PyData.int) := by
 induction cells with
 | nil => rfl
 | cons x xs ih => simp [D.pysR, D.fW, ih]
theorem aFY {w : W} {c : Nat} {cells : List Int} (h : w[c]? = some (.lst (cells.map D.int))) : D.py w (.ref c) = some (.list (cells.map PyData.int)) := by
 show TB 8 w c = _
 simp [TB, h, QS]
theorem ne_nil {w : W} {c : Nat} {cells : List Int} (h : w[c]? = some (.lst (cells.map D.int))) : sL (.ref c) (.lst []) w = .ok (.bl (!cells.isEmpty)) w := by
 unfold sL G3 yS
 rw [aFY h]
 have e : D.py w (.lst []) = some (.list []) := rfl
 rw [e]
 have l2 : SeqAt.shaped (.list []) = true := lay_ints []
 simp only [lay_ints, l2, and_self, ae]
 cases cells <;> simp [PyData.eqv, PyData.eqvAll]
@[irreducible] def T {α : Type} (r : Res α) (P : α → W → Prop) : Prop := match r with
 | .ok a w => P a w
 | _ => False
section
variable {α β : Type} {P Q : α → W → Prop} {r : Res α}
theorem T.ex (h : T r P) : ∃ a w, r = .ok a w ∧ P a w := by
 unfold T at h
 cases r with
 | ok a w => exact ⟨a, w, rfl, h⟩
 | vY x w => exact h.elim
 | bad => exact h.elim
theorem T.of {a : α} {w : W} (h : r = .ok a w) (p : P a w) : T r P := by unfold T; rw [h]; exact p
theorem T.mono (h : T r P) (k : ∀ a w, r = .ok a w → P a w → Q a w) : T r Q := by
 obtain ⟨a, w, e, p⟩ := h.ex
 exact T.of e (k a w e p)
theorem bV {a : α} {w : W} : T (.ok a w) P = P a w := by unfold T; rfl
theorem aDU : T .bad P = False := by unfold T; rfl
theorem bK {r : Res α} {f : α → W → Res β} {P : β → W → Prop} : T (r.bind f) P = T r fun a w => T (f a w) P := by cases r <;> (first | rfl | (unfold T; rfl) | (unfold Then; rfl))
theorem x4 : T r.M4 P = T r P := by cases r <;> (first | rfl | (unfold T; rfl) | (unfold Then; rfl))
theorem IK {c : Prop} [Decidable c] {a b : Res α} : T (if c then a else b) P = (if c then T a P else T b P) := by split <;> (first | rfl | (unfold T; rfl) | (unfold Then; rfl))
theorem dD {c : Prop} [Decidable c] {a : Res α} : T (if c then a else .bad) P = (c ∧ T a P) := by
 by_cases h : c
 ·rw [if_pos h]; exact propext ⟨fun z => ⟨h, z⟩, fun z => z.2⟩
 ·rw [if_neg h]; exact propext ⟨fun z => by unfold T at z; exact z.elim, fun z => absurd z.1 h⟩
end
section
variable {σ : Sg} {w : W} {P : D → W → Prop} {PA : List D → W → Prop} {PB : Bool → W → Prop} {PF : Fl → W → Prop} {a b c : ME} {ma mk : MA} {ta tb : MT} {sa sb : MS} {g : MG} {gs : XR} {f : D → D → W → Res D} {d x y : D}
theorem T_C : T (eC d σ w) P = P d w := by unfold T; rfl
theorem T_V {i : Nat} : T (aB i σ w) P = (match σ[i]? with
 | some (some d) => P d w
 | _ => False) := by
 unfold aB
 cases h : σ[i]? with
 | none => unfold T; rfl
 | some o => cases o <;> (first | rfl | (unfold T; rfl) | (unfold Then; rfl))
theorem Q3 : T (aD f a b σ w) P = T (a σ w) fun x w1 => T (b σ w1) fun y w2 => T (f x y w2) P := by unfold aD; simp only [bK]
theorem aAs {f : D → W → Res D} : T (yX f a σ w) P = T (a σ w) fun x w1 => T (f x w1) P := by unfold yX; simp only [bK]
theorem OP : T (jX a b σ w) P = T (a σ w) fun x w1 => T (gZ x w1) fun c _ => if c = true then T (b σ w1) P else P x w1 := by unfold jX; simp only [bK, IK, bV]
theorem aAW : T (eOr a b σ w) P = T (a σ w) fun x w1 => T (gZ x w1) fun c _ => if c = true then P x w1 else T (b σ w1) P := by unfold eOr; simp only [bK, IK, bV]
theorem aBA : T (eIf ta a b σ w) P = T (ta σ w) fun c w1 => if c = true then T (a σ w1) P else T (b σ w1) P := by unfold eIf; simp only [bK, IK]
theorem FV : T (aE σ w) PA = PA [] w := by unfold T; rfl
theorem zE : T (aA a ma σ w) PA = T (a σ w) fun x w1 => T (ma σ w1) fun xs w2 => PA (x :: xs) w2 := by unfold aA; simp only [bK, bV]
theorem QT : T (bQ ma σ w) P = T (ma σ w) fun xs w1 => xs.length ≤ sizeLine ∧ P (.tup xs) w1 := by unfold bQ; simp only [bK, dD, bV]
theorem OY : T (eI ma σ w) P = T (ma σ w) fun xs w1 => xs.length ≤ sizeLine ∧ P (.lst xs) w1 := by unfold eI; simp only [bK, dD, bV]
theorem QZ : T (eNew ma σ w) P = T (ma σ w) fun xs w1 => xs.length ≤ sizeLine ∧ P (.ref w1.length) (w1 ++ [.lst xs]) := by unfold eNew; simp only [bK, dD, bV]
theorem OI {m : MF} : T (aP m ma σ w) P = T (ma σ w) fun xs w1 => T (m xs w1) P := by unfold aP; simp only [bK]
theorem GJ {t : String} {m : MMt} : T (dO t m a ma σ w) P = T (a σ w) fun d w1 => tyD d w1 = some t ∧ T (ma σ w1) fun xs w2 => T (m d xs w2) P := by unfold dO; simp only [bK, dD]
theorem EY {m : MF} {n : Nat} {gd : List D → List D → List D} : T (aJ m n gd ma σ w) P = T (ma σ w) fun xs w1 => xs.length = n ∧ T (m (gd xs []) w1) P := by unfold aJ; simp only [bK, dD]
theorem yU {m : MF} {n j : Nat} {gd : List D → List D → List D} : T (KU m n j gd ma mk σ w) P = T (ma σ w) fun xs w1 => T (mk σ w1) fun zs w2 => (xs.length = n ∧ zs.length = j) ∧ T (m (gd xs zs) w2) P := by unfold KU; simp only [bK, dD]
theorem aBW {m : MF} {C : Addr} {h : List D → List D} : T (vM m C h w) P = T (m (h [.ref w.length]) (w ++ [.ins C []])) fun r w1 => r = .non ∧ P (.ref w.length) w1 := by
 unfold vM
 simp only [bK]
 congr 1
 funext r w1
 cases r <;> simp [T]
theorem BK {m : MF} {C : Addr} {n j : Nat} {gd : List D → List D → List D} : T (xD C m n j gd ma mk σ w) P = T (ma σ w) fun xs w1 => T (mk σ w1) fun zs w2 => (xs.length = n ∧ zs.length = j) ∧ T (vM m C (fun s => gd (s ++ xs) zs) w2) P := by unfold xD; simp only [bK, dD]
theorem O8 {C : Addr} {z : Str} : T (cP C z a σ w) P = T (a σ w) fun x w1 => T (rH C z x w1) P := by unfold cP yX; simp only [bK]
theorem aBm {g : D → D → W → Res D} : T (UI f g a b c σ w) P = T (a σ w) fun x w1 => T (b σ w1) fun y w2 => T (f x y w2) fun r w3 => match r with
 | .bl k => if k = true then T (c σ w3) fun z w4 => T (g y z w4) P else P (.bl false) w3
 | _ => False := by
 unfold UI
 simp only [bK]
 congr 1; funext x w1; congr 1; funext y w2; congr 1; funext r w3
 cases r <;> first | (unfold T; rfl) | skip
 rename_i k
 cases k
 ·unfold T; rfl
 ·exact bK
theorem OD : T (bH a σ w) PB = T (a σ w) fun x w1 => match x with
 | .bl k => PB k w1
 | _ => False := by
 unfold bH
 simp only [bK]
 congr 1; funext x w1
 cases x <;> (first | rfl | (unfold T; rfl) | (unfold Then; rfl))
theorem N8 : T (cW a σ w) PB = T (a σ w) fun x w1 => T (gZ x w1) PB := by unfold cW; simp only [bK]
theorem nR : T (bU ta σ w) PB = T (ta σ w) fun k w1 => PB (!k) w1 := by unfold bU; simp only [bK, bV]
theorem FW : T (iD ta tb σ w) PB = T (ta σ w) fun k w1 => if k = true then T (tb σ w1) PB else PB false w1 := by unfold iD; simp only [bK, IK, bV]
theorem QY : T (eV ta tb σ w) PB = T (ta σ w) fun k w1 => if k = true then PB true w1 else T (tb σ w1) PB := by unfold eV; simp only [bK, IK, bV]
theorem rN : T (cD σ w) PB = PB true w := by unfold T; rfl
def Then (b : MS) (PF : Fl → W → Prop) : Fl → W → Prop := fun f w => match f with
 | .nx σ => T (b σ w) PF
 | f => PF f w
theorem bJ : T (aI sa sb σ w) PF = T (sa σ w) (Then sb PF) := by
 unfold aI
 simp only [bK]
 congr 1; funext f w1
 cases f <;> (first | rfl | (unfold T; rfl) | (unfold Then; rfl))
theorem fU {σ : Sg} : Then sb PF (.nx σ) w = T (sb σ w) PF := by first | rfl | (unfold Then; rfl)
theorem y6 {d : D} : Then sb PF (.rt d) w = PF (.rt d) w := by first | rfl | (unfold Then; rfl)
theorem NK : T (bE a σ w) PF = T (a σ w) fun d w1 => PF (.rt d) w1 := by unfold bE; simp only [bK, bV]
theorem E3 : T (cY a σ w) PF = T (a σ w) fun _ w1 => PF (.nx σ) w1 := by unfold cY; simp only [bK, bV]
theorem yH : T (dN ta sa sb σ w) PF = T (ta σ w) fun k w1 => if k = true then T (sa σ w1) PF else T (sb σ w1) PF := by unfold dN; simp only [bK, IK]
theorem FF : T (bC σ w) PF = PF (.nx σ) w := by unfold T; rfl
theorem IX : T (aT a g σ w) PF = T (a σ w) fun d w1 => T (g d σ w1) fun s w2 => PF (.nx s) w2 := by unfold aT; simp only [bK, bV]
theorem MC {i : Nat} {PS : Sg → W → Prop} : T (a7 i d σ w) PS = PS (σ.set i (some d)) w := by unfold T; rfl
theorem EM {PS : Sg → W → Prop} : T (dR a b d σ w) PS = T (a σ w) fun o w1 => T (b σ w1) fun i w2 => T (setM o i d w2) fun _ w3 => PS σ w3 := by unfold dR; simp only [bK, bV]
theorem z9 {C : Addr} {z : Str} : T (c9 C z a b σ w) PF = T (b σ w) fun x w1 => T (a σ w1) fun d w2 => T (oP C z d x w2) fun _ w3 => PF (.nx σ) w3 := by unfold c9; simp only [bK, bV]
theorem EC {n : Nat} {xs : List D} {PS : Sg → W → Prop} : T (bY n gs (.tup xs) σ w) PS = (xs.length = n ∧ T (gs xs σ w) PS) := by simp only [bY, dD]
theorem zR {n : Nat} {xs : List D} {PS : Sg → W → Prop} : T (bY n gs (.lY xs) σ w) PS = (xs.length = n ∧ T (gs xs σ w) PS) := by simp only [bY, dD]
theorem ES {PS : Sg → W → Prop} : T (bW [] σ w) PS = PS σ w := by unfold T; rfl
theorem y7 {xs : List D} {PS : Sg → W → Prop} : T (aK g gs (d :: xs) σ w) PS = T (g d σ w) fun s w1 => T (gs xs s w1) PS := by simp only [aK, bK]
theorem eT {mb : MS} {N : List Str} {ds : List D} : T (bP mb N ds w) P = T (mb (begin N ds) w) fun f w1 => match f with
 | .nx _ => P .non w1
 | .rt d => P d w1
 | _ => False := by
 unfold bP
 simp only [bK]
 congr 1; funext f w1
 cases f <;> (first | rfl | (unfold T; rfl) | (unfold Then; rfl))
end
section
variable {w : W} {P : D → W → Prop} {a b : Int} {x y d : D}
theorem l5 : T (bS (.int a) (.int b) w) P = P (.int (a + b)) w := by unfold T; rfl
theorem CS : T (kH (.int a) (.int b) w) P = P (.int (a - b)) w := by unfold T; rfl
theorem zA : T (mulM (.int a) (.int b) w) P = (D3 a b = true ∧ P (.int (a * b)) w) := by unfold mulM; simp only [dD, bV]
theorem vS : T (kN (.int a) (.int b) w) P = (0 < b ∧ P (.int (a % b)) w) := by unfold kN; simp only [dD, bV]
theorem rZ : T (wB (.int a) (.int b) w) P = ((0 < b ∧ b < 1073741824) ∧ P (.int (a / b)) w) := by unfold wB; simp only [dD, bV]
theorem IV : T (vK (.int a) w) P = P (.int (-a)) w := by unfold T; rfl
theorem aBr : T (RN (.int a) (.int b) w) P = P (.bl (decide (a < b))) w := by unfold T; rfl
theorem Y6 : T (DX (.int a) (.int b) w) P = P (.bl (decide (a ≤ b))) w := by unfold T; rfl
theorem ZX : T (MZ (.int a) (.int b) w) P = P (.bl (decide (b < a))) w := by unfold T; rfl
theorem XI : T (geM (.int a) (.int b) w) P = P (.bl (decide (b ≤ a))) w := by unfold T; rfl
theorem EW {xs ys : List D} : T (bS (.tup xs) (.tup ys) w) P = (xs.length + ys.length ≤ sizeLine ∧ P (.tup (xs ++ ys)) w) := by unfold bS; simp only [dD, bV]
theorem BC {xs ys : List D} : T (bS (.lst xs) (.lst ys) w) P = (xs.length + ys.length ≤ sizeLine ∧ P (.lst (xs ++ ys)) w) := by unfold bS; simp only [dD, bV]
theorem FX : T (isM x .non w) P = P (.bl x.isNon) w := by cases x <;> (first | rfl | (unfold T; rfl))
theorem NB {p q : Bool} : T (isM (.bl p) (.bl q) w) P = P (.bl (decide (p = q))) w := by unfold T; rfl
theorem kJ : T (rS x .non w) P = P (.bl (!x.isNon)) w := by cases x <;> (first | rfl | (unfold T; rfl))
theorem tN {p q : Bool} : T (rS (.bl p) (.bl q) w) P = P (.bl (!decide (p = q))) w := by unfold T; rfl
theorem Q4 : T (notM x w) P = T (gZ x w) fun c _ => P (.bl (!c)) w := by unfold notM; simp only [bK, bV]
theorem EN {p : Bool} {PB : Bool → W → Prop} : T (gZ (.bl p) w) PB = PB p w := by unfold T; rfl
theorem E8 {PB : Bool → W → Prop} : T (gZ (.int a) w) PB = PB (a != 0) w := by unfold T; rfl
theorem FL {PB : Bool → W → Prop} : T (gZ .non w) PB = PB false w := by unfold T; rfl
theorem tH {xs : List D} : T (U1 xs (.int a) w) P = ∃ d, atI xs a = some d ∧ P d w := by
 show T (match atI xs a with
  | some d => Res.ok d w
  | none => .bad) P = _
 cases atI xs a with
 | none => simp [T]
 | some d => simp [T]
theorem IT {xs : List D} : T (a9 (.tup xs) y w) P = T (U1 xs y w) P := by unfold T; rfl
theorem QH {xs : List D} : T (a9 (.lY xs) y w) P = T (U1 xs y w) P := by unfold T; rfl
theorem v9 {xs : List D} : T (a9 (.lst xs) y w) P = T (U1 xs y w) P := by unfold T; rfl
theorem aG0 {i : Nat} {xs : List D} (h : w[i]? = some (.lst xs)) : T (a9 (.ref i) y w) P = T (U1 xs y w) P := by simp only [a9, h]
theorem V6 {i : Nat} {kvs : List (Key × D)} {z : Str} (h : w[i]? = some (.dK kvs)) : T (a9 (.ref i) (.str z) w) P = ∃ d, kB kvs (.inr z) = some d ∧ P d w := by
 simp only [a9, h, pZ, keyD, Option.map_some]
 cases kB kvs (Sum.inr z) with
 | none => simp [T]
 | some d => simp [T]
theorem wY : T (gA x y w) P = ∃ r, G3 x y w = some r ∧ P (.bl r) w := by
 unfold gA
 cases G3 x y w with
 | none => simp [T]
 | some r => simp [T]
theorem aC3 : T (sL x y w) P = ∃ r, G3 x y w = some r ∧ P (.bl (!r)) w := by
 unfold sL
 cases G3 x y w with
 | none => simp [T]
 | some r => simp [T]
theorem m3 : G3 (.int a) (.int b) w = some (a == b) := by simp [G3, yS, D.py, D.fW, SeqAt.shaped, PyData.canLay0, PyData.depth, PyData.eqv]
theorem aIf : T (YG x y w) P = ∃ r, inD x y w = some r ∧ P (.bl r) w := by
 unfold YG
 cases inD x y w with
 | none => simp [T]
 | some r => simp [T]
theorem Y4 : T (c5 [d] w) P = ∃ n, LN d w = some n ∧ P (.int n) w := by
 show T (match LN d w with
  | some n => Res.ok (D.int n) w
  | none => .bad) P = _
 cases LN d w with
 | none => simp [T]
 | some n => simp [T]
theorem aAK {C : Addr} {z : Str} {i : Nat} {fs : List (Str × D)} (h : w[i]? = some (.ins C fs)) : T (rH C z (.ref i) w) P = ∃ d, fs.lookup z = some d ∧ P d w := by
 simp only [rH, h, ae]
 cases fs.lookup z with
 | none => simp [T]
 | some d => simp [T]
theorem Q8 {i : Nat} {xs : List D} (h : w[i]? = some (.lst xs)) : T (dA (.ref i) [d] w) P = (xs.length < sizeLine ∧ P .non (w.set i (.lst (xs ++ [d])))) := by
 simp only [dA, h, dD, bV]
theorem aFO {i : Nat} {kvs : List (Key × D)} {z : Str} {PU : Unit → W → Prop} (h : w[i]? = some (.dK kvs)) : T (setM (.ref i) (.str z) d w) PU = (kvs.length < sizeLine ∧ PU () (w.set i (.dK (putD kvs (.inr z) d)))) := by
 simp only [setM, h, keyD, dD, bV]
theorem ZP {C : Addr} {z : Str} {i : Nat} {fs : List (Str × D)} {PU : Unit → W → Prop} (h : w[i]? = some (.ins C fs)) : T (oP C z (.ref i) d w) PU = (fs.length < 1000 ∧ PU () (w.set i (.ins C (tP z d fs)))) := by
 simp only [oP, h, true_and, dD, bV]
end
theorem aE4 {it : l9} {g : MG} {body : MS} {P : Fl → W → Prop} (Inv : Nat → Sg → W → Prop) (ok : ∀ i σ w, Inv i σ w → it.ok w)
  (step : ∀ i x σ w, it.xs[i]? = some x → Inv i σ w → T (g x σ w) fun σ1 w1 => T (body σ1 w1) fun f w2 => match f with
   | .nx s => Inv (i + 1) s w2
   | .ct s => Inv (i + 1) s w2
   | .bk s => P (.nx s) w2
   | .rt d => P (.rt d) w2) (fin : ∀ σ w, Inv it.xs.length σ w → P (.nx σ) w) : ∀ {i : Nat} {σ : Sg} {w : W}, i ≤ it.xs.length → Inv i σ w → T (forL it g body (it.xs.drop i) σ w) P := by
 intro i
 generalize hn : it.xs.length - i = n
 induction n generalizing i with
 | zero =>
  intro σ w hi h
  have e : i = it.xs.length := by omega
  subst e
  rw [List.drop_length]
  unfold forL
  rw [if_pos (ok _ _ _ h)]
  rw [bV]; exact fin σ w h
 | succ n ih =>
  intro σ w hi h
  have hlt : i < it.xs.length := by omega
  rw [List.drop_eq_getElem_cons hlt]
  unfold forL
  rw [if_pos (ok _ _ _ h), bK]
  refine (step i _ σ w (bj hlt) h).mono fun s1 w1 _ q => ?_
  rw [bK]
  refine T.mono q fun f w2 _ q2 => ?_
  cases f with
  | nx s => exact ih (by omega) (by omega) q2
  | ct s => exact ih (by omega) (by omega) q2
  | bk s => rw [bV]; exact q2
  | rt d => rw [bV]; exact q2
theorem vL {m : MI} {g : MG} {body : MS} {σ : Sg} {w : W} {P : Fl → W → Prop} : T (fX m g body σ w) P = T (m σ w) fun it w1 => T (forL it g body it.xs σ w1) P := by unfold fX; simp only [bK]
theorem LH {it : l9} {vs : List Nat} {g : MG} {t : MT} {e : ME} {σ : Sg} {P : List D → W → Prop} (Inv : Nat → List D → W → Prop) (ok : ∀ i acc w, Inv i acc w → it.ok w)
  (step : ∀ i x acc w, it.xs[i]? = some x → Inv i acc w → T (g x (eO σ vs) w) fun σ1 w1 => T (t σ1 w1) fun b w2 => if b = true then T (e σ1 w2) fun y w3 => Inv (i + 1) (acc ++ [y]) w3 else Inv (i + 1) acc w2)
  (fin : ∀ acc w, Inv it.xs.length acc w → P acc w) : ∀ {i : Nat} {acc : List D} {w : W}, i ≤ it.xs.length → Inv i acc w → T (mV it vs g t e (it.xs.drop i) σ w) fun ys w1 => P (acc ++ ys) w1 := by
 intro i
 generalize hn : it.xs.length - i = n
 induction n generalizing i with
 | zero =>
  intro acc w hi h
  have e : i = it.xs.length := by omega
  subst e
  rw [List.drop_length]
  unfold mV
  rw [if_pos (ok _ _ _ h)]
  rw [bV, List.append_nil]
  exact fin acc w h
 | succ n ih =>
  intro acc w hi h
  have hlt : i < it.xs.length := by omega
  rw [List.drop_eq_getElem_cons hlt]
  unfold mV
  rw [if_pos (ok _ _ _ h), bK, x4]
  refine (step i _ acc w (bj hlt) h).mono fun s1 w1 _ q => ?_
  rw [bK, x4]
  refine T.mono q fun b w2 _ q2 => ?_
  cases b with
  | true =>
   simp only [ae] at q2 ⊢
   rw [bK, x4]
   refine T.mono q2 fun y w3 _ q3 => ?_
   rw [bK]
   refine (ih (by omega) (by omega) q3).mono fun ys w4 _ q4 => ?_
   rw [bV]
   simpa using q4
  | false =>
   simp only [bg, aa] at q2 ⊢
   exact ih (by omega) (by omega) q2
theorem DU {m : MI} {vs : List Nat} {g : MG} {t : MT} {e : ME} {σ : Sg} {w : W} {P : D → W → Prop} : T (b6 m vs g t e σ w) P = T (m σ w) fun it w1 => it.xs.length ≤ sizeLine ∧ T (mV it vs g t e it.xs σ w1) fun ys w2 => P (.lst ys) w2 := by
 unfold b6 U9
 simp only [bK, dD, bV]
structure pY (w w' : W) (d c : Nat) : Prop where
 le : w.length ≤ w'.length
 at_ : ∀ i, i < w.length → i ≠ d → i ≠ c → w'[i]? = w[i]?
section
variable {w w1 w2 : W} {d c i : Nat} {o : MO}
theorem pY.refl : pY w w d c := ⟨bx _, fun _ _ _ _ => rfl⟩
theorem pY.trans (a : pY w w1 d c) (b : pY w1 w2 d c) : pY w w2 d c := ⟨de a.le b.le, fun i h1 h2 h3 => (b.at_ i (Nat.lt_of_lt_of_le h1 a.le) h2 h3).trans (a.at_ i h1 h2 h3)⟩
theorem Kept.refl : Kept w w d c := ⟨rfl, fun _ _ _ => rfl⟩
theorem Kept.trans (a : Kept w w1 d c) (b : Kept w1 w2 d c) : Kept w w2 d c := ⟨b.1.trans a.1, fun i h1 h2 => (b.2 i h1 h2).trans (a.2 i h1 h2)⟩
theorem Kept.obj (a : Kept w w1 d c) (h : w[i]? = some o) (h1 : i ≠ d) (h2 : i ≠ c) : w1[i]? = some o := by rw [a.2 i h1 h2]; exact h
theorem Kept.grow (k : Kept w w1 d c) : pY w w1 d c := ⟨Nat.le_of_eq k.1.symm, fun i _ h2 h3 => k.2 i h2 h3⟩
theorem pY.app {g : W} : pY w (w ++ g) d c := ⟨by simp, fun i h _ _ => by rw [av h]⟩
theorem pY.obj (a : pY w w1 d c) (h : w[i]? = some o) (h1 : i ≠ d) (h2 : i ≠ c) : w1[i]? = some o := by rw [a.at_ i (ai.mp h).1 h1 h2]; exact h
theorem DW.lt (h : DW w d c) : d < w.length ∧ c < w.length := by
 obtain ⟨_, cells, sm, n, h1, h2, _⟩ := h
 exact ⟨(ai.mp h1).1, (ai.mp h2).1⟩
theorem DW.app {g : W} (h : DW w d c) : DW (w ++ g) d c := by
 obtain ⟨l1, l2⟩ := h.lt
 obtain ⟨hne, cells, sm, n, h1, h2, h3⟩ := h
 exact ⟨hne, cells, sm, n, by rw [av l1]; exact h1, by rw [av l2]; exact h2, h3⟩
theorem DW.set (h : DW w d c) (h1 : i ≠ d) (h2 : i ≠ c) : DW (w.set i o) d c := by
 obtain ⟨hne, cells, sm, n, g1, g2, g3⟩ := h
 exact ⟨hne, cells, sm, n, by rw [az h1]; exact g1, by rw [az h2]; exact g2, g3⟩
end
theorem atI_nat {xs : List D} {r : Int} (h0 : 0 ≤ r) (h1 : r < xs.length) : ∃ (i : Nat) (x : D), xs[i]? = some x ∧ atI xs r = some x ∧ (i : Int) = r := by
 have l : r.toNat < xs.length := by omega
 refine ⟨r.toNat, xs[r.toNat], bj l, ?_, by omega⟩
 unfold atI ixN
 rw [if_pos h0, if_pos h1]
 show xs[r.toNat]? = _
 exact bj l
section
variable {σ : Sg} {w : W} {PI : l9 → W → Prop} {P : D → W → Prop}
theorem GO {m : ME} : T (dY m σ w) PI = T (m σ w) fun d w1 => T (iterM d w1) PI := by unfold dY; simp only [bK]
theorem E9 {f : List D → W → Res l9} {ma : MA} : T (eZ f ma σ w) PI = T (ma σ w) fun xs w1 => T (f xs w1) PI := by unfold eZ; simp only [bK]
theorem OQ {xs : List D} : T (iterM (.tup xs) w) PI = PI ⟨xs, always⟩ w := by unfold T; rfl
theorem QB {xs : List D} : T (iterM (.lst xs) w) PI = PI ⟨xs, always⟩ w := by unfold T; rfl
theorem AI {n : Int} (h : 0 ≤ n) (h2 : n < 1073741824) : T (kO [.int n] w) PI = PI (jK 0 n.toNat) w := by
 simp only [kO]
 rw [if_pos (by constructor <;> omega)]
 unfold T; rfl
theorem zN {PO : Option Int → W → Prop} : T (cV σ w) PO = PO none w := by unfold T; rfl
theorem xX {m : ME} {PO : Option Int → W → Prop} : T (cK m σ w) PO = T (m σ w) fun d w1 => match d with
 | .int i => PO (some i) w1
 | _ => False := by
 unfold cK
 simp only [bK]
 congr 1; funext d w1
 cases d <;> (unfold T; rfl)
theorem YY {f : D → Option Int → Option Int → W → Res D} {a : ME} {lo hi : MO'} : T (m9 f a lo hi σ w) P = T (a σ w) fun x w1 => T (lo σ w1) fun l w2 => T (hi σ w2) fun u w3 => T (f x l u w3) P := by unfold m9; simp only [bK]
theorem vE : ∀ ns : List Int, nU (ns.map D.int) = some ns
 | [] => rfl
 | n :: ns => by simp [nU, vE ns]
theorem aCb {ns : List Int} {lo hi : Option Int} : ∃ ms : List Int, cutD (ns.map D.int) lo hi = ms.map D.int ∧ ms.length ≤ ns.length := by
 unfold cutD
 rw [← List.map_drop, ← List.map_take]
 exact ⟨_, rfl, by simp; omega⟩
end
def C5 (r : List Int) : D := .tup (r.map .int)
def fN (t : Int × Int × Int) : D := .tup [.int t.1, .int t.2.1, .int t.2.2]
structure Mo where
 c8 : List (List Int)
 sA : Int
 FA : Int
 C6 : Int
 bears : D
 gap : Int
 hold : Int
 takes : Bool
 xH : List (Int × Int × Int)
 mX : Int
def Mo.kvs (m : Mo) : List (Key × D) := [(.inr "ranks", .tup (m.c8.map C5)), (.inr "every", .int m.sA), (.inr "lost", .int m.FA), (.inr "slow", .int m.C6), (.inr "bears", m.bears), (.inr "gap", .int m.gap), (.inr "hold", .int m.hold),
 (.inr "takes", .bl m.takes), (.inr "ties", .tup (m.xH.map fN)), (.inr "hosts", .int m.mX)]
structure aDH (rs : List (List Int)) (h : Nat) : Prop where
 h1 : 1 ≤ h
 h6 : h ≤ 6
 row : ∀ r ∈ rs, r.length = h ∧ ∀ x ∈ r, 1 ≤ x ∧ x ≤ 12
structure aFx (ts : List (Int × Int × Int)) (h : Nat) : Prop where
 few : ts.length ≤ 6
 each : ∀ t ∈ ts, (0 ≤ t.1 ∧ t.1 < h) ∧ (0 ≤ t.2.1 ∧ t.2.1 ≤ 9) ∧ (1 ≤ t.2.2 ∧ t.2.2 ≤ 11)
 up : ts.Pairwise fun a b => a.1 < b.1 ∨ (a.1 = b.1 ∧ a.2.1 < b.2.1)
theorem D1 {n : Nat} {i : Nat} {x : D} {lo : Int} (h : (jK lo n).xs[i]? = some x) : i < n ∧ x = .int (lo + i) := by
 have h' : ((List.range n).map fun k : Nat => D.int (lo + (k : Int)))[i]? = some x := h
 rw [cu] at h'
 by_cases hi : i < n
 ·rw [List.getElem?_range hi] at h'
  cases h'
  exact ⟨hi, rfl⟩
 ·rw [List.getElem?_eq_none (by simpa using hi)] at h'
  cases h'
theorem u9 {n : Nat} {lo : Int} : (jK lo n).xs.length = n := by simp [jK]
open PySem.W (dataLe)
def l3 (t : Int × Int × Int) : List Int := [t.1, t.2.1, t.2.2]
def FO (t u : Int × Int × Int) : Bool := decide (l3 t ≤ l3 u)
theorem WZ {w : W} {ts : List (Int × Int × Int)} : (ts.map fN).mergeSort (dataLe false (J7 w)) = (ts.mergeSort FO).map fN := by
 refine (List.map_mergeSort fun a _ b _ => ?_).symm
 have e : dataLe false (J7 w) (fN a) (fN b) = dataLe false (fun t : Int × Int × Int => .list ((l3 t).map .int)) a b := rfl
 rw [e, PySem.W.dataLe_rows]
 rfl
theorem N3 {ts : List (Int × Int × Int)} : (ts.mergeSort FO).Pairwise fun a b => l3 a ≤ l3 b := by
 have h := List.pairwise_mergeSort (le := FO) (fun a b c h1 h2 => by
  simp only [FO, ak] at *
  exact List.le_trans h1 h2) (fun a b => by
  simp only [FO, Bool.or_eq_true, ak]
  exact List.le_total _ _) ts
 exact h.imp fun h => by simpa [FO] using h
def pairD (p : Int × Int) : D := .tup [.int p.1, .int p.2]
theorem aE7 {t : Int × Int × Int} {w : W} : iZ (fN t) none (some 2) w = .ok (pairD (t.1, t.2.1)) w := rfl
section
variable {σ : Sg} {w : W} {P : D → W → Prop} {PP : List (D × D) → W → Prop}
theorem SG : T (C2 σ w) PP = PP [] w := by unfold T; rfl
theorem KQ {a b : ME} {r : MP} : T (dJ a b r σ w) PP = T (a σ w) fun k w1 => T (b σ w1) fun v w2 => T (r σ w2) fun ps w3 => PP ((k, v) :: ps) w3 := by unfold dJ; simp only [bK, bV]
theorem ZU {m : MP} : T (GG m σ w) P = T (m σ w) fun ps w1 => ∃ kvs, keyed ps = some kvs ∧ kvs.length ≤ 15 ∧ P (.ref w1.length) (w1 ++ [.dK (mH [] kvs)]) := by
 unfold GG
 simp only [bK]
 congr 1; funext ps w1
 cases keyed ps with
 | none => simp [T]
 | some kvs => simp [dD, bV]
end
section
variable {α β : Type} {it : l9} {vs : List Nat} {g : MG} {t : MT} {e : ME} {σ : Sg} {w : W} {P : List D → W → Prop}
theorem u6 (ys : List α) (enc : α → D) (f : α → D) (hx : it.xs = ys.map enc) (hok : it.ok w)
  (h : ∀ y ∈ ys, T (g (enc y) (eO σ vs) w) fun σ1 w1 => T (t σ1 w1) fun b w2 => b = true ∧ T (e σ1 w2) fun z w3 => z = f y ∧ w3 = w) (k : P (ys.map f) w) :
  T (mV it vs g t e it.xs σ w) P := by
 have cl := LH (it := it) (vs := vs) (g := g) (t := t) (e := e) (σ := σ) (P := P) (fun i acc w1 => w1 = w ∧ acc = (ys.take i).map f) (fun _ _ _ q => by rw [q.1]; exact hok)
  (fun i x acc w1 hi q => by
   obtain ⟨rfl, rfl⟩ := q
   rw [hx, cu] at hi
   cases hy : ys[i]? with
   | none => rw [hy] at hi; cases hi
   | some y =>
    rw [hy] at hi
    cases hi
    refine (h y (cb hy)).mono fun σ1 w2 _ q => q.mono fun b w3 _ q => ?_
    obtain ⟨rfl, q⟩ := q
    rw [if_pos rfl]
    refine q.mono fun z w4 _ q => ⟨q.2, ?_⟩
    rw [List.take_add_one, hy, q.1]
    simp)
  (fun acc w1 q => by
   obtain ⟨rfl, rfl⟩ := q
   rw [hx, cg, List.take_length]
   exact k) (i := 0) (acc := []) (w := w) (Nat.zero_le _) ⟨rfl, rfl⟩
 rw [List.drop_zero] at cl
 exact cl.mono fun _ _ _ q => by simpa using q
theorem L8 (ys : List α) (enc : α → D) (f : α → D) (p : α → Bool) (hx : it.xs = ys.map enc) (hok : it.ok w)
  (h : ∀ y ∈ ys, T (g (enc y) (eO σ vs) w) fun σ1 w1 => T (t σ1 w1) fun b w2 => (w2 = w ∧ b = p y) ∧ (p y = true → T (e σ1 w2) fun z w3 => z = f y ∧ w3 = w)) (k : P ((ys.filter p).map f) w) :
  T (mV it vs g t e it.xs σ w) P := by
 have cl := LH (it := it) (vs := vs) (g := g) (t := t) (e := e) (σ := σ) (P := P) (fun i acc w1 => w1 = w ∧ acc = ((ys.take i).filter p).map f) (fun _ _ _ q => by rw [q.1]; exact hok)
  (fun i x acc w1 hi q => by
   obtain ⟨rfl, rfl⟩ := q
   rw [hx, cu] at hi
   cases hy : ys[i]? with
   | none => rw [hy] at hi; cases hi
   | some y =>
    rw [hy] at hi
    cases hi
    refine (h y (cb hy)).mono fun σ1 w2 _ q => q.mono fun b w3 _ q => ?_
    obtain ⟨⟨rfl, rfl⟩, q⟩ := q
    rw [List.take_add_one, hy]
    by_cases hp : p y = true
    ·rw [if_pos hp]
     refine (q hp).mono fun z w4 _ q => ⟨q.2, ?_⟩
     rw [q.1]
     simp [List.filter_append, hp]
    ·rw [if_neg hp]
     refine ⟨rfl, ?_⟩
     simp [List.filter_append, hp])
  (fun acc w1 q => by
   obtain ⟨rfl, rfl⟩ := q
   rw [hx, cg, List.take_length]
   exact k) (i := 0) (acc := []) (w := w) (Nat.zero_le _) ⟨rfl, rfl⟩
 rw [List.drop_zero] at cl
 exact cl.mono fun _ _ _ q => by simpa using q
theorem TH (ys : List α) (f : α → Bool) : uB (ys.map fun y => D.bl (f y)) = some (ys.map f) := by
 induction ys with
 | nil => rfl
 | cons y ys ih => simp [uB, ih]
theorem FC {P : D → W → Prop} (ys : List α) (f : α → Bool) : T (allM [.lst (ys.map fun y => .bl (f y))] w) P = P (.bl (ys.all f)) w := by
 have e : allM [.lst (ys.map fun y => .bl (f y))] w = .ok (.bl (ys.all f)) w := by
  simp only [allM, wG, Option.bind_some, TH]
  congr 2
  rw [List.all_map]
  rfl
 rw [e, bV]
theorem aDX (enc f : β → D) : ∀ (zs : List β) (acc : List D) {P : List D → W → Prop} (hok : it.ok w) (hl : acc.length + zs.length ≤ sizeLine)
  (h : ∀ z ∈ zs, T (g (enc z) (eO σ vs) w) fun σ1 w1 => T (t σ1 w1) fun b w2 => b = true ∧ T (e σ1 w2) fun y w3 => y = f z ∧ w3 = w) (k : P (acc ++ zs.map f) w), T (inL it vs g t e acc (zs.map enc) σ w) P
 | [], acc, P, hok, hl, h, k => by
  rw [List.map_nil]
  unfold inL
  rw [if_pos hok, bV]
  simpa using k
 | z :: zs, acc, P, hok, hl, h, k => by
  simp only [cf] at hl
  rw [cw]
  unfold inL
  rw [if_pos hok, bK, x4]
  refine (h z (bc ..)).mono fun σ1 w1 _ q => ?_
  rw [bK, x4]
  refine q.mono fun b w2 _ q => ?_
  obtain ⟨rfl, q⟩ := q
  rw [if_pos rfl, bK, x4]
  refine q.mono fun y w3 _ q => ?_
  rw [if_pos (by omega), q.1, q.2]
  exact aDX enc f zs (acc ++ [f z]) hok (by simp; omega) (fun z hz => h z (br _ hz)) (by simpa using k)
theorem Z7 (enc : α → D) (inner : α → List β) (enc1 : β → D) (f : α → β → D) {mi1 : MI} {vs1 : List Nat} {g1 : MG} {t1 : MT} : ∀ (ys : List α) (acc : List D) {P : List D → W → Prop} (hok : it.ok w) (hl : acc.length + (ys.map fun y => (inner y).length).sum ≤ sizeLine)
  (h : ∀ y ∈ ys, T (g (enc y) (eO σ vs) w) fun σ1 w1 => T (t σ1 w1) fun b w2 => b = true ∧ T (mi1 σ1 w2) fun it1 w3 => (w3 = w ∧ it1.ok w ∧ it1.xs = (inner y).map enc1) ∧
   ∀ z ∈ inner y, T (g1 (enc1 z) (eO σ1 vs1) w) fun σ2 w4 => T (t1 σ2 w4) fun b w5 => b = true ∧ T (e σ2 w5) fun v w6 => v = f y z ∧ w6 = w)
  (k : P (acc ++ ys.flatMap fun y => (inner y).map (f y)) w), T (yE it vs g t mi1 vs1 g1 t1 e acc (ys.map enc) σ w) P
 | [], acc, P, hok, hl, h, k => by
  rw [List.map_nil]
  unfold yE
  rw [if_pos hok, bV]
  simpa using k
 | y :: ys, acc, P, hok, hl, h, k => by
  simp only [cw, List.sum_cons] at hl
  rw [cw]
  unfold yE
  rw [if_pos hok, bK, x4]
  refine (h y (bc ..)).mono fun σ1 w1 _ q => ?_
  rw [bK, x4]
  refine q.mono fun b w2 _ q => ?_
  obtain ⟨rfl, q⟩ := q
  rw [if_pos rfl, bK, x4]
  refine q.mono fun it1 w3 _ q => ?_
  obtain ⟨⟨ew, i1, i2⟩, q⟩ := q
  rw [bK, i2, ew]
  refine aDX enc1 (f y) (inner y) acc i1 (by omega) q ?_
  exact Z7 enc inner enc1 f ys _ hok (by simp; omega) (fun z hz => h z (br _ hz)) (by simpa using k)
theorem aB9 {m mi1 : MI} {vs1 : List Nat} {g1 : MG} {t1 : MT} {P : D → W → Prop} : T (FH m vs g t mi1 vs1 g1 t1 e σ w) P = T (m σ w) fun it w1 => T (yE it vs g t mi1 vs1 g1 t1 e [] it.xs σ w1) fun ys w2 => P (.lst ys) w2 := by
 unfold FH Z1
 simp only [bK, bV]
end
end Pc
namespace Lb
open PySem PySem.Spec PyProof.Rows L2 Pc
structure bN where
 aO : Addr
 eE : Addr
def dX : List (Str × Option D) := [(("every" : Str), some (.lY [(.int 1), (.int 5)])), (("lost" : Str), some (.lY [(.int 0), (.int 3)])), (("slow" : Str), some (.lY [(.int 1), (.int 4)])), (("bears" : Str), some (.lY [(.int 0), (.int 3)])), (("gap" : Str), some (.lY [(.int 0), (.int 3)])), (("hold" : Str), some (.lY [(.int 0), (.int 20)])), (("hosts" : Str), some (.lY [(.int 0), (.int 4)])), (("takes" : Str), none), (("ties" : Str), none)]
def gE : List Str := [("thing" : Str)]
def jM (k : bN) : MS :=
 (bE (jX (aP (gF gL) (aA (aB 0) (aA (eC (.ty "int")) aE))) (yX notM (aP (gF gL) (aA (aB 0) (aA (eC (.ty "bool")) aE))))))
def gH (k : bN) : MF := bP (jM k) gE
theorem CY (x0 : D) : begin gE [x0] = [some x0] := rfl
def fH : List Str := [("thing" : Str), ("least" : Str), ("most" : Str)]
def iB (k : bN) : MS :=
 (bE (jX (aJ (gH k) 1 aN (aA (aB 0) aE)) (UI DX DX (aB 1) (aB 0) (aB 2))))
def bM (k : bN) : MF := bP (iB k) fH
theorem yZ (x0 x1 x2 : D) : begin fH [x0, x1, x2] = [some x0, some x1, some x2] := rfl
def jS : List Str := [("thing" : Str), ("row" : Str), ("rank" : Str)]
def lX (k : bN) : MS :=
 (aI (dN (eV (bU (cW (aP (gF gL) (aA (aB 0) (aA (eC (.ty "tuple")) aE))))) (bU (bH (UI DX DX (eC (.int 1)) (aP c5 (aA (aB 0) aE)) (eC (.int 4)))))) (bE (eC (.bl false))) bC)
 (aI (dN (bU (cW (aP allM (aA (b6 (dY (aB 0)) [1] (a7 1) cD (jX (aP (gF gL) (aA (aB 1) (aA (eC (.ty "tuple")) aE))) (aD DX (aP c5 (aA (aB 1) aE)) (eC (.int 6))))) aE)))) (bE (eC (.bl false))) bC)
 (aI (dN (eV (bH (aD gA (aD a9 (aB 0) (eC (.int 0))) (bQ aE))) (bU (cW (aP allM (aA (b6 (dY (aB 0)) [1] (a7 1) cD (aD gA (aP c5 (aA (aB 1) aE)) (aP c5 (aA (aD a9 (aB 0) (eC (.int 0))) aE)))) aE))))) (bE (eC (.bl false))) bC)
 (bE (aP allM (aA (FH (dY (aB 0)) [1, 2] (a7 1) cD (dY (aB 1)) [2] (a7 2) cD (aJ (bM k) 3 aN (aA (aB 2) (aA (eC (.int 1)) (aA (eC (.int 12)) aE))))) aE))))))
def fG (k : bN) : MF := bP (lX k) jS
theorem K4 (x0 : D) : begin jS [x0] = [some x0, none, none] := rfl
def qF : List Str := [("thing" : Str), ("houses" : Str), ("house" : Str), ("tie" : Str), ("less" : Str)]
def uK (k : bN) : MS :=
 (aI (dN (eV (bU (cW (aP (gF gL) (aA (aB 0) (aA (eC (.ty "tuple")) aE))))) (bH (aD sL (aP c5 (aA (aB 0) aE)) (eC (.int 3))))) (bE (eC (.bl false))) bC)
 (aI (aT (aB 0) (bY 3 (aK (a7 2) (aK (a7 3) (aK (a7 4) bW)))))
 (bE (jX (aJ (bM k) 3 aN (aA (aB 2) (aA (eC (.int 0)) (aA (aD kH (aB 1) (eC (.int 1))) aE)))) (jX (aJ (bM k) 3 aN (aA (aB 3) (aA (eC (.int 0)) (aA (eC (.int 9)) aE)))) (aJ (bM k) 3 aN (aA (aB 4) (aA (eC (.int 1)) (aA (eC (.int 11)) aE)))))))))
def pT (k : bN) : MF := bP (uK k) qF
theorem XQ (x0 x1 : D) : begin qF [x0, x1] = [some x0, some x1, none, none, none] := rfl
def lF : List Str := [("thing" : Str), ("houses" : Str), ("one" : Str), ("other" : Str)]
def oC (k : bN) : MS :=
 (aI (dN (eV (bU (cW (aP (gF gL) (aA (aB 0) (aA (eC (.ty "tuple")) aE))))) (eV (bH (aD MZ (aP c5 (aA (aB 0) aE)) (eC (.int 6)))) (bU (cW (aP allM (aA (b6 (dY (aB 0)) [2] (a7 2) cD (aJ (pT k) 2 aN (aA (aB 2) (aA (aB 1) aE)))) aE)))))) (bE (eC (.bl false))) bC)
 (bE (aP allM (aA (b6 (eZ zsM (aA (m9 iZ (aB 0) cV (cK (yX vK (eC (.int 1))))) (aA (m9 iZ (aB 0) (cK (eC (.int 1))) cV) aE))) [2, 3] (bY 2 (aK (a7 2) (aK (a7 3) bW))) cD (aD RN (m9 iZ (aB 2) cV (cK (eC (.int 2)))) (m9 iZ (aB 3) cV (cK (eC (.int 2)))))) aE))))
def kZ (k : bN) : MF := bP (oC k) lF
theorem QN (x0 x1 : D) : begin lF [x0, x1] = [some x0, some x1, none, none] := rfl
def kS : List Str := [("name" : Str), ("thing" : Str), ("houses" : Str), ("least" : Str), ("most" : Str)]
def jJ (k : bN) : MS :=
 (aI (dN (bH (aD (W6 k.eE dX) (aB 0) (eC (.con k.eE)))) (aI (aT (aD (T4 k.eE dX) (eC (.con k.eE)) (aB 0)) (bY 2 (aK (a7 3) (aK (a7 4) bW))))
 (bE (aJ (bM k) 3 aN (aA (aB 1) (aA (aB 3) (aA (aB 4) aE)))))) bC)
 (aI (dN (bH (aD gA (aB 0) (eC (.str ("takes" : Str))))) (bE (aP (gF gL) (aA (aB 1) (aA (eC (.ty "bool")) aE)))) bC)
 (bE (aJ (kZ k) 2 aN (aA (aB 1) (aA (aB 2) aE))))))
def dQ (k : bN) : MF := bP (jJ k) kS
theorem t5 (x0 x1 x2 : D) : begin kS [x0, x1, x2] = [some x0, some x1, some x2, none, none] := rfl
def gD : List Str := [("self" : Str), ("ranks" : Str), ("every" : Str), ("lost" : Str), ("slow" : Str), ("bears" : Str), ("gap" : Str), ("hold" : Str), ("takes" : Str), ("ties" : Str), ("hosts" : Str), ("borne" : Str), ("told" : Str), ("name" : Str), ("thing" : Str)]
def mG (k : bN) : MS :=
 (aI (dN (bU (cW (aJ (fG k) 1 aN (aA (aB 1) aE)))) aC8 bC)
 (aI (aT (eIf (bH (aD isM (aB 5) (eC .non))) (aB 3) (aB 5)) (a7 11))
 (aI (aT (GG (dJ (eC (.str ("every" : Str))) (aB 2) (dJ (eC (.str ("lost" : Str))) (aB 3) (dJ (eC (.str ("slow" : Str))) (aB 4) (dJ (eC (.str ("bears" : Str))) (aB 11) (dJ (eC (.str ("gap" : Str))) (aB 6) (dJ (eC (.str ("hold" : Str))) (aB 7) (dJ (eC (.str ("takes" : Str))) (aB 8) C2)))))))) (a7 12))
 (aI (cY (dO "dict" SS (aB 12) (aA (GG (dJ (eC (.str ("ties" : Str))) (aB 9) (dJ (eC (.str ("hosts" : Str))) (aB 10) C2))) aE)))
 (aI (fX (vF (aB 12)) (bY 2 (aK (a7 13) (aK (a7 14) bW))) (dN (bU (cW (aJ (dQ k) 3 aN (aA (aB 13) (aA (aB 14) (aA (aP c5 (aA (aD a9 (aB 1) (eC (.int 0))) aE)) aE)))))) aC8 bC))
 (aI (c9 k.aO ("ranks" : Str) (aB 0) (aB 1))
 (aI (c9 k.aO ("every" : Str) (aB 0) (aB 2))
 (aI (c9 k.aO ("lost" : Str) (aB 0) (aB 3))
 (aI (c9 k.aO ("slow" : Str) (aB 0) (aB 4))
 (aI (c9 k.aO ("bears" : Str) (aB 0) (aB 11))
 (aI (c9 k.aO ("gap" : Str) (aB 0) (aB 6))
 (aI (c9 k.aO ("hold" : Str) (aB 0) (aB 7))
 (aI (c9 k.aO ("takes" : Str) (aB 0) (aB 8))
 (aI (c9 k.aO ("ties" : Str) (aB 0) (aB 9))
 (c9 k.aO ("hosts" : Str) (aB 0) (aB 10))))))))))))))))
def jR (k : bN) : MF := bP (mG k) gD
abbrev dI (k : bN) : List D → List D → List D := fun xs zs => l7 [(0, 0), (0, 1), (1, 0), (1, 1), (1, 2), (1, 3), (1, 4), (1, 5), (1, 6), (1, 7), (1, 8)] xs zs []
def jV : List Str := [("_law_model_here" : Str), ("_law_words" : Str), ("_law_word" : Str)]
def jO (k : bN) : MS :=
 (aI (aT (b6 (dY (bQ (aA (eC (.str ("every" : Str))) (aA (eC (.str ("lost" : Str))) (aA (eC (.str ("slow" : Str))) (aA (eC (.str ("bears" : Str))) (aA (eC (.str ("gap" : Str))) (aA (eC (.str ("hold" : Str))) (aA (eC (.str ("takes" : Str))) (aA (eC (.str ("ties" : Str))) (aA (eC (.str ("hosts" : Str))) aE))))))))))) [2] (a7 2) cD (aD a9 (aB 0) (aB 2))) (a7 1))
 (bE (xD k.aO (jR k) 1 9 (dI k) (aA (aD a9 (aB 0) (eC (.str ("ranks" : Str)))) aE) (aA (aD a9 (aB 1) (eC (.int 0))) (aA (aD a9 (aB 1) (eC (.int 1))) (aA (aD a9 (aB 1) (eC (.int 2))) (aA (aD a9 (aB 1) (eC (.int 3))) (aA (aD a9 (aB 1) (eC (.int 4))) (aA (aD a9 (aB 1) (eC (.int 5))) (aA (aD a9 (aB 1) (eC (.int 6))) (aA (aD a9 (aB 1) (eC (.int 7))) (aA (aD a9 (aB 1) (eC (.int 8))) aE))))))))))))
def gY (k : bN) : MF := bP (jO k) jV
def W9 : List Str := [("plan" : Str), ("rank" : Str)]
def XB (k : bN) : MS :=
 (bE (aD bS (eC (.int 2)) (aD mulM (cP k.aO ("gap" : Str) (aB 0)) (aD kH (eC (.int 12)) (aB 1)))))
def X4 (k : bN) : MF := bP (XB k) W9
def EI : List Str := [("plan" : Str), ("lost" : Str)]
def E4 (k : bN) : MS :=
 (bE (aD bS (aD mulM (aD bS (aB 1) (eC (.int 1))) (cP k.aO ("every" : Str) (aB 0))) (cP k.aO ("slow" : Str) (aB 0))))
def EZ (k : bN) : MF := bP (E4 k) EI
def WS : List Str := [("plan" : Str), ("rank" : Str)]
def WY (k : bN) : MS :=
 (bE (aD bS (aJ (EZ k) 2 aN (aA (aB 0) (aA (cP k.aO ("bears" : Str) (aB 0)) aE))) (aD mulM (cP k.aO ("gap" : Str) (aB 0)) (aD kH (eC (.int 12)) (aB 1)))))
def JH (k : bN) : MF := bP (WY k) WS
def R7 : List Str := [("self" : Str)]
def UA (k : bN) : MS :=
 (bE (aP c5 (aA (aD a9 (cP k.aO ("ranks" : Str) (aB 0)) (eC (.int 0))) aE)))
def iA (k : bN) : MF := bP (UA k) R7
section
variable {w : W} {P : D → W → Prop} (k : bN)
theorem sz (n : Nat) (h : n ≤ 1000) : n ≤ sizeLine := by rw [sizeLine_eq]; omega
theorem aFE {a b : Int} : T (gA (.int a) (.int b) w) P = P (.bl (a == b)) w := by
 rw [wY, m3]
 simp
theorem GR {a b : Int} : T (sL (.int a) (.int b) w) P = P (.bl (!(a == b))) w := by
 rw [aC3, m3]
 simp
theorem yC {xs : List D} : T (c5 [.tup xs] w) P = P (.int xs.length) w := by rw [Y4]; simp [LN, D.items]
theorem aHL {xs : List D} : T (c5 [.lst xs] w) P = P (.int xs.length) w := by rw [Y4]; simp [LN, D.items]
theorem aIy {xs : List D} : T (c5 [.lY xs] w) P = P (.int xs.length) w := by rw [Y4]; simp [LN, D.items]
theorem at0 {x : D} {xs : List D} : atI (x :: xs) 0 = some x := by
 unfold atI ixN
 rw [if_pos (by omega), if_pos (by simp)]
 rfl
end
section
variable {w : W} {P : D → W → Prop} (k : bN)
theorem aIl {xs ys : List D} {PI : l9 → W → Prop} : T (zsM [.tup xs, .tup ys] w) PI = (xs.length = ys.length ∧ PI ⟨(xs.zip ys).map fun p => .tup [p.1, p.2], always⟩ w) := by
 simp only [zsM, zL, dD, bV]
theorem aDh {xs : List D} : iZ (.tup xs) none (some (-1)) w = .ok (.tup xs.dropLast) w := by
 simp only [iZ, Pc.cutD, HT.sIx]
 congr 2
 rw [if_pos (by omega), List.drop_zero, List.dropLast_eq_take]
 congr 1
 omega
theorem aCY {xs : List D} : iZ (.tup xs) (some 1) none w = .ok (.tup xs.tail) w := by
 simp only [iZ, Pc.cutD, HT.sIx]
 congr 2
 rw [if_neg (by omega)]
 cases xs with
 | nil => simp
 | cons x xs => simp
theorem aCq {p q : Int × Int} : RN (pairD p) (pairD q) w = .ok (.bl (HT.lexLt [p.1, p.2] [q.1, q.2])) w := rfl
theorem aBy {a : Addr} {tab : List (Str × Option D)} {z : Str} {o : Option D} (h : tab.lookup z = some o) : T (W6 a tab (.str z) (.con a) w) P = P (.bl o.isSome) w := by
 simp only [W6, ae, h, bV]
theorem aGz {a : Addr} {tab : List (Str × Option D)} {z : Str} {d : D} (h : tab.lookup z = some (some d)) : T (T4 a tab (.con a) (.str z) w) P = P d w := by
 simp only [T4, ae, h, bV]
theorem DM {a b : Str} (ha : PyData.strOk a = true) (hb : PyData.strOk b = true) : G3 (.str a) (.str b) w = some (a == b) := by
 simp [G3, yS, D.py, D.fW, SeqAt.shaped, PyData.canLay0, PyData.depth, PyData.eqv, ha, hb]
theorem U2 {a b : Str} {r : Bool} (h : G3 (.str a) (.str b) w = some r) : T (gA (.str a) (.str b) w) P = P (.bl r) w := by
 rw [wY, h]
 simp
end
section
variable {w : W} {P : D → W → Prop} {PF : Fl → W → Prop} {PI : l9 → W → Prop} {σ : Sg}
theorem V2 {i : Nat} {kvs : List (Key × D)} (h : w[i]? = some (.dK kvs)) : T (BE (.ref i) w) PI = PI ⟨kvs.map fun p => .tup [gG p.1, p.2], always⟩ (w.set i (.dF kvs)) := by
 simp only [BE, h, bV]
theorem EL {m : ME} : T (vF m σ w) PI = T (m σ w) fun d w1 => T (BE d w1) PI := by unfold vF; simp only [bK]
def Turn (next : Sg → W → Prop) (PF : Fl → W → Prop) : Fl → W → Prop := fun f w => match f with
 | .nx s => next s w
 | .ct s => next s w
 | .bk s => PF (.nx s) w
 | .rt d => PF (.rt d) w
open Classical in
theorem SM {it : l9} {g : MG} {b : MS} : T (forL it g b [] σ w) PF = (it.ok w ∧ PF (.nx σ) w) := by
 unfold forL
 rw [dD, bV]
open Classical in
theorem sY {it : l9} {g : MG} {b : MS} {x : D} {xs : List D} : T (forL it g b (x :: xs) σ w) PF = (it.ok w ∧ T (g x σ w) fun σ1 w1 => T (b σ1 w1) (Turn (fun s w2 => T (forL it g b xs s w2) PF) PF)) := by
 conv => lhs; unfold forL
 rw [dD, bK]
 congr 1; congr 1; funext σ1 w1
 rw [bK]
 congr 1; funext f w2
 cases f <;> simp only [bV, Turn]
theorem aFe {i j : Nat} {kvs more : List (Key × D)} (h1 : w[i]? = some (.dK kvs)) (h2 : w[j]? = some (.dK more)) : T (SS (.ref i) [.ref j] w) P = ((i ≠ j ∧ kvs.length + more.length ≤ sizeLine) ∧ P .non (w.set i (.dK (mH kvs more)))) := by
 simp only [SS, h1, h2, dD, bV]
structure MoB (m : Mo) (h : Nat) : Prop where
 c8 : aDH m.c8 h
 n1 : 1 ≤ m.c8.length
 n4 : m.c8.length ≤ 4
 sA : 1 ≤ m.sA ∧ m.sA ≤ 5
 FA : 0 ≤ m.FA ∧ m.FA ≤ 3
 C6 : 1 ≤ m.C6 ∧ m.C6 ≤ 4
 gap : 0 ≤ m.gap ∧ m.gap ≤ 3
 hold : 0 ≤ m.hold ∧ m.hold ≤ 20
 xH : aFx m.xH h
 mX : 0 ≤ m.mX ∧ m.mX ≤ 4
def aA4 (m : Mo) (b : Int) : List (Str × D) := [("ranks", .tup (m.c8.map C5)), ("every", .int m.sA), ("lost", .int m.FA), ("slow", .int m.C6), ("bears", .int b), ("gap", .int m.gap), ("hold", .int m.hold), ("takes", .bl m.takes), ("ties", .tup (m.xH.map fN)), ("hosts", .int m.mX)]
theorem pP {p i : Nat} {C : Addr} {fs : List (Str × D)} {z : Str} {d : D} (h : w[p]? = some (.ins C fs)) (h0 : σ[0]? = some (some (.ref p))) (h1 : σ[i]? = some (some d)) (hl : fs.length < 1000) (q : PF (.nx σ) (w.set p (.ins C (tP z d fs)))) : T (c9 C z (aB 0) (aB i) σ w) PF := by
 simp only [z9, T_V, h0, h1, ZP h]
 exact ⟨hl, q⟩
variable (k : bN)
end
section
variable {w : W} {P : D → W → Prop} {PF : Fl → W → Prop} {PI : l9 → W → Prop} {σ : Sg}
theorem sl0 : (0 ≤ sizeLine) = True := eq_true (sz _ (by omega))
theorem sl1 : (0 + 1 ≤ sizeLine) = True := eq_true (sz _ (by omega))
theorem sl2 : (0 + 1 + 1 ≤ sizeLine) = True := eq_true (sz _ (by omega))
theorem sl3 : (0 + 1 + 1 + 1 ≤ sizeLine) = True := eq_true (sz _ (by omega))
theorem sl4 : (0 + 1 + 1 + 1 + 1 ≤ sizeLine) = True := eq_true (sz _ (by omega))
theorem sl5 : (0 + 1 + 1 + 1 + 1 + 1 ≤ sizeLine) = True := eq_true (sz _ (by omega))
theorem sl6 : (0 + 1 + 1 + 1 + 1 + 1 + 1 ≤ sizeLine) = True := eq_true (sz _ (by omega))
theorem sl7 : (0 + 1 + 1 + 1 + 1 + 1 + 1 + 1 ≤ sizeLine) = True := eq_true (sz _ (by omega))
theorem sl8 : (0 + 1 + 1 + 1 + 1 + 1 + 1 + 1 + 1 ≤ sizeLine) = True := eq_true (sz _ (by omega))
theorem sl9 : (0 + 1 + 1 + 1 + 1 + 1 + 1 + 1 + 1 + 1 ≤ sizeLine) = True := eq_true (sz _ (by omega))
theorem aIo : (0 + 1 + 1 + 1 + 1 + 1 + 1 + 1 + 1 + 1 + 1 ≤ sizeLine) = True := eq_true (sz _ (by omega))
theorem aIt : (0 + 1 + 1 + 1 + 1 + 1 + 1 + 1 + 1 + 1 + 1 + 1 ≤ sizeLine) = True := eq_true (sz _ (by omega))
theorem aIA : (0 + 1 + 1 + 1 + 1 + 1 + 1 + 1 + 1 + 1 + 1 + 1 + 1 ≤ sizeLine) = True := eq_true (sz _ (by omega))
variable (k : bN)
def iR (w : W) (p : Nat) (m : Mo) (b : Int) : Prop := w[p]? = some (.ins k.aO (aA4 m b))
variable {k} {p : Nat} {m : Mo} {b : Int}
theorem HQ {z : Str} {d : D} (h : iR k w p m b) (e : (aA4 m b).lookup z = some d) : T (rH k.aO z (.ref p) w) P = P d w := by
 rw [aAK h, e]
 simp
theorem aC1 (h : iR k w p m b) : T (rH k.aO "ranks" (.ref p) w) P = P (.tup (m.c8.map C5)) w := HQ h rfl
theorem aDG (h : iR k w p m b) : T (rH k.aO "every" (.ref p) w) P = P (.int m.sA) w := HQ h rfl
theorem aGc (h : iR k w p m b) : T (rH k.aO "lost" (.ref p) w) P = P (.int m.FA) w := HQ h rfl
theorem aET (h : iR k w p m b) : T (rH k.aO "slow" (.ref p) w) P = P (.int m.C6) w := HQ h rfl
theorem aDt (h : iR k w p m b) : T (rH k.aO "bears" (.ref p) w) P = P (.int b) w := HQ h rfl
theorem aHo (h : iR k w p m b) : T (rH k.aO "gap" (.ref p) w) P = P (.int m.gap) w := HQ h rfl
theorem aFb (h : iR k w p m b) : T (rH k.aO "hold" (.ref p) w) P = P (.int m.hold) w := HQ h rfl
theorem aCD (h : iR k w p m b) : T (rH k.aO "takes" (.ref p) w) P = P (.bl m.takes) w := HQ h rfl
theorem ZM (h : iR k w p m b) : T (rH k.aO "ties" (.ref p) w) P = P (.tup (m.xH.map fN)) w := HQ h rfl
theorem aBT (h : iR k w p m b) : T (rH k.aO "hosts" (.ref p) w) P = P (.int m.mX) w := HQ h rfl
def PR (m : Mo) (b r : Int) : Int := (b + 1) * m.sA + m.C6 + m.gap * (12 - r)
def aDP (m : Mo) (r : Int) : Int := 2 + m.gap * (12 - r)
variable (k)
end
theorem hV (a b : Str) : PyData.strOk (a ++ b) = (PyData.strOk a && PyData.strOk b) := by
 show Array.all (a.cps ++ b.cps) _ = _
 unfold PyData.strOk
 rw [Array.all_append]
theorem fL (s : String) : PyData.strOk (Str.ofString s) = true := by
 rw [Str.ofString_eq_toList]
 unfold PyData.strOk
 rw [Array.all_eq_true_iff_forall_mem]
 intro c hc
 simp only [List.mem_toArray, dh] at hc
 obtain ⟨ch, _, rfl⟩ := hc
 have := ch.valid
 simp only [ak]
 have h2 : ch.toNat < 0x110000 := by
  have h3 : ch.toNat = ch.val.toNat := rfl
  rcases this with h | ⟨_, h⟩
  ·rw [h3]; exact Nat.lt_trans h (by decide)
  ·rw [h3]; exact h
 exact h2
theorem oM : ∀ (ts : List Str) (k : Nat) (acc : Str), PyData.strOk acc = true → (∀ t ∈ ts, PyData.strOk t = true) → PyData.strOk (textFrom k acc ts) = true
 | [], k, acc, h, _ => h
 | t :: ts, k, acc, h, ht => by
  unfold textFrom
  refine oM ts (k + 1) _ ?_ fun x hx => ht x (br _ hx)
  rw [hV, hV, h, ht t (bc ..), fL]
  rfl
theorem zO (sep : Str) (hs : PyData.strOk sep = true) : ∀ ts : List Str, (∀ t ∈ ts, PyData.strOk t = true) → PyData.strOk (Str.join sep ts) = true
 | [], _ => by show PyData.strOk Str.empty = true; decide +kernel
 | [x], h => h x (bc ..)
 | x :: y :: r, h => by
  show PyData.strOk (x ++ sep ++ Str.join sep (y :: r)) = true
  rw [hV, hV, hs, h x (bc ..), zO sep hs (y :: r) fun t ht => h t (br _ ht)]
  rfl
mutual
/-- data of short numbers and fine short texts, lists and tuples of such -/
def gP : PyData → Bool
 | .none | .bool _ => true
 | .int i => decide (i.natAbs < 10 ^ 40)
 | .str x => PyData.strOk (reprText x) && PyData.strOk x && PyData.leavesShort 60 (.str x) && decide (x.length ≤ 100)
 | .list xs | .tuple xs => plainPs xs
 | .dict _ => false
def plainPs : List PyData → Bool
 | [] => true
 | x :: xs => gP x && plainPs xs
end
mutual
theorem ND : ∀ p : PyData, gP p = true → PyData.strOk p.shown = true
 | .none, _ => fL _
 | .bool b, _ => by cases b <;> exact fL _
 | .int i, _ => fL _
 | .str x, h => by
  simp only [gP, ao] at h
  exact h.1.1.1
 | .list xs, h => by
  rw [gP] at h
  show PyData.strOk (textFrom 0 "[" (PyData.shownAll xs) ++ "]") = true
  rw [hV, oM _ _ _ (fL _) (plains_shown xs h), fL]
  rfl
 | .tuple xs, h => by
  rw [gP] at h
  show PyData.strOk (tupleText (PyData.shownAll xs)) = true
  unfold tupleText
  rw [hV, hV, fL, zO _ (fL _) _ (plains_shown xs h)]
  split <;> rw [fL] <;> rfl
 | .dict _, h => by simp [gP] at h
theorem plains_shown : ∀ ps : List PyData, plainPs ps = true → ∀ t ∈ PyData.shownAll ps, PyData.strOk t = true
 | [], _, t, ht => by simp [PyData.shownAll] at ht
 | p :: ps, h, t, ht => by
  simp only [plainPs, ao] at h
  simp only [PyData.shownAll, bh] at ht
  rcases ht with rfl | ht
  ·exact ND p h.1
  ·exact plains_shown ps h.2 t ht
end
theorem vG {i : Int} (h : i.natAbs < 10 ^ 40) : PyData.leavesShort 60 (.int i) = true := by
 have e := int_text_length_le10 (k := 40) (by decide) h
 simp only [PyData.leavesShort, ak]
 show (Str.ofString (toString i)).length ≤ 60
 rw [PySem.ofString_length]
 omega
theorem x9 {i : Int} (h : i.natAbs < 10 ^ 40) : PyData.showable (.int i) = true := by
 simp only [PyData.showable, ak]
 by_cases h0 : i.natAbs = 0
 ·rw [h0]; decide
 ·rw [Nat.log2_lt h0]
  exact Nat.lt_of_lt_of_le h (by decide +kernel)
mutual
theorem plain_all : ∀ p : PyData, gP p = true → p.leavesShort 60 = true ∧ p.showable = true ∧ p.hasDict = false ∧ p.canLay0 = true
 | .none, _ => by simp [PyData.leavesShort, PyData.showable, PyData.hasDict, PyData.canLay0]
 | .bool b, _ => by simp [PyData.leavesShort, PyData.showable, PyData.hasDict, PyData.canLay0]
 | .int i, h => by
  simp only [gP, ak] at h
  exact ⟨vG h, x9 h, by simp [PyData.hasDict], by simp [PyData.canLay0]⟩
 | .str x, h => by
  simp only [gP, ao] at h
  exact ⟨h.1.2, by simp [PyData.showable], by simp [PyData.hasDict], by simp [PyData.canLay0, h.1.1.2]⟩
 | .list xs, h => by
  rw [gP] at h
  have := plains_all xs h
  simp only [PyData.leavesShort, PyData.showable, PyData.hasDict, PyData.canLay0]
  exact this
 | .tuple xs, h => by
  rw [gP] at h
  have := plains_all xs h
  simp only [PyData.leavesShort, PyData.showable, PyData.hasDict, PyData.canLay0]
  exact this
 | .dict _, h => by simp [gP] at h
theorem plains_all : ∀ p : List PyData, plainPs p = true → PyData.leavesShortAll 60 p = true ∧ PyData.showableAll p = true ∧ PyData.hasDictAll p = false ∧ PyData.canLayAll0 p = true
 | [], _ => by simp [PyData.leavesShortAll, PyData.showableAll, PyData.hasDictAll, PyData.canLayAll0]
 | p :: ps, h => by
  simp only [plainPs, ao] at h
  obtain ⟨a1, a2, a3, a4⟩ := plain_all p h.1
  obtain ⟨b1, b2, b3, b4⟩ := plains_all ps h.2
  simp only [PyData.leavesShortAll, PyData.showableAll, PyData.hasDictAll, PyData.canLayAll0, a1, a2, a3, a4, b1, b2, b3, b4]
  simp
end
section
variable {w : W} {P : D → W → Prop} {x y : D} {p q : PyData}
theorem aCO {xs : List Int} : D.py w (.lst (xs.map D.int)) = some (.list (xs.map PyData.int)) := by
 show (D.pysR _ (xs.map D.int)).map PyData.list = _
 rw [QS]
 rfl
end
theorem EA {it : l9} {g : MG} {body : MS} {P : Fl → W → Prop} {σ : Sg} {w : W} (Inv : Nat → Sg → W → Prop) (ok : ∀ i σ w, Inv i σ w → it.ok w) (init : Inv 0 σ w)
  (step : ∀ i x σ w, it.xs[i]? = some x → Inv i σ w → T (g x σ w) fun σ1 w1 => T (body σ1 w1) (Turn (Inv (i + 1)) P)) (fin : ∀ σ w, Inv it.xs.length σ w → P (.nx σ) w) : T (forL it g body it.xs σ w) P := by
 have fl := aE4 (it := it) (g := g) (body := body) (P := P) Inv ok (fun i x σ w h1 h2 => (step i x σ w h1 h2).mono fun s1 w1 _ q => q.mono fun f w2 _ q2 => by cases f <;> exact q2) fin (i := 0) (σ := σ) (w := w) (Nat.zero_le _) init
 rw [List.drop_zero] at fl
 exact fl
theorem UZ {it : l9} {vs : List Nat} {g : MG} {t : MT} {e : ME} {σ : Sg} {w : W} {P : List D → W → Prop} (Inv : Nat → List D → W → Prop) (ok : ∀ i acc w, Inv i acc w → it.ok w) (init : Inv 0 [] w)
  (step : ∀ i x acc w, it.xs[i]? = some x → Inv i acc w → T (g x (eO σ vs) w) fun σ1 w1 => T (t σ1 w1) fun b w2 => if b = true then T (e σ1 w2) fun y w3 => Inv (i + 1) (acc ++ [y]) w3 else Inv (i + 1) acc w2)
  (fin : ∀ acc w, Inv it.xs.length acc w → P acc w) : T (mV it vs g t e it.xs σ w) P := by
 have cl := LH (it := it) (vs := vs) (g := g) (t := t) (e := e) (σ := σ) (P := P) Inv ok step fin (i := 0) (acc := []) (w := w) (Nat.zero_le _) init
 rw [List.drop_zero] at cl
 exact cl.mono fun _ _ _ q => by simpa using q
inductive Role where
 | rests | CW | xT
deriving DecidableEq
def Role.s : Role → Str
 | .rests => "rests"
 | .CW => "waits"
 | .xT => "serves"
structure u5 where
 left : Int
 a : Int
 s : Int
 r : Int
 rank : Int
structure gW where
 living : List Int
 parts : List Int
 downs : List Int
 c8 : List (List Int)
 cE : List (List (Role × Int))
 fV : List u5
 tA : List (List (List Int))
 tables : List (List Int)
 asks : List (Int × Int)
def aFj (p : Role × Int) : D := .tup [.str p.1.s, .int p.2]
def aGH (r : List (Role × Int)) : D := .tup (r.map aFj)
def aD6 (l : u5) : D := .tup [.int l.left, .int l.a, .int l.s, .int l.r, .int l.rank]
def aEe (l : List (List Int)) : D := .tup (l.map C5)
section
variable {w : W} {P : D → W → Prop} {k : bN} {p h : Nat} {m : Mo} {b : Int}
theorem szz (n : Nat) (h : n ≤ 1000000) : n ≤ sizeLine := by rw [sizeLine_eq]; omega
end
section
variable {w : W} {P : D → W → Prop} {k : bN} {p h : Nat} {m : Mo} {b : Int}
theorem aCs {x : Int} {xs : List Int} : inD (.int x) (.lst (xs.map D.int)) w = some (decide (x ∈ xs)) := by
 show LB (.int x) (.lst (xs.map D.int)) w = _
 unfold LB
 have e1 : D.py w (.int x) = some (.int x) := rfl
 rw [e1, aCO]
 have l1 : SeqAt.shaped (.int x) = true := by simp [SeqAt.shaped, PyData.canLay0, PyData.depth]
 simp only [l1, lay_ints, and_self, ae]
 congr 1
 rw [List.any_map]
 induction xs with
 | nil => simp
 | cons y ys ih =>
  rw [List.any_cons, ih]
  simp only [Function.comp_apply, PyData.eqv, bh]
  by_cases h : y = x
  ·subst h; simp
  ·have h' : x ≠ y := fun z => h z.symm
   simp [h, h']
end
section
variable {w : W} {P : D → W → Prop} {k : bN} {p h : Nat} {m : Mo} {b : Int}
theorem jL {xs : List D} {j : Nat} {d : D} (e : xs[j]? = some d) : atI xs (j : Int) = some d := by
 have hl := (ai.mp e).1
 unfold atI ixN
 rw [if_pos (by omega), if_pos (by omega)]
 exact e
end
section
variable {w : W} {P : D → W → Prop} {k : bN} {p h : Nat} {m : Mo} {b : Int}
def first (m : Mo) (b : Int) (h : Nat) : gW where
 living := List.replicate h 1
 parts := List.replicate (h + m.mX.toNat) 0
 downs := []
 c8 := m.c8
 cE := m.c8.map fun r => r.map fun x => (.CW, PR m b x + m.hold)
 fV := []
 tA := m.c8.map fun _ => List.replicate h (List.replicate (h + m.mX.toNat) 0)
 tables := List.replicate m.mX.toNat (List.replicate m.c8.length (-1))
 asks := List.replicate m.mX.toNat (0, 0)
theorem aFS {xs : List D} : T (dZ [.lst xs] w) P = P (.tup xs) w := by
 have e : dZ [.lst xs] w = .ok (.tup xs) w := rfl
 rw [e, bV]
end
def zZ := And.intro @eT (And.intro @fU (And.intro @y6 (And.intro @NK (And.intro @E3 (And.intro @yH (And.intro @FF (And.intro @IX (And.intro @MC (And.intro @EM (And.intro @z9 (And.intro @EC (And.intro @zR (And.intro @ES (And.intro @y7 (And.intro @T_C (And.intro @T_V (And.intro @Q3 (And.intro @aAs (And.intro @OP (And.intro @aAW (And.intro @aBA (And.intro @FV (And.intro @zE (And.intro @QT (And.intro @OY (And.intro @QZ (And.intro @OI (And.intro @GJ (And.intro @EY (And.intro @yU (And.intro @BK (And.intro @O8 (And.intro @aBm (And.intro @OD (And.intro @N8 (And.intro @nR (And.intro @FW (And.intro @QY (And.intro @rN (And.intro @l5 (And.intro @CS (And.intro @zA (And.intro @vS (And.intro @rZ (And.intro @IV (And.intro @aBr (And.intro @Y6 (And.intro @ZX (And.intro @XI (And.intro @FX (And.intro @NB (And.intro @kJ (And.intro @tN (And.intro @Q4 (And.intro @EN (And.intro @E8 (And.intro @FL (And.intro @bV (And.intro @DU (And.intro @GO (And.intro @E9 (And.intro @YY (And.intro @zN (And.intro @xX (And.intro @vL (And.intro @EW (And.intro @BC (And.intro @OQ (And.intro @QB (And.intro @IT (And.intro @v9 (And.intro @QH (And.intro @tH (And.intro @sl0 (And.intro @sl1 (And.intro @sl2 (And.intro @sl3 (And.intro @sl4 (And.intro @sl5 (And.intro @sl6 (And.intro @sl7 (And.intro @sl8 (And.intro @sl9 (And.intro @aIo (And.intro @aIt (And.intro @aIA (And.intro @ZU (And.intro @KQ (And.intro @SG (And.intro @yC (And.intro @aHL (And.intro @aIy (And.intro @aFE (And.intro @GR (@EL)))))))))))))))))))))))))))))))))))))))))))))))))))))))))))))))))))))))))))))))))))))))))))))))
theorem aCt {xs ys : List D} : aN xs ys = xs := rfl
def zY := And.intro zZ (And.intro @dm.{0} (And.intro @dn.{0} (And.intro @List.set_cons_zero.{0} (And.intro @List.set_cons_succ.{0} (And.intro @cf.{0} (And.intro @cz.{0} (And.intro @aCt (And.intro @true_and (And.intro @and_true (And.intro @bg (And.intro @ay (And.intro @bq (And.intro @Bool.true_eq_false (And.intro @bu.{1} @aj.{0}))))))))))))))
def jW : Nat → D → Bool
 | 0, _ => false
 | _ + 1, .non => true
 | _ + 1, .bl _ => true
 | _ + 1, .int i => decide (i ≤ 100000000000000000000000000000000000000000000000000)
 | _ + 1, .str x => PyData.strOk x
 | n + 1, .tup xs => xs.all (jW n) && decide (xs.length ≤ 70000)
 | n + 1, .lst xs => xs.all (jW n) && decide (xs.length ≤ 70000)
 | n + 1, .zX ks vs => (ks.all (jW n) && vs.all (jW n)) && decide (ks.length ≤ 15)
 | _ + 1, _ => false
def isInt : D → Bool
 | .int _ => true
 | _ => false
def aM (lo hi : Int) : D → Bool
 | .int i => decide (lo ≤ i) && decide (i ≤ hi)
 | _ => false
def aAD (n : Int) : D → Bool
 | .tup xs => (xs.length : Int) == n
 | _ => false
def fA : D → Bool
 | .tup _ => true
 | _ => false
section
variable {w : W} {P : D → W → Prop} {k : bN} {p h n : Nat} {m : Mo} {b : Int} {d : D}
theorem nH {xs : List D} (e : jW (n + 1) (.tup xs) = true) : (∀ x ∈ xs, jW n x = true) ∧ xs.length ≤ 70000 := by
 simp only [jW, ao, au, ak] at e
 exact e
theorem JF (e : jW n d = true) : T (gF gL [d, .ty "int"] w) P = P (.bl (match d with | .int _ => true | .bl _ => true | _ => false)) w := by
 cases n with
 | zero => simp [jW] at e
 | succ n => cases d <;> first | (simp [jW] at e; done) | (unfold T; rfl)
theorem K6 (e : jW n d = true) : T (gF gL [d, .ty "bool"] w) P = P (.bl (match d with | .bl _ => true | _ => false)) w := by
 cases n with
 | zero => simp [jW] at e
 | succ n => cases d <;> first | (simp [jW] at e; done) | (unfold T; rfl)
theorem uQ (e : jW n d = true) : T (gF gL [d, .ty "tuple"] w) P = P (.bl (fA d)) w := by
 cases n with
 | zero => simp [jW] at e
 | succ n => cases d <;> first | (simp [jW] at e; done) | (unfold T; rfl)
theorem aDB (e : jW n d = true) : T (gH k [d] w) P = P (.bl (isInt d)) w := by
 unfold gH jM
 rw [eT, CY]
 simp only [JF e, K6 e, zY, ae, aa, reduceCtorEq]
 cases d <;> simp [isInt]
theorem pS (lo hi : Int) (e : jW n d = true) : T (bM k [d, .int lo, .int hi] w) P = P (.bl (aM lo hi d)) w := by
 unfold bM iB
 rw [eT, yZ]
 simp only [aDB e, zY, ae, aa, reduceCtorEq]
 cases d <;> simp only [isInt, aM, zY, ae, aa, reduceCtorEq]
 rename_i i
 by_cases h : lo ≤ i <;> simp [h]
end
def allI (f : Nat → D → Bool) : Nat → List D → Bool
 | _, [] => true
 | i, x :: xs => f i x && allI f (i + 1) xs
theorem D8 {f : Nat → D → Bool} : ∀ {n : Nat} {xs : List D}, allI f n xs = true ↔ ∀ i x, xs[i]? = some x → f (n + i) x = true
 | n, [] => by simp [allI]
 | n, x :: xs => by
  unfold allI
  rw [ao, D8 (n := n + 1) (xs := xs)]
  constructor
  ·rintro ⟨h1, h2⟩ i y hy
   cases i with
   | zero => simp only [dm, aj] at hy; subst hy; exact h1
   | succ i =>
    simp only [dn] at hy
    have := h2 i y hy
    rwa [show n + (i + 1) = n + 1 + i by omega]
  ·intro h
   refine ⟨h 0 x rfl, fun i y hy => ?_⟩
   have := h (i + 1) y (by simpa using hy)
   rwa [show n + (i + 1) = n + 1 + i by omega] at this
theorem aFq {it : l9} {g : MG} {body : MS} {P : Fl → W → Prop} {σ : Sg} {w : W} (f : Nat → D → Bool) (K : Sg → Prop) (ok : it.ok w) (init : K σ)
  (step : ∀ i x σ, it.xs[i]? = some x → K σ → T (g x σ w) fun σ1 w1 => T (body σ1 w1) fun fl w2 => w2 = w ∧ (if f i x = true then ∃ s, fl = .nx s ∧ K s else fl = .rt (.bl false)))
  (fin : if allI f 0 it.xs = true then ∀ σ, K σ → P (.nx σ) w else P (.rt (.bl false)) w) : T (forL it g body it.xs σ w) P := by
 refine EA (fun i σ w' => w' = w ∧ K σ ∧ ∀ j x, j < i → it.xs[j]? = some x → f j x = true) (fun _ _ _ h => h.1 ▸ ok) ⟨rfl, init, fun j x h => absurd h (Nat.not_lt_zero j)⟩ (fun i x σ w1 hx hI => ?_) fun σ w1 hI => ?_
 ·obtain ⟨rfl, hk, hall⟩ := hI
  refine (step i x σ hx hk).mono fun s1 w2 _ q0 => q0.mono fun fl w3 _ q => ?_
  obtain ⟨rfl, q⟩ := q
  clear q0
  cases hf : f i x with
  | true =>
   rw [hf, if_pos rfl] at q
   obtain ⟨s, rfl, hs⟩ := q
   refine ⟨rfl, hs, fun j y hj hy => ?_⟩
   by_cases e : j = i
   ·subst e
    rw [hx] at hy
    cases hy
    exact hf
   ·exact hall j y (by omega) hy
  | false =>
   rw [hf, if_neg (by decide)] at q
   subst q
   have : ¬ allI f 0 it.xs = true := fun e => by
    have := D8.mp e i x hx
    rw [Nat.zero_add, hf] at this
    cases this
   rw [if_neg this] at fin
   exact fin
 ·obtain ⟨rfl, hk, hall⟩ := hI
  have : allI f 0 it.xs = true := D8.mpr fun i x hx => by
   rw [Nat.zero_add]
   exact hall i x (ai.mp hx).1 hx
  rw [if_pos this] at fin
  exact fin σ hk
section
variable {w : W} {P : D → W → Prop} {k : bN} {p h n : Nat} {m : Mo} {b : Int} {d : D}
def CT (ls : List D) : List D := (List.range ls.length).zipWith (fun i x => D.tup [.int (i : Nat), x]) ls
end
def BU : List Str := [("_law_it" : Str), ("_law_count" : Str)]
def CI (k : bN) : MS :=
 (bE (jX (aP (gF gL) (aA (aB 0) (aA (eC (.ty "tuple")) aE))) (aD gA (aP c5 (aA (aB 0) aE)) (aB 1))))
def B7 (k : bN) : MF := bP (CI k) BU
theorem MV (x0 x1 : D) : begin BU [x0, x1] = [some x0, some x1] := rfl
theorem KW {f : Nat → Option PyData} : ∀ {xs : List D} {ps : List PyData}, D.pysR f xs = some ps → ps.length = xs.length
 | [], ps, h => by simp only [D.pysR, aj] at h; subst h; rfl
 | x :: xs, ps, h => by
  simp only [D.pysR] at h
  split at h
  ·rename_i p ps' e1 e2
   cases h
   simp [KW e2]
  ·cases h
theorem P8 {w : W} {ys : List D} : G3 (.lst ys) (.lst []) w = some ys.isEmpty := by
 unfold G3
 cases h : yS (.lst ys) (.lst []) w with
 | none => rfl
 | some b =>
  unfold yS at h
  have e2 : D.py w (.lst []) = some (.list []) := rfl
  rw [e2] at h
  split at h
  ·rename_i p q e3 e4
   cases e4
   split at h
   ·cases h
    unfold D.py D.fW at e3
    obtain ⟨ps, q1, rfl⟩ := aq.mp e3
    have hl := KW q1
    cases ys with
    | nil => cases ps with
     | nil => rfl
     | cons => simp at hl
    | cons y ys => cases ps with
     | nil => simp at hl
     | cons => rfl
   ·cases h
  ·cases h
theorem AA {w : W} {ys : List D} : G3 (.tup ys) (.tup []) w = some ys.isEmpty := by
 unfold G3
 cases h : yS (.tup ys) (.tup []) w with
 | none => rfl
 | some b =>
  unfold yS at h
  have e2 : D.py w (.tup []) = some (.tuple []) := rfl
  rw [e2] at h
  split at h
  ·rename_i p q e3 e4
   cases e4
   split at h
   ·cases h
    unfold D.py D.fW at e3
    obtain ⟨ps, q1, rfl⟩ := aq.mp e3
    have hl := KW q1
    cases ys with
    | nil => cases ps with
     | nil => rfl
     | cons => simp at hl
    | cons y ys => cases ps with
     | nil => simp at hl
     | cons => rfl
   ·cases h
  ·cases h
section
variable {w : W} {P : D → W → Prop} {k : bN} {p h n i : Nat} {m : Mo} {b : Int} {d : D}
theorem VD {ys : List D} (h : ∀ y ∈ ys, jW n y = true) (hn : n ≤ 60) : G3 (.lst ys) (.lst []) w = some ys.isEmpty := P8
theorem ne_nil {ys : List D} (h : ∀ y ∈ ys, jW n y = true) (hn : n ≤ 60) : T (sL (.lst ys) (.lst []) w) P = P (.bl (!ys.isEmpty)) w := by
 rw [aC3, VD h hn]
 simp
theorem eq_nil {ys : List D} (h : ∀ y ∈ ys, jW n y = true) (hn : n ≤ 60) : T (gA (.lst ys) (.lst []) w) P = P (.bl ys.isEmpty) w := by
 rw [wY, VD h hn]
 simp
theorem ZE {c : Int} (e : jW n d = true) : T (B7 k [d, .int c] w) P = P (.bl (aAD c d)) w := by
 unfold B7 CI
 rw [eT, MV]
 simp only [uQ e, zY, ae, aa, reduceCtorEq]
 cases d <;> simp only [fA, aAD, zY, ae, aa, reduceCtorEq]
end
section
variable {w : W} {P : D → W → Prop} {k : bN} {p h n i : Nat} {m : Mo} {b : Int} {d : D}
theorem vE : ∀ {l : List Int}, nU (l.map D.int) = some l
 | [] => rfl
 | a :: l => by simp [nU, vE (l := l)]
end
def WT : List (Str × Option D) := [(("fall" : Str), some (.int 1)), (("stop" : Str), some (.int 1)), (("rise" : Str), some (.int 1)), (("down" : Str), some (.int 1)), (("up" : Str), some (.int 1)), (("rank" : Str), some (.int 3)), (("tear" : Str), some (.int 2)), (("heal" : Str), some (.int 0)), (("ask" : Str), some (.int 2))]
def ID : List Str := [("plan" : Str), ("state" : Str), ("host" : Str), ("address" : Str), ("told" : Str)]
def HD (k : bN) : MS :=
 (aI (aT (aD a9 (aD a9 (aD a9 (aB 1) (eC (.int 7))) (aB 2)) (aB 3)) (a7 4))
 (aI (dN (eV (bH (aD RN (aB 4) (eC (.int 0)))) (bH (aD sL (aD a9 (aD a9 (aB 1) (eC (.int 1))) (aB 4)) (aD a9 (aD a9 (aB 1) (eC (.int 1))) (aD bS (aP (QX k.aO (iA k)) (aA (aB 0) aE)) (aB 2)))))) (bE (eC (.bl false))) bC)
 (bE (aD gA (aD a9 (aD a9 (aD a9 (aD a9 (aB 1) (eC (.int 4))) (aB 3)) (aB 4)) (eC (.int 0))) (eC (.str ("serves" : Str)))))))
def IC (k : bN) : MF := bP (HD k) ID
def aHJ : List Str := [("row" : Str), ("at" : Str), ("thing" : Str)]
def aHn (k : bN) : MS :=
 (bE (aD bS (aD bS (m9 iZ (aB 0) cV (cK (aB 1))) (bQ (aA (aB 2) aE))) (m9 iZ (aB 0) (cK (aD bS (aB 1) (eC (.int 1)))) cV)))
def nW (k : bN) : MF := bP (aHn k) aHJ
def UG : List Str := [("plan" : Str), ("state" : Str), ("host" : Str), ("address" : Str), ("many" : Str), ("dropped" : Str), ("told" : Str)]
def RW (k : bN) : MS :=
 (aI (aT (aD a9 (aD a9 (aB 1) (eC (.int 8))) (aB 2)) (bY 2 (aK (a7 4) (aK (a7 5) bW))))
 (aI (aT (bQ (aA (aD bS (aB 4) (eC (.int 1))) (aA (aD bS (aB 5) (aP x7 (aA (yX notM (aJ (IC k) 4 aN (aA (aB 0) (aA (aB 1) (aA (aB 2) (aA (aB 3) aE)))))) aE))) aE))) (a7 6))
 (bE (aJ (nW k) 3 aN (aA (aB 1) (aA (eC (.int 8)) (aA (aJ (nW k) 3 aN (aA (aD a9 (aB 1) (eC (.int 8))) (aA (aB 2) (aA (aB 6) aE)))) aE)))))))
def R5 (k : bN) : MF := bP (RW k) UG
def A2 : List Str := [("plan" : Str)]
def AU (k : bN) : MS :=
 (bE (aP c5 (aA (cP k.aO ("ranks" : Str) (aB 0)) aE)))
def eQ (k : bN) : MF := bP (AU k) A2
def NA : List Str := [("state" : Str), ("house" : Str), ("lives" : Str)]
def P7 (k : bN) : MS :=
 (bE (aJ (nW k) 3 aN (aA (aB 0) (aA (eC (.int 0)) (aA (aJ (nW k) 3 aN (aA (aD a9 (aB 0) (eC (.int 0))) (aA (aB 1) (aA (aB 2) aE)))) aE)))))
def B4 (k : bN) : MF := bP (P7 k) NA
def HR : List Str := [("state" : Str), ("house" : Str), ("stands" : Str), ("rows" : Str), ("row" : Str), ("stand" : Str)]
def HM (k : bN) : MS :=
 (aI (aT (aP dZ (aA (b6 (eZ zmM (aA (aD a9 (aB 0) (eC (.int 4))) (aA (aB 2) aE))) [4, 5] (bY 2 (aK (a7 4) (aK (a7 5) bW))) cD (aJ (nW k) 3 aN (aA (aB 4) (aA (aB 1) (aA (aB 5) aE))))) aE)) (a7 3))
 (bE (aJ (nW k) 3 aN (aA (aB 0) (aA (eC (.int 4)) (aA (aB 3) aE))))))
def vX (k : bN) : MF := bP (HM k) HR
def ZO : List Str := [("plan" : Str), ("state" : Str), ("house" : Str)]
def aAG (k : bN) : MS :=
 (bE (aJ (vX k) 3 aN (aA (aJ (B4 k) 3 aN (aA (aB 1) (aA (aB 2) (aA (eC (.int 0)) aE)))) (aA (aB 2) (aA (aD mulM (eI (aA (bQ (aA (eC (.str ("rests" : Str))) (aA (eC (.int 0)) aE))) aE)) (aJ (eQ k) 1 aN (aA (aB 0) aE))) aE)))))
def OH (k : bN) : MF := bP (aAG k) ZO
def T7 : List Str := [("plan" : Str), ("state" : Str), ("address" : Str), ("house" : Str), ("downs" : Str), ("ranks" : Str), ("taken" : Str), ("one" : Str), ("tie" : Str), ("less" : Str)]
def S0 (k : bN) : MS :=
 (aI (aT (bQ (aA (aD a9 (aB 1) (eC (.int 2))) (aA (aD a9 (aB 1) (eC (.int 3))) aE))) (bY 2 (aK (a7 4) (aK (a7 5) bW))))
 (aI (aT (aP O0 (aA (b6 (dY (cP k.aO ("ties" : Str) (aB 0))) [7, 8, 9] (bY 3 (aK (a7 7) (aK (a7 8) (aK (a7 9) bW)))) (iD (bH (aD gA (aB 7) (aB 3))) (bH (aD YG (aB 8) (aB 4)))) (aB 9)) aE)) (a7 6))
 (bE (aP max2 (aA (eC (.int 1)) (aA (aD kH (aD a9 (aD a9 (aB 5) (aB 2)) (aB 3)) (aB 6)) aE))))))
def oG (k : bN) : MF := bP (S0 k) T7
def G9 : List Str := [("plan" : Str), ("state" : Str), ("address" : Str), ("house" : Str)]
def G4 (k : bN) : MS :=
 (bE (aD bS (aJ (JH k) 2 aN (aA (aB 0) (aA (aJ (oG k) 4 aN (aA (aB 0) (aA (aB 1) (aA (aB 2) (aA (aB 3) aE))))) aE))) (cP k.aO ("hold" : Str) (aB 0))))
def pL (k : bN) : MF := bP (G4 k) G9
def HB : List Str := [("plan" : Str), ("ahead" : Str), ("state" : Str), ("address" : Str), ("house" : Str), ("role" : Str), ("clock" : Str), ("row" : Str)]
def HP (k : bN) : MS :=
 (aI (fX (eZ kO (aA (aJ (eQ k) 1 aN (aA (aB 0) aE)) aE)) (a7 3) (fX (eZ kO (aA (aP (QX k.aO (iA k)) (aA (aB 0) aE)) aE)) (a7 4) (aI (aT (aD a9 (aD a9 (aD a9 (aB 2) (eC (.int 4))) (aB 3)) (aB 4)) (bY 2 (aK (a7 5) (aK (a7 6) bW))))
 (dN (iD (bH (aD gA (aB 5) (eC (.str ("waits" : Str))))) (bH (aD MZ (aJ (oG k) 4 aN (aA (aB 0) (aA (aB 2) (aA (aB 3) (aA (aB 4) aE))))) (aJ (oG k) 4 aN (aA (aB 0) (aA (aB 1) (aA (aB 3) (aA (aB 4) aE)))))))) (aI (aT (aP max2 (aA (aB 6) (aA (aJ (pL k) 4 aN (aA (aB 0) (aA (aB 2) (aA (aB 3) (aA (aB 4) aE))))) aE))) (a7 6))
 (aI (aT (aJ (nW k) 3 aN (aA (aD a9 (aD a9 (aB 2) (eC (.int 4))) (aB 3)) (aA (aB 4) (aA (bQ (aA (aB 5) (aA (aB 6) aE))) aE)))) (a7 7))
 (aT (aJ (nW k) 3 aN (aA (aB 2) (aA (eC (.int 4)) (aA (aJ (nW k) 3 aN (aA (aD a9 (aB 2) (eC (.int 4))) (aA (aB 3) (aA (aB 7) aE)))) aE)))) (a7 2)))) bC))))
 (bE (aB 2)))
def pH (k : bN) : MF := bP (HP k) HB
def aCW : List Str := [("plan" : Str), ("state" : Str), ("house" : Str), ("stands" : Str), ("address" : Str)]
def aDE (k : bN) : MS :=
 (aI (aT (b6 (eZ kO (aA (aJ (eQ k) 1 aN (aA (aB 0) aE)) aE)) [4] (a7 4) cD (bQ (aA (eC (.str ("waits" : Str))) (aA (aJ (pL k) 4 aN (aA (aB 0) (aA (aB 1) (aA (aB 4) (aA (aB 2) aE))))) aE)))) (a7 3))
 (bE (aJ (vX k) 3 aN (aA (aJ (B4 k) 3 aN (aA (aB 1) (aA (aB 2) (aA (eC (.int 1)) aE)))) (aA (aB 2) (aA (aB 3) aE))))))
def aCX (k : bN) : MF := bP (aDE k) aCW
def RY : List Str := [("lacks" : Str), ("sent" : Str), ("fates" : Str), ("found" : Str), ("address" : Str), ("sender" : Str), ("receiver" : Str), ("rank" : Str), ("lost" : Str), ("rows" : Str), ("own" : Str), ("houses" : Str), ("row" : Str), ("many" : Str)]
def S7 (k : bN) : MS :=
 (aI (aT q9 (a7 3))
 (aI (fX (dY (aB 1)) (bY 4 (aK (a7 4) (aK (a7 5) (aK (a7 6) (aK (a7 7) bW))))) (aI (aT (aD gA (dO "dict" getM (aB 2) (aA (bQ (aA (aB 4) (aA (aB 5) (aA (aB 6) aE)))) (aA (eC (.int 1)) aE))) (eC (.int 0))) (a7 8))
 (aT (eIf (cW (aB 8)) (aD bS (aD a9 (aD a9 (aD a9 (aB 0) (aB 4)) (aB 5)) (aB 6)) (eC (.int 1))) (eC (.int 0))) (dR (aB 3) (bQ (aA (aB 4) (aA (aB 5) (aA (aB 6) aE))))))))
 (aI (dN (bH (aD eqE (aB 3) q9)) (bE (aB 0)) bC)
 (aI (aT (eNew aE) (a7 9))
 (aI (fX (eZ GS (aA (aB 0) aE)) (bY 2 (aK (a7 4) (aK (a7 10) bW))) (aI (aT (eNew aE) (a7 11))
 (aI (fX (eZ GS (aA (aB 10) aE)) (bY 2 (aK (a7 5) (aK (a7 12) bW))) (cY (dO "list" dA (aB 11) (aA (aP dZ (aA (b6 (eZ GS (aA (aB 12) aE)) [6, 13] (bY 2 (aK (a7 6) (aK (a7 13) bW))) cD (dO "dict" getM (aB 3) (aA (bQ (aA (aB 4) (aA (aB 5) (aA (aB 6) aE)))) (aA (aB 13) aE)))) aE)) aE))))
 (cY (dO "list" dA (aB 9) (aA (aP dZ (aA (aB 11) aE)) aE))))))
 (bE (aP dZ (aA (aB 9) aE))))))))
def D2 (k : bN) : MF := bP (S7 k) RY
def LR : List Str := [("sent" : Str), ("fates" : Str), ("found" : Str), ("address" : Str), ("sender" : Str), ("receiver" : Str), ("rank" : Str), ("fate" : Str)]
def K9 (k : bN) : MS :=
 (aI (aT (eNew aE) (a7 2))
 (aI (fX (dY (aB 0)) (bY 4 (aK (a7 3) (aK (a7 4) (aK (a7 5) (aK (a7 6) bW))))) (aI (aT (dO "dict" getM (aB 1) (aA (bQ (aA (aB 3) (aA (aB 4) (aA (aB 5) aE)))) (aA (eC (.int 1)) aE))) (a7 7))
 (dN (bH (aD MZ (aB 7) (eC (.int 0)))) (cY (dO "list" dA (aB 2) (aA (bQ (aA (aB 7) (aA (aB 3) (aA (aB 4) (aA (aB 5) (aA (aB 6) aE)))))) aE))) bC)))
 (bE (aP dZ (aA (aB 2) aE)))))
def yB (k : bN) : MF := bP (K9 k) LR
def GA : List Str := [("plan" : Str), ("state" : Str), ("house" : Str), ("living" : Str), ("parts" : Str), ("found" : Str), ("receiver" : Str), ("part" : Str)]
def FP (k : bN) : MS :=
 (aI (YT 3 4 (aA (aD a9 (aB 1) (eC (.int 0))) (aA (aD a9 (aB 1) (eC (.int 1))) aE)))
 (aI (aT (eNew aE) (a7 5))
 (aI (fX (eZ GS (aA (aB 4) aE)) (bY 2 (aK (a7 6) (aK (a7 7) bW))) (dN (iD (bH (aD sL (aB 6) (aB 2))) (iD (bH (aD gA (aB 7) (aD a9 (aB 4) (aB 2)))) (eV (bH (aD geM (aB 6) (aP (QX k.aO (iA k)) (aA (aB 0) aE)))) (bH (aD gA (aD a9 (aB 3) (aB 6)) (eC (.int 1))))))) (cY (dO "list" dA (aB 5) (aA (aB 6) aE))) bC))
 (bE (aP dZ (aA (aB 5) aE))))))
def uZ (k : bN) : MF := bP (FP k) GA
def D9 : List Str := [("plan" : Str), ("state" : Str), ("address" : Str), ("house" : Str), ("rank" : Str), ("fates" : Str), ("sent" : Str), ("letters" : Str), ("receiver" : Str)]
def DY (k : bN) : MS :=
 (aI (aT (b6 (dY (aJ (uZ k) 3 aN (aA (aB 0) (aA (aB 1) (aA (aB 3) aE))))) [8] (a7 8) cD (bQ (aA (aB 2) (aA (aB 3) (aA (aB 8) (aA (aB 4) aE)))))) (a7 6))
 (aI (aT (aD bS (aD a9 (aB 1) (eC (.int 5))) (aJ (yB k) 2 aN (aA (aB 6) (aA (aB 5) aE)))) (a7 7))
 (bE (aD bS (aD bS (m9 iZ (aB 1) cV (cK (eC (.int 5)))) (bQ (aA (aB 7) (aA (aJ (D2 k) 3 aN (aA (aD a9 (aB 1) (eC (.int 6))) (aA (aB 6) (aA (aB 5) aE)))) aE)))) (m9 iZ (aB 1) (cK (aD bS (eC (.int 6)) (eC (.int 1)))) cV)))))
def DR (k : bN) : MF := bP (DY k) D9
def YA : List Str := [("plan" : Str), ("state" : Str), ("house" : Str), ("fates" : Str), ("address" : Str), ("row" : Str)]
def XW (k : bN) : MS :=
 (aI (fX (eZ GS (aA (aD a9 (aB 1) (eC (.int 4))) aE)) (bY 2 (aK (a7 4) (aK (a7 5) bW))) (dN (bH (aD gA (aD a9 (aD a9 (aB 5) (aB 2)) (eC (.int 0))) (eC (.str ("serves" : Str))))) (aT (aJ (DR k) 6 aN (aA (aB 0) (aA (aB 1) (aA (aB 4) (aA (aB 2) (aA (eC (.int 0)) (aA (aB 3) aE))))))) (a7 1)) bC))
 (bE (aJ (OH k) 3 aN (aA (aB 0) (aA (aB 1) (aA (aB 2) aE))))))
def XY (k : bN) : MF := bP (XW k) YA
def OU : List Str := [("plan" : Str), ("state" : Str), ("houses" : Str), ("hosts" : Str), ("there" : Str), ("host" : Str), ("place" : Str)]
def NR (k : bN) : MS :=
 (aI (aT (aD bS (aB 2) (aP dZ (aA (b6 (dY (aB 3)) [5] (a7 5) cD (aD bS (aP (QX k.aO (iA k)) (aA (aB 0) aE)) (aB 5))) aE))) (a7 4))
 (bE (aJ (nW k) 3 aN (aA (aB 1) (aA (eC (.int 1)) (aA (aP dZ (aA (b6 (eZ kO (aA (aP c5 (aA (aD a9 (aB 1) (eC (.int 1))) aE)) aE)) [6] (a7 6) cD (aP x7 (aA (aD YG (aB 6) (aB 4)) aE))) aE)) aE))))))
def CO (k : bN) : MF := bP (NR k) OU
def NM : List Str := [("plan" : Str), ("state" : Str), ("deed" : Str), ("fates" : Str), ("word" : Str), ("rest" : Str), ("downs" : Str), ("address" : Str), ("house" : Str), ("rank" : Str), ("ranks" : Str), ("tie" : Str)]
def QE (k : bN) : MS :=
 (aI (aT (aB 2) (VY 1 (aK (a7 4) (aK (a7 5) bW))))
 (aI (dN (bH (aD gA (aB 4) (eC (.str ("fall" : Str))))) (bE (aJ (OH k) 3 aN (aA (aB 0) (aA (aB 1) (aA (aD a9 (aB 5) (eC (.int 0))) aE))))) bC)
 (aI (dN (bH (aD gA (aB 4) (eC (.str ("stop" : Str))))) (bE (aJ (XY k) 4 aN (aA (aB 0) (aA (aB 1) (aA (aD a9 (aB 5) (eC (.int 0))) (aA (aB 3) aE)))))) bC)
 (aI (dN (bH (aD gA (aB 4) (eC (.str ("rise" : Str))))) (bE (aJ (aCX k) 3 aN (aA (aB 0) (aA (aB 1) (aA (aD a9 (aB 5) (eC (.int 0))) aE))))) bC)
 (aI (dN (bH (aD gA (aB 4) (eC (.str ("down" : Str))))) (bE (aJ (pH k) 3 aN (aA (aB 0) (aA (aB 1) (aA (aJ (nW k) 3 aN (aA (aB 1) (aA (eC (.int 2)) (aA (aP dZ (aA (aP aCo (aA (aD bS (aD a9 (aB 1) (eC (.int 2))) (bQ (aA (aD a9 (aB 5) (eC (.int 0))) aE))) aE)) aE)) aE)))) aE))))) bC)
 (aI (dN (bH (aD gA (aB 4) (eC (.str ("up" : Str))))) (aI (aT (aP dZ (aA (b6 (dY (aD a9 (aB 1) (eC (.int 2)))) [11] (a7 11) (bH (aD sL (aB 11) (aD a9 (aB 5) (eC (.int 0))))) (aB 11)) aE)) (a7 6))
 (bE (aJ (pH k) 3 aN (aA (aB 0) (aA (aB 1) (aA (aJ (nW k) 3 aN (aA (aB 1) (aA (eC (.int 2)) (aA (aB 6) aE)))) aE)))))) bC)
 (aI (dN (bH (aD gA (aB 4) (eC (.str ("rank" : Str))))) (aI (aT (aB 5) (aEt 3 (aK (a7 7) (aK (a7 8) (aK (a7 9) bW)))))
 (aI (aT (aJ (nW k) 3 aN (aA (aD a9 (aB 1) (eC (.int 3))) (aA (aB 7) (aA (aJ (nW k) 3 aN (aA (aD a9 (aD a9 (aB 1) (eC (.int 3))) (aB 7)) (aA (aB 8) (aA (aB 9) aE)))) aE)))) (a7 10))
 (bE (aJ (pH k) 3 aN (aA (aB 0) (aA (aB 1) (aA (aJ (nW k) 3 aN (aA (aB 1) (aA (eC (.int 3)) (aA (aB 10) aE)))) aE))))))) bC)
 (aI (dN (bH (aD gA (aB 4) (eC (.str ("tear" : Str))))) (bE (aJ (CO k) 4 aN (aA (aB 0) (aA (aB 1) (aA (aD a9 (aB 5) (eC (.int 0))) (aA (aD a9 (aB 5) (eC (.int 1))) aE)))))) bC)
 (aI (dN (bH (aD gA (aB 4) (eC (.str ("heal" : Str))))) (bE (aJ (CO k) 4 aN (aA (aB 0) (aA (aB 1) (aA (bQ aE) (aA (bQ aE) aE)))))) bC)
 (bE (aJ (R5 k) 4 aN (aA (aB 0) (aA (aB 1) (aA (aD a9 (aB 5) (eC (.int 0))) (aA (aD a9 (aB 5) (eC (.int 1))) aE)))))))))))))))
def NT (k : bN) : MF := bP (QE k) NM
def S4 : List Str := [("thing" : Str), ("many" : Str), ("one" : Str), ("other" : Str)]
def TK (k : bN) : MS :=
 (aI (dN (eV (bU (cW (aP (gF gL) (aA (aB 0) (aA (eC (.ty "tuple")) aE))))) (bU (cW (aP allM (aA (b6 (dY (aB 0)) [2] (a7 2) cD (aJ (bM k) 3 aN (aA (aB 2) (aA (eC (.int 0)) (aA (aD kH (aB 1) (eC (.int 1))) aE))))) aE))))) (bE (eC (.bl false))) bC)
 (bE (aP allM (aA (b6 (eZ zsM (aA (m9 iZ (aB 0) cV (cK (yX vK (eC (.int 1))))) (aA (m9 iZ (aB 0) (cK (eC (.int 1))) cV) aE))) [2, 3] (bY 2 (aK (a7 2) (aK (a7 3) bW))) cD (aD RN (aB 2) (aB 3))) aE))))
def EH (k : bN) : MF := bP (TK k) S4
def SW : List Str := [("plan" : Str), ("state" : Str), ("houses" : Str), ("hosts" : Str)]
def TJ (k : bN) : MS :=
 (aI (dN (eV (cW (aP anyM (aA (aD a9 (aB 1) (eC (.int 1))) aE))) (eV (bU (cW (aJ (EH k) 2 aN (aA (aB 2) (aA (aP (QX k.aO (iA k)) (aA (aB 0) aE)) aE))))) (bU (cW (aJ (EH k) 2 aN (aA (aB 3) (aA (cP k.aO ("hosts" : Str) (aB 0)) aE))))))) (bE (eC (.bl false))) bC)
 (bE (UI RN RN (eC (.int 0)) (aP c5 (aA (aB 2) aE)) (aP (QX k.aO (iA k)) (aA (aB 0) aE)))))
def R8 (k : bN) : MF := bP (TJ k) SW
def FQ : List Str := [("plan" : Str), ("address" : Str), ("house" : Str), ("rank" : Str)]
def GH (k : bN) : MS :=
 (aI (dN (eV (bU (cW (aJ (bM k) 3 aN (aA (aB 1) (aA (eC (.int 0)) (aA (aD kH (aJ (eQ k) 1 aN (aA (aB 0) aE)) (eC (.int 1))) aE)))))) (bU (cW (aJ (bM k) 3 aN (aA (aB 2) (aA (eC (.int 0)) (aA (aD kH (aP (QX k.aO (iA k)) (aA (aB 0) aE)) (eC (.int 1))) aE))))))) (bE (eC (.bl false))) bC)
 (bE (aJ (bM k) 3 aN (aA (aB 3) (aA (eC (.int 1)) (aA (eC (.int 12)) aE))))))
def G1 (k : bN) : MF := bP (GH k) FQ
def t9 : List Str := [("plan" : Str), ("thing" : Str), ("house" : Str), ("tie" : Str), ("less" : Str)]
def tX (k : bN) : MS :=
 (bE (jX (aJ (bM k) 3 aN (aA (aB 1) (aA (eC (.int 0)) (aA (eC (.int 9)) aE)))) (aD YG (aB 1) (b6 (dY (cP k.aO ("ties" : Str) (aB 0))) [2, 3, 4] (bY 3 (aK (a7 2) (aK (a7 3) (aK (a7 4) bW)))) cD (aB 3)))))
def oE (k : bN) : MF := bP (tX k) t9
theorem C4 (x0 x1 : D) : begin t9 [x0, x1] = [some x0, some x1, none, none, none] := rfl
def XF : List Str := [("plan" : Str), ("state" : Str), ("thing" : Str), ("word" : Str), ("rest" : Str)]
def W5 (k : bN) (tS : Addr) : MS :=
 (aI (dN (eV (bU (cW (aP (gF gL) (aA (aB 2) (aA (eC (.ty "tuple")) aE))))) (eV (bH (aD gA (aB 2) (bQ aE))) (bU (cW (aP (gF gL) (aA (aD a9 (aB 2) (eC (.int 0))) (aA (eC (.ty "str")) aE))))))) (bE (eC (.bl false))) bC)
 (aI (aT (aB 2) (VY 1 (aK (a7 3) (aK (a7 4) bW))))
 (aI (dN (bH (aD sL (aP c5 (aA (aB 4) aE)) (aGN tS WT (eC (.con tS)) (aA (aB 3) (aA (yX vK (eC (.int 1))) aE))))) (bE (eC (.bl false))) bC)
 (aI (dN (bH (aD YG (aB 3) (bQ (aA (eC (.str ("fall" : Str))) (aA (eC (.str ("stop" : Str))) (aA (eC (.str ("rise" : Str))) aE)))))) (bE (jX (aJ (bM k) 3 aN (aA (aD a9 (aB 4) (eC (.int 0))) (aA (eC (.int 0)) (aA (aD kH (aP (QX k.aO (iA k)) (aA (aB 0) aE)) (eC (.int 1))) aE)))) (aD gA (aD a9 (aD a9 (aB 1) (eC (.int 0))) (aD a9 (aB 4) (eC (.int 0)))) (aP x7 (aA (aD sL (aB 3) (eC (.str ("rise" : Str)))) aE))))) bC)
 (aI (dN (bH (aD YG (aB 3) (bQ (aA (eC (.str ("down" : Str))) (aA (eC (.str ("up" : Str))) aE))))) (bE (jX (aJ (oE k) 2 aN (aA (aB 0) (aA (aD a9 (aB 4) (eC (.int 0))) aE))) (aD gA (aD YG (aD a9 (aB 4) (eC (.int 0))) (aD a9 (aB 1) (eC (.int 2)))) (aD gA (aB 3) (eC (.str ("up" : Str))))))) bC)
 (aI (dN (bH (aD gA (aB 3) (eC (.str ("rank" : Str))))) (bE (aJ (G1 k) 4 aN (aA (aB 0) (aA (aD a9 (aB 4) (eC (.int 0))) (aA (aD a9 (aB 4) (eC (.int 1))) (aA (aD a9 (aB 4) (eC (.int 2))) aE)))))) bC)
 (aI (dN (bH (aD gA (aB 3) (eC (.str ("tear" : Str))))) (bE (aJ (R8 k) 4 aN (aA (aB 0) (aA (aB 1) (aA (aD a9 (aB 4) (eC (.int 0))) (aA (aD a9 (aB 4) (eC (.int 1))) aE)))))) bC)
 (aI (dN (bH (aD gA (aB 3) (eC (.str ("heal" : Str))))) (bE (aP anyM (aA (aD a9 (aB 1) (eC (.int 1))) aE))) bC)
 (bE (jX (aJ (bM k) 3 aN (aA (aD a9 (aB 4) (eC (.int 0))) (aA (eC (.int 0)) (aA (aD kH (cP k.aO ("hosts" : Str) (aB 0)) (eC (.int 1))) aE)))) (aJ (bM k) 3 aN (aA (aD a9 (aB 4) (eC (.int 1))) (aA (eC (.int 0)) (aA (aD kH (aJ (eQ k) 1 aN (aA (aB 0) aE)) (eC (.int 1))) aE))))))))))))))
def XG (k : bN) (tS : Addr) : MF := bP (W5 k tS) XF
end Lb
namespace Lw
open PySem PySem.Spec PyProof.Rows L2 Pc Lb
def RC : List Str := [("_law_model_here" : Str), ("_law_world_here" : Str), ("_law_a" : Str), ("_law_h" : Str), ("_law_down" : Str), ("_law_house" : Str), ("_law_tie" : Str), ("_law_less" : Str)]
def P6 (k : bN) : MS :=
 (aI (aT (aP O0 (aA (b6 (dY (aD a9 (aB 0) (eC (.str ("ties" : Str))))) [5, 6, 7] (bY 3 (aK (a7 5) (aK (a7 6) (aK (a7 7) bW)))) (iD (bH (aD gA (aB 5) (aB 3))) (bH (aD YG (aB 6) (aD a9 (aB 1) (eC (.str ("downs" : Str))))))) (aB 7)) aE)) (a7 4))
 (bE (aP max2 (aA (eC (.int 1)) (aA (aD kH (aD a9 (aD a9 (aD a9 (aB 1) (eC (.str ("ranks" : Str)))) (aB 2)) (aB 3)) (aB 4)) aE)))))
def mC (k : bN) : MF := bP (P6 k) RC
def QO : List Str := [("_law_model_here" : Str), ("_law_rank_here" : Str), ("_law_whole" : Str)]
def QD (k : bN) : MS :=
 (aI (aT (aD bS (aD mulM (aD bS (aD a9 (aB 0) (eC (.str ("bears" : Str)))) (eC (.int 1))) (aD a9 (aB 0) (eC (.str ("every" : Str))))) (aD a9 (aB 0) (eC (.str ("slow" : Str))))) (a7 2))
 (bE (aD bS (aB 2) (aD mulM (aD a9 (aB 0) (eC (.str ("gap" : Str)))) (aD kH (eC (.int 12)) (aB 1))))))
def CM (k : bN) : MF := bP (QD k) QO
def KR : List Str := [("_law_model_here" : Str), ("_law_world_here" : Str), ("_law_a" : Str), ("_law_h" : Str)]
def L6 (k : bN) : MS :=
 (bE (eNew (aA (eC (.str ("waits" : Str))) (aA (aD bS (aJ (CM k) 2 aN (aA (aB 0) (aA (aJ (mC k) 4 aN (aA (aB 0) (aA (aB 1) (aA (aB 2) (aA (aB 3) aE))))) aE))) (aD a9 (aB 0) (eC (.str ("hold" : Str))))) aE))))
def rK (k : bN) : MF := bP (L6 k) KR
def yD : List Str := [("_law_lots" : Str), ("_law_one" : Str)]
def zB (k : bN) : MS :=
 (bE (aP aHm (aA (b6 (dY (aB 0)) [1] (a7 1) cD (bQ (aA (m9 iZ (aB 1) cV (cK (eC (.int 3)))) (aA (aD a9 (aB 1) (eC (.int 3))) aE)))) aE)))
def oZ (k : bN) : MF := bP (zB k) yD
def KC : List Str := [("_law_world_here" : Str), ("_law_host" : Str), ("_law_a" : Str), ("_law_told" : Str), ("_law_many" : Str), ("_law_good" : Str)]
def K1 (k : bN) : MS :=
 (aI (aT (aD a9 (aD a9 (aD a9 (aB 0) (eC (.str ("tables" : Str)))) (aB 1)) (aB 2)) (a7 3))
 (aI (aT (aP c5 (aA (aD a9 (aB 0) (eC (.str ("living" : Str)))) aE)) (a7 4))
 (aI (aT (jX (aD geM (aB 3) (eC (.int 0))) (aD gA (aD a9 (aD a9 (aB 0) (eC (.str ("parts" : Str)))) (aB 3)) (aD a9 (aD a9 (aB 0) (eC (.str ("parts" : Str)))) (aD bS (aB 4) (aB 1))))) (a7 5))
 (aI (aT (jX (aB 5) (aD gA (aD a9 (aD a9 (aD a9 (aD a9 (aB 0) (eC (.str ("stands" : Str)))) (aB 2)) (aB 3)) (eC (.int 0))) (eC (.str ("serves" : Str))))) (a7 5))
 (aT (eNew (aA (aD bS (aD a9 (aD a9 (aD a9 (aB 0) (eC (.str ("asks" : Str)))) (aB 1)) (eC (.int 0))) (eC (.int 1))) (aA (aD bS (aD a9 (aD a9 (aD a9 (aB 0) (eC (.str ("asks" : Str)))) (aB 1)) (eC (.int 1))) (aP x7 (aA (yX notM (aB 5)) aE))) aE))) (dR (aD a9 (aB 0) (eC (.str ("asks" : Str)))) (aB 1)))))))
def L0 (k : bN) : MF := bP (K1 k) KC
def J8 : List Str := [("_law_world_here" : Str), ("_law_h" : Str), ("_law_news" : Str), ("_law_a" : Str), ("_law_row" : Str)]
def K0 (k : bN) : MS :=
 (aI (aT (eC (.int 0)) (dR (aD a9 (aB 0) (eC (.str ("living" : Str)))) (aB 1)))
 (fX (eZ CT (aA (aD a9 (aB 0) (eC (.str ("stands" : Str)))) aE)) (bY 2 (aK (a7 3) (aK (a7 4) bW))) (aI (aT (eNew (aA (eC (.str ("rests" : Str))) (aA (eC (.int 0)) aE))) (dR (aB 4) (aB 1)))
 (cY (dO "list" dA (aB 2) (aA (bQ (aA (aB 3) (aA (aB 1) (aA (eC (.str ("rests" : Str))) aE)))) aE))))))
def MU (k : bN) : MF := bP (K0 k) J8
def OF : List Str := [("_law_world_here" : Str), ("_law_a" : Str), ("_law_s" : Str), ("_law_rank_here" : Str), ("_law_lots" : Str), ("_law_r" : Str), ("_law_fate" : Str)]
def O6 (k : bN) : MS :=
 (fX (eZ kO (aA (aP c5 (aA (aD a9 (aB 0) (eC (.str ("parts" : Str)))) aE)) aE)) (a7 5) (dN (iD (bH (aD sL (aB 5) (aB 2))) (iD (bH (aD gA (aD a9 (aD a9 (aB 0) (eC (.str ("parts" : Str)))) (aB 5)) (aD a9 (aD a9 (aB 0) (eC (.str ("parts" : Str)))) (aB 2)))) (bH (aD sL (m9 iZ (aD a9 (aB 0) (eC (.str ("living" : Str)))) (cK (aB 5)) (cK (aD bS (aB 5) (eC (.int 1))))) (eI (aA (eC (.int 0)) aE)))))) (aI (aT (dO "dict" getM (aB 4) (aA (bQ (aA (aB 1) (aA (aB 2) (aA (aB 5) aE)))) (aA (eC (.int 1)) aE))) (a7 6))
 (aI (aT (eIf (bH (aD gA (aB 6) (eC (.int 0)))) (aD bS (dO "dict" getM (aD a9 (aB 0) (eC (.str ("lacks" : Str)))) (aA (bQ (aA (aB 1) (aA (aB 2) (aA (aB 5) aE)))) (aA (eC (.int 0)) aE))) (eC (.int 1))) (eC (.int 0))) (dR (aD a9 (aB 0) (eC (.str ("lacks" : Str)))) (bQ (aA (aB 1) (aA (aB 2) (aA (aB 5) aE))))))
 (aI (cY (dO "list" dA (aD a9 (aB 0) (eC (.str ("sent" : Str)))) (aA (bQ (aA (aB 1) (aA (aB 2) (aA (aB 5) aE)))) aE)))
 (dN (bH (aD MZ (aB 6) (eC (.int 0)))) (cY (dO "list" dA (aD a9 (aB 0) (eC (.str ("under" : Str)))) (aA (bQ (aA (aB 6) (aA (aB 1) (aA (aB 2) (aA (aB 5) (aA (aB 3) aE)))))) aE))) bC)))) bC))
def BQ (k : bN) : MF := bP (O6 k) OF
def H0 : List Str := [("_law_model_here" : Str), ("_law_world_here" : Str), ("_law_deed_here" : Str), ("_law_word" : Str), ("_law_rest" : Str), ("_law_many" : Str), ("_law_old" : Str), ("_law_a" : Str), ("_law_row" : Str), ("_law_h" : Str), ("_law_stand" : Str), ("_law_tie" : Str)]
def HU (k : bN) : MS :=
 (aI (aT (bQ (aA (aD a9 (aB 2) (eC (.int 0))) (aA (m9 iZ (aB 2) (cK (eC (.int 1))) cV) aE))) (bY 2 (aK (a7 3) (aK (a7 4) bW))))
 (aI (aT (aP c5 (aA (aD a9 (aB 1) (eC (.str ("living" : Str)))) aE)) (a7 5))
 (aI (aT (b6 (eZ kO (aA (aP c5 (aA (aD a9 (aB 0) (eC (.str ("ranks" : Str)))) aE)) aE)) [7] (a7 7) cD (b6 (eZ kO (aA (aB 5) aE)) [9] (a7 9) cD (aJ (mC k) 4 aN (aA (aB 0) (aA (aB 1) (aA (aB 7) (aA (aB 9) aE))))))) (a7 6))
 (aI (dN (bH (aD gA (aB 3) (eC (.str ("down" : Str))))) (cY (dO "list" dA (aD a9 (aB 1) (eC (.str ("downs" : Str)))) (aA (aD a9 (aB 4) (eC (.int 0))) aE))) bC)
 (aI (dN (bH (aD gA (aB 3) (eC (.str ("up" : Str))))) (aT (R4 (dY (aD a9 (aB 1) (eC (.str ("downs" : Str))))) [11] (a7 11) (bH (aD sL (aB 11) (aD a9 (aB 4) (eC (.int 0))))) (aB 11)) (dR (aB 1) (eC (.str ("downs" : Str))))) bC)
 (aI (dN (bH (aD gA (aB 3) (eC (.str ("rank" : Str))))) (aT (aD a9 (aB 4) (eC (.int 2))) (dR (aD a9 (aD a9 (aB 1) (eC (.str ("ranks" : Str)))) (aD a9 (aB 4) (eC (.int 0)))) (aD a9 (aB 4) (eC (.int 1))))) bC)
 (fX (eZ CT (aA (aD a9 (aB 1) (eC (.str ("stands" : Str)))) aE)) (bY 2 (aK (a7 7) (aK (a7 8) bW))) (fX (eZ CT (aA (aB 8) aE)) (bY 2 (aK (a7 9) (aK (a7 10) bW))) (dN (iD (bH (aD gA (aD a9 (aB 10) (eC (.int 0))) (eC (.str ("waits" : Str))))) (bH (aD MZ (aJ (mC k) 4 aN (aA (aB 0) (aA (aB 1) (aA (aB 7) (aA (aB 9) aE))))) (aD a9 (aD a9 (aB 6) (aB 7)) (aB 9))))) (aT (aP max2 (aA (aD a9 (aB 10) (eC (.int 1))) (aA (aD a9 (aJ (rK k) 4 aN (aA (aB 0) (aA (aB 1) (aA (aB 7) (aA (aB 9) aE))))) (eC (.int 1))) aE))) (dR (aB 10) (eC (.int 1)))) bC)))))))))
def HJ (k : bN) : MF := bP (HU k) H0
def NU : List Str := [("_law_model_here" : Str), ("_law_world_here" : Str), ("_law_deed_here" : Str), ("_law_lots" : Str), ("_law_news" : Str), ("_law_word" : Str), ("_law_rest" : Str), ("_law_a" : Str), ("_law_row" : Str), ("_law_many" : Str), ("_law_there" : Str), ("_law_host" : Str), ("_law_k" : Str)]
def M8 (k : bN) : MS :=
 (aI (YT 5 6 (aA (aD a9 (aB 2) (eC (.int 0))) (aA (m9 iZ (aB 2) (cK (eC (.int 1))) cV) aE)))
 (aI (dN (bH (aD gA (aB 5) (eC (.str ("stop" : Str))))) (fX (eZ CT (aA (aD a9 (aB 1) (eC (.str ("stands" : Str)))) aE)) (bY 2 (aK (a7 7) (aK (a7 8) bW))) (dN (bH (aD gA (aD a9 (aD a9 (aB 8) (aD a9 (aB 6) (eC (.int 0)))) (eC (.int 0))) (eC (.str ("serves" : Str))))) (cY (aJ (BQ k) 5 aN (aA (aB 1) (aA (aB 7) (aA (aD a9 (aB 6) (eC (.int 0))) (aA (eC (.int 0)) (aA (aB 3) aE))))))) bC)) bC)
 (aI (dN (bH (aD YG (aB 5) (bQ (aA (eC (.str ("stop" : Str))) (aA (eC (.str ("fall" : Str))) aE))))) (cY (aJ (MU k) 3 aN (aA (aB 1) (aA (aD a9 (aB 6) (eC (.int 0))) (aA (aB 4) aE))))) bC)
 (aI (dN (bH (aD gA (aB 5) (eC (.str ("rise" : Str))))) (aI (aT (eC (.int 1)) (dR (aD a9 (aB 1) (eC (.str ("living" : Str)))) (aD a9 (aB 6) (eC (.int 0)))))
 (fX (eZ CT (aA (aD a9 (aB 1) (eC (.str ("stands" : Str)))) aE)) (bY 2 (aK (a7 7) (aK (a7 8) bW))) (aT (aJ (rK k) 4 aN (aA (aB 0) (aA (aB 1) (aA (aB 7) (aA (aD a9 (aB 6) (eC (.int 0))) aE))))) (dR (aB 8) (aD a9 (aB 6) (eC (.int 0))))))) bC)
 (aI (dN (bH (aD YG (aB 5) (bQ (aA (eC (.str ("down" : Str))) (aA (eC (.str ("up" : Str))) (aA (eC (.str ("rank" : Str))) aE)))))) (cY (aJ (HJ k) 3 aN (aA (aB 0) (aA (aB 1) (aA (aB 2) aE))))) bC)
 (aI (dN (bH (aD YG (aB 5) (bQ (aA (eC (.str ("tear" : Str))) (aA (eC (.str ("heal" : Str))) aE))))) (aI (aT (aP c5 (aA (aD a9 (aB 1) (eC (.str ("living" : Str)))) aE)) (a7 9))
 (aI (aT (eIf (bH (aD gA (aB 5) (eC (.str ("tear" : Str))))) (aD bS (aP IM (aA (aD a9 (aB 6) (eC (.int 0))) aE)) (b6 (dY (aD a9 (aB 6) (eC (.int 1)))) [11] (a7 11) cD (aD bS (aB 9) (aB 11)))) (eI aE)) (a7 10))
 (aT (R4 (eZ kO (aA (aP c5 (aA (aD a9 (aB 1) (eC (.str ("parts" : Str)))) aE)) aE)) [12] (a7 12) cD (aP x7 (aA (aD YG (aB 12) (aB 10)) aE))) (dR (aB 1) (eC (.str ("parts" : Str))))))) bC)
 (dN (bH (aD gA (aB 5) (eC (.str ("ask" : Str))))) (cY (aJ (L0 k) 3 aN (aA (aB 1) (aA (aD a9 (aB 6) (eC (.int 0))) (aA (aD a9 (aB 6) (eC (.int 1))) aE))))) bC)))))))
def RA (k : bN) : MF := bP (M8 k) NU
def L9 : List Str := [("_law_model_here" : Str), ("_law_world_here" : Str), ("_law_many" : Str), ("_law_receivers" : Str), ("_law_lacks" : Str), ("_law_a" : Str), ("_law_rows" : Str), ("_law_stands" : Str), ("_law_ranks" : Str), ("_law_tables" : Str), ("_law_asks" : Str), ("_law_parts" : Str), ("_law_downs" : Str), ("_law_s" : Str), ("_law_r" : Str), ("_law_row" : Str), ("_law_stand" : Str)]
def MR (k : bN) : MS :=
 (aI (aT (bQ (aA (aP c5 (aA (aD a9 (aB 1) (eC (.str ("living" : Str)))) aE)) (aA (aP c5 (aA (aD a9 (aB 1) (eC (.str ("parts" : Str)))) aE)) aE))) (bY 2 (aK (a7 2) (aK (a7 3) bW))))
 (aI (aT (eNew aE) (a7 4))
 (aI (fX (eZ kO (aA (aP c5 (aA (aD a9 (aB 0) (eC (.str ("ranks" : Str)))) aE)) aE)) (a7 5) (aI (aT (b6 (eZ kO (aA (aB 2) aE)) [13] (a7 13) cD (aP dZ (aA (b6 (eZ kO (aA (aB 3) aE)) [14] (a7 14) cD (dO "dict" getM (aD a9 (aB 1) (eC (.str ("lacks" : Str)))) (aA (bQ (aA (aB 5) (aA (aB 13) (aA (aB 14) aE)))) (aA (eC (.int 0)) aE)))) aE))) (a7 6))
 (cY (dO "list" dA (aB 4) (aA (aP dZ (aA (aB 6) aE)) aE)))))
 (aI (aT (aP dZ (aA (b6 (dY (aD a9 (aB 1) (eC (.str ("stands" : Str))))) [15] (a7 15) cD (aP dZ (aA (b6 (dY (aB 15)) [16] (a7 16) cD (aP dZ (aA (aB 16) aE))) aE))) aE)) (a7 7))
 (aI (aT (aP dZ (aA (b6 (dY (aD a9 (aB 1) (eC (.str ("ranks" : Str))))) [15] (a7 15) cD (aP dZ (aA (aB 15) aE))) aE)) (a7 8))
 (aI (YT 9 10 (aA (aP dZ (aA (b6 (dY (aD a9 (aB 1) (eC (.str ("tables" : Str))))) [15] (a7 15) cD (aP dZ (aA (aB 15) aE))) aE)) (aA (aP dZ (aA (b6 (dY (aD a9 (aB 1) (eC (.str ("asks" : Str))))) [15] (a7 15) cD (aP dZ (aA (aB 15) aE))) aE)) aE)))
 (aI (YT 11 12 (aA (aP dZ (aA (aD a9 (aB 1) (eC (.str ("parts" : Str)))) aE)) (aA (aP dZ (aA (aP lO (aA (aD a9 (aB 1) (eC (.str ("downs" : Str)))) aE)) aE)) aE)))
 (bE (bQ (aA (aP dZ (aA (aD a9 (aB 1) (eC (.str ("living" : Str)))) aE)) (aA (aB 11) (aA (aB 12) (aA (aB 8) (aA (aB 7) (aA (aP dZ (aA (aD a9 (aB 1) (eC (.str ("under" : Str)))) aE)) (aA (aP dZ (aA (aB 4) aE)) (aA (aB 9) (aA (aB 10) aE))))))))))))))))))
def yA (k : bN) : MF := bP (MR k) L9
end Lw
namespace Lb
open PySem PySem.Spec PyProof.Rows L2 Pc
section
variable {w : W} {P : D → W → Prop} {PS : Sg → W → Prop} {PI : l9 → W → Prop} {σ : Sg} {k : bN} {p h : Nat} {m : Mo} {b : Int} {s : gW}
def aAw (m : Mo) (s : gW) (h : Int) : Int := ((m.xH.filter fun t => (t.1 == h) && decide (t.2.1 ∈ s.downs)).map fun t => t.2.2).sum
def aGp (s : gW) (a h : Nat) : Int := ((s.c8[a]?).getD []).getD h 0
def vO (m : Mo) (s : gW) (a h : Nat) : Int := if aGp s a h - aAw m s h > 1 then aGp s a h - aAw m s h else 1
def GB (m : Mo) (b : Int) (s : gW) (a h : Nat) : Int := PR m b (vO m s a h) + m.hold
end
def aAI (s : gW) (c a : Nat) : Int := ((s.tables[c]?).getD []).getD a (-1)
def DJ (s : gW) (a h : Nat) : Role × Int := ((s.cE[a]?).getD []).getD h (.rests, 0)
def AQ (s : gW) (i : Nat) : Int := s.parts.getD i 0
def XA (h : Nat) (s : gW) (c a : Nat) : Bool := if aAI s c a < 0 then false else AQ s (aAI s c a).toNat == AQ s (h + c) && decide ((DJ s a (aAI s c a).toNat).1 = .xT)
def aGv (h : Nat) (s : gW) (c a : Nat) : gW := { s with asks := s.asks.set c ((s.asks.getD c (0, 0)).1 + 1, (s.asks.getD c (0, 0)).2 + if XA h s c a = true then 0 else 1) }
def aAF (h : Nat) (s : gW) (hs cs : List Int) : gW := { s with parts := (List.range s.parts.length).map fun i : Nat => if (i : Int) ∈ hs ++ cs.map fun c => (h : Int) + c then 1 else 0 }
section
variable {w : W} {P : D → W → Prop} {σ : Sg} {k : bN} {p h : Nat} {m : Mo} {b : Int} {s : gW}
theorem aFT {q : Bool} : T (x7 [.bl q] w) P = P (.int (if q = true then 1 else 0)) w := by
 have : x7 [.bl q] w = .ok (.int (if q = true then 1 else 0)) w := by cases q <;> rfl
 rw [this, bV]
end
section
variable {α : Type}
def aEn (f : Nat → Nat → α → α) (rows : List (List α)) : List (List α) := rows.mapIdx fun a row => row.mapIdx fun c q => f a c q
end
def upQ (m : Mo) (b : Int) (ahead s : gW) (a c : Nat) (q : Role × Int) : Role × Int := if q.1 = .CW ∧ vO m ahead a c < vO m s a c then (.CW, if GB m b s a c > q.2 then GB m b s a c else q.2) else q
def reS (m : Mo) (b : Int) (ahead s : gW) : gW := { s with cE := aEn (upQ m b ahead s) s.cE }
inductive aA8 where
 | HI | stop | rise | down | up | rank | E7 | FU | ask
deriving DecidableEq
def aA8.s : aA8 → Str
 | .HI => "fall" | .stop => "stop" | .rise => "rise" | .down => "down" | .up => "up" | .rank => "rank" | .E7 => "tear" | .FU => "heal" | .ask => "ask"
inductive mT where
 | down (t : Int) | up (t : Int) | rank (a c : Nat) (r : Int) | E7 (hs cs : List Int) | FU | ask (c a : Nat)
 | HI (c : Nat) | stop (c : Nat) | rise (c : Nat)
def mT.word : mT → aA8
 | .down _ => .down | .up _ => .up | .rank .. => .rank | .E7 .. => .E7 | .FU => .FU | .ask .. => .ask | .HI _ => .HI | .stop _ => .stop | .rise _ => .rise
def mT.args : mT → List D
 | .down t => [.int t] | .up t => [.int t] | .rank a c r => [.int (a : Nat), .int (c : Nat), .int r] | .E7 hs cs => [C5 hs, C5 cs] | .FU => [] | .ask c a => [.int (c : Nat), .int (a : Nat)]
 | .HI c => [.int (c : Nat)] | .stop c => [.int (c : Nat)] | .rise c => [.int (c : Nat)]
def sortI (ns : List Int) : List Int := ns.mergeSort leI
def U5 (s : gW) (a c : Nat) (r : Int) : gW := { s with c8 := s.c8.set a (((s.c8[a]?).getD []).set c r) }
def doS (m : Mo) (b : Int) (h : Nat) (s : gW) : mT → gW
 | .down t => reS m b s { s with downs := sortI (s.downs ++ [t]) }
 | .up t => reS m b s { s with downs := s.downs.filter fun x => !(x == t) }
 | .rank a c r => reS m b s (U5 s a c r)
 | .E7 hs cs => aAF h s hs cs
 | .FU => aAF h s [] []
 | .ask c a => aGv h s c a
 | _ => s
section
variable {w : W} {P : D → W → Prop} {σ : Sg} {k : bN} {p h : Nat} {m : Mo} {b : Int} {s : gW}
def aEB (m : Mo) (h : Nat) : mT → Prop
 | .down _ => True
 | .up _ => True
 | .rank a c _ => a < m.c8.length ∧ c < h
 | .E7 hs cs => hs.length ≤ 100 ∧ cs.length ≤ 100
 | .FU => True
 | .ask c a => (c : Int) < m.mX ∧ a < m.c8.length
 | _ => False
end
section
variable {w : W} {P : D → W → Prop} {PL : List (List Key × D) → W → Prop} {σ : Sg} {k : bN} {tS : Addr} {p h : Nat} {m : Mo} {b : Int} {s : gW}
def aA8.size : aA8 → Int
 | .rank => 3
 | .E7 => 2
 | .FU => 0
 | .ask => 2
 | _ => 1
def Y8 (n : Int) (xs : List Int) : Prop := (∀ x ∈ xs, 0 ≤ x ∧ x ≤ n - 1) ∧ xs.Pairwise (· < ·)
def Fits (m : Mo) (h : Nat) : mT → Prop
 | .down t => (0 ≤ t ∧ t ≤ 9) ∧ t ∈ m.xH.map fun t => t.2.1
 | .up t => (0 ≤ t ∧ t ≤ 9) ∧ t ∈ m.xH.map fun t => t.2.1
 | .rank a c r => a < m.c8.length ∧ c < h ∧ 1 ≤ r ∧ r ≤ 12
 | .E7 hs cs => (Y8 h hs ∧ Y8 m.mX cs) ∧ (hs.length ≤ 100 ∧ cs.length ≤ 100) ∧ 0 < hs.length ∧ hs.length < h
 | .FU => True
 | .ask c a => (c : Int) < m.mX ∧ a < m.c8.length
 | .HI c => c < h
 | .stop c => c < h
 | .rise c => c < h
end
end Lb
namespace Lw
open PySem PySem.Spec PyProof.Rows L2 Pc Lb
inductive pV where
 | dict | living | parts | downs | under | tA | c8 | cE | tables | asks | uM
 | aAX (a : Nat) | SR (a : Nat) | P5 (a c : Nat) | aAf (c : Nat) | ask (c : Nat)
deriving DecidableEq
abbrev xV := pV → Nat
abbrev Con := pV → Option MO
def nS {α : Type} (f : pV → α) (l : pV) (x : α) : pV → α := fun q => if q = l then x else f q
theorem oK {α : Type} {f : pV → α} {l : pV} {x : α} : nS f l x l = x := if_pos rfl
theorem fT {α : Type} {f : pV → α} {l q : pV} {x : α} (h : q ≠ l) : nS f l x q = f q := if_neg h
def onS (S : pV → Bool) (C : Con) : Con := fun l => if S l then C l else none
def qM (n : Nat) (w : W) (A : xV) (C : Con) : Prop := ∀ l o, C l = some o → n ≤ A l ∧ w[A l]? = some o ∧ ∀ l' o', C l' = some o' → A l' = A l → l' = l
section
variable {n : Nat} {w w' : W} {A A' : xV} {C C' : Con} {l : pV} {o : MO}
theorem qM.get (h : qM n w A C) (e : C l = some o) : w[A l]? = some o := (h l o e).2.1
theorem qM.lt (h : qM n w A C) (e : C l = some o) : A l < w.length := (ai.mp (h.get e)).1
theorem qM.keep (h : qM n w A C) (hk : ∀ i, n ≤ i → i < w.length → w'[i]? = w[i]?) : qM n w' A C := fun l o e =>
 ⟨(h l o e).1, by rw [hk _ (h l o e).1 (h.lt e)]; exact h.get e, (h l o e).2.2⟩
theorem qM.grow (h : qM n w A C) (h2 : 2 ≤ n) (g : pY w w' 1 0) : qM n w' A C := h.keep fun i hi hl => g.at_ i hl (by omega) (by omega)
theorem qM.app (h : qM n w A C) (u : W) : qM n (w ++ u) A C := h.keep fun i _ hl => av hl
theorem qM.set (h : qM n w A C) (e : C l = some o) (o1 : MO) : qM n (w.set (A l) o1) A (nS C l (some o1)) := fun q u eq => by
 have inj : ∀ l' o', nS C l (some o1) l' = some o' → ∃ o2, C l' = some o2 := fun l' o' e' => by
  by_cases c : l' = l
  ·subst c; exact ⟨o, e⟩
  ·rw [fT c] at e'; exact ⟨o', e'⟩
 obtain ⟨u2, e2⟩ := inj q u eq
 refine ⟨(h q u2 e2).1, ?_, fun l' o' e' ea => ?_⟩
 ·by_cases c : q = l
  ·subst c
   rw [oK] at eq
   cases eq
   rw [bf (h.lt e)]
  ·rw [fT c] at eq
   rw [az (fun x => c ((h l o e).2.2 q u2 e2 x.symm))]
   exact h.get eq
 ·obtain ⟨o3, e3⟩ := inj l' o' e'
  exact (h q u2 e2).2.2 l' o3 e3 ea
theorem qM.new (h : qM n w A C) (hk : ∀ i, n ≤ i → i < w.length → w'[i]? = w[i]?) {r : Nat} (h1 : w.length ≤ r) (h0 : n ≤ w.length) (e : w'[r]? = some o) (l : pV) : qM n w' (nS A l r) (nS C l (some o)) := fun q u eq => by
 by_cases c : q = l
 ·subst c
  rw [oK] at eq ⊢
  cases eq
  refine ⟨de h0 h1, e, fun l' o' e' ea => ?_⟩
  by_cases c' : l' = q
  ·exact c'
  ·rw [fT c'] at e' ea
   have := h.lt e'
   omega
 ·rw [fT c] at eq ⊢
  refine ⟨(h q u eq).1, by rw [hk _ (h q u eq).1 (h.lt eq)]; exact h.get eq, fun l' o' e' ea => ?_⟩
  by_cases c' : l' = l
  ·subst c'
   rw [oK] at ea
   have := h.lt eq
   omega
  ·rw [fT c'] at e' ea
   exact (h q u eq).2.2 l' o' e' ea
theorem qM.add (h : qM n w A C) (h0 : n ≤ w.length) (l : pV) (o : MO) : qM n (w ++ [o]) (nS A l w.length) (nS C l (some o)) :=
 h.new (fun i _ hl => av hl) (bx _) h0 (by rw [bp (bx _)]; simp) l
theorem qM.sub (h : qM n w A C) (hs : ∀ l o, C' l = some o → C l = some o ∧ A' l = A l) : qM n w A' C' := fun l o e => by
 obtain ⟨e1, e2⟩ := hs l o e
 rw [e2]
 refine ⟨(h l o e1).1, h.get e1, fun l' o' e' ea => ?_⟩
 obtain ⟨e3, e4⟩ := hs l' o' e'
 rw [e4] at ea
 exact (h l o e1).2.2 l' o' e3 ea
theorem qM.nil : qM n w A fun _ => none := fun l o e => nomatch e
end
structure Wx where
 s : gW
 lk : List (List Key × D)
 uM : List D
def OM (A : xV) : List (Key × D) := [(.inr "living", .ref (A .living)), (.inr "parts", .ref (A .parts)), (.inr "downs", .ref (A .downs)), (.inr "under", .ref (A .under)), (.inr "lacks", .ref (A .tA)),
 (.inr "ranks", .ref (A .c8)), (.inr "stands", .ref (A .cE)), (.inr "tables", .ref (A .tables)), (.inr "asks", .ref (A .asks)), (.inr "sent", .ref (A .uM))]
def gC (A : xV) (g : Nat → pV) (k : Nat) : List D := (List.range k).map fun i => .ref (A (g i))
def P4 (xs : List Int) : MO := .lst (xs.map D.int)
def aGQ (q : Role × Int) : MO := .lst [.str q.1.s, .int q.2]
def aIk (q : Int × Int) : MO := .lst [.int q.1, .int q.2]
def cont (A : xV) (x : Wx) : Con
 | .dict => some (.dK (OM A))
 | .living => some (P4 x.s.living)
 | .parts => some (P4 x.s.parts)
 | .downs => some (P4 x.s.downs)
 | .under => some (.lst (x.s.fV.map aD6))
 | .tA => some (.dT x.lk)
 | .c8 => some (.lst (gC A .aAX x.s.c8.length))
 | .cE => some (.lst (gC A .SR x.s.cE.length))
 | .tables => some (.lst (gC A .aAf x.s.tables.length))
 | .asks => some (.lst (gC A .ask x.s.asks.length))
 | .uM => some (.lst x.uM)
 | .aAX a => x.s.c8[a]?.map P4
 | .SR a => x.s.cE[a]?.map fun r => .lst (gC A (.P5 a) r.length)
 | .P5 a c => (x.s.cE[a]?.bind (·[c]?)).map aGQ
 | .aAf c => x.s.tables[c]?.map P4
 | .ask c => x.s.asks[c]?.map aIk
def World (n : Nat) (w : W) (A : xV) (x : Wx) : Prop := qM n w A (cont A x)
section
variable {n : Nat} {w w' : W} {A A' : xV} {x x' : Wx} {P : D → W → Prop} {PU : Unit → W → Prop} {l : pV} {o o1 : MO}
theorem World.set (h : World n w A x) (e : cont A x l = some o) (o1 : MO) (hc : ∀ q, cont A x' q = nS (cont A x) l (some o1) q) : World n (w.set (A l) o1) A x' := by
 unfold World
 rw [funext hc]
 exact qM.set h e o1
theorem W3 {g : Nat → pV} {k i v : Nat} (inj : ∀ i j, g i = g j → i = j) : (gC A g k).set i (.ref v) = gC (nS A (g i) v) g k := by
 refine List.ext_getElem? fun j => ?_
 rw [List.getElem?_set]
 unfold gC
 by_cases c : i = j
 ·subst c
  rw [if_pos rfl]
  by_cases h : i < k
  ·simp [h, oK]
  ·simp [h]
 ·rw [if_neg c]
  simp only [cu]
  cases e : (List.range k)[j]? with
  | none => rfl
  | some y =>
   have : y = j := by
    have := ai.mp e
    obtain ⟨_, h⟩ := this
    rw [List.getElem_range] at h
    exact h.symm
   subst this
   simp only [Option.map_some]
   rw [fT (fun z => c (inj _ _ z).symm)]
theorem aFN {r i : Nat} {xs : List D} {d : D} (h : w[r]? = some (.lst xs)) (hi : i < xs.length) : T (setM (.ref r) (.int (i : Int)) d w) PU = PU () (w.set r (.lst (xs.set i d))) := by
 have e : ixN xs.length (i : Int) = some i := by
  unfold ixN
  simp
  omega
 simp only [setM, h, e, bV]
end
open PySem.W (dataLe)
section
variable {n : Nat} {w w' : W} {A A' : xV} {x x' : Wx} {P : D → W → Prop} {PU : Unit → W → Prop} {l : pV} {o o1 : MO} {k : bN} {i h : Nat} {m : Mo} {b : Int}
def vP (w : W) (i : Nat) (m : Mo) : Prop := w[i]? = some (.dK m.kvs)
end
def lkI (lk : List (List Key × D)) (a s r : Nat) : Int := match kB lk [.inl (a : Int), .inl (s : Int), .inl (r : Int)] with
 | some (.int i) => i
 | _ => 0
def aGA (na nh np : Nat) (lk : List (List Key × D)) : List (List (List Int)) := (List.range na).map fun a => (List.range nh).map fun s => (List.range np).map fun r => lkI lk a s r
def aGn (m : Mo) (h : Nat) (x : Wx) : gW := { x.s with downs := sortI x.s.downs, tA := aGA m.c8.length h x.s.parts.length x.lk }
def aGx (lk : List (List Key × D)) : Prop := ∀ ks d, kB lk ks = some d → ∃ i, d = .int i
section
variable {n : Nat} {w w' : W} {A A' : xV} {x x' : Wx} {P : D → W → Prop} {PU : Unit → W → Prop} {PI : l9 → W → Prop} {l : pV} {o o1 : MO} {k : bN} {i h : Nat} {m : Mo} {b : Int}
theorem World.app (hW : World n w A x) (u : W) : World n (w ++ u) A x := qM.app hW u
end
section
variable {n : Nat} {w w' : W} {A A' : xV} {C : Con} {x x' : Wx} {σ : Sg} {P : D → W → Prop} {PL : List D → W → Prop} {PF : Fl → W → Prop} {PU : Unit → W → Prop} {PI : l9 → W → Prop} {l : pV} {o1 : MO} {k : bN} {i h : Nat} {m : Mo} {b : Int}
theorem qM.bind {S : pV → Bool} (h : qM n w A (onS S (cont A x))) (hS : S .dict = true) (hn : n ≤ w.length) (hl : l ≠ .dict) (hc : cont (nS A l w.length) x' l = some o1)
  (hr : ∀ q, q ≠ .dict → q ≠ l → S q = true → cont (nS A l w.length) x' q = cont A x q) :
  qM n ((w ++ [o1]).set (A .dict) (.dK (OM (nS A l w.length)))) (nS A l w.length) (onS (fun q => S q || q == l) (cont (nS A l w.length) x')) := by
 have h1 := h.add hn l o1
 have e : nS (onS S (cont A x)) l (some o1) .dict = some (.dK (OM A)) := by
  rw [fT hl.symm, onS, hS]
  rfl
 have h3 := h1.set e (.dK (OM (nS A l w.length)))
 rw [fT hl.symm] at h3
 refine h3.sub fun q o e => ⟨?_, rfl⟩
 replace e : (if (S q || q == l) = true then cont (nS A l w.length) x' q else none) = some o := e
 by_cases c : q = .dict
 ·subst c
  rw [oK]
  rw [hS] at e
  exact e
 ·rw [fT c]
  by_cases c2 : q = l
  ·subst c2
   rw [oK]
   simp only [beq_self_eq_true, Bool.or_true, ae] at e
   rw [← hc]
   exact e
  ·rw [fT c2]
   unfold onS
   have c3 : (q == l) = false := by simpa using c2
   rw [c3, Bool.or_false] at e
   cases s : S q with
   | false => rw [s] at e; exact nomatch e
   | true =>
    rw [s] at e
    simp only [ae] at e ⊢
    rw [← hr q c c2 s]
    exact e
end
def pV.top : pV → Bool
 | .living => true | .parts => true | .downs => true | .under => true | .tA => true | .c8 => true | .cE => true | .tables => true | .asks => true | .uM => true
 | _ => false
def dep : pV → pV → Prop
 | .dict, q => q.top = true
 | .c8, q => ∃ a, q = .aAX a
 | .cE, q => ∃ a, q = .SR a
 | .tables, q => ∃ a, q = .aAf a
 | .asks, q => ∃ a, q = .ask a
 | .SR a, q => ∃ c, q = .P5 a c
 | _, _ => False
theorem lU {A A' : xV} {g : Nat → pV} {k : Nat} (h : ∀ i, A (g i) = A' (g i)) : gC A g k = gC A' g k := by
 unfold gC
 exact List.map_congr_left fun i _ => by rw [h i]
theorem UD {A A' : xV} {x : Wx} {l : pV} (h : ∀ q, dep l q → A q = A' q) : cont A x l = cont A' x l := by
 cases l with
 | dict =>
  show some (MO.dK (OM A)) = some (MO.dK (OM A'))
  unfold OM
  rw [h .living rfl, h .parts rfl, h .downs rfl, h .under rfl, h .tA rfl, h .c8 rfl, h .cE rfl, h .tables rfl, h .asks rfl, h .uM rfl]
 | c8 =>
  show some (MO.lst (gC A .aAX x.s.c8.length)) = some (MO.lst (gC A' .aAX x.s.c8.length))
  rw [lU fun i => h _ ⟨i, rfl⟩]
 | cE =>
  show some (MO.lst (gC A .SR x.s.cE.length)) = some (MO.lst (gC A' .SR x.s.cE.length))
  rw [lU fun i => h _ ⟨i, rfl⟩]
 | tables =>
  show some (MO.lst (gC A .aAf x.s.tables.length)) = some (MO.lst (gC A' .aAf x.s.tables.length))
  rw [lU fun i => h _ ⟨i, rfl⟩]
 | asks =>
  show some (MO.lst (gC A .ask x.s.asks.length)) = some (MO.lst (gC A' .ask x.s.asks.length))
  rw [lU fun i => h _ ⟨i, rfl⟩]
 | SR a =>
  show x.s.cE[a]?.map (fun r => MO.lst (gC A (.P5 a) r.length)) = x.s.cE[a]?.map (fun r => MO.lst (gC A' (.P5 a) r.length))
  congr 1
  funext r
  rw [lU fun i => h _ ⟨i, rfl⟩]
 | _ => rfl
section
variable {n : Nat} {w w' w0 : W} {A A' A1 : xV} {C : Con} {x x' : Wx} {σ : Sg} {P : D → W → Prop} {PL : List D → W → Prop} {PF : Fl → W → Prop} {PU : Unit → W → Prop} {PI : l9 → W → Prop} {l : pV} {o1 : MO} {k : bN} {i h : Nat} {m : Mo} {b : Int}
theorem Y0 {v : Nat} {q : pV} (ht : l.top = true) (hq : q ≠ .dict) : cont (nS A l v) x q = cont A x q := UD fun r d => fT fun e => by
 subst e
 cases q <;> simp only [dep] at d
 case dict => exact hq rfl
 all_goals
  obtain ⟨a, rfl⟩ := d
  exact nomatch ht
structure jH (w w' : W) : Prop where
 le : w.length ≤ w'.length
 at_ : ∀ i, i < w.length → w'[i]? = w[i]?
theorem jH.refl : jH w w := ⟨bx _, fun _ _ => rfl⟩
theorem jH.app (h : jH w0 w) (u : W) : jH w0 (w ++ u) := ⟨by rw [cq]; have := h.le; omega, fun i hi => by rw [av (Nat.lt_of_lt_of_le hi h.le)]; exact h.at_ i hi⟩
theorem jH.set (h : jH w0 w) {j : Nat} (hj : w0.length ≤ j) (o : MO) : jH w0 (w.set j o) := ⟨by rw [di]; exact h.le, fun i hi => by rw [az (by omega)]; exact h.at_ i hi⟩
theorem jH.trans {w1 w2 w3 : W} (a : jH w1 w2) (b : jH w2 w3) : jH w1 w3 := ⟨de a.le b.le, fun i hi => by rw [b.at_ i (Nat.lt_of_lt_of_le hi a.le), a.at_ i hi]⟩
theorem jH.JN (e : jH w0 w) (hW : World n w0 A x) : World n w A x := qM.keep hW fun i _ hl => e.at_ i hl
theorem jH.mod {j : Nat} (e : jH w0 w) (hM : vP w0 j m) : vP w j m := by
 unfold vP
 rw [e.at_ j (ai.mp hM).1]
 exact hM
theorem jH.grow (e : jH w0 w) : pY w0 w 1 0 := ⟨e.le, fun i hi _ _ => e.at_ i hi⟩
end
section
variable {n : Nat} {w w' w0 : W} {A A' A1 : xV} {C : Con} {x x' : Wx} {σ : Sg} {P : D → W → Prop} {PL : List D → W → Prop} {PF : Fl → W → Prop} {PU : Unit → W → Prop} {PI : l9 → W → Prop} {l : pV} {o1 : MO} {k : bN} {i h : Nat} {m : Mo} {b : Int}
theorem World.onS (hW : World n w A x) : qM n w A (Lw.onS (fun _ => true) (cont A x)) := hW
theorem World.le (hW : World n w A x) : n ≤ A .dict := (hW .dict _ rfl).1
theorem World.lt (hW : World n w A x) (l : pV) {o : MO} (e : cont A x l = some o) : A l < w.length := qM.lt hW e
theorem World.aF0 (hW : World n w A x) : n ≤ w.length := by
 have h1 := hW.le
 have h2 := hW.lt .dict rfl
 omega
theorem World.bind (hW : World n w A x) (l : pV) (ht : l.top = true) (hc : ∀ A, cont A x' l = some o1) (hr : ∀ A q, q ≠ .dict → q ≠ l → cont A x' q = cont A x q) :
  World n ((w ++ [o1]).set (A .dict) (.dK (OM (nS A l w.length)))) (nS A l w.length) x' := by
 have hl : l ≠ .dict := fun e => by subst e; exact nomatch ht
 have := qM.bind (x' := x') (l := l) (o1 := o1) hW.onS rfl hW.aF0 hl (hc _) fun q q1 q2 _ => by rw [hr _ q q1 q2, Y0 ht q1]
 exact this.sub fun q o e => ⟨by unfold Lw.onS; exact e, rfl⟩
def Apart (A : xV) (x : Wx) (r : Nat) : Prop := ∀ l o, cont A x l = some o → A l ≠ r
theorem World.other (hW : World n w A x) {r : Nat} (ap : Apart A x r) (o : MO) : World n (w.set r o) A x := fun l u e => by
 obtain ⟨h1, h2, h3⟩ := hW l u e
 exact ⟨h1, by rw [az (Ne.symm (ap l u e))]; exact h2, h3⟩
end
section
variable {n : Nat} {w w' w0 : W} {A A' A1 : xV} {C : Con} {x x' : Wx} {σ : Sg} {P : D → W → Prop} {PL : List D → W → Prop} {PF : Fl → W → Prop} {PU : Unit → W → Prop} {PI : l9 → W → Prop} {l : pV} {o1 : MO} {k : bN} {tS : Addr} {i h p : Nat} {m : Mo} {b : Int}
theorem jH.aJj {w1 w2 : W} (e : jH w1 w2) (hp : iR k w1 p m b) : iR k w2 p m b := by
 unfold iR
 rw [e.at_ p (ai.mp hp).1]
 exact hp
end
section
variable {n d0 : Nat} {w w' w0 : W} {A A' A1 : xV} {C : Con} {x x' : Wx} {σ : Sg} {P : D → W → Prop} {PL : List D → W → Prop} {PF : Fl → W → Prop} {PU : Unit → W → Prop} {PI : l9 → W → Prop} {l : pV} {o1 u : MO} {k : bN} {tS : Addr} {i h p : Nat} {m : Mo} {b : Int}
theorem aFR : T (q9 σ w) P = P (.ref w.length) (w ++ [.dT []]) := by unfold q9; rw [bV]
end
section
variable {n d0 : Nat} {w w' w0 : W} {A A' A1 : xV} {C : Con} {x x' : Wx} {σ : Sg} {P : D → W → Prop} {PL : List D → W → Prop} {PF : Fl → W → Prop} {PU : Unit → W → Prop} {PI : l9 → W → Prop} {l : pV} {o o1 u : MO} {k : bN} {tS : Addr} {i h p : Nat} {m : Mo} {b : Int}
theorem Kept.JN (kk : Pc.Kept w w' 1 0) (h2 : 2 ≤ n) (hW : World n w A x) : World n w' A x := qM.keep hW fun i h1 _ => kk.2 i (by omega) (by omega)
theorem Kept.mod (kk : Pc.Kept w w' 1 0) (i2 : 2 ≤ i) (hM : vP w i m) : vP w' i m := kk.obj hM (by omega) (by omega)
theorem pY.mod (g : pY w w' 1 0) (i2 : 2 ≤ i) (hM : vP w i m) : vP w' i m := by
 unfold vP
 rw [g.at_ i (ai.mp hM).1 (by omega) (by omega)]
 exact hM
theorem World.row {par : pV} {gl : Nat → pV} {kk c r : Nat} (hW : World n w A x) (hk : ∀ i, n ≤ i → i < w.length → w'[i]? = w[i]?) (hr : w.length ≤ r) (er : w'[r]? = some o) (inj : ∀ i j, gl i = gl j → i = j) (hne : par ≠ gl c)
  (hpar : cont A x par = some (.lst (gC A gl kk))) (hpar' : ∀ A', cont A' x' par = some (.lst (gC A' gl kk))) (hrow : ∀ A', cont A' x' (gl c) = some o) (hoth : ∀ A' q, q ≠ par → q ≠ gl c → (∀ l, l ≠ gl c → A' l = A l) → cont A' x' q = cont A x q) :
  World n (w'.set (A par) (.lst ((gC A gl kk).set c (.ref r)))) (nS A (gl c) r) x' := by
 have h1 := qM.new hW hk hr hW.aF0 er (gl c)
 have ee : nS (cont A x) (gl c) (some o) par = some (.lst (gC A gl kk)) := by rw [fT hne]; exact hpar
 have h3 := h1.set ee (.lst ((gC A gl kk).set c (.ref r)))
 rw [fT hne] at h3
 refine h3.sub fun q u e => ⟨?_, rfl⟩
 by_cases c1 : q = par
 ·subst c1
  rw [oK, W3 inj]
  rw [hpar'] at e
  exact e
 rw [fT c1]
 by_cases c2 : q = gl c
 ·subst c2
  rw [oK]
  rw [hrow] at e
  exact e
 rw [fT c2, ← e]
 exact (hoth _ q c1 c2 fun l hl => fT hl).symm
end
structure St (n i : Nat) (m : Mo) (w0 w : W) (A : xV) (x : Wx) : Prop where
 aGq : DW w 1 0
 mod : vP w i m
 JN : World n w A x
 n2 : 2 ≤ n
 i2 : 2 ≤ i
 hi : i < n
 le : w0.length ≤ w.length
 fd : ∀ j, j < n → j ≠ 1 → j ≠ 0 → w[j]? = w0[j]?
section
variable {n d0 : Nat} {w w' w0 : W} {A A' A1 : xV} {C : Con} {x x' : Wx} {σ : Sg} {P : D → W → Prop} {PL : List D → W → Prop} {PF : Fl → W → Prop} {PU : Unit → W → Prop} {PI : l9 → W → Prop} {l : pV} {o o1 u : MO} {k : bN} {tS : Addr} {i h p : Nat} {m : Mo} {b : Int}
theorem St.kept (s : St n i m w0 w A x) (d : DW w' 1 0) (kk : Pc.Kept w w' 1 0) : St n i m w0 w' A x :=
 ⟨d, Kept.mod kk s.i2 s.mod, Kept.JN kk s.n2 s.JN, s.n2, s.i2, s.hi, by rw [kk.1]; exact s.le, fun j h1 h2 h3 => by rw [kk.2 j h2 h3]; exact s.fd j h1 h2 h3⟩
theorem St.grow (s : St n i m w0 w A x) (d : DW w' 1 0) (g : pY w w' 1 0) : St n i m w0 w' A x :=
 ⟨d, pY.mod g s.i2 s.mod, qM.grow s.JN s.n2 g, s.n2, s.i2, s.hi, de s.le g.le, fun j h1 h2 h3 => by rw [g.at_ j (by have := s.JN.aF0; omega) h2 h3]; exact s.fd j h1 h2 h3⟩
theorem St.app (s : St n i m w0 w A x) (u : W) : St n i m w0 (w ++ u) A x := s.grow s.aGq.app ⟨by simp, fun i hi _ _ => av hi⟩
theorem St.set {j : Nat} (s : St n i m w0 w A x) (hj : n ≤ j) (hw : World n (w.set j o) A' x') : St n i m w0 (w.set j o) A' x' :=
 ⟨s.aGq.set (by have := s.n2; omega) (by have := s.n2; omega), by unfold vP; rw [az (by have := s.hi; omega)]; exact s.mod, hw, s.n2, s.i2, s.hi, by rw [di]; exact s.le, fun j' h1 h2 h3 => by rw [az (by omega)]; exact s.fd j' h1 h2 h3⟩
end
section
variable {n d0 : Nat} {w w' w0 : W} {A A' A1 : xV} {C : Con} {x x' : Wx} {σ : Sg} {P : D → W → Prop} {PL : List D → W → Prop} {PF : Fl → W → Prop} {PU : Unit → W → Prop} {PI : l9 → W → Prop} {l : pV} {o o1 u : MO} {k : bN} {tS : Addr} {i h p : Nat} {m : Mo} {b : Int}
theorem Y5 {a b : D} {r : Int} (h0 : 0 ≤ r) (h1 : r < 2) : ∃ y, atI [a, b] r = some y ∧ ((r = 0 ∧ y = a) ∨ (r = 1 ∧ y = b)) := by
 have : r = 0 ∨ r = 1 := by omega
 rcases this with rfl | rfl
 ·exact ⟨a, rfl, .inl ⟨rfl, rfl⟩⟩
 ·exact ⟨b, rfl, .inr ⟨rfl, rfl⟩⟩
end
def aEq (x : Wx) (ps : List Int) : Wx := { x with s := { x.s with parts := ps } }
def aD1 (h : Nat) (x : Wx) (hs cs : List Int) : List Int := (aAF h x.s hs cs).parts
def faI (kv : List (List Key × D)) (a s r : Nat) : Int := match kB kv [.inl (a : Int), .inl (s : Int), .inl (r : Int)] with
 | some (.int i) => i
 | _ => 1
abbrev kU := Nat → Nat → Nat → Int
structure B1 where
 a : Nat
 s : Nat
 r : Nat
 rank : Int
def aIK (fa : kU) (t : B1) : u5 := ⟨fa t.a t.s t.r, (t.a : Int), (t.s : Int), (t.r : Int), t.rank⟩
def AM (fa : kU) (ts : List B1) : List u5 := (ts.filter fun t => decide (0 < fa t.a t.s t.r)).map (aIK fa)
def aFf (ts : List B1) (a s r : Nat) : Bool := ts.any fun t => t.a == a && t.s == s && t.r == r
def aFu (fa : kU) (ts : List B1) (a s r : Nat) (v : Int) : Int := if aFf ts a s r then (if fa a s r = 0 then v + 1 else 0) else v
def aDi (fa : kU) (ts : List B1) (lk : List (List (List Int))) : List (List (List Int)) := lk.mapIdx fun a own => own.mapIdx fun s row => row.mapIdx fun r v => aFu fa ts a s r v
section
variable {n : Nat} {w w' : W} {x : Wx} {σ : Sg} {P : D → W → Prop} {PF : Fl → W → Prop} {PU : Unit → W → Prop} {k : bN} {i h p f : Nat} {m : Mo} {b : Int} {s : gW} {ts : List B1} {kv : List (List Key × D)}
theorem aBh {o : MO} : (w ++ [o])[w.length]? = some o := by rw [bp (bx _)]; simp
theorem tyL {r : Nat} {xs : List D} (e : w[r]? = some (.lst xs)) : tyD (.ref r) w = some "list" := by simp only [tyD, e]
end
def aG1 (h : Nat) (s : gW) (c r : Nat) : Bool := !(r == c) && (AQ s r == AQ s c) && (decide (h ≤ r) || s.living.getD r 0 == 1)
def U8 (h : Nat) (s : gW) (c : Nat) : List Nat := (List.range s.parts.length).filter (aG1 h s c)
def ZR (h : Nat) (s : gW) (a c : Nat) (rank : Int) : List B1 := (U8 h s c).map fun r => ⟨a, c, r, rank⟩
def aGK (h : Nat) (fa : kU) (s : gW) (a c : Nat) (rank : Int) : gW := { s with fV := s.fV ++ AM fa (ZR h s a c rank), tA := aDi fa (ZR h s a c rank) s.tA }
section
variable {n B : Nat} {w w' : W} {x : Wx} {σ : Sg} {P : D → W → Prop} {PF : Fl → W → Prop} {PU : Unit → W → Prop} {PI : l9 → W → Prop} {k : bN} {i h p f : Nat} {m : Mo} {b : Int} {s : gW} {ts : List B1} {kv : List (List Key × D)}
theorem yM {xs : List D} : T (iterM (.tup xs) w) PI = PI ⟨xs, always⟩ w := by unfold T; rfl
end
def aDV (s : gW) (c : Nat) (v : Int) (ss : List (Role × Int)) : gW := { s with living := s.living.set c v, cE := List.zipWith (fun row q => row.set c q) s.cE ss }
def aDT (m : Mo) (s : gW) (c : Nat) : gW := aDV s c 0 (List.replicate m.c8.length (.rests, 0))
def aHP (m : Mo) (b : Int) (s : gW) (c : Nat) : gW := aDV s c 1 ((List.range m.c8.length).map fun a => (.CW, GB m b s a c))
def aGV (h : Nat) (fa : kU) (s0 : gW) (c : Nat) (j : Nat) : gW := (List.range j).foldl (fun q a => if (DJ s0 a c).1 = .xT then aGK h fa q a c 0 else q) s0
def aGG (m : Mo) (h : Nat) (fa : kU) (s : gW) (c : Nat) : gW := aDT m (aGV h fa s c m.c8.length) c
def doF (fa : kU) (m : Mo) (b : Int) (h : Nat) (s : gW) : mT → gW
 | .HI c => aDT m s c
 | .stop c => aGG m h fa s c
 | .rise c => aHP m b s c
 | d => doS m b h s d
section
variable {n B : Nat} {w w' : W} {x : Wx} {σ : Sg} {P : D → W → Prop} {PF : Fl → W → Prop} {PU : Unit → W → Prop} {PI : l9 → W → Prop} {k : bN} {i h p f : Nat} {m : Mo} {b : Int} {s : gW} {ts : List B1} {kv : List (List Key × D)}
def aCj (m : Mo) (h : Nat) : mT → Prop
 | .HI c => c < h
 | .stop c => c < h
 | .rise c => c < h
 | d => aEB m h d
end
def lkP (fa : kU) (lk : List (List Key × D)) (a c : Nat) (rs : List Nat) : List (List Key × D) := rs.foldl (fun lk (r : Nat) => putD lk [.inl (a : Int), .inl (c : Int), .inl (r : Int)] (.int (if fa a c r = 0 then lkI lk a c r + 1 else 0))) lk
def keyD (a c r : Nat) : D := .tup [.int (a : Nat), .int (c : Nat), .int (r : Nat)]
def aHa (fa : kU) (x : Wx) (a c : Nat) (rank : Int) (rs : List Nat) : Wx := { x with s := { x.s with fV := x.s.fV ++ AM fa (rs.map fun r => ⟨a, c, r, rank⟩) }, lk := lkP fa x.lk a c rs, uM := x.uM ++ rs.map (keyD a c) }
def aHv (h : Nat) (fa : kU) (x : Wx) (a c : Nat) (rank : Int) : Wx := aHa fa x a c rank (U8 h x.s c)
def stX (x : Wx) (c : Nat) (ss : Nat → Role × Int) (j : Nat) : Wx := { x with s := { x.s with cE := x.s.cE.mapIdx fun a row => if a < j then row.set c (ss a) else row } }
def aHF (x : Wx) (c : Nat) (v : Int) : Wx := { x with s := { x.s with living := x.s.living.set c v } }
def aEv (x : Wx) (c : Nat) : Wx := stX (aHF x c 0) c (fun _ => (.rests, 0)) x.s.cE.length
def aGF (m : Mo) (b : Int) (x : Wx) (c : Nat) : Wx := stX (aHF x c 1) c (fun a => (.CW, GB m b x.s a c)) x.s.cE.length
def aHO (h : Nat) (fa : kU) (x : Wx) (c j : Nat) : Wx := (List.range j).foldl (fun y a => if (DJ x.s a c).1 = .xT then aHv h fa y a c 0 else y) x
def aHz (h : Nat) (fa : kU) (x : Wx) (c : Nat) : Wx := aEv (aHO h fa x c x.s.cE.length) c
structure qL (m : Mo) (h B : Nat) (x : Wx) : Prop where
 living : x.s.living.length = h ∧ ∀ v ∈ x.s.living, 0 ≤ v ∧ v ≤ 1
 parts : (x.s.parts.length : Int) = h + m.mX
 cE : x.s.cE.length = m.c8.length ∧ ∀ r ∈ x.s.cE, r.length = h
 lk : aGx x.lk
 b1 : x.lk.length ≤ B
 b2 : x.uM.length ≤ B
 b3 : x.s.fV.length ≤ B
section
variable {n d0 B : Nat} {w w' w0 : W} {A A' A1 : xV} {C : Con} {x x' : Wx} {σ : Sg} {P : D → W → Prop} {PL : List D → W → Prop} {PF : Fl → W → Prop} {PU : Unit → W → Prop} {PI : l9 → W → Prop} {l : pV} {o o1 u : MO} {k : bN} {i h p f : Nat} {m : Mo} {b : Int} {kv : List (List Key × D)} {fa : kU}
theorem qL.le (o : MoB m h) (ok : qL m h B x) : x.s.parts.length ≤ 10 := by
 have h6 := o.c8.h6
 have ho := o.mX
 have := ok.parts
 omega
theorem qL.mono {B' : Nat} (ok : qL m h B x) (hB : B ≤ B') : qL m h B' x := ⟨ok.living, ok.parts, ok.cE, ok.lk, de ok.b1 hB, de ok.b2 hB, de ok.b3 hB⟩
end
section
variable {n d0 B : Nat} {w w' w0 : W} {A A' A1 : xV} {C : Con} {x x' : Wx} {σ : Sg} {P : D → W → Prop} {PL : List D → W → Prop} {PF : Fl → W → Prop} {PU : Unit → W → Prop} {PI : l9 → W → Prop} {l : pV} {o o1 u : MO} {k : bN} {i h p f : Nat} {m : Mo} {b : Int} {kv : List (List Key × D)} {fa : kU}
theorem zipIdx {α β : Type} {f : α → β → α} {ss : Nat → β} : ∀ {xs : List α}, (xs.mapIdx fun a x => if a < xs.length then f x (ss a) else x) = List.zipWith f xs ((List.range xs.length).map ss) := fun {xs} => by
 refine List.ext_getElem? fun j => ?_
 rw [List.getElem?_mapIdx, List.getElem?_zipWith, cu]
 by_cases c : j < xs.length
 ·rw [bj c, List.getElem?_range c]
  simp [c]
 ·rw [List.getElem?_eq_none (by omega)]
  rfl
end
def aFa (x : Wx) (ss : List (List (Role × Int))) : Wx := { x with s := { x.s with cE := ss } }
def aHR (x : Wx) (t : Int) : Wx := { x with s := { x.s with downs := x.s.downs ++ [t] } }
def upX (x : Wx) (t : Int) : Wx := { x with s := { x.s with downs := x.s.downs.filter fun y => !(y == t) } }
def aGt (x : Wx) (a c : Nat) (r : Int) : Wx := { x with s := U5 x.s a c r }
def reX (m : Mo) (b : Int) (ahead x : Wx) : Wx := aFa x (aEn (upQ m b ahead.s x.s) x.s.cE)
def aIB (h : Nat) (x : Wx) (c a : Nat) : Wx := { x with s := aGv h x.s c a }
def doX (fa : kU) (m : Mo) (b : Int) (h : Nat) (x : Wx) : mT → Wx
 | .HI c => aEv x c
 | .stop c => aHz h fa x c
 | .rise c => aGF m b x c
 | .down t => reX m b x (aHR x t)
 | .up t => reX m b x (upX x t)
 | .rank a c r => reX m b x (aGt x a c r)
 | .E7 hs cs => aEq x (aD1 h x hs cs)
 | .FU => aEq x (aD1 h x [] [])
 | .ask c a => aIB h x c a
structure Bd where
 k : bN
 B : Addr
 S : Addr
def NH : List Str := [("self" : Str), ("address" : Str), ("house" : Str), ("role" : Str), ("rank" : Str), ("receiver" : Str)]
def P0 (k : Bd) : MS :=
 (aI (dN (bH (aD gA (aB 3) (eC (.str ("waits" : Str))))) (cY (dO "list" dA (cP k.B ("news_told" : Str) (aB 0)) (aA (bQ (aA (aB 1) (aA (aB 2) (aA (eC (.str ("serves" : Str))) aE)))) aE))) bC)
 (aI (aT (bQ (aA (eC (.str ("serves" : Str))) (aA (cP k.k.aO ("every" : Str) (cP k.B ("plan_here" : Str) (aB 0))) aE))) (dR (aD a9 (cP k.B ("stands_now" : Str) (aB 0)) (aB 1)) (aB 2)))
 (aI (aT (aJ (oG k.k) 4 aN (aA (cP k.B ("plan_here" : Str) (aB 0)) (aA (cP k.B ("state_here" : Str) (aB 0)) (aA (aB 1) (aA (aB 2) aE))))) (a7 4))
 (fX (dY (aJ (uZ k.k) 3 aN (aA (cP k.B ("plan_here" : Str) (aB 0)) (aA (cP k.B ("state_here" : Str) (aB 0)) (aA (aB 2) aE))))) (a7 5) (cY (dO "list" dA (cP k.B ("letters_sent" : Str) (aB 0)) (aA (bQ (aA (aB 1) (aA (aB 2) (aA (aB 5) (aA (aB 4) aE))))) aE)))))))
def RQ (k : Bd) : MF := bP (P0 k) NH
def yI : List Str := [("self" : Str), ("address" : Str), ("row" : Str), ("house" : Str), ("role" : Str), ("clock" : Str)]
def zH (k : Bd) : MS :=
 (fX (eZ CT (aA (cP k.B ("stands_now" : Str) (aB 0)) aE)) (bY 2 (aK (a7 1) (aK (a7 2) bW))) (fX (eZ CT (aA (aP IM (aA (aB 2) aE)) aE)) (bY 2 (aK (a7 3) (aK (bY 2 (aK (a7 4) (aK (a7 5) bW))) bW))) (dN (iD (bH (aD sL (aB 4) (eC (.str ("rests" : Str))))) (bH (aD MZ (aB 5) (eC (.int 1))))) (aT (bQ (aA (aB 4) (aA (aD kH (aB 5) (eC (.int 1))) aE))) (dR (aB 2) (aB 3))) (dN (bH (aD sL (aB 4) (eC (.str ("rests" : Str))))) (cY (wU k.B ("send" : Str) (RQ k) 4 aN (aB 0) (aA (aB 1) (aA (aB 3) (aA (aB 4) aE))))) bC))))
def zW (k : Bd) : MF := bP (zH k) yI
def UH : List Str := [("one" : Str), ("other" : Str), ("rank" : Str), ("number" : Str), ("other_rank" : Str), ("other_number" : Str)]
def T9 (k : Bd) : MS :=
 (aI (aT (aB 0) (bY 2 (aK (a7 2) (aK (a7 3) bW))))
 (aI (aT (aB 1) (bY 2 (aK (a7 4) (aK (a7 5) bW))))
 (bE (eOr (aD MZ (aB 2) (aB 4)) (jX (aD gA (aB 2) (aB 4)) (aD RN (aB 3) (aB 5)))))))
def TY (k : Bd) : MF := bP (T9 k) UH
def PN : List Str := [("self" : Str), ("address" : Str), ("sender" : Str), ("house" : Str), ("rank" : Str), ("role" : Str), ("clock" : Str), ("own" : Str), ("is_sender_ahead" : Str)]
def PY (k : Bd) : MS :=
 (aI (aT (aD a9 (aD a9 (cP k.B ("stands_now" : Str) (aB 0)) (aB 1)) (aB 3)) (bY 2 (aK (a7 5) (aK (a7 6) bW))))
 (aI (aT (aJ (oG k.k) 4 aN (aA (cP k.B ("plan_here" : Str) (aB 0)) (aA (cP k.B ("state_here" : Str) (aB 0)) (aA (aB 1) (aA (aB 3) aE))))) (a7 7))
 (aI (aT (aJ (TY k) 2 aN (aA (bQ (aA (aB 4) (aA (aB 2) aE))) (aA (bQ (aA (aB 7) (aA (aB 3) aE))) aE))) (a7 8))
 (dN (bH (aD gA (aB 5) (eC (.str ("serves" : Str))))) (dN (iD (bH (aD MZ (aB 4) (eC (.int 0)))) (cW (aB 8))) (aI (aT (bQ (aA (eC (.str ("waits" : Str))) (aA (aJ (pL k.k) 4 aN (aA (cP k.B ("plan_here" : Str) (aB 0)) (aA (cP k.B ("state_here" : Str) (aB 0)) (aA (aB 1) (aA (aB 3) aE))))) aE))) (dR (aD a9 (cP k.B ("stands_now" : Str) (aB 0)) (aB 1)) (aB 3)))
 (cY (dO "list" dA (cP k.B ("news_told" : Str) (aB 0)) (aA (bQ (aA (aB 1) (aA (aB 3) (aA (eC (.str ("yields" : Str))) aE)))) aE)))) bC) (dN (bH (aD gA (aB 4) (eC (.int 0)))) (aT (bQ (aA (aB 5) (aA (aP min2 (aA (aB 6) (aA (aJ (X4 k.k) 2 aN (aA (cP k.B ("plan_here" : Str) (aB 0)) (aA (aB 7) aE))) aE))) aE))) (dR (aD a9 (cP k.B ("stands_now" : Str) (aB 0)) (aB 1)) (aB 3))) (dN (eV (cW (aB 8)) (bU (cW (cP k.k.aO ("takes" : Str) (cP k.B ("plan_here" : Str) (aB 0)))))) (aT (bQ (aA (aB 5) (aA (aP max2 (aA (aB 6) (aA (aJ (JH k.k) 2 aN (aA (cP k.B ("plan_here" : Str) (aB 0)) (aA (aB 7) aE))) aE))) aE))) (dR (aD a9 (cP k.B ("stands_now" : Str) (aB 0)) (aB 1)) (aB 3))) bC))))))
def OO (k : Bd) : MF := bP (PY k) PN
def HS : List Str := [("self" : Str), ("address" : Str), ("sender" : Str), ("receiver" : Str), ("rank" : Str), ("living" : Str), ("parts" : Str), ("others" : Str)]
def IA (k : Bd) : MS :=
 (aI (aT (cP k.B ("state_here" : Str) (aB 0)) (VY 2 (aK (a7 5) (aK (a7 6) (aK (a7 7) bW)))))
 (aI (dN (bH (aD sL (aD a9 (aB 6) (aB 2)) (aD a9 (aB 6) (aB 3)))) (bE (eC .non)) bC)
 (dN (bH (aD geM (aB 3) (aP c5 (aA (aB 5) aE)))) (dN (bH (aD MZ (aB 4) (eC (.int 0)))) (aT (aB 2) (dR (aD a9 (cP k.B ("tables_now" : Str) (aB 0)) (aD kH (aB 3) (aP c5 (aA (aB 5) aE)))) (aB 1))) bC) (dN (bH (aD gA (aD a9 (aB 5) (aB 3)) (eC (.int 1)))) (cY (wU k.B ("hear" : Str) (OO k) 5 aN (aB 0) (aA (aB 1) (aA (aB 2) (aA (aB 3) (aA (aB 4) aE)))))) bC))))
def HX (k : Bd) : MF := bP (IA k) HS
def GD : List Str := [("self" : Str), ("letter" : Str), ("left" : Str), ("rest" : Str)]
def ED (k : Bd) : MS :=
 (aI (aT (aB 1) (VY 1 (aK (a7 2) (aK (a7 3) bW))))
 (dN (bH (aD MZ (aB 2) (eC (.int 1)))) (cY (dO "list" dA (cP k.B ("still_under_way" : Str) (aB 0)) (aA (aD bS (bQ (aA (aD kH (aB 2) (eC (.int 1))) aE)) (aP dZ (aA (aB 3) aE))) aE))) (cY (wU k.B ("arrive" : Str) (HX k) 5 aN (aB 0) (aA (aD a9 (aB 3) (eC (.int 0))) (aA (aD a9 (aB 3) (eC (.int 1))) (aA (aD a9 (aB 3) (eC (.int 2))) (aA (aD a9 (aB 3) (eC (.int 3))) aE))))))))
def D6 (k : Bd) : MF := bP (ED k) GD
def OX : List Str := [("self" : Str), ("plan" : Str), ("state" : Str), ("many_old" : Str), ("living" : Str), ("parts" : Str), ("downs" : Str), ("ranks" : Str), ("stands" : Str), ("letters" : Str), ("lacks" : Str), ("tables" : Str), ("asks" : Str), ("letter" : Str), ("row" : Str)]
def QM (k : Bd) : MS :=
 (aI (aT (aB 2) (bY 9 (aK (a7 4) (aK (a7 5) (aK (a7 6) (aK (a7 7) (aK (a7 8) (aK (a7 9) (aK (a7 10) (aK (a7 11) (aK (a7 12) bW)))))))))))
 (aI (c9 k.B ("plan_here" : Str) (aB 0) (aB 1))
 (aI (c9 k.B ("state_here" : Str) (aB 0) (aB 2))
 (aI (c9 k.B ("stands_now" : Str) (aB 0) (b6 (dY (aB 8)) [14] (a7 14) cD (aP tG (aA (aB 14) aE))))
 (aI (c9 k.B ("tables_now" : Str) (aB 0) (b6 (dY (aB 11)) [14] (a7 14) cD (aP tG (aA (aB 14) aE))))
 (aI (c9 k.B ("still_under_way" : Str) (aB 0) (eNew aE))
 (aI (c9 k.B ("letters_sent" : Str) (aB 0) (R4 (dY (m9 iZ (aB 9) (cK (aB 3)) cV)) [13] (a7 13) cD (m9 iZ (aB 13) (cK (eC (.int 1))) cV)))
 (aI (c9 k.B ("news_told" : Str) (aB 0) (eNew aE))
 (aI (fX (dY (m9 iZ (aB 9) cV (cK (aB 3)))) (a7 13) (cY (wU k.B ("move_on" : Str) (D6 k) 2 aN (aB 0) (aA (aB 13) aE))))
 (cY (wU k.B ("end_clocks" : Str) (zW k) 1 aN (aB 0) aE)))))))))))
def NO (k : Bd) : MF := bP (QM k) OX
def C8 : List Str := [("self" : Str), ("lacks" : Str), ("fates" : Str), ("living" : Str), ("parts" : Str), ("downs" : Str), ("ranks" : Str), ("stands" : Str), ("letters" : Str), ("others" : Str), ("tables" : Str), ("asks" : Str), ("row" : Str)]
def DC (k : Bd) : MS :=
 (aI (aT (cP k.B ("state_here" : Str) (aB 0)) (bY 9 (aK (a7 3) (aK (a7 4) (aK (a7 5) (aK (a7 6) (aK (a7 7) (aK (a7 8) (aK (a7 9) (aK (a7 10) (aK (a7 11) bW)))))))))))
 (aI (aT (aP dZ (aA (b6 (dY (cP k.B ("stands_now" : Str) (aB 0))) [12] (a7 12) cD (aP dZ (aA (aB 12) aE))) aE)) (a7 7))
 (aI (aT (aD bS (aP dZ (aA (cP k.B ("still_under_way" : Str) (aB 0)) aE)) (aJ (yB k.k) 2 aN (aA (cP k.B ("letters_sent" : Str) (aB 0)) (aA (aB 2) aE)))) (a7 8))
 (aI (aT (aP dZ (aA (b6 (dY (cP k.B ("tables_now" : Str) (aB 0))) [12] (a7 12) cD (aP dZ (aA (aB 12) aE))) aE)) (a7 10))
 (bE (bQ (aA (aB 3) (aA (aB 4) (aA (aB 5) (aA (aB 6) (aA (aB 7) (aA (aB 8) (aA (aJ (D2 k.k) 3 aN (aA (aB 1) (aA (cP k.B ("letters_sent" : Str) (aB 0)) (aA (aB 2) aE)))) (aA (aB 10) (aA (aB 11) aE)))))))))))))))
def DD (k : Bd) : MF := bP (DC k) C8
def AH : List Str := [("plan" : Str), ("lacks" : Str), ("sent_here" : Str), ("ahead" : Str), ("thing" : Str), ("address" : Str), ("sender" : Str), ("receiver" : Str), ("fate" : Str), ("part" : Str)]
def A3 (k : Bd) : MS :=
 (aI (dN (eV (bU (cW (aP (gF gL) (aA (aB 4) (aA (eC (.ty "tuple")) aE))))) (eV (bH (aD sL (aP c5 (aA (aB 4) aE)) (eC (.int 4)))) (bU (cW (aP allM (aA (b6 (dY (aB 4)) [9] (a7 9) cD (aJ (gH k.k) 1 aN (aA (aB 9) aE))) aE)))))) (bE (eC (.bl false))) bC)
 (aI (aT (aB 4) (bY 4 (aK (a7 5) (aK (a7 6) (aK (a7 7) (aK (a7 8) bW))))))
 (aI (dN (eV (bH (aD aAo (m9 iZ (aB 4) cV (cK (yX vK (eC (.int 1))))) (aB 2))) (iD (bH (aD sL (aB 3) (bQ aE))) (bH (aD leA (m9 iZ (aB 4) cV (cK (yX vK (eC (.int 1))))) (m9 iZ (aB 3) cV (cK (yX vK (eC (.int 1))))))))) (bE (eC (.bl false))) bC)
 (aI (dN (bH (aD gA (aB 8) (eC (.int 0)))) (bE (aD RN (aD a9 (aD a9 (aD a9 (aB 1) (aB 5)) (aB 6)) (aB 7)) (cP k.k.aO ("lost" : Str) (aB 0)))) bC)
 (bE (UI DX DX (eC (.int 1)) (aB 8) (cP k.k.aO ("slow" : Str) (aB 0))))))))
def JX (k : Bd) : MF := bP (A3 k) AH
def S8 : List Str := [("plan" : Str), ("lacks" : Str), ("sent_here" : Str), ("fates" : Str), ("found" : Str), ("ahead" : Str), ("place" : Str), ("thing" : Str)]
def TU (k : Bd) : MS :=
 (aI (aT q9 (a7 4))
 (aI (aT (bQ aE) (a7 5))
 (aI (fX (eZ GS (aA (aB 3) aE)) (bY 2 (aK (a7 6) (aK (a7 7) bW))) (aI (dN (bU (cW (aJ (JX k) 5 aN (aA (aB 0) (aA (aB 1) (aA (aB 2) (aA (aB 5) (aA (aB 7) aE)))))))) aC8 bC)
 (aI (aT (aD a9 (aB 7) (yX vK (eC (.int 1)))) (dR (aB 4) (m9 iZ (aB 7) cV (cK (yX vK (eC (.int 1)))))))
 (aT (aB 7) (a7 5)))))
 (bE (aB 4)))))
def SD (k : Bd) : MF := bP (TU k) S8
def R1 : List Str := [("plan" : Str), ("deed" : Str), ("address" : Str)]
def R0 (k : Bd) : MS :=
 (aI (dN (bH (aD aAo (aD a9 (aB 1) (eC (.int 0))) (bQ (aA (eC (.str ("fall" : Str))) (aA (eC (.str ("stop" : Str))) aE))))) (bE (bQ aE)) bC)
 (bE (aP dZ (aA (b6 (eZ kO (aA (aJ (eQ k.k) 1 aN (aA (aB 0) aE)) aE)) [2] (a7 2) cD (bQ (aA (aB 2) (aA (aD a9 (aB 1) (eC (.int 1))) (aA (eC (.str ("rests" : Str))) aE))))) aE))))
def SO (k : Bd) : MF := bP (R0 k) R1
def KL : List Str := [("plan" : Str), ("state" : Str), ("deeds" : Str), ("news" : Str), ("place" : Str), ("deed" : Str)]
def LY (k : Bd) : MS :=
 (aI (aT (eNew aE) (a7 3))
 (aI (fX (eZ GS (aA (aB 2) aE)) (bY 2 (aK (a7 4) (aK (a7 5) bW))) (aI (dN (bU (cW (aJ (XG k.k k.S) 3 aN (aA (aB 0) (aA (aB 1) (aA (aB 5) aE)))))) aC8 bC)
 (aI (aT (aJ (NT k.k) 4 aN (aA (aB 0) (aA (aB 1) (aA (aB 5) (aA q9 aE))))) (a7 1))
 (cY (dO "list" aCh (aB 3) (aA (aJ (SO k) 2 aN (aA (aB 0) (aA (aB 5) aE))) aE))))))
 (bE (bQ (aA (aB 1) (aA (aP dZ (aA (aB 3) aE)) aE))))))
def LU (k : Bd) : MF := bP (LY k) KL
def Z3 : List Str := [("plan" : Str), ("state" : Str), ("deeds" : Str), ("fates" : Str), ("after" : Str), ("news" : Str), ("beat" : Str), ("sent_here" : Str), ("known" : Str), ("letter" : Str)]
def ZZ (k : Bd) : MS :=
 (aI (aT (aJ (LU k) 3 aN (aA (aB 0) (aA (aB 1) (aA (aB 2) aE)))) (bY 2 (aK (a7 4) (aK (a7 5) bW))))
 (aI (aT (aGu k.B (NO k) 3 aN (aA (aB 0) (aA (aB 4) (aA (aP c5 (aA (aD a9 (aB 1) (eC (.int 5))) aE)) aE)))) (a7 6))
 (aI (aT (aIg (dY (cP k.B ("letters_sent" : Str) (aB 6))) [9] (a7 9) cD (m9 iZ (aB 9) cV (cK (yX vK (eC (.int 1))))) (eC (.bl true))) (a7 7))
 (aI (aT (aJ (SD k) 4 aN (aA (aB 0) (aA (aD a9 (aB 1) (eC (.int 6))) (aA (aB 7) (aA (aB 3) aE))))) (a7 8))
 (bE (bQ (aA (aD bS (aB 5) (aP dZ (aA (cP k.B ("news_told" : Str) (aB 6)) aE))) (aA (wU k.B ("state_by" : Str) (DD k) 3 aN (aB 6) (aA (aD a9 (aB 1) (eC (.int 6))) (aA (aB 8) aE))) aE))))))))
def PV (k : Bd) : MF := bP (ZZ k) Z3
abbrev j0 (k : Bd) : List D → List D → List D := fun xs zs => l7 [(0, 0), (0, 1), (1, 0), (1, 1)] xs zs []
def HE : List Str := [("_law_one" : Str), ("_law_other" : Str)]
def HA (k : bN) : MS :=
 (bE (eOr (aD MZ (aD a9 (aB 0) (eC (.int 0))) (aD a9 (aB 1) (eC (.int 0)))) (jX (aD gA (aD a9 (aB 0) (eC (.int 0))) (aD a9 (aB 1) (eC (.int 0)))) (aD RN (aD a9 (aB 0) (eC (.int 1))) (aD a9 (aB 1) (eC (.int 1)))))))
def v7 (k : bN) : MF := bP (HA k) HE
def E5 : List Str := [("_law_model_here" : Str), ("_law_world_here" : Str), ("_law_letter" : Str), ("_law_news" : Str), ("_law_left" : Str), ("_law_a" : Str), ("_law_s" : Str), ("_law_r" : Str), ("_law_rank_here" : Str), ("_law_many" : Str), ("_law_stand" : Str), ("_law_own" : Str)]
def FE (k : bN) : MS :=
 (aI (aT (aB 2) (bY 5 (aK (a7 4) (aK (a7 5) (aK (a7 6) (aK (a7 7) (aK (a7 8) bW)))))))
 (aI (aT (aP c5 (aA (aD a9 (aB 1) (eC (.str ("living" : Str)))) aE)) (a7 9))
 (aI (dN (eV (bH (aD sL (aD a9 (aD a9 (aB 1) (eC (.str ("parts" : Str)))) (aB 6)) (aD a9 (aD a9 (aB 1) (eC (.str ("parts" : Str)))) (aB 7)))) (iD (bH (aD RN (aB 7) (aB 9))) (bH (aD gA (aD a9 (aD a9 (aB 1) (eC (.str ("living" : Str)))) (aB 7)) (eC (.int 0)))))) (bE (eC .non)) bC)
 (aI (dN (bH (aD geM (aB 7) (aB 9))) (aI (dN (bH (aD MZ (aB 8) (eC (.int 0)))) (aT (aB 6) (dR (aD a9 (aD a9 (aB 1) (eC (.str ("tables" : Str)))) (aD kH (aB 7) (aB 9))) (aB 5))) bC)
 (bE (eC .non))) bC)
 (aI (YT 10 11 (aA (aD a9 (aD a9 (aD a9 (aB 1) (eC (.str ("stands" : Str)))) (aB 5)) (aB 7)) (aA (bQ (aA (aJ (mC k) 4 aN (aA (aB 0) (aA (aB 1) (aA (aB 5) (aA (aB 7) aE))))) (aA (aB 7) aE))) aE)))
 (dN (iD (bH (aD gA (aD a9 (aB 10) (eC (.int 0))) (eC (.str ("serves" : Str))))) (iD (bH (aD MZ (aB 8) (eC (.int 0)))) (cW (aJ (v7 k) 2 aN (aA (bQ (aA (aB 8) (aA (aB 6) aE))) (aA (aB 11) aE)))))) (aI (aT (aJ (rK k) 4 aN (aA (aB 0) (aA (aB 1) (aA (aB 5) (aA (aB 7) aE))))) (dR (aD a9 (aD a9 (aB 1) (eC (.str ("stands" : Str)))) (aB 5)) (aB 7)))
 (cY (dO "list" dA (aB 3) (aA (bQ (aA (aB 5) (aA (aB 7) (aA (eC (.str ("yields" : Str))) aE)))) aE)))) (dN (iD (bH (aD gA (aD a9 (aB 10) (eC (.int 0))) (eC (.str ("waits" : Str))))) (bH (aD gA (aB 8) (eC (.int 0))))) (aT (aP min2 (aA (aD a9 (aB 10) (eC (.int 1))) (aA (aD bS (eC (.int 2)) (aD mulM (aD a9 (aB 0) (eC (.str ("gap" : Str)))) (aD kH (eC (.int 12)) (aD a9 (aB 11) (eC (.int 0)))))) aE))) (dR (aB 10) (eC (.int 1)))) (dN (iD (bH (aD gA (aD a9 (aB 10) (eC (.int 0))) (eC (.str ("waits" : Str))))) (eV (bU (cW (aD a9 (aB 0) (eC (.str ("takes" : Str)))))) (cW (aJ (v7 k) 2 aN (aA (bQ (aA (aB 8) (aA (aB 6) aE))) (aA (aB 11) aE)))))) (aT (aP max2 (aA (aD a9 (aB 10) (eC (.int 1))) (aA (aJ (CM k) 2 aN (aA (aB 0) (aA (aD a9 (aB 11) (eC (.int 0))) aE))) aE))) (dR (aB 10) (eC (.int 1)))) bC))))))))
def GP (k : bN) : MF := bP (FE k) E5
def NP : List Str := [("_law_model_here" : Str), ("_law_world_here" : Str), ("_law_acts" : Str), ("_law_lots" : Str), ("_law_news" : Str), ("_law_letters" : Str), ("_law_deed_here" : Str), ("_law_one" : Str), ("_law_a" : Str), ("_law_h" : Str), ("_law_role" : Str), ("_law_clock" : Str)]
def Q0 (k : bN) : MS :=
 (aI (aT (bQ (aA (eNew aE) (aA (eNew aE) aE))) (bY 2 (aK (a7 4) (aK (dR (aB 1) (eC (.str ("sent" : Str)))) bW))))
 (aI (aT (bQ (aA (b6 (dY (aD a9 (aB 1) (eC (.str ("under" : Str))))) [7] (a7 7) cD (aD bS (bQ (aA (aD kH (aD a9 (aB 7) (eC (.int 0))) (eC (.int 1))) aE)) (m9 iZ (aB 7) (cK (eC (.int 1))) cV))) (aA (eNew aE) aE))) (bY 2 (aK (a7 5) (aK (dR (aB 1) (eC (.str ("under" : Str)))) bW))))
 (aI (fX (dY (aB 2)) (a7 6) (cY (aJ (RA k) 5 aN (aA (aB 0) (aA (aB 1) (aA (aB 6) (aA (aB 3) (aA (aB 4) aE))))))))
 (aI (aT (aD EE (b6 (dY (aB 5)) [7] (a7 7) (bH (aD MZ (aD a9 (aB 7) (eC (.int 0))) (eC (.int 0)))) (aB 7)) (aD a9 (aB 1) (eC (.str ("under" : Str))))) (dR (aB 1) (eC (.str ("under" : Str)))))
 (aI (fX (dY (aB 5)) (a7 7) (dN (bH (aD gA (aD a9 (aB 7) (eC (.int 0))) (eC (.int 0)))) (cY (aJ (GP k) 4 aN (aA (aB 0) (aA (aB 1) (aA (aB 7) (aA (aB 4) aE)))))) bC))
 (aI (fX (eZ kO (aA (aP c5 (aA (aD a9 (aB 0) (eC (.str ("ranks" : Str)))) aE)) aE)) (a7 8) (fX (eZ kO (aA (aP c5 (aA (aD a9 (aB 1) (eC (.str ("living" : Str)))) aE)) aE)) (a7 9) (aI (aT (aD a9 (aD a9 (aD a9 (aB 1) (eC (.str ("stands" : Str)))) (aB 8)) (aB 9)) (aEt 2 (aK (a7 10) (aK (a7 11) bW))))
 (aI (aT (eNew (aA (aB 10) (aA (aD kH (aB 11) (aP x7 (aA (aD sL (aB 10) (eC (.str ("rests" : Str)))) aE))) aE))) (dR (aD a9 (aD a9 (aB 1) (eC (.str ("stands" : Str)))) (aB 8)) (aB 9)))
 (dN (iD (bH (aD sL (aB 10) (eC (.str ("rests" : Str))))) (bH (aD gA (aB 11) (eC (.int 1))))) (aI (dN (bH (aD gA (aB 10) (eC (.str ("waits" : Str))))) (cY (dO "list" dA (aB 4) (aA (bQ (aA (aB 8) (aA (aB 9) (aA (eC (.str ("serves" : Str))) aE)))) aE))) bC)
 (aI (aT (eNew (aA (eC (.str ("serves" : Str))) (aA (aD a9 (aB 0) (eC (.str ("every" : Str)))) aE))) (dR (aD a9 (aD a9 (aB 1) (eC (.str ("stands" : Str)))) (aB 8)) (aB 9)))
 (cY (aJ (BQ k) 5 aN (aA (aB 1) (aA (aB 8) (aA (aB 9) (aA (aJ (mC k) 4 aN (aA (aB 0) (aA (aB 1) (aA (aB 8) (aA (aB 9) aE))))) (aA (aB 3) aE))))))))) bC)))))
 (bE (aP dZ (aA (aB 4) aE)))))))))
def CP (k : bN) : MF := bP (Q0 k) NP
structure Bt where
 cE : List (List (Role × Int))
 tables : List (List Int)
 under : List u5
 uM : List B1
 news : List D
def nwD (a c : Nat) (z : Str) : D := .tup [.int (a : Nat), .int (c : Nat), .str z]
def EB (y : Bt) (a c : Nat) (q : Role × Int) : Bt := { y with cE := y.cE.set a ((y.cE.getD a []).set c q) }
def zQ (y : Bt) (a c : Nat) : Role × Int := (y.cE.getD a []).getD c (.rests, 0)
def aHN (m : Mo) (h : Nat) (s : gW) (y : Bt) (a c : Nat) (role : Role) : Bt :=
 {EB y a c (.xT, m.sA) with news := y.news ++ (if role = .CW then [nwD a c "serves"] else []), uM := y.uM ++ ZR h s a c (vO m s a c) }
def aFd (m : Mo) (h : Nat) (s : gW) (y : Bt) (a c : Nat) : Bt :=
 if (zQ y a c).1 = .rests then y else if 1 < (zQ y a c).2 then EB y a c ((zQ y a c).1, (zQ y a c).2 - 1) else aHN m h s y a c (zQ y a c).1
def aIH (m : Mo) (h : Nat) (s : gW) (y : Bt) (a j : Nat) : Bt := (List.range j).foldl (fun y c => aFd m h s y a c) y
def aIq (m : Mo) (h : Nat) (s : gW) (y : Bt) (i : Nat) : Bt := (List.range i).foldl (fun y a => aIH m h s y a h) y
def aAg (r1 : Int) (n1 : Nat) (r2 : Int) (n2 : Nat) : Bool := decide (r1 > r2) || (decide (r1 = r2) && decide (n1 < n2))
def aGy (m : Mo) (b : Int) (s : gW) (y : Bt) (a sd c : Nat) (rank : Int) : Bt :=
 if (zQ y a c).1 = .xT then
  if 0 < rank ∧ aAg rank sd (vO m s a c) c = true then { EB y a c (.CW, GB m b s a c) with news := y.news ++ [nwD a c "yields"] } else y
 else if rank = 0 then EB y a c ((zQ y a c).1, if aDP m (vO m s a c) < (zQ y a c).2 then aDP m (vO m s a c) else (zQ y a c).2)
 else if aAg rank sd (vO m s a c) c = true ∨ m.takes = false then EB y a c ((zQ y a c).1, if PR m b (vO m s a c) > (zQ y a c).2 then PR m b (vO m s a c) else (zQ y a c).2)
 else y
def aDf (m : Mo) (b : Int) (h : Nat) (s : gW) (y : Bt) (a sd r : Nat) (rank : Int) : Bt :=
 if AQ s sd = AQ s r then
  if h ≤ r then (if 0 < rank then { y with tables := y.tables.set (r - h) ((y.tables.getD (r - h) []).set a (sd : Int)) } else y)
  else if s.living.getD r 0 = 1 then aGy m b s y a sd r rank else y
 else y
def aHu (m : Mo) (b : Int) (h : Nat) (s : gW) (y : Bt) (l : u5) : Bt :=
 if 1 < l.left then { y with under := y.under ++ [{ l with left := l.left - 1 }] } else aDf m b h s y l.a.toNat l.s.toNat l.r.toNat l.rank
def aGo (l : u5) : B1 := ⟨l.a.toNat, l.s.toNat, l.r.toNat, l.rank⟩
def aE6 (m : Mo) (b : Int) (h : Nat) (s : gW) (y : Bt) (ls : List u5) : Bt := ls.foldl (aHu m b h s) y
def bt0 (s : gW) (j : Nat) : Bt := ⟨s.cE, s.tables, [], (s.fV.drop j).map aGo, []⟩
abbrev fa1 : kU := fun _ _ _ => 1
def aGT (m : Mo) (b : Int) (h : Nat) (s : gW) (ds : List mT) : gW := ds.foldl (doF fa1 m b h) s
section
variable {n B0 : Nat} {w w' : W} {A : xV} {x : Wx} {y y' : Bt} {σ : Sg} {P : D → W → Prop} {PL : List D → W → Prop} {PF : Fl → W → Prop} {PU : Unit → W → Prop} {PI : l9 → W → Prop} {k : Bd} {cB : Addr} {i h p f : Nat} {m : Mo} {b : Int} {s : gW} {l : pV} {o o1 : MO} {kv : List (List Key × D)}
theorem WN {d : mT} (f : Fits m h d) : aCj m h d := by
 cases d with
 | HI c => exact f
 | stop c => exact f
 | rise c => exact f
 | down t => exact trivial
 | up t => exact trivial
 | rank a c r => exact ⟨f.1, f.2.1⟩
 | E7 hs cs => exact f.2.1
 | FU => exact trivial
 | ask c a => exact f
end
def aGU (t : B1) : List Key := [.inl (t.a : Int), .inl (t.s : Int), .inl (t.r : Int)]
def aEX (ls : List B1) : List (List Key × D) := ls.foldl (fun kv t => putD kv (aGU t) (.int t.rank)) []
def onY (x : Wx) (y : Bt) : Wx := { x with s := { x.s with cE := y.cE, tables := y.tables } }
def lkF (fa : kU) (lk : List (List Key × D)) (ts : List B1) : List (List Key × D) := ts.foldl (fun lk t => putD lk (aGU t) (.int (if fa t.a t.s t.r = 0 then lkI lk t.a t.s t.r + 1 else 0))) lk
def aIw (t : B1) : D := keyD t.a t.s t.r
def aIb (fa : kU) (x : Wx) (ts : List B1) : Wx := { x with s := { x.s with fV := x.s.fV ++ AM fa ts }, lk := lkF fa x.lk ts, uM := x.uM ++ ts.map aIw }
def onT (fa : kU) (x : Wx) (y : Bt) (j : Nat) : Wx := aIb fa (onY x y) (y.uM.drop j)
def Pos (y : Bt) : Prop := ∀ a c, (zQ y a c).1 ≠ .rests → 1 ≤ (zQ y a c).2
def aGr (x : Wx) (ds : List D) : Wx := { x with uM := ds }
def Z0 (x : Wx) (ls : List u5) : Wx := { x with s := { x.s with fV := ls } }
def aAn (fa : kU) (m : Mo) (b : Int) (h : Nat) (x : Wx) (ds : List mT) : Wx := ds.foldl (doX fa m b h) x
section
variable {n B0 : Nat} {w w' w0 : W} {A A' A0 : xV} {x X X0 : Wx} {y y' : Bt} {σ : Sg} {P : D → W → Prop} {PL : List D → W → Prop} {PF : Fl → W → Prop} {PU : Unit → W → Prop} {PI : l9 → W → Prop} {k : bN} {i h p f q news : Nat} {m : Mo} {b : Int} {s s1 s2 : gW} {l : u5} {o o1 : MO} {kv : List (List Key × D)} {nw : List D} {fa : kU} {ts t1 t2 : List B1} {ls : List u5} {ds : List mT}
theorem aCz {a c : D} {xs zs : List D} (h1 : CZ a w = some xs) (h2 : CZ c w = some zs) : T (EE a c w) P = (xs.length + zs.length ≤ sizeLine ∧ P (.ref w.length) (w ++ [.lst (xs ++ zs)])) := by
 simp only [EE, h1, h2]
 by_cases c : xs.length + zs.length ≤ sizeLine
 ·rw [if_pos c, bV]; simp [c]
 ·rw [if_neg c, aDU]; simp [c]
end
def aBn (x : Wx) : Wx := Z0 (aGr x []) []
def aDK (ls : List u5) : List u5 := (ls.filter fun l => decide (1 < l.left)).map fun l => { l with left := l.left - 1 }
section
variable (m : Mo) (b : Int) (h : Nat) (x : Wx) (ds : List mT)
def RT : gW := aGT m b h (aGn m h x) ds
def startB : Bt := bt0 (RT m b h x ds) x.s.fV.length
def aES : Bt := aE6 m b h (RT m b h x ds) (startB m b h x ds) x.s.fV
def doneB : Bt := aIq m h (RT m b h x ds) (aES m b h x ds) m.c8.length
def aE3 (fa : kU) : Wx := Z0 (aAn fa m b h (aBn x) ds) (aDK x.s.fV ++ (aAn fa m b h (aBn x) ds).s.fV)
def aCZ (fa : kU) : Wx := onT fa (aE3 m b h x ds fa) (doneB m b h x ds) (startB m b h x ds).uM.length
end
def iH : List Str := [("_law_model_here" : Str), ("_law_own_plan" : Str), ("_law_world_here" : Str), ("_law_acts" : Str), ("_law_lots" : Str), ("_law_state_here" : Str), ("_law_kept" : Str), ("_law_found" : Str), ("_law_news" : Str)]
def j4 (k : Bd) : MS :=
 (aI (aT (aJ (yA k.k) 2 aN (aA (aB 0) (aA (aB 2) aE))) (a7 5))
 (aI (aT (aP VU (aA (bQ (aA (aB 5) (aA (aB 3) (aA (aB 4) aE)))) aE)) (a7 6))
 (aI (aT (KU (PV k) 2 2 (j0 k) (aA (aB 1) (aA (aB 5) aE)) (aA (aB 3) (aA (aB 4) aE))) (a7 7))
 (aI (aT (aJ (CP k.k) 4 aN (aA (aB 0) (aA (aB 2) (aA (aB 3) (aA (aJ (oZ k.k) 1 aN (aA (aB 4) aE)) aE))))) (a7 8))
 (bE (jX (aD gA (aP VU (aA (aB 7) aE)) (aP VU (aA (bQ (aA (aB 8) (aA (aJ (yA k.k) 2 aN (aA (aB 0) (aA (aB 2) aE))) aE))) aE))) (aD gA (aP VU (aA (bQ (aA (aB 5) (aA (aB 3) (aA (aB 4) aE)))) aE)) (aB 6))))))))
def fK (k : Bd) : MF := bP (j4 k) iH
open PySem.W (dataLe)
section
variable {n B0 Q : Nat} {w w' w0 : W} {A A' A0 : xV} {x X X0 e : Wx} {y y' z : Bt} {σ : Sg} {P : D → W → Prop} {PL : List D → W → Prop} {kb : Bd} {k : bN} {i h p f q news : Nat} {m : Mo} {b FA : Int} {s s1 s2 : gW} {l : u5} {o o1 : MO} {kv : List (List Key × D)} {nw : List D} {fa : kU} {t : B1} {ts t1 t2 ls : List B1} {L : List u5} {S : List D} {ds : List mT}
theorem XS {us : List (Int × Int × Int)} (h : us.length ≤ 1000) : NF (us.map fN) w = some ((us.mergeSort FO).map fN) := by
 unfold NF
 rw [WZ, if_pos]
 refine ⟨?_, ?_, by rw [cg, sizeLine_eq]; omega⟩
 ·rw [au]
  intro d hd
  obtain ⟨t, _, rfl⟩ := dh.mp hd
  rfl
 ·have e : (us.map fN).map (J7 w) = us.map fun t => .tuple [.int t.1, .int t.2.1, .int t.2.2] := by rw [du]; rfl
  rw [e]
  unfold kL
  simp only [ao, Bool.or_eq_true, au]
  refine ⟨⟨fun p hp q hq => ?_, .inl fun p hp => ?_⟩, fun p hp => ?_⟩
  ·obtain ⟨t, _, rfl⟩ := dh.mp hp
   obtain ⟨u, _, rfl⟩ := dh.mp hq
   simp [PySem.W.alike, PySem.W.alikeAll]
  ·obtain ⟨t, _, rfl⟩ := dh.mp hp
   rfl
  ·obtain ⟨t, _, rfl⟩ := dh.mp hp
   simp [PyData.depth, PyData.depthAll]
end
section
variable {n B0 Q : Nat} {w w' : W} {A A' : xV} {x : Wx} {y : Bt} {P : D → W → Prop} {kb : Bd} {k : bN} {i h p f : Nat} {m : Mo} {b : Int} {s : gW} {ls : List B1} {ds : List mT}
theorem SF {us : List (Int × Int × Int)} (hl : us.length ≤ 1000) : T (lO [.lst (us.map fN)] w) P = P (.lst ((us.mergeSort FO).map fN)) w := by
 have : lO [.lst (us.map fN)] w = .ok (.lst ((us.mergeSort FO).map fN)) w := by
  have l : wG (.lst (us.map fN)) w = some (us.map fN) := rfl
  simp only [lO, l, Option.bind_some, XS (w := w) hl]
 rw [this, bV]
end
open PySem.W (dataLe)
abbrev Qd := Int × Int × Int × Int
def l4 (t : Qd) : List Int := [t.1, t.2.1, t.2.2.1, t.2.2.2]
def aHq (q : Role × Int) : Bool := decide (q.1 = .xT)
structure Nd where
 b : Bd
 N : Addr
def wA : List Str := [("self" : Str), ("numbers" : Str)]
def vZ (k : Nd) : MS :=
 (aI (aT (bQ (aA (cP k.b.k.aO ("every" : Str) (aB 0)) (aA (cP k.b.k.aO ("lost" : Str) (aB 0)) (aA (cP k.b.k.aO ("slow" : Str) (aB 0)) (aA (cP k.b.k.aO ("bears" : Str) (aB 0)) (aA (cP k.b.k.aO ("gap" : Str) (aB 0)) (aA (cP k.b.k.aO ("hold" : Str) (aB 0)) aE))))))) (a7 1))
 (bE (aD bS (aD bS (bQ (aA (cP k.b.k.aO ("ranks" : Str) (aB 0)) aE)) (aB 1)) (bQ (aA (cP k.b.k.aO ("takes" : Str) (aB 0)) (aA (cP k.b.k.aO ("ties" : Str) (aB 0)) (aA (cP k.b.k.aO ("hosts" : Str) (aB 0)) aE)))))))
def wH (k : Nd) : MF := bP (vZ k) wA
theorem FY (x0 : D) : begin wA [x0] = [some x0, none] := rfl
def P9 : List Str := [("self" : Str)]
def PQ (k : Nd) : MS :=
 (bE (aD a9 (cP k.N ("states_kept" : Str) (aB 0)) (yX vK (eC (.int 1)))))
def ON (k : Nd) : MF := bP (PQ k) P9
def S3 : List Str := [("self" : Str), ("deeds" : Str), ("fates" : Str), ("told" : Str), ("state" : Str)]
def TZ (k : Nd) : MS :=
 (aI (aEu k.N ("beats_begun" : Str) (aB 0) (eC (.int 1)))
 (aI (aIj (aI (aT (KU (PV k.b) 2 2 (j0 k.b) (aA (cP k.N ("plan" : Str) (aB 0)) (aA (wU k.N ("state" : Str) (ON k) 1 aN (aB 0) aE) aE)) (aA (aB 1) (aA (aB 2) aE))) (bY 2 (aK (a7 3) (aK (a7 4) bW))))
 (aI (cY (dO "list" dA (cP k.N ("states_kept" : Str) (aB 0)) (aA (aB 4) aE)))
 (cY (dO "list" dA (cP k.N ("news_kept" : Str) (aB 0)) (aA (aB 3) aE))))) (aEu k.N ("beats_left" : Str) (aB 0) (eC (.int 1))))
 (bE (aB 3))))
def TQ (k : Nd) : MF := bP (TZ k) S3
abbrev pC (k : Nd) : List D → List D → List D := fun xs zs => l7 [(0, 0), (1, 0), (1, 1)] xs zs []
section
variable {n B0 Q : Nat} {w w' w0 : W} {A A' A0 : xV} {x : Wx} {y : Bt} {P : D → W → Prop} {PF : Fl → W → Prop} {kb : Bd} {k : Nd} {i h p q f S N : Nat} {m : Mo} {b g l : Int} {s : gW} {lk : List (List (List Int))} {ts ls : List B1} {ds : List mT} {dd ff cur : D} {ss : List D} {ns : List (List D)}
def aBV (m : Mo) (b : Int) : D := .tup [.tup (m.c8.map C5), .int m.sA, .int m.FA, .int m.C6, .int b, .int m.gap, .int m.hold, .bl m.takes, .tup (m.xH.map fN), .int m.mX]
theorem OE (hp : iR k.b.k w p m b) : T (wH k [.ref p] w) P = P (aBV m b) w := by
 unfold wH vZ
 rw [eT, FY, bJ]
 simp only [aDG hp, aGc hp, aET hp, aDt hp, aHo hp, aFb hp, aC1 hp, aCD hp, ZM hp, aBT hp, zY, ae, aa, reduceCtorEq]
 exact propext ⟨fun h => h.2, fun h => ⟨szz _ (by simp), h⟩⟩
end
section
variable {n n' nn Q : Nat} {w w' : W} {A : xV} {x : Wx} {P : D → W → Prop} {i h p q F S N r : Nat} {m : Mo} {b g l : Int} {ds : List mT} {ls : List B1} {ns : List (List D)} {nw : List D} {ys : List D}
theorem World.mono (hW : World n w A x) (h : n' ≤ n) : World n' w A x := fun l o e => by
 obtain ⟨h1, h2, h3⟩ := hW l o e
 exact ⟨by omega, h2, h3⟩
end
abbrev NG := List mT × List B1
def aHh (m : Mo) (b : Int) (h : Nat) (x : Wx) (t : NG) : Wx := aCZ m b h x t.1 (faI (aEX t.2))
def UE (m : Mo) (b : Int) (h : Nat) : Wx → List NG → Wx
 | x, [] => x
 | x, t :: r => UE m b h (aHh m b h x t) r
section
variable {w w' : W} {P : D → W → Prop} {PF : Fl → W → Prop} {k : Nd} {q p S N q2 S2 N2 h j : Nat} {ss ss2 : List D} {cur cur2 : D} {ns ns2 : List (List D)} {g l g2 l2 b : Int} {m : Mo} {xs : List D}
theorem UP (xs : List D) (j : Nat) : Pc.cutD xs none (some (j : Int)) = xs.take j := by
 unfold Pc.cutD
 rw [HT.sIx_none, HT.sIx_nat, List.drop_zero, Nat.sub_zero]
 by_cases h : j ≤ xs.length
 ·rw [Nat.min_eq_left h]
 ·rw [Nat.min_eq_right (by omega), dq (bx _), dq (by omega)]
end
end Lw
namespace Pro
structure Dat where
 N : Nat
 mem : Nat → Prop
 R : Nat → Int
 takes : Bool
 sA : Nat
 FA : Nat
 C6 : Nat
 B : Nat
 wait : Nat → Int
 srv : Nat → Nat → Prop
 clk : Nat → Nat → Int
 snd : Nat → Nat → Prop
 hit : Nat → Nat → Nat → Prop
 lk : Nat → Nat → Nat → Nat
def Dat.ahead (D : Dat) (d c : Nat) : Prop := D.R d > D.R c ∨ (D.R d = D.R c ∧ d < c)
def Dat.P (D : Dat) : Nat := (D.FA + 1) * D.sA + D.C6 - 1
variable {D : Dat}
end Pro
namespace Lw
open PySem PySem.Spec PyProof.Rows L2 Pc Lb
section
variable {m : Mo} {b : Int} {h Q : Nat} {s : gW} {x e : Wx} {a c r : Nat} {q : Role × Int} {ds : List mT} {fa : kU} {l : u5}
def aIF (m : Mo) (b : Int) : Int := PR m b 1 + m.hold
end
section
variable {m : Mo} {b : Int} {h Q : Nat} {s : gW} {x x' e : Wx} {a c d r t : Nat} {p : Int} {q : Role × Int} {ds : List mT} {fa : kU} {l : u5} {ts : List NG}
open Classical in
def aHe (m : Mo) (b : Int) (h : Nat) : Nat := (h + 1) * m.C6.toNat + (aIF m b).toNat
def aHk (m : Mo) : Nat := (m.FA.toNat + 1) * m.sA.toNat + m.C6.toNat - 1
end
def jU : List Str := [("_law_net" : Str), ("_law_model_here" : Str), ("_law_world_here" : Str), ("_law_acts" : Str), ("_law_lots" : Str)]
def lS (k : Nd) : MS :=
 (aI (cY (aCg k.N ("turn" : Str) (TQ k) 1 2 (pC k) (aB 0) aE (aA (aB 3) (aA (aB 4) aE))))
 (cY (aJ (CP k.b.k) 4 aN (aA (aB 1) (aA (aB 2) (aA (aB 3) (aA (aJ (oZ k.b.k) 1 aN (aA (aB 4) aE)) aE)))))))
def lV (k : Nd) : MF := bP (lS k) jU
def Z4 (h : Nat) (s : gW) (v : Nat) : List Nat := (List.range h).filter fun c => s.living.getD c 0 == 1 && s.parts.getD c 0 == (v : Int)
section
variable {k : bN} {m : Mo} {b : Int} {h n i Q t F C : Nat} {w : W} {A : xV} {x e : Wx} {s : gW} {P : D → W → Prop} {kvs : List (List Key × D)} {xs ys : List D} {cs ds : List Nat}
theorem GI (xs : List D) (j : Nat) : Pc.cutD xs (some (j : Int)) none = xs.drop j := by
 unfold Pc.cutD
 rw [HT.sIx_none, HT.sIx_nat]
 rcases Nat.lt_or_ge j xs.length with c | c
 ·rw [Nat.min_eq_left (by omega), dq (by rw [List.length_drop]; omega)]
 ·rw [Nat.min_eq_right c, List.drop_length, List.drop_of_length_le c]
  simp
end
section
variable {k : Nd} {m : Mo} {b : Int} {h n0 p q S N TT Q i a c r : Nat} {ss : List D} {ns : List (List D)} {w w' w0 : W} {x : Wx} {P : D → W → Prop} {PF : Fl → W → Prop} {ds : List mT} {ls : List B1} {dd ff : D}
theorem e6 (s : gW) : atI [C5 s.living, C5 s.parts, C5 s.downs, .tup (s.c8.map C5), .tup (s.cE.map aGH), .tup (s.fV.map aD6), .tup (s.tA.map aEe), .tup (s.tables.map C5), .tup (s.asks.map Pc.pairD)] 6 = some (.tup (s.tA.map aEe)) := rfl
end
end Lw
namespace Pc
open PySem PySem.Spec PyProof.Rows L2
def TX {α : Type} (r : Res α) (P : XD → W → Prop) : Prop := match r with
 | .vY x w => P x w
 | _ => False
section
variable {α β : Type} {r r' : Res α} {f f' : α → W → Res β} {P : α → W → Prop} {PX : XD → W → Prop} {σ : Sg} {w : W} {a b a' b' : MS} {e e' : ME} {g : MG} {t : MT} {m m' : MF} {PF : Fl → W → Prop} {PD : D → W → Prop} {N : List Str} {ds : List D}
theorem TX.bind (h : T r fun a w => TX (f a w) PX) : TX (r.bind f) PX := by
 obtain ⟨a, w, e, p⟩ := h.ex
 rw [e]
 exact p
theorem TX.iQ (h : TX r PX) : TX (r.bind f) PX := by
 cases r with
 | vY x w => exact h
 | ok a w => exact h.elim
 | bad => exact h.elim
theorem TX.mono {PX' : XD → W → Prop} (h : TX r PX) (k : ∀ x w, PX x w → PX' x w) : TX r PX' := by
 cases r with
 | vY x w => exact k x w h
 | ok a w => exact h.elim
 | bad => exact h.elim
theorem aE5 (h : T (a σ w) fun f w1 => ∃ σ1, f = .nx σ1 ∧ TX (b σ1 w1) PX) : TX (aI a b σ w) PX :=
 TX.bind (h.mono fun f w1 _ ⟨σ1, e, q⟩ => by subst e; exact q)
theorem WB (h : TX (a σ w) PX) : TX (aI a b σ w) PX := TX.iQ h
theorem aB2 (h : TX (e σ w) PX) : TX (aT e g σ w) PX := TX.iQ h
theorem aDR (h : T (t σ w) fun c w1 => TX ((if c = true then a else b) σ w1) PX) : TX (dN t a b σ w) PX :=
 TX.bind (h.mono fun c w1 _ q => by cases c <;> exact q)
theorem ZN (h : TX (a (begin N ds) w) PX) : TX (bP a N ds w) PX := TX.iQ h
theorem OL {C : Addr} {z : Str} (h : T (e σ w) fun d w1 => PX ⟨.ref C, some [(z, d)]⟩ w1) : TX (AB C z e σ w) PX := TX.bind h
theorem aDq {n : Nat} {gd : List D → List D → List D} {ma : MA} (h : T (ma σ w) fun xs w1 => xs.length = n ∧ TX (m (gd xs []) w1) PX) : TX (aJ m n gd ma σ w) PX :=
 TX.bind (h.mono fun xs w1 _ ⟨e, q⟩ => by rw [if_pos e]; exact q)
theorem KG {it : l9} (Inv : Nat → Sg → W → Prop) {n : Nat} (hn : n < it.xs.length) (ok : ∀ i σ w, Inv i σ w → it.ok w)
  (step : ∀ i x σ w, i < n → it.xs[i]? = some x → Inv i σ w → T (g x σ w) fun σ1 w1 => T (a σ1 w1) (Lb.Turn (Inv (i + 1)) fun _ _ => False))
  (last : ∀ x σ w, it.xs[n]? = some x → Inv n σ w → T (g x σ w) fun σ1 w1 => TX (a σ1 w1) PX) :
  ∀ (j i : Nat) (σ : Sg) (w : W), i + j = n → Inv i σ w → TX (forL it g a (it.xs.drop i) σ w) PX
 | 0, i, σ, w, e, hI => by
  have e : i = n := by omega
  subst e
  rw [List.drop_eq_getElem_cons hn]
  unfold forL
  rw [if_pos (ok _ _ _ hI)]
  exact TX.bind ((last _ σ w (bj hn) hI).mono fun σ1 w1 _ q => TX.iQ q)
 | j + 1, i, σ, w, e, hI => by
  have hi : i < it.xs.length := by omega
  rw [List.drop_eq_getElem_cons hi]
  unfold forL
  rw [if_pos (ok _ _ _ hI)]
  refine TX.bind ((step i _ σ w (by omega) (bj hi) hI).mono fun σ1 w1 _ q => TX.bind (q.mono fun f w2 _ q2 => ?_))
  cases f with
  | nx s => exact KG Inv hn ok step last j (i + 1) s w2 (by omega) q2
  | ct s => exact KG Inv hn ok step last j (i + 1) s w2 (by omega) q2
  | bk s => exact q2.elim
  | rt d => exact q2.elim
theorem aFh {mi : MI} (h : T (mi σ w) fun it w1 => TX (forL it g a it.xs σ w1) PX) : TX (fX mi g a σ w) PX := TX.bind h
theorem aB3 {it : l9} (Inv : Nat → Sg → W → Prop) (n : Nat) (hn : n < it.xs.length) (ok : ∀ i σ w, Inv i σ w → it.ok w) (init : Inv 0 σ w)
  (step : ∀ i x σ w, i < n → it.xs[i]? = some x → Inv i σ w → T (g x σ w) fun σ1 w1 => T (a σ1 w1) (Lb.Turn (Inv (i + 1)) fun _ _ => False))
  (last : ∀ x σ w, it.xs[n]? = some x → Inv n σ w → T (g x σ w) fun σ1 w1 => TX (a σ1 w1) PX) : TX (forL it g a it.xs σ w) PX := by
 have := KG Inv hn ok step last n 0 σ w (by omega) init
 rw [List.drop_zero] at this
 exact this
theorem ZC {l : List (Addr × Bool)} {i : Nat} {ms : XD → MS} (h : T (a σ w) PF) : T (SJ a l i ms σ w) PF := by
 obtain ⟨f, w1, e, p⟩ := h.ex
 unfold SJ
 rw [e]
 exact T.of rfl p
theorem aAZ {l : List (Addr × Bool)} {i : Nat} {ms : XD → MS} (h : TX (a σ w) fun x w1 => kmL l x.cls = some true ∧ T (ms x (forget σ) w1) fun f w2 => PF (unI i f) w2) : T (SJ a l i ms σ w) PF := by
 unfold SJ
 cases hr : a σ w with
 | ok f w1 => rw [hr] at h; exact h.elim
 | bad => rw [hr] at h; exact h.elim
 | vY x w1 =>
  rw [hr] at h
  obtain ⟨h1, h2⟩ := h
  obtain ⟨f, w2, e, p⟩ := h2.ex
  simp only [h1, e]
  exact T.of rfl p
end
end Pc
namespace Lw
open PySem PySem.Spec PyProof.Rows L2 Pc Lb
section
variable {w : W} {P : D → W → Prop} {PI : l9 → W → Prop} {kvs : List (List Key × D)} {i a c d C : Nat}
theorem aB4 (h : w[i]? = some (.dT kvs)) : T (xA (.ref i) w) PI = PI ⟨kvs.map fun p => .tup (p.1.map gG), always⟩ (w.set i (.dG kvs)) := by
 have : xA (.ref i) w = .ok ⟨kvs.map fun p => .tup (p.1.map gG), always⟩ (w.set i (.dG kvs)) := by simp only [xA, h]
 rw [this, bV]
theorem Y7 {m : ME} {σ : Sg} : T (vI m σ w) PI = T (m σ w) fun d w1 => T (xA d w1) PI := by
 unfold vI
 rw [bK]
end
end Lw
namespace Lb
open PySem PySem.Spec PyProof.Rows L2 Pc
section
variable {w : W} {P : D → W → Prop} {k : bN} {tS : Addr} {p h n : Nat} {m : Mo} {b : Int} {s : gW} {d : D}
def aHC (m : Mo) : D → Bool
 | .int t => (decide (0 ≤ t) && decide (t ≤ 9)) && decide (t ∈ m.xH.map fun t => t.2.1)
 | _ => false
theorem qH (hp : iR k w p m b) (o : MoB m h) (e : jW (n + 1) d = true) (hP : P (.bl (aHC m d)) w) : T (oE k [.ref p, d] w) P := by
 have few := o.xH.few
 unfold oE tX
 rw [eT, C4]
 simp only [pS 0 9 e, zY, ae, aa, reduceCtorEq]
 cases d <;> simp only [aM, aHC, zY, ae, aa, reduceCtorEq] at hP ⊢ <;> first | exact hP | skip
 rename_i t
 by_cases hr : (decide (0 ≤ t) && decide (t ≤ 9)) = true
 ·rw [hr] at hP
  simp only [hr, Bool.true_and, ZM hp, zY, ae, aa, reduceCtorEq] at hP ⊢
  refine ⟨szz _ (by rw [cg]; omega), ?_⟩
  refine u6 (it := ⟨m.xH.map fN, always⟩) m.xH fN (fun t => .int t.2.1) rfl trivial (fun t _ => ?_) ?_
  ·simp only [eO, fN, zY, ae, aa, reduceCtorEq]
  have em : m.xH.map (fun t => D.int t.2.1) = (m.xH.map fun t => t.2.1).map D.int := by rw [du]; rfl
  rw [em]
  simp only [aIf, aCs, zY, ae, aa, reduceCtorEq]
  exact hP
 ·rw [Bool.not_eq_true] at hr
  rw [hr] at hP
  simp only [hr, Bool.false_and, zY, ae, aa, reduceCtorEq] at hP ⊢
  exact hP
end
end Lb
namespace Lw
open PySem PySem.Spec PyProof.Rows L2 Pc Lb
section
variable {w : W} {P : D → W → Prop} {PX : XD → W → Prop} {kn : Nd} {C C' : Addr} {p h q S N Q : Nat} {m : Mo} {b g l : Int} {x : Wx} {ds : List mT} {d ff : D} {rest : List D} {ss : List D} {ns : List (List D)} {fb : MF} {ls : List B1}
theorem aDm {σ : Sg} {e : ME} (h : TX (e σ w) PX) : TX (bE e σ w) PX := TX.iQ h
theorem VC {σ : Sg} {ma : MA} (h : TX (ma σ w) PX) : TX (bQ ma σ w) PX := TX.iQ h
end
end Lw
namespace Lw
open PySem PySem.Spec PyProof.Rows L2 Pc Lb TL
def VB (z : Str) : Prop := tl (reprText z) = 39 :: (tl z ++ [39]) ∧ 39 ∉ tl z
mutual
def fP : PyData → Prop
 | .int _ => True
 | .str z => VB z
 | .tuple xs => SimPs xs
 | _ => False
def SimPs : List PyData → Prop
 | [] => True
 | x :: xs => fP x ∧ SimPs xs
end
def lK : List PyData → List Nat
 | [] => [41]
 | y :: t => 44 :: 32 :: (tl y.shown ++ lK t)
def mM : List PyData → List Nat
 | [] => [41]
 | [x] => tl x.shown ++ [44, 41]
 | x :: y :: t => tl x.shown ++ (44 :: 32 :: (tl y.shown ++ lK t))
theorem IW : ∀ (x : PyData) (t : List PyData), joinL [44, 32] ((PyData.shownAll (x :: t)).map tl) ++ [41] = tl x.shown ++ lK t
 | x, [] => rfl
 | x, y :: t => by
  show (tl x.shown ++ ([44, 32] ++ joinL [44, 32] ((PyData.shownAll (y :: t)).map tl))) ++ [41] = _
  rw [cj, cj, IW y t]
  rfl
theorem y3 (xs : List PyData) : tl (PyData.tuple xs).shown = 40 :: mM xs := by
 have e : (PyData.tuple xs).shown = ("(" : Str) ++ Str.join ", " (PyData.shownAll xs) ++ (if (PyData.shownAll xs).length == 1 then ",)" else ")" : String) := by
  simp only [PyData.shown]
  rfl
 have e1 : tl ("(" : Str) = [40] := by decide +kernel
 have e2 : tl (", " : Str) = [44, 32] := by decide +kernel
 have e3 : tl (Str.ofString ",)") = [44, 41] := by decide +kernel
 have e4 : tl (Str.ofString ")") = [41] := by decide +kernel
 rw [e, tl_append, tl_append, tl_join, e1, e2]
 match xs with
 | [] => simp only [PyData.shownAll, cz, List.map_nil]; exact congrArg _ e4
 | [x] =>
  show ([40] ++ tl x.shown) ++ tl (Str.ofString ",)") = _
  rw [e3]; rfl
 | x :: y :: t =>
  show ([40] ++ joinL [44, 32] ((PyData.shownAll (x :: y :: t)).map tl)) ++ tl (Str.ofString ")") = _
  rw [e4, cj, IW]; rfl
theorem DL (n : Nat) : tl (PyData.int (Int.negSucc n)).shown = 45 :: numL (n + 1) := by
 have e : (PyData.int (Int.negSucc n)).shown = Str.ofString ("-" ++ toString ((n + 1 : Nat) : Int)) := by
  simp only [PyData.shown]
  rfl
 rw [e, tl_ofString, String.toList_append, List.map_append, ← tl_ofString, ← tl_ofString, tl_num]
 have : tl (Str.ofString "-") = [45] := by decide +kernel
 rw [this]
 rfl
theorem K8 (n : Nat) : tl (PyData.int (n : Nat)).shown = numL n := by
 simp only [PyData.shown]
 exact tl_num n
def Dl (r : List Nat) : Prop := r = [] ∨ (∃ t, r = 44 :: t) ∨ ∃ t, r = 41 :: t
theorem aEz : ∀ (a b : List Nat) {r r' : List Nat}, (∀ c ∈ a, 48 ≤ c ∧ c ≤ 57) → (∀ c ∈ b, 48 ≤ c ∧ c ≤ 57) → Dl r → Dl r' → a ++ r = b ++ r' → a = b ∧ r = r'
 | [], [], r, r', _, _, _, _, h => ⟨rfl, h⟩
 | x :: a, y :: b, r, r', ha, hb, d, d', h => by
  rw [ax, ax] at h
  injection h with h1 h2
  obtain ⟨e1, e2⟩ := aEz a b (fun c hc => ha c (br _ hc)) (fun c hc => hb c (br _ hc)) d d' h2
  exact ⟨by rw [h1, e1], e2⟩
 | x :: a, [], r, r', ha, _, _, d', h => by
  exfalso
  have hx := ha x (bc ..)
  rw [cc] at h
  rcases d' with e | ⟨t, e⟩ | ⟨t, e⟩ <;> rw [e, ax] at h <;> injection h <;> omega
 | [], y :: b, r, r', _, hb, d, _, h => by
  exfalso
  have hy := hb y (bc ..)
  rw [cc] at h
  rcases d with e | ⟨t, e⟩ | ⟨t, e⟩ <;> rw [e, ax] at h <;> injection h <;> omega
theorem marks : ∀ (a b : List Nat) {r r' : List Nat}, 39 ∉ a → 39 ∉ b → a ++ 39 :: r = b ++ 39 :: r' → a = b ∧ r = r'
 | [], [], _, _, _, _, h => ⟨rfl, by injection h⟩
 | x :: a, y :: b, r, r', ha, hb, h => by
  rw [ax, ax] at h
  injection h with h1 h2
  obtain ⟨e1, e2⟩ := marks a b (fun c => ha (br _ c)) (fun c => hb (br _ c)) h2
  exact ⟨by rw [h1, e1], e2⟩
 | x :: a, [], r, r', ha, _, h => by
  rw [ax, cc] at h
  injection h with h1 h2
  exact absurd (by rw [h1]; exact bc ..) ha
 | [], y :: b, r, r', _, hb, h => by
  rw [ax, cc] at h
  injection h with h1 h2
  exact absurd (by rw [← h1]; exact bc ..) hb
theorem y4 {z : Str} (h : VB z) : tl (PyData.str z).shown = 39 :: (tl z ++ [39]) := by
 simp only [PyData.shown]
 exact h.1
theorem vH : ∀ (p : PyData), fP p → ∃ c l, tl p.shown = c :: l ∧ ((∃ n : Nat, p = .int (n : Nat)) ∧ (48 ≤ c ∧ c ≤ 57) ∨ (∃ n, p = .int (Int.negSucc n)) ∧ c = 45 ∨ (∃ z, p = .str z ∧ VB z) ∧ c = 39 ∨ (∃ xs, p = .tuple xs ∧ SimPs xs) ∧ c = 40)
 | .int (Int.ofNat n), _ => by
  have e : tl (PyData.int (Int.ofNat n)).shown = numL n := K8 n
  obtain ⟨c, l, h⟩ := List.exists_cons_of_ne_nil (numL_ne n)
  refine ⟨c, l, e.trans h, .inl ⟨⟨n, rfl⟩, ?_⟩⟩
  have := numL_digits n c (by rw [h]; exact bc ..)
  omega
 | .int (Int.negSucc n), _ => ⟨45, _, DL n, .inr (.inl ⟨⟨n, rfl⟩, rfl⟩)⟩
 | .str z, h => by
  rw [fP] at h
  exact ⟨39, _, y4 h, .inr (.inr (.inl ⟨⟨z, rfl, h⟩, rfl⟩))⟩
 | .tuple xs, h => by
  rw [fP] at h
  exact ⟨40, _, y3 xs, .inr (.inr (.inr ⟨⟨xs, rfl, h⟩, rfl⟩))⟩
 | .none, h => by simp [fP] at h
 | .bool _, h => by simp [fP] at h
 | .list _, h => by simp [fP] at h
 | .dict _, h => by simp [fP] at h
theorem Dl.tail : ∀ (t : List PyData) (r : List Nat), Dl (lK t ++ r)
 | [], r => .inr (.inr ⟨r, rfl⟩)
 | y :: t, r => .inr (.inl ⟨_, rfl⟩)
theorem vB {p : PyData} (h : fP p) {s u : List Nat} (e : tl p.shown ++ s = 41 :: u) : False := by
 obtain ⟨c, l, e1, hc⟩ := vH p h
 rw [e1, ax] at e
 injection e with e2 _
 rcases hc with ⟨_, hc⟩ | ⟨_, hc⟩ | ⟨_, hc⟩ | ⟨_, hc⟩ <;> omega
mutual
theorem nK : ∀ (p : PyData), fP p → ∀ (q : PyData), fP q → ∀ (r r' : List Nat), Dl r → Dl r' → tl p.shown ++ r = tl q.shown ++ r' → p = q ∧ r = r'
 | .int (Int.ofNat n), hp, q, hq, r, r', d, d', h => by
  have e : tl (PyData.int (Int.ofNat n)).shown = numL n := K8 n
  have dg : ∀ n c, c ∈ numL n → 48 ≤ c ∧ c ≤ 57 := fun n c hc => by
   have := numL_digits n c hc
   omega
  obtain ⟨c', l', e', hc'⟩ := vH (.int (Int.ofNat n)) hp
  obtain ⟨c, l, eq, hc⟩ := vH q hq
  have hcc : c' = c := by rw [e', eq, ax, ax] at h; injection h
  have h48 : 48 ≤ c' ∧ c' ≤ 57 := dg n c' (by rw [← e, e']; exact bc ..)
  rcases hc with ⟨⟨k, rfl⟩, _⟩ | ⟨_, hc⟩ | ⟨_, hc⟩ | ⟨_, hc⟩
  ·rw [e, K8] at h
   obtain ⟨e1, e2⟩ := aEz _ _ (dg n) (dg k) d d' h
   rw [numL_inj e1]
   exact ⟨rfl, e2⟩
  all_goals exfalso; omega
 | .int (Int.negSucc n), hp, q, hq, r, r', d, d', h => by
  have dg : ∀ n c, c ∈ numL n → 48 ≤ c ∧ c ≤ 57 := fun n c hc => by
   have := numL_digits n c hc
   omega
  obtain ⟨c, l, eq, hc⟩ := vH q hq
  have hcc : 45 = c := by rw [DL, eq, ax, ax] at h; injection h
  rcases hc with ⟨_, hc⟩ | ⟨⟨k, rfl⟩, _⟩ | ⟨_, hc⟩ | ⟨_, hc⟩
  ·omega
  ·rw [DL, DL, ax, ax] at h
   injection h with _ h
   obtain ⟨e1, e2⟩ := aEz _ _ (dg (n + 1)) (dg (k + 1)) d d' h
   have := numL_inj e1
   rw [show n = k by omega]
   exact ⟨rfl, e2⟩
  all_goals exfalso; omega
 | .str z, hp, q, hq, r, r', d, d', h => by
  rw [fP] at hp
  obtain ⟨c, l, eq, hc⟩ := vH q hq
  have hcc : 39 = c := by rw [y4 hp, eq, ax, ax] at h; injection h
  rcases hc with ⟨_, hc⟩ | ⟨_, hc⟩ | ⟨⟨k, rfl, hk⟩, _⟩ | ⟨_, hc⟩
  ·omega
  ·omega
  ·rw [y4 hp, y4 hk, ax, ax] at h
   injection h with _ h
   rw [cj, cj] at h
   obtain ⟨e1, e2⟩ := marks _ _ hp.2 hk.2 h
   rw [ext_tl e1]
   exact ⟨rfl, e2⟩
  ·omega
 | .tuple xs, hp, q, hq, r, r', d, d', h => by
  rw [fP] at hp
  obtain ⟨c, l, eq, hc⟩ := vH q hq
  have hcc : 40 = c := by rw [y3, eq, ax, ax] at h; injection h
  rcases hc with ⟨_, hc⟩ | ⟨_, hc⟩ | ⟨_, hc⟩ | ⟨⟨ys, rfl, hk⟩, _⟩
  ·omega
  ·omega
  ·omega
  ·rw [y3, y3, ax, ax] at h
   injection h with _ h
   obtain ⟨e1, e2⟩ := tup_key xs hp ys hk r r' h
   exact ⟨by rw [e1], e2⟩
 | .none, h, _, _, _, _, _, _, _ => by simp [fP] at h
 | .bool _, h, _, _, _, _, _, _, _ => by simp [fP] at h
 | .list _, h, _, _, _, _, _, _, _ => by simp [fP] at h
 | .dict _, h, _, _, _, _, _, _, _ => by simp [fP] at h
theorem tup_key : ∀ (xs : List PyData), SimPs xs → ∀ (ys : List PyData), SimPs ys → ∀ (r r' : List Nat), mM xs ++ r = mM ys ++ r' → xs = ys ∧ r = r'
 | [], hx, [], hy, r, r', h => ⟨rfl, by simp only [mM, ax, cc] at h; injection h⟩
 | [], hx, [y], hy, r, r', h => by
  simp only [SimPs] at hy
  simp only [mM, ax, cc, cj] at h
  exact (vB hy.1 h.symm).elim
 | [], hx, y :: y2 :: ys, hy, r, r', h => by
  simp only [SimPs] at hy
  simp only [mM, ax, cc, cj] at h
  exact (vB hy.1 h.symm).elim
 | [x], hx, [], hy, r, r', h => by
  simp only [SimPs] at hx
  simp only [mM, ax, cc, cj] at h
  exact (vB hx.1 h).elim
 | [x], hx, [y], hy, r, r', h => by
  simp only [SimPs] at hx hy
  simp only [mM, ax, cc, cj] at h
  obtain ⟨e1, e2⟩ := nK x hx.1 y hy.1 _ _ (.inr (.inl ⟨_, rfl⟩)) (.inr (.inl ⟨_, rfl⟩)) h
  injection e2 with _ e2
  injection e2 with _ e2
  exact ⟨by rw [e1], e2⟩
 | [x], hx, y :: y2 :: ys, hy, r, r', h => by
  simp only [SimPs] at hx hy
  simp only [mM, ax, cc, cj] at h
  obtain ⟨e1, e2⟩ := nK x hx.1 y hy.1 _ _ (.inr (.inl ⟨_, rfl⟩)) (.inr (.inl ⟨_, rfl⟩)) h
  injection e2 with _ e2
  injection e2 with e2 _
  omega
 | x :: x2 :: xs, hx, [], hy, r, r', h => by
  simp only [SimPs] at hx
  simp only [mM, ax, cc, cj] at h
  exact (vB hx.1 h).elim
 | x :: x2 :: xs, hx, [y], hy, r, r', h => by
  simp only [SimPs] at hx hy
  simp only [mM, ax, cc, cj] at h
  obtain ⟨e1, e2⟩ := nK x hx.1 y hy.1 _ _ (.inr (.inl ⟨_, rfl⟩)) (.inr (.inl ⟨_, rfl⟩)) h
  injection e2 with _ e2
  injection e2 with e2 _
  omega
 | x :: x2 :: xs, hx, y :: y2 :: ys, hy, r, r', h => by
  simp only [SimPs] at hx hy
  simp only [mM, ax, cc, cj] at h
  obtain ⟨e1, e2⟩ := nK x hx.1 y hy.1 _ _ (.inr (.inl ⟨_, rfl⟩)) (.inr (.inl ⟨_, rfl⟩)) h
  injection e2 with _ e2
  injection e2 with _ e2
  obtain ⟨e3, e4⟩ := nK x2 hx.2.1 y2 hy.2.1 _ _ (Dl.tail _ _) (Dl.tail _ _) e2
  obtain ⟨e5, e6⟩ := tail_key xs hx.2.2 ys hy.2.2 r r' e4
  exact ⟨by rw [e1, e3, e5], e6⟩
theorem tail_key : ∀ (xs : List PyData), SimPs xs → ∀ (ys : List PyData), SimPs ys → ∀ (r r' : List Nat), lK xs ++ r = lK ys ++ r' → xs = ys ∧ r = r'
 | [], _, [], _, r, r', h => ⟨rfl, by simp only [lK, ax, cc] at h; injection h⟩
 | [], _, y :: ys, _, r, r', h => by
  simp only [lK, ax, cc] at h
  injection h with h _
  omega
 | x :: xs, _, [], _, r, r', h => by
  simp only [lK, ax, cc] at h
  injection h with h _
  omega
 | x :: xs, hx, y :: ys, hy, r, r', h => by
  simp only [SimPs] at hx hy
  simp only [lK, ax, cc, cj] at h
  injection h with _ h
  injection h with _ h
  obtain ⟨e1, e2⟩ := nK x hx.1 y hy.1 _ _ (Dl.tail _ _) (Dl.tail _ _) h
  obtain ⟨e3, e4⟩ := tail_key xs hx.2 ys hy.2 r r' e2
  exact ⟨by rw [e1, e3], e4⟩
end
mutual
theorem aCa : ∀ (p : PyData), fP p → ∀ (q : PyData), fP q → (PyData.eqv p q = true ↔ p = q)
 | .int i, _, .int j, _ => by simp [PyData.eqv]
 | .str x, _, .str y, _ => by simp [PyData.eqv]
 | .tuple xs, hp, .tuple ys, hq => by
  rw [fP] at hp hq
  rw [PyData.eqv, eqvs_sim xs hp ys hq]
  simp
 | .int i, _, .str y, _ => by simp [PyData.eqv]
 | .int i, _, .tuple y, _ => by simp [PyData.eqv]
 | .str i, _, .int y, _ => by simp [PyData.eqv]
 | .str i, _, .tuple y, _ => by simp [PyData.eqv]
 | .tuple i, _, .int y, _ => by simp [PyData.eqv]
 | .tuple i, _, .str y, _ => by simp [PyData.eqv]
 | .none, h, _, _ => by simp [fP] at h
 | .bool _, h, _, _ => by simp [fP] at h
 | .list _, h, _, _ => by simp [fP] at h
 | .dict _, h, _, _ => by simp [fP] at h
 | _, _, .none, h => by simp [fP] at h
 | _, _, .bool _, h => by simp [fP] at h
 | _, _, .list _, h => by simp [fP] at h
 | _, _, .dict _, h => by simp [fP] at h
theorem eqvs_sim : ∀ (xs : List PyData), SimPs xs → ∀ (ys : List PyData), SimPs ys → (PyData.eqvAll xs ys = true ↔ xs = ys)
 | [], _, [], _ => by simp [PyData.eqvAll]
 | [], _, y :: ys, _ => by simp [PyData.eqvAll]
 | x :: xs, _, [], _ => by simp [PyData.eqvAll]
 | x :: xs, hx, y :: ys, hy => by
  simp only [SimPs] at hx hy
  rw [PyData.eqvAll, ao, aCa x hx.1 y hy.1, eqvs_sim xs hx.2 ys hy.2, List.cons.injEq]
end
mutual
def fS : D → Prop
 | .int _ => True
 | .str z => VB z
 | .tup xs => SimDs xs
 | _ => False
def SimDs : List D → Prop
 | [] => True
 | x :: xs => fS x ∧ SimDs xs
end
mutual
theorem LC : ∀ (d : D) {f : Nat → Option PyData} {p : PyData}, fS d → d.fW f = some p → fP p
 | .int i, f, p, _, h1 => by
  simp only [D.fW, aj] at h1
  subst h1
  simp [fP]
 | .str i, f, p, s1, h1 => by
  simp only [D.fW, aj] at h1
  simp only [fS] at s1
  subst h1
  simp [fP, s1]
 | .tup i, f, p, s1, h1 => by
  simp only [D.fW, aq] at h1
  obtain ⟨ps, h1, rfl⟩ := h1
  simp only [fS] at s1
  simp only [fP]
  exact simps_of i s1 h1
 | .non, _, _, h, _ => by simp [fS] at h
 | .bl _, _, _, h, _ => by simp [fS] at h
 | .ty _, _, _, h, _ => by simp [fS] at h
 | .con _, _, _, h, _ => by simp [fS] at h
 | .lst _, _, _, h, _ => by simp [fS] at h
 | .oI _, _, _, h, _ => by simp [fS] at h
 | .lY _, _, _, h, _ => by simp [fS] at h
 | .zX _ _, _, _, h, _ => by simp [fS] at h
 | .ref _, _, _, h, _ => by simp [fS] at h
theorem simps_of : ∀ (xs : List D) {f : Nat → Option PyData} {ps : List PyData}, SimDs xs → D.pysR f xs = some ps → SimPs ps
 | [], f, ps, _, h1 => by
  simp only [D.pysR, aj] at h1
  subst h1
  simp [SimPs]
 | x :: xs, f, ps, s1, h1 => by
  simp only [D.pysR] at h1
  split at h1
  ·rename_i p ps e1 e2
   cases h1
   simp only [SimDs] at s1
   simp only [SimPs]
   exact ⟨LC x s1.1 e1, simps_of xs s1.2 e2⟩
  ·cases h1
end
mutual
theorem aEH : ∀ (d e : D) {f g : Nat → Option PyData} {p q : PyData}, fS d → fS e → d.fW f = some p → e.fW g = some q → fP p ∧ fP q ∧ (p = q ↔ d = e)
 | .int i, .int j, f, g, p, q, _, _, h1, h2 => by
  simp only [D.fW, aj] at h1 h2
  subst h1 h2
  simp [fP]
 | .str i, .str j, f, g, p, q, s1, s2, h1, h2 => by
  simp only [D.fW, aj] at h1 h2
  simp only [fS] at s1 s2
  subst h1 h2
  simp [fP, s1, s2]
 | .tup i, .tup j, f, g, p, q, s1, s2, h1, h2 => by
  simp only [D.fW, aq] at h1 h2
  obtain ⟨ps, h1, rfl⟩ := h1
  obtain ⟨qs, h2, rfl⟩ := h2
  simp only [fS] at s1 s2
  obtain ⟨a1, a2, a3⟩ := pys_sim i j s1 s2 h1 h2
  simp only [fP, PyData.tuple.injEq, D.tup.injEq]
  exact ⟨a1, a2, a3⟩
 | .int i, .str j, f, g, p, q, s1, s2, h1, h2 => by
  simp only [D.fW, aj] at h1 h2
  simp only [fS] at s1 s2
  subst h1 h2
  simp [fP, s2]
 | .str i, .int j, f, g, p, q, s1, s2, h1, h2 => by
  simp only [D.fW, aj] at h1 h2
  simp only [fS] at s1 s2
  subst h1 h2
  simp [fP, s1]
 | .tup i, .int j, f, g, p, q, s1, s2, h1, h2 => by
  simp only [D.fW, aj, aq] at h1 h2
  obtain ⟨ps, h1, rfl⟩ := h1
  subst h2
  simp only [fS] at s1 s2
  have a1 := simps_of i s1 h1
  simp [fP, a1]
 | .tup i, .str j, f, g, p, q, s1, s2, h1, h2 => by
  simp only [D.fW, aj, aq] at h1 h2
  obtain ⟨ps, h1, rfl⟩ := h1
  subst h2
  simp only [fS] at s1 s2
  have a1 := simps_of i s1 h1
  simp [fP, a1, s2]
 | .int i, .tup j, f, g, p, q, s1, s2, h1, h2 => by
  simp only [D.fW, aj, aq] at h1 h2
  obtain ⟨ps, h2, rfl⟩ := h2
  subst h1
  simp only [fS] at s1 s2
  have a1 := simps_of j s2 h2
  simp [fP, a1]
 | .str i, .tup j, f, g, p, q, s1, s2, h1, h2 => by
  simp only [D.fW, aj, aq] at h1 h2
  obtain ⟨ps, h2, rfl⟩ := h2
  subst h1
  simp only [fS] at s1 s2
  have a1 := simps_of j s2 h2
  simp [fP, a1, s1]
 | .non, _, _, _, _, _, h, _, _, _ => by simp [fS] at h
 | .bl _, _, _, _, _, _, h, _, _, _ => by simp [fS] at h
 | .ty _, _, _, _, _, _, h, _, _, _ => by simp [fS] at h
 | .con _, _, _, _, _, _, h, _, _, _ => by simp [fS] at h
 | .lst _, _, _, _, _, _, h, _, _, _ => by simp [fS] at h
 | .oI _, _, _, _, _, _, h, _, _, _ => by simp [fS] at h
 | .lY _, _, _, _, _, _, h, _, _, _ => by simp [fS] at h
 | .zX _ _, _, _, _, _, _, h, _, _, _ => by simp [fS] at h
 | .ref _, _, _, _, _, _, h, _, _, _ => by simp [fS] at h
 | _, .non, _, _, _, _, _, h, _, _ => by simp [fS] at h
 | _, .bl _, _, _, _, _, _, h, _, _ => by simp [fS] at h
 | _, .ty _, _, _, _, _, _, h, _, _ => by simp [fS] at h
 | _, .con _, _, _, _, _, _, h, _, _ => by simp [fS] at h
 | _, .lst _, _, _, _, _, _, h, _, _ => by simp [fS] at h
 | _, .oI _, _, _, _, _, _, h, _, _ => by simp [fS] at h
 | _, .lY _, _, _, _, _, _, h, _, _ => by simp [fS] at h
 | _, .zX _ _, _, _, _, _, _, h, _, _ => by simp [fS] at h
 | _, .ref _, _, _, _, _, _, h, _, _ => by simp [fS] at h
theorem pys_sim : ∀ (xs ys : List D) {f g : Nat → Option PyData} {ps qs : List PyData}, SimDs xs → SimDs ys → D.pysR f xs = some ps → D.pysR g ys = some qs → SimPs ps ∧ SimPs qs ∧ (ps = qs ↔ xs = ys)
 | [], [], f, g, ps, qs, s1, s2, h1, h2 => by
  simp only [D.pysR, aj] at h1 h2
  subst h1 h2
  simp [SimPs]
 | x :: xs, [], f, g, ps, qs, s1, s2, h1, h2 => by
  simp only [D.pysR, aj] at h1 h2
  subst h2
  split at h1
  ·rename_i p ps e1 e2
   cases h1
   simp only [SimDs] at s1
   have a1 := LC x s1.1 e1
   have b1 := simps_of xs s1.2 e2
   simp [SimPs, a1, b1]
  ·cases h1
 | [], y :: ys, f, g, ps, qs, s1, s2, h1, h2 => by
  simp only [D.pysR, aj] at h1 h2
  subst h1
  split at h2
  ·rename_i p ps e1 e2
   cases h2
   simp only [SimDs] at s2
   have a1 := LC y s2.1 e1
   have b1 := simps_of ys s2.2 e2
   simp [SimPs, a1, b1]
  ·cases h2
 | x :: xs, y :: ys, f, g, ps, qs, s1, s2, h1, h2 => by
  simp only [D.pysR] at h1 h2
  split at h1
  ·split at h2
   ·rename_i p ps e1 e2 _ _ q qs e3 e4
    cases h1
    cases h2
    simp only [SimDs] at s1 s2
    obtain ⟨a1, a2, a3⟩ := aEH x y s1.1 s2.1 e1 e3
    obtain ⟨b1, b2, b3⟩ := pys_sim xs ys s1.2 s2.2 e2 e4
    exact ⟨⟨a1, b1⟩, ⟨a2, b2⟩, by rw [List.cons.injEq, List.cons.injEq, a3, b3]⟩
   ·cases h2
  ·cases h1
end
section
variable {w : W} {d e : D} {u v : PyData}
theorem SimDs.all : ∀ {xs : List D}, (∀ x ∈ xs, fS x) → SimDs xs
 | [], _ => by simp only [SimDs]
 | x :: xs, h => by
  simp only [SimDs]
  exact ⟨h x (bc ..), SimDs.all fun y hy => h y (br _ hy)⟩
end
mutual
/-- plain things, empty dicts among them -/
def hY : PyData → Bool
 | .none | .bool _ => true
 | .int i => decide (i.natAbs < 10 ^ 40)
 | .str x => PyData.strOk (reprText x) && PyData.strOk x && PyData.leavesShort 60 (.str x) && decide (x.length ≤ 100)
 | .list xs | .tuple xs => plainXs xs
 | .dict kvs => kvs.isEmpty
def plainXs : List PyData → Bool
 | [] => true
 | x :: xs => hY x && plainXs xs
end
mutual
theorem LM : ∀ p : PyData, hY p = true → PyData.strOk p.shown = true
 | .none, _ => fL _
 | .bool b, _ => by cases b <;> exact fL _
 | .int i, _ => fL _
 | .str x, h => by
  simp only [hY, ao] at h
  exact h.1.1.1
 | .list xs, h => by
  rw [hY] at h
  show PyData.strOk (textFrom 0 "[" (PyData.shownAll xs) ++ "]") = true
  rw [hV, oM _ _ _ (fL _) (plainXs_shown xs h), fL]
  rfl
 | .tuple xs, h => by
  rw [hY] at h
  show PyData.strOk (tupleText (PyData.shownAll xs)) = true
  unfold tupleText
  rw [hV, hV, fL, zO _ (fL _) _ (plainXs_shown xs h)]
  split <;> rw [fL] <;> rfl
 | .dict [], _ => by decide +kernel
 | .dict (_ :: _), h => by simp [hY] at h
theorem plainXs_shown : ∀ ps : List PyData, plainXs ps = true → ∀ t ∈ PyData.shownAll ps, PyData.strOk t = true
 | [], _, t, ht => by simp [PyData.shownAll] at ht
 | p :: ps, h, t, ht => by
  simp only [plainXs, ao] at h
  simp only [PyData.shownAll, bh] at ht
  rcases ht with rfl | ht
  ·exact LM p h.1
  ·exact plainXs_shown ps h.2 t ht
end
mutual
theorem T6 : ∀ p : PyData, hY p = true → p.leavesShort 60 = true ∧ p.showable = true
 | .none, _ => by simp [PyData.leavesShort, PyData.showable]
 | .bool b, _ => by simp [PyData.leavesShort, PyData.showable]
 | .int i, h => by
  simp only [hY, ak] at h
  exact ⟨vG h, x9 h⟩
 | .str x, h => by
  simp only [hY, ao] at h
  exact ⟨h.1.2, by simp [PyData.showable]⟩
 | .list xs, h => by
  rw [hY] at h
  have := plainXs_all xs h
  simp only [PyData.leavesShort, PyData.showable]
  exact this
 | .tuple xs, h => by
  rw [hY] at h
  have := plainXs_all xs h
  simp only [PyData.leavesShort, PyData.showable]
  exact this
 | .dict [], _ => by decide +kernel
 | .dict (_ :: _), h => by simp [hY] at h
theorem plainXs_all : ∀ p : List PyData, plainXs p = true → PyData.leavesShortAll 60 p = true ∧ PyData.showableAll p = true
 | [], _ => by simp [PyData.leavesShortAll, PyData.showableAll]
 | p :: ps, h => by
  simp only [plainXs, ao] at h
  obtain ⟨a1, a2⟩ := T6 p h.1
  obtain ⟨b1, b2⟩ := plainXs_all ps h.2
  simp only [PyData.leavesShortAll, PyData.showableAll, a1, a2, b1, b2]
  simp
end
mutual
theorem X8 : ∀ p : PyData, gP p = true → hY p = true
 | .none, _ => rfl
 | .bool b, _ => rfl
 | .int i, h => by rw [gP] at h; rw [hY]; exact h
 | .str x, h => by rw [gP] at h; rw [hY]; exact h
 | .list xs, h => by rw [gP] at h; rw [hY]; exact plainXs_of xs h
 | .tuple xs, h => by rw [gP] at h; rw [hY]; exact plainXs_of xs h
 | .dict _, h => by simp [gP] at h
theorem plainXs_of : ∀ p : List PyData, plainPs p = true → plainXs p = true
 | [], _ => rfl
 | p :: ps, h => by
  simp only [plainPs, ao] at h
  simp only [plainXs, X8 p h.1, plainXs_of ps h.2, Bool.and_self]
end
mutual
theorem aF2 {f g : Nat → Option PyData} (hfg : ∀ i p, f i = some p → g i = some p) : ∀ (d : D) {p : PyData}, d.fW f = some p → d.fW g = some p
 | .non, _, h => by simpa only [D.fW] using h
 | .bl _, _, h => by simpa only [D.fW] using h
 | .int _, _, h => by simpa only [D.fW] using h
 | .str _, _, h => by simpa only [D.fW] using h
 | .ty _, _, h => by simp [D.fW] at h
 | .con _, _, h => by simp [D.fW] at h
 | .zX _ _, _, h => by simp [D.fW] at h
 | .ref i, _, h => by
  simp only [D.fW] at h ⊢
  exact hfg i _ h
 | .tup xs, _, h => by
  simp only [D.fW, aq] at h ⊢
  obtain ⟨ps, h1, h2⟩ := h
  exact ⟨ps, pysR_le hfg xs h1, h2⟩
 | .lY xs, _, h => by
  simp only [D.fW, aq] at h ⊢
  obtain ⟨ps, h1, h2⟩ := h
  exact ⟨ps, pysR_le hfg xs h1, h2⟩
 | .lst xs, _, h => by
  simp only [D.fW, aq] at h ⊢
  obtain ⟨ps, h1, h2⟩ := h
  exact ⟨ps, pysR_le hfg xs h1, h2⟩
 | .oI xs, _, h => by
  simp only [D.fW, aq] at h ⊢
  obtain ⟨ps, h1, h2⟩ := h
  exact ⟨ps, pysR_le hfg xs h1, h2⟩
theorem pysR_le {f g : Nat → Option PyData} (hfg : ∀ i p, f i = some p → g i = some p) : ∀ (ds : List D) {ps : List PyData}, D.pysR f ds = some ps → D.pysR g ds = some ps
 | [], _, h => by simpa only [D.pysR] using h
 | d :: ds, _, h => by
  simp only [D.pysR] at h ⊢
  split at h
  ·rename_i p ps e1 e2
   rw [aF2 hfg d e1, pysR_le hfg ds e2]
   exact h
  ·cases h
end
end Lw
namespace Lw
open PySem PySem.Spec PyProof.Rows L2 Pc Lb
def aGd (h : Nat) (s : gW) (a v : Nat) : List Nat := (Z4 h s v).filter fun c => aHq (DJ s a c)
inductive Mark where
 | one (a v : Nat) | two (a v c d : Nat)
def Mark.a : Mark → Nat
 | .one a _ => a
 | .two a _ _ _ => a
def Mark.v : Mark → Nat
 | .one _ v => v
 | .two _ v _ _ => v
def Mark.key : Mark → List Key
 | .one a v => [.inl (a : Nat), .inl (v : Nat)]
 | .two a v c d => [.inl (a : Nat), .inl (v : Nat), .inl (c : Nat), .inl (d : Nat)]
def Mark.hold (h : Nat) (s : gW) : Mark → Prop
 | .one a v => Z4 h s v ≠ [] ∧ aGd h s a v = []
 | .two a v c d => c ∈ aGd h s a v ∧ d ∈ aGd h s a v ∧ c ≠ d
section
variable {m : Mo} {b : Int} {h Q : Nat} {x : Wx} {ts : List NG} {u : NG} {a v c d t : Nat} {mk : Mark} {s1 s2 : gW} {ds : List mT} {ls : List B1}
def Mark.most (m : Mo) (b : Int) (h : Nat) : Mark → Nat
 | .one _ _ => aHe m b h
 | .two _ _ _ _ => aHk m
end
def aAp : MS :=
 (aI (aT (aD bS (aD a9 (aB 0) (eC (.str ("at" : Str)))) (eC (.int 1))) (dR (aB 0) (eC (.str ("at" : Str)))))
 (aI (aT (aD a9 (aB 0) (eC (.str ("at" : Str)))) (a7 2))
 (aI (aT (aD a9 (aB 0) (eC (.str ("cells" : Str)))) (a7 3))
 (aI (aT (aD bS (aD a9 (aB 0) (eC (.str ("sum" : Str)))) (aB 2)) (a7 4))
 (aI (dN (bH (aD sL (aB 3) (eI aE))) (aI (aT (dO "list" BD (aB 3) (aA (eC (.int 0)) aE)) (a7 4))
 (dN (bH (aD geM (aB 4) (aD G0 (eC (.int 10)) (eC (.int 18))))) (aI (cY (dO "list" u7 (aB 3) (aA (eC (.int 0)) (aA (aD wB (aB 4) (aB 1)) aE))))
 (bE (aD kN (aB 4) (aB 1)))) bC)) bC)
 (aI (aT (aD kN (aD bS (aD bS (aD mulM (aD kN (aB 4) (eC (.int 2147483647))) (eC (.int 48271))) (aD mulM (aD mulM (eC (.int 69621)) (aB 2)) (aB 2))) (eC (.int 7919))) (eC (.int 2147483629))) (a7 5))
 (aI (aT (aD kN (aD mulM (aB 5) (aB 5)) (eC (.int 2147483587))) (a7 5))
 (bE (aD kN (aD wB (aD kN (aD mulM (aB 5) (aD bS (aB 5) (eC (.int 39373)))) (eC (.int 2147483563))) (eC (.int 64))) (aB 1))))))))))
def aBo : List Str := [("_law_deck_here" : Str), ("_law_bound" : Str), ("_law_at" : Str), ("_law_cells" : Str), ("_law_seed" : Str), ("_law_number" : Str)]
def rX : MF := bP aAp aBo
def tT (c : Nat) (a sm : Int) : List (L2.Key × D) := [(.inr ("cells" : Str), .ref c), (.inr ("at" : Str), .int a), (.inr ("sum" : Str), .int sm)]
def cO (w : W) (r c b : Nat) : Prop := r ≠ c ∧ ∃ (cells : List Int) (sm : Int) (a : Nat), w[r]? = some (.dK (tT c a sm)) ∧ w[c]? = some (.lst (cells.map D.int)) ∧ cells.length ≤ 63 ∧ a + b ≤ 2 ^ 60
section
variable {w w' : W} {P : D → W → Prop} {r c b : Nat} {size : Int}
theorem aIJ (x0 x1 : D) : begin aBo [x0, x1] = [some x0, some x1, none, none, none, none] := rfl
theorem aHT : T (G0 (.int 10) (.int 18) w) P = P (.int (10 ^ 18)) w := by
 have : G0 (.int 10) (.int 18) w = .ok (.int (10 ^ 18)) w := by unfold G0; rfl
 rw [this, bV]
theorem DK {a c : Int} (h : -(2 ^ 64) < a ∧ a < 2 ^ 64) : D3 a c = true := by
 unfold D3
 rw [decide_eq_true h.1, decide_eq_true h.2]
 rfl
theorem U0 {a c : Int} (h : -(2 ^ 64) < c ∧ c < 2 ^ 64) : D3 a c = true := by
 unfold D3
 rw [decide_eq_true h.1, decide_eq_true h.2]
 simp
theorem YN {cell a : Int} {s3 : Option D} (h0 : 0 < size) (ha : 0 ≤ a ∧ a < 2 ^ 61) (hP : ∀ v, 0 ≤ v → v < size → P (.int v) w) :
  T (aI (aT (aD kN (aD bS (aD bS (aD mulM (aD kN (aB 4) (eC (.int 2147483647))) (eC (.int 48271))) (aD mulM (aD mulM (eC (.int 69621)) (aB 2)) (aB 2))) (eC (.int 7919))) (eC (.int 2147483629))) (a7 5))
 (aI (aT (aD kN (aD mulM (aB 5) (aB 5)) (eC (.int 2147483587))) (a7 5))
 (bE (aD kN (aD wB (aD kN (aD mulM (aB 5) (aD bS (aB 5) (eC (.int 39373)))) (eC (.int 2147483563))) (eC (.int 64))) (aB 1))))
   [some (.ref r), some (.int size), some (.int a), s3, some (.int cell), none] w) fun f w1 => match f with
   | .nx _ => P .non w1
   | .rt d => P d w1
   | _ => False := by
 rw [bJ]
 simp only [vS, zA, l5, rZ, zY, ae, aa, reduceCtorEq]
 refine ⟨by omega, U0 ⟨by omega, by omega⟩, DK ⟨by omega, by omega⟩, U0 ⟨by omega, by omega⟩, by omega, ?_⟩
 obtain ⟨n, en⟩ : ∃ n, n = (cell % 2147483647 * 48271 + 69621 * a * a + 7919) % 2147483629 := ⟨_, rfl⟩
 have n0 : 0 ≤ n ∧ n < 2147483629 := by
  rw [en]
  exact ⟨Int.emod_nonneg _ (by omega), Int.emod_lt_of_pos _ (by omega)⟩
 rw [← en, bJ]
 simp only [vS, zA, l5, rZ, zY, ae, aa, reduceCtorEq]
 obtain ⟨m, em⟩ : ∃ m, m = n * n % 2147483587 := ⟨_, rfl⟩
 have m0 : 0 ≤ m ∧ m < 2147483587 := by
  rw [em]
  exact ⟨Int.emod_nonneg _ (by omega), Int.emod_lt_of_pos _ (by omega)⟩
 rw [← em]
 refine ⟨DK ⟨by omega, by omega⟩, by omega, ?_⟩
 try simp only [vS, zA, l5, rZ, zY, ae, aa, reduceCtorEq]
 refine ⟨DK ⟨by omega, by omega⟩, by omega, ⟨by omega, by omega⟩, h0, hP _ (Int.emod_nonneg _ (by omega)) (Int.emod_lt_of_pos _ h0)⟩
theorem eB (h : cO w r c (b + 1)) (h0 : 0 < size) (h1 : size < 1073741824) (hP : ∀ v w', 0 ≤ v → v < size → cO w' r c b → Pc.Kept w w' r c → P (.int v) w') : T (rX [.ref r, .int size] w) P := by
 obtain ⟨ne, cells, sm, a, hr, hc, hl, hb⟩ := h
 have lr := (ai.mp hr).1
 have lc := (ai.mp hc).1
 unfold rX aAp
 rw [eT, aIJ, bJ]
 simp only [V6 hr, zY, ae, aa, reduceCtorEq]
 refine ⟨.int a, rfl, ?_⟩
 simp only [l5, zY, ae, aa, reduceCtorEq]
 rw [aFO hr]
 have ek : putD (tT c a sm) (.inr ("at" : Str)) (.int ((a : Int) + 1)) = tT c ((a + 1 : Nat) : Int) sm := rfl
 rw [ek]
 refine ⟨by rw [sizeLine_eq]; unfold tT; simp, ?_⟩
 obtain ⟨w1, e1⟩ : ∃ w1, w1 = w.set r (.dK (tT c ((a + 1 : Nat) : Int) sm)) := ⟨_, rfl⟩
 have hr1 : w1[r]? = some (.dK (tT c ((a + 1 : Nat) : Int) sm)) := by rw [e1]; exact bf lr
 have hc1 : w1[c]? = some (.lst (cells.map D.int)) := by rw [e1, az ne]; exact hc
 have k1 : Pc.Kept w w1 r c := ⟨by rw [e1, di], fun i h2 _ => by rw [e1, az (Ne.symm h2)]⟩
 rw [← e1, bJ]
 simp only [V6 hr1, zY, ae, aa, reduceCtorEq]
 refine ⟨.int ((a + 1 : Nat) : Int), rfl, ?_⟩
 try simp only [zY, ae, aa, reduceCtorEq]
 rw [bJ]
 simp only [V6 hr1, zY, ae, aa, reduceCtorEq]
 refine ⟨.ref c, rfl, ?_⟩
 try simp only [zY, ae, aa, reduceCtorEq]
 rw [bJ]
 simp only [V6 hr1, zY, ae, aa, reduceCtorEq]
 refine ⟨.int sm, rfl, ?_⟩
 simp only [l5, zY, ae, aa, reduceCtorEq]
 rw [bJ]
 have fin : ∀ (cell : Int) (w2 : W), cO w2 r c b → Pc.Kept w w2 r c → T (aI (aT (aD kN (aD bS (aD bS (aD mulM (aD kN (aB 4) (eC (.int 2147483647))) (eC (.int 48271))) (aD mulM (aD mulM (eC (.int 69621)) (aB 2)) (aB 2))) (eC (.int 7919))) (eC (.int 2147483629))) (a7 5))
 (aI (aT (aD kN (aD mulM (aB 5) (aB 5)) (eC (.int 2147483587))) (a7 5))
 (bE (aD kN (aD wB (aD kN (aD mulM (aB 5) (aD bS (aB 5) (eC (.int 39373)))) (eC (.int 2147483563))) (eC (.int 64))) (aB 1))))
   [some (.ref r), some (.int size), some (.int ((a + 1 : Nat) : Int)), some (.ref c), some (.int cell), none] w2) fun f w1 => match f with
   | .nx _ => P .non w1
   | .rt d => P d w1
   | _ => False := fun cell w2 d2 k2 => YN h0 ⟨by omega, by omega⟩ fun v v0 v1 => hP v w2 v0 v1 d2 k2
 have d1 : cO w1 r c b := ⟨ne, cells, sm, a + 1, hr1, hc1, hl, by omega⟩
 rcases cells with _ | ⟨z, zs⟩
 ·simp only [Pc.ne_nil hc1, bV, List.isEmpty_nil, ay, zY, ae, aa, reduceCtorEq]
  exact fin _ w1 d1 k1
 ·obtain ⟨w2, e2⟩ : ∃ w2, w2 = w1.set c (.lst (zs.map D.int)) := ⟨_, rfl⟩
  have lc1 : c < w1.length := by rw [k1.1]; exact lc
  have hr2 : w2[r]? = some (.dK (tT c ((a + 1 : Nat) : Int) sm)) := by rw [e2, az (Ne.symm ne)]; exact hr1
  have hc2 : w2[c]? = some (.lst (zs.map D.int)) := by rw [e2]; exact bf lc1
  have k2 : Pc.Kept w w2 r c := ⟨by rw [e2, di]; exact k1.1, fun i h2 h3 => by rw [e2, az (Ne.symm h3)]; exact k1.2 i h2 h3⟩
  have lz : zs.length + 1 ≤ 63 := by simpa using hl
  have d2 : cO w2 r c b := ⟨ne, zs, sm, a + 1, hr2, hc2, by omega, by omega⟩
  have ep : BD (.ref c) [.int 0] w1 = .ok (.int z) w2 := by
   unfold BD
   simp only [hc1]
   rw [if_pos (by omega), e2]
   have es : seqIndex? 0 ((z :: zs).map D.int).length = some 0 := by
    unfold seqIndex?
    simp
   rw [es]
   rfl
  simp only [Pc.ne_nil hc1, bV, List.isEmpty_cons, bq, zY, ae, aa, reduceCtorEq]
  rw [bJ]
  simp only [tyL hc1, ep, bV, zY, ae, aa, reduceCtorEq]
  simp only [aHT, XI, zY, ae, aa, reduceCtorEq]
  split
  ·rw [bJ]
   simp only [tyL hc2, rZ, zY, ae, aa, reduceCtorEq]
   refine ⟨⟨h0, h1⟩, ?_⟩
   obtain ⟨w3, e3⟩ : ∃ w3, w3 = w2.set c (.lst ((z / size :: zs).map D.int)) := ⟨_, rfl⟩
   have lc2 : c < w2.length := by rw [k2.1]; exact lc
   have ei : u7 (.ref c) [.int 0, .int (z / size)] w2 = .ok .non w3 := by
    unfold u7
    simp only [hc2]
    rw [if_pos ⟨by rw [sizeLine_eq, cg]; omega, by omega, by omega⟩, e3]
    rfl
   have hr3 : w3[r]? = some (.dK (tT c ((a + 1 : Nat) : Int) sm)) := by rw [e3, az (Ne.symm ne)]; exact hr2
   have hc3 : w3[c]? = some (.lst ((z / size :: zs).map D.int)) := by rw [e3]; exact bf lc2
   have k3 : Pc.Kept w w3 r c := ⟨by rw [e3, di]; exact k2.1, fun i h2 h3 => by rw [e3, az (Ne.symm h3)]; exact k2.2 i h2 h3⟩
   simp only [ei, bV, vS, zY, ae, aa, reduceCtorEq]
   exact ⟨h0, hP _ w3 (Int.emod_nonneg _ (by omega)) (Int.emod_lt_of_pos _ h0) ⟨ne, z / size :: zs, sm, a + 1, hr3, hc3, by simpa using lz, by omega⟩ k3⟩
  ·exact fin _ w2 d2 k2
def aA9 : List Str := [("_law_deck_here" : Str), ("_law_some" : Str)]
def aAt : MS := (bE (aD a9 (aB 1) (aJ rX 2 aN (aA (aB 0) (aA (aP c5 (aA (aB 1) aE)) aE)))))
def S1 : MF := bP aAt aA9
theorem K2 {xs : List D} (h : cO w r c (b + 1)) (h0 : xs ≠ []) (h1 : xs.length < 1073741824) (hP : ∀ x w', x ∈ xs → cO w' r c b → Pc.Kept w w' r c → P x w') : T (S1 [.ref r, .lst xs] w) P := by
 have bb : begin aA9 [.ref r, .lst xs] = [some (.ref r), some (.lst xs)] := rfl
 have l0 : 0 < xs.length := List.length_pos_iff.mpr h0
 unfold S1 aAt
 rw [eT, bb]
 simp only [aHL, zY, ae, aa, reduceCtorEq]
 refine eB h (by omega) (by omega) fun v w' v0 v1 d' k' => ?_
 obtain ⟨i, x, e1, e2, _⟩ := atI_nat v0 v1
 simp only [v9, tH, zY, ae, aa, reduceCtorEq]
 exact ⟨x, e2, hP x w' (cb e1) d' k'⟩
def aBB : List Str := [("_law_script" : Str), ("_law_cells" : Str)]
def Z2 : MS :=
 (aI (aT (aP tG (aA (m9 iZ (aB 0) cV (cK (eC (.int 63)))) aE)) (a7 1))
 (bE (GG (dJ (eC (.str ("cells" : Str))) (aB 1) (dJ (eC (.str ("at" : Str))) (eC (.int 0)) (dJ (eC (.str ("sum" : Str))) (aD bS (aD kN (aP O0 (aA (aB 1) aE)) (eC (.int 2147483629))) (aD mulM (eC (.int 17)) (aP c5 (aA (aB 1) aE)))) C2))))))
def UO : MF := bP Z2 aBB
theorem aGB (x0 : D) : begin aBB [x0] = [some x0, none] := rfl
theorem aDw {ns : List Int} (hn : ns.length ≤ 63) : T (UO [.oI (ns.map D.int)] []) fun d w => d = .ref 1 ∧ w.length = 2 ∧ cO w 1 0 (2 ^ 59) := by
 obtain ⟨ms, e1, e2⟩ := aCb (ns := ns) (lo := none) (hi := some 63)
 have sl : iZ (.oI (ns.map D.int)) none (some 63) [] = .ok (.lst (ms.map D.int)) [] := by simp only [iZ, e1]
 have ln : tG [.lst (ms.map D.int)] [] = .ok (.ref 0) [.lst (ms.map D.int)] := rfl
 have h0 : ([MO.lst (ms.map D.int)] : W)[0]? = some (.lst (ms.map D.int)) := rfl
 have hl : ms.length ≤ 63 := by omega
 unfold UO Z2
 rw [eT, aGB, bJ]
 simp only [sl, ln, bV, zY, ae, aa, reduceCtorEq]
 have sm : O0 [.ref 0] [MO.lst (ms.map D.int)] = .ok (.int ms.sum) [MO.lst (ms.map D.int)] := by
  have : wG (.ref 0) [MO.lst (ms.map D.int)] = some (ms.map D.int) := rfl
  simp only [O0, this, Option.bind_some, Pc.vE]
 have lm : c5 [.ref 0] [MO.lst (ms.map D.int)] = .ok (.int ms.length) [MO.lst (ms.map D.int)] := by simp [c5, LN]
 simp only [sm, lm, bV, vS, zA, l5]
 exact ⟨by omega, DK ⟨by omega, by omega⟩, _, rfl, by simp, rfl, rfl, by omega, ms, _, 0, rfl, rfl, hl, by omega⟩
end
end Lw
namespace Lb
open PySem PySem.Spec PyProof.Rows L2 Pc Lw
def cA : D → List D
 | .tup ys => ys
 | _ => []
def A6 : D → Bool
 | .tup ys => decide (ys.length ≤ 6)
 | _ => false
def fZ : D → Bool
 | .tup xs => (decide (1 ≤ xs.length) && decide (xs.length ≤ 4)) && (xs.all A6 && (!((xs.map cA).headD []).isEmpty && (xs.all (fun r => (cA r).length == ((xs.map cA).headD []).length) && (xs.flatMap cA).all (aM 1 12))))
 | _ => false
section
variable {w : W} {P : D → W → Prop} (k : bN) {n : Nat} {d : D}
theorem aB7 {ys : List D} (h : ∀ y ∈ ys, jW n y = true) (hn : n ≤ 60) : T (gA (.tup ys) (.tup []) w) P = P (.bl ys.isEmpty) w := by
 rw [wY, AA]
 simp
theorem MD (hn : n ≤ 50) (e : jW (n + 2) d = true) (hP : P (.bl (fZ d)) w) : T (fG k [d] w) P := by
 unfold fG lX
 rw [eT, K4, bJ]
 simp only [uQ e, zY, ae, aa, reduceCtorEq]
 cases d <;> simp only [fA, fZ, zY, ae, aa, reduceCtorEq] at hP ⊢ <;> first | exact hP | skip
 rename_i xs
 obtain ⟨e1, e2⟩ := nH e
 try simp only [yC, zY, ae, aa, reduceCtorEq]
 by_cases c1 : 1 ≤ xs.length ∧ xs.length ≤ 4
 case neg =>
  have hf : (decide (1 ≤ xs.length) && decide (xs.length ≤ 4)) = false := by
   rw [Bool.and_eq_false_iff]
   simp only [decide_eq_false_iff_not]
   omega
  rw [hf, Bool.false_and] at hP
  split
  ·split
   ·exact hP
   ·rename_i h1 h2
    simp at h1 h2
    omega
  ·exact hP
 have i1 : decide ((1 : Int) ≤ (xs.length : Nat)) = true := by simp; omega
 have i2 : decide (((xs.length : Nat) : Int) ≤ 4) = true := by simp; omega
 have j1 : decide (1 ≤ xs.length) = true := by simp [c1.1]
 have j2 : decide (xs.length ≤ 4) = true := by simp [c1.2]
 simp only [i1, i2, j1, j2, Bool.true_and, ay, zY, ae, aa, reduceCtorEq] at hP ⊢
 rw [bJ]
 simp only [yM, zY, ae, aa, reduceCtorEq]
 refine ⟨szz _ (by omega), ?_⟩
 refine u6 (it := ⟨xs, always⟩) xs (fun x => x) (fun x => .bl (A6 x)) (by simp) trivial (fun x hx => ?_) ?_
 ·simp only [eO, uQ (e1 x hx), zY, ae, aa, reduceCtorEq]
  have ok := e1 x hx
  cases x <;> simp only [fA, A6, zY, ae, aa, reduceCtorEq]
  rename_i ys
  try simp only [yC, zY, ae, aa, reduceCtorEq]
  simp
  omega
 rw [FC xs A6]
 cases c2 : xs.all A6 with
 | false =>
  rw [c2, Bool.false_and] at hP
  simp only [bq, zY, ae, aa, reduceCtorEq]
  exact hP
 | true =>
 rw [c2, Bool.true_and] at hP
 simp only [ay, zY, ae, aa, reduceCtorEq]
 rw [au] at c2
 have rows : ∃ rs : List (List D), xs = rs.map D.tup := by
  refine ⟨xs.map cA, ?_⟩
  rw [du]
  refine (List.map_id' xs).symm.trans (List.map_congr_left fun x hx => ?_)
  have := c2 x hx
  cases x <;> first | rfl | (simp [A6] at this; done)
 obtain ⟨rs, rfl⟩ := rows
 obtain ⟨r0, rest, rfl⟩ : ∃ r0 rest, rs = r0 :: rest := by
  cases rs with
  | nil => simp at c1
  | cons a b => exact ⟨a, b, rfl⟩
 have f6 : ∀ r ∈ r0 :: rest, r.length ≤ 6 := fun r hr => by
  have := c2 (.tup r) (List.mem_map_of_mem hr)
  simpa [A6] using this
 have o1 : ∀ r ∈ r0 :: rest, ∀ x ∈ r, jW n x = true := fun r hr x hx => (nH (e1 (.tup r) (List.mem_map_of_mem hr))).1 x hx
 rw [bJ]
 simp only [cw, at0, zY, ae, aa, reduceCtorEq]
 rw [aB7 (o1 r0 (bc ..)) (by omega)]
 rw [show ((((r0 :: rest).map D.tup).map cA).headD []) = r0 from rfl] at hP
 cases c3 : r0.isEmpty with
 | true =>
  rw [c3] at hP
  simp only [ay, Bool.false_and, zY, ae, aa, reduceCtorEq] at hP ⊢
  exact hP
 | false =>
 rw [c3] at hP
 simp only [bq, Bool.true_and, zY, ae, aa, reduceCtorEq] at hP ⊢
 refine ⟨by rw [sizeLine_eq]; simp at c1 ⊢; omega, ?_⟩
 refine u6 (it := ⟨(r0 :: rest).map D.tup, always⟩) (r0 :: rest) D.tup (fun r => .bl (r.length == r0.length)) rfl trivial (fun r hr => ?_) ?_
 ·simp only [eO, yC, at0, zY, ae, aa, reduceCtorEq]
  congr 1
  rw [Bool.eq_iff_iff]
  simp only [beq_iff_eq]
  omega
 rw [FC (r0 :: rest) fun r => r.length == r0.length]
 have ea : (((r0 :: rest).map D.tup).all fun r => (cA r).length == r0.length) = (r0 :: rest).all fun r => r.length == r0.length := by
  rw [List.all_map]
  rfl
 rw [ea] at hP
 cases c4 : (r0 :: rest).all fun r => r.length == r0.length with
 | false =>
  rw [c4] at hP
  simp only [bq, Bool.false_and, zY, ae, aa, reduceCtorEq] at hP ⊢
  exact hP
 | true =>
 rw [c4] at hP
 simp only [ay, Bool.true_and, zY, ae, aa, reduceCtorEq] at hP ⊢
 have ef : (((r0 :: rest).map D.tup).flatMap cA) = (r0 :: rest).flatMap fun r => r := by
  rw [List.flatMap_map]
  rfl
 rw [ef] at hP
 simp only [aB9, yM, zY, ae, aa, reduceCtorEq]
 refine Z7 (it := ⟨(r0 :: rest).map D.tup, always⟩) D.tup (fun r => r) (fun x => x) (fun _ x => .bl (aM 1 12 x)) (r0 :: rest) [] trivial ?_ (fun r hr => ?_) ?_
 ·have : ∀ l : List (List D), (∀ r ∈ l, r.length ≤ 6) → (l.map fun r => r.length).sum ≤ l.length * 6 := by
   intro l
   induction l with
   | nil => simp
   | cons a l ih =>
    intro hl
    have h1 := hl a (bc ..)
    have h2 := ih fun r hr => hl r (br _ hr)
    rw [cw, List.sum_cons, cf, Nat.succ_mul]
    omega
  have h1 := this _ f6
  have h2 := c1.2
  rw [cg] at h2
  rw [sizeLine_eq, cz]
  omega
 ·simp only [eO, yM, zY, ae, aa, reduceCtorEq]
  exact ⟨⟨trivial, (List.map_id' r).symm⟩, fun z hz => by rw [pS 1 12 (o1 r hr z hz)]; exact ⟨rfl, rfl⟩⟩
 ·rw [cc]
  have eb : ((r0 :: rest).flatMap fun r => r.map fun x => D.bl (aM 1 12 x)) = ((r0 :: rest).flatMap fun r => r).map fun x => D.bl (aM 1 12 x) := by
   rw [List.map_flatMap]
  rw [eb, FC ((r0 :: rest).flatMap fun r => r) (aM 1 12)]
  exact hP
def jP (h : Int) (d : D) : Bool := match d with
 | .tup [a, c, l] => aM 0 (h - 1) a && (aM 0 9 c && aM 1 11 l)
 | _ => false
def numsOf : D → Int × Int
 | .tup [.int a, .int c, _] => (a, c)
 | _ => (0, 0)
def nO : List (Int × Int) → Bool
 | p :: q :: r => HT.lexLt [p.1, p.2] [q.1, q.2] && nO (q :: r)
 | _ => true
def lT (h : Int) (d : D) : Bool := match d with
 | .tup xs => !decide (6 < xs.length) && (xs.all (jP h) && nO (xs.map numsOf))
 | _ => false
theorem aHr {h : Int} (e : jW (n + 1) d = true) (hP : P (.bl (jP h d)) w) : T (pT k [d, .int h] w) P := by
 unfold pT uK
 rw [eT, XQ, bJ]
 simp only [uQ e, zY, ae, aa, reduceCtorEq]
 cases d <;> simp only [fA, jP, zY, ae, aa, reduceCtorEq] at hP ⊢ <;> first | exact hP | skip
 rename_i xs
 obtain ⟨e1, e2⟩ := nH e
 try simp only [yC, GR, zY, ae, aa, reduceCtorEq]
 by_cases c : xs.length = 3
 case neg =>
  have i1 : (!(((xs.length : Nat) : Int) == 3)) = true := by
   have : ¬ ((xs.length : Nat) : Int) = 3 := by omega
   simpa using this
  rw [if_pos i1]
  have hf : (match D.tup xs with
   | D.tup [a, c, l] => aM 0 (h - 1) a && (aM 0 9 c && aM 1 11 l)
   | _ => false) = false := by
   split
   ·rename_i a c' l e
    cases e
    exact absurd rfl c
   ·rfl
  rw [hf] at hP
  exact hP
 obtain ⟨a, c', l, rfl⟩ : ∃ a c' l, xs = [a, c', l] := by
  match xs, c with
  | [a, c', l], _ => exact ⟨a, c', l, rfl⟩
 have ha := e1 a (by simp)
 have hc := e1 c' (by simp)
 have hl := e1 l (by simp)
 rw [if_neg (by simp), bJ]
 simp only [CS, pS _ _ ha, pS _ _ hc, pS _ _ hl, zY, ae, aa, reduceCtorEq] at hP ⊢
 revert hP
 cases aM 0 (h - 1) a <;> cases aM 0 9 c' <;> simp
theorem SY {h : Int} (e : jP h d = true) : ∃ t : Int × Int × Int, d = fN t := by
 unfold jP at e
 split at e
 ·rename_i a c l
  simp only [ao] at e
  obtain ⟨e1, e2, e3⟩ := e
  cases a <;> first | (simp [aM] at e1; done) | skip
  cases c <;> first | (simp [aM] at e2; done) | skip
  cases l <;> first | (simp [aM] at e3; done) | skip
  exact ⟨(_, _, _), rfl⟩
 ·cases e
theorem JM : ∀ ts : List (Int × Int), ((ts.dropLast.zip ts.tail).all fun p => HT.lexLt [p.1.1, p.1.2] [p.2.1, p.2.2]) = nO ts
 | [] => rfl
 | [a] => rfl
 | a :: b :: ts => by
  have := JM (b :: ts)
  simp only [List.dropLast_cons₂, List.tail_cons, List.zip_cons_cons, List.all_cons, nO] at this ⊢
  rw [this]
theorem aFB {h : Int} (e : jW (n + 2) d = true) (hP : P (.bl (lT h d)) w) : T (kZ k [d, .int h] w) P := by
 unfold kZ oC
 rw [eT, QN, bJ]
 simp only [uQ e, zY, ae, aa, reduceCtorEq]
 cases d <;> simp only [fA, lT, zY, ae, aa, reduceCtorEq] at hP ⊢ <;> first | exact hP | skip
 rename_i xs
 obtain ⟨e1, e2⟩ := nH e
 try simp only [yC, zY, ae, aa, reduceCtorEq]
 by_cases c1 : 6 < xs.length
 ·have i1 : decide (((xs.length : Nat) : Int) > 6) = true := by simp; omega
  have j1 : decide (6 < xs.length) = true := by simp [c1]
  simp only [i1, j1, ay, Bool.false_and, zY, ae, aa, reduceCtorEq] at hP ⊢
  exact hP
 have i1 : decide (((xs.length : Nat) : Int) > 6) = false := by simp; omega
 have j1 : decide (6 < xs.length) = false := by simp; omega
 simp only [i1, j1, bq, Bool.true_and, yM, zY, ae, aa, reduceCtorEq] at hP ⊢
 refine ⟨szz _ (by omega), ?_⟩
 refine u6 (it := ⟨xs, always⟩) xs (fun x => x) (fun x => .bl (jP h x)) (by simp) trivial (fun x hx => ?_) ?_
 ·simp only [eO, zY, ae, aa, reduceCtorEq]
  refine aHr k (e1 x hx) ?_
  exact ⟨rfl, rfl⟩
 rw [FC xs (jP h)]
 cases c2 : xs.all (jP h) with
 | false =>
  rw [c2, Bool.false_and] at hP
  simp only [bq, zY, ae, aa, reduceCtorEq]
  exact hP
 | true =>
 rw [c2, Bool.true_and] at hP
 simp only [ay, zY, ae, aa, reduceCtorEq]
 rw [au] at c2
 obtain ⟨ts, rfl⟩ : ∃ ts : List (Int × Int × Int), xs = ts.map fN := by
  clear hP e e1 e2 c1 i1 j1
  induction xs with
  | nil => exact ⟨[], rfl⟩
  | cons x xs ih =>
   obtain ⟨t, rfl⟩ := SY (c2 x (bc ..))
   obtain ⟨ts, rfl⟩ := ih fun y hy => c2 y (br _ hy)
   exact ⟨t :: ts, rfl⟩
 simp only [aDh, aCY, aIl, bV, zY, ae, aa, reduceCtorEq]
 refine ⟨by simp, ?_, ?_⟩
 ·refine szz _ ?_
  simp at c1 ⊢
  omega
 have e5 : (List.zip (ts.map fN).dropLast (ts.map fN).tail).map (fun p => D.tup [p.1, p.2]) = (ts.dropLast.zip ts.tail).map fun p => D.tup [fN p.1, fN p.2] := by
  rw [← List.map_dropLast, ← List.map_tail, List.zip_map, du]
  rfl
 rw [e5]
 refine u6 (it := ⟨_, always⟩) (ts.dropLast.zip ts.tail) (fun p => .tup [fN p.1, fN p.2]) (fun p => .bl (HT.lexLt [p.1.1, p.1.2.1] [p.2.1, p.2.2.1])) rfl trivial (fun p _ => ?_) ?_
 ·simp only [eO, aE7, aCq, bV, zY, ae, aa, reduceCtorEq]
 rw [FC (ts.dropLast.zip ts.tail) fun p => HT.lexLt [p.1.1, p.1.2.1] [p.2.1, p.2.2.1]]
 have e6 : ((ts.map fN).map numsOf) = ts.map fun t => (t.1, t.2.1) := by
  rw [du]
  rfl
 rw [e6, ← JM, ← List.map_dropLast, ← List.map_tail, List.zip_map, List.all_map] at hP
 exact hP
end
end Lb
namespace Lw
open PySem PySem.Spec PyProof.Rows L2 Pc Lb
open PySem.W (dataLe)
section
variable {us : List (Int × Int × Int)}
def apart2 (a b : Int × Int × Int) : Prop := ¬ (a.1 = b.1 ∧ a.2.1 = b.2.1)
theorem aEU {a b : Int × Int × Int} (h : a.1 < b.1 ∨ (a.1 = b.1 ∧ a.2.1 < b.2.1)) : HT.lexLt [a.1, a.2.1] [b.1, b.2.1] = true := by
 simp only [HT.lexLt_cons, HT.lexLt_nil_nil]
 rcases h with h | ⟨h1, h2⟩
 ·rw [if_neg (by omega)]; simpa using h
 ·rw [if_pos h1, if_neg (by omega)]; simpa using h2
theorem OZ : ∀ {us : List (Int × Int × Int)}, (us.Pairwise fun a b => HT.lexLt [a.1, a.2.1] [b.1, b.2.1] = true) → nO (us.map fun t => (t.1, t.2.1)) = true
 | [], _ => rfl
 | [a], _ => rfl
 | a :: b :: us, h => by
  rw [List.pairwise_cons] at h
  have h1 := h.1 b (bc ..)
  have h2 := OZ h.2
  simp only [cw, nO, ao] at h2 ⊢
  exact ⟨h1, h2⟩
theorem TV (nd : us.Pairwise apart2) : nO ((us.mergeSort FO).map fun t => (t.1, t.2.1)) = true := by
 have p := List.mergeSort_perm us FO
 have h2 : (us.mergeSort FO).Pairwise apart2 := (p.pairwise_iff fun {a b} hab => fun e => hab ⟨e.1.symm, e.2.symm⟩).mpr nd
 refine OZ ((N3.and h2).imp fun {a b} ⟨g1, g2⟩ => aEU ?_)
 obtain ⟨a1, a2, a3⟩ := a
 obtain ⟨b1, b2, b3⟩ := b
 unfold apart2 at g2
 simp only [l3, List.cons_le_cons_iff] at g1 ⊢
 simp only [not_and] at g2
 rcases g1 with g | ⟨rfl, g | ⟨rfl, _⟩⟩
 ·exact .inl g
 ·exact .inr ⟨rfl, g⟩
 ·exact absurd rfl (g2 rfl)
theorem QW {h : Int} (nd : us.Pairwise apart2) (few : us.length ≤ 6) (each : ∀ t ∈ us, (0 ≤ t.1 ∧ t.1 < h) ∧ (0 ≤ t.2.1 ∧ t.2.1 ≤ 9) ∧ (1 ≤ t.2.2 ∧ t.2.2 ≤ 11)) : lT h (.tup ((us.mergeSort FO).map fN)) = true := by
 have p := List.mergeSort_perm us FO
 have e6 : (((us.mergeSort FO).map fN).map Lb.numsOf) = (us.mergeSort FO).map fun t => (t.1, t.2.1) := by
  rw [du]
  rfl
 simp only [lT, ao, Bool.not_eq_true', decide_eq_false_iff_not, au]
 refine ⟨by rw [cg, p.length_eq]; omega, fun d hd => ?_, by rw [e6]; exact TV nd⟩
 obtain ⟨t, ht, rfl⟩ := dh.mp hd
 have e := each t (p.mem_iff.mp ht)
 simp only [fN, jP, aM, ao, ak]
 omega
def cX (ps : List (Int × Int × Int)) : List (List Key × D) := ps.map fun t => ([.inl t.1, .inl t.2.1], .int t.2.2)
def vT (t u : Int × Int × Int) : Bool := decide (u.1 = t.1 ∧ u.2.1 = t.2.1)
def G7 (us : List (Int × Int × Int)) (t : Int × Int × Int) : List (Int × Int × Int) := if us.any (vT t) = true then us.map fun u => if vT t u = true then (u.1, u.2.1, t.2.2) else u else us ++ [t]
theorem pX {t u : Int × Int × Int} : (([.inl u.1, .inl u.2.1] : List Key) = [.inl t.1, .inl t.2.1]) ↔ vT t u = true := by
 unfold vT
 simp
theorem JU (t : Int × Int × Int) : ∀ us, (kB (cX us) [.inl t.1, .inl t.2.1]).isSome = us.any (vT t)
 | [] => rfl
 | u :: us => by
  have ih := JU t us
  have e : cX (u :: us) = ([.inl u.1, .inl u.2.1], .int u.2.2) :: cX us := rfl
  rw [e, List.any_cons, ← ih]
  conv => lhs; unfold kB
  by_cases c : vT t u = true
  ·rw [if_pos (pX.mpr c), c]
   rfl
  ·have n : ¬ (([.inl u.1, .inl u.2.1] : List Key) = [.inl t.1, .inl t.2.1]) := fun e => c (pX.mp e)
   rw [Bool.not_eq_true] at c
   rw [if_neg n, c, Bool.false_or]
theorem aC7 (t : Int × Int × Int) (us : List (Int × Int × Int)) : putD (cX us) [.inl t.1, .inl t.2.1] (.int t.2.2) = cX (G7 us t) := by
 unfold putD G7
 rw [JU]
 split
 ·unfold cX
  rw [du, du]
  refine List.map_congr_left fun u _ => ?_
  simp only [Function.comp]
  by_cases c : vT t u = true
  ·rw [if_pos c]
   first | rw [if_pos (pX.mpr c)] | simp [pX.mpr c]
  ·rw [if_neg c]
   have n : ¬ (([.inl u.1, .inl u.2.1] : List Key) = [.inl t.1, .inl t.2.1]) := fun e => c (pX.mp e)
   first | rw [if_neg n] | simp [n]
 ·unfold cX
  rw [List.map_append]
  rfl
theorem aAd {t u : Int × Int × Int} {us : List (Int × Int × Int)} (h : u ∈ G7 us t) : (u.1 = t.1 ∧ u.2.1 = t.2.1 ∧ u.2.2 = t.2.2) ∨ u ∈ us := by
 unfold G7 at h
 split at h
 ·obtain ⟨x, hx, e⟩ := dh.mp h
  split at e
  ·rename_i c
   simp only [vT, ak] at c
   subst e
   exact .inl ⟨c.1, c.2, rfl⟩
  ·subst e
   exact .inr hx
 ·rcases ck.mp h with h | h
  ·exact .inr h
  ·rw [da.mp h]
   exact .inl ⟨rfl, rfl, rfl⟩
theorem aBs {t : Int × Int × Int} {us : List (Int × Int × Int)} : (G7 us t).length ≤ us.length + 1 := by
 unfold G7
 split <;> simp
theorem SU {t : Int × Int × Int} {us : List (Int × Int × Int)} (h : us.Pairwise apart2) : (G7 us t).Pairwise apart2 := by
 unfold G7
 split
 ·refine List.Pairwise.map _ (fun a b hab => ?_) h
  unfold apart2 at hab ⊢
  split <;> split <;> exact hab
 ·rename_i c
  refine List.pairwise_append.mpr ⟨h, by simp, fun a ha b hb => ?_⟩
  rw [da.mp hb]
  intro e
  refine c (List.any_eq_true.mpr ⟨a, ha, ?_⟩)
  unfold vT
  simpa using e
end
theorem cO.less {w : W} {r c b b' : Nat} (d : cO w r c b) (h : b' ≤ b) : cO w r c b' := by
 obtain ⟨ne, cells, sm, a, h1, h2, h3, h4⟩ := d
 exact ⟨ne, cells, sm, a, h1, h2, h3, by omega⟩
def V9 (H n : Nat) (ds : List D) : Prop := ds.length = n ∧ ∀ d ∈ ds, ∃ ns : List Int, d = .tup (ns.map D.int) ∧ ns.length = H ∧ ∀ x ∈ ns, 1 ≤ x ∧ x ≤ 12
section
variable {w : W} {P : D → W → Prop} {r c b H n : Nat} {low : Int} {ds : List D}
theorem aDC (h : V9 H n ds) (n1 : 1 ≤ n) (n4 : n ≤ 4) (H1 : 1 ≤ H) (H6 : H ≤ 6) : fZ (.tup ds) = true ∧ jW 6 (.tup ds) = true ∧ ∃ r0 rest, ds = .tup r0 :: rest ∧ r0.length = H := by
 obtain ⟨hl, he⟩ := h
 have wid : ∀ d ∈ ds, (cA d).length = H := fun d hd => by
  obtain ⟨ns, rfl, h1, -⟩ := he d hd
  show (ns.map D.int).length = H
  rw [cg, h1]
 have six : ∀ d ∈ ds, A6 d = true := fun d hd => by
  obtain ⟨ns, rfl, h1, -⟩ := he d hd
  simp only [A6, cg, ak]
  omega
 have ok : ∀ d ∈ ds, jW 5 d = true := fun d hd => by
  obtain ⟨ns, rfl, h1, h2⟩ := he d hd
  simp only [jW, List.all_map, ao, ak, au, cg]
  refine ⟨fun x hx => ?_, by omega⟩
  have := h2 x hx
  simp only [Function.comp, jW, ak]
  omega
 have num : ∀ x ∈ ds.flatMap cA, aM 1 12 x = true := fun x hx => by
  obtain ⟨d, hd, hx⟩ := List.mem_flatMap.mp hx
  obtain ⟨ns, rfl, -, h2⟩ := he d hd
  obtain ⟨y, hy, rfl⟩ := dh.mp (show x ∈ ns.map D.int from hx)
  have := h2 y hy
  simp only [aM, ao, ak]
  exact this
 obtain ⟨d0, rest, rfl⟩ : ∃ d0 rest, ds = d0 :: rest := by
  cases ds with
  | nil => simp at hl; omega
  | cons a l => exact ⟨a, l, rfl⟩
 obtain ⟨ns, e0, e1, -⟩ := he d0 (bc ..)
 have w0 := wid d0 (bc ..)
 refine ⟨?_, ?_, _, rest, by rw [e0], by rw [cg, e1]⟩
 ·simp only [fZ, ao, ak, au, Bool.not_eq_true']
  refine ⟨⟨by omega, by omega⟩, six, ?_, fun d hd => ?_, num⟩
  ·show (cA d0).isEmpty = false
   cases hh : cA d0 with
   | nil => rw [hh] at w0; simp at w0; omega
   | cons => rfl
  ·show ((cA d).length == (cA d0).length) = true
   rw [wid d hd, w0]
   simp
 ·simp only [jW, ao, ak, au]
  exact ⟨ok, by omega⟩
theorem aER {e4 e0 eh : ME} {σ : Sg} {v : Nat} {PL : List D → W → Prop} (aHE : 1 ≤ low) (low12 : low ≤ 12) (hd : cO w r c (b + H)) (H6 : H ≤ 6)
  (h4 : ∀ x (w : W) (P : D → W → Prop), T (e4 ((eO σ [v]).set v (some x)) w) P = P (.int low) w) (h0 : ∀ x (w : W) (P : D → W → Prop), T (e0 ((eO σ [v]).set v (some x)) w) P = P (.ref r) w) 
  (hP : ∀ (ns : List Int) (w' : W), cO w' r c b → ns.length = H → (∀ x ∈ ns, 1 ≤ x ∧ x ≤ 12) → PL (ns.map D.int) w') :
  T (mV (jK 0 H) [v] (a7 v) cD (aD bS e4 (aJ rX 2 aN (aA e0 (aA (aD kH (eC (.int 13)) e4) aE)))) (jK 0 H).xs σ w) PL := by
 refine UZ (it := jK 0 H) (fun i acc w' => cO w' r c (b + (H - i)) ∧ ∃ ns : List Int, acc = ns.map D.int ∧ ns.length = i ∧ ∀ x ∈ ns, 1 ≤ x ∧ x ≤ 12) (fun _ _ _ _ => trivial) ⟨hd, [], rfl, rfl, fun x hx => nomatch hx⟩ (fun i x acc w1 hx hI => ?_) (fun acc w1 hI => ?_)
 ·obtain ⟨d1, ns, rfl, hn, hr⟩ := hI
  obtain ⟨hz, rfl⟩ := D1 hx
  rw [MC, rN, if_pos rfl]
  simp only [h4, h0, CS, zY, ae, aa, reduceCtorEq]
  have eb : b + (H - i) = (b + (H - (i + 1))) + 1 := by omega
  rw [eb] at d1
  refine eB (size := 13 - low) d1 (by omega) (by omega) fun y w2 y0 y1 d2 k2 => ?_
  rw [l5]
  refine ⟨d2, ns ++ [low + y], by rw [List.map_append]; rfl, by rw [cq, hn]; rfl, fun x hx => ?_⟩
  rcases ck.mp hx with hx | hx
  ·exact hr x hx
  ·rw [da.mp hx]
   omega
 ·obtain ⟨d1, ns, rfl, hn, hr⟩ := hI
  rw [u9] at d1 hn
  rw [Nat.sub_self] at d1
  exact hP ns w1 d1 hn hr
end
def DZ (H : Nat) (us : List (Int × Int × Int)) : Prop := us.Pairwise apart2 ∧ us.length ≤ 6 ∧ ∀ t ∈ us, (0 ≤ t.1 ∧ t.1 < (H : Int)) ∧ (0 ≤ t.2.1 ∧ t.2.1 ≤ 9) ∧ (1 ≤ t.2.2 ∧ t.2.2 ≤ 11)
def GL : MS := (dN (bH (aD RN (aP ET (aA (aB 6) aE)) (eC (.int 6)))) (aT (aD a9 (eI (aA (eC (.int 1)) (aA (eC (.int 9)) (aA (eC (.int 10)) (aA (eC (.int 11)) (aA (eC (.int 2)) aE)))))) (aJ rX 2 aN (aA (aB 0) (aA (eC (.int 5)) aE)))) (dR (aB 6) (bQ (aA (aJ rX 2 aN (aA (aB 0) (aA (aB 2) aE))) (aA (aJ rX 2 aN (aA (aB 0) (aA (eC (.int 10)) aE))) aE))))) bC)
section
variable {w : W} {P : D → W → Prop} {PF : Fl → W → Prop} {r c b H q : Nat} {us : List (Int × Int × Int)} {s1 s3 s4 s5 s7 s8 s9 s10 s11 s12 : Option D}
theorem pQ {o : MO} (d : cO w r c b) (h1 : q ≠ r) (h2 : q ≠ c) : cO (w.set q o) r c b := by
 obtain ⟨ne, cells, sm, a, g1, g2, g3, g4⟩ := d
 exact ⟨ne, cells, sm, a, by rw [az h1]; exact g1, by rw [az h2]; exact g2, g3, g4⟩
theorem aEG (hd : cO w r c (b + 3)) (hq : w[q]? = some (.dT (cX us))) (nr : q ≠ r) (nc : q ≠ c) (hc : DZ H us) (H1 : 1 ≤ H) (H6 : H ≤ 6)
  (hP : ∀ w' us', cO w' r c b → w'[q]? = some (.dT (cX us')) → DZ H us' → PF (.nx [some (.ref r), s1, some (.int (H : Nat)), s3, s4, s5, some (.ref q), s7, s8, s9, s10, s11, s12]) w') : T (GL [some (.ref r), s1, some (.int (H : Nat)), s3, s4, s5, some (.ref q), s7, s8, s9, s10, s11, s12] w) PF := by
 have lt : ∀ (a c : Int) (w : W) (P : D → W → Prop), T (RN (.int a) (.int c) w) P = P (.bl (decide (a < c))) w := fun a c w P => by unfold T; rfl
 have ln : ∀ (P : D → W → Prop), T (ET [.ref q] w) P = P (.int (us.length : Nat)) w := fun P => by
  have e : ET [.ref q] w = .ok (.int ((cX us).length : Nat)) w := by simp only [ET, hq]
  rw [e, bV]
  unfold cX
  rw [cg]
 unfold GL
 simp only [ln, lt, zY, ae, aa, reduceCtorEq]
 by_cases c6 : us.length < 6
 case neg =>
  have e : decide (((us.length : Nat) : Int) < 6) = false := by simp; omega
  simp only [e, zY, ae, aa, reduceCtorEq]
  exact hP w us (hd.less (by omega)) hq hc
 have e : decide (((us.length : Nat) : Int) < 6) = true := by simp; omega
 simp only [e, zY, ae, aa, reduceCtorEq]
 refine eB (b := b + 2) hd (by omega) (by omega) fun x w1 x0 x1 d1 k1 => ?_
 obtain ⟨x, rfl⟩ : ∃ n : Nat, x = (n : Int) := ⟨x.toNat, by omega⟩
 have hx : x = 0 ∨ x = 1 ∨ x = 2 ∨ x = 3 ∨ x = 4 := by omega
 obtain ⟨v, hv, v0, v1⟩ : ∃ v : Int, ([D.int 1, .int 9, .int 10, .int 11, .int 2] : List D)[x]? = some (.int v) ∧ 1 ≤ v ∧ v ≤ 11 := by
  rcases hx with rfl | rfl | rfl | rfl | rfl
  ·exact ⟨_, rfl, by omega, by omega⟩
  ·exact ⟨_, rfl, by omega, by omega⟩
  ·exact ⟨_, rfl, by omega, by omega⟩
  ·exact ⟨_, rfl, by omega, by omega⟩
  ·exact ⟨_, rfl, by omega, by omega⟩
 have ea : atI [D.int 1, .int 9, .int 10, .int 11, .int 2] (x : Int) = some (.int v) := jL hv
 simp only [v9, tH, ea, aj, bu, zY, ae, aa, reduceCtorEq]
 refine eB (b := b + 1) d1 (by omega) (by omega) fun y w2 y0 y1 d2 k2 => ?_
 try simp only [zY, ae, aa, reduceCtorEq]
 refine eB (b := b) d2 (by omega) (by omega) fun z w3 z0 z1 d3 k3 => ?_
 try simp only [zY, ae, aa, reduceCtorEq]
 have q3 : w3[q]? = some (.dT (cX us)) := by rw [k3.2 q nr nc, k2.2 q nr nc, k1.2 q nr nc]; exact hq
 have es : setM (.ref q) (.tup [.int y, .int z]) (.int v) w3 = .ok () (w3.set q (.dT (cX (G7 us (y, z, v))))) := by
  have h2 : v5 [.int y, .int z] = some [.inl y, .inl z] := rfl
  have h3 : (cX us).length < sizeLine := by
   rw [sizeLine_eq]
   unfold cX
   rw [cg]
   omega
  rw [← aC7]
  simp only [setM, q3, h2, h3, ae]
 simp only [es, bV]
 have ls := aBs (t := (y, z, v)) (us := us)
 refine hP _ (G7 us (y, z, v)) (pQ d3 nr nc) (bf (ai.mp q3).1) ⟨SU hc.1, by omega, fun t ht => ?_⟩
 rcases aAd ht with ⟨e1, e2, e3⟩ | ht
 ·rw [e1, e2, e3]
  exact ⟨⟨y0, y1⟩, ⟨z0, by show z ≤ 9; omega⟩, v0, v1⟩
 ·exact hc.2.2 t ht
end
section
variable {w : W} {P : D → W → Prop} {q v : Nat} {us : List (Int × Int × Int)} {σ : Sg} {e6 : ME}
theorem V8 : ∀ {us : List (Int × Int × Int)}, us.Pairwise apart2 → ∀ t ∈ us, kB (cX us) [.inl t.1, .inl t.2.1] = some (.int t.2.2)
 | u :: us, h, t, ht => by
  rw [List.pairwise_cons] at h
  have e : cX (u :: us) = ([.inl u.1, .inl u.2.1], .int u.2.2) :: cX us := rfl
  rw [e]
  unfold kB
  rcases bh.mp ht with rfl | ht
  ·rw [if_pos rfl]
  ·have n : ¬ (([.inl u.1, .inl u.2.1] : List Key) = [.inl t.1, .inl t.2.1]) := fun e => by
    have := pX.mp e
    simp only [vT, ak] at this
    exact h.1 t ht this
   rw [if_neg n]
   exact V8 h.2 t ht
theorem YR (hq : w[q]? = some (.dT (cX us))) (ap : us.Pairwise apart2) (few : us.length ≤ 6)
  (h6 : ∀ (w : W) (P : D → W → Prop), T (e6 σ w) P = P (.ref q) w) (h6' : ∀ x (w : W) (P : D → W → Prop), T (e6 ((eO σ [v]).set v (some x)) w) P = P (.ref q) w)
  (hv : ∀ x (w : W) (P : D → W → Prop), T (aB v ((eO σ [v]).set v (some x)) w) P = P x w)
  (hP : P (.tup ((us.mergeSort FO).map fN)) (w.set q (.dG (cX us)))) :
  T (aP dZ (aA (aP lO (aA (b6 (vI e6) [v] (a7 v) cD (aD bS (aB v) (bQ (aA (aD a9 e6 (aB v)) aE)))) aE)) aE) σ w) P := by
 have hq1 : (w.set q (.dG (cX us)))[q]? = some (.dG (cX us)) := bf (ai.mp hq).1
 obtain ⟨w1, e1⟩ : ∃ w1, w1 = w.set q (.dG (cX us)) := ⟨_, rfl⟩
 rw [← e1] at hq1 hP
 simp only [Y7, h6, aB4 hq, zY, ae, aa, reduceCtorEq]
 rw [← e1]
 have l6 : ((cX us).map fun p => D.tup (p.1.map gG)).length = us.length := by unfold cX; simp
 refine ⟨by rw [sizeLine_eq, l6]; omega, ?_⟩
 refine u6 (it := ⟨(cX us).map fun p => D.tup (p.1.map gG), always⟩) us (fun t => .tup [.int t.1, .int t.2.1]) fN (by unfold cX; rw [du]; rfl) trivial (fun t ht => ?_) ?_
 ·rw [MC, rN]
  refine ⟨rfl, ?_⟩
  have ex : T (a9 (.ref q) (.tup [.int t.1, .int t.2.1]) w1) = fun PP => PP (.int t.2.2) w1 := by
   funext PP
   have e : a9 (.ref q) (.tup [.int t.1, .int t.2.1]) w1 = .ok (.int t.2.2) w1 := by
    have l : pZ (.dG (cX us)) (.tup [.int t.1, .int t.2.1]) = some (kB (cX us) [.inl t.1, .inl t.2.1]) := rfl
    simp only [a9, hq1, l, V8 ap t ht]
   rw [e, bV]
  simp only [hv, h6', ex, zY, ae, aa, reduceCtorEq]
  first | exact ⟨rfl, rfl⟩ | rfl
 ·simp only [SF (show us.length ≤ 1000 by omega), aFS, zY, ae, aa, reduceCtorEq]
  exact hP
end
def chB (c : Nat) : Bool := decide (32 ≤ c) && (decide (c < 127) && ((c != 34) && ((c != 39) && (c != 92))))
def xP (l : Nat) (x : Str) : Bool := x.cps.toList.all chB && decide (x.cps.size ≤ 60 + l)
def HG (l : Nat) : D → Bool
 | .int i => decide (i.natAbs ≤ 1000000000000000000000000000000000000000 + 1000 * l)
 | .str x => xP l x
 | _ => false
def iS : Nat → Nat → D → Bool
 | 0, _, _ => false
 | _ + 1, _, .non => true
 | _ + 1, _, .bl _ => true
 | _ + 1, l, .int i => decide (i.natAbs ≤ 1000000000000000000000000000000000000000 + 1000 * l)
 | _ + 1, l, .str x => xP l x
 | n + 1, l, .tup xs => xs.all (iS n l) && decide (xs.length ≤ 40 + l)
 | n + 1, l, .lst xs => xs.all (iS n l) && decide (xs.length ≤ 40 + l)
 | n + 1, l, .zX ks vs => (ks.all (HG l) && vs.all (iS n l)) && (decide (ks.length = vs.length) && decide (ks.length ≤ 15))
 | _ + 1, _, _ => false
mutual
def iT : D → Nat
 | .str x => x.cps.size
 | .tup xs => wtDs xs
 | .lst xs => wtDs xs
 | .lY xs => wtDs xs
 | .oI xs => wtDs xs
 | .zX ks vs => wtDs ks + wtDs vs
 | _ => 0
def wtDs : List D → Nat
 | [] => 0
 | x :: xs => iT x + 1 + wtDs xs
end
theorem aAU {c : Nat} (h : chB c = true) : c < 127 := by
 simp only [chB, ao, ak] at h
 exact h.2.1
theorem VT {l : Nat} {x : Str} (h : xP l x = true) : PyData.strOk x = true := by
 simp only [xP, ao, au] at h
 unfold PyData.strOk
 rw [Array.all_eq_true_iff_forall_mem]
 intro c hc
 have := aAU (h.1 c (by simpa using hc))
 simp only [ak]
 omega
theorem yY {l l' : Nat} {x : Str} (h : xP l x = true) (hl : l ≤ l') : xP l' x = true := by
 simp only [xP, ao, ak] at h ⊢
 exact ⟨h.1, by omega⟩
theorem aDr {l l' : Nat} {x : D} (h : HG l x = true) (hl : l ≤ l') : HG l' x = true := by
 cases x <;> simp only [HG, bg] at h ⊢
 ·simp only [ak] at h ⊢
  omega
 ·exact yY h hl
theorem hU : ∀ {n n' l l' : Nat} {d : D}, iS n l d = true → n ≤ n' → l ≤ l' → iS n' l' d = true
 | 0, _, _, _, _, h, _, _ => by simp [iS] at h
 | n + 1, 0, _, _, _, _, hn, _ => by omega
 | n + 1, n' + 1, l, l', d, h, hn, hl => by
  cases d <;> simp only [iS, bg] at h ⊢
  ·simp only [ak] at h ⊢
   omega
  ·exact yY h hl
  ·simp only [ao, au, ak] at h ⊢
   exact ⟨fun x hx => hU (h.1 x hx) (by omega) hl, by omega⟩
  ·simp only [ao, au, ak] at h ⊢
   exact ⟨fun x hx => hU (h.1 x hx) (by omega) hl, by omega⟩
  ·simp only [ao, au, ak] at h ⊢
   exact ⟨⟨fun x hx => aDr (h.1.1 x hx) hl, fun x hx => hU (h.1.2 x hx) (by omega) hl⟩, h.2⟩
theorem aCi {n l : Nat} {x : D} (h : HG l x = true) (hl : l ≤ 1000) : jW (n + 1) x = true := by
 cases x <;> simp only [HG, bg] at h
 ·simp only [ak] at h
  simp only [jW, ak]
  omega
 ·exact VT h
theorem AF : ∀ {n l : Nat} {d : D}, iS n l d = true → l ≤ 1000 → jW (n + 1) d = true
 | 0, _, _, h, _ => by simp [iS] at h
 | n + 1, l, d, h, hl => by
  cases d <;> simp only [iS, jW, bg] at h ⊢
  ·simp only [ak] at h ⊢
   omega
  ·exact VT h
  ·simp only [ao, au, ak] at h ⊢
   exact ⟨fun x hx => AF (h.1 x hx) hl, by omega⟩
  ·simp only [ao, au, ak] at h ⊢
   exact ⟨fun x hx => AF (h.1 x hx) hl, by omega⟩
  ·simp only [ao, au, ak] at h ⊢
   exact ⟨⟨fun x hx => aCi (h.1.1 x hx) hl, fun x hx => AF (h.1.2 x hx) hl⟩, h.2.2⟩
mutual
def eY : PyData → Bool
 | .none => true
 | .bool _ => true
 | .int i => decide (i.natAbs < 10 ^ 40)
 | .str x => xP 100 x
 | .list xs => plainVs xs
 | .tuple xs => plainVs xs
 | .dict kvs => plainKv kvs
def plainVs : List PyData → Bool
 | [] => true
 | x :: xs => eY x && plainVs xs
def plainKv : List (PyData × PyData) → Bool
 | [] => true
 | (k, v) :: r => (eY k && eY v) && plainKv r
end
theorem aBp : ((List.range 127).all fun c => (Builtin.Str.reprChar 34 c).all (fun x => decide (x < 0x110000)) && (Builtin.Str.reprChar 39 c).all (fun x => decide (x < 0x110000))) = true := by decide +kernel
theorem M9 {q c : Nat} (hq : q = 34 ∨ q = 39) (hc : c < 127) : ∀ x ∈ Builtin.Str.reprChar q c, x < 0x110000 := by
 have a := aBp
 rw [au] at a
 have b := a c (List.mem_range.mpr hc)
 simp only [ao, au, ak] at b
 rcases hq with rfl | rfl
 ·exact b.1
 ·exact b.2
theorem RH {x : Str} (h : x.cps.toList.all chB = true) : PyData.strOk (reprText x) = true := by
 have hq : reprQuote x = 34 ∨ reprQuote x = 39 := by
  unfold reprQuote
  split
  ·exact .inl rfl
  ·exact .inr rfl
 have key : ∀ (cs : List Nat) (acc : Array Nat), (∀ c ∈ cs, c < 127) → (∀ c ∈ acc.toList, c < 0x110000) → ∀ c ∈ (cs.foldl (fun out c => out ++ (Builtin.Str.reprChar (reprQuote x) c).toArray) acc).toList, c < 0x110000 := by
  intro cs
  induction cs with
  | nil => intro acc _ h2; exact h2
  | cons c cs ih =>
   intro acc h1 h2
   rw [List.foldl_cons]
   refine ih _ (fun y hy => h1 y (br _ hy)) fun y hy => ?_
   rw [Array.toList_append] at hy
   rcases ck.mp hy with hy | hy
   ·exact h2 y hy
   ·exact M9 hq (h1 c (bc ..)) y (by simpa using hy)
 unfold PyData.strOk
 rw [Array.all_eq_true_iff_forall_mem]
 intro c hc
 unfold reprText at hc
 simp only at hc
 rw [Array.mem_push] at hc
 simp only [ak]
 rcases hc with hc | rfl
 ·rw [← Array.foldl_toList] at hc
  rw [au] at h
  exact key x.cps.toList #[reprQuote x] (fun y hy => aAU (h y hy)) (fun y hy => by
   have : y = reprQuote x := by simpa using hy
   rcases hq with q | q <;> (rw [this, q]; decide)) c (Array.mem_toList_iff.mpr hc)
 ·rcases hq with q | q <;> (rw [q]; decide)
mutual
theorem j3 : ∀ p : PyData, eY p = true → PyData.strOk p.shown = true
 | .none, _ => fL _
 | .bool b, _ => by cases b <;> exact fL _
 | .int i, _ => fL _
 | .str x, h => by
  rw [eY] at h
  simp only [xP, ao] at h
  exact RH h.1
 | .list xs, h => by
  rw [eY] at h
  show PyData.strOk (textFrom 0 "[" (PyData.shownAll xs) ++ "]") = true
  rw [hV, oM _ _ _ (fL _) (plainVs_shown xs h), fL]
  rfl
 | .tuple xs, h => by
  rw [eY] at h
  show PyData.strOk (tupleText (PyData.shownAll xs)) = true
  unfold tupleText
  rw [hV, hV, fL, zO _ (fL _) _ (plainVs_shown xs h)]
  split <;> rw [fL] <;> rfl
 | .dict kvs, h => by
  rw [eY] at h
  show PyData.strOk (dictText (PyData.shownKv kvs)) = true
  unfold dictText
  rw [hV, hV, fL, fL, zO _ (fL _) _ (plainKv_shown kvs h)]
  rfl
theorem plainVs_shown : ∀ ps : List PyData, plainVs ps = true → ∀ t ∈ PyData.shownAll ps, PyData.strOk t = true
 | [], _, t, ht => by simp [PyData.shownAll] at ht
 | p :: ps, h, t, ht => by
  simp only [plainVs, ao] at h
  simp only [PyData.shownAll, bh] at ht
  rcases ht with rfl | ht
  ·exact j3 p h.1
  ·exact plainVs_shown ps h.2 t ht
theorem plainKv_shown : ∀ ps : List (PyData × PyData), plainKv ps = true → ∀ t ∈ PyData.shownKv ps, PyData.strOk t = true
 | [], _, t, ht => by simp [PyData.shownKv] at ht
 | (k, v) :: ps, h, t, ht => by
  simp only [plainKv, ao] at h
  simp only [PyData.shownKv, bh] at ht
  rcases ht with rfl | ht
  ·rw [hV, hV, j3 k h.1.1, j3 v h.1.2, fL]
   rfl
  ·exact plainKv_shown ps h.2 t ht
end
mutual
theorem qV : ∀ p : PyData, eY p = true → p.leavesShort 60 = true ∧ p.showable = true
 | .none, _ => by simp [PyData.leavesShort, PyData.showable]
 | .bool b, _ => by simp [PyData.leavesShort, PyData.showable]
 | .int i, h => by
  simp only [eY, ak] at h
  exact ⟨vG h, x9 h⟩
 | .str x, h => by
  simp only [eY, xP, ao, au] at h
  refine ⟨?_, by simp [PyData.showable]⟩
  simp only [PyData.leavesShort, au, ak]
  intro c hc
  have := aAU (h.1 c hc)
  omega
 | .list xs, h => by
  rw [eY] at h
  have := plainVs_all xs h
  simp only [PyData.leavesShort, PyData.showable]
  exact this
 | .tuple xs, h => by
  rw [eY] at h
  have := plainVs_all xs h
  simp only [PyData.leavesShort, PyData.showable]
  exact this
 | .dict kvs, h => by
  rw [eY] at h
  have := plainKv_all kvs h
  simp only [PyData.leavesShort, PyData.showable]
  exact this
theorem plainVs_all : ∀ p : List PyData, plainVs p = true → PyData.leavesShortAll 60 p = true ∧ PyData.showableAll p = true
 | [], _ => by simp [PyData.leavesShortAll, PyData.showableAll]
 | p :: ps, h => by
  simp only [plainVs, ao] at h
  obtain ⟨a1, a2⟩ := qV p h.1
  obtain ⟨b1, b2⟩ := plainVs_all ps h.2
  simp only [PyData.leavesShortAll, PyData.showableAll, a1, a2, b1, b2]
  simp
theorem plainKv_all : ∀ p : List (PyData × PyData), plainKv p = true → PyData.leavesShortKv 60 p = true ∧ PyData.showableKv p = true
 | [], _ => by simp [PyData.leavesShortKv, PyData.showableKv]
 | (k, v) :: ps, h => by
  simp only [plainKv, ao] at h
  obtain ⟨a1, a2⟩ := qV k h.1.1
  obtain ⟨c1, c2⟩ := qV v h.1.2
  obtain ⟨b1, b2⟩ := plainKv_all ps h.2
  simp only [PyData.leavesShortKv, PyData.showableKv, a1, a2, b1, b2, c1, c2]
  simp
end
structure Told (n : Nat) (d : D) (p : PyData) : Prop where
 py : ∀ f, d.z4 f = some p
 plain : eY p = true
 bulk : p.bulk = iT d
 deep : p.depth ≤ n
theorem aAe {l : Nat} (hl : l ≤ 100) : ∀ {ks : List D}, ks.all (HG l) = true → ∃ ps, uF ks = some ps ∧ plainVs ps = true ∧ PyData.bulkAll ps = wtDs ks ∧ ps.length = ks.length ∧ PyData.depthAll ps = 0
 | [], _ => ⟨[], rfl, rfl, rfl, rfl, rfl⟩
 | d :: ds, h => by
  simp only [List.all_cons, ao] at h
  obtain ⟨ps, h1, h2, h3, h4, h5⟩ := aAe hl h.2
  cases d <;> simp only [HG, bg, false_and] at h
  ·rename_i i
   refine ⟨.int i :: ps, by simp only [uF, h1, Option.map_some], ?_, ?_, by simp [h4], ?_⟩
   ·have := h.1
    simp only [ak] at this
    simp only [plainVs, eY, h2, Bool.and_true, ak]
    omega
   ·rw [PyData.bulkAll, wtDs, h3]
    simp [PyData.bulk, iT]
   ·rw [PyData.depthAll, h5]
    simp [PyData.depth]
  ·rename_i x
   refine ⟨.str x :: ps, by simp only [uF, h1, Option.map_some], ?_, ?_, by simp [h4], ?_⟩
   ·simp only [plainVs, eY, h2, Bool.and_true]
    exact yY h.1 (by omega)
   ·rw [PyData.bulkAll, wtDs, h3]
    simp [PyData.bulk, iT]
   ·rw [PyData.depthAll, h5]
    simp [PyData.depth]
theorem L1 {n : Nat} : ∀ {xs : List D}, (∀ x ∈ xs, ∃ p, Told n x p) → ∃ ps, (∀ f, D.pysV f xs = some ps) ∧ plainVs ps = true ∧ PyData.bulkAll ps = wtDs xs ∧ ps.length = xs.length ∧ PyData.depthAll ps ≤ n
 | [], _ => ⟨[], fun _ => rfl, rfl, rfl, rfl, Nat.zero_le _⟩
 | x :: xs, h => by
  obtain ⟨p, t⟩ := h x (bc ..)
  obtain ⟨ps, h1, h2, h3, h4, h5⟩ := L1 fun y hy => h y (br _ hy)
  refine ⟨p :: ps, fun f => ?_, ?_, ?_, by simp [h4], ?_⟩
  ·unfold D.pysV
   rw [t.py f, h1 f]
  ·simp only [plainVs, t.plain, h2, Bool.and_self]
  ·rw [PyData.bulkAll, wtDs, h3, t.bulk]
  ·rw [PyData.depthAll]
   have := t.deep
   omega
theorem aAv : ∀ {ks vs : List PyData}, ks.length = vs.length → plainVs ks = true → plainVs vs = true → plainKv (ks.zip vs) = true ∧ PyData.bulkKv (ks.zip vs) = PyData.bulkAll ks + PyData.bulkAll vs ∧ PyData.depthKv (ks.zip vs) = max (PyData.depthAll ks) (PyData.depthAll vs)
 | [], [], _, _, _ => ⟨rfl, rfl, rfl⟩
 | [], _ :: _, h, _, _ => by simp at h
 | _ :: _, [], h, _, _ => by simp at h
 | k :: ks, v :: vs, h, h1, h2 => by
  simp only [plainVs, ao] at h1 h2
  obtain ⟨a, b, c⟩ := aAv (ks := ks) (vs := vs) (by simpa using h) h1.2 h2.2
  simp only [List.zip_cons_cons, plainKv, PyData.bulkKv, PyData.depthKv, PyData.bulkAll, PyData.depthAll, h1.1, h2.1, a, b, c, Bool.and_self, true_and]
  omega
theorem N0 : ∀ {n l : Nat} {d : D}, iS n l d = true → l ≤ 100 → ∃ p, Told n d p
 | 0, _, _, h, _ => by simp [iS] at h
 | n + 1, l, d, h, hl => by
  cases d <;> simp only [iS, bg] at h
  ·exact ⟨.none, fun _ => rfl, rfl, rfl, by simp [PyData.depth]⟩
  ·exact ⟨.bool _, fun _ => rfl, rfl, rfl, by simp [PyData.depth]⟩
  ·refine ⟨.int _, fun _ => rfl, ?_, rfl, by simp [PyData.depth]⟩
   simp only [ak] at h
   simp only [eY, ak]
   omega
  ·refine ⟨.str _, fun _ => rfl, ?_, rfl, by simp [PyData.depth]⟩
   rw [eY]
   exact yY h (by omega)
  ·simp only [ao, au, ak] at h
   obtain ⟨ps, h1, h2, h3, h4, h5⟩ := L1 fun x hx => N0 (h.1 x hx) hl
   exact ⟨.tuple ps, fun f => by unfold D.z4; rw [h1 f]; rfl, by rw [eY]; exact h2, by rw [PyData.bulk, h3, iT], by rw [PyData.depth]; omega⟩
  ·simp only [ao, au, ak] at h
   obtain ⟨ps, h1, h2, h3, h4, h5⟩ := L1 fun x hx => N0 (h.1 x hx) hl
   exact ⟨.list ps, fun f => by unfold D.z4; rw [h1 f]; rfl, by rw [eY]; exact h2, by rw [PyData.bulk, h3, iT], by rw [PyData.depth]; omega⟩
  ·rename_i ks vs
   simp only [ao, ak] at h
   obtain ⟨⟨g1, g2⟩, g3, g4⟩ := h
   obtain ⟨kp, a1, a2, a3, a4, a5⟩ := aAe hl g1
   rw [au] at g2
   obtain ⟨ps, h1, h2, h3, h4, h5⟩ := L1 fun x hx => N0 (g2 x hx) hl
   have el : kp.length = ps.length := by omega
   obtain ⟨z1, z2, z3⟩ := aAv el a2 h2
   refine ⟨.dict (kp.zip ps), fun f => ?_, by rw [eY]; exact z1, by rw [PyData.bulk, z2, a3, h3, iT], by rw [PyData.depth, z3]; omega⟩
   unfold D.z4
   rw [a1, h1 f]
   simp only [el, ae]
section
variable {w : W} {P : D → W → Prop} {d : D} {p : PyData} {n l : Nat}
theorem M0 (t : Told n d p) (hn : n ≤ 40) (hb : iT d ≤ 200000) : T (mW [d] w) P = P (.str p.shown) w := by
 obtain ⟨a1, a2⟩ := qV p t.plain
 have b := PyData.shown_le_bulk 60 (by decide) p a1
 have dd := t.deep
 have z := t.bulk
 have e2 : xQ d w = some p.shown := by
  unfold xQ
  rw [t.py]
  simp only []
  rw [if_pos]
  refine ⟨a2, by omega, ?_⟩
  have := sizeLine_eq
  have : (60 + 2) * p.bulk ≤ 62 * 200000 := Nat.mul_le_mul_left _ (by omega)
  omega
 have : mW [d] w = .ok (.str p.shown) w := by simp only [mW, e2]
 rw [this, bV]
theorem QF (h : iS n l d = true) (hl : l ≤ 100) (hn : n ≤ 40) (hb : iT d ≤ 200000) : ∃ z, PyData.strOk z = true ∧ ∀ (w : W) (P : D → W → Prop), T (mW [d] w) P = P (.str z) w := by
 obtain ⟨p, t⟩ := N0 h hl
 exact ⟨p.shown, j3 p t.plain, fun w P => M0 t hn hb⟩
end
mutual
theorem aGE {f : Nat → Option PyData} (hf : ∀ i, f i = none) : ∀ (d : D) {q : PyData}, d.fW f = some q → q.bulk = iT d
 | .non, _, h => by simp only [D.fW, aj] at h; subst h; rfl
 | .bl _, _, h => by simp only [D.fW, aj] at h; subst h; rfl
 | .int _, _, h => by simp only [D.fW, aj] at h; subst h; rfl
 | .str _, _, h => by simp only [D.fW, aj] at h; subst h; rfl
 | .ty _, _, h => by simp [D.fW] at h
 | .con _, _, h => by simp [D.fW] at h
 | .zX _ _, _, h => by simp [D.fW] at h
 | .ref i, _, h => by
  simp only [D.fW, hf] at h
  cases h
 | .tup xs, _, h => by
  simp only [D.fW, aq] at h
  obtain ⟨ps, h1, rfl⟩ := h
  rw [PyData.bulk, iT, wts_py hf xs h1]
 | .lY xs, _, h => by
  simp only [D.fW, aq] at h
  obtain ⟨ps, h1, rfl⟩ := h
  rw [PyData.bulk, iT, wts_py hf xs h1]
 | .lst xs, _, h => by
  simp only [D.fW, aq] at h
  obtain ⟨ps, h1, rfl⟩ := h
  rw [PyData.bulk, iT, wts_py hf xs h1]
 | .oI xs, _, h => by
  simp only [D.fW, aq] at h
  obtain ⟨ps, h1, rfl⟩ := h
  rw [PyData.bulk, iT, wts_py hf xs h1]
theorem wts_py {f : Nat → Option PyData} (hf : ∀ i, f i = none) : ∀ (ds : List D) {qs : List PyData}, D.pysR f ds = some qs → PyData.bulkAll qs = wtDs ds
 | [], _, h => by simp only [D.pysR, aj] at h; subst h; rfl
 | d :: ds, _, h => by
  simp only [D.pysR] at h
  split at h
  ·rename_i p ps e1 e2
   cases h
   rw [PyData.bulkAll, wtDs, aGE hf d e1, wts_py hf ds e2]
  ·cases h
end
theorem aAR {i : Int} (h : i.natAbs < 10 ^ 40) : xP 0 (toString i : String) = true := by
 simp only [xP, ao, au, ak]
 refine ⟨fun c hc => ?_, ?_⟩
 ·rw [signs_ofString] at hc
  obtain ⟨ch, hm, rfl⟩ := dh.mp hc
  rcases int_sign i ch hm with hd | rfl
  ·have := digit_range hd
   simp only [chB, ao, ak, bne_iff_ne, ne_eq]
   omega
  ·decide
 ·have := vG h
  simp only [PyData.leavesShort, ak] at this
  exact de this (by omega)
theorem pJ : ∀ {xs ys : List D}, wtDs (xs ++ ys) = wtDs xs + wtDs ys
 | [], ys => by simp [wtDs]
 | x :: xs, ys => by
  rw [ax, wtDs, wtDs, pJ (xs := xs)]
  omega
theorem GK {xs : List D} (n : Nat) : wtDs (xs.take n) + wtDs (xs.drop n) = wtDs xs := by
 rw [← pJ, List.take_append_drop]
theorem VN {xs : List D} (n : Nat) : wtDs (xs.take n) ≤ wtDs xs := by
 have := GK (xs := xs) n
 omega
theorem WC {xs : List D} (n : Nat) : wtDs (xs.drop n) ≤ wtDs xs := by
 have := GK (xs := xs) n
 omega
theorem UK : ∀ {xs : List D}, wtDs xs.reverse = wtDs xs
 | [] => rfl
 | x :: xs => by
  rw [List.reverse_cons, pJ, UK (xs := xs)]
  simp only [wtDs]
  omega
theorem aEd {xs : List D} {i : Nat} {x : D} (h : xs[i]? = some x) : wtDs (xs.take i) + (iT x + 1) + wtDs (xs.drop (i + 1)) = wtDs xs := by
 have a := GK (xs := xs) i
 have hl := (ai.mp h).1
 have b : xs.drop i = x :: xs.drop (i + 1) := by
  rw [List.drop_eq_getElem_cons hl]
  congr 1
  exact (ai.mp h).2
 rw [b, wtDs] at a
 omega
theorem BF {n l : Nat} {xs : List D} (h : ∀ x ∈ xs, iS n l x = true) (hl : xs.length ≤ 40 + l) : iS (n + 1) l (.tup xs) = true := by
 simp only [iS, ao, au, ak]
 exact ⟨h, hl⟩
theorem aBl {n l : Nat} {xs : List D} (h : ∀ x ∈ xs, iS n l x = true) (hl : xs.length ≤ 40 + l) : iS (n + 1) l (.lst xs) = true := by
 simp only [iS, ao, au, ak]
 exact ⟨h, hl⟩
theorem RG {n l : Nat} {xs : List D} (h : iS (n + 1) l (.tup xs) = true) : (∀ x ∈ xs, iS n l x = true) ∧ xs.length ≤ 40 + l := by
 simp only [iS, ao, au, ak] at h
 exact h
def Odd (n l b : Nat) (y : D) : Prop := iS (n + 2) (l + 1) y = true ∧ iT y ≤ 3 * b + 100
section
variable {n l at_ : Nat} {xs : List D} {x : D}
theorem aAJ {ys : List D} (h : iS n l (.tup xs) = true) (hm : ∀ y ∈ ys, y ∈ xs) (hl : ys.length ≤ xs.length + 1) (hw : wtDs ys ≤ 3 * wtDs xs) : Odd n l (iT (.tup xs)) (.tup ys) ∧ Odd n l (iT (.tup xs)) (.lst ys) := by
 cases n with
 | zero => simp [iS] at h
 | succ n =>
  obtain ⟨h1, h2⟩ := RG h
  refine ⟨⟨BF (fun y hy => hU (h1 y (hm y hy)) (by omega) (by omega)) (by omega), ?_⟩, ⟨aBl (fun y hy => hU (h1 y (hm y hy)) (by omega) (by omega)) (by omega), ?_⟩⟩
  ·simp only [iT]; omega
  ·simp only [iT]; omega
theorem aFI {i : Nat} (h : iS n l (.tup xs) = true) (hx : xs[i]? = some x) : Odd n l (iT (.tup xs)) x := by
 cases n with
 | zero => simp [iS] at h
 | succ n =>
  obtain ⟨h1, h2⟩ := RG h
  have := aEd hx
  exact ⟨hU (h1 x (cb hx)) (by omega) (by omega), by simp only [iT]; omega⟩
theorem VS (h : iS n l x = true) : Odd n l (iT x) (.tup [x]) ∧ Odd n l (iT x) (.lst [x]) := by
 refine ⟨⟨BF (fun y hy => ?_) (by simp; omega), by simp only [iT, wtDs]; omega⟩, ⟨aBl (fun y hy => ?_) (by simp; omega), by simp only [iT, wtDs]; omega⟩⟩
 ·rw [da.mp hy]
  exact hU h (by omega) (by omega)
 ·rw [da.mp hy]
  exact hU h (by omega) (by omega)
theorem aDj {b : Nat} {y : D} (h : iS 3 0 y = true) (hn : 1 ≤ n) (hw : iT y ≤ 100) : Odd n l b y := ⟨hU h (by omega) (by omega), by omega⟩
end
theorem Y9 {xs : List D} {i : Int} (h0 : 0 ≤ i) (h1 : i < (xs.length : Nat)) : ∃ x, atI xs i = some x ∧ x ∈ xs := by
 obtain ⟨j, rfl⟩ : ∃ j : Nat, i = (j : Int) := ⟨i.toNat, by omega⟩
 have hj : j < xs.length := by omega
 exact ⟨xs[j], jL (bj hj), List.getElem_mem hj⟩
section
variable {w : W} {P : D → W → Prop} {n : Nat} {d : D}
theorem aCH {a b : List D} (h : a.length + b.length ≤ 1000) : T (bS (.tup a) (.tup b) w) P = P (.tup (a ++ b)) w := by
 have : bS (.tup a) (.tup b) w = .ok (.tup (a ++ b)) w := by
  simp only [bS, if_pos (show a.length + b.length ≤ sizeLine by rw [sizeLine_eq]; omega)]
 rw [this, bV]
theorem aFC {i : Int} (h : i.natAbs < 10 ^ 40) : T (X2 [.int i] w) P = P (.str (toString i : String)) w := by
 have l : i.natAbs.log2 < 1920 := by
  have := x9 h
  simpa only [PyData.showable, ak] using this
 have : X2 [.int i] w = .ok (.str (toString i : String)) w := by
  simp only [X2, if_pos l]
 rw [this, bV]
theorem aFU {m : MP} {σ : Sg} {kvs : List (Key × D)} {ps : List (D × D)} (h : m σ w = .ok ps w) (hk : keyed ps = some kvs) (hl : kvs.length ≤ 15) : T (IJ m σ w) P = P (V5 (mH [] kvs)) w := by
 have : IJ m σ w = .ok (V5 (mH [] kvs)) w := by
  unfold IJ
  rw [h]
  simp only [Res.aCF, hk, if_pos hl]
 rw [this, bV]
theorem aC0 {σ : Sg} : T (LL σ w) P = P (.zX [] []) w := by unfold LL; rw [bV]
theorem aEL {xs : List D} {lo hi : Option Int} : iZ (.tup xs) lo hi w = .ok (.tup (Pc.cutD xs lo hi)) w := rfl
theorem aD9 {xs : List D} : XN (.tup xs) w = .ok (.tup xs.reverse) w := rfl
theorem aFi {xs : List D} : IM [.tup xs] w = .ok (.lst xs) w := rfl
end
end Lw
namespace Sx
open PySem PySem.Spec PyProof.Rows L2 Pc Lb Lw
structure bN where
 aHY : Addr
 zz : Unit := ()
def gE : List Str := [("thing" : Str)]
def jM (k : bN) : MS :=
 (bE (jX (aP (gF gL) (aA (aB 0) (aA (eC (.ty "int")) aE))) (yX notM (aP (gF gL) (aA (aB 0) (aA (eC (.ty "bool")) aE))))))
def gH (k : bN) : MF := bP (jM k) gE
theorem CY (x0 : D) : begin gE [x0] = [some x0] := rfl
def fH : List Str := [("thing" : Str), ("least" : Str), ("most" : Str)]
def iB (k : bN) : MS :=
 (bE (jX (aJ (gH k) 1 aN (aA (aB 0) aE)) (UI DX DX (aB 1) (aB 0) (aB 2))))
def bM (k : bN) : MF := bP (iB k) fH
theorem yZ (x0 x1 x2 : D) : begin fH [x0, x1, x2] = [some x0, some x1, some x2] := rfl
def HL : List Str := [("thing" : Str), ("one" : Str)]
def HK (k : bN) : MS :=
 (bE (aP allM (aA (b6 (dY (aB 0)) [1] (a7 1) cD (aJ (bM k) 3 aN (aA (aB 1) (aA (eC (.int 0)) (aA (eC (.int 999)) aE))))) aE)))
def HF (k : bN) : MF := bP (HK k) HL
def AH : List Str := [("thing" : Str)]
def A3 (k : bN) : MS :=
 (bE (jX (aP (gF gL) (aA (aB 0) (aA (eC (.ty "tuple")) aE))) (jX (aD gA (aP c5 (aA (aB 0) aE)) (eC (.int 4))) (aJ (HF k) 1 aN (aA (aB 0) aE)))))
def JX (k : bN) : MF := bP (A3 k) AH
section
variable (k : Sx.bN)
abbrev lz : Lb.bN := ⟨0, 0⟩
variable {n l : Nat} {w w' w0 : W} {P : D → W → Prop} {PF : Fl → W → Prop} {d : D}
end
def aID : D → Bool
 | .int _ => true
 | _ => false
def cI (xs : List D) : Nat := xs.countP aID
def xM : Nat → Nat → D → Bool
 | 0, _, _ => false
 | n + 1, l, .tup xs => xs.all (xM n l) && decide (cI xs + 40 ≤ l)
 | n + 1, l, .lst xs => xs.all (xM n l)
 | n + 1, l, .zX _ vs => vs.all (xM n l)
 | _ + 1, _, _ => true
theorem nV : ∀ {n n' l l' : Nat} {d : D}, xM n l d = true → n ≤ n' → l ≤ l' → xM n' l' d = true
 | 0, _, _, _, _, h, _, _ => by simp [xM] at h
 | n + 1, 0, _, _, _, _, hn, _ => by omega
 | n + 1, n' + 1, l, l', d, h, hn, hl => by
  cases d <;> simp only [xM] at h ⊢
  ·simp only [ao, au, ak] at h ⊢
   exact ⟨fun x hx => nV (h.1 x hx) (by omega) hl, by omega⟩
  ·simp only [au] at h ⊢
   exact fun x hx => nV (h x hx) (by omega) hl
  ·simp only [au] at h ⊢
   exact fun x hx => nV (h x hx) (by omega) hl
theorem AX {n l : Nat} {xs : List D} (h : ∀ x ∈ xs, xM n l x = true) (hl : cI xs + 40 ≤ l) : xM (n + 1) l (.tup xs) = true := by
 simp only [xM, ao, au, ak]
 exact ⟨h, hl⟩
theorem Y3 {n l : Nat} {xs : List D} (h : ∀ x ∈ xs, xM n l x = true) : xM (n + 1) l (.lst xs) = true := by
 simp only [xM, au]
 exact h
theorem VG {n l : Nat} {xs : List D} (h : xM (n + 1) l (.tup xs) = true) : (∀ x ∈ xs, xM n l x = true) ∧ cI xs + 40 ≤ l := by
 simp only [xM, ao, au, ak] at h
 exact h
theorem uD {xs ys : List D} : cI (xs ++ ys) = cI xs + cI ys := List.countP_append ..
theorem UN {xs : List D} (n : Nat) : cI (xs.take n) + cI (xs.drop n) = cI xs := by rw [← uD, List.take_append_drop]
theorem aEo {xs : List D} : cI xs.reverse = cI xs := List.countP_reverse ..
theorem VZ {x : D} : cI [x] ≤ 1 := by
 unfold cI
 exact de List.countP_le_length (by simp)
theorem aEE {xs : List D} (n : Nat) : cI (xs.take (n + 1)) ≤ cI (xs.take n) + 1 := by
 have e : xs.take (n + 1) = xs.take n ++ xs[n]?.toList := List.take_add_one
 rw [e, uD]
 have : cI xs[n]?.toList ≤ 1 := by
  cases xs[n]? with
  | none => simp [cI]
  | some x => exact VZ
 omega
def Gr (w w' : W) : Prop := ∃ x, w' = w ++ x
theorem Gr.refl {w : W} : Gr w w := ⟨[], (List.append_nil w).symm⟩
theorem Gr.trans {a b c : W} (h : Gr a b) (g : Gr b c) : Gr a c := by
 obtain ⟨x, rfl⟩ := h
 obtain ⟨y, rfl⟩ := g
 exact ⟨x ++ y, by rw [cj]⟩
theorem Gr.one {w : W} {o : MO} : Gr w (w ++ [o]) := ⟨[o], rfl⟩
section
variable (k : Sx.bN)
variable {n l : Nat} {w w' w0 : W} {P : D → W → Prop} {PF : Fl → W → Prop} {d : D}
def M3 (u0 w : W) (b : Nat) : Prop := cO w 1 0 b ∧ pY u0 w 1 0
variable {u0 : W}
theorem M3.less {b b' : Nat} (h : M3 u0 w b) (hb : b' ≤ b) : M3 u0 w b' := ⟨h.1.less hb, h.2⟩
theorem LF {b : Nat} (h : cO w 1 0 b) : 2 ≤ w.length := by
 obtain ⟨_, cells, sm, a, h1, h2, _⟩ := h
 have := (ai.mp h1).1
 omega
theorem VF {b : Nat} (h : cO w 1 0 b) (g : Gr w w') : cO w' 1 0 b := by
 have l := LF h
 obtain ⟨x, rfl⟩ := g
 obtain ⟨ne, cells, sm, a, h1, h2, h3⟩ := h
 exact ⟨ne, cells, sm, a, by rw [av (by omega)]; exact h1, by rw [av (by omega)]; exact h2, h3⟩
theorem pQ {b q : Nat} {o : MO} (h : cO w 1 0 b) (hq : 2 ≤ q) : cO (w.set q o) 1 0 b := by
 obtain ⟨ne, cells, sm, a, h1, h2, h3⟩ := h
 exact ⟨ne, cells, sm, a, by rw [az (by omega)]; exact h1, by rw [az (by omega)]; exact h2, h3⟩
theorem M3.gr {b : Nat} (h : M3 u0 w b) (g : Gr w w') : M3 u0 w' b := by
 refine ⟨VF h.1 g, h.2.trans ?_⟩
 obtain ⟨x, rfl⟩ := g
 exact pY.app
theorem xW {b : Nat} {size : Int} (h : M3 u0 w (b + 1)) (h0 : 0 < size) (h1 : size < 1073741824) (hP : ∀ v w', 0 ≤ v → v < size → M3 u0 w' b → Pc.Kept w w' 1 0 → P (.int v) w') : T (rX [.ref 1, .int size] w) P :=
 eB h.1 h0 h1 fun v w' a0 a1 d k => hP v w' a0 a1 ⟨d, h.2.trans (Pc.Kept.grow k)⟩ k
theorem Q9 {xs : List D} {i : Int} {Q : D → Prop} (h0 : 0 ≤ i) (h1 : i < (xs.length : Nat)) (h : ∀ x ∈ xs, Q x) : ∃ x, atI xs i = some x ∧ Q x := by
 obtain ⟨x, hx, hm⟩ := Y9 h0 h1
 exact ⟨x, hx, h x hm⟩
theorem aEr {xs : List D} : cI xs ≤ xs.length := List.countP_le_length
end
section
variable (k : Sx.bN)
variable {n l : Nat} {w w' w0 : W} {P : D → W → Prop} {PF : Fl → W → Prop} {d : D}
def TN (xs : List D) : List D := (List.range xs.length).zipWith (fun i x => D.tup [.int (i : Nat), x]) xs
end
section
variable {w : W} {P : D → W → Prop}
mutual
theorem aEW : ∀ (d : D) {q : PyData}, d.fW (fun _ => none) = some q → ∀ f, d.z4 f = some q
 | .non, _, h, f => h
 | .bl _, _, h, f => h
 | .int _, _, h, f => h
 | .str _, _, h, f => h
 | .ty _, _, h, _ => by simp [D.fW] at h
 | .con _, _, h, _ => by simp [D.fW] at h
 | .zX _ _, _, h, _ => by simp [D.fW] at h
 | .ref i, _, h, _ => by simp [D.fW] at h
 | .tup xs, _, h, f => by
  simp only [D.fW, aq] at h
  obtain ⟨ps, h1, rfl⟩ := h
  unfold D.z4
  rw [pysV_of xs h1 f]
  rfl
 | .lY xs, _, h, f => by
  simp only [D.fW, aq] at h
  obtain ⟨ps, h1, rfl⟩ := h
  unfold D.z4
  rw [pysV_of xs h1 f]
  rfl
 | .lst xs, _, h, f => by
  simp only [D.fW, aq] at h
  obtain ⟨ps, h1, rfl⟩ := h
  unfold D.z4
  rw [pysV_of xs h1 f]
  rfl
 | .oI xs, _, h, f => by
  simp only [D.fW, aq] at h
  obtain ⟨ps, h1, rfl⟩ := h
  unfold D.z4
  rw [pysV_of xs h1 f]
  rfl
theorem pysV_of : ∀ (ds : List D) {qs : List PyData}, D.pysR (fun _ => none) ds = some qs → ∀ f, D.pysV f ds = some qs
 | [], _, h, f => h
 | d :: ds, _, h, f => by
  simp only [D.pysR] at h
  split at h
  ·rename_i p ps e1 e2
   cases h
   unfold D.pysV
   rw [aEW d e1 f, pysV_of ds e2 f]
  ·cases h
end
end
end Sx
namespace K01
open PySem PySem.Spec PyProof.Rows L2 Pc
structure Fx (S : aR) where
 k : bN
 y5 : S.mg ("IndexError" : Str) = none
 yR : S.mg ("ValueError" : Str) = none
 IE : S.mg ("all" : Str) = none
 FZ : S.mg ("bool" : Str) = none
 IP : S.mg ("int" : Str) = none
 bA : S.mg ("isinstance" : Str) = none
 gJ : S.mg ("len" : Str) = none
 L3 : S.mg ("list" : Str) = none
 qW : S.mg ("range" : Str) = none
 GN : S.mg ("repr" : Str) = none
 QQ : S.mg ("sorted" : Str) = none
 aDZ : S.mg ("str" : Str) = none
 aEm : S.mg ("sum" : Str) = none
 dS : S.mg ("tuple" : Str) = none
 aEc : S.mg ("zip" : Str) = none
 qA : NV S ("MOST_ADDRESSES" : Str) (.int 4)
 wF : NV S ("MOST_HOUSES" : Str) (.int 6)
 CD : NV S ("MOST_LESS" : Str) (.int 11)
 FN : NV S ("MOST_TIE" : Str) (.int 9)
 CU : NV S ("MOST_TIES" : Str) (.int 6)
 aD0 : NV S ("TOP" : Str) (.int 12)
 BL : NV S ("NUMBERS" : Str) (.con k.eE)
 AK : KTab S.K S.w k.eE dX
 t7 : S.mg ("NetError" : Str) = some (.ref k.eU)
 UL : NV S ("NetError" : Str) (.con k.eU)
 IL : S.mg ("NoDeed" : Str) = some (.ref k.iU)
 aAH : NV S ("NoDeed" : Str) (.con k.iU)
 IS : S.mg ("NoFate" : Str) = some (.ref k.iX)
 Z9 : NV S ("NoFate" : Str) (.con k.iX)
 pR : S.mg ("NoPlan" : Str) = some (.ref k.bL)
 Z6 : NV S ("NoPlan" : Str) (.con k.bL)
 NW : S.mg ("NoRow" : Str) = some (.ref k.lH)
 aCK : NV S ("NoRow" : Str) (.con k.lH)
 I0 : S.mg ("NoText" : Str) = some (.ref k.iV)
 aAm : NV S ("NoText" : Str) (.con k.iV)
 WK : S.mg ("Plan" : Str) = some (.ref k.aO)
 aFL : NV S ("Plan" : Str) (.con k.aO)
 fQ : Cls S.K k.aO
 rD : NoAttr S.K k.aO ("bears" : Str)
 rJ : NoAttr S.K k.aO ("every" : Str)
 wQ : NoAttr S.K k.aO ("gap" : Str)
 u3 : NoAttr S.K k.aO ("hold" : Str)
 rA : NoAttr S.K k.aO ("hosts" : Str)
 u4 : NoAttr S.K k.aO ("lost" : Str)
 rE : NoAttr S.K k.aO ("ranks" : Str)
 uS : NoAttr S.K k.aO ("slow" : Str)
 rQ : NoAttr S.K k.aO ("takes" : Str)
 uH : NoAttr S.K k.aO ("ties" : Str)
 EV : S.mg ("TooMany" : Str) = some (.ref k.gN)
 YO : NV S ("TooMany" : Str) (.con k.gN)
 lW : Addr
 oX : FuncData
 tQ : FunD S.K ("_law_deck" : Str) ("_law_deck" : Str) (defArgs (top 30)) (defBody (top 30)) (defScope (top 30)) [] [] lW oX
 BX : S.mg ("_law_deck" : Str) = some (.ref lW)
 yN : PySem.W.keepIn S.K (.ref lW) = true
 mE : Addr
 oY : FuncData
 uX : FunD S.K ("_law_draw" : Str) ("_law_draw" : Str) (defArgs (top 31)) (defBody (top 31)) (defScope (top 31)) [] [] mE oY
 bB : S.mg ("_law_draw" : Str) = some (.ref mE)
 aV : PySem.W.keepIn S.K (.ref mE) = true
 fY : Addr
 iG : FuncData
 lE : FunD S.K ("_law_is_within" : Str) ("_law_is_within" : Str) (defArgs (top 37)) (defBody (top 37)) (defScope (top 37)) [] [] fY iG
 dP : S.mg ("_law_is_within" : Str) = some (.ref fY)
 dC : PySem.W.keepIn S.K (.ref fY) = true
 f9 : Addr
 iJ : FuncData
 kR : FunD S.K ("_law_are_cords" : Str) ("_law_are_cords" : Str) (defArgs (top 39)) (defBody (top 39)) (defScope (top 39)) [] [] f9 iJ
 pU : S.mg ("_law_are_cords" : Str) = some (.ref f9)
 oT : PySem.W.keepIn S.K (.ref f9) = true
 gK : Addr
 jB : FuncData
 mQ : FunD S.K ("_law_are_rows" : Str) ("_law_are_rows" : Str) (defArgs (top 38)) (defBody (top 38)) (defScope (top 38)) [] [] gK jB
 sF : S.mg ("_law_are_rows" : Str) = some (.ref gK)
 qB : PySem.W.keepIn S.K (.ref gK) = true
 kD : Addr
 nG : FuncData
 q7 : FunD S.K ("_law_fault" : Str) ("_law_fault" : Str) (defArgs (top 40)) (defBody (top 40)) (defScope (top 40)) [] [] kD nG
 rW : S.mg ("_law_fault" : Str) = some (.ref kD)
 pF : PySem.W.keepIn S.K (.ref kD) = true
 fF : Addr
 gT : FuncData
 j8 : FunD S.K ("_law_due_fields" : Str) ("_law_due_fields" : Str) (defArgs (top 36)) (defBody (top 36)) (defScope (top 36)) [] [] fF gT
 oU : S.mg ("_law_due_fields" : Str) = some (.ref fF)
 nP : PySem.W.keepIn S.K (.ref fF) = true
 hD : Addr
 j9 : FuncData
 nY : FunD S.K ("_law_classes" : Str) ("_law_classes" : Str) (defArgs (top 43)) (defBody (top 43)) (defScope (top 43)) [] [] hD j9
 tY : S.mg ("_law_classes" : Str) = some (.ref hD)
 sM : PySem.W.keepIn S.K (.ref hD) = true
 iW : Addr
 lM : FuncData
 pN : FunD S.K ("_law_fields" : Str) ("_law_fields" : Str) (defArgs (top 35)) (defBody (top 35)) (defScope (top 35)) [] [] iW lM
 vW : S.mg ("_law_fields" : Str) = some (.ref iW)
 uA : PySem.W.keepIn S.K (.ref iW) = true
 oA : Addr
 rR : FuncData
 xO : FunD S.K ("is_whole" : Str) ("is_whole" : Str) (defArgs (top 21)) (defBody (top 21)) (defScope (top 21)) [] [] oA rR
 EJ : S.mg ("is_whole" : Str) = some (.ref oA)
 CK : PySem.W.keepIn S.K (.ref oA) = true
 mB : Addr
 oQ : FuncData
 t4 : FunD S.K ("is_within" : Str) ("is_within" : Str) (defArgs (top 22)) (defBody (top 22)) (defScope (top 22)) [] [] mB oQ
 jQ : S.mg ("is_within" : Str) = some (.ref mB)
 iF : PySem.W.keepIn S.K (.ref mB) = true
 lZ : Addr
 oJ : FuncData
 uN : FunD S.K ("are_ranks" : Str) ("are_ranks" : Str) (defArgs (top 23)) (defBody (top 23)) (defScope (top 23)) [] [] lZ oJ
 CQ : S.mg ("are_ranks" : Str) = some (.ref lZ)
 yP : PySem.W.keepIn S.K (.ref lZ) = true
 qH : Addr
 zF : FuncData
 EK : FunD S.K ("is_tie" : Str) ("is_tie" : Str) (defArgs (top 24)) (defBody (top 24)) (defScope (top 24)) [] [] qH zF
 QK : S.mg ("is_tie" : Str) = some (.ref qH)
 JB : PySem.W.keepIn S.K (.ref qH) = true
 oH : Addr
 rB : FuncData
 wK : FunD S.K ("are_ties" : Str) ("are_ties" : Str) (defArgs (top 25)) (defBody (top 25)) (defScope (top 25)) [] [] oH rB
 ER : S.mg ("are_ties" : Str) = some (.ref oH)
 B9 : PySem.W.keepIn S.K (.ref oH) = true
 nQ : Addr
 rT : FuncData
 xS : FunD S.K ("is_field" : Str) ("is_field" : Str) (defArgs (top 26)) (defBody (top 26)) (defScope (top 26)) [] [] nQ rT
 GY : S.mg ("is_field" : Str) = some (.ref nQ)
 B6 : PySem.W.keepIn S.K (.ref nQ) = true
 oS : Addr
 oW : FuncData
 tZ : FunD S.K ("__init__" : Str) ("Plan.__init__" : Str) (defArgs (inClass (top 28) 0)) (defBody (inClass (top 28) 0)) (defScope (inClass (top 28) 0)) [] [(("every" : Str), (.int 1)), (("lost" : Str), (.int 1)), (("slow" : Str), (.int 1)), (("bears" : Str), .non), (("gap" : Str), (.int 1)), (("hold" : Str), (.int 0)), (("takes" : Str), (.bl true)), (("ties" : Str), (.ref k.k9)), (("hosts" : Str), (.int 0))] oS oW
 aBf : Mk S.K k.aO oS
 mD : Addr
 oN : FuncData
 uG : FunD S.K ("_law_made" : Str) ("_law_made" : Str) (defArgs (top 34)) (defBody (top 34)) (defScope (top 34)) [] [] mD oN
 BV : S.mg ("_law_made" : Str) = some (.ref mD)
 y8 : PySem.W.keepIn S.K (.ref mD) = true
 jY : Addr
 nA : FuncData
 rY : FunD S.K ("_law_heard" : Str) ("_law_heard" : Str) (defArgs (top 44)) (defBody (top 44)) (defScope (top 44)) [] [] jY nA
 zP : S.mg ("_law_heard" : Str) = some (.ref jY)
 v3 : PySem.W.keepIn S.K (.ref jY) = true
 kF : Addr
 nF : FuncData
 rO : FunD S.K ("_law_right" : Str) ("_law_right" : Str) (defArgs (top 45)) (defBody (top 45)) (defScope (top 45)) [] [] kF nF
 qT : S.mg ("_law_right" : Str) = some (.ref kF)
 pD : PySem.W.keepIn S.K (.ref kF) = true
 oD : Addr
 rC : FuncData
 wW : FunD S.K ("_law_odd" : Str) ("_law_odd" : Str) (defArgs (top 41)) (defBody (top 41)) (defScope (top 41)) [] [] oD rC
 jI : S.mg ("_law_odd" : Str) = some (.ref oD)
 hZ : PySem.W.keepIn S.K (.ref oD) = true
 cU : Addr
 cZ : FuncData
 eK : FunD S.K ("_law_spoilt" : Str) ("_law_spoilt" : Str) (defArgs (top 42)) (defBody (top 42)) (defScope (top 42)) [] [] cU cZ
 eP : S.mg ("_law_spoilt" : Str) = some (.ref cU)
 dU : PySem.W.keepIn S.K (.ref cU) = true
 mF : Addr
 oV : FuncData
 tM : FunD S.K ("_law_pick" : Str) ("_law_pick" : Str) (defArgs (top 32)) (defBody (top 32)) (defScope (top 32)) [] [] mF oV
 oO : S.mg ("_law_pick" : Str) = some (.ref mF)
 nB : PySem.W.keepIn S.K (.ref mF) = true
 l8 : Addr
 pA : FuncData
 uW : FunD S.K ("_law_told" : Str) ("_law_told" : Str) (defArgs (top 33)) (defBody (top 33)) (defScope (top 33)) [] [] l8 pA
 CV : S.mg ("_law_told" : Str) = some (.ref l8)
 zV : PySem.W.keepIn S.K (.ref l8) = true
 I7 : Addr
 WG : FuncData
 aEf : FunD S.K ("law" : Str) ("law" : Str) (defArgs (top 46)) (defBody (top 46)) (defScope (top 46)) [] [] I7 WG
 aDQ : S.mg ("law" : Str) = some (.ref I7)
 aEQ : PySem.W.keepIn S.K (.ref I7) = true
 lG : Addr
 lI : FuncData
 pM : FunD S.K ("__init__" : Str) ("NoPlan.__init__" : Str) (defArgs (inClass (top 8) 0)) (defBody (inClass (top 8) 0)) (defScope (inClass (top 8) 0)) [] [] lG lI
 sU : ExF S.K k.bL k.eU lG ("field" : Str)
 sC : PySem.W.exmOne S.K (.ref k.bL) (.ref k.bL) = some true
 JR : PySem.W.XT S.K k.bL
 mU : PySem.W.kitOne S.K (.ref k.bL) (.type "IndexError") = some false
 oR : PySem.W.kitOne S.K (.ref k.bL) (.ref k.eU) = some true
 sN : PySem.W.kitOne S.K (.ref k.bL) (.ref k.iU) = some false
 sE : PySem.W.kitOne S.K (.ref k.bL) (.ref k.iX) = some false
 sJ : PySem.W.kitOne S.K (.ref k.bL) (.ref k.bL) = some true
 tE : PySem.W.kitOne S.K (.ref k.bL) (.ref k.lH) = some false
 sG : PySem.W.kitOne S.K (.ref k.bL) (.ref k.iV) = some false
 pW : PySem.W.kitOne S.K (.ref k.bL) (.ref k.gN) = some false
 mY : PySem.W.kitOne S.K (.ref k.bL) (.type "ValueError") = some true
 UC : Dis k
 Z5 : LW S.K
theorem IG {S : aR} (h : Fx S) : FnOk S.P S.w S.K S.mg S.base CXn 1 h.lG h.lI [("self" : Str), ("field" : Str)] (spX h.k.bL ("field" : Str)) := aDM h.sU h.pM (cJ (by decide +kernel)) rfl rfl h.t7 rfl (.inl rfl) (.inl rfl) rfl rfl (fun _ => rfl) (fun _ => rfl) (fun _ => rfl)
theorem IQ {S : aR} (h : Fx S) : Binds S.K h.lI [("self" : Str), ("field" : Str)] [] := aAh (L2.FunD.bindsA h.pM fun _ _ _ _ _ _ us hl => match us, hl with
 | [_, _], _ => rfl)
def AE (k : bN) : List (Addr × Bool) := [(k.bL, true)]
theorem UR {S : aR} (h : Fx S) : ZK S.K h.k.bL (AE h.k) := (aDa h.sC aEV)
def gM (k : bN) : List Addr := [k.bL]
theorem BO {S : aR} (h : Fx S) : aBx S.K (gM h.k) ("field" : Str) := (aDs h.sU aFW)
def HC (k : bN) : KxT := kxT [(k.bL, [(.b "IndexError", false), (.o k.eU, true), (.o k.iU, false), (.o k.iX, false), (.o k.bL, true), (.o k.lH, false), (.o k.iV, false), (.o k.gN, false), (.b "ValueError", true)])]
theorem kxo {S : aR} (h : Fx S) : RU S.K (HC h.k) := (aCr h.JR (m7 h.mU (m7 h.oR (m7 h.sN (m7 h.sE (m7 h.sJ (m7 h.tE (m7 h.sG (m7 h.pW (m7 h.mY aEM))))))))) aEN)
def tW : List Str := [("_law_script" : Str), ("_law_cells" : Str)]
def uV : List Str := [("_law_script" : Str)]
abbrev BW : Scope := defScope (top 30)
def CF (k : bN) : MS :=
 (aI (aT (aP tG (aA (m9 iZ (aB 0) cV (cK (eC (.int 63)))) aE)) (a7 1))
 (bE (GG (dJ (eC (.str ("cells" : Str))) (aB 1) (dJ (eC (.str ("at" : Str))) (eC (.int 0)) (dJ (eC (.str ("sum" : Str))) (aD bS (aD kN (aP O0 (aA (aB 1) aE)) (eC (.int 2147483629))) (aD mulM (eC (.int 17)) (aP c5 (aA (aB 1) aE)))) C2))))))
def tD (k : bN) : MF := bP (CF k) tW
theorem LQ : FnScope tW uV BW := cJ (by decide +kernel)
theorem KA {S : aR} (h : Fx S) : qK (S.body 0 tW BW) (defBody (top 30)) (CF h.k) :=
 (aL (qJ 1 (g6 QV rfl h.L3 rfl (aC (fE fM (jv 0) cQ (cL aG)) aF)))
 (aZ (bO (US (iK cR (jv 1) (iK cR aG (iK cR (bD cH (bD xF (a8 aEZ rfl h.aEm rfl (aC (jv 1) aF)) aG) (bD wJ aG (a8 eS rfl h.gJ rfl (aC (jv 1) aF)))) LA)))))))
theorem K5 {S : aR} (h : Fx S) : gI S.P S.w S.K S.mg S.base 1 h.lW h.oX uV (tD h.k) := gI.of h.tQ LQ (KA h) fun _ _ _ => .kK
theorem L4 {S : aR} (h : Fx S) : eW S.K h.oX uV 1 [] aN := cM h.tQ fun _ _ _ _ _ _ us hl => match us, hl with
 | [_], _ => rfl
def uC : List Str := [("_law_deck_here" : Str), ("_law_bound" : Str), ("_law_at" : Str), ("_law_cells" : Str), ("_law_seed" : Str), ("_law_number" : Str)]
def tU : List Str := [("_law_deck_here" : Str), ("_law_bound" : Str)]
abbrev BZ : Scope := defScope (top 31)
def CL (k : bN) : MS :=
 (aI (aT (aD bS (aD a9 (aB 0) (eC (.str ("at" : Str)))) (eC (.int 1))) (dR (aB 0) (eC (.str ("at" : Str)))))
 (aI (aT (aD a9 (aB 0) (eC (.str ("at" : Str)))) (a7 2))
 (aI (aT (aD a9 (aB 0) (eC (.str ("cells" : Str)))) (a7 3))
 (aI (aT (aD bS (aD a9 (aB 0) (eC (.str ("sum" : Str)))) (aB 2)) (a7 4))
 (aI (dN (bH (aD sL (aB 3) (eI aE))) (aI (aT (dO "list" BD (aB 3) (aA (eC (.int 0)) aE)) (a7 4))
 (dN (bH (aD geM (aB 4) (aD G0 (eC (.int 10)) (eC (.int 18))))) (aI (cY (dO "list" u7 (aB 3) (aA (eC (.int 0)) (aA (aD wB (aB 4) (aB 1)) aE))))
 (bE (aD kN (aB 4) (aB 1)))) bC)) bC)
 (aI (aT (aD kN (aD bS (aD bS (aD mulM (aD kN (aB 4) (eC (.int 2147483647))) (eC (.int 48271))) (aD mulM (aD mulM (eC (.int 69621)) (aB 2)) (aB 2))) (eC (.int 7919))) (eC (.int 2147483629))) (a7 5))
 (aI (aT (aD kN (aD mulM (aB 5) (aB 5)) (eC (.int 2147483587))) (a7 5))
 (bE (aD kN (aD wB (aD kN (aD mulM (aB 5) (aD bS (aB 5) (eC (.int 39373)))) (eC (.int 2147483563))) (eC (.int 64))) (aB 1))))))))))
def aU (k : bN) : MF := bP (CL k) uC
theorem MW : FnScope uC tU BZ := cJ (by decide +kernel)
theorem MM {S : aR} (h : Fx S) : qK (S.body 0 uC BZ) (defBody (top 31)) (CL h.k) :=
 (aL (AS (bD cH (cG (jv 0) cR) aG) (R9 (jv 0) cR))
 (aL (qJ 2 (cG (jv 0) cR))
 (aL (qJ 3 (cG (jv 0) cR))
 (aL (qJ 4 (bD cH (cG (jv 0) cR) (jv 2)))
 (aL (eJ (cS zK (jv 3) (dE aF)) (aL (qJ 4 (yK PySem.F.plainAttrs_list PySem.F.slot_list_pop aAO (jv 3) (aC aG aF)))
 (aZ (eJ (cS aHM (jv 4) (bD aAx aG aG)) (aL (DO (yK PySem.F.plainAttrs_list PySem.F.slot_list_insert XC (jv 3) (aC aG (aC (bD UW (jv 4) (jv 1)) aF))))
 (aZ (bO (bD xF (jv 4) (jv 1))))) b8))) b8)
 (aL (qJ 5 (bD xF (bD cH (bD cH (bD wJ (bD xF (jv 4) aG) aG) (bD wJ (bD wJ aG (jv 2)) (jv 2))) aG) aG))
 (aL (qJ 5 (bD xF (bD wJ (jv 5) (jv 5)) aG))
 (aZ (bO (bD xF (bD UW (bD xF (bD wJ (jv 5) (bD cH (jv 5) aG)) aG) aG) (jv 1)))))))))))
theorem aY {S : aR} (h : Fx S) : gI S.P S.w S.K S.mg S.base 1 h.mE h.oY tU (aU h.k) := gI.of h.uX MW (MM h) fun _ _ _ => .kK
theorem aX {S : aR} (h : Fx S) : eW S.K h.oY tU 2 [] aN := cM h.uX fun _ _ _ _ _ _ us hl => match us, hl with
 | [_, _], _ => rfl
def iN : List Str := [("_law_it" : Str), ("_law_least" : Str), ("_law_bound" : Str)]
def kT : List Str := [("_law_it" : Str), ("_law_least" : Str), ("_law_bound" : Str)]
abbrev qE : Scope := defScope (top 37)
def lC (k : bN) : MS :=
 (bE (jX (aP (gF gL) (aA (aB 0) (aA (eC (.ty "int")) aE))) (jX (yX notM (aP (gF gL) (aA (aB 0) (aA (eC (.ty "bool")) aE)))) (UI DX DX (aB 1) (aB 0) (aB 2)))))
def bR (k : bN) : MF := bP (lC k) iN
theorem zG : FnScope iN kT qE := cJ (by decide +kernel)
theorem xZ {S : aR} (h : Fx S) : qK (S.body 0 iN qE) (defBody (top 37)) (lC h.k) :=
 (aZ (bO (t6 (a8 (fB dM) rfl h.bA rfl (aC (jv 0) (aC (fC rfl h.IP rfl) aF))) (t6 (YV (a8 (fB dM) rfl h.bA rfl (aC (jv 0) (aC (fC rfl h.FZ rfl) aF)))) (BN (QC uP uP (jv 1) (jv 0) (jv 2)))))))
theorem eG {S : aR} (h : Fx S) : gI S.P S.w S.K S.mg S.base 1 h.fY h.iG kT (bR h.k) := gI.of h.lE zG (xZ h) fun _ _ _ => .kK
theorem eD {S : aR} (h : Fx S) : eW S.K h.iG kT 3 [] aN := cM h.lE fun _ _ _ _ _ _ us hl => match us, hl with
 | [_, _, _], _ => rfl
def iI : List Str := [("_law_it" : Str), ("_law_houses" : Str), ("_law_ahead" : Str), ("_law_one" : Str)]
def kQ : List Str := [("_law_it" : Str), ("_law_houses" : Str)]
abbrev qC : Scope := defScope (top 39)
def lD (k : bN) : MS :=
 (aI (dN (eV (bU (cW (aP (gF gL) (aA (aB 0) (aA (eC (.ty "tuple")) aE))))) (bH (aD MZ (aP c5 (aA (aB 0) aE)) (eC (.int 6))))) (bE (eC (.bl false))) bC)
 (aI (aT (bQ (aA (yX vK (eC (.int 1))) (aA (yX vK (eC (.int 1))) aE))) (a7 2))
 (aI (fX (dY (aB 0)) (a7 3) (aI (dN (eV (bU (cW (aP (gF gL) (aA (aB 3) (aA (eC (.ty "tuple")) aE))))) (eV (bH (aD sL (aP c5 (aA (aB 3) aE)) (eC (.int 3)))) (bU (cW (aJ (bR k) 3 aN (aA (aD a9 (aB 3) (eC (.int 0))) (aA (eC (.int 0)) (aA (aD kH (aB 1) (eC (.int 1))) aE)))))))) (bE (eC (.bl false))) bC)
 (aI (dN (eV (bU (cW (aJ (bR k) 3 aN (aA (aD a9 (aB 3) (eC (.int 1))) (aA (eC (.int 0)) (aA (eC (.int 9)) aE)))))) (eV (bU (cW (aJ (bR k) 3 aN (aA (aD a9 (aB 3) (eC (.int 2))) (aA (eC (.int 1)) (aA (eC (.int 11)) aE)))))) (bH (aD leA (m9 iZ (aB 3) cV (cK (eC (.int 2)))) (aB 2))))) (bE (eC (.bl false))) bC)
 (aT (m9 iZ (aB 3) cV (cK (eC (.int 2)))) (a7 2)))))
 (bE (eC (.bl true))))))
def iL (k : bN) : MF := bP (lD k) iI
theorem yG : FnScope iI kQ qC := cJ (by decide +kernel)
theorem yF {S : aR} (h : Fx S) : qK (S.body 1 iI qC) (defBody (top 39)) (lD h.k) :=
 (aL (eJ (qZ (fR (c7 (bT (a8 (fB dM) rfl h.bA rfl (aC (jv 0) (aC (fC rfl h.dS rfl) aF))))) (g9 (cS aEb (a8 eS rfl h.gJ rfl (aC (jv 0) aF)) aG)))) (aZ (bO iO)) b8)
 (aL (qJ 2 (cF (aC (U4 KP aG) (aC (U4 KP aG) aF))))
 (aL (uT (nX (jv 0)) (M5 3) (aL (eJ (qZ (fR (c7 (bT (a8 (fB dM) rfl h.bA rfl (aC (jv 3) (aC (fC rfl h.dS rfl) aF))))) (fR (cS zK (a8 eS rfl h.gJ rfl (aC (jv 3) aF)) aG) (g9 (c7 (bT (aS (ah rfl) (eG h) (eD h) rfl h.dP h.dC (aC (cG (jv 3) aG) (aC aG (aC (bD MN (jv 1) aG) aF)))))))))) (aZ (bO iO)) b8)
 (aL (eJ (qZ (fR (c7 (bT (aS (ah rfl) (eG h) (eD h) rfl h.dP h.dC (aC (cG (jv 3) aG) (aC aG (aC aG aF)))))) (fR (c7 (bT (aS (ah rfl) (eG h) (eD h) rfl h.dP h.dC (aC (cG (jv 3) aG) (aC aG (aC aG aF)))))) (g9 (cS aEJ (fE fM (jv 3) cQ (cL aG)) (jv 2)))))) (aZ (bO iO)) b8)
 (aZ (qJ 2 (fE fM (jv 3) cQ (cL aG)))))))
 (aZ (bO iO)))))
theorem zM {S : aR} (h : Fx S) : gI S.P S.w S.K S.mg S.base 2 h.f9 h.iJ kQ (iL h.k) := gI.of h.kR yG (yF h) fun _ _ _ => .kK
theorem zJ {S : aR} (h : Fx S) : eW S.K h.iJ kQ 2 [] aN := cM h.kR fun _ _ _ _ _ _ us hl => match us, hl with
 | [_, _], _ => rfl
def jA : List Str := [("_law_it" : Str), ("_law_row" : Str), ("_law_rank" : Str)]
def mP : List Str := [("_law_it" : Str)]
abbrev sH : Scope := defScope (top 38)
def mI (k : bN) : MS :=
 (aI (dN (eV (bU (cW (aP (gF gL) (aA (aB 0) (aA (eC (.ty "tuple")) aE))))) (eV (bU (bH (UI DX DX (eC (.int 1)) (aP c5 (aA (aB 0) aE)) (eC (.int 4))))) (bH (aD sL (b6 (dY (aB 0)) [1] (a7 1) (bU (cW (aP (gF gL) (aA (aB 1) (aA (eC (.ty "tuple")) aE))))) (aB 1)) (eI aE))))) (bE (eC (.bl false))) bC)
 (aI (dN (bH (aD sL (b6 (dY (aB 0)) [1] (a7 1) (eV (bH (aD sL (aP c5 (aA (aB 1) aE)) (aP c5 (aA (aD a9 (aB 0) (eC (.int 0))) aE)))) (bU (bH (UI DX DX (eC (.int 1)) (aP c5 (aA (aB 1) aE)) (eC (.int 6)))))) (aB 1)) (eI aE))) (bE (eC (.bl false))) bC)
 (aI (fX (dY (aB 0)) (a7 1) (dN (bH (aD sL (b6 (dY (aB 1)) [2] (a7 2) (bU (cW (aJ (bR k) 3 aN (aA (aB 2) (aA (eC (.int 1)) (aA (eC (.int 12)) aE)))))) (aB 2)) (eI aE))) (bE (eC (.bl false))) bC))
 (bE (eC (.bl true))))))
def jE (k : bN) : MF := bP (mI k) jA
theorem AJ : FnScope jA mP sH := cJ (by decide +kernel)
theorem A9 {S : aR} (h : Fx S) : qK (S.body 1 jA sH) (defBody (top 38)) (mI h.k) :=
 (aL (eJ (qZ (fR (c7 (bT (a8 (fB dM) rfl h.bA rfl (aC (jv 0) (aC (fC rfl h.dS rfl) aF))))) (fR (c7 (GC uP uP aG (a8 eS rfl h.gJ rfl (aC (jv 0) aF)) aG)) (g9 (cS zK (nD (own := [(("_law_row" : Str), 1)]) (nX (jv 0)) (by kernel_rfl) (XZ 1) (K3 (c7 (bT (a8 (fB dM) rfl h.bA rfl (aC (jv 1) (aC (fC rfl h.dS rfl) aF)))))) (jv 1)) (dE aF)))))) (aZ (bO iO)) b8)
 (aL (eJ (cS zK (nD (own := [(("_law_row" : Str), 1)]) (nX (jv 0)) (by kernel_rfl) (XZ 1) (K3 (qZ (fR (cS zK (a8 eS rfl h.gJ rfl (aC (jv 1) aF)) (a8 eS rfl h.gJ rfl (aC (cG (jv 0) aG) aF))) (g9 (c7 (GC uP uP aG (a8 eS rfl h.gJ rfl (aC (jv 1) aF)) aG)))))) (jv 1)) (dE aF)) (aZ (bO iO)) b8)
 (aL (uT (nX (jv 0)) (M5 1) (aZ (eJ (cS zK (nD (own := [(("_law_rank" : Str), 2)]) (nX (jv 1)) (by kernel_rfl) (XZ 2) (K3 (c7 (bT (aS (ah rfl) (eG h) (eD h) rfl h.dP h.dC (aC (jv 2) (aC aG (aC aG aF))))))) (jv 2)) (dE aF)) (aZ (bO iO)) b8)))
 (aZ (bO iO)))))
theorem AZ {S : aR} (h : Fx S) : gI S.P S.w S.K S.mg S.base 2 h.gK h.jB mP (jE h.k) := gI.of h.mQ AJ (A9 h) fun _ _ _ => .kK
theorem AV {S : aR} (h : Fx S) : eW S.K h.jB mP 1 [] aN := cM h.mQ fun _ _ _ _ _ _ us hl => match us, hl with
 | [_], _ => rfl
def nE : List Str := [("_law_told_here" : Str), ("_law_spans" : Str), ("_law_names" : Str), ("_law_k" : Str), ("_law_least" : Str), ("_law_bound" : Str)]
def qR : List Str := [("_law_told_here" : Str)]
abbrev yT : Scope := defScope (top 40)
def qX (k : bN) : MS :=
 (aI (dN (bU (cW (aJ (jE k) 1 aN (aA (aD a9 (aB 0) (eC (.int 0))) aE)))) (bE (eC (.str ("ranks" : Str)))) bC)
 (aI (aT (eI (aA (bQ (aA (eC (.int 1)) (aA (eC (.int 5)) aE))) (aA (bQ (aA (eC (.int 0)) (aA (eC (.int 3)) aE))) (aA (bQ (aA (eC (.int 1)) (aA (eC (.int 4)) aE))) (aA (bQ (aA (eC (.int 0)) (aA (eC (.int 3)) aE))) (aA (bQ (aA (eC (.int 0)) (aA (eC (.int 3)) aE))) (aA (bQ (aA (eC (.int 0)) (aA (eC (.int 20)) aE))) aE))))))) (a7 1))
 (aI (aT (eI (aA (eC (.str ("every" : Str))) (aA (eC (.str ("lost" : Str))) (aA (eC (.str ("slow" : Str))) (aA (eC (.str ("bears" : Str))) (aA (eC (.str ("gap" : Str))) (aA (eC (.str ("hold" : Str))) aE))))))) (a7 2))
 (aI (fX (eZ kO (aA (eC (.int 6)) aE)) (a7 3) (aI (aT (aD a9 (aB 1) (aB 3)) (bY 2 (aK (a7 4) (aK (a7 5) bW))))
 (dN (iD (eV (bH (aD sL (aB 3) (eC (.int 3)))) (bH (aD rS (aD a9 (aB 0) (eC (.int 4))) (eC .non)))) (bU (cW (aJ (bR k) 3 aN (aA (aD a9 (aB 0) (aD bS (aB 3) (eC (.int 1)))) (aA (aB 4) (aA (aB 5) aE))))))) (bE (aD a9 (aB 2) (aB 3))) bC)))
 (aI (dN (bU (cW (aP (gF gL) (aA (aD a9 (aB 0) (eC (.int 7))) (aA (eC (.ty "bool")) aE))))) (bE (eC (.str ("takes" : Str)))) bC)
 (aI (dN (bU (cW (aJ (iL k) 2 aN (aA (aD a9 (aB 0) (eC (.int 8))) (aA (aP c5 (aA (aD a9 (aD a9 (aB 0) (eC (.int 0))) (eC (.int 0))) aE)) aE))))) (bE (eC (.str ("ties" : Str)))) bC)
 (bE (eIf (cW (aJ (bR k) 3 aN (aA (aD a9 (aB 0) (eC (.int 9))) (aA (eC (.int 0)) (aA (eC (.int 4)) aE))))) (eC .non) (eC (.str ("hosts" : Str)))))))))))
def iE (k : bN) : MF := bP (qX k) nE
theorem G5 : FnScope nE qR yT := cJ (by decide +kernel)
theorem HW {S : aR} (h : Fx S) : qK (S.body 2 nE yT) (defBody (top 40)) (qX h.k) :=
 (aL (eJ (c7 (bT (aS (ah rfl) (AZ h) (AV h) rfl h.sF h.qB (aC (cG (jv 0) aG) aF)))) (aZ (bO cR)) b8)
 (aL (qJ 1 (dE (aC (cF (aC aG (aC aG aF))) (aC (cF (aC aG (aC aG aF))) (aC (cF (aC aG (aC aG aF))) (aC (cF (aC aG (aC aG aF))) (aC (cF (aC aG (aC aG aF))) (aC (cF (aC aG (aC aG aF))) aF))))))))
 (aL (qJ 2 (dE (aC cR (aC cR (aC cR (aC cR (aC cR (aC cR aF))))))))
 (aL (uT (nJ rfl h.qW (aC aG aF)) (M5 3) (aL (AS (cG (jv 1) (jv 3)) (GU (n := 2) (hR (M5 4) (hR (M5 5) zS))))
 (aZ (eJ (qZ (aBc (qZ (fR (cS zK (jv 3) aG) (g9 (cS D0 (cG (jv 0) aG) uR)))) (WJ (c7 (bT (aS (ah rfl) (eG h) (eD h) rfl h.dP h.dC (aC (cG (jv 0) (bD cH (jv 3) aG)) (aC (jv 4) (aC (jv 5) aF))))))))) (aZ (bO (cG (jv 2) (jv 3)))) b8))))
 (aL (eJ (c7 (bT (a8 (fB dM) rfl h.bA rfl (aC (cG (jv 0) aG) (aC (fC rfl h.FZ rfl) aF))))) (aZ (bO cR)) b8)
 (aL (eJ (c7 (bT (aS (ah rfl) (zM h) (zJ h) rfl h.pU h.oT (aC (cG (jv 0) aG) (aC (a8 eS rfl h.gJ rfl (aC (cG (cG (jv 0) aG) aG) aF)) aF))))) (aZ (bO cR)) b8)
 (aZ (bO (YX (bT (aS (ah rfl) (eG h) (eD h) rfl h.dP h.dC (aC (cG (jv 0) aG) (aC aG (aC aG aF))))) uR cR)))))))))
theorem vV {S : aR} (h : Fx S) : gI S.P S.w S.K S.mg S.base 3 h.kD h.nG qR (iE h.k) := gI.of h.q7 G5 (HW h) fun _ _ _ => .kK
theorem vR {S : aR} (h : Fx S) : eW S.K h.nG qR 1 [] aN := cM h.q7 fun _ _ _ _ _ _ us hl => match us, hl with
 | [_], _ => rfl
def gU : List Str := [("_law_told_here" : Str)]
def kM : List Str := [("_law_told_here" : Str)]
abbrev oL : Scope := defScope (top 36)
def kA (k : bN) : MS :=
 (bE (aP dZ (aA (aD bS (aD bS (m9 iZ (aB 0) cV (cK (eC (.int 4)))) (eI (aA (eIf (bH (aD isM (aD a9 (aB 0) (eC (.int 4))) (eC .non))) (aD a9 (aB 0) (eC (.int 2))) (aD a9 (aB 0) (eC (.int 4)))) aE))) (m9 iZ (aB 0) (cK (eC (.int 5))) cV)) aE)))
def gR (k : bN) : MF := bP (kA k) gU
theorem xR : FnScope gU kM oL := cJ (by decide +kernel)
theorem wN {S : aR} (h : Fx S) : qK (S.body 0 gU oL) (defBody (top 36)) (kA h.k) :=
 (aZ (bO (g6 sR rfl h.dS rfl (aC (bD cH (bD cH (fE fM (jv 0) cQ (cL aG)) (dE (aC (YX (cS aEk (cG (jv 0) aG) uR) (cG (jv 0) aG) (cG (jv 0) aG)) aF))) (fE fM (jv 0) (cL aG) cQ)) aF))))
theorem wZ {S : aR} (h : Fx S) : gI S.P S.w S.K S.mg S.base 1 h.fF h.gT kM (gR h.k) := gI.of h.j8 xR (wN h) fun _ _ _ => .kK
theorem wV {S : aR} (h : Fx S) : eW S.K h.gT kM 1 [] aN := cM h.j8 fun _ _ _ _ _ _ us hl => match us, hl with
 | [_], _ => rfl
def j6 : List Str := [("_law_e" : Str), ("_law_some" : Str)]
def oB : List Str := [("_law_e" : Str)]
abbrev uE : Scope := defScope (top 43)
def nT (k : bN) : XD → MS := fun x =>
 (aI (aT (eI (aA (C0 (HC k) (eC (.con k.bL)) x) (aA (C0 (HC k) (eC (.con k.iV)) x) (aA (C0 (HC k) (eC (.con k.iU)) x) (aA (C0 (HC k) (eC (.con k.iX)) x) aE))))) (a7 1)) (aI (aT (aD E1 (aB 1) (eI (aA (C0 (HC k) (eC (.con k.gN)) x) (aA (C0 (HC k) (eC (.con k.lH)) x) aE)))) (a7 1)) (bE (aD E1 (aB 1) (eI (aA (C0 (HC k) (eC (.con k.eU)) x) (aA (C0 (HC k) (eC (.ty "ValueError")) x) (aA (C0 (HC k) (eC (.ty "IndexError")) x) aE))))))))
def kG (k : bN) : XD → W → Res D := UE (nT k) j6
theorem C3 : FnScope j6 oB uE := cJ (by decide +kernel)
theorem DB {S : aR} (h : Fx S) : YM (S.body 0 j6 uE) 0 (defBody (top 43)) (nT h.k) :=
 (IF (KJ (j := 1) (KI (gX (qN (kxo h) rfl h.bA rfl (Or.inl rfl) (rF rfl h.pR)) (gX (qN (kxo h) rfl h.bA rfl (Or.inl rfl) (rF rfl h.I0)) (gX (qN (kxo h) rfl h.bA rfl (Or.inl rfl) (rF rfl h.IL)) (gX (qN (kxo h) rfl h.bA rfl (Or.inl rfl) (rF rfl h.IS)) DI)))))) (IF (KJ (j := 1) (VW JL (UU 1) (KI (gX (qN (kxo h) rfl h.bA rfl (Or.inl rfl) (rF rfl h.EV)) (gX (qN (kxo h) rfl h.bA rfl (Or.inl rfl) (rF rfl h.NW)) DI))))) (QG (aDu (VW JL (UU 1) (KI (gX (qN (kxo h) rfl h.bA rfl (Or.inl rfl) (rF rfl h.t7)) (gX (qN (kxo h) rfl h.bA rfl (Or.inl rfl) (V1 rfl h.yR rfl)) (gX (qN (kxo h) rfl h.bA rfl (Or.inl rfl) (V1 rfl h.y5 rfl)) DI)))))))))
theorem DA {S : aR} (h : Fx S) : FnX S.P S.w S.K S.mg S.base 1 h.hD h.j9 oB (kG h.k) := FnX.of h.nY C3 (DB h) rfl fun _ _ => rfl
theorem C9 {S : aR} (h : Fx S) : R3 S.K h.j9 oB := XO h.nY fun _ _ _ _ _ _ us hl => match us, hl with
 | [_], _ => rfl
def lQ : List Str := [("_law_plan_made" : Str), ("_law_found" : Str)]
def pB : List Str := [("_law_plan_made" : Str)]
abbrev v8 : Scope := defScope (top 35)
def pE (k : bN) : MS :=
 (aI (aT (eI (aA (cP k.aO ("ranks" : Str) (aB 0)) (aA (cP k.aO ("every" : Str) (aB 0)) (aA (cP k.aO ("lost" : Str) (aB 0)) (aA (cP k.aO ("slow" : Str) (aB 0)) (aA (cP k.aO ("bears" : Str) (aB 0)) (aA (cP k.aO ("gap" : Str) (aB 0)) aE))))))) (a7 1))
 (bE (aP dZ (aA (aD bS (aB 1) (eI (aA (cP k.aO ("hold" : Str) (aB 0)) (aA (cP k.aO ("takes" : Str) (aB 0)) (aA (cP k.aO ("ties" : Str) (aB 0)) (aA (cP k.aO ("hosts" : Str) (aB 0)) aE)))))) aE))))
def lP (k : bN) : MF := bP (pE k) lQ
theorem EO : FnScope lQ pB v8 := cJ (by decide +kernel)
theorem GQ {S : aR} (h : Fx S) : qK (S.body 0 lQ v8) (defBody (top 35)) (pE h.k) :=
 (aL (qJ 1 (dE (aC (pI h.fQ h.rE (jv 0)) (aC (pI h.fQ h.rJ (jv 0)) (aC (pI h.fQ h.u4 (jv 0)) (aC (pI h.fQ h.uS (jv 0)) (aC (pI h.fQ h.rD (jv 0)) (aC (pI h.fQ h.wQ (jv 0)) aF))))))))
 (aZ (bO (g6 sR rfl h.dS rfl (aC (bD cH (jv 1) (dE (aC (pI h.fQ h.u3 (jv 0)) (aC (pI h.fQ h.rQ (jv 0)) (aC (pI h.fQ h.uH (jv 0)) (aC (pI h.fQ h.rA (jv 0)) aF)))))) aF)))))
theorem FI {S : aR} (h : Fx S) : gI S.P S.w S.K S.mg S.base 1 h.iW h.lM pB (lP h.k) := gI.of h.pN EO (GQ h) fun _ _ _ => .kK
theorem D4 {S : aR} (h : Fx S) : eW S.K h.lM pB 1 [] aN := cM h.pN fun _ _ _ _ _ _ us hl => match us, hl with
 | [_], _ => rfl
def gE : List Str := [("thing" : Str)]
def wO : List Str := [("thing" : Str)]
abbrev FT : Scope := defScope (top 21)
def jM (k : bN) : MS :=
 (bE (jX (aP (gF gL) (aA (aB 0) (aA (eC (.ty "int")) aE))) (yX notM (aP (gF gL) (aA (aB 0) (aA (eC (.ty "bool")) aE))))))
def gH (k : bN) : MF := bP (jM k) gE
theorem M7 : FnScope gE wO FT := cJ (by decide +kernel)
theorem OK {S : aR} (h : Fx S) : qK (S.body 0 gE FT) (defBody (top 21)) (jM h.k) :=
 (aZ (bO (t6 (a8 (fB dM) rfl h.bA rfl (aC (jv 0) (aC (fC rfl h.IP rfl) aF))) (BN (YV (a8 (fB dM) rfl h.bA rfl (aC (jv 0) (aC (fC rfl h.FZ rfl) aF))))))))
theorem OS {S : aR} (h : Fx S) : gI S.P S.w S.K S.mg S.base 1 h.oA h.rR wO (gH h.k) := gI.of h.xO M7 (OK h) fun _ _ _ => .kK
theorem RJ {S : aR} (h : Fx S) : eW S.K h.rR wO 1 [] aN := cM h.xO fun _ _ _ _ _ _ us hl => match us, hl with
 | [_], _ => rfl
def fH : List Str := [("thing" : Str), ("least" : Str), ("most" : Str)]
def t8 : List Str := [("thing" : Str), ("least" : Str), ("most" : Str)]
abbrev CJ : Scope := defScope (top 22)
def iB (k : bN) : MS :=
 (bE (jX (aJ (gH k) 1 aN (aA (aB 0) aE)) (UI DX DX (aB 1) (aB 0) (aB 2))))
def bM (k : bN) : MF := bP (iB k) fH
theorem MY : FnScope fH t8 CJ := cJ (by decide +kernel)
theorem MX {S : aR} (h : Fx S) : qK (S.body 1 fH CJ) (defBody (top 22)) (iB h.k) :=
 (aZ (bO (t6 (aS (ah rfl) (OS h) (RJ h) rfl h.EJ h.CK (aC (jv 0) aF)) (BN (QC uP uP (jv 1) (jv 0) (jv 2))))))
theorem j7 {S : aR} (h : Fx S) : gI S.P S.w S.K S.mg S.base 2 h.mB h.oQ t8 (bM h.k) := gI.of h.t4 MY (MX h) fun _ _ _ => .kK
theorem j5 {S : aR} (h : Fx S) : eW S.K h.oQ t8 3 [] aN := cM h.t4 fun _ _ _ _ _ _ us hl => match us, hl with
 | [_, _, _], _ => rfl
def jS : List Str := [("thing" : Str), ("row" : Str), ("rank" : Str)]
def tF : List Str := [("thing" : Str)]
abbrev CC : Scope := defScope (top 23)
def lX (k : bN) : MS :=
 (aI (dN (eV (bU (cW (aP (gF gL) (aA (aB 0) (aA (eC (.ty "tuple")) aE))))) (bU (bH (UI DX DX (eC (.int 1)) (aP c5 (aA (aB 0) aE)) (eC (.int 4)))))) (bE (eC (.bl false))) bC)
 (aI (dN (bU (cW (aP allM (aA (b6 (dY (aB 0)) [1] (a7 1) cD (jX (aP (gF gL) (aA (aB 1) (aA (eC (.ty "tuple")) aE))) (aD DX (aP c5 (aA (aB 1) aE)) (eC (.int 6))))) aE)))) (bE (eC (.bl false))) bC)
 (aI (dN (eV (bH (aD gA (aD a9 (aB 0) (eC (.int 0))) (bQ aE))) (bU (cW (aP allM (aA (b6 (dY (aB 0)) [1] (a7 1) cD (aD gA (aP c5 (aA (aB 1) aE)) (aP c5 (aA (aD a9 (aB 0) (eC (.int 0))) aE)))) aE))))) (bE (eC (.bl false))) bC)
 (bE (aP allM (aA (FH (dY (aB 0)) [1, 2] (a7 1) cD (dY (aB 1)) [2] (a7 2) cD (aJ (bM k) 3 aN (aA (aB 2) (aA (eC (.int 1)) (aA (eC (.int 12)) aE))))) aE))))))
def fG (k : bN) : MF := bP (lX k) jS
theorem MQ : FnScope jS tF CC := cJ (by decide +kernel)
theorem LP {S : aR} (h : Fx S) : qK (S.body 2 jS CC) (defBody (top 23)) (lX h.k) :=
 (aL (eJ (qZ (fR (c7 (bT (a8 (fB dM) rfl h.bA rfl (aC (jv 0) (aC (fC rfl h.dS rfl) aF))))) (g9 (c7 (GC uP uP aG (a8 eS rfl h.gJ rfl (aC (jv 0) aF)) (CN h.qA)))))) (aZ (bO iO)) b8)
 (aL (eJ (c7 (bT (a8 EF rfl h.IE rfl (aC (nD (own := [(("row" : Str), 1)]) (nX (jv 0)) (by kernel_rfl) (XZ 1) m6 (t6 (a8 (fB dM) rfl h.bA rfl (aC (jv 1) (aC (fC rfl h.dS rfl) aF))) (BN (qS uP (a8 eS rfl h.gJ rfl (aC (jv 1) aF)) (CN h.wF))))) aF)))) (aZ (bO iO)) b8)
 (aL (eJ (qZ (fR (cS iP (cG (jv 0) aG) (cF aF)) (g9 (c7 (bT (a8 EF rfl h.IE rfl (aC (nD (own := [(("row" : Str), 1)]) (nX (jv 0)) (by kernel_rfl) (XZ 1) m6 (qS iP (a8 eS rfl h.gJ rfl (aC (jv 1) aF)) (a8 eS rfl h.gJ rfl (aC (cG (jv 0) aG) aF)))) aF))))))) (aZ (bO iO)) b8)
 (aZ (bO (a8 EF rfl h.IE rfl (aC (aAQ (own := [(("row" : Str), 1), (("rank" : Str), 2)]) (vs1 := [2]) (nX (jv 0)) (by kernel_rfl) (XZ 1) m6 (nX (jv 1)) (XZ 2) m6 (aS (ah rfl) (j7 h) (j5 h) rfl h.jQ h.iF (aC (jv 2) (aC aG (aC (CN h.aD0) aF))))) aF)))))))
theorem ML {S : aR} (h : Fx S) : gI S.P S.w S.K S.mg S.base 3 h.lZ h.oJ tF (fG h.k) := gI.of h.uN MQ (LP h) fun _ _ _ => .kK
theorem KN {S : aR} (h : Fx S) : eW S.K h.oJ tF 1 [] aN := cM h.uN fun _ _ _ _ _ _ us hl => match us, hl with
 | [_], _ => rfl
def qF : List Str := [("thing" : Str), ("houses" : Str), ("house" : Str), ("tie" : Str), ("less" : Str)]
def FJ : List Str := [("thing" : Str), ("houses" : Str)]
abbrev N7 : Scope := defScope (top 24)
def uK (k : bN) : MS :=
 (aI (dN (eV (bU (cW (aP (gF gL) (aA (aB 0) (aA (eC (.ty "tuple")) aE))))) (bH (aD sL (aP c5 (aA (aB 0) aE)) (eC (.int 3))))) (bE (eC (.bl false))) bC)
 (aI (aT (aB 0) (bY 3 (aK (a7 2) (aK (a7 3) (aK (a7 4) bW)))))
 (bE (jX (aJ (bM k) 3 aN (aA (aB 2) (aA (eC (.int 0)) (aA (aD kH (aB 1) (eC (.int 1))) aE)))) (jX (aJ (bM k) 3 aN (aA (aB 3) (aA (eC (.int 0)) (aA (eC (.int 9)) aE)))) (aJ (bM k) 3 aN (aA (aB 4) (aA (eC (.int 1)) (aA (eC (.int 11)) aE)))))))))
def pT (k : bN) : MF := bP (uK k) qF
theorem X5 : FnScope qF FJ N7 := cJ (by decide +kernel)
theorem X3 {S : aR} (h : Fx S) : qK (S.body 2 qF N7) (defBody (top 24)) (uK h.k) :=
 (aL (eJ (qZ (fR (c7 (bT (a8 (fB dM) rfl h.bA rfl (aC (jv 0) (aC (fC rfl h.dS rfl) aF))))) (g9 (cS zK (a8 eS rfl h.gJ rfl (aC (jv 0) aF)) aG)))) (aZ (bO iO)) b8)
 (aL (AS (jv 0) (GU (n := 3) (hR (M5 2) (hR (M5 3) (hR (M5 4) zS)))))
 (aZ (bO (t6 (aS (ah rfl) (j7 h) (j5 h) rfl h.jQ h.iF (aC (jv 2) (aC aG (aC (bD MN (jv 1) aG) aF)))) (t6 (aS (ah rfl) (j7 h) (j5 h) rfl h.jQ h.iF (aC (jv 3) (aC aG (aC (CN h.FN) aF)))) (BN (aS (ah rfl) (j7 h) (j5 h) rfl h.jQ h.iF (aC (jv 4) (aC aG (aC (CN h.CD) aF)))))))))))
theorem XU {S : aR} (h : Fx S) : gI S.P S.w S.K S.mg S.base 3 h.qH h.zF FJ (pT h.k) := gI.of h.EK X5 (X3 h) fun _ _ _ => .kK
theorem WV {S : aR} (h : Fx S) : eW S.K h.zF FJ 2 [] aN := cM h.EK fun _ _ _ _ _ _ us hl => match us, hl with
 | [_, _], _ => rfl
def lF : List Str := [("thing" : Str), ("houses" : Str), ("one" : Str), ("other" : Str)]
def xB : List Str := [("thing" : Str), ("houses" : Str)]
abbrev E2 : Scope := defScope (top 25)
def oC (k : bN) : MS :=
 (aI (dN (eV (bU (cW (aP (gF gL) (aA (aB 0) (aA (eC (.ty "tuple")) aE))))) (eV (bH (aD MZ (aP c5 (aA (aB 0) aE)) (eC (.int 6)))) (bU (cW (aP allM (aA (b6 (dY (aB 0)) [2] (a7 2) cD (aJ (pT k) 2 aN (aA (aB 2) (aA (aB 1) aE)))) aE)))))) (bE (eC (.bl false))) bC)
 (bE (aP allM (aA (b6 (eZ zsM (aA (m9 iZ (aB 0) cV (cK (yX vK (eC (.int 1))))) (aA (m9 iZ (aB 0) (cK (eC (.int 1))) cV) aE))) [2, 3] (bY 2 (aK (a7 2) (aK (a7 3) bW))) cD (aD RN (m9 iZ (aB 2) cV (cK (eC (.int 2)))) (m9 iZ (aB 3) cV (cK (eC (.int 2)))))) aE))))
def kZ (k : bN) : MF := bP (oC k) lF
theorem N5 : FnScope lF xB E2 := cJ (by decide +kernel)
theorem NN {S : aR} (h : Fx S) : qK (S.body 3 lF E2) (defBody (top 25)) (oC h.k) :=
 (aL (eJ (qZ (fR (c7 (bT (a8 (fB dM) rfl h.bA rfl (aC (jv 0) (aC (fC rfl h.dS rfl) aF))))) (fR (cS aEb (a8 eS rfl h.gJ rfl (aC (jv 0) aF)) (CN h.CU)) (g9 (c7 (bT (a8 EF rfl h.IE rfl (aC (nD (own := [(("one" : Str), 2)]) (nX (jv 0)) (by kernel_rfl) (XZ 2) m6 (aS (ah rfl) (XU h) (WV h) rfl h.QK h.JB (aC (jv 2) (aC (jv 1) aF)))) aF)))))))) (aZ (bO iO)) b8)
 (aZ (bO (a8 EF rfl h.IE rfl (aC (nD (own := [(("one" : Str), 2), (("other" : Str), 3)]) (aGD rfl h.aEc (aC (fE fM (jv 0) cQ (cL (U4 KP aG))) (aC (fE fM (jv 0) (cL aG) cQ) aF))) (by kernel_rfl) (aE1 (n := 2) (NQ (XZ 2) (NQ (XZ 3) aC5))) m6 (qS aEs (fE fM (jv 2) cQ (cL aG)) (fE fM (jv 3) cQ (cL aG)))) aF)))))
theorem RD {S : aR} (h : Fx S) : gI S.P S.w S.K S.mg S.base 4 h.oH h.rB xB (kZ h.k) := gI.of h.wK N5 (NN h) fun _ _ _ => .kK
theorem PZ {S : aR} (h : Fx S) : eW S.K h.rB xB 2 [] aN := cM h.wK fun _ _ _ _ _ _ us hl => match us, hl with
 | [_, _], _ => rfl
def kS : List Str := [("name" : Str), ("thing" : Str), ("houses" : Str), ("least" : Str), ("most" : Str)]
def xI : List Str := [("name" : Str), ("thing" : Str), ("houses" : Str)]
abbrev DT : Scope := defScope (top 26)
def jJ (k : bN) : MS :=
 (aI (dN (bH (aD (W6 k.eE dX) (aB 0) (eC (.con k.eE)))) (aI (aT (aD (T4 k.eE dX) (eC (.con k.eE)) (aB 0)) (bY 2 (aK (a7 3) (aK (a7 4) bW))))
 (bE (aJ (bM k) 3 aN (aA (aB 1) (aA (aB 3) (aA (aB 4) aE)))))) bC)
 (aI (dN (bH (aD gA (aB 0) (eC (.str ("takes" : Str))))) (bE (aP (gF gL) (aA (aB 1) (aA (eC (.ty "bool")) aE)))) bC)
 (bE (aJ (kZ k) 2 aN (aA (aB 1) (aA (aB 2) aE))))))
def dQ (k : bN) : MF := bP (jJ k) kS
theorem RE : FnScope kS xI DT := cJ (by decide +kernel)
theorem N6 {S : aR} (h : Fx S) : qK (S.body 4 kS DT) (defBody (top 26)) (jJ h.k) :=
 (aL (eJ (cS (aFy h.AK) (jv 0) (CN h.BL)) (aL (AS (aFZ h.AK (CN h.BL) (jv 0)) (GU (n := 2) (hR (M5 3) (hR (M5 4) zS))))
 (aZ (bO (aS (ah rfl) (j7 h) (j5 h) rfl h.jQ h.iF (aC (jv 1) (aC (jv 3) (aC (jv 4) aF))))))) b8)
 (aL (eJ (cS iP (jv 0) cR) (aZ (bO (a8 (fB dM) rfl h.bA rfl (aC (jv 1) (aC (fC rfl h.FZ rfl) aF))))) b8)
 (aZ (bO (aS (ah rfl) (RD h) (PZ h) rfl h.ER h.B9 (aC (jv 1) (aC (jv 2) aF)))))))
theorem QR {S : aR} (h : Fx S) : gI S.P S.w S.K S.mg S.base 5 h.nQ h.rT xI (dQ h.k) := gI.of h.xS RE (N6 h) fun _ _ _ => .kK
theorem M6 {S : aR} (h : Fx S) : eW S.K h.rT xI 3 [] aN := cM h.xS fun _ _ _ _ _ _ us hl => match us, hl with
 | [_, _, _], _ => rfl
def gD : List Str := [("self" : Str), ("ranks" : Str), ("every" : Str), ("lost" : Str), ("slow" : Str), ("bears" : Str), ("gap" : Str), ("hold" : Str), ("takes" : Str), ("ties" : Str), ("hosts" : Str), ("borne" : Str), ("told" : Str), ("name" : Str), ("thing" : Str)]
def uU : List Str := [("self" : Str), ("ranks" : Str), ("every" : Str), ("lost" : Str), ("slow" : Str), ("bears" : Str), ("gap" : Str), ("hold" : Str), ("takes" : Str), ("ties" : Str), ("hosts" : Str)]
abbrev B5 : Scope := defScope (inClass (top 28) 0)
def mG (k : bN) : MS :=
 (aI (dN (bU (cW (aJ (fG k) 1 aN (aA (aB 1) aE)))) (AB k.bL ("field" : Str) (eC (.str ("ranks" : Str)))) bC)
 (aI (aT (eIf (bH (aD isM (aB 5) (eC .non))) (aB 3) (aB 5)) (a7 11))
 (aI (aT (GG (dJ (eC (.str ("every" : Str))) (aB 2) (dJ (eC (.str ("lost" : Str))) (aB 3) (dJ (eC (.str ("slow" : Str))) (aB 4) (dJ (eC (.str ("bears" : Str))) (aB 11) (dJ (eC (.str ("gap" : Str))) (aB 6) (dJ (eC (.str ("hold" : Str))) (aB 7) (dJ (eC (.str ("takes" : Str))) (aB 8) C2)))))))) (a7 12))
 (aI (cY (dO "dict" SS (aB 12) (aA (GG (dJ (eC (.str ("ties" : Str))) (aB 9) (dJ (eC (.str ("hosts" : Str))) (aB 10) C2))) aE)))
 (aI (fX (vF (aB 12)) (bY 2 (aK (a7 13) (aK (a7 14) bW))) (dN (bU (cW (aJ (dQ k) 3 aN (aA (aB 13) (aA (aB 14) (aA (aP c5 (aA (aD a9 (aB 1) (eC (.int 0))) aE)) aE)))))) (AB k.bL ("field" : Str) (aB 13)) bC))
 (aI (c9 k.aO ("ranks" : Str) (aB 0) (aB 1))
 (aI (c9 k.aO ("every" : Str) (aB 0) (aB 2))
 (aI (c9 k.aO ("lost" : Str) (aB 0) (aB 3))
 (aI (c9 k.aO ("slow" : Str) (aB 0) (aB 4))
 (aI (c9 k.aO ("bears" : Str) (aB 0) (aB 11))
 (aI (c9 k.aO ("gap" : Str) (aB 0) (aB 6))
 (aI (c9 k.aO ("hold" : Str) (aB 0) (aB 7))
 (aI (c9 k.aO ("takes" : Str) (aB 0) (aB 8))
 (aI (c9 k.aO ("ties" : Str) (aB 0) (aB 9))
 (c9 k.aO ("hosts" : Str) (aB 0) (aB 10))))))))))))))))
def jR (k : bN) : MF := bP (mG k) gD
theorem KS : FnScope gD uU B5 := cJ (by decide +kernel)
theorem KO {S : aR} (h : Fx S) : qK (S.body 5 gD B5) (defBody (inClass (top 28) 0)) (mG h.k) :=
 (aL (eJ (c7 (bT (aS (ah rfl) (ML h) (KN h) rfl h.CQ h.yP (aC (jv 1) aF)))) (aZ (QP (ah rfl) h.sU (IG h) (IQ h) rfl h.pR cR)) b8)
 (aL (qJ 11 (YX (cS aEk (jv 5) uR) (jv 3) (jv 5)))
 (aL (qJ 12 (US (iK cR (jv 2) (iK cR (jv 3) (iK cR (jv 4) (iK cR (jv 11) (iK cR (jv 6) (iK cR (jv 7) (iK cR (jv 8) LA)))))))))
 (aL (DO (yK PySem.F.plainAttrs_dict PySem.F.slot_dict_update YC (jv 12) (aC (US (iK cR (jv 9) (iK cR (jv 10) LA))) aF)))
 (aL (uT (ZT (jv 12)) (GU (n := 2) (hR (M5 13) (hR (M5 14) zS))) (aZ (eJ (c7 (bT (aS (ah rfl) (QR h) (M6 h) rfl h.GY h.B6 (aC (jv 13) (aC (jv 14) (aC (a8 eS rfl h.gJ rfl (aC (cG (jv 1) aG) aF)) aF)))))) (aZ (QP (ah rfl) h.sU (IG h) (IQ h) rfl h.pR (jv 13))) b8)))
 (aL (gO h.fQ h.rE (jv 0) (jv 1))
 (aL (gO h.fQ h.rJ (jv 0) (jv 2))
 (aL (gO h.fQ h.u4 (jv 0) (jv 3))
 (aL (gO h.fQ h.uS (jv 0) (jv 4))
 (aL (gO h.fQ h.rD (jv 0) (jv 11))
 (aL (gO h.fQ h.wQ (jv 0) (jv 6))
 (aL (gO h.fQ h.u3 (jv 0) (jv 7))
 (aL (gO h.fQ h.rQ (jv 0) (jv 8))
 (aL (gO h.fQ h.uH (jv 0) (jv 9))
 (aZ (gO h.fQ h.rA (jv 0) (jv 10)))))))))))))))))
theorem MJ {S : aR} (h : Fx S) : gI S.P S.w S.K S.mg S.base 6 h.oS h.oW uU (jR h.k) := gI.of h.tZ KS (KO h) fun _ _ _ => .kK
abbrev aW (k : bN) : List D → List D → List D := fun xs zs => l7 [(0, 0), (0, 1), (1, 8), (1, 7), (1, 6), (1, 5), (1, 4), (1, 3), (1, 2), (1, 1), (1, 0)] xs zs []
theorem dH {S : aR} (h : Fx S) : eW S.K h.oW uU 2 [("hosts" : Str), ("ties" : Str), ("takes" : Str), ("hold" : Str), ("gap" : Str), ("bears" : Str), ("slow" : Str), ("lost" : Str), ("every" : Str)] (aW h.k) := ZV h.tZ 2 _ [] _ _ (by simp) (by simp) (fun I F => by simp [RepL]) (fun _ _ _ _ _ _ us mv ws h1 h2 h3 => match us, mv, ws, h1, h2, h3 with
 | [_, _], [], [_, _, _, _, _, _, _, _, _], _, _, _ => rfl) fun xs zs h1 h2 => match xs, zs, h1, h2 with
 | [_, _], [_, _, _, _, _, _, _, _, _], _, _ => rfl
def jV : List Str := [("_law_told_here" : Str)]
def tO : List Str := [("_law_told_here" : Str)]
abbrev B3 : Scope := defScope (top 34)
def jO (k : bN) : MS :=
 (bE (xD k.aO (jR k) 1 9 (aW k) (aA (aD a9 (aB 0) (eC (.int 0))) aE) (aA (aD a9 (aB 0) (eC (.int 9))) (aA (aD a9 (aB 0) (eC (.int 8))) (aA (aD a9 (aB 0) (eC (.int 7))) (aA (aD a9 (aB 0) (eC (.int 6))) (aA (aD a9 (aB 0) (eC (.int 5))) (aA (aD a9 (aB 0) (eC (.int 4))) (aA (aD a9 (aB 0) (eC (.int 3))) (aA (aD a9 (aB 0) (eC (.int 2))) (aA (aD a9 (aB 0) (eC (.int 1))) aE)))))))))))
def gY (k : bN) : MF := bP (jO k) jV
theorem MH : FnScope jV tO B3 := cJ (by decide +kernel)
theorem LI {S : aR} (h : Fx S) : qK (S.body 7 jV B3) (defBody (top 34)) (jO h.k) :=
 (aZ (bO (jmk (ah rfl) h.aBf (MJ h) (dH h) rfl h.WK (aC (cG (jv 0) aG) aF) (mZ (cG (jv 0) aG) (mZ (cG (jv 0) aG) (mZ (cG (jv 0) aG) (mZ (cG (jv 0) aG) (mZ (cG (jv 0) aG) (mZ (cG (jv 0) aG) (mZ (cG (jv 0) aG) (mZ (cG (jv 0) aG) (mZ (cG (jv 0) aG) aFm))))))))))))
theorem LG {S : aR} (h : Fx S) : gI S.P S.w S.K S.mg S.base 8 h.mD h.oN tO (gY h.k) := gI.of h.uG MH (LI h) fun _ _ _ => .kK
theorem LK {S : aR} (h : Fx S) : eW S.K h.oN tO 1 [] aN := cM h.uG fun _ _ _ _ _ _ us hl => match us, hl with
 | [_], _ => rfl
def nC : List Str := [("_law_told_here" : Str), ("_law_found" : Str), ("_law_e" : Str)]
def qP : List Str := [("_law_told_here" : Str)]
abbrev yW : Scope := defScope (top 44)
def m8 (k : bN) : MS :=
 (aI (aT (bQ (aA (eC (.str ("odd" : Str))) aE)) (a7 1))
 (aI (SJ (aT (bQ (aA (eC (.str ("made" : Str))) (aA (aJ (lP k) 1 aN (aA (aJ (gY k) 1 aN (aA (aB 0) aE)) aE)) aE))) (a7 1)) (AE k) 2 (fun x => (aT (bQ (aA (R6 (kG k) x) (aA (eFX (gM k) ("field" : Str) x) aE))) (a7 1))))
 (bE (aB 1))))
def iM (k : bN) : MF := bP (m8 k) nC
theorem HV : FnScope nC qP yW := cJ (by decide +kernel)
theorem IB {S : aR} (h : Fx S) : XX (S.body 8 nC yW) (defBody (top 44)) (m8 h.k) :=
 (NC (JS.t (qJ 1 (cF (aC cR aF))))
 (NC (aF8 (i := 2) rfl rfl rfl h.pR (UR h) (aZ (qJ 1 (cF (aC cR (aC (aS (ah rfl) (FI h) (D4 h) rfl h.vW h.uA (aC (aS (ah rfl) (LG h) (LK h) rfl h.BV h.y8 (aC (jv 0) aF)) aF)) aF))))) (aEA (QG (KJ (j := 1) (aCm (gX (XJ (ah rfl) (DA h) (C9 h) rfl h.tY h.sM) (gX (aBZ rfl (Or.inl rfl) (BO h)) DI)))))))
 (aCu (JS.t (bO (jv 1))))))
theorem G6 {S : aR} (h : Fx S) : gI S.P S.w S.K S.mg S.base 9 h.jY h.nA qP (iM h.k) := gI.ofT h.rY HV (IB h) fun _ _ _ => .kK
theorem G8 {S : aR} (h : Fx S) : eW S.K h.nA qP 1 [] aN := cM h.rY fun _ _ _ _ _ _ us hl => match us, hl with
 | [_], _ => rfl
def iH : List Str := [("_law_told_here" : Str), ("_law_kept" : Str), ("_law_fault_here" : Str), ("_law_due" : Str)]
def q8 : List Str := [("_law_told_here" : Str)]
abbrev yJ : Scope := defScope (top 45)
def j4 (k : bN) : MS :=
 (aI (aT (aP mW (aA (aB 0) aE)) (a7 1))
 (aI (aT (aJ (iE k) 1 aN (aA (aB 0) aE)) (a7 2))
 (aI (aT (bQ (aA (eC (.str ("made" : Str))) (aA (aJ (gR k) 1 aN (aA (aB 0) aE)) aE))) (a7 3))
 (aI (dN (bH (aD rS (aB 2) (eC .non))) (aT (bQ (aA (aD bS (aD bS (eI (aA (eC (.bl true)) aE)) (aD mulM (eI (aA (eC (.bl false)) aE)) (eC (.int 5)))) (eI (aA (eC (.bl true)) (aA (eC (.bl true)) (aA (eC (.bl false)) aE))))) (aA (aB 2) aE))) (a7 3)) bC)
 (bE (jX (aD gA (aP mW (aA (aJ (iM k) 1 aN (aA (aB 0) aE)) aE)) (aP mW (aA (aB 3) aE))) (aD gA (aP mW (aA (aB 0) aE)) (aB 1))))))))
def fK (k : bN) : MF := bP (j4 k) iH
theorem HH : FnScope iH q8 yJ := cJ (by decide +kernel)
theorem HZ {S : aR} (h : Fx S) : qK (S.body 9 iH yJ) (defBody (top 45)) (j4 h.k) :=
 (aL (qJ 1 (a8 (yV h.Z5) rfl h.GN rfl (aC (jv 0) aF)))
 (aL (qJ 2 (aS (ah rfl) (vV h) (vR h) rfl h.rW h.pF (aC (jv 0) aF)))
 (aL (qJ 3 (cF (aC cR (aC (aS (ah rfl) (wZ h) (wV h) rfl h.oU h.nP (aC (jv 0) aF)) aF))))
 (aL (eJ (cS D0 (jv 2) uR) (aZ (qJ 3 (cF (aC (bD cH (bD cH (dE (aC iO aF)) (bD wJ (dE (aC iO aF)) aG)) (dE (aC iO (aC iO (aC iO aF))))) (aC (jv 2) aF))))) b8)
 (aZ (bO (t6 (qS iP (a8 (yV h.Z5) rfl h.GN rfl (aC (aS (ah rfl) (G6 h) (G8 h) rfl h.zP h.v3 (aC (jv 0) aF)) aF)) (a8 (yV h.Z5) rfl h.GN rfl (aC (jv 3) aF))) (BN (qS iP (a8 (yV h.Z5) rfl h.GN rfl (aC (jv 0) aF)) (jv 1))))))))))
theorem wD {S : aR} (h : Fx S) : gI S.P S.w S.K S.mg S.base 10 h.kF h.nF q8 (fK h.k) := gI.of h.rO HH (HZ h) fun _ _ _ => .kK
theorem wC {S : aR} (h : Fx S) : eW S.K h.nF q8 1 [] aN := cM h.rO fun _ _ _ _ _ _ us hl => match us, hl with
 | [_], _ => rfl
def rG : List Str := [("_law_deck_here" : Str), ("_law_it" : Str), ("_law_way" : Str), ("_law_odd_here" : Str), ("_law_at" : Str), ("_law_some" : Str)]
def xC : List Str := [("_law_deck_here" : Str), ("_law_it" : Str)]
abbrev DV : Scope := defScope (top 41)
def xG (k : bN) : MS :=
 (aI (aT (aJ (aU k) 2 aN (aA (aB 0) (aA (eC (.int 9)) aE))) (a7 2))
 (aI (dN (bH (aD gA (aB 2) (eC (.int 0)))) (aI (aT (eI (aA (eC .non) (aA (eC (.bl true)) (aA (eC (.bl false)) (aA (eC (.int 0)) (aA (yX vK (eC (.int 1))) (aA (aD G0 (eC (.int 10)) (eC (.int 39))) (aA (eC (.str ("" : Str))) (aA (eC (.str ("1" : Str))) (aA (bQ aE) (aA (eI aE) (aA LL (aA (eI (aA (aB 1) aE)) (aA (bQ (aA (aB 1) aE)) (aA (IJ (dJ (eC (.int 0)) (aB 1) C2)) (aA (bQ (aA (bQ (aA (eC (.int 1)) aE)) aE)) (aA (eC (.int 13)) aE))))))))))))))))) (a7 3))
 (bE (aD a9 (aB 3) (aJ (aU k) 2 aN (aA (aB 0) (aA (eC (.int 16)) aE)))))) bC)
 (aI (dN (iD (cW (aP (gF gL) (aA (aB 1) (aA (eC (.ty "tuple")) aE)))) (bH (aD sL (aB 1) (bQ aE)))) (aI (aT (aJ (aU k) 2 aN (aA (aB 0) (aA (aP c5 (aA (aB 1) aE)) aE))) (a7 4))
 (aI (aT (eNew (aA (aD sQ (m9 iZ (aB 1) cV (cK (aB 4))) (m9 iZ (aB 1) (cK (aD sQ (aB 4) (eC (.int 1)))) cV)) (aA (aD sQ (m9 iZ (aB 1) cV (cK (aD sQ (aB 4) (eC (.int 1))))) (m9 iZ (aB 1) (cK (aB 4)) cV)) (aA (yX XN (aB 1)) (aA (aP IM (aA (aB 1) aE)) (aA (aD sQ (aB 1) (bQ (aA (eC (.int 1)) aE))) (aA (bQ (aA (aB 1) aE)) (aA (aD a9 (aB 1) (aB 4)) aE)))))))) (a7 5))
 (aI (cY (dO "list" dA (aB 5) (aA (aD sQ (aD sQ (m9 iZ (aB 1) cV (cK (aB 4))) (yX XN (m9 iZ (aB 1) (cK (aB 4)) (cK (aD sQ (aB 4) (eC (.int 2))))))) (m9 iZ (aB 1) (cK (aD sQ (aB 4) (eC (.int 2)))) cV)) aE)))
 (bE (aD a9 (aB 5) (aD subB (aB 2) (eC (.int 1)))))))) bC)
 (aI (dN (cW (aP (gF gL) (aA (aB 1) (aA (eC (.ty "int")) aE)))) (bE (aD a9 (eI (aA (aD sQ (aB 1) (eC (.int 1))) (aA (aD subB (aB 1) (eC (.int 1))) (aA (aD sQ (aB 1) (eC (.int 2))) (aA (aD subB (eC (.int 0)) (aB 1)) (aA (aD gA (aB 1) (eC (.int 1))) (aA (aP NL (aA (aB 1) aE)) (aA (bQ (aA (aB 1) aE)) (aA (aD sQ (aB 1) (eC (.int 10))) aE))))))))) (aD subB (aB 2) (eC (.int 1))))) bC)
 (bE (aD a9 (eI (aA (bQ (aA (eC (.int 0)) (aA (eC (.int 0)) (aA (eC (.int 1)) aE)))) (aA (bQ (aA (bQ (aA (eC (.int 0)) (aA (eC (.int 0)) (aA (eC (.int 1)) aE)))) aE)) (aA (eI aE) (aA (eC (.int 1)) (aA (eC (.str ("yes" : Str))) (aA (eC (.int 0)) (aA (eC (.int 5)) (aA (bQ aE) aE))))))))) (aD subB (aB 2) (eC (.int 1)))))))))
def oF (k : bN) : MF := bP (xG k) rG
theorem NX : FnScope rG xC DV := cJ (by decide +kernel)
theorem OR {S : aR} (h : Fx S) : qK (S.body 1 rG DV) (defBody (top 41)) (xG h.k) :=
 (aL (qJ 2 (aS (ah rfl) (aY h) (aX h) rfl h.bB h.aV (aC (jv 0) (aC aG aF))))
 (aL (eJ (cS iP (jv 2) aG) (aL (qJ 3 (dE (aC uR (aC iO (aC iO (aC aG (aC (U4 KP aG) (aC (bD aAx aG aG) (aC cR (aC cR (aC (cF aF) (aC (dE aF) (aC YZ (aC (dE (aC (jv 1) aF)) (aC (cF (aC (jv 1) aF)) (aC (aCx (iK aG (jv 1) LA)) (aC (cF (aC (cF (aC aG aF)) aF)) (aC aG aF))))))))))))))))))
 (aZ (bO (cG (jv 3) (aS (ah rfl) (aY h) (aX h) rfl h.bB h.aV (aC (jv 0) (aC aG aF))))))) b8)
 (aL (eJ (qZ (aBc (bT (a8 (fB dM) rfl h.bA rfl (aC (jv 1) (aC (fC rfl h.dS rfl) aF)))) (WJ (cS zK (jv 1) (cF aF))))) (aL (qJ 4 (aS (ah rfl) (aY h) (aX h) rfl h.bB h.aV (aC (jv 0) (aC (a8 eS rfl h.gJ rfl (aC (jv 1) aF)) aF))))
 (aL (qJ 5 (aFk (aC (bD jD (fE fM (jv 1) cQ (cL (jv 4))) (fE fM (jv 1) (cL (bD jD (jv 4) aG)) cQ)) (aC (bD jD (fE fM (jv 1) cQ (cL (bD jD (jv 4) aG))) (fE fM (jv 1) (cL (jv 4)) cQ)) (aC (WR (jv 1)) (aC (g6 aDv rfl h.L3 rfl (aC (jv 1) aF)) (aC (bD jD (jv 1) (cF (aC aG aF))) (aC (cF (aC (jv 1) aF)) (aC (cG (jv 1) (jv 4)) aF)))))))))
 (aL (DO (yK PySem.F.plainAttrs_list PySem.F.slot_list_append IH (jv 5) (aC (bD jD (bD jD (fE fM (jv 1) cQ (cL (jv 4))) (WR (fE fM (jv 1) (cL (jv 4)) (cL (bD jD (jv 4) aG))))) (fE fM (jv 1) (cL (bD jD (jv 4) aG)) cQ)) aF)))
 (aZ (bO (cG (jv 5) (bD zU (jv 2) aG))))))) b8)
 (aL (eJ (bT (a8 (fB dM) rfl h.bA rfl (aC (jv 1) (aC (fC rfl h.IP rfl) aF)))) (aZ (bO (cG (dE (aC (bD jD (jv 1) aG) (aC (bD zU (jv 1) aG) (aC (bD jD (jv 1) aG) (aC (bD zU aG (jv 1)) (aC (qS iP (jv 1) aG) (aC (g6 aCQ rfl h.aDZ rfl (aC (jv 1) aF)) (aC (cF (aC (jv 1) aF)) (aC (bD jD (jv 1) aG) aF))))))))) (bD zU (jv 2) aG)))) b8)
 (aZ (bO (cG (dE (aC (cF (aC aG (aC aG (aC aG aF)))) (aC (cF (aC (cF (aC aG (aC aG (aC aG aF)))) aF)) (aC (dE aF) (aC aG (aC cR (aC aG (aC aG (aC (cF aF) aF))))))))) (bD zU (jv 2) aG))))))))
theorem jT {S : aR} (h : Fx S) : gI S.P S.w S.K S.mg S.base 2 h.oD h.rC xC (oF h.k) := gI.of h.wW NX (OR h) fun _ _ _ => .kK
theorem jN {S : aR} (h : Fx S) : eW S.K h.rC xC 2 [] aN := cM h.wW fun _ _ _ _ _ _ us hl => match us, hl with
 | [_, _], _ => rfl
def bZ : List Str := [("_law_deck_here" : Str), ("_law_it" : Str), ("_law_at" : Str)]
def dB : List Str := [("_law_deck_here" : Str), ("_law_it" : Str)]
abbrev fO : Scope := defScope (top 42)
theorem f7 : FnScope bZ dB fO := cJ (by decide +kernel)
theorem eR {S : aR} (h : Fx S) : eW S.K h.cZ dB 2 [] aN := cM h.eK fun _ _ _ _ _ _ us hl => match us, hl with
 | [_, _], _ => rfl
abbrev mO (_ : bN) : MF := noM
theorem AR {S : aR} (h : Fx S) : gI S.P S.w S.K S.mg S.base 2 h.cU h.cZ dB (mO h.k) := gI.bad
def cC (k : bN) (rec : MF) : MS :=
 (aI (dN (eV (bU (cW (aP (gF gL) (aA (aB 1) (aA (eC (.ty "tuple")) aE))))) (eV (bH (aD gA (aB 1) (bQ aE))) (bH (aD gA (aJ (aU k) 2 aN (aA (aB 0) (aA (eC (.int 4)) aE))) (eC (.int 0)))))) (bE (aJ (oF k) 2 aN (aA (aB 0) (aA (aB 1) aE)))) bC)
 (aI (aT (aJ (aU k) 2 aN (aA (aB 0) (aA (aP c5 (aA (aB 1) aE)) aE))) (a7 2))
 (bE (aD bS (aD bS (m9 iZ (aB 1) cV (cK (aB 2))) (bQ (aA (aJ rec 2 aN (aA (aB 0) (aA (aD a9 (aB 1) (aB 2)) aE))) aE))) (m9 iZ (aB 1) (cK (aD bS (aB 2) (eC (.int 1)))) cV)))))
def mJ (k : bN) : MF := bP (cC k (mO k)) bZ
theorem A7 {S : aR} (h : Fx S) : qK (S.body 2 bZ fO) (defBody (top 42)) (cC h.k (mO h.k)) :=
 (aL (eJ (qZ (fR (c7 (bT (a8 (fB dM) rfl h.bA rfl (aC (jv 1) (aC (fC rfl h.dS rfl) aF))))) (fR (cS iP (jv 1) (cF aF)) (g9 (cS iP (aS (ah rfl) (aY h) (aX h) rfl h.bB h.aV (aC (jv 0) (aC aG aF))) aG))))) (aZ (bO (aS (ah rfl) (jT h) (jN h) rfl h.jI h.hZ (aC (jv 0) (aC (jv 1) aF))))) b8)
 (aL (qJ 2 (aS (ah rfl) (aY h) (aX h) rfl h.bB h.aV (aC (jv 0) (aC (a8 eS rfl h.gJ rfl (aC (jv 1) aF)) aF))))
 (aZ (bO (bD cH (bD cH (fE fM (jv 1) cQ (cL (jv 2))) (cF (aC (aS (ah rfl) (AR h) (eR h) rfl h.eP h.dU (aC (jv 0) (aC (cG (jv 1) (jv 2)) aF))) aF))) (fE fM (jv 1) (cL (bD cH (jv 2) aG)) cQ))))))
theorem BM {S : aR} (h : Fx S) : gI S.P S.w S.K S.mg S.base 3 h.cU h.cZ dB (mJ h.k) := gI.of h.eK f7 (A7 h) fun _ _ _ => .kK
def mS (k : bN) : MF := bP (cC k (mJ k)) bZ
theorem BB {S : aR} (h : Fx S) : qK (S.body 3 bZ fO) (defBody (top 42)) (cC h.k (mJ h.k)) :=
 (aL (eJ (qZ (fR (c7 (bT (a8 (fB dM) rfl h.bA rfl (aC (jv 1) (aC (fC rfl h.dS rfl) aF))))) (fR (cS iP (jv 1) (cF aF)) (g9 (cS iP (aS (ah rfl) (aY h) (aX h) rfl h.bB h.aV (aC (jv 0) (aC aG aF))) aG))))) (aZ (bO (aS (ah rfl) (jT h) (jN h) rfl h.jI h.hZ (aC (jv 0) (aC (jv 1) aF))))) b8)
 (aL (qJ 2 (aS (ah rfl) (aY h) (aX h) rfl h.bB h.aV (aC (jv 0) (aC (a8 eS rfl h.gJ rfl (aC (jv 1) aF)) aF))))
 (aZ (bO (bD cH (bD cH (fE fM (jv 1) cQ (cL (jv 2))) (cF (aC (aS (ah rfl) (BM h) (eR h) rfl h.eP h.dU (aC (jv 0) (aC (cG (jv 1) (jv 2)) aF))) aF))) (fE fM (jv 1) (cL (bD cH (jv 2) aG)) cQ))))))
theorem AL {S : aR} (h : Fx S) : gI S.P S.w S.K S.mg S.base 4 h.cU h.cZ dB (mS h.k) := gI.of h.eK f7 (BB h) fun _ _ _ => .kK
def mL (k : bN) : MF := bP (cC k (mS k)) bZ
theorem AN {S : aR} (h : Fx S) : qK (S.body 4 bZ fO) (defBody (top 42)) (cC h.k (mS h.k)) :=
 (aL (eJ (qZ (fR (c7 (bT (a8 (fB dM) rfl h.bA rfl (aC (jv 1) (aC (fC rfl h.dS rfl) aF))))) (fR (cS iP (jv 1) (cF aF)) (g9 (cS iP (aS (ah rfl) (aY h) (aX h) rfl h.bB h.aV (aC (jv 0) (aC aG aF))) aG))))) (aZ (bO (aS (ah rfl) (jT h) (jN h) rfl h.jI h.hZ (aC (jv 0) (aC (jv 1) aF))))) b8)
 (aL (qJ 2 (aS (ah rfl) (aY h) (aX h) rfl h.bB h.aV (aC (jv 0) (aC (a8 eS rfl h.gJ rfl (aC (jv 1) aF)) aF))))
 (aZ (bO (bD cH (bD cH (fE fM (jv 1) cQ (cL (jv 2))) (cF (aC (aS (ah rfl) (AL h) (eR h) rfl h.eP h.dU (aC (jv 0) (aC (cG (jv 1) (jv 2)) aF))) aF))) (fE fM (jv 1) (cL (bD cH (jv 2) aG)) cQ))))))
theorem AO {S : aR} (h : Fx S) : gI S.P S.w S.K S.mg S.base 5 h.cU h.cZ dB (mL h.k) := gI.of h.eK f7 (AN h) fun _ _ _ => .kK
def mN (k : bN) : MF := bP (cC k (mL k)) bZ
theorem AG {S : aR} (h : Fx S) : qK (S.body 5 bZ fO) (defBody (top 42)) (cC h.k (mL h.k)) :=
 (aL (eJ (qZ (fR (c7 (bT (a8 (fB dM) rfl h.bA rfl (aC (jv 1) (aC (fC rfl h.dS rfl) aF))))) (fR (cS iP (jv 1) (cF aF)) (g9 (cS iP (aS (ah rfl) (aY h) (aX h) rfl h.bB h.aV (aC (jv 0) (aC aG aF))) aG))))) (aZ (bO (aS (ah rfl) (jT h) (jN h) rfl h.jI h.hZ (aC (jv 0) (aC (jv 1) aF))))) b8)
 (aL (qJ 2 (aS (ah rfl) (aY h) (aX h) rfl h.bB h.aV (aC (jv 0) (aC (a8 eS rfl h.gJ rfl (aC (jv 1) aF)) aF))))
 (aZ (bO (bD cH (bD cH (fE fM (jv 1) cQ (cL (jv 2))) (cF (aC (aS (ah rfl) (AO h) (eR h) rfl h.eP h.dU (aC (jv 0) (aC (cG (jv 1) (jv 2)) aF))) aF))) (fE fM (jv 1) (cL (bD cH (jv 2) aG)) cQ))))))
theorem AW {S : aR} (h : Fx S) : gI S.P S.w S.K S.mg S.base 6 h.cU h.cZ dB (mN h.k) := gI.of h.eK f7 (AG h) fun _ _ _ => .kK
def mR (k : bN) : MF := bP (cC k (mN k)) bZ
theorem A5 {S : aR} (h : Fx S) : qK (S.body 6 bZ fO) (defBody (top 42)) (cC h.k (mN h.k)) :=
 (aL (eJ (qZ (fR (c7 (bT (a8 (fB dM) rfl h.bA rfl (aC (jv 1) (aC (fC rfl h.dS rfl) aF))))) (fR (cS iP (jv 1) (cF aF)) (g9 (cS iP (aS (ah rfl) (aY h) (aX h) rfl h.bB h.aV (aC (jv 0) (aC aG aF))) aG))))) (aZ (bO (aS (ah rfl) (jT h) (jN h) rfl h.jI h.hZ (aC (jv 0) (aC (jv 1) aF))))) b8)
 (aL (qJ 2 (aS (ah rfl) (aY h) (aX h) rfl h.bB h.aV (aC (jv 0) (aC (a8 eS rfl h.gJ rfl (aC (jv 1) aF)) aF))))
 (aZ (bO (bD cH (bD cH (fE fM (jv 1) cQ (cL (jv 2))) (cF (aC (aS (ah rfl) (AW h) (eR h) rfl h.eP h.dU (aC (jv 0) (aC (cG (jv 1) (jv 2)) aF))) aF))) (fE fM (jv 1) (cL (bD cH (jv 2) aG)) cQ))))))
theorem AD {S : aR} (h : Fx S) : gI S.P S.w S.K S.mg S.base 7 h.cU h.cZ dB (mR h.k) := gI.of h.eK f7 (A5 h) fun _ _ _ => .kK
def sD (k : bN) : MF := bP (cC k (mR k)) bZ
theorem BH {S : aR} (h : Fx S) : qK (S.body 7 bZ fO) (defBody (top 42)) (cC h.k (mR h.k)) :=
 (aL (eJ (qZ (fR (c7 (bT (a8 (fB dM) rfl h.bA rfl (aC (jv 1) (aC (fC rfl h.dS rfl) aF))))) (fR (cS iP (jv 1) (cF aF)) (g9 (cS iP (aS (ah rfl) (aY h) (aX h) rfl h.bB h.aV (aC (jv 0) (aC aG aF))) aG))))) (aZ (bO (aS (ah rfl) (jT h) (jN h) rfl h.jI h.hZ (aC (jv 0) (aC (jv 1) aF))))) b8)
 (aL (qJ 2 (aS (ah rfl) (aY h) (aX h) rfl h.bB h.aV (aC (jv 0) (aC (a8 eS rfl h.gJ rfl (aC (jv 1) aF)) aF))))
 (aZ (bO (bD cH (bD cH (fE fM (jv 1) cQ (cL (jv 2))) (cF (aC (aS (ah rfl) (AD h) (eR h) rfl h.eP h.dU (aC (jv 0) (aC (cG (jv 1) (jv 2)) aF))) aF))) (fE fM (jv 1) (cL (bD cH (jv 2) aG)) cQ))))))
theorem BI {S : aR} (h : Fx S) : gI S.P S.w S.K S.mg S.base 8 h.cU h.cZ dB (sD h.k) := gI.of h.eK f7 (BH h) fun _ _ _ => .kK
abbrev lN (k : bN) : MF := sD k
theorem D7 {S : aR} (h : Fx S) : gI S.P S.w S.K S.mg S.base 8 h.cU h.cZ dB (lN h.k) := BI h
def tR : List Str := [("_law_deck_here" : Str), ("_law_some" : Str)]
def tL : List Str := [("_law_deck_here" : Str), ("_law_some" : Str)]
abbrev BP : Scope := defScope (top 32)
def CH (k : bN) : MS :=
 (bE (aD a9 (aB 1) (aJ (aU k) 2 aN (aA (aB 0) (aA (aP c5 (aA (aB 1) aE)) aE)))))
def gB (k : bN) : MF := bP (CH k) tR
theorem KD : FnScope tR tL BP := cJ (by decide +kernel)
theorem LJ {S : aR} (h : Fx S) : qK (S.body 1 tR BP) (defBody (top 32)) (CH h.k) :=
 (aZ (bO (cG (jv 1) (aS (ah rfl) (aY h) (aX h) rfl h.bB h.aV (aC (jv 0) (aC (a8 eS rfl h.gJ rfl (aC (jv 1) aF)) aF))))))
theorem qY {S : aR} (h : Fx S) : gI S.P S.w S.K S.mg S.base 2 h.mF h.oV tL (gB h.k) := gI.of h.tM KD (LJ h) fun _ _ _ => .kK
theorem rM {S : aR} (h : Fx S) : eW S.K h.oV tL 2 [] aN := cM h.tM fun _ _ _ _ _ _ us hl => match us, hl with
 | [_, _], _ => rfl
def jU : List Str := [("_law_deck_here" : Str), ("_law_great" : Str), ("_law_houses" : Str), ("_law_addresses" : Str), ("_law_low" : Str), ("_law_rows" : Str), ("_law_cords" : Str), ("_law_k" : Str), ("_law_some" : Str), ("_law_found" : Str), ("_law_a" : Str), ("_law_h" : Str), ("_law_pair" : Str)]
def sX : List Str := [("_law_deck_here" : Str), ("_law_great" : Str)]
abbrev BR : Scope := defScope (top 33)
def lS (k : bN) : MS :=
 (aI (aT (bQ (aA (aD a9 (eI (aA (aD bS (eC (.int 1)) (aJ (aU k) 2 aN (aA (aB 0) (aA (eC (.int 6)) aE)))) (aA (eC (.int 6)) aE))) (aB 1)) (aA (aD a9 (eI (aA (aD bS (eC (.int 1)) (aJ (aU k) 2 aN (aA (aB 0) (aA (eC (.int 4)) aE)))) (aA (eC (.int 4)) aE))) (aB 1)) aE))) (bY 2 (aK (a7 2) (aK (a7 3) bW))))
 (aI (aT (aJ (gB k) 2 aN (aA (aB 0) (aA (eI (aA (eC (.int 1)) (aA (eC (.int 8)) (aA (eC (.int 9)) (aA (eC (.int 10)) aE))))) aE))) (a7 4))
 (aI (aT (b6 (eZ kO (aA (aB 3) aE)) [10] (a7 10) cD (aP dZ (aA (b6 (eZ kO (aA (aB 2) aE)) [11] (a7 11) cD (aD bS (aB 4) (aJ (aU k) 2 aN (aA (aB 0) (aA (aD kH (eC (.int 13)) (aB 4)) aE))))) aE))) (a7 5))
 (aI (aT q9 (a7 6))
 (aI (fX (eZ kO (aA (aD a9 (eI (aA (aJ (aU k) 2 aN (aA (aB 0) (aA (eC (.int 7)) aE))) (aA (eC (.int 24)) aE))) (aB 1)) aE)) (a7 7) (dN (bH (aD RN (aP ET (aA (aB 6) aE)) (eC (.int 6)))) (aT (aD a9 (eI (aA (eC (.int 1)) (aA (eC (.int 9)) (aA (eC (.int 10)) (aA (eC (.int 11)) (aA (eC (.int 2)) aE)))))) (aJ (aU k) 2 aN (aA (aB 0) (aA (eC (.int 5)) aE)))) (dR (aB 6) (bQ (aA (aJ (aU k) 2 aN (aA (aB 0) (aA (aB 2) aE))) (aA (aJ (aU k) 2 aN (aA (aB 0) (aA (eC (.int 10)) aE))) aE))))) bC))
 (aI (aT (aP dZ (aA (aP lO (aA (b6 (vI (aB 6)) [12] (a7 12) cD (aD bS (aB 12) (bQ (aA (aD a9 (aB 6) (aB 12)) aE)))) aE)) aE)) (a7 8))
 (aI (aT (eI (aA (aP dZ (aA (aB 5) aE)) (aA (aD bS (eC (.int 1)) (aJ (aU k) 2 aN (aA (aB 0) (aA (eC (.int 5)) aE)))) (aA (aJ (aU k) 2 aN (aA (aB 0) (aA (eC (.int 4)) aE))) (aA (aD bS (eC (.int 1)) (aJ (aU k) 2 aN (aA (aB 0) (aA (eC (.int 4)) aE)))) aE))))) (a7 9))
 (aI (aT (aD EE (aB 9) (eI (aA (aJ (gB k) 2 aN (aA (aB 0) (aA (eI (aA (eC .non) (aA (eC (.int 0)) (aA (eC (.int 1)) (aA (eC (.int 2)) (aA (eC (.int 3)) aE)))))) aE))) (aA (aJ (aU k) 2 aN (aA (aB 0) (aA (eC (.int 4)) aE))) aE)))) (a7 9))
 (aI (cY (dO "list" dA (aB 9) (aA (aJ (gB k) 2 aN (aA (aB 0) (aA (eI (aA (eC (.int 0)) (aA (eC (.int 9)) (aA (eC (.int 10)) (aA (eC (.int 20)) (aA (aJ (aU k) 2 aN (aA (aB 0) (aA (eC (.int 21)) aE))) aE)))))) aE))) aE)))
 (bE (aD UQ (aB 9) (eI (aA (aD gA (aJ (aU k) 2 aN (aA (aB 0) (aA (eC (.int 2)) aE))) (eC (.int 1))) (aA (aB 8) (aA (aJ (aU k) 2 aN (aA (aB 0) (aA (eC (.int 5)) aE))) aE)))))))))))))))
def lV (k : bN) : MF := bP (lS k) jU
theorem LX : FnScope jU sX BR := cJ (by decide +kernel)
theorem J9 {S : aR} (h : Fx S) : qK (S.body 2 jU BR) (defBody (top 33)) (lS h.k) :=
 (aL (aBi (cF (aC (cG (dE (aC (bD cH aG (aS (ah rfl) (aY h) (aX h) rfl h.bB h.aV (aC (jv 0) (aC aG aF)))) (aC aG aF))) (jv 1)) (aC (cG (dE (aC (bD cH aG (aS (ah rfl) (aY h) (aX h) rfl h.bB h.aV (aC (jv 0) (aC aG aF)))) (aC aG aF))) (jv 1)) aF))) (GU (n := 2) (hR (M5 2) (hR (M5 3) zS))))
 (aL (qJ 4 (aS (ah rfl) (qY h) (rM h) rfl h.oO h.nB (aC (jv 0) (aC (dE (aC aG (aC aG (aC aG (aC aG aF))))) aF))))
 (aL (jsc 5 (own := [(("_law_a" : Str), 10)]) (nJ rfl h.qW (aC (jv 3) aF)) (by kernel_rfl) (XZ 10) m6 (g6 sR rfl h.dS rfl (aC (nD (own := [(("_law_h" : Str), 11)]) (nJ rfl h.qW (aC (jv 2) aF)) (by kernel_rfl) (XZ 11) m6 (bD cH (jv 4) (aS (ah rfl) (aY h) (aX h) rfl h.bB h.aV (aC (jv 0) (aC (bD MN aG (jv 4)) aF))))) aF)))
 (aL (qJ 6 Y2)
 (aL (uT (nJ rfl h.qW (aC (cG (dE (aC (aS (ah rfl) (aY h) (aX h) rfl h.bB h.aV (aC (jv 0) (aC aG aF))) (aC aG aF))) (jv 1)) aF)) (M5 7) (aZ (eJ (cS aEs (a8 aAi rfl h.gJ rfl (aC (jv 6) aF)) aG) (aZ (AS (cG (dE (aC aG (aC aG (aC aG (aC aG (aC aG aF)))))) (aS (ah rfl) (aY h) (aX h) rfl h.bB h.aV (aC (jv 0) (aC aG aF)))) (R9 (jv 6) (cF (aC (aS (ah rfl) (aY h) (aX h) rfl h.bB h.aV (aC (jv 0) (aC (jv 2) aF))) (aC (aS (ah rfl) (aY h) (aX h) rfl h.bB h.aV (aC (jv 0) (aC aG aF))) aF)))))) b8)))
 (aL (qJ 8 (g6 sR rfl h.dS rfl (aC (a8 YJ rfl h.QQ rfl (aC (nD (own := [(("_law_pair" : Str), 12)]) (aDe (jv 6)) (by kernel_rfl) (XZ 12) m6 (bD cH (jv 12) (cF (aC (cG (jv 6) (jv 12)) aF)))) aF)) aF)))
 (aL (qJ 9 (dE (aC (g6 sR rfl h.dS rfl (aC (jv 5) aF)) (aC (bD cH aG (aS (ah rfl) (aY h) (aX h) rfl h.bB h.aV (aC (jv 0) (aC aG aF)))) (aC (aS (ah rfl) (aY h) (aX h) rfl h.bB h.aV (aC (jv 0) (aC aG aF))) (aC (bD cH aG (aS (ah rfl) (aY h) (aX h) rfl h.bB h.aV (aC (jv 0) (aC aG aF)))) aF))))))
 (aL (qJ 9 (bD aBj (jv 9) (dE (aC (aS (ah rfl) (qY h) (rM h) rfl h.oO h.nB (aC (jv 0) (aC (dE (aC uR (aC aG (aC aG (aC aG (aC aG aF)))))) aF))) (aC (aS (ah rfl) (aY h) (aX h) rfl h.bB h.aV (aC (jv 0) (aC aG aF))) aF)))))
 (aL (DO (yK PySem.F.plainAttrs_list PySem.F.slot_list_append IH (jv 9) (aC (aS (ah rfl) (qY h) (rM h) rfl h.oO h.nB (aC (jv 0) (aC (dE (aC aG (aC aG (aC aG (aC aG (aC (aS (ah rfl) (aY h) (aX h) rfl h.bB h.aV (aC (jv 0) (aC aG aF))) aF)))))) aF))) aF)))
 (aZ (bO (bD aDJ (jv 9) (dE (aC (qS iP (aS (ah rfl) (aY h) (aX h) rfl h.bB h.aV (aC (jv 0) (aC aG aF))) aG) (aC (jv 8) (aC (aS (ah rfl) (aY h) (aX h) rfl h.bB h.aV (aC (jv 0) (aC aG aF))) aF))))))))))))))))
theorem LO {S : aR} (h : Fx S) : gI S.P S.w S.K S.mg S.base 3 h.l8 h.pA sX (lV h.k) := gI.of h.uW LX (J9 h) fun _ _ _ => .kK
theorem LZ {S : aR} (h : Fx S) : eW S.K h.pA sX 2 [] aN := cM h.uW fun _ _ _ _ _ _ us hl => match us, hl with
 | [_, _], _ => rfl
def VQ : List Str := [("_law_script" : Str), ("_law_deck_here" : Str), ("_law_turn" : Str), ("_law_great" : Str), ("_law_good" : Str), ("_law_k" : Str), ("_law_places" : Str), ("_law_told_here" : Str), ("_law_at" : Str)]
def aEg : List Str := [("_law_script" : Str)]
abbrev aD8 : Scope := defScope (top 46)
def YU (k : bN) : MS :=
 (aI (aT (aJ (tD k) 1 aN (aA (aB 0) aE)) (a7 1))
 (aI (fX (eZ kO (aA (eC (.int 3)) aE)) (a7 2) (aI (aT (aP x7 (aA (aD gA (aJ (aU k) 2 aN (aA (aB 1) (aA (eC (.int 8)) aE))) (eC (.int 5))) aE)) (a7 3))
 (aI (aT (aJ (lV k) 2 aN (aA (aB 1) (aA (aB 3) aE))) (a7 4))
 (fX (eZ kO (aA (eC (.int 16)) aE)) (a7 5) (aI (aT (m9 iZ (eI (aA (aJ (aU k) 2 aN (aA (aB 1) (aA (eC (.int 10)) aE))) (aA (aJ (aU k) 2 aN (aA (aB 1) (aA (eC (.int 10)) aE))) aE))) cV (cK (aD bS (eC (.int 1)) (aP x7 (aA (aD gA (aJ (aU k) 2 aN (aA (aB 1) (aA (eC (.int 3)) aE))) (eC (.int 0))) aE))))) (a7 6))
 (aI (aT (aP tG (aA (aB 4) aE)) (a7 7))
 (aI (fX (dY (aB 6)) (a7 8) (aT (aJ (lN k) 2 aN (aA (aB 1) (aA (aD a9 (aB 4) (aB 8)) aE))) (dR (aB 7) (aB 8))))
 (dN (eV (bU (cW (aJ (fK k) 1 aN (aA (aB 7) aE)))) (eV (bU (cW (aJ (fK k) 1 aN (aA (aB 4) aE)))) (bH (aD rS (aJ (iE k) 1 aN (aA (aB 4) aE)) (eC .non))))) (bE (eC (.bl false))) bC))))))))
 (bE (eC (.bl true)))))
def NS (k : bN) : MF := bP (YU k) VQ
theorem aEC : FnScope VQ aEg aD8 := cJ (by decide +kernel)
theorem aF4 {S : aR} (h : Fx S) : qK (S.body 10 VQ aD8) (defBody (top 46)) (YU h.k) :=
 (aL (qJ 1 (aS (ah rfl) (K5 h) (L4 h) rfl h.BX h.yN (aC (jv 0) aF)))
 (aL (uT (nJ rfl h.qW (aC aG aF)) (M5 2) (aL (qJ 3 (g6 aA7 rfl h.IP rfl (aC (qS iP (aS (ah rfl) (aY h) (aX h) rfl h.bB h.aV (aC (jv 1) (aC aG aF))) aG) aF)))
 (aL (qJ 4 (aS (ah rfl) (LO h) (LZ h) rfl h.CV h.zV (aC (jv 1) (aC (jv 3) aF))))
 (aZ (uT (nJ rfl h.qW (aC aG aF)) (M5 5) (aL (qJ 6 (fE fM (dE (aC (aS (ah rfl) (aY h) (aX h) rfl h.bB h.aV (aC (jv 1) (aC aG aF))) (aC (aS (ah rfl) (aY h) (aX h) rfl h.bB h.aV (aC (jv 1) (aC aG aF))) aF))) cQ (cL (bD cH aG (g6 aA7 rfl h.IP rfl (aC (qS iP (aS (ah rfl) (aY h) (aX h) rfl h.bB h.aV (aC (jv 1) (aC aG aF))) aG) aF))))))
 (aL (qJ 7 (g6 QV rfl h.L3 rfl (aC (jv 4) aF)))
 (aL (uT (nX (jv 6)) (M5 8) (aZ (AS (aS (ah rfl) (D7 h) (eR h) rfl h.eP h.dU (aC (jv 1) (aC (cG (jv 4) (jv 8)) aF))) (R9 (jv 7) (jv 8)))))
 (aZ (eJ (qZ (fR (c7 (bT (aS (ah rfl) (wD h) (wC h) rfl h.qT h.pD (aC (jv 7) aF)))) (fR (c7 (bT (aS (ah rfl) (wD h) (wC h) rfl h.qT h.pD (aC (jv 4) aF)))) (g9 (cS D0 (aS (ah rfl) (vV h) (vR h) rfl h.rW h.pF (aC (jv 4) aF)) uR))))) (aZ (bO iO)) b8))))))))))
 (aZ (bO iO))))
theorem aEy {S : aR} (h : Fx S) : gI S.P S.w S.K S.mg S.base 11 h.I7 h.WG aEg (NS h.k) := gI.of h.aEf aEC (aF4 h) fun _ _ _ => .kK
end K01
namespace K01
open PySem PySem.Spec PyProof.Rows L2 Pc Lb Lw
abbrev lk (k : K01.bN) : Lb.bN := ⟨k.aO, k.eE⟩
section
variable (k : K01.bN)
theorem aFX : K01.tD k = UO := rfl
theorem qO : K01.aU k = rX := rfl
theorem ZD : K01.gB k = S1 := rfl
theorem KY : K01.fG k = Lb.fG (lk k) := rfl
theorem aCw : K01.dQ k = Lb.dQ (lk k) := rfl
theorem aGI (x0 : D) : begin jV [x0] = [some x0] := rfl
theorem aIC (x0 : D) : begin lQ [x0] = [some x0, none] := rfl
theorem aIh (x0 x1 : D) : begin jU [x0, x1] = [some x0, some x1, none, none, none, none, none, none, none, none, none, none, none] := rfl
structure Fd where
 r : D
 ev : D
 lo : D
 sl : D
 be : D
 ga : D
 ho : D
 ta : D
 ti : D
 hs : D
def bG (f : Fd) : List D := [f.r, f.ev, f.lo, f.sl, f.be, f.ga, f.ho, f.ta, f.ti, f.hs]
def vU : D → Bool
 | .bl _ => true
 | _ => false
def gS (f : Fd) : D := if f.be.isNon = true then f.lo else f.be
def items (f : Fd) : List (Str × D) := [("every", f.ev), ("lost", f.lo), ("slow", f.sl), ("bears", gS f), ("gap", f.ga), ("hold", f.ho), ("takes", f.ta), ("ties", f.ti), ("hosts", f.hs)]
def gQ (h : Int) (z : Str) (d : D) : Bool := match Lb.dX.lookup z with
 | some (some (.lY [.int lo, .int hi])) => aM lo hi d
 | _ => if z = "takes" then vU d else lT h d
def kW : D → Int
 | .tup (.tup r :: _) => r.length
 | _ => 0
def fJ (f : Fd) : Option Str := if fZ f.r = true then ((items f).find? fun p => !gQ (kW f.r) p.1 p.2).map Prod.fst else some "ranks"
def zD (f : Fd) : Prop := ∀ d ∈ bG f, jW 6 d = true
variable {w w' : W} {P : D → W → Prop} {PF : Fl → W → Prop} {PX : XD → W → Prop} {f : Fd} {p n : Nat} {d : D}
theorem aCB {h : Int} {z : Str} (hz : z ∈ (["every", "lost", "slow", "bears", "gap", "hold", "takes", "ties", "hosts"] : List Str)) (e : jW 6 d = true) (hP : P (.bl (gQ h z d)) w) : T (K01.dQ k [.str z, d, .int h] w) P := by
 rw [aCw]
 have num : ∀ (z : Str) (lo hi : Int), Lb.dX.lookup z = some (some (.lY [.int lo, .int hi])) → P (.bl (gQ h z d)) w → T (Lb.dQ (lk k) [.str z, d, .int h] w) P := fun z lo hi hz hP => by
  unfold gQ at hP
  rw [hz] at hP
  simp only [Lb.dQ, Lb.jJ, t5, aBy hz, aGz hz, Option.isSome_some, eT, bJ, fU, y6, NK, E3, yH, FF, IX, MC, EM, z9, EC, zR, ES, y7, T_C, T_V, Q3, aAs, OP, aAW, aBA, FV, zE, QT, OY, QZ, OI, GJ, EY, yU, BK, O8, aBm, OD, N8, nR, FW, QY, rN, l5, CS, zA, vS, rZ, IV, aBr, Y6, ZX, XI, FX, NB, kJ, tN, Q4, EN, E8, FL, bV, dm, dn, List.set_cons_zero, List.set_cons_succ, cf, cz, aN, true_and, and_true, DU, GO, E9, YY, zN, xX, vL, EW, BC, OQ, QB, IT, v9, QH, tH, ae, bg, aa, ay, bq, Bool.true_eq_false, ite_true, ite_false, reduceCtorEq]
  have aw := fun PP => pS (k := lk k) (w := w) (P := PP) lo hi e
  simp only [aw, eT, bJ, fU, y6, NK, E3, yH, FF, IX, MC, EM, z9, EC, zR, ES, y7, T_C, T_V, Q3, aAs, OP, aAW, aBA, FV, zE, QT, OY, QZ, OI, GJ, EY, yU, BK, O8, aBm, OD, N8, nR, FW, QY, rN, l5, CS, zA, vS, rZ, IV, aBr, Y6, ZX, XI, FX, NB, kJ, tN, Q4, EN, E8, FL, bV, dm, dn, List.set_cons_zero, List.set_cons_succ, cf, cz, aN, true_and, and_true, DU, GO, E9, YY, zN, xX, vL, EW, BC, OQ, QB, IT, v9, QH, tH, ae, bg, aa, ay, bq, Bool.true_eq_false, ite_true, ite_false, reduceCtorEq]
  exact hP
 simp only [bh, bw, dc] at hz
 rcases hz with rfl | rfl | rfl | rfl | rfl | rfl | rfl | rfl | rfl
 ·exact num _ _ _ rfl hP
 ·exact num _ _ _ rfl hP
 ·exact num _ _ _ rfl hP
 ·exact num _ _ _ rfl hP
 ·exact num _ _ _ rfl hP
 ·exact num _ _ _ rfl hP
 ·have hz : Lb.dX.lookup ("takes" : Str) = some none := rfl
  have he : G3 (.str ("takes" : Str)) (.str ("takes" : Str)) w = some true := by rw [DM (by decide +kernel) (by decide +kernel)]; decide +kernel
  have hB : P (.bl (vU d)) w := hP
  simp only [Lb.dQ, Lb.jJ, t5, aBy hz, U2 he, Option.isSome_none, K6 e, eT, bJ, fU, y6, NK, E3, yH, FF, IX, MC, EM, z9, EC, zR, ES, y7, T_C, T_V, Q3, aAs, OP, aAW, aBA, FV, zE, QT, OY, QZ, OI, GJ, EY, yU, BK, O8, aBm, OD, N8, nR, FW, QY, rN, l5, CS, zA, vS, rZ, IV, aBr, Y6, ZX, XI, FX, NB, kJ, tN, Q4, EN, E8, FL, bV, dm, dn, List.set_cons_zero, List.set_cons_succ, cf, cz, aN, true_and, and_true, DU, GO, E9, YY, zN, xX, vL, EW, BC, OQ, QB, IT, v9, QH, tH, ae, bg, aa, ay, bq, Bool.true_eq_false, ite_true, ite_false, reduceCtorEq]
  cases d <;> exact hB
 ·have hz : Lb.dX.lookup ("ties" : Str) = some none := rfl
  have he : G3 (.str ("ties" : Str)) (.str ("takes" : Str)) w = some false := by rw [DM (by decide +kernel) (by decide +kernel)]; decide +kernel
  simp only [Lb.dQ, Lb.jJ, t5, aBy hz, U2 he, Option.isSome_none, eT, bJ, fU, y6, NK, E3, yH, FF, IX, MC, EM, z9, EC, zR, ES, y7, T_C, T_V, Q3, aAs, OP, aAW, aBA, FV, zE, QT, OY, QZ, OI, GJ, EY, yU, BK, O8, aBm, OD, N8, nR, FW, QY, rN, l5, CS, zA, vS, rZ, IV, aBr, Y6, ZX, XI, FX, NB, kJ, tN, Q4, EN, E8, FL, bV, dm, dn, List.set_cons_zero, List.set_cons_succ, cf, cz, aN, true_and, and_true, DU, GO, E9, YY, zN, xX, vL, EW, BC, OQ, QB, IT, v9, QH, tH, ae, bg, aa, ay, bq, Bool.true_eq_false, ite_true, ite_false, reduceCtorEq]
  exact aFB (n := 4) (lk k) e hP
 ·exact num _ _ _ rfl hP
theorem seq_eq {a b : MS} {σ σ1 : Sg} {w w1 : W} (h : T (a σ w) fun f u => f = .nx σ1 ∧ u = w1) : aI a b σ w = b σ1 w1 := by
 obtain ⟨g, u, e, e1, e2⟩ := h.ex
 subst e1
 subst e2
 unfold aI
 rw [e]
 rfl
theorem GZ {d : D} (h : fZ d = true) : ∃ r0 rest, d = .tup (.tup r0 :: rest) ∧ 1 ≤ r0.length ∧ r0.length ≤ 6 ∧ rest.length ≤ 3 := by
 cases d <;> first | (simp [fZ] at h; done) | skip
 rename_i xs
 simp only [fZ, ao, ak, au, Bool.not_eq_true'] at h
 obtain ⟨⟨h1, h2⟩, h3, h4, -⟩ := h
 cases xs with
 | nil => simp at h1
 | cons x xs =>
  have h5 := h3 x (bc ..)
  cases x <;> first | (simp [A6] at h5; done) | skip
  rename_i ys
  simp [A6] at h5
  simp [cA] at h4
  refine ⟨ys, xs, rfl, ?_, h5, by simp at h2; omega⟩
  cases ys with
  | nil => exact absurd rfl h4
  | cons => simp
def WW (f : Fd) : List (Key × D) := (items f).map fun p => (.inr p.1, p.2)
def CG (f : Fd) : List (Key × D) := [(.inr "ties", f.ti), (.inr "hosts", f.hs)]
def OJ (f : Fd) (p q : Nat) (s13 s14 : Option D) : Sg := [some (.ref p), some f.r, some f.ev, some f.lo, some f.sl, some f.be, some f.ga, some f.ho, some f.ta, some f.ti, some f.hs, some (gS f), some (.ref q), s13, s14]
def WD : MS := (dN (bU (cW (aJ (dQ k) 3 aN (aA (aB 13) (aA (aB 14) (aA (aP c5 (aA (aD a9 (aB 1) (eC (.int 0))) aE)) aE)))))) (AB k.bL ("field" : Str) (aB 13)) bC)
def O7 : MS := (fX (vF (aB 12)) (bY 2 (aK (a7 13) (aK (a7 14) bW))) (WD k))
def aBE : MS := (aI (c9 k.aO ("ranks" : Str) (aB 0) (aB 1))
 (aI (c9 k.aO ("every" : Str) (aB 0) (aB 2))
 (aI (c9 k.aO ("lost" : Str) (aB 0) (aB 3))
 (aI (c9 k.aO ("slow" : Str) (aB 0) (aB 4))
 (aI (c9 k.aO ("bears" : Str) (aB 0) (aB 11))
 (aI (c9 k.aO ("gap" : Str) (aB 0) (aB 6))
 (aI (c9 k.aO ("hold" : Str) (aB 0) (aB 7))
 (aI (c9 k.aO ("takes" : Str) (aB 0) (aB 8))
 (aI (c9 k.aO ("ties" : Str) (aB 0) (aB 9))
 (c9 k.aO ("hosts" : Str) (aB 0) (aB 10)))))))))))
def UY : MS := (dN (bU (cW (aJ (fG k) 1 aN (aA (aB 1) aE)))) (AB k.bL ("field" : Str) (eC (.str ("ranks" : Str)))) bC)
def aFV (rest : MS) : MS := (aI (aT (eIf (bH (aD isM (aB 5) (eC .non))) (aB 3) (aB 5)) (a7 11))
 (aI (aT (GG (dJ (eC (.str ("every" : Str))) (aB 2) (dJ (eC (.str ("lost" : Str))) (aB 3) (dJ (eC (.str ("slow" : Str))) (aB 4) (dJ (eC (.str ("bears" : Str))) (aB 11) (dJ (eC (.str ("gap" : Str))) (aB 6) (dJ (eC (.str ("hold" : Str))) (aB 7) (dJ (eC (.str ("takes" : Str))) (aB 8) C2)))))))) (a7 12))
 (aI (cY (dO "dict" SS (aB 12) (aA (GG (dJ (eC (.str ("ties" : Str))) (aB 9) (dJ (eC (.str ("hosts" : Str))) (aB 10) C2))) aE))) rest)))
theorem V7 : mG k = aI (UY k) (aFV (aI (O7 k) (aBE k))) := rfl
def wI (w : W) (f : Fd) : W := w ++ [.dK (WW f), .dK (CG f)]
theorem aAE {rest : MS} : aFV rest [some (.ref p), some f.r, some f.ev, some f.lo, some f.sl, some f.be, some f.ga, some f.ho, some f.ta, some f.ti, some f.hs, none, none, none, none] w = rest (OJ f p w.length none none) (wI w f) := by
 unfold aFV
 refine (seq_eq (σ1 := [some (.ref p), some f.r, some f.ev, some f.lo, some f.sl, some f.be, some f.ga, some f.ho, some f.ta, some f.ti, some f.hs, some (gS f), none, none, none]) (w1 := w) ?_).trans ?_
 ·simp only [FX, zY, ae, aa, reduceCtorEq]
  unfold gS
  cases f.be.isNon <;> first | rfl | exact ⟨rfl, rfl⟩
 refine (seq_eq (σ1 := OJ f p w.length none none) (w1 := w ++ [.dK [(.inr "every", f.ev), (.inr "lost", f.lo), (.inr "slow", f.sl), (.inr "bears", gS f), (.inr "gap", f.ga), (.inr "hold", f.ho), (.inr "takes", f.ta)]]) ?_).trans ?_
 ·simp only [ZU, KQ, SG, zY, ae, aa, reduceCtorEq]
  exact ⟨_, rfl, ah rfl, rfl, rfl⟩
 refine seq_eq (σ1 := OJ f p w.length none none) (w1 := wI w f) ?_
 obtain ⟨w1, e1⟩ : ∃ w1, w1 = w ++ [MO.dK [((.inr "every" : Key), f.ev), (.inr "lost", f.lo), (.inr "slow", f.sl), (.inr "bears", gS f), (.inr "gap", f.ga), (.inr "hold", f.ho), (.inr "takes", f.ta)]] := ⟨_, rfl⟩
 have l1 : w1.length = w.length + 1 := by rw [e1]; simp
 have h1 : w1[w.length]? = some (.dK [(.inr "every", f.ev), (.inr "lost", f.lo), (.inr "slow", f.sl), (.inr "bears", gS f), (.inr "gap", f.ga), (.inr "hold", f.ho), (.inr "takes", f.ta)]) := by rw [e1, bp (bx _)]; simp
 have ty1 : tyD (.ref w.length) w1 = some "dict" := by simp only [tyD, h1]
 rw [← e1]
 simp only [OJ, ZU, KQ, SG, ty1, zY, ae, aa, reduceCtorEq]
 refine ⟨CG f, rfl, ah rfl, ?_⟩
 have mg2 : mH [] (CG f) = CG f := rfl
 rw [mg2]
 have h2 : (w1 ++ [MO.dK (CG f)])[w.length]? = some (.dK [(.inr "every", f.ev), (.inr "lost", f.lo), (.inr "slow", f.sl), (.inr "bears", gS f), (.inr "gap", f.ga), (.inr "hold", f.ho), (.inr "takes", f.ta)]) := by rw [av (by omega)]; exact h1
 have h3 : (w1 ++ [MO.dK (CG f)])[w1.length]? = some (.dK (CG f)) := by rw [bp (bx _)]; simp
 rw [aFe h2 h3]
 refine ⟨⟨by omega, by rw [sizeLine_eq]; simp [CG]⟩, ?_⟩
 try simp only [zY, ae, aa, reduceCtorEq]
 show _ = _
 rw [e1, wI, cj, List.set_append_right _ _ (bx _), Nat.sub_self]
 rfl
def Y1 : List Str := ["every", "lost", "slow", "bears", "gap", "hold", "takes", "ties", "hosts"]
theorem ZH {z : Str} {i : Nat} (h : (items f)[i]? = some (z, d)) : z ∈ Y1 := by
 have m := cb h
 simp only [items, bh, bw, dc, Prod.mk.injEq] at m
 unfold Y1
 rcases m with m | m | m | m | m | m | m | m | m <;> (rw [m.1]; decide)
theorem aAk (ok : zD f) {z : Str} {i : Nat} (h : (items f)[i]? = some (z, d)) : jW 6 d = true := by
 have m := cb h
 have bo : jW 6 (gS f) = true := by
  unfold gS
  split
  ·exact ok _ (by simp [bG])
  ·exact ok _ (by simp [bG])
 simp only [items, bh, bw, dc, Prod.mk.injEq] at m
 rcases m with m | m | m | m | m | m | m | m | m <;> (rw [m.2]; first | exact bo | exact ok _ (by simp [bG]))
theorem xsI : ((WW f).map fun p => D.tup [gG p.1, p.2]) = (items f).map fun p => D.tup [.str p.1, p.2] := by
 unfold WW
 rw [du]
 rfl
theorem L7 {q i : Nat} {z : Str} (ok : zD f) (hr : fZ f.r = true) (hx : (items f)[i]? = some (z, d)) {Q : Bool → W → Prop} (hQ : Q (gQ (kW f.r) z d) w) :
  T (cW (aJ (dQ k) 3 aN (aA (aB 13) (aA (aB 14) (aA (aP c5 (aA (aD a9 (aB 1) (eC (.int 0))) aE)) aE)))) (OJ f p q (some (.str z)) (some d)) w) Q := by
 obtain ⟨r0, rest, er, -⟩ := GZ hr
 have ew : kW f.r = r0.length := by rw [er]; rfl
 rw [ew] at hQ
 have af := fun (P : D → W → Prop) (hP : P (.bl (gQ r0.length z d)) w) => aCB k (P := P) (ZH hx) (aAk ok hx) hP
 simp only [OJ, er, yC, at0, aj, bu, zY, ae, aa, reduceCtorEq]
 refine af _ ?_
 simp only [zY, ae, aa, reduceCtorEq]
 exact hQ
def wL (w : W) (f : Fd) : W := (wI w f).set w.length (.dF (WW f))
theorem aDx (ok : zD f) (hr : fZ f.r = true) (hb : ∀ q ∈ items f, gQ (kW f.r) q.1 q.2 = true) (hP : ∀ s13 s14, PF (.nx (OJ f p w.length s13 s14)) (wL w f)) : T (O7 k (OJ f p w.length none none) (wI w f)) PF := by
 have hq : (wI w f)[w.length]? = some (.dK (WW f)) := by unfold wI; rw [bp (bx _)]; simp
 unfold O7
 have v12 : T (aB 12 (OJ f p w.length none none) (wI w f)) = fun PP => PP (.ref w.length) (wI w f) := by
  funext PP
  unfold T
  rfl
 rw [vL, EL, v12]
 simp only [V2 hq, xsI]
 refine Lb.EA (it := ⟨(items f).map fun p => D.tup [.str p.1, p.2], always⟩) (fun i σ w' => w' = wL w f ∧ ∃ s13 s14, σ = OJ f p w.length s13 s14) (fun _ _ _ _ => trivial) ⟨rfl, _, _, rfl⟩ (fun i x σ w' hx hI => ?_) (fun σ w' hI => ?_)
 ·obtain ⟨rfl, s13, s14, rfl⟩ := hI
  rw [cu] at hx
  obtain ⟨⟨z, d⟩, h1, rfl⟩ := aq.mp hx
  have hg := hb _ (cb h1)
  simp only [OJ, zY, ae, aa, reduceCtorEq]
  unfold WD
  rw [yH, nR]
  refine L7 k ok hr h1 ?_
  rw [hg]
  simp only [ay, zY, ae, aa, reduceCtorEq]
  exact ⟨rfl, _, _, rfl⟩
 ·obtain ⟨rfl, s13, s14, rfl⟩ := hI
  exact hP _ _
theorem aBb (ok : zD f) (hr : fZ f.r = true) {z : Str} (hb : ((items f).find? fun q => !gQ (kW f.r) q.1 q.2).map Prod.fst = some z) (hP : PX ⟨.ref k.bL, some [(("field" : Str), .str z)]⟩ (wL w f)) : TX (O7 k (OJ f p w.length none none) (wI w f)) PX := by
 have hq : (wI w f)[w.length]? = some (.dK (WW f)) := by unfold wI; rw [bp (bx _)]; simp
 obtain ⟨⟨z', d⟩, hb2, rfl⟩ := aq.mp hb
 obtain ⟨h1, n, hn, h2, h3⟩ := List.find?_eq_some_iff_getElem.mp hb2
 have v12 : T (aB 12 (OJ f p w.length none none) (wI w f)) = fun PP => PP (.ref w.length) (wI w f) := by
  funext PP
  unfold T
  rfl
 unfold O7
 refine aFh ?_
 rw [EL, v12]
 simp only [V2 hq, xsI]
 refine aB3 (it := ⟨(items f).map fun p => D.tup [.str p.1, p.2], always⟩) (fun i σ w' => w' = wL w f ∧ ∃ s13 s14, σ = OJ f p w.length s13 s14) n (by simpa using hn) (fun _ _ _ _ => trivial) ⟨rfl, _, _, rfl⟩ (fun i x σ w' hi hx hI => ?_) (fun x σ w' hx hI => ?_)
 ·obtain ⟨rfl, s13, s14, rfl⟩ := hI
  rw [cu] at hx
  obtain ⟨⟨z, d⟩, h1, rfl⟩ := aq.mp hx
  have hg := h3 i hi
  have e1 := (ai.mp h1).2
  rw [e1] at hg
  simp only [Bool.not_not] at hg
  simp only [OJ, zY, ae, aa, reduceCtorEq]
  unfold WD
  rw [yH, nR]
  refine L7 k ok hr h1 ?_
  rw [hg]
  simp only [ay, zY, ae, aa, reduceCtorEq]
  exact ⟨rfl, _, _, rfl⟩
 ·obtain ⟨rfl, s13, s14, rfl⟩ := hI
  rw [cu] at hx
  obtain ⟨⟨z, d⟩, h4, rfl⟩ := aq.mp hx
  have e1 := (ai.mp h4).2
  rw [h2] at e1
  cases e1
  simp only [OJ, zY, ae, aa, reduceCtorEq]
  unfold WD
  refine aDR ?_
  rw [nR]
  refine L7 k ok hr h4 ?_
  rw [h1]
  simp only [ae]
  refine OL ?_
  simp only [zY, ae, aa, reduceCtorEq]
  exact hP
def BA (f : Fd) : List (Str × D) := [("ranks", f.r), ("every", f.ev), ("lost", f.lo), ("slow", f.sl), ("bears", gS f), ("gap", f.ga), ("hold", f.ho), ("takes", f.ta), ("ties", f.ti), ("hosts", f.hs)]
theorem aCS {q : Nat} {s13 s14 : Option D} (hp : w[p]? = some (.ins k.aO [])) (hP : ∀ s, PF (.nx s) (w.set p (.ins k.aO (BA f)))) : T (aBE k (OJ f p q s13 s14) w) PF := by
 have lp4 : p < w.length := (ai.mp hp).1
 unfold aBE
 rw [bJ]
 refine pP hp rfl rfl (ah rfl) ?_
 rw [fU]
 rw [bJ]
 refine pP (bf lp4) rfl rfl (ah rfl) ?_
 rw [fU, List.set_set]
 rw [bJ]
 refine pP (bf lp4) rfl rfl (ah rfl) ?_
 rw [fU, List.set_set]
 rw [bJ]
 refine pP (bf lp4) rfl rfl (ah rfl) ?_
 rw [fU, List.set_set]
 rw [bJ]
 refine pP (bf lp4) rfl rfl (ah rfl) ?_
 rw [fU, List.set_set]
 rw [bJ]
 refine pP (bf lp4) rfl rfl (ah rfl) ?_
 rw [fU, List.set_set]
 rw [bJ]
 refine pP (bf lp4) rfl rfl (ah rfl) ?_
 rw [fU, List.set_set]
 rw [bJ]
 refine pP (bf lp4) rfl rfl (ah rfl) ?_
 rw [fU, List.set_set]
 rw [bJ]
 refine pP (bf lp4) rfl rfl (ah rfl) ?_
 rw [fU, List.set_set]
 refine pP (bf lp4) rfl rfl (ah rfl) ?_
 rw [List.set_set]
 exact hP _
theorem find_none (h : fJ f = none) : fZ f.r = true ∧ ∀ q ∈ items f, gQ (kW f.r) q.1 q.2 = true := by
 unfold fJ at h
 split at h
 ·rename_i hr
  refine ⟨hr, fun q hq => ?_⟩
  rw [Option.map_eq_none_iff, List.find?_eq_none] at h
  simpa using h q hq
 ·cases h
theorem aDL : atI (bG f) 0 = some f.r := jL (j := 0) rfl
theorem aED : atI (bG f) 1 = some f.ev := jL (j := 1) rfl
theorem aB1 : atI (bG f) 2 = some f.lo := jL (j := 2) rfl
theorem aFP : atI (bG f) 3 = some f.sl := jL (j := 3) rfl
theorem ZL : atI (bG f) 4 = some f.be := jL (j := 4) rfl
theorem aFg : atI (bG f) 5 = some f.ga := jL (j := 5) rfl
theorem aFA : atI (bG f) 6 = some f.ho := jL (j := 6) rfl
theorem aEI : atI (bG f) 7 = some f.ta := jL (j := 7) rfl
theorem aFl : atI (bG f) 8 = some f.ti := jL (j := 8) rfl
theorem aEx : atI (bG f) 9 = some f.hs := jL (j := 9) rfl
theorem aHA : begin gD (aW k ([D.ref p] ++ [f.r]) [f.hs, f.ti, f.ta, f.ho, f.ga, f.be, f.sl, f.lo, f.ev]) = [some (.ref p), some f.r, some f.ev, some f.lo, some f.sl, some f.be, some f.ga, some f.ho, some f.ta, some f.ti, some f.hs, none, none, none, none] := rfl
structure Tl (w : W) (d : D) (f : Fd) : Prop where
 ix : ∀ (i : Int) (x : D), atI (bG f) i = some x → ∀ P : D → W → Prop, T (a9 d (.int i) w) P = P x w
 alt : d = .lst (bG f) ∨ ∃ q, d = .ref q ∧ w[q]? = some (.lst (bG f))
theorem SE : Tl w (.lst (bG f)) f := ⟨fun i x h P => by
 have : a9 (.lst (bG f)) (.int i) w = .ok x w := by simp only [a9, U1, h]
 rw [this, bV], .inl rfl⟩
theorem YW {q : Nat} (hq : w[q]? = some (.lst (bG f))) : Tl w (.ref q) f := ⟨fun i x h P => by
 have : a9 (.ref q) (.int i) w = .ok x w := by simp only [a9, hq, U1, h]
 rw [this, bV], .inr ⟨q, rfl, hq⟩⟩
theorem Tl.ext (tl : Tl w d f) (x : jH w w') : Tl w' d f := by
 rcases tl.alt with rfl | ⟨q, rfl, hq⟩
 ·exact SE
 ·exact YW (by rw [x.at_ q (ai.mp hq).1]; exact hq)
theorem aF7 (tl : Tl w d f) (ok : zD f) (hg : fJ f = none) (hP : ∀ w', jH w w' → w'[w.length]? = some (.ins k.aO (BA f)) → P (.ref w.length) w') : T (K01.gY k [d] w) P := by
 obtain ⟨hr, hb⟩ := find_none hg
 unfold K01.gY K01.jO
 rw [eT, aGI]
 simp only [BK, tl.ix 0 _ aDL, tl.ix 1 _ aED, tl.ix 2 _ aB1, tl.ix 3 _ aFP, tl.ix 4 _ ZL, tl.ix 5 _ aFg, tl.ix 6 _ aFA, tl.ix 7 _ aEI, tl.ix 8 _ aFl, tl.ix 9 _ aEx, zY, ae, aa, reduceCtorEq]
 rw [aBW]
 have hp : (w ++ [MO.ins k.aO []])[w.length]? = some (.ins k.aO []) := by rw [bp (bx _)]; simp
 obtain ⟨w0, e0⟩ : ∃ w0, w0 = w ++ [MO.ins k.aO []] := ⟨_, rfl⟩
 have l0 : w0.length = w.length + 1 := by rw [e0]; simp
 rw [← e0] at hp ⊢
 unfold jR
 rw [V7, eT]
 have bI : begin gD (aW k ([D.ref w.length] ++ [f.r]) [f.hs, f.ti, f.ta, f.ho, f.ga, f.be, f.sl, f.lo, f.ev]) = _ := aHA k
 simp only [l7] at bI ⊢
 rw [bI, bJ]
 unfold UY
 rw [yH, nR]
 simp only [KY, zY, ae, aa, reduceCtorEq]
 refine MD (n := 4) (lk k) (by omega) (ok _ (by simp [bG])) ?_
 rw [hr]
 simp only [ay, zY, ae, aa, reduceCtorEq]
 rw [aAE, bJ]
 refine aDx k ok hr hb fun s13 s14 => ?_
 rw [fU]
 have hp4 : (wL w0 f)[w.length]? = some (.ins k.aO []) := by
  unfold wL wI
  rw [az (by omega), av (by omega)]
  exact hp
 refine aCS k hp4 fun s => ?_
 have l4 : (wL w0 f).length = w.length + 3 := by unfold wL wI; rw [di, cq, l0]; rfl
 refine hP _ ⟨by rw [di]; omega, fun i hi => ?_⟩ (bf (by omega))
 rw [az (by omega)]
 unfold wL wI
 rw [az (by omega), av (by omega), e0, av hi]
theorem aCp {m : MF} {C : Addr} {n j : Nat} {gd : List D → List D → List D} {ma mk : MA} {σ : Sg} (h : T (ma σ w) fun xs w1 => T (mk σ w1) fun zs w2 => (xs.length = n ∧ zs.length = j) ∧ TX (m (gd ([.ref w2.length] ++ xs) zs) (w2 ++ [.ins C []])) PX) : TX (xD C m n j gd ma mk σ w) PX :=
 TX.bind (h.mono fun xs w1 _ q => TX.bind (q.mono fun zs w2 _ ⟨e, q2⟩ => by
  rw [if_pos e]
  exact TX.iQ q2))
theorem aFt (tl : Tl w d f) (ok : zD f) {z : Str} (hg : fJ f = some z) (hP : ∀ w', jH w w' → PX ⟨.ref k.bL, some [(("field" : Str), .str z)]⟩ w') : TX (K01.gY k [d] w) PX := by
 unfold K01.gY K01.jO
 refine ZN (aDm (aCp ?_))
 rw [aGI]
 simp only [tl.ix 0 _ aDL, tl.ix 1 _ aED, tl.ix 2 _ aB1, tl.ix 3 _ aFP, tl.ix 4 _ ZL, tl.ix 5 _ aFg, tl.ix 6 _ aFA, tl.ix 7 _ aEI, tl.ix 8 _ aFl, tl.ix 9 _ aEx, zY, ae, aa, reduceCtorEq]
 obtain ⟨w0, e0⟩ : ∃ w0, w0 = w ++ [MO.ins k.aO []] := ⟨_, rfl⟩
 have l0 : w0.length = w.length + 1 := by rw [e0]; simp
 have x0 : jH w w0 := by rw [e0]; exact jH.refl.app _
 rw [← e0]
 unfold jR
 rw [V7]
 refine ZN ?_
 have bI : begin gD (aW k ([D.ref w.length] ++ [f.r]) [f.hs, f.ti, f.ta, f.ho, f.ga, f.be, f.sl, f.lo, f.ev]) = _ := aHA k
 simp only [l7] at bI ⊢
 rw [bI]
 unfold fJ at hg
 split at hg
 case isFalse hr =>
  cases hg
  refine WB ?_
  unfold UY
  refine aDR ?_
  rw [nR]
  simp only [KY, zY, ae, aa, reduceCtorEq]
  refine MD (n := 4) (lk k) (by omega) (ok _ (by simp [bG])) ?_
  rw [Bool.not_eq_true] at hr
  rw [hr]
  simp only [bq, zY, ae, aa, reduceCtorEq]
  refine OL ?_
  simp only [zY, ae, aa, reduceCtorEq]
  exact hP _ x0
 case isTrue hr =>
 refine aE5 ?_
 unfold UY
 rw [yH, nR]
 simp only [KY, zY, ae, aa, reduceCtorEq]
 refine MD (n := 4) (lk k) (by omega) (ok _ (by simp [bG])) ?_
 rw [hr]
 simp only [ay, Fl.nx.injEq, bu, zY, ae, aa, reduceCtorEq]
 rw [aAE]
 refine WB (aBb k ok hr hg (hP _ ⟨?_, fun i hi => ?_⟩))
 ·unfold wL wI
  rw [di, cq]
  omega
 ·unfold wL wI
  rw [az (by omega), av (by omega)]
  exact x0.at_ i hi
def aBR : Option Str → D
 | some z => .str z
 | none => .non
def SI (f : Fd) : Nat → D → Fd
 | 0, d => { f with r := d }
 | 1, d => { f with ev := d }
 | 2, d => { f with lo := d }
 | 3, d => { f with sl := d }
 | 4, d => { f with be := d }
 | 5, d => { f with ga := d }
 | 6, d => { f with ho := d }
 | 7, d => { f with ta := d }
 | 8, d => { f with ti := d }
 | 9, d => { f with hs := d }
 | _, _ => f
theorem lt10 {j : Nat} (hj : j < 10) : j = 0 ∨ j = 1 ∨ j = 2 ∨ j = 3 ∨ j = 4 ∨ j = 5 ∨ j = 6 ∨ j = 7 ∨ j = 8 ∨ j = 9 := by omega
theorem aAc {j : Nat} (ok : zD f) (e : jW 6 d = true) : zD (SI f j d) := by
 have o : ∀ x ∈ bG f, jW 6 x = true := ok
 simp only [bG, bh, bw, dc, forall_eq_or_imp, forall_eq] at o
 obtain ⟨o0, o1, o2, o3, o4, o5, o6, o7, o8, o9⟩ := o
 intro x hx
 by_cases hj : j < 10
 ·rcases lt10 hj with rfl | rfl | rfl | rfl | rfl | rfl | rfl | rfl | rfl | rfl <;> (simp only [SI, bG, bh, bw, dc] at hx; rcases hx with rfl | rfl | rfl | rfl | rfl | rfl | rfl | rfl | rfl | rfl <;> assumption)
 ·have : SI f j d = f := by
   unfold SI
   split <;> first | rfl | omega
  rw [this] at hx
  exact ok x hx
theorem Q7 {h : Int} : gQ h ("every" : Str) d = aM 1 5 d := rfl
theorem UX {h : Int} : gQ h ("lost" : Str) d = aM 0 3 d := rfl
theorem WO {h : Int} : gQ h ("slow" : Str) d = aM 1 4 d := rfl
theorem QJ {h : Int} : gQ h ("bears" : Str) d = aM 0 3 d := rfl
theorem aAT {h : Int} : gQ h ("gap" : Str) d = aM 0 3 d := rfl
theorem VO {h : Int} : gQ h ("hold" : Str) d = aM 0 20 d := rfl
theorem QU {h : Int} : gQ h ("takes" : Str) d = vU d := rfl
theorem WQ {h : Int} : gQ h ("ties" : Str) d = lT h d := rfl
theorem PM {h : Int} : gQ h ("hosts" : Str) d = aM 0 4 d := rfl
structure Gd (f : Fd) : Prop where
 ok : zD f
 r : fZ f.r = true
 ev : aM 1 5 f.ev = true
 lo : aM 0 3 f.lo = true
 sl : aM 1 4 f.sl = true
 be : aM 0 3 (gS f) = true
 ga : aM 0 3 f.ga = true
 ho : aM 0 20 f.ho = true
 ta : vU f.ta = true
 ti : lT (kW f.r) f.ti = true
 hs : aM 0 4 f.hs = true
theorem Gd.first (g : Gd f) : fJ f = none := by
 unfold fJ
 rw [if_pos g.r, Option.map_eq_none_iff, List.find?_eq_none]
 intro q hq
 simp only [items, bh, bw, dc] at hq
 rcases hq with rfl | rfl | rfl | rfl | rfl | rfl | rfl | rfl | rfl
 ·simp only [Q7, g.ev, ay, bg, not_false_eq_true]
 ·simp only [UX, g.lo, ay, bg, not_false_eq_true]
 ·simp only [WO, g.sl, ay, bg, not_false_eq_true]
 ·simp only [QJ, g.be, ay, bg, not_false_eq_true]
 ·simp only [aAT, g.ga, ay, bg, not_false_eq_true]
 ·simp only [VO, g.ho, ay, bg, not_false_eq_true]
 ·simp only [QU, g.ta, ay, bg, not_false_eq_true]
 ·simp only [WQ, g.ti, ay, bg, not_false_eq_true]
 ·simp only [PM, g.hs, ay, bg, not_false_eq_true]
def uO (f : Fd) : List D := [f.r, f.ev, f.lo, f.sl, gS f, f.ga, f.ho, f.ta, f.ti, f.hs]
theorem aGL {z : Str} {d : D} (h : w[p]? = some (.ins k.aO (BA f))) (hz : (BA f).lookup z = some d) : T (rH k.aO z (.ref p) w) P = P d w := by
 rw [aAK h, hz]
 simp
theorem OE (h : w[p]? = some (.ins k.aO (BA f))) (hP : P (.tup (uO f)) w) : T (K01.lP k [.ref p] w) P := by
 unfold K01.lP K01.pE
 rw [eT, aIC, bJ]
 have o := fun (z : Str) (d : D) (hz : (BA f).lookup z = some d) (P : D → W → Prop) => aGL k (P := P) h hz
 simp only [o "ranks" f.r rfl, o "every" f.ev rfl, o "lost" f.lo rfl, o "slow" f.sl rfl, o "bears" (gS f) rfl, o "gap" f.ga rfl, o "hold" f.ho rfl, o "takes" f.ta rfl, o "ties" f.ti rfl, o "hosts" f.hs rfl, BC, zY, ae, aa, reduceCtorEq]
 have e : dZ [D.lst ([f.r, f.ev, f.lo, f.sl, gS f, f.ga] ++ [f.ho, f.ta, f.ti, f.hs])] w = .ok (.tup (uO f)) w := rfl
 rw [e, bV]
 exact hP
theorem AY {v : Int} (h : v ≤ 1000) : jW 6 (.int v) = true := by
 simp only [jW, ak]
 omega
theorem cO.ext {r c b : Nat} (d : cO w r c b) (x : jH w w') : cO w' r c b := by
 obtain ⟨ne, cells, sm, a, h1, h2, h3, h4⟩ := d
 refine ⟨ne, cells, sm, a, ?_, ?_, h3, h4⟩
 ·rw [x.at_ _ (ai.mp h1).1]; exact h1
 ·rw [x.at_ _ (ai.mp h2).1]; exact h2
theorem aFT {b : Bool} : T (x7 [.bl b] w) P = P (.int (if b = true then 1 else 0)) w := by unfold T; cases b <;> rfl
def S5 : MS := (aI (aT (eI (aA (aP dZ (aA (aB 5) aE)) (aA (aD bS (eC (.int 1)) (aJ (aU k) 2 aN (aA (aB 0) (aA (eC (.int 5)) aE)))) (aA (aJ (aU k) 2 aN (aA (aB 0) (aA (eC (.int 4)) aE))) (aA (aD bS (eC (.int 1)) (aJ (aU k) 2 aN (aA (aB 0) (aA (eC (.int 4)) aE)))) aE))))) (a7 9))
 (aI (aT (aD EE (aB 9) (eI (aA (aJ (gB k) 2 aN (aA (aB 0) (aA (eI (aA (eC .non) (aA (eC (.int 0)) (aA (eC (.int 1)) (aA (eC (.int 2)) (aA (eC (.int 3)) aE)))))) aE))) (aA (aJ (aU k) 2 aN (aA (aB 0) (aA (eC (.int 4)) aE))) aE)))) (a7 9))
 (aI (cY (dO "list" dA (aB 9) (aA (aJ (gB k) 2 aN (aA (aB 0) (aA (eI (aA (eC (.int 0)) (aA (eC (.int 9)) (aA (eC (.int 10)) (aA (eC (.int 20)) (aA (aJ (aU k) 2 aN (aA (aB 0) (aA (eC (.int 21)) aE))) aE)))))) aE))) aE)))
 (bE (aD UQ (aB 9) (eI (aA (aD gA (aJ (aU k) 2 aN (aA (aB 0) (aA (eC (.int 2)) aE))) (eC (.int 1))) (aA (aB 8) (aA (aJ (aU k) 2 aN (aA (aB 0) (aA (eC (.int 5)) aE))) aE)))))))))
def aBw (rest : MS) : MS := (aI (aT q9 (a7 6)) (aI (fX (eZ kO (aA (aD a9 (eI (aA (aJ (aU k) 2 aN (aA (aB 0) (aA (eC (.int 7)) aE))) (aA (eC (.int 24)) aE))) (aB 1)) aE)) (a7 7) GL) (aI (aT (aP dZ (aA (aP lO (aA (b6 (vI (aB 6)) [12] (a7 12) cD (aD bS (aB 12) (bQ (aA (aD a9 (aB 6) (aB 12)) aE)))) aE)) aE)) (a7 8)) rest)))
theorem aCc : lS k = aI (aT (bQ (aA (aD a9 (eI (aA (aD bS (eC (.int 1)) (aJ (aU k) 2 aN (aA (aB 0) (aA (eC (.int 6)) aE)))) (aA (eC (.int 6)) aE))) (aB 1)) (aA (aD a9 (eI (aA (aD bS (eC (.int 1)) (aJ (aU k) 2 aN (aA (aB 0) (aA (eC (.int 4)) aE)))) (aA (eC (.int 4)) aE))) (aB 1)) aE))) (bY 2 (aK (a7 2) (aK (a7 3) bW)))) (aI (aT (aJ (gB k) 2 aN (aA (aB 0) (aA (eI (aA (eC (.int 1)) (aA (eC (.int 8)) (aA (eC (.int 9)) (aA (eC (.int 10)) aE))))) aE))) (a7 4)) (aI (aT (b6 (eZ kO (aA (aB 3) aE)) [10] (a7 10) cD (aP dZ (aA (b6 (eZ kO (aA (aB 2) aE)) [11] (a7 11) cD (aD bS (aB 4) (aJ (aU k) 2 aN (aA (aB 0) (aA (aD kH (eC (.int 13)) (aB 4)) aE))))) aE))) (a7 5)) (aBw k (S5 k)))) := rfl
theorem Y5 {gi : Int} (hg : gi = 0 ∨ gi = 1) {x m : Int} (x0 : 0 ≤ x) (x1 : x < m) : ∃ H : Nat, atI [D.int (1 + x), .int m] gi = some (.int (H : Nat)) ∧ 1 ≤ H ∧ (H : Int) ≤ m := by
 rcases hg with rfl | rfl
 ·exact ⟨(1 + x).toNat, by rw [at0, show ((1 + x).toNat : Int) = 1 + x by omega], by omega, by omega⟩
 ·refine ⟨m.toNat, ?_, by omega, by omega⟩
  rw [show ((m.toNat : Nat) : Int) = m by omega]
  exact jL (j := 1) rfl
theorem aGa {t : Int × Int × Int} (h : t.1 ≤ 1000 ∧ t.2.1 ≤ 1000 ∧ t.2.2 ≤ 1000) : jW 5 (fN t) = true := by
 obtain ⟨a, c, d⟩ := t
 simp only [fN, jW, List.all_cons, List.all_nil, cf, cz, Bool.and_true, ao, ak]
 simp only at h
 omega
theorem aBK {H N : Nat} {ds : List D} {us : List (Int × Int × Int)} {e l s g hs x : Int} {be ho : D} {bt : Bool} (hr : V9 H N ds) (n1 : 1 ≤ N) (n4 : N ≤ 4) (H1 : 1 ≤ H) (H6 : H ≤ 6) (hc : DZ H us) (e0 : 0 ≤ e) (e1 : e < 5) (l0 : 0 ≤ l) (l1 : l < 4) (s0 : 0 ≤ s) (s1 : s < 4) (hb : be ∈ ([.non, .int 0, .int 1, .int 2, .int 3] : List D)) (g0 : 0 ≤ g) (g1 : g < 4) (x0 : 0 ≤ x) (x1 : x < 21) (hh : ho ∈ ([.int 0, .int 9, .int 10, .int 20, .int x] : List D)) (h0 : 0 ≤ hs) (h1 : hs < 5) :
  Gd ⟨.tup ds, .int (1 + e), .int l, .int (1 + s), be, .int g, ho, .bl bt, .tup ((us.mergeSort FO).map fN), .int hs⟩ := by
 obtain ⟨r1, r2, r0, rest, er, el⟩ := aDC hr n1 n4 H1 H6
 obtain ⟨c1, c2, c3⟩ := hc
 have ew : kW (.tup ds) = (H : Int) := by rw [er]; show ((r0.length : Nat) : Int) = _; omega
 have ob : jW 6 be = true ∧ (be = .non ∨ aM 0 3 be = true) := by
  simp only [bh, bw, dc] at hb
  rcases hb with rfl | rfl | rfl | rfl | rfl
  ·exact ⟨rfl, .inl rfl⟩
  ·exact ⟨rfl, .inr rfl⟩
  ·exact ⟨rfl, .inr rfl⟩
  ·exact ⟨rfl, .inr rfl⟩
  ·exact ⟨rfl, .inr rfl⟩
 have wi : ∀ {lo hi v : Int}, lo ≤ v → v ≤ hi → aM lo hi (.int v) = true := fun a b => by simp [aM, a, b]
 have oh : jW 6 ho = true ∧ aM 0 20 ho = true := by
  simp only [bh, bw, dc] at hh
  rcases hh with rfl | rfl | rfl | rfl | rfl
  ·exact ⟨rfl, rfl⟩
  ·exact ⟨rfl, rfl⟩
  ·exact ⟨rfl, rfl⟩
  ·exact ⟨rfl, rfl⟩
  ·exact ⟨AY (by omega), wi (by omega) (by omega)⟩
 have ot : jW 6 (.tup ((us.mergeSort FO).map fN)) = true := by
  have e5 : (us.mergeSort FO).length = us.length := List.length_mergeSort ..
  simp only [jW, ao, au, ak, cg, e5]
  refine ⟨fun y hy => ?_, by omega⟩
  obtain ⟨t, ht, rfl⟩ := dh.mp hy
  have ht := c3 t (List.mem_mergeSort.mp ht)
  exact aGa ⟨by omega, by omega, by omega⟩
 refine ⟨fun d hd => ?_, r1, wi (by omega) (by omega), wi (by omega) (by omega), wi (by omega) (by omega), ?_, wi (by omega) (by omega), oh.2, rfl, ?_, wi (by omega) (by omega)⟩
 ·simp only [bG, bh, bw, dc] at hd
  rcases hd with rfl | rfl | rfl | rfl | rfl | rfl | rfl | rfl | rfl | rfl
  ·exact r2
  ·exact AY (by omega)
  ·exact AY (by omega)
  ·exact AY (by omega)
  ·exact ob.1
  ·exact AY (by omega)
  ·exact oh.1
  ·rfl
  ·exact ot
  ·exact AY (by omega)
 ·unfold gS
  rcases ob.2 with rfl | h
  ·exact wi (by omega) (by omega)
  ·cases be <;> first | exact h | (simp [aM] at h; done)
 ·show lT (kW (.tup ds)) _ = true
  rw [ew]
  exact QW c1 c2 c3
theorem aCl {r c b H N : Nat} {ds : List D} {us : List (Int × Int × Int)} {s1 s2 s3 s4 s6 s7 s9 s10 s11 s12 : Option D} (dk : cO w r c (b + 20)) (hr : V9 H N ds) (n1 : 1 ≤ N) (n4 : N ≤ 4) (H1 : 1 ≤ H) (H6 : H ≤ 6) (hc : DZ H us) (hP : ∀ f w', Gd f → cO w' r c b → PF (.rt (.lst (bG f))) w') : T (S5 k [some (.ref r), s1, s2, s3, s4, some (.lst ds), s6, s7, some (.tup ((us.mergeSort FO).map fN)), s9, s10, s11, s12] w) PF := by
 obtain ⟨ti, eti⟩ : ∃ ti, ti = D.tup ((us.mergeSort FO).map fN) := ⟨_, rfl⟩
 rw [← eti]
 unfold S5
 rw [bJ]
 simp only [qO, ZD, aFS, zY, ae, aa, reduceCtorEq]
 refine eB (b := b + 19) dk (by omega) (by omega) fun e w1 e0 e1 d1 k1 => ?_
 simp only [l5, zY, ae, aa, reduceCtorEq]
 refine eB (b := b + 18) d1 (by omega) (by omega) fun l w2 l0 l1 d2 k2 => ?_
 try simp only [zY, ae, aa, reduceCtorEq]
 refine eB (b := b + 17) d2 (by omega) (by omega) fun s w3 z0 z1 d3 k3 => ?_
 simp only [l5, zY, ae, aa, reduceCtorEq]
 rw [bJ]
 simp only [zY, ae, aa, reduceCtorEq]
 refine K2 (b := b + 16) d3 (by simp) (by simp) fun be w4 hb d4 k4 => ?_
 try simp only [zY, ae, aa, reduceCtorEq]
 refine eB (b := b + 15) d4 (by omega) (by omega) fun g w5 g0 g1 d5 k5 => ?_
 try simp only [zY, ae, aa, reduceCtorEq]
 rw [aCz (xs := _) (zs := _) rfl rfl]
 refine ⟨by rw [sizeLine_eq]; simp, ?_⟩
 obtain ⟨L, eL⟩ : ∃ L, L = ([D.tup ds, .int (1 + e), .int l, .int (1 + s)] ++ [be, .int g] : List D) := ⟨_, rfl⟩
 have lL : L.length = 6 := by rw [eL]; rfl
 obtain ⟨q, eq⟩ : ∃ q, q = w5.length := ⟨_, rfl⟩
 rw [← eL, ← eq]
 obtain ⟨w6, e6⟩ : ∃ w6, w6 = w5 ++ [MO.lst L] := ⟨_, rfl⟩
 rw [← e6]
 have hq : w6[q]? = some (.lst L) := by rw [e6, eq, bp (bx _)]; simp
 have d6 : cO w6 r c (b + 15) := cO.ext d5 (by rw [e6]; exact jH.refl.app _)
 obtain ⟨nr, nc⟩ : q ≠ r ∧ q ≠ c := by
  obtain ⟨_, cells, sm, a, h1, h2, _⟩ := d5
  have a1 := (ai.mp h1).1
  have a2 := (ai.mp h2).1
  omega
 clear e6 eq
 rw [bJ]
 simp only [tyL hq, zY, ae, aa, reduceCtorEq]
 refine eB (b := b + 14) d6 (by omega) (by omega) fun x w7 x0 x1 d7 k7 => ?_
 try simp only [zY, ae, aa, reduceCtorEq]
 refine K2 (b := b + 13) d7 (by simp) (by simp) fun ho w8 hh d8 k8 => ?_
 have hq8 : w8[q]? = some (.lst L) := by rw [k8.2 q nr nc, k7.2 q nr nc]; exact hq
 simp only [tyL hq8, Q8 hq8, zY, ae, aa, reduceCtorEq]
 refine ⟨by rw [sizeLine_eq]; omega, ?_⟩
 obtain ⟨w9, e9⟩ : ∃ w9, w9 = w8.set q (.lst (L ++ [ho])) := ⟨_, rfl⟩
 rw [← e9]
 have hq9 : w9[q]? = some (.lst (L ++ [ho])) := by rw [e9]; exact bf (ai.mp hq8).1
 have d9 : cO w9 r c (b + 13) := by rw [e9]; exact pQ d8 nr nc
 clear e9
 refine eB (b := b + 12) d9 (by omega) (by omega) fun bt w10 bt0 bt1 d10 k10 => ?_
 simp only [wY, m3, aj, bu, zY, ae, aa, reduceCtorEq]
 refine eB (b := b + 11) d10 (by omega) (by omega) fun hs w11 h0 h1 d11 k11 => ?_
 have hq11 : w11[q]? = some (.lst (L ++ [ho])) := by rw [k11.2 q nr nc, k10.2 q nr nc]; exact hq9
 have ar : ∀ (ys : List D) (P : D → W → Prop), ys.length ≤ 10 → T (Pc.UQ (.ref q) (.lst ys) w11) P = P (.lst (L ++ [ho] ++ ys)) w11 := fun ys P hy => by
  have e1 : CZ (.ref q) w11 = some (L ++ [ho]) := by simp only [CZ, hq11]
  have e2 : CZ (.lst ys) w11 = some ys := rfl
  have : Pc.UQ (.ref q) (.lst ys) w11 = .ok (.lst (L ++ [ho] ++ ys)) w11 := by
   simp only [Pc.UQ, e1, e2, if_pos (show (L ++ [ho]).length + ys.length ≤ sizeLine by rw [sizeLine_eq, cq]; simp; omega)]
  rw [this, bV]
 try simp only [zY, ae, aa, reduceCtorEq]
 rw [ar _ _ (by simp)]
 rw [eL, eti]
 exact hP ⟨.tup ds, .int (1 + e), .int l, .int (1 + s), be, .int g, ho, .bl (bt == 1), .tup ((us.mergeSort FO).map fN), .int hs⟩ w11 (aBK hr n1 n4 H1 H6 hc e0 e1 l0 l1 z0 z1 hb g0 g1 x0 x1 hh h0 h1) (d11.less (by omega))
theorem aEP {r c b : Nat} {gi : Int} (dk : cO w r c (b + 300)) (hg : gi = 0 ∨ gi = 1) (hP : ∀ f w', Gd f → cO w' r c b → P (.lst (bG f)) w') : T (K01.lV k [.ref r, .int gi] w) P := by
 unfold K01.lV
 rw [eT, aIh, aCc, bJ]
 simp only [qO, zY, ae, aa, reduceCtorEq]
 refine eB (b := b + 299) dk (by omega) (by omega) fun x w1 x0 x1 d1 k1 => ?_
 obtain ⟨H, eH, H1, H6⟩ := Y5 hg x0 x1
 simp only [l5, v9, tH, eH, aj, bu, zY, ae, aa, reduceCtorEq]
 refine eB (b := b + 298) d1 (by omega) (by omega) fun y w2 y0 y1 d2 k2 => ?_
 obtain ⟨N, eN, N1, N4⟩ := Y5 hg y0 y1
 simp only [l5, v9, tH, eN, aj, bu, zY, ae, aa, reduceCtorEq]
 rw [bJ]
 simp only [ZD, zY, ae, aa, reduceCtorEq]
 refine K2 (b := b + 297) d2 (by simp) (by simp) fun lo w3 hlo d3 k3 => ?_
 obtain ⟨low, rfl, l1, l12⟩ : ∃ low : Int, lo = .int low ∧ 1 ≤ low ∧ low ≤ 10 := by
  simp only [bh, bw, dc] at hlo
  rcases hlo with rfl | rfl | rfl | rfl
  ·exact ⟨_, rfl, by omega, by omega⟩
  ·exact ⟨_, rfl, by omega, by omega⟩
  ·exact ⟨_, rfl, by omega, by omega⟩
  ·exact ⟨_, rfl, by omega, by omega⟩
 try simp only [zY, ae, aa, reduceCtorEq]
 rw [bJ]
 simp only [AI (n := (N : Int)) (by omega) (by omega), zY, ae, aa, reduceCtorEq]
 refine ⟨szz _ (by rw [u9]; omega), ?_⟩
 have eN : ((N : Nat) : Int).toNat = N := by omega
 have eH0 : ((H : Nat) : Int).toNat = H := by omega
 rw [eN]
 refine UZ (it := jK 0 N) (fun i acc w' => cO w' r c (b + 200 + 6 * (4 - i)) ∧ V9 H i acc) (fun _ _ _ _ => trivial) ⟨d3.less (by omega), rfl, fun d hd => nomatch hd⟩ (fun i x acc w4 hx hI => ?_) (fun acc w4 hI => ?_)
 ·obtain ⟨d4, hl, hr⟩ := hI
  obtain ⟨hz, rfl⟩ := D1 hx
  simp only [eO, AI (n := (H : Int)) (by omega) (by omega), zY, ae, aa, reduceCtorEq]
  refine ⟨szz _ (by rw [u9]; omega), ?_⟩
  rw [eH0]
  refine aER (eh := aB 0) (b := b + 200 + 6 * (4 - (i + 1))) l1 (by omega) (d4.less (by omega)) (by omega) (fun x w P => by simp only [eO, zY, ae, aa, reduceCtorEq]) (fun x w P => by simp only [eO, zY, ae, aa, reduceCtorEq]) fun ns w5 d5 hn hns => ?_
  simp only [aFS]
  refine ⟨d5, by simp [hl], fun d hd => ?_⟩
  rcases ck.mp hd with h | h
  ·exact hr d h
  ·rw [da.mp h]
   exact ⟨ns, rfl, hn, hns⟩
 ·obtain ⟨d4, hr⟩ := hI
  rw [u9] at hr
  unfold aBw
  try simp only [zY, ae, aa, reduceCtorEq]
  rw [bJ]
  simp only [aFR, zY, ae, aa, reduceCtorEq]
  obtain ⟨q, eq⟩ : ∃ q, q = w4.length := ⟨_, rfl⟩
  obtain ⟨w5, e5⟩ : ∃ w5, w5 = w4 ++ [MO.dT []] := ⟨_, rfl⟩
  rw [← e5, ← eq]
  have hq : w5[q]? = some (.dT (cX [])) := by rw [e5, eq, bp (bx _)]; simp [cX]
  have d5 : cO w5 r c (b + 200) := cO.ext (d4.less (by omega)) (by rw [e5]; exact jH.refl.app _)
  obtain ⟨nr, nc⟩ : q ≠ r ∧ q ≠ c := by
   obtain ⟨_, cells, sm, a, h1, h2, _⟩ := d4
   have a1 := (ai.mp h1).1
   have a2 := (ai.mp h2).1
   omega
  clear e5 eq
  rw [bJ]
  simp only [qO, zY, ae, aa, reduceCtorEq]
  refine eB (b := b + 199) d5 (by omega) (by omega) fun m w6 m0 m1 d6 k6 => ?_
  obtain ⟨M, eM, M24⟩ : ∃ M : Nat, atI [D.int m, .int 24] gi = some (.int (M : Nat)) ∧ M ≤ 24 := by
   rcases hg with rfl | rfl
   ·exact ⟨m.toNat, by rw [at0, show ((m.toNat : Nat) : Int) = m by omega], by omega⟩
   ·exact ⟨24, rfl, by omega⟩
  have hq6 : w6[q]? = some (.dT (cX [])) := by rw [k6.2 q nr nc]; exact hq
  simp only [v9, tH, eM, aj, bu, AI (n := (M : Int)) (by omega) (by omega), zY, ae, aa, reduceCtorEq]
  have eM0 : ((M : Nat) : Int).toNat = M := by omega
  rw [eM0]
  refine Lb.EA (it := jK 0 M) (fun i σ w' => cO w' r c (b + 100 + 3 * (24 - i)) ∧ (∃ us, w'[q]? = some (.dT (cX us)) ∧ DZ H us) ∧ ∃ s7, σ = [some (.ref r), some (.int gi), some (.int (H : Nat)), some (.int (N : Nat)), some (.int low), some (.lst acc), some (.ref q), s7, none, none, none, none, none]) (fun _ _ _ _ => trivial)
   ⟨d6.less (by omega), ⟨[], hq6, List.Pairwise.nil, by simp, fun t ht => nomatch ht⟩, _, rfl⟩ (fun i x σ w7 hx hI => ?_) (fun σ w7 hI => ?_)
  ·obtain ⟨d7, ⟨us, hq7, hc⟩, s7, rfl⟩ := hI
   obtain ⟨hz, rfl⟩ := D1 hx
   have hz : i < M := hz
   simp only [zY, ae, aa, reduceCtorEq]
   refine aEG (b := b + 100 + 3 * (24 - (i + 1))) (d7.less (by omega)) hq7 nr nc hc H1 (by omega) fun w8 us' d8 hq8 hc8 => ?_
   exact ⟨d8, ⟨us', hq8, hc8⟩, _, rfl⟩
  ·obtain ⟨d7, ⟨us, hq7, hc⟩, s7, rfl⟩ := hI
   try simp only [fU, zY, ae, aa, reduceCtorEq]
   rw [bJ, IX]
   refine YR (e6 := aB 6) (v := 12) hq7 hc.1 hc.2.1 (fun w P => by unfold T; rfl) (fun x w P => by unfold T; rfl) (fun x w P => by unfold T; rfl) ?_
   try simp only [zY, ae, aa, reduceCtorEq]
   refine aCl k (b := b) ((pQ d7 nr nc).less (by omega)) hr N1 (by omega) H1 (by omega) hc fun f w' gf df => ?_
   exact hP f w' gf df
end
section
variable (k : K01.bN) {w w' : W} {P : D → W → Prop} {PF : Fl → W → Prop} {f : Fd} {p n : Nat} {d : D}
theorem aGC (x0 x1 x2 : D) : begin iN [x0, x1, x2] = [some x0, some x1, some x2] := rfl
theorem aHB (x0 : D) : begin jA [x0] = [some x0, none, none] := rfl
theorem aGS (x0 x1 : D) : begin iI [x0, x1] = [some x0, some x1, none, none] := rfl
theorem qD (lo hi : Int) (e : jW n d = true) : T (K01.bR k [d, .int lo, .int hi] w) P = P (.bl (aM lo hi d)) w := by
 unfold K01.bR K01.lC
 rw [eT, aGC]
 simp only [JF e, K6 e, zY, ae, aa, reduceCtorEq]
 cases d <;> simp only [aM, zY, ae, aa, reduceCtorEq]
 rename_i i
 by_cases h : lo ≤ i <;> simp [h]
def OA : D → Bool
 | .tup xs => (decide (1 ≤ xs.length) && decide (xs.length ≤ 4)) && (xs.all fA && (xs.all (fun r => (cA r).length == ((xs.map cA).headD []).length && (decide (1 ≤ (cA r).length) && decide ((cA r).length ≤ 6))) && xs.all fun r => (cA r).all (aM 1 12)))
 | _ => false
theorem V4 : fZ d = OA d := by
 cases d <;> first | rfl | skip
 rename_i xs
 cases xs with
 | nil => rfl
 | cons x rest =>
  simp only [fZ, OA]
  congr 1
  rw [Bool.eq_iff_iff]
  have hd : ((x :: rest).map cA).headD [] = cA x := rfl
  rw [hd]
  simp only [ao, au, ak, beq_iff_eq, Bool.not_eq_true', List.mem_flatMap]
  have r6 : ∀ y : D, A6 y = true ↔ fA y = true ∧ (cA y).length ≤ 6 := fun y => by cases y <;> simp [A6, fA, cA]
  constructor
  ·rintro ⟨h1, h2, h3, h4⟩
   have n1 : 1 ≤ (cA x).length := by
    cases hx : cA x with
    | nil => rw [hx] at h2; cases h2
    | cons => simp
   exact ⟨fun y hy => ((r6 y).mp (h1 y hy)).1, fun y hy => ⟨h3 y hy, by have := h3 y hy; omega, ((r6 y).mp (h1 y hy)).2⟩, fun y hy z hz => h4 z ⟨y, hy, hz⟩⟩
  ·rintro ⟨h1, h2, h3⟩
   refine ⟨fun y hy => (r6 y).mpr ⟨h1 y hy, (h2 y hy).2.2⟩, ?_, fun y hy => (h2 y hy).1, fun z ⟨y, hy, hz⟩ => h3 y hy z hz⟩
   have := (h2 x (bc ..)).2.1
   cases hx : cA x with
   | nil => rw [hx] at this; simp at this
   | cons => rfl
theorem L5 {p : D → Bool} : ∀ {ys : List D}, (ys.filter fun y => !p y).isEmpty = ys.all p
 | [] => rfl
 | y :: ys => by
  have := L5 (p := p) (ys := ys)
  cases h : p y <;> simp [h, this]
theorem J6 {ys : List D} : T (sL (.lst ys) (.lst []) w) P = P (.bl (!ys.isEmpty)) w := by
 rw [aC3, P8]
 simp
theorem ZE (e : jW (n + 2) d = true) (hP : P (.bl (fZ d)) w) : T (K01.jE k [d] w) P := by
 rw [V4] at hP
 unfold K01.jE K01.mI
 rw [eT, aHB, bJ]
 simp only [uQ e, zY, ae, aa, reduceCtorEq]
 cases d <;> simp only [fA, OA, zY, ae, aa, reduceCtorEq] at hP ⊢ <;> first | exact hP | skip
 rename_i xs
 obtain ⟨e1, e2⟩ := nH e
 try simp only [yC, zY, ae, aa, reduceCtorEq]
 by_cases c1 : 1 ≤ xs.length ∧ xs.length ≤ 4
 case neg =>
  have hf : (decide (1 ≤ xs.length) && decide (xs.length ≤ 4)) = false := by
   rw [Bool.and_eq_false_iff]
   simp only [decide_eq_false_iff_not]
   omega
  rw [hf, Bool.false_and] at hP
  by_cases c2 : 1 ≤ xs.length
  ·have i1 : decide ((1 : Int) ≤ (xs.length : Nat)) = true := by simp; omega
   have i2 : decide (((xs.length : Nat) : Int) ≤ 4) = false := by simp; omega
   simp only [i1, i2, bq, zY, ae, aa, reduceCtorEq]
   exact hP
  ·have i1 : decide ((1 : Int) ≤ (xs.length : Nat)) = false := by simp; omega
   simp only [i1, bq, zY, ae, aa, reduceCtorEq]
   exact hP
 have i1 : decide ((1 : Int) ≤ (xs.length : Nat)) = true := by simp; omega
 have i2 : decide (((xs.length : Nat) : Int) ≤ 4) = true := by simp; omega
 have j1 : decide (1 ≤ xs.length) = true := by simp [c1.1]
 have j2 : decide (xs.length ≤ 4) = true := by simp [c1.2]
 simp only [i1, i2, j1, j2, Bool.true_and, ay, yM, zY, ae, aa, reduceCtorEq] at hP ⊢
 refine ⟨szz _ (by omega), ?_⟩
 refine L8 (it := ⟨xs, always⟩) xs (fun x => x) (fun x => x) (fun x => !fA x) (by simp) trivial (fun x hx => ?_) ?_
 ·simp only [eO, uQ (e1 x hx), zY, ae, aa, reduceCtorEq]
  exact fun _ => trivial
 rw [List.map_id']
 simp only [J6, L5, zY, ae, aa, reduceCtorEq]
 cases c2 : xs.all fA with
 | false =>
  rw [c2, Bool.false_and] at hP
  simp only [bq, zY, ae, aa, reduceCtorEq]
  exact hP
 | true =>
 rw [c2, Bool.true_and] at hP
 simp only [ay, zY, ae, aa, reduceCtorEq]
 rw [au] at c2
 obtain ⟨rs, rfl⟩ : ∃ rs : List (List D), xs = rs.map D.tup := by
  refine ⟨xs.map cA, ?_⟩
  rw [du]
  refine (List.map_id' xs).symm.trans (List.map_congr_left fun x hx => ?_)
  have := c2 x hx
  cases x <;> first | rfl | (simp [fA] at this; done)
 obtain ⟨r0, rest, rfl⟩ : ∃ r0 rest, rs = r0 :: rest := by
  cases rs with
  | nil => simp at c1
  | cons a b => exact ⟨a, b, rfl⟩
 have o1 : ∀ r ∈ r0 :: rest, ∀ x ∈ r, jW n x = true := fun r hr x hx => (nH (e1 (.tup r) (List.mem_map_of_mem hr))).1 x hx
 have o2 : ∀ r ∈ r0 :: rest, r.length ≤ 70000 := fun r hr => (nH (e1 (.tup r) (List.mem_map_of_mem hr))).2
 rw [show ((((r0 :: rest).map D.tup).map cA).headD []) = r0 from rfl] at hP
 rw [bJ]
 simp only [yM, zY, ae, aa, reduceCtorEq]
 refine ⟨by rw [sizeLine_eq]; simp at c1 ⊢; omega, ?_⟩
 refine L8 (it := ⟨(r0 :: rest).map D.tup, always⟩) ((r0 :: rest).map D.tup) (fun x => x) (fun x => x) (fun r => !((cA r).length == r0.length && (decide (1 ≤ (cA r).length) && decide ((cA r).length ≤ 6)))) (by simp) trivial (fun x hx => ?_) ?_
 ·obtain ⟨r, hr, rfl⟩ := dh.mp hx
  simp only [eO, yC, at0, cw, GR, cA, zY, ae, aa, reduceCtorEq]
  by_cases g1 : r.length = r0.length
  ·have b1 : ((r.length : Int) == (r0.length : Int)) = true := by rw [beq_iff_eq]; omega
   have b2 : (r.length == r0.length) = true := by rw [beq_iff_eq]; omega
   by_cases g2 : 1 ≤ r.length
   ·have b3 : decide ((1 : Int) ≤ (r.length : Nat)) = true := by simp; omega
    have b4 : decide (1 ≤ r.length) = true := by simp; omega
    have b5 : decide (((r.length : Nat) : Int) ≤ 6) = decide (r.length ≤ 6) := by rw [Bool.eq_iff_iff]; simp; omega
    simp only [b1, b2, b3, b4, b5, ay, Bool.true_and, zY, ae, aa, reduceCtorEq]
    simp [g2]
    rfl
   ·have b3 : decide ((1 : Int) ≤ (r.length : Nat)) = false := by rw [decide_eq_false_iff_not]; omega
    have b4 : decide (1 ≤ r.length) = false := by rw [decide_eq_false_iff_not]; exact g2
    simp only [b1, b2, b3, b4, ay, bq, Bool.true_and, Bool.false_and, zY, ae, aa, reduceCtorEq]
    simp [g2]
  ·have b1 : ((r.length : Int) == (r0.length : Int)) = false := by rw [dw]; omega
   have b2 : (r.length == r0.length) = false := by rw [dw]; exact g1
   simp only [b1, b2, bq, Bool.false_and, zY, ae, aa, reduceCtorEq]
   simp
 rw [List.map_id']
 simp only [J6, L5, zY, ae, aa, reduceCtorEq]
 cases c3 : ((r0 :: rest).map D.tup).all fun r => (cA r).length == r0.length && (decide (1 ≤ (cA r).length) && decide ((cA r).length ≤ 6)) with
 | false =>
  rw [c3, Bool.false_and] at hP
  simp only [bq, zY, ae, aa, reduceCtorEq]
  exact hP
 | true =>
 rw [c3, Bool.true_and] at hP
 simp only [ay, zY, ae, aa, reduceCtorEq]
 rw [bJ, vL]
 simp only [yM, zY, ae, aa, reduceCtorEq]
 refine Lb.aFq (it := ⟨(r0 :: rest).map D.tup, always⟩) (fun _ r => (cA r).all (aM 1 12)) (fun σ => ∃ s1 s2, σ = [some (.tup ((r0 :: rest).map D.tup)), s1, s2]) trivial ⟨_, _, rfl⟩ (fun i x σ hx ⟨s1, s2, e⟩ => ?_) ?_
 ·subst e
  obtain ⟨r, hr, rfl⟩ := dh.mp (cb hx)
  simp only [yM, cA, zY, ae, aa, reduceCtorEq]
  refine ⟨szz _ (by have := o2 r hr; omega), ?_⟩
  refine L8 (it := ⟨r, always⟩) r (fun x => x) (fun x => x) (fun x => !aM 1 12 x) (by simp) trivial (fun x hx => ?_) ?_
  ·simp only [eO, qD k 1 12 (o1 r hr x hx), zY, ae, aa, reduceCtorEq]
   exact fun _ => trivial
  rw [List.map_id']
  simp only [J6, L5, zY, ae, aa, reduceCtorEq]
  cases r.all (aM 1 12) with
  | false =>
   simp only [bq, zY, ae, aa, reduceCtorEq]
   (try exact ⟨rfl, rfl⟩)
  | true =>
   simp only [ay, zY, ae, aa, reduceCtorEq]
   exact ⟨_, rfl, _, _, rfl⟩
 ·have ea : ∀ (l : List D) (i : Nat), allI (fun _ r => (cA r).all (aM 1 12)) i l = l.all fun r => (cA r).all (aM 1 12) := by
   intro l
   induction l with
   | nil => intro i; rfl
   | cons a l ih => intro i; simp only [allI, ih, List.all_cons]
  rw [ea]
  cases c4 : ((r0 :: rest).map D.tup).all fun r => (cA r).all (aM 1 12) with
  | false =>
   rw [c4] at hP
   rw [if_neg (by decide)]
   simp only [Lb.Turn, zY, ae, aa, reduceCtorEq]
   exact hP
  | true =>
   rw [c4] at hP
   rw [if_pos rfl]
   rintro σ ⟨s1, s2, rfl⟩
   simp only [Lb.Turn, zY, ae, aa, reduceCtorEq]
   exact hP
def pK (h : Int) : Int × Int → List D → Bool
 | _, [] => true
 | p, x :: xs => jP h x && (HT.lexLt [p.1, p.2] [(numsOf x).1, (numsOf x).2] && pK h (numsOf x) xs)
theorem JP {h : Int} : ∀ (p : Int × Int) (xs : List D), pK h p xs = (xs.all (jP h) && nO (p :: xs.map numsOf))
 | _, [] => rfl
 | p, x :: xs => by
  simp only [pK, JP (numsOf x) xs, List.all_cons, cw, nO]
  cases jP h x <;> cases HT.lexLt [p.1, p.2] [(numsOf x).1, (numsOf x).2] <;> simp
theorem RX {h : Int} {x : D} (e : jP h x = true) : HT.lexLt [-1, -1] [(numsOf x).1, (numsOf x).2] = true := by
 obtain ⟨t, rfl⟩ := SY e
 have e1 : aM 0 (h - 1) (.int t.1) = true := by
  have e2 : (aM 0 (h - 1) (.int t.1) && (aM 0 9 (.int t.2.1) && aM 1 11 (.int t.2.2))) = true := e
  simp only [ao] at e2
  exact e2.1
 simp only [aM, ao, ak] at e1
 have n1 : numsOf (fN t) = (t.1, t.2.1) := rfl
 rw [n1]
 simp only [HT.lexLt_cons, HT.lexLt_nil_nil]
 have : (-1 : Int) < t.1 := by omega
 have n : ¬ (-1 : Int) = t.1 := by omega
 simp [this, n]
theorem aDz {h : Int} {xs : List D} : pK h (-1, -1) xs = (xs.all (jP h) && nO (xs.map numsOf)) := by
 rw [JP]
 cases xs with
 | nil => rfl
 | cons x xs =>
  cases e : jP h x with
  | false => simp [e]
  | true => simp only [cw, nO, RX e, Bool.true_and]
theorem aGJ {x y u v : Int} : Pc.lexLeI [x, y] [u, v] = !HT.lexLt [u, v] [x, y] := by
 simp only [HT.lexLt_cons, HT.lexLt_nil_nil]
 by_cases c1 : u = x
 ·subst c1
  by_cases c2 : v = y
  ·subst c2
   simp [Pc.lexLeI, Ob.lexAt]
  ·have c3 : ¬ y = v := fun e => c2 e.symm
   rcases Int.lt_or_gt_of_ne c2 with h | h
   ·have n1 : ¬ y ≤ v := by omega
    simp [Pc.lexLeI, Ob.lexAt, c2, c3, n1, h]
   ·have n1 : y ≤ v := by omega
    have n2 : ¬ v < y := by omega
    simp [Pc.lexLeI, Ob.lexAt, c2, c3, n1, n2]
 ·have c3 : ¬ x = u := fun e => c1 e.symm
  rcases Int.lt_or_gt_of_ne c1 with h | h
  ·have n1 : ¬ x ≤ u := by omega
   simp [Pc.lexLeI, Ob.lexAt, c1, c3, n1, h]
  ·have n1 : x ≤ u := by omega
   have n2 : ¬ u < x := by omega
   simp [Pc.lexLeI, Ob.lexAt, c1, c3, n1, n2]
theorem aD7 {a c l : D} : T (iZ (.tup [a, c, l]) none (some 2) w) P = P (.tup [a, c]) w := by
 have : iZ (.tup [a, c, l]) none (some 2) w = .ok (.tup [a, c]) w := rfl
 rw [this, bV]
theorem aIu {a c x y : Int} : T (leA (.tup [.int a, .int c]) (.tup [.int x, .int y]) w) P = P (.bl (!HT.lexLt [x, y] [a, c])) w := by
 have : leA (.tup [.int a, .int c]) (.tup [.int x, .int y]) w = .ok (.bl (Pc.lexLeI [a, c] [x, y])) w := rfl
 rw [this, bV, aGJ]
theorem aG5 {a c l : D} : atI [a, c, l] 0 = some a := rfl
theorem aHi {a c l : D} : atI [a, c, l] 1 = some c := rfl
theorem aHG {a c l : D} : atI [a, c, l] 2 = some l := rfl
def GL : MS := (aI (dN (eV (bU (cW (aP (gF gL) (aA (aB 3) (aA (eC (.ty "tuple")) aE))))) (eV (bH (aD sL (aP c5 (aA (aB 3) aE)) (eC (.int 3)))) (bU (cW (aJ (bR k) 3 aN (aA (aD a9 (aB 3) (eC (.int 0))) (aA (eC (.int 0)) (aA (aD kH (aB 1) (eC (.int 1))) aE)))))))) (bE (eC (.bl false))) bC)
 (aI (dN (eV (bU (cW (aJ (bR k) 3 aN (aA (aD a9 (aB 3) (eC (.int 1))) (aA (eC (.int 0)) (aA (eC (.int 9)) aE)))))) (eV (bU (cW (aJ (bR k) 3 aN (aA (aD a9 (aB 3) (eC (.int 2))) (aA (eC (.int 1)) (aA (eC (.int 11)) aE)))))) (bH (aD leA (m9 iZ (aB 3) cV (cK (eC (.int 2)))) (aB 2))))) (bE (eC (.bl false))) bC)
 (aT (m9 iZ (aB 3) cV (cK (eC (.int 2)))) (a7 2))))
theorem YD {h : Int} {x0 : D} {q : Int × Int} {x : D} (e : jW (n + 1) x = true)
  (h1 : jP h x = true → HT.lexLt [q.1, q.2] [(numsOf x).1, (numsOf x).2] = true → PF (.nx [some x0, some (.int h), some (.tup [.int (numsOf x).1, .int (numsOf x).2]), some x]) w)
  (h2 : (jP h x && HT.lexLt [q.1, q.2] [(numsOf x).1, (numsOf x).2]) = false → PF (.rt (.bl false)) w) :
  T (GL k [some x0, some (.int h), some (.tup [.int q.1, .int q.2]), some x] w) PF := by
 unfold GL
 rw [bJ]
 simp only [uQ e, zY, ae, aa, reduceCtorEq]
 cases x <;> simp only [fA, zY, ae, aa, reduceCtorEq] <;> first | exact h2 rfl | skip
 rename_i ys
 obtain ⟨e1, -⟩ := nH e
 try simp only [yC, GR, zY, ae, aa, reduceCtorEq]
 by_cases c : ys.length = 3
 case neg =>
  have i1 : (!(((ys.length : Nat) : Int) == 3)) = true := by
   have : ¬ ((ys.length : Nat) : Int) = 3 := by omega
   simpa using this
  rw [if_pos i1]
  refine h2 ?_
  have hf : jP h (.tup ys) = false := by
   unfold jP
   split
   ·rename_i a c' l e
    cases e
    exact absurd rfl c
   ·rfl
  rw [hf, Bool.false_and]
 obtain ⟨a, c', l, rfl⟩ : ∃ a c' l, ys = [a, c', l] := by
  match ys, c with
  | [a, c', l], _ => exact ⟨a, c', l, rfl⟩
 have ha := e1 a (by simp)
 have hc := e1 c' (by simp)
 have hl := e1 l (by simp)
 rw [if_neg (by simp)]
 have et : jP h (.tup [a, c', l]) = (aM 0 (h - 1) a && (aM 0 9 c' && aM 1 11 l)) := rfl
 simp only [CS, aG5, qD k _ _ ha, zY, ae, aa, reduceCtorEq]
 rw [et] at h1 h2
 cases b1 : aM 0 (h - 1) a with
 | false =>
  rw [b1] at h2
  simp only [bq, zY, ae, aa, reduceCtorEq]
  exact h2 rfl
 | true =>
 rw [b1] at h1 h2
 simp only [ay, zY, ae, aa, reduceCtorEq]
 rw [bJ]
 simp only [aHi, aHG, qD k _ _ hc, qD k _ _ hl, zY, ae, aa, reduceCtorEq]
 cases b2 : aM 0 9 c' with
 | false =>
  rw [b2] at h2
  simp only [bq, zY, ae, aa, reduceCtorEq]
  exact h2 rfl
 | true =>
 rw [b2] at h1 h2
 simp only [ay, zY, ae, aa, reduceCtorEq]
 cases b3 : aM 1 11 l with
 | false =>
  rw [b3] at h2
  simp only [bq, zY, ae, aa, reduceCtorEq]
  exact h2 rfl
 | true =>
 rw [b3] at h1 h2
 simp only [ay, aD7, zY, ae, aa, reduceCtorEq]
 cases a <;> first | (simp [aM] at b1; done) | skip
 cases c' <;> first | (simp [aM] at b2; done) | skip
 rename_i a c'
 have en : numsOf (.tup [.int a, .int c', l]) = (a, c') := rfl
 rw [en] at h1 h2
 simp only [aIu, zY, ae, aa, reduceCtorEq]
 cases b4 : HT.lexLt [q.1, q.2] [a, c'] with
 | false =>
  rw [b4] at h2
  simp only [bq, zY, ae, aa, reduceCtorEq]
  exact h2 rfl
 | true =>
 simp only [ay, aD7, zY, ae, aa, reduceCtorEq]
 exact h1 rfl b4
theorem IY {h : Int} {x0 : D} : ∀ (xs : List D) (q : Int × Int) (s3 : Option D), (∀ x ∈ xs, jW (n + 1) x = true) →
  (pK h q xs = true → ∀ s2 s3, PF (.nx [some x0, some (.int h), s2, s3]) w) → (pK h q xs = false → PF (.rt (.bl false)) w) →
  ∀ ys : List D, T (forL ⟨ys, always⟩ (a7 3) (GL k) xs [some x0, some (.int h), some (.tup [.int q.1, .int q.2]), s3] w) PF
 | [], q, s3, _, h1, _, ys => by
  rw [SM]
  exact ⟨trivial, h1 rfl _ _⟩
 | x :: xs, q, s3, hx, h1, h2, ys => by
  rw [sY]
  refine ⟨trivial, ?_⟩
  simp only [zY, ae, aa, reduceCtorEq]
  refine YD k (hx x (bc ..)) (fun t1 t2 => ?_) fun t => ?_
  ·simp only [Lb.Turn]
   have ec : pK h q (x :: xs) = pK h (numsOf x) xs := by simp only [pK, t1, t2, Bool.true_and]
   rw [ec] at h1 h2
   exact IY xs (numsOf x) _ (fun y hy => hx y (br _ hy)) h1 h2 ys
  ·simp only [Lb.Turn]
   refine h2 ?_
   simp only [pK]
   rw [← Bool.and_assoc, t, Bool.false_and]
theorem aB5 {h : Int} (e : jW (n + 2) d = true) (hP : P (.bl (lT h d)) w) : T (K01.iL k [d, .int h] w) P := by
 unfold K01.iL K01.lD
 rw [eT, aGS, bJ]
 simp only [uQ e, zY, ae, aa, reduceCtorEq]
 cases d <;> simp only [fA, lT, zY, ae, aa, reduceCtorEq] at hP ⊢ <;> first | exact hP | skip
 rename_i xs
 obtain ⟨e1, e2⟩ := nH e
 try simp only [yC, zY, ae, aa, reduceCtorEq]
 by_cases c1 : 6 < xs.length
 ·have i1 : decide (((xs.length : Nat) : Int) > 6) = true := by simp; omega
  have j1 : decide (6 < xs.length) = true := by simp [c1]
  simp only [i1, j1, ay, Bool.false_and, zY, ae, aa, reduceCtorEq] at hP ⊢
  exact hP
 have i1 : decide (((xs.length : Nat) : Int) > 6) = false := by simp; omega
 have j1 : decide (6 < xs.length) = false := by simp; omega
 rw [j1, ← aDz, bq, Bool.true_and] at hP
 simp only [i1, zY, ae, aa, reduceCtorEq]
 rw [bJ]
 simp only [zY, ae, aa, reduceCtorEq]
 rw [bJ, vL]
 simp only [yM, zY, ae, aa, reduceCtorEq]
 refine IY (n := n) k xs (-1, -1) none e1 (fun h s2 s3 => ?_) (fun h => ?_) xs
 ·rw [h] at hP
  simp only [Lb.Turn, zY, ae, aa, reduceCtorEq]
  exact hP
 ·rw [h] at hP
  simp only [Lb.Turn, zY, ae, aa, reduceCtorEq]
  exact hP
end
section
variable (k : K01.bN) {w w' : W} {P : D → W → Prop} {PF : Fl → W → Prop} {f : Fd} {p n : Nat} {d : D}
theorem aG4 (x0 : D) : begin nE [x0] = [some x0, none, none, none, none, none] := rfl
def fbQ (f : Fd) : Option Str :=
 if fZ f.r = true then
  if aM 1 5 f.ev = true then
   if aM 0 3 f.lo = true then
    if aM 1 4 f.sl = true then
     if (f.be.isNon || aM 0 3 f.be) = true then
      if aM 0 3 f.ga = true then
       if aM 0 20 f.ho = true then
        if vU f.ta = true then
         if lT (kW f.r) f.ti = true then
          if aM 0 4 f.hs = true then none else some "hosts"
         else some "ties"
        else some "takes"
       else some "hold"
      else some "gap"
     else some "bears"
    else some "slow"
   else some "lost"
  else some "every"
 else some "ranks"
theorem WA : fJ f = fbQ f := by
 unfold fJ fbQ
 split
 ·unfold items
  simp only [List.find?_cons, List.find?_nil, Q7, UX, WO, QJ, aAT, VO, QU, WQ, PM]
  cases aM 1 5 f.ev with
  | false => rfl
  | true =>
  cases hl : aM 0 3 f.lo with
  | false => rfl
  | true =>
  cases aM 1 4 f.sl with
  | false => rfl
  | true =>
  have hb : aM 0 3 (gS f) = (f.be.isNon || aM 0 3 f.be) := by
   unfold gS
   cases f.be.isNon with
   | true => simp [hl]
   | false => simp
  rw [hb]
  cases (f.be.isNon || aM 0 3 f.be) with
  | false => rfl
  | true =>
  cases aM 0 3 f.ga with
  | false => rfl
  | true =>
  cases aM 0 20 f.ho with
  | false => rfl
  | true =>
  cases vU f.ta with
  | false => rfl
  | true =>
  cases lT (kW f.r) f.ti with
  | false => rfl
  | true =>
  cases aM 0 4 f.hs <;> rfl
 ·rfl
def LD : List D := [.tup [.int 1, .int 5], .tup [.int 0, .int 3], .tup [.int 1, .int 4], .tup [.int 0, .int 3], .tup [.int 0, .int 3], .tup [.int 0, .int 20]]
def J4 : List D := [.str "every", .str "lost", .str "slow", .str "bears", .str "gap", .str "hold"]
def S9 : MS := (aI (aT (aD a9 (aB 1) (aB 3)) (bY 2 (aK (a7 4) (aK (a7 5) bW))))
 (dN (iD (eV (bH (aD sL (aB 3) (eC (.int 3)))) (bH (aD rS (aD a9 (aB 0) (eC (.int 4))) (eC .non)))) (bU (cW (aJ (bR k) 3 aN (aA (aD a9 (aB 0) (aD bS (aB 3) (eC (.int 1)))) (aA (aB 4) (aA (aB 5) aE))))))) (bE (aD a9 (aB 2) (aB 3))) bC))
theorem lB {i : Int} {lo hi : Int} {z : Str} {x : D} {s4 s5 : Option D} (tl : Tl w d f) (hs : atI LD i = some (.tup [.int lo, .int hi])) (hn : atI J4 i = some (.str z)) (hx : atI (bG f) (i + 1) = some x) (e : jW 6 x = true)
  (h1 : (!(i == 3) || !f.be.isNon) = true → aM lo hi x = false → PF (.rt (.str z)) w)
  (h2 : (!(!(i == 3) || !f.be.isNon) || aM lo hi x) = true → PF (.nx [some d, some (.lst LD), some (.lst J4), some (.int i), some (.int lo), some (.int hi)]) w) :
  T (S9 k [some d, some (.lst LD), some (.lst J4), some (.int i), s4, s5] w) PF := by
 unfold S9
 rw [bJ]
 simp only [hs, hn, GR, tl.ix 4 _ ZL, tl.ix _ _ hx, qD k _ _ e, kJ, aj, bu, zY, ae, aa, reduceCtorEq]
 cases c1 : (i == 3) with
 | false =>
  rw [c1] at h1 h2
  simp only [bq, zY, ae, aa, reduceCtorEq]
  cases c2 : aM lo hi x with
  | false =>
   simp only [bq, hn, aj, bu, zY, ae, aa, reduceCtorEq]
   exact h1 rfl c2
  | true =>
   simp only [ay, zY, ae, aa, reduceCtorEq]
   exact h2 (by rw [c2]; rfl)
 | true =>
  rw [c1] at h1 h2
  simp only [ay, zY, ae, aa, reduceCtorEq]
  cases c3 : f.be.isNon with
  | true =>
   rw [c3] at h2
   simp only [ay, zY, ae, aa, reduceCtorEq]
   exact h2 rfl
  | false =>
   rw [c3] at h1 h2
   simp only [bq, zY, ae, aa, reduceCtorEq]
   cases c2 : aM lo hi x with
   | false =>
    simp only [bq, hn, aj, bu, zY, ae, aa, reduceCtorEq]
    exact h1 rfl c2
   | true =>
    simp only [ay, zY, ae, aa, reduceCtorEq]
    exact h2 (by rw [c2]; rfl)
theorem aCC (e : jW n d = true) : T (gF gL [d, .ty "bool"] w) P = P (.bl (vU d)) w := by
 rw [K6 e]
 cases d <;> rfl
theorem aIn : (jK 0 (6 : Int).toNat).xs = [.int 0, .int 1, .int 2, .int 3, .int 4, .int 5] := rfl
theorem U3 (tl : Tl w d f) (ok : zD f) (hP : P (aBR (fJ f)) w) : T (K01.iE k [d] w) P := by
 have o : ∀ x ∈ bG f, jW 6 x = true := ok
 simp only [bG, bh, bw, dc, forall_eq_or_imp, forall_eq] at o
 obtain ⟨o0, o1, o2, o3, o4, o5, o6, o7, o8, o9⟩ := o
 rw [WA] at hP
 unfold fbQ at hP
 unfold K01.iE K01.qX
 rw [eT, aG4, bJ]
 have lr := fun (PP : D → W → Prop) (hPP : PP (.bl (fZ f.r)) w) => ZE (n := 4) k (w := w) (P := PP) o0 hPP
 simp only [tl.ix 0 _ aDL, aj, bu, zY, ae, aa, reduceCtorEq]
 refine lr _ ?_
 simp only [zY, ae, aa, reduceCtorEq]
 cases hr : fZ f.r with
 | false =>
  rw [hr, if_neg (by decide)] at hP
  simp only [bq, zY, ae, aa, reduceCtorEq]
  exact hP
 | true =>
 rw [hr, if_pos rfl] at hP
 simp only [ay, zY, ae, aa, reduceCtorEq]
 rw [bJ]
 simp only [zY, ae, aa, reduceCtorEq]
 rw [bJ]
 simp only [zY, ae, aa, reduceCtorEq]
 rw [bJ, vL]
 simp only [AI (n := 6) (by decide) (by decide), zY, ae, aa, reduceCtorEq]
 show T (forL (jK 0 (6 : Int).toNat) (a7 3) (S9 k) (jK 0 (6 : Int).toNat).xs [some d, some (.lst LD), some (.lst J4), none, none, none] w) _
 rw [aIn]
 rw [sY]
 refine ⟨trivial, ?_⟩
 simp only [zY, ae, aa, reduceCtorEq]
 refine lB k (i := 0) tl rfl rfl (show atI (bG f) (0 + 1) = some f.ev from aED) o1 (fun c0 c => ?_) (fun c => ?_)
 ·have c' : aM 1 5 f.ev = false := by exact c
  rw [c', if_neg (by decide)] at hP
  simp only [Lb.Turn, zY, ae, aa, reduceCtorEq]
  exact hP
 have c' : aM 1 5 f.ev = true := by simpa using c
 rw [c', if_pos rfl] at hP
 simp only [Lb.Turn]
 rw [sY]
 refine ⟨trivial, ?_⟩
 simp only [zY, ae, aa, reduceCtorEq]
 refine lB k (i := 1) tl rfl rfl (show atI (bG f) (1 + 1) = some f.lo from aB1) o2 (fun c0 c => ?_) (fun c => ?_)
 ·have c' : aM 0 3 f.lo = false := by exact c
  rw [c', if_neg (by decide)] at hP
  simp only [Lb.Turn, zY, ae, aa, reduceCtorEq]
  exact hP
 have c' : aM 0 3 f.lo = true := by simpa using c
 rw [c', if_pos rfl] at hP
 simp only [Lb.Turn]
 rw [sY]
 refine ⟨trivial, ?_⟩
 simp only [zY, ae, aa, reduceCtorEq]
 refine lB k (i := 2) tl rfl rfl (show atI (bG f) (2 + 1) = some f.sl from aFP) o3 (fun c0 c => ?_) (fun c => ?_)
 ·have c' : aM 1 4 f.sl = false := by exact c
  rw [c', if_neg (by decide)] at hP
  simp only [Lb.Turn, zY, ae, aa, reduceCtorEq]
  exact hP
 have c' : aM 1 4 f.sl = true := by simpa using c
 rw [c', if_pos rfl] at hP
 simp only [Lb.Turn]
 rw [sY]
 refine ⟨trivial, ?_⟩
 simp only [zY, ae, aa, reduceCtorEq]
 refine lB k (i := 3) tl rfl rfl (show atI (bG f) (3 + 1) = some f.be from ZL) o4 (fun c0 c => ?_) (fun c => ?_)
 ·have c' : (f.be.isNon || aM 0 3 f.be) = false := by simp only [c, Bool.or_false]; simpa using c0
  rw [c', if_neg (by decide)] at hP
  simp only [Lb.Turn, zY, ae, aa, reduceCtorEq]
  exact hP
 have c' : (f.be.isNon || aM 0 3 f.be) = true := by simpa using c
 rw [c', if_pos rfl] at hP
 simp only [Lb.Turn]
 rw [sY]
 refine ⟨trivial, ?_⟩
 simp only [zY, ae, aa, reduceCtorEq]
 refine lB k (i := 4) tl rfl rfl (show atI (bG f) (4 + 1) = some f.ga from aFg) o5 (fun c0 c => ?_) (fun c => ?_)
 ·have c' : aM 0 3 f.ga = false := by exact c
  rw [c', if_neg (by decide)] at hP
  simp only [Lb.Turn, zY, ae, aa, reduceCtorEq]
  exact hP
 have c' : aM 0 3 f.ga = true := by simpa using c
 rw [c', if_pos rfl] at hP
 simp only [Lb.Turn]
 rw [sY]
 refine ⟨trivial, ?_⟩
 simp only [zY, ae, aa, reduceCtorEq]
 refine lB k (i := 5) tl rfl rfl (show atI (bG f) (5 + 1) = some f.ho from aFA) o6 (fun c0 c => ?_) (fun c => ?_)
 ·have c' : aM 0 20 f.ho = false := by exact c
  rw [c', if_neg (by decide)] at hP
  simp only [Lb.Turn, zY, ae, aa, reduceCtorEq]
  exact hP
 have c' : aM 0 20 f.ho = true := by simpa using c
 rw [c', if_pos rfl] at hP
 simp only [Lb.Turn]
 rw [SM]
 refine ⟨trivial, ?_⟩
 simp only [zY, ae, aa, reduceCtorEq]
 rw [bJ]
 simp only [tl.ix 7 _ aEI, aCC o7, aj, bu, zY, ae, aa, reduceCtorEq]
 cases hb : vU f.ta with
 | false =>
  rw [hb, if_neg (by decide)] at hP
  simp only [bq, zY, ae, aa, reduceCtorEq]
  exact hP
 | true =>
 rw [hb, if_pos rfl] at hP
 simp only [ay, zY, ae, aa, reduceCtorEq]
 rw [bJ]
 obtain ⟨r0, rest, er, -⟩ := GZ hr
 have ew : kW f.r = r0.length := by rw [er]; rfl
 rw [ew] at hP
 have lc := fun (PP : D → W → Prop) (hPP : PP (.bl (lT r0.length f.ti)) w) => aB5 (n := 4) k (w := w) (P := PP) o8 hPP
 simp only [tl.ix 8 _ aFl, tl.ix 0 _ aDL, er, at0, yC, aj, bu, zY, ae, aa, reduceCtorEq]
 refine lc _ ?_
 simp only [zY, ae, aa, reduceCtorEq]
 cases ht : lT r0.length f.ti with
 | false =>
  rw [ht, if_neg (by decide)] at hP
  simp only [bq, zY, ae, aa, reduceCtorEq]
  exact hP
 | true =>
 rw [ht, if_pos rfl] at hP
 simp only [ay, zY, ae, aa, reduceCtorEq]
 simp only [tl.ix 9 _ aEx, qD k _ _ o9, aj, bu, zY, ae, aa, reduceCtorEq]
 cases hh : aM 0 4 f.hs with
 | false =>
  rw [hh, if_neg (by decide)] at hP
  simp only [zY, ae, aa, reduceCtorEq]
  exact hP
 | true =>
  rw [hh, if_pos rfl] at hP
  simp only [zY, ae, aa, reduceCtorEq]
  exact hP
end
section
variable (k : K01.bN) {w w' : W} {P : D → W → Prop} {PF : Fl → W → Prop} {PX : XD → W → Prop} {f : Fd} {p n : Nat} {d : D}
theorem aBz (x0 : D) : begin nC [x0] = [some x0, none, none] := rfl
theorem aHD (x0 : D) : begin gU [x0] = [some x0] := rfl
theorem aGX (x0 : D) : begin iH [x0] = [some x0, none, none, none] := rfl
theorem b7 {A B : Addr} (h : ¬ A = B) : (kX.o A == kX.o B) = false := by
 rw [dw]
 intro e
 injection e with e
 exact h e
theorem GX {A : Addr} {z : String} : (kX.o A == kX.b z) = false := by
 rw [dw]
 intro e
 cases e
theorem qU {K : KxT} {c : D} {x : XD} {r : Bool} {σ : Sg} (e : GV K c x = some r) : T (C0 K (eC c) x σ w) P = P (.bl r) w := by
 simp only [C0, eC, Res.bind, e]
 first | rw [bV] | rfl
def C1 : D := .lst [.bl true, .bl false, .bl false, .bl false, .bl false, .bl false, .bl true, .bl true, .bl false]
theorem aF3 {mb : XD → MS} {N : List Str} {x : XD} : T (Pc.UE mb N x w) P = T (mb x (List.replicate N.length none) w) fun f w1 => match f with
  | .nx _ => P .non w1
  | .rt d => P d w1
  | _ => False := by
 unfold Pc.UE
 rw [bK]
 congr 1
 funext f w1
 cases f <;> simp only [bV, aDU]
theorem NY {a c : List D} (h : a.length + c.length ≤ 1000) : T (E1 (.lst a) (.lst c) w) P = P (.lst (a ++ c)) w := by
 have : E1 (.lst a) (.lst c) w = .ok (.lst (a ++ c)) w := by
  simp only [E1, if_pos (show a.length + c.length ≤ sizeLine by rw [sizeLine_eq]; omega)]
 rw [this, bV]
theorem W8 (UC : Dis k) {v : D} : T (kG k ⟨.ref k.bL, some [(("field" : Str), v)]⟩ w) P = P C1 w := by
 have d0 := UC
 unfold Dis at d0
 simp only [List.nodup_cons, bh, bw, dc, not_or] at d0
 obtain ⟨⟨d1, d2, d3, d4, d5, d6⟩, ⟨d7, d8, d9, d10, d11⟩, ⟨d12, d13, d14, d15⟩, ⟨d16, d17, d18⟩, ⟨d19, d20⟩, d21, _⟩ := d0
 obtain ⟨x0, ex⟩ : ∃ x0 : XD, x0 = ⟨.ref k.bL, some [(("field" : Str), v)]⟩ := ⟨_, rfl⟩
 have kx1 : ∀ c, HC k k.bL c = [(kX.b "IndexError", false), (.o k.eU, true), (.o k.iU, false), (.o k.iX, false), (.o k.bL, true), (.o k.lH, false), (.o k.iV, false), (.o k.gN, false), (.b "ValueError", true)].lookup c := fun c => by
  unfold HC kxT
  simp
 have n1 := b7 d1; have n2 := b7 d2; have n3 := b7 d3; have n4 := b7 d4; have n5 := b7 d5; have n6 := b7 d6; have n7 := b7 d7
 have n8 := b7 d8; have n9 := b7 d9; have n10 := b7 d10; have n11 := b7 d11; have n12 := b7 d12; have n13 := b7 d13; have n14 := b7 d14
 have n15 := b7 d15; have n16 := b7 d16; have n17 := b7 d17; have n18 := b7 d18; have n19 := b7 d19; have n20 := b7 d20; have n21 := b7 d21
 have r1 := b7 (Ne.symm d1); have r2 := b7 (Ne.symm d2); have r3 := b7 (Ne.symm d3); have r4 := b7 (Ne.symm d4); have r5 := b7 (Ne.symm d5); have r6 := b7 (Ne.symm d6); have r7 := b7 (Ne.symm d7)
 have r8 := b7 (Ne.symm d8); have r9 := b7 (Ne.symm d9); have r10 := b7 (Ne.symm d10); have r11 := b7 (Ne.symm d11); have r12 := b7 (Ne.symm d12); have r13 := b7 (Ne.symm d13); have r14 := b7 (Ne.symm d14)
 have r15 := b7 (Ne.symm d15); have r16 := b7 (Ne.symm d16); have r17 := b7 (Ne.symm d17); have r18 := b7 (Ne.symm d18); have r19 := b7 (Ne.symm d19); have r20 := b7 (Ne.symm d20); have r21 := b7 (Ne.symm d21)
 have i1 : GV (HC k) (.con k.bL) x0 = some true := by
  rw [ex]
  unfold GV
  simp only [kx1]
  simp [List.lookup, GX, n1, n2, n3, n4, n5, n6, n7, n8, n9, n10, n11, n12, n13, n14, n15, n16, n17, n18, n19, n20, n21, r1, r2, r3, r4, r5, r6, r7, r8, r9, r10, r11, r12, r13, r14, r15, r16, r17, r18, r19, r20, r21]
 have i2 : GV (HC k) (.con k.iV) x0 = some false := by
  rw [ex]
  unfold GV
  simp only [kx1]
  simp [List.lookup, GX, n1, n2, n3, n4, n5, n6, n7, n8, n9, n10, n11, n12, n13, n14, n15, n16, n17, n18, n19, n20, n21, r1, r2, r3, r4, r5, r6, r7, r8, r9, r10, r11, r12, r13, r14, r15, r16, r17, r18, r19, r20, r21]
 have i3 : GV (HC k) (.con k.iU) x0 = some false := by
  rw [ex]
  unfold GV
  simp only [kx1]
  simp [List.lookup, GX, n1, n2, n3, n4, n5, n6, n7, n8, n9, n10, n11, n12, n13, n14, n15, n16, n17, n18, n19, n20, n21, r1, r2, r3, r4, r5, r6, r7, r8, r9, r10, r11, r12, r13, r14, r15, r16, r17, r18, r19, r20, r21]
 have i4 : GV (HC k) (.con k.iX) x0 = some false := by
  rw [ex]
  unfold GV
  simp only [kx1]
  simp [List.lookup, GX, n1, n2, n3, n4, n5, n6, n7, n8, n9, n10, n11, n12, n13, n14, n15, n16, n17, n18, n19, n20, n21, r1, r2, r3, r4, r5, r6, r7, r8, r9, r10, r11, r12, r13, r14, r15, r16, r17, r18, r19, r20, r21]
 have i5 : GV (HC k) (.con k.gN) x0 = some false := by
  rw [ex]
  unfold GV
  simp only [kx1]
  simp [List.lookup, GX, n1, n2, n3, n4, n5, n6, n7, n8, n9, n10, n11, n12, n13, n14, n15, n16, n17, n18, n19, n20, n21, r1, r2, r3, r4, r5, r6, r7, r8, r9, r10, r11, r12, r13, r14, r15, r16, r17, r18, r19, r20, r21]
 have i6 : GV (HC k) (.con k.lH) x0 = some false := by
  rw [ex]
  unfold GV
  simp only [kx1]
  simp [List.lookup, GX, n1, n2, n3, n4, n5, n6, n7, n8, n9, n10, n11, n12, n13, n14, n15, n16, n17, n18, n19, n20, n21, r1, r2, r3, r4, r5, r6, r7, r8, r9, r10, r11, r12, r13, r14, r15, r16, r17, r18, r19, r20, r21]
 have i7 : GV (HC k) (.con k.eU) x0 = some true := by
  rw [ex]
  unfold GV
  simp only [kx1]
  simp [List.lookup, GX, n1, n2, n3, n4, n5, n6, n7, n8, n9, n10, n11, n12, n13, n14, n15, n16, n17, n18, n19, n20, n21, r1, r2, r3, r4, r5, r6, r7, r8, r9, r10, r11, r12, r13, r14, r15, r16, r17, r18, r19, r20, r21]
 have i8 : GV (HC k) (.ty "ValueError") x0 = some true := by
  rw [ex]
  unfold GV
  simp only [kx1]
  rfl
 have i9 : GV (HC k) (.ty "IndexError") x0 = some false := by
  rw [ex]
  unfold GV
  simp only [kx1]
  rfl
 rw [← ex]
 unfold kG nT
 rw [aF3]
 rw [show List.replicate j6.length (none : Option D) = [none, none] from rfl]
 rw [bJ]
 simp only [qU i1, qU i2, qU i3, qU i4, zY, ae, aa, reduceCtorEq]
 rw [bJ]
 simp only [qU i5, qU i6, zY, ae, aa, reduceCtorEq]
 rw [NY (by simp)]
 simp only [qU i7, qU i8, qU i9, zY, ae, aa, reduceCtorEq]
 rw [NY (by simp)]
 rfl
theorem aAA {v : D} {σ : Sg} : T (eFX (gM k) ("field" : Str) ⟨.ref k.bL, some [(("field" : Str), v)]⟩ σ w) P = P v w := by
 have f0 : wR (gM k) ("field" : Str) ⟨.ref k.bL, some [(("field" : Str), v)]⟩ = some v := by
  unfold wR gM
  simp
 unfold eFX
 rw [f0, bV]
theorem VC {c : D} {e : ME} {σ : Sg} (h : TX (e σ w) PX) : TX (bQ (aA (eC c) (aA e aE)) σ w) PX := by
 refine TX.iQ ?_
 unfold aA
 refine TX.bind ?_
 show T (Res.ok c w) _
 rw [bV]
 exact TX.iQ (TX.iQ h)
theorem aDF {m : MF} {e : ME} {σ : Sg} (h : TX (e σ w) PX) : TX (aJ m 1 aN (aA e aE) σ w) PX := TX.iQ (TX.iQ h)
theorem YB (UC : Dis k) (tl : Tl w d f) (ok : zD f) {z : Str} (hg : fJ f = some z) (hP : ∀ w', jH w w' → P (.tup [C1, .str z]) w') : T (K01.iM k [d] w) P := by
 unfold K01.iM K01.m8
 rw [eT, aBz, bJ]
 simp only [zY, ae, aa, reduceCtorEq]
 rw [bJ]
 refine aAZ (aB2 (VC (aDF (aDq ?_))))
 simp only [zY, ae, aa, reduceCtorEq]
 refine aFt k tl ok hg fun w' g => ?_
 refine ⟨by simp [kmL, AE], ?_⟩
 simp only [Pc.unI, Pc.forget, List.replicate, cf, cz, List.set_cons_zero, List.set_cons_succ, R6, W8 k UC, aAA, zY, ae, aa, reduceCtorEq]
 exact hP w' g
theorem ZI (tl : Tl w d f) (ok : zD f) (hg : fJ f = none) (hP : ∀ w', jH w w' → P (.tup [.str ("made" : Str), .tup (uO f)]) w') : T (K01.iM k [d] w) P := by
 unfold K01.iM K01.m8
 rw [eT, aBz, bJ]
 simp only [zY, ae, aa, reduceCtorEq]
 rw [bJ]
 refine ZC ?_
 simp only [zY, ae, aa, reduceCtorEq]
 refine aF7 k tl ok hg fun w' x' hp => ?_
 try simp only [zY, ae, aa, reduceCtorEq]
 refine OE k hp ?_
 try simp only [zY, ae, aa, reduceCtorEq]
 exact hP w' x'
theorem aFK {lo hi : Option Int} (tl : Tl w d f) : T (iZ d lo hi w) P = P (.lst (Pc.cutD (bG f) lo hi)) w := by
 rcases tl.alt with rfl | ⟨q, rfl, hq⟩
 ·have : iZ (.lst (bG f)) lo hi w = .ok (.lst (Pc.cutD (bG f) lo hi)) w := rfl
  rw [this, bV]
 ·have : iZ (.ref q) lo hi w = .ok (.lst (Pc.cutD (bG f) lo hi)) w := by simp only [iZ, hq]
  rw [this, bV]
theorem aHQ (tl : Tl w d f) (hP : P (.tup (uO f)) w) : T (K01.gR k [d] w) P := by
 unfold K01.gR K01.kA
 rw [eT, aHD]
 simp only [aFK tl, tl.ix 4 _ ZL, tl.ix 2 _ aB1, FX, aj, bu, zY, ae, aa, reduceCtorEq]
 have e1 : Pc.cutD (bG f) none (some 4) = [f.r, f.ev, f.lo, f.sl] := rfl
 have e2 : Pc.cutD (bG f) (some 5) none = [f.ga, f.ho, f.ta, f.ti, f.hs] := rfl
 rw [e1, e2]
 have n1 : ([f.r, f.ev, f.lo, f.sl] : List D).length + (0 + 1) ≤ sizeLine := by rw [sizeLine_eq]; simp
 have n2 : ∀ x : D, ([f.r, f.ev, f.lo, f.sl] ++ [x] : List D).length + ([f.ga, f.ho, f.ta, f.ti, f.hs] : List D).length ≤ sizeLine := fun x => by rw [sizeLine_eq]; simp
 have tt : ∀ (xs : List D) (PP : D → W → Prop), T (dZ [D.lst xs] w) PP = PP (.tup xs) w := fun xs PP => by
  have : dZ [D.lst xs] w = .ok (.tup xs) w := rfl
  rw [this, bV]
 unfold uO gS at hP
 split
 ·rename_i hn
  rw [if_pos hn] at hP
  refine ⟨n1, n2 _, ?_⟩
  rw [tt]
  exact hP
 ·rename_i hn
  rw [if_neg hn] at hP
  refine ⟨n1, n2 _, ?_⟩
  rw [tt]
  exact hP
theorem aBg {l : Nat} (h : iS n l (.lst (bG f)) = true) (hl : l ≤ 100) (hn : n ≤ 40) (hb : iT (.lst (bG f)) ≤ 200000) : ∃ z, PyData.strOk z = true ∧ ∀ (w : W) (d : D) (P : D → W → Prop), Tl w d f → T (mW [d] w) P = P (.str z) w := by
 obtain ⟨p, t⟩ := N0 h hl
 refine ⟨p.shown, j3 p t.plain, fun w d P tl => ?_⟩
 rcases tl.alt with rfl | ⟨q, rfl, hq⟩
 ·exact M0 t hn hb
 ·have e1 : xQ (.ref q) w = xQ (.lst (bG f)) w := by
   unfold xQ
   have e2 : (D.ref q).z4 (vQ 8 w) = some p := by
    have e3 : (D.ref q).z4 (vQ 8 w) = ((D.pysV (vQ 7 w) (bG f)).map .list) := by
     unfold D.z4 vQ
     simp only [hq]
    have e4 := t.py (vQ 7 w)
    unfold D.z4 at e4
    rw [e3, e4]
   rw [e2, t.py]
  have := M0 (w := w) (P := P) t hn hb
  unfold mW at this ⊢
  simp only [e1] at this ⊢
  exact this
theorem aDk {l : Nat} (h : iS n l (.lst (bG f)) = true) : iS (n + 2) (l + 10) (.tup [.str ("made" : Str), .tup (uO f)]) = true := by
 unfold iS at h
 cases n with
 | zero => simp [iS] at h
 | succ n =>
 simp only [iS, ao, au, ak] at h
 obtain ⟨h1, -⟩ := h
 have up : ∀ x ∈ bG f, iS (n + 1) (l + 10) x = true := fun x hx => hU (h1 x hx) (by omega) (by omega)
 have bo : iS (n + 1) (l + 10) (gS f) = true := by
  unfold gS
  split
  ·exact up _ (by simp [bG])
  ·exact up _ (by simp [bG])
 have hm : ∀ x ∈ uO f, iS (n + 1) (l + 10) x = true := fun x hx => by
  simp only [uO, bh, bw, dc] at hx
  rcases hx with rfl | rfl | rfl | rfl | rfl | rfl | rfl | rfl | rfl | rfl <;> first | exact bo | exact up _ (by simp [bG])
 simp only [iS, List.all_cons, List.all_nil, Bool.and_true, ao, au, ak]
 refine ⟨⟨?_, hm, by simp [uO]; omega⟩, by simp; omega⟩
 unfold xP
 rw [ao]
 exact ⟨by decide +kernel, by rw [ak, show ("made" : Str).cps.size = 4 from rfl]; omega⟩
theorem aCn (hb : iT (.lst (bG f)) ≤ 90000) : iT (.tup [.str ("made" : Str), .tup (uO f)]) ≤ 200000 := by
 have : iT (gS f) ≤ iT f.lo + iT f.be := by
  unfold gS
  split <;> omega
 have e : ("made" : Str).cps.size = 4 := rfl
 simp only [bG, uO, iT, wtDs, e] at hb ⊢
 omega
theorem YK {z : Str} (hg : fJ f = some z) : ∃ z', PyData.strOk z' = true ∧ ∀ (w : W) (P : D → W → Prop), T (mW [.tup [C1, .str z]] w) P = P (.str z') w := by
 rw [WA] at hg
 unfold fbQ at hg
 have all : ∀ y ∈ (["ranks", "every", "lost", "slow", "bears", "gap", "hold", "takes", "ties", "hosts"] : List Str), iS 3 20 (.tup [C1, .str y]) = true ∧ iT (.tup [C1, .str y]) ≤ 1000 := by decide +kernel
 have hz : z ∈ (["ranks", "every", "lost", "slow", "bears", "gap", "hold", "takes", "ties", "hosts"] : List Str) := by
  (repeat' split at hg) <;> first | (cases hg; simp; done) | (cases hg; done)
 obtain ⟨h1, h2⟩ := all z hz
 exact QF h1 (by omega) (by omega) (by omega)
theorem U7 {l : Nat} (UC : Dis k) (tl : Tl w d f) (ok : zD f) (h : iS n l (.lst (bG f)) = true) (hl : l ≤ 90) (hn : n ≤ 30) (hb : iT (.lst (bG f)) ≤ 90000) (hP : ∀ w', jH w w' → P (.bl true) w') : T (K01.fK k [d] w) P := by
 obtain ⟨z, hz, sz⟩ := aBg h (by omega) (by omega) (by omega)
 have sz1 : ∀ (PP : D → W → Prop), T (mW [d] w) PP = PP (.str z) w := fun PP => sz w d PP tl
 unfold K01.fK K01.j4
 rw [eT, aGX, bJ]
 simp only [sz1, zY, ae, aa, reduceCtorEq]
 rw [bJ]
 simp only [zY, ae, aa, reduceCtorEq]
 refine U3 k tl ok ?_
 try simp only [zY, ae, aa, reduceCtorEq]
 rw [bJ]
 try simp only [zY, ae, aa, reduceCtorEq]
 refine aHQ k tl ?_
 try simp only [zY, ae, aa, reduceCtorEq]
 rw [bJ]
 cases hg : fJ f with
 | none =>
  obtain ⟨z2, hz2, sz2⟩ := QF (aDk h) (by omega) (by omega) (aCn hb)
  simp only [aBR, kJ, D.isNon, ay, zY, ae, aa, reduceCtorEq]
  refine ZI k tl ok hg fun w' x' => ?_
  have es : ∀ (a : Str) (ha : PyData.strOk a = true) (w : W) (PP : D → W → Prop), T (gA (.str a) (.str a) w) PP = PP (.bl true) w := fun a ha w PP => by
   rw [wY, DM ha ha]
   simp
  have sz3 : ∀ (PP : D → W → Prop), T (mW [d] w') PP = PP (.str z) w' := fun PP => sz w' d PP (tl.ext x')
  simp only [sz2, es z2 hz2, sz3, es z hz, zY, ae, aa, reduceCtorEq]
  exact hP w' x'
 | some y =>
  obtain ⟨z2, hz2, sz2⟩ := YK hg
  simp only [aBR, kJ, D.isNon, bq, zY, ae, aa, reduceCtorEq]
  have m5 : ∀ (w : W) (PP : D → W → Prop), T (mulM (.lst [.bl false]) (.int 5) w) PP = PP (.lst [.bl false, .bl false, .bl false, .bl false, .bl false]) w := fun w PP => by
   have : mulM (.lst [.bl false]) (.int 5) w = .ok (.lst [.bl false, .bl false, .bl false, .bl false, .bl false]) w := rfl
   rw [this, bV]
  have a6 : ∀ (w : W) (xs ys : List D) (PP : D → W → Prop), xs.length + ys.length ≤ 100 → PP (.lst (xs ++ ys)) w → T (bS (.lst xs) (.lst ys) w) PP := fun w xs ys PP hs hp => by
   simp only [zY, ae, aa, reduceCtorEq]
   exact ⟨by rw [sizeLine_eq]; omega, hp⟩
  rw [m5]
  refine a6 _ _ _ _ (by simp) (a6 _ _ _ _ (by simp) ?_)
  refine YB k UC tl ok hg fun w' x' => ?_
  have es : ∀ (a : Str) (ha : PyData.strOk a = true) (w : W) (PP : D → W → Prop), T (gA (.str a) (.str a) w) PP = PP (.bl true) w := fun a ha w PP => by
   rw [wY, DM ha ha]
   simp
  have sz3 : ∀ (PP : D → W → Prop), T (mW [d] w') PP = PP (.str z) w' := fun PP => sz w' d PP (tl.ext x')
  have ec : D.lst ([D.bl true] ++ [D.bl false, .bl false, .bl false, .bl false, .bl false] ++ [D.bl true, .bl true, .bl false]) = C1 := rfl
  rw [ec]
  simp only [sz2, es z2 hz2, sz3, es z hz, zY, ae, aa, reduceCtorEq]
  exact hP w' x'
end
end K01
namespace K01
open PySem PySem.Spec PyProof.Rows L2 Pc Lb Lw Sx
section
variable (k : K01.bN) {w w' : W} {P : D → W → Prop} {PF : Fl → W → Prop} {PX : XD → W → Prop} {f : Fd} {p n l : Nat} {d : D} {u0 : W}
theorem aDc {b q : Nat} {o : MO} (h : M3 u0 w b) (hq : u0.length ≤ q) (q2 : 2 ≤ q) : M3 u0 (w.set q o) b :=
 ⟨pQ h.1 q2, by rw [di]; exact h.2.le, fun i hi h1 h0 => by rw [az (by omega)]; exact h.2.at_ i hi h1 h0⟩
def C7 (n l b : Nat) (y : D) : Prop := Odd n l b y ∧ xM (n + 2) (l + 1) y = true
theorem m4 {b n l : Nat} {y : D} (n1 : 1 ≤ n) (hl : 50 ≤ l) (h : (iS 3 0 y && (decide (iT y ≤ 100) && xM 3 51 y)) = true) : C7 n l b y := by
 simp only [ao, ak] at h
 exact ⟨aDj h.1 n1 h.2.1, nV h.2.2 (by omega) (by omega)⟩
theorem uJ {x : D} (hl : 50 ≤ l) (h : iS n l x = true) (f : xM n l x = true) : C7 n l (iT x) (.tup [x]) ∧ C7 n l (iT x) (.lst [x]) := by
 have g : ∀ y ∈ [x], xM (n + 1) (l + 1) y = true := fun y hy => by
  rw [da.mp hy]
  exact nV f (by omega) (by omega)
 have := VZ (x := x)
 exact ⟨⟨(VS h).1, AX g (by omega)⟩, ⟨(VS h).2, Y3 g⟩⟩
theorem lJ {b : Nat} {z : Int} (n1 : 1 ≤ n) (h : z.natAbs ≤ 1000000000000000000000000000000000000000 + 1000 * (l + 1)) : C7 n l b (.int z) := by
 refine ⟨⟨hU (n := 1) (l := l + 1) ?_ (by omega) (by omega), by simp only [iT]; omega⟩, rfl⟩
 simp only [iS, ak]
 omega
theorem aC4 {b : Nat} {z : Str} (n1 : 1 ≤ n) (h : xP (l + 1) z = true) (hz : z.cps.size ≤ 3 * b + 100) : C7 n l b (.str z) := ⟨⟨hU (n := 1) (l := l + 1) h (by omega) (by omega), by simp only [iT]; omega⟩, rfl⟩
theorem qG {xs ys : List D} (h : iS n l (.tup xs) = true) (f : xM n l (.tup xs) = true) (hm : ∀ y ∈ ys, y ∈ xs) (hl : ys.length ≤ xs.length + 1) (hw : wtDs ys ≤ 3 * wtDs xs) (hc : cI ys ≤ cI xs + 1) : C7 n l (iT (.tup xs)) (.tup ys) ∧ C7 n l (iT (.tup xs)) (.lst ys) := by
 obtain ⟨o1, o2⟩ := aAJ h hm hl hw
 cases n with
 | zero => simp [iS] at h
 | succ n =>
  obtain ⟨f1, f2⟩ := VG f
  have g : ∀ y ∈ ys, xM (n + 2) (l + 1) y = true := fun y hy => nV (f1 y (hm y hy)) (by omega) (by omega)
  exact ⟨⟨o1, AX g (by omega)⟩, ⟨o2, Y3 g⟩⟩
theorem aCU {xs : List D} {x : D} {i : Nat} (h : iS n l (.tup xs) = true) (f : xM n l (.tup xs) = true) (hx : xs[i]? = some x) : C7 n l (iT (.tup xs)) x := by
 refine ⟨aFI h hx, ?_⟩
 cases n with
 | zero => simp [iS] at h
 | succ n => exact nV ((VG f).1 x (cb hx)) (by omega) (by omega)
theorem aG3 : T (G0 (.int 10) (.int 39) w) P = P (.int (10 ^ 39)) w := by
 have : G0 (.int 10) (.int 39) w = .ok (.int (10 ^ 39)) w := by unfold G0; rfl
 rw [this, bV]
theorem beo (x0 x1 : D) : begin rG [x0, x1] = [some x0, some x1, none, none, none, none] := rfl
theorem aIm (x0 x1 : D) : begin bZ [x0, x1] = [some x0, some x1, none] := rfl
theorem LS (a c : Int) (w : W) (P : D → W → Prop) : T (sQ (.int a) (.int c) w) P = P (.int (a + c)) w := by unfold T; rfl
theorem yL (a c : Int) (w : W) (P : D → W → Prop) : T (subB (.int a) (.int c) w) P = P (.int (a - c)) w := by unfold T; rfl
theorem aDD (a : Bool) (c : Int) (w : W) (P : D → W → Prop) : T (sQ (.bl a) (.int c) w) P = P (.int (b2i a + c)) w := by unfold T; rfl
theorem aCN (a : Bool) (c : Int) (w : W) (P : D → W → Prop) : T (subB (.bl a) (.int c) w) P = P (.int (b2i a - c)) w := by unfold T; rfl
theorem aCP (a : Bool) (c : Int) (w : W) (P : D → W → Prop) : T (subB (.int c) (.bl a) w) P = P (.int (c - b2i a)) w := by unfold T; rfl
theorem aDo {a b : List D} (h : a.length + b.length ≤ 1000) (w : W) (P : D → W → Prop) : T (sQ (.tup a) (.tup b) w) P = P (.tup (a ++ b)) w := aCH h
theorem aDl {i : Int} (h : i.natAbs < 10 ^ 40) (w : W) (P : D → W → Prop) : T (NL [.int i] w) P = P (.str (toString i : String)) w := aFC h
theorem aCf (a : Bool) (w : W) (P : D → W → Prop) : T (NL [.bl a] w) P = P (.str (if a then "True" else "False")) w := by unfold T; rfl
theorem aG6 (a : Bool) (w : W) : G3 (.bl a) (.int 1) w = some a := by cases a <;> rfl
theorem aGs {b : Nat} (hd : M3 u0 w (b + 2)) (h : iS n l d = true) (f : xM n l d = true) (l0 : 50 ≤ l) (hl : l ≤ 90) (hn : n ≤ 20) (hP : ∀ y w', C7 n l (iT d) y → M3 u0 w' b → P y w') : T (K01.oF k [.ref 1, d] w) P := by
 have n1 : 1 ≤ n := by
  cases n with
  | zero => simp [iS] at h
  | succ n => omega
 have ok : jW (n + 1) d = true := AF h (by omega)
 unfold K01.oF K01.xG
 rw [eT, beo, bJ]
 simp only [qO, zY, ae, aa, reduceCtorEq]
 refine xW (b := b + 1) hd (by omega) (by omega) fun way w1 a0 a1 d1 k1 => ?_
 have d1' : M3 u0 w1 b := d1.less (by omega)
 try simp only [zY, ae, aa, reduceCtorEq]
 rw [bJ]
 cases hz : (way == 0)
 case true =>
  have dv : ∀ (a c e f g : Option D) (w : W) (P : D → W → Prop), T (IJ (dJ (eC (.int 0)) (aB 1) C2) [a, some d, c, e, f, g] w) P = P (.zX [.int 0] [d]) w := fun a c e f g w P => aFU (kvs := [(.inl 0, d)]) (ps := [(.int 0, d)]) rfl rfl (by simp)
  simp only [wY, m3, hz, aj, bu, zY, ae, aa, reduceCtorEq]
  rw [bJ]
  simp only [aG3, dv, aC0, IV, zY, ae, aa, reduceCtorEq]
  refine ⟨by rw [sizeLine_eq]; omega, ?_⟩
  refine xW (b := b) d1 (by omega) (by omega) fun v w2 f0 f1 d2 k2 => ?_
  try simp only [zY, ae, aa, reduceCtorEq]
  refine Q9 f0 ?_ fun x hx => ?_
  ·simp only [cf, cz]
   omega
  simp only [bh, bw, dc] at hx
  try simp only [zY, ae, aa, reduceCtorEq]
  refine hP x w2 ?_ d2
  rcases hx with rfl | rfl | rfl | rfl | rfl | rfl | rfl | rfl | rfl | rfl | rfl | rfl | rfl | rfl | rfl | rfl
  ·exact m4 n1 l0 rfl
  ·exact m4 n1 l0 rfl
  ·exact m4 n1 l0 rfl
  ·exact m4 n1 l0 (by decide +kernel)
  ·exact m4 n1 l0 (by decide +kernel)
  ·exact m4 n1 l0 (by decide +kernel)
  ·exact m4 n1 l0 (by decide +kernel)
  ·exact m4 n1 l0 (by decide +kernel)
  ·exact m4 n1 l0 rfl
  ·exact m4 n1 l0 rfl
  ·exact m4 n1 l0 rfl
  ·exact (uJ l0 h f).2
  ·exact (uJ l0 h f).1
  ·have h2 : iS (n + 1) (l + 1) d = true := hU h (by omega) (by omega)
   have f2 : xM (n + 1) (l + 1) d = true := nV f (by omega) (by omega)
   have e1 : HG (l + 1) (.int 0) = true := by
    simp only [HG, ak]
    omega
   refine ⟨⟨?_, ?_⟩, ?_⟩
   ·simp only [iS, List.all_cons, List.all_nil, h2, e1, cf, cz, Bool.and_self, decide_true, Bool.true_and, ak]
    omega
   ·simp only [iT, wtDs]
    omega
   ·simp only [xM, List.all_cons, List.all_nil, f2, Bool.and_self]
  ·exact m4 n1 l0 (by decide +kernel)
  ·exact m4 n1 l0 (by decide +kernel)
 have w0 : 1 ≤ way := by
  have : ¬ way = 0 := by simpa using hz
  omega
 have fin : ∀ y, C7 n l (iT d) y → P y w1 := fun y hy => hP y w1 hy d1'
 simp only [wY, m3, hz, aj, bu, zY, ae, aa, reduceCtorEq]
 rw [bJ]
 simp only [uQ ok, zY, ae, aa, reduceCtorEq]
 have last : ∃ x, atI [D.tup [.int 0, .int 0, .int 1], .tup [.tup [.int 0, .int 0, .int 1]], .lst [], .int 1, .str ("yes" : Str), .int 0, .int 5, .tup []] (way - 1) = some x ∧ P x w1 := by
  refine Q9 (by omega) ?_ fun y hy => ?_
  ·simp only [cf, cz]
   omega
  simp only [bh, bw, dc] at hy
  try simp only [zY, ae, aa, reduceCtorEq]
  refine fin y ?_
  rcases hy with rfl | rfl | rfl | rfl | rfl | rfl | rfl | rfl
  ·exact m4 n1 l0 (by decide +kernel)
  ·exact m4 n1 l0 (by decide +kernel)
  ·exact m4 n1 l0 (by decide +kernel)
  ·exact m4 n1 l0 (by decide +kernel)
  ·exact m4 n1 l0 (by decide +kernel)
  ·exact m4 n1 l0 (by decide +kernel)
  ·exact m4 n1 l0 (by decide +kernel)
  ·exact m4 n1 l0 (by decide +kernel)
 cases d
 case tup xs =>
  simp only [fA, aC3, AA, aj, bu, zY, ae, aa, reduceCtorEq]
  have hlen : xs.length ≤ 130 := by
   cases n with
   | zero => omega
   | succ n =>
    have := (RG h).2
    omega
  cases hx0 : xs.isEmpty
  case true =>
   try simp only [zY, ae, aa, reduceCtorEq]
   rw [bJ]
   simp only [JF ok, yL, zY, ae, aa, reduceCtorEq]
   exact last
  clear last fin
  have l1 : 0 < xs.length := by
   cases xs with
   | nil => simp at hx0
   | cons => simp
  try simp only [zY, ae, aa, reduceCtorEq]
  rw [bJ]
  simp only [yC, qO, zY, ae, aa, reduceCtorEq]
  refine xW (b := b) d1 (by omega) (by omega) fun at_ w3 t0 t1 d3 k3 => ?_
  obtain ⟨at_, rfl⟩ : ∃ n : Nat, at_ = (n : Int) := ⟨at_.toNat, by omega⟩
  have atl : at_ < xs.length := by omega
  try simp only [zY, ae, aa, reduceCtorEq]
  rw [bJ]
  have e1 : (at_ : Int) + 1 = ((at_ + 1 : Nat) : Int) := by omega
  have e2 : (at_ : Int) + 2 = ((at_ + 2 : Nat) : Int) := by omega
  have ea : atI xs (at_ : Nat) = some xs[at_] := jL (bj atl)
  have c1 : ∀ j : Nat, (xs.take j).length ≤ xs.length ∧ (xs.take j).length ≤ j := fun j => by rw [List.length_take]; omega
  have c2 : ∀ j : Nat, (xs.drop j).length = xs.length - j := fun j => List.length_drop ..
  obtain ⟨mid, emid⟩ : ∃ mid, mid = Pc.cutD xs (some (at_ : Int)) (some ((at_ + 2 : Nat) : Int)) := ⟨_, rfl⟩
  have emid2 : mid = (xs.drop at_).take 2 := by
   rw [emid]
   unfold Pc.cutD
   rw [HT.sIx_nat, HT.sIx_nat]
   rcases Nat.lt_or_ge (at_ + 2) xs.length with hh | hh
   ·rw [Nat.min_eq_left (by omega), Nat.min_eq_left (by omega)]
    congr 1
    omega
   ·rw [Nat.min_eq_right (by omega), Nat.min_eq_left (by omega), dq (by rw [c2]; omega), dq (by rw [c2]; omega)]
  have cmid : mid.length ≤ 2 ∧ (∀ y ∈ mid, y ∈ xs) ∧ wtDs mid ≤ wtDs xs := by
   rw [emid2]
   refine ⟨by rw [List.length_take]; omega, fun y hy => List.mem_of_mem_drop (List.mem_of_mem_take hy), de (VN _) (WC _)⟩
  have ad1 : ∀ (a b : List D) (w : W) (P : D → W → Prop), a.length ≤ 300 → b.length ≤ 300 → T (sQ (.tup a) (.tup b) w) P = P (.tup (a ++ b)) w := fun a b w P h1 h2 => aDo (by omega) w P
  have m1 := cmid.1
  have f1 := c1 at_
  have f2 := c2 (at_ + 2)
  simp only [LS, e1, aEL, bV, UP, GI, ad1 (xs.take at_) (xs.drop (at_ + 1)) _ _ (by have := c1 at_; omega) (by have := c2 (at_ + 1); omega), ad1 (xs.take (at_ + 1)) (xs.drop at_) _ _ (by have := c1 (at_ + 1); omega) (by have := c2 at_; omega), ad1 xs [.int 1] _ _ (by omega) (by simp), aD9, aFi, ea, aj, bu, zY, ae, aa, reduceCtorEq]
  obtain ⟨q, eq⟩ : ∃ q, q = w3.length := ⟨_, rfl⟩
  obtain ⟨ys, eys⟩ : ∃ ys : List D, ys = [D.tup (xs.take at_ ++ xs.drop (at_ + 1)), .tup (xs.take (at_ + 1) ++ xs.drop at_), .tup xs.reverse, .lst xs, .tup (xs ++ [.int 1]), .tup [.tup xs], xs[at_]] := ⟨_, rfl⟩
  obtain ⟨w4, e4⟩ : ∃ w4, w4 = w3 ++ [MO.lst ys] := ⟨_, rfl⟩
  rw [← eys, ← e4, ← eq]
  have hq : w4[q]? = some (.lst ys) := by rw [e4, eq]; exact aBh
  have d4 : M3 u0 w4 b := d3.gr ⟨_, e4⟩
  have q2 : 2 ≤ q := by rw [eq]; exact LF d3.1
  have uq : u0.length ≤ q := by rw [eq]; exact d3.2.le
  have ly : ys.length = 7 := by rw [eys]; rfl
  clear e4 eq
  rw [bJ]
  simp only [tyL hq, LS, e2, aEL, ← emid, bV, UP, GI, aD9, ad1 (xs.take at_) mid.reverse _ _ (by omega) (by rw [List.length_reverse]; omega), ad1 (xs.take at_ ++ mid.reverse) (xs.drop (at_ + 2)) _ _ (by rw [cq, List.length_reverse]; omega) (by omega), Q8 hq, zY, ae, aa, reduceCtorEq]
  refine ⟨by rw [sizeLine_eq]; omega, ?_⟩
  have hq5 : (w4.set q (.lst (ys ++ [.tup (xs.take at_ ++ mid.reverse ++ xs.drop (at_ + 2))])))[q]? = some (.lst (ys ++ [.tup (xs.take at_ ++ mid.reverse ++ xs.drop (at_ + 2))])) := bf (ai.mp hq).1
  simp only [yL, aG0 hq5, zY, ae, aa, reduceCtorEq]
  refine Q9 (by omega) (by simp; omega) fun y hy => ?_
  refine hP y _ ?_ (aDc d4 uq q2)
  rw [eys] at hy
  simp only [ax, cc, bh, bw, dc] at hy
  have tk : ∀ (j : Nat) (y : D), y ∈ xs.take j → y ∈ xs := fun j y hy => List.mem_of_mem_take hy
  have dp : ∀ (j : Nat) (y : D), y ∈ xs.drop j → y ∈ xs := fun j y hy => List.mem_of_mem_drop hy
  have wt := fun j => VN (xs := xs) j
  have wd := fun j => WC (xs := xs) j
  have ct := fun j => UN (xs := xs) j
  have cn := fun j => aEE (xs := xs) j
  rcases hy with rfl | rfl | rfl | rfl | rfl | rfl | rfl | rfl
  ·refine (qG h f (fun y hy => ?_) ?_ ?_ ?_).1
   ·rcases ck.mp hy with hy | hy
    ·exact tk _ _ hy
    ·exact dp _ _ hy
   ·rw [cq, c2]; omega
   ·rw [pJ]
    have := wt at_
    have := wd (at_ + 1)
    omega
   ·rw [uD]
    have := ct at_
    have := ct (at_ + 1)
    have := cn at_
    have : cI (xs.take at_) ≤ cI (xs.take (at_ + 1)) := by
     have e : xs.take (at_ + 1) = xs.take at_ ++ xs[at_]?.toList := List.take_add_one
     rw [e, uD]
     omega
    omega
  ·refine (qG h f (fun y hy => ?_) ?_ ?_ ?_).1
   ·rcases ck.mp hy with hy | hy
    ·exact tk _ _ hy
    ·exact dp _ _ hy
   ·rw [cq, c2]
    have := c1 (at_ + 1)
    omega
   ·rw [pJ]
    have := wt (at_ + 1)
    have := wd at_
    omega
   ·rw [uD]
    have := ct at_
    have := cn at_
    omega
  ·exact (qG h f (fun y hy => List.mem_reverse.mp hy) (by rw [List.length_reverse]; omega) (by rw [UK]; omega) (by rw [aEo]; omega)).1
  ·exact (qG h f (fun y hy => hy) (by omega) (by omega) (by omega)).2
  ·cases n with
   | zero => omega
   | succ n =>
   obtain ⟨h1, h2⟩ := RG h
   obtain ⟨g1, g2⟩ := VG f
   refine ⟨⟨BF (fun y hy => ?_) ?_, ?_⟩, AX (fun y hy => ?_) ?_⟩
   ·rcases ck.mp hy with hy | hy
    ·exact hU (h1 y hy) (by omega) (by omega)
    ·rw [da.mp hy]
     simp only [iS, ak]
     omega
   ·rw [cq, List.length_singleton]
    omega
   ·simp only [iT, pJ, wtDs]
    omega
   ·rcases ck.mp hy with hy | hy
    ·exact nV (g1 y hy) (by omega) (by omega)
    ·rw [da.mp hy]
     rfl
   ·rw [uD]
    have := VZ (x := .int 1)
    omega
  ·exact (uJ l0 h f).1
  ·exact aCU h f (bj atl)
  ·refine (qG h f (fun y hy => ?_) ?_ ?_ ?_).1
   ·rcases ck.mp hy with hy | hy
    ·rcases ck.mp hy with hy | hy
     ·exact tk _ _ hy
     ·exact cmid.2.1 y (List.mem_reverse.mp hy)
    ·exact dp _ _ hy
   ·rw [cq, cq, List.length_reverse, c2]
    omega
   ·rw [pJ, pJ, UK]
    have := wt at_
    have := wd (at_ + 2)
    have := cmid.2.2
    omega
   ·rw [uD, uD, aEo, emid2]
    have a1 := ct at_
    have a2 := UN (xs := xs.drop at_) 2
    rw [List.drop_drop] at a2
    omega
 case int z =>
  have hz2 : z.natAbs ≤ 1000000000000000000000000000000000000000 + 1000 * l := by
   cases n with
   | zero => omega
   | succ n => simpa only [iS, ak] using h
  have z40 : z.natAbs < 10 ^ 40 := by omega
  simp only [fA, zY, ae, aa, reduceCtorEq]
  rw [bJ]
  simp only [JF ok, LS, yL, wY, m3, aDl z40, aj, bu, zY, ae, aa, reduceCtorEq]
  refine Q9 (by omega) ?_ fun y hy => ?_
  ·simp only [cf, cz]
   omega
  simp only [bh, bw, dc] at hy
  try simp only [zY, ae, aa, reduceCtorEq]
  refine fin y ?_
  rcases hy with rfl | rfl | rfl | rfl | rfl | rfl | rfl | rfl
  ·exact lJ n1 (by omega)
  ·exact lJ n1 (by omega)
  ·exact lJ n1 (by omega)
  ·exact lJ n1 (by omega)
  ·cases (z == 1) <;> exact m4 n1 l0 rfl
  ·have u := aAR z40
   refine aC4 n1 (yY u (by omega)) ?_
   simp only [xP, ao, ak] at u
   omega
  ·exact (uJ l0 h f).1
  ·exact lJ n1 (by omega)
 case bl z =>
  simp only [fA, zY, ae, aa, reduceCtorEq]
  rw [bJ]
  simp only [JF ok, yL, aDD, aCN, aCP, wY, aG6, aCf, aj, bu, zY, ae, aa, reduceCtorEq]
  refine Q9 (by omega) ?_ fun y hy => ?_
  ·simp only [cf, cz]
   omega
  simp only [bh, bw, dc] at hy
  try simp only [zY, ae, aa, reduceCtorEq]
  refine fin y ?_
  clear last
  have bz : 0 ≤ b2i z ∧ b2i z ≤ 1 := by cases z <;> decide
  rcases hy with rfl | rfl | rfl | rfl | rfl | rfl | rfl | rfl
  ·exact lJ n1 (by omega)
  ·exact lJ n1 (by omega)
  ·exact lJ n1 (by omega)
  ·exact lJ n1 (by omega)
  ·cases z <;> exact m4 n1 l0 rfl
  ·cases z <;> exact m4 n1 l0 (by decide +kernel)
  ·exact (uJ l0 h f).1
  ·exact lJ n1 (by omega)
 all_goals
  simp only [fA, zY, ae, aa, reduceCtorEq]
  rw [bJ]
  simp only [JF ok, yL, zY, ae, aa, reduceCtorEq]
  exact last
def aDN (rec : MF) (j : Nat) : Prop := ∀ (n l b : Nat) (d : D) (w u0 : W), n ≤ j → M3 u0 w (b + (2 * j + 3)) → iS n l d = true → xM n l d = true → 50 ≤ l → l ≤ 90 → T (rec [.ref 1, d] w) fun y w' => C7 n l (iT d) y ∧ M3 u0 w' b
theorem aDy : aDN noM 0 := fun n l b d w u0 hn _ h _ _ _ => by
 obtain rfl : n = 0 := by omega
 simp [iS] at h
theorem vD {rec : MF} {j : Nat} (hj : j ≤ 12) (hr : aDN rec j) : aDN (bP (cC k rec) bZ) (j + 1) := fun n l b d w u0 hn hd h f l0 hl => by
 have ok : jW (n + 1) d = true := AF h (by omega)
 unfold cC
 rw [eT, aIm, bJ]
 simp only [uQ ok, zY, ae, aa, reduceCtorEq]
 have odd : ∀ (w1 : W) (b' : Nat) (PF : D → W → Prop), b + 2 ≤ b' → M3 u0 w1 b' → (∀ y w', C7 n l (iT d) y → M3 u0 w' b → PF y w') → T (K01.oF k [.ref 1, d] w1) PF := fun w1 b' PF hb d1 hPF => aGs k (d1.less hb) h f l0 hl (by omega) hPF
 cases d
 case tup xs =>
  simp only [fA, wY, AA, aj, bu, zY, ae, aa, reduceCtorEq]
  cases hx0 : xs.isEmpty
  case true =>
   try simp only [zY, ae, aa, reduceCtorEq]
   exact odd w _ _ (by omega) hd fun y w' h1 h2 => ⟨h1, h2⟩
  have l1 : 0 < xs.length := by
   cases xs with
   | nil => simp at hx0
   | cons => simp
  cases n with
  | zero => simp [iS] at h
  | succ n =>
  obtain ⟨h1, h2⟩ := RG h
  obtain ⟨f1, f2⟩ := VG f
  simp only [qO, zY, ae, aa, reduceCtorEq]
  refine xW (b := b + (2 * j + 4)) hd (by omega) (by omega) fun a w1 a0 a1 d1 k1 => ?_
  simp only [wY, m3, aj, bu, zY, ae, aa, reduceCtorEq]
  cases (a == 0)
  case true =>
   try simp only [zY, ae, aa, reduceCtorEq]
   exact odd w1 _ _ (by omega) d1 fun y w' h1 h2 => ⟨h1, h2⟩
  clear odd
  try simp only [zY, ae, aa, reduceCtorEq]
  rw [bJ]
  simp only [yC, qO, zY, ae, aa, reduceCtorEq]
  refine xW (b := b + (2 * j + 3)) d1 (by omega) (by omega) fun at_ w2 t0 t1 d2 k2 => ?_
  obtain ⟨at_, rfl⟩ : ∃ n : Nat, at_ = (n : Int) := ⟨at_.toNat, by omega⟩
  have atl : at_ < xs.length := by omega
  have e1 : (at_ : Int) + 1 = ((at_ + 1 : Nat) : Int) := by omega
  have ea : atI xs (at_ : Nat) = some xs[at_] := jL (bj atl)
  have hx := h1 xs[at_] (List.getElem_mem atl)
  have fx := f1 xs[at_] (List.getElem_mem atl)
  have wa := aEd (bj atl)
  have wx : iT (.tup xs) = wtDs xs := rfl
  try simp only [zY, ae, aa, reduceCtorEq]
  simp only [l5, e1, aEL, bV, UP, GI, IT, tH, ea, aj, bu, zY, ae, aa, reduceCtorEq]
  refine (hr n l b xs[at_] w2 u0 (by omega) d2 hx fx l0 hl).mono fun y w3 _ ⟨o, d3⟩ => ?_
  obtain ⟨⟨o1, o2⟩, o3⟩ := o
  have c1 : (xs.take at_).length = at_ := by rw [List.length_take]; omega
  have c2 : (xs.drop (at_ + 1)).length = xs.length - (at_ + 1) := List.length_drop ..
  have ct := UN (xs := xs) (at_ + 1)
  have cn : cI (xs.take at_) ≤ cI (xs.take (at_ + 1)) := by
   have e : xs.take (at_ + 1) = xs.take at_ ++ xs[at_]?.toList := List.take_add_one
   rw [e, uD]
   omega
  have cy := VZ (x := y)
  try simp only [zY, ae, aa, reduceCtorEq]
  refine ⟨by rw [sizeLine_eq, c1]; omega, by rw [sizeLine_eq, cq, c1, c2, List.length_singleton]; omega, ⟨⟨BF (fun z hz => ?_) ?_, ?_⟩, AX (fun z hz => ?_) ?_⟩, d3⟩
  ·rcases ck.mp hz with hz | hz
   ·rcases ck.mp hz with hz | hz
    ·exact hU (h1 z (List.mem_of_mem_take hz)) (by omega) (by omega)
    ·rw [da.mp hz]
     exact o1
   ·exact hU (h1 z (List.mem_of_mem_drop hz)) (by omega) (by omega)
  ·rw [cq, cq, c1, c2]
   simp only [List.length_singleton]
   omega
  ·rw [iT, pJ, pJ, wx]
   simp only [wtDs]
   omega
  ·rcases ck.mp hz with hz | hz
   ·rcases ck.mp hz with hz | hz
    ·exact nV (f1 z (List.mem_of_mem_take hz)) (by omega) (by omega)
    ·rw [da.mp hz]
     exact o3
   ·exact nV (f1 z (List.mem_of_mem_drop hz)) (by omega) (by omega)
  ·rw [uD, uD]
   omega
 all_goals
  simp only [fA, zY, ae, aa, reduceCtorEq]
  exact odd w _ _ (by omega) hd fun y w' h1 h2 => ⟨h1, h2⟩
theorem aFc : aDN (K01.lN k) 6 := vD k (by omega) (vD k (by omega) (vD k (by omega) (vD k (by omega) (vD k (by omega) (vD k (by omega) aDy)))))
end
section
variable (k : K01.bN) {w w' : W} {P : D → W → Prop} {PF : Fl → W → Prop} {PX : XD → W → Prop} {f : Fd} {p n l : Nat} {d : D}
def MK (x : D) : Prop := (iS 3 80 x = true ∧ xM 3 80 x = true) ∧ iT x ≤ 100
theorem hX {lo hi : Int} {x : D} (h : aM lo hi x = true) (l0 : -100 ≤ lo) (h1 : hi ≤ 100) : MK x := by
 cases x <;> first | (simp [aM] at h; done) | skip
 rename_i v
 simp only [aM, ao, ak] at h
 refine ⟨⟨?_, rfl⟩, by simp [iT]⟩
 simp only [iS, ak]
 omega
theorem aCv {x : D} (h : vU x = true) : MK x := by
 cases x <;> first | (simp [vU] at h; done) | skip
 exact ⟨⟨rfl, rfl⟩, by simp [iT]⟩
theorem DH {c : Nat} : ∀ {ys : List D}, (∀ y ∈ ys, iT y ≤ c) → wtDs ys ≤ ys.length * (c + 1)
 | [], _ => by simp [wtDs]
 | y :: ys, h => by
  have h1 := h y (bc ..)
  have h2 := DH (c := c) (ys := ys) fun z hz => h z (br _ hz)
  rw [wtDs, cf, Nat.succ_mul]
  omega
theorem aBa {ys : List D} (hl : ys.length ≤ 6) (h : ∀ y ∈ ys, ∃ v : Int, y = .int v ∧ v.natAbs ≤ 100) : (iS 2 80 (.tup ys) = true ∧ xM 2 80 (.tup ys) = true) ∧ iT (.tup ys) ≤ 6 := by
 have t1 : ∀ y ∈ ys, iS 1 80 y = true := fun y hy => by
  obtain ⟨v, rfl, hv⟩ := h y hy
  simp only [iS, ak]
  omega
 have t2 : ∀ y ∈ ys, xM 1 80 y = true := fun y hy => by
  obtain ⟨v, rfl, hv⟩ := h y hy
  rfl
 have t3 : ∀ y ∈ ys, iT y ≤ 0 := fun y hy => by
  obtain ⟨v, rfl, hv⟩ := h y hy
  simp [iT]
 have := aEr (xs := ys)
 have := DH t3
 exact ⟨⟨BF t1 (by omega), AX t2 (by omega)⟩, by rw [iT]; omega⟩
theorem JQ {xs : List D} (hl : xs.length ≤ 6) (h : ∀ x ∈ xs, ∃ ys, x = .tup ys ∧ ys.length ≤ 6 ∧ ∀ y ∈ ys, ∃ v : Int, y = .int v ∧ v.natAbs ≤ 100) : MK (.tup xs) := by
 have g : ∀ x ∈ xs, (iS 2 80 x = true ∧ xM 2 80 x = true) ∧ iT x ≤ 6 := fun x hx => by
  obtain ⟨ys, rfl, h1, h2⟩ := h x hx
  exact aBa h1 h2
 have := aEr (xs := xs)
 have := DH fun x hx => (g x hx).2
 exact ⟨⟨BF (fun x hx => (g x hx).1.1) (by omega), AX (fun x hx => (g x hx).1.2) (by omega)⟩, by rw [iT]; omega⟩
theorem UM {x : D} (h : fZ x = true) : MK x := by
 rw [V4] at h
 cases x <;> first | (simp [OA] at h; done) | skip
 rename_i xs
 simp only [OA, ao, ak, au] at h
 obtain ⟨⟨h1, h2⟩, h3, h4, h5⟩ := h
 refine JQ (by omega) fun x hx => ?_
 have t := h3 x hx
 cases x <;> first | (simp [fA] at t; done) | skip
 rename_i ys
 refine ⟨ys, rfl, (h4 _ hx).2.2, fun y hy => ?_⟩
 have a := h5 _ hx y hy
 cases y <;> first | (simp [aM] at a; done) | skip
 rename_i v
 simp only [aM, ao, ak] at a
 exact ⟨v, rfl, by omega⟩
theorem W0 {h : Int} {x : D} (h0 : h ≤ 50) (e : lT h x = true) : MK x := by
 cases x <;> first | (simp [lT] at e; done) | skip
 rename_i xs
 simp only [lT, ao, au, Bool.not_eq_true', decide_eq_false_iff_not] at e
 obtain ⟨e1, e2, -⟩ := e
 refine JQ (by omega) fun x hx => ?_
 have t := e2 x hx
 obtain ⟨q, rfl⟩ := SY t
 have t2 : (aM 0 (h - 1) (.int q.1) && (aM 0 9 (.int q.2.1) && aM 1 11 (.int q.2.2))) = true := t
 simp only [aM, ao, ak] at t2
 refine ⟨[.int q.1, .int q.2.1, .int q.2.2], rfl, by simp, fun y hy => ?_⟩
 simp only [bh, bw, dc] at hy
 rcases hy with rfl | rfl | rfl
 ·exact ⟨_, rfl, by omega⟩
 ·exact ⟨_, rfl, by omega⟩
 ·exact ⟨_, rfl, by omega⟩
theorem Gd.fine (g : Gd f) : ∀ x ∈ bG f, MK x := by
 obtain ⟨r0, rest, er, r1, r6, -⟩ := GZ g.r
 have ew : kW f.r = r0.length := by rw [er]; rfl
 have be : MK f.be := by
  have b := g.be
  unfold gS at b
  split at b
  ·rename_i hn
   cases hb : f.be <;> rw [hb] at hn <;> first | (cases hn; done) | skip
   exact ⟨⟨rfl, rfl⟩, by simp [iT]⟩
  ·exact hX b (by omega) (by omega)
 intro x hx
 simp only [bG, bh, bw, dc] at hx
 rcases hx with rfl | rfl | rfl | rfl | rfl | rfl | rfl | rfl | rfl | rfl
 ·exact UM g.r
 ·exact hX g.ev (by omega) (by omega)
 ·exact hX g.lo (by omega) (by omega)
 ·exact hX g.sl (by omega) (by omega)
 ·exact be
 ·exact hX g.ga (by omega) (by omega)
 ·exact hX g.ho (by omega) (by omega)
 ·exact aCv g.ta
 ·exact W0 (by rw [ew]; omega) g.ti
 ·exact hX g.hs (by omega) (by omega)
def Fits (x : D) : Prop := iS 5 81 x = true ∧ iT x ≤ 400
theorem MK.fits {x : D} (h : MK x) : Fits x := ⟨hU h.1.1 (by omega) (by omega), by have := h.2; omega⟩
theorem WN (h : ∀ x ∈ bG f, Fits x) : zD f := fun x hx => AF (h x hx).1 (by omega)
theorem WH (h : ∀ x ∈ bG f, Fits x) : iS 6 81 (.lst (bG f)) = true ∧ iT (.lst (bG f)) ≤ 90000 := by
 refine ⟨?_, ?_⟩
 ·simp only [iS, ao, au, ak]
  exact ⟨fun x hx => (h x hx).1, by simp [bG]⟩
 ·have := DH fun x hx => (h x hx).2
  rw [iT]
  have e : (bG f).length = 10 := rfl
  omega
theorem Q5 {j : Nat} (hj : j < 10) : bG (SI f j d) = (bG f).set j d := by
 rcases lt10 hj with rfl | rfl | rfl | rfl | rfl | rfl | rfl | rfl | rfl | rfl <;> rfl
theorem aAz {j : Nat} (hj : j < 10) (h : ∀ x ∈ bG f, Fits x) (hd : Fits d) : ∀ x ∈ bG (SI f j d), Fits x := fun x hx => by
 rw [Q5 hj] at hx
 rcases List.mem_or_eq_of_mem_set hx with h1 | h1
 ·exact h x h1
 ·rw [h1]
  exact hd
end
section
variable (k : K01.bN) {w w' : W} {P : D → W → Prop} {PF : Fl → W → Prop} {PX : XD → W → Prop} {f f0 : Fd} {p n l : Nat} {d : D} {u0 : W}
theorem aFF (x0 : D) : begin VQ [x0] = [some x0, none, none, none, none, none, none, none, none] := rfl
def aCV : MS := (aT (aJ (lN k) 2 aN (aA (aB 1) (aA (aD a9 (aB 4) (aB 8)) aE))) (dR (aB 7) (aB 8)))
theorem aBX {a : Nat} (ha : a < 10) : ∃ x, atI (bG f) (a : Int) = some x ∧ x ∈ bG f := Y9 (by omega) (by show (a : Int) < 10; omega)
theorem aA2 {a q b : Nat} {s0 s2 s3 s5 s6 : Option D} (ha : a < 10) (g : Gd f0) (hd : cO w 1 0 (b + 15)) (hq : w[q]? = some (.lst (bG f))) (q2 : 2 ≤ q) (fits : ∀ x ∈ bG f, Fits x)
  (hP : ∀ f' w', cO w' 1 0 b → w'[q]? = some (.lst (bG f')) → (∀ x ∈ bG f', Fits x) → PF (.nx [s0, some (.ref 1), s2, s3, some (.lst (bG f0)), s5, s6, some (.ref q), some (.int (a : Nat))]) w') :
  T (aCV k [s0, some (.ref 1), s2, s3, some (.lst (bG f0)), s5, s6, some (.ref q), some (.int (a : Nat))] w) PF := by
 obtain ⟨x, ex, hx⟩ := aBX (f := f0) ha
 have fx := g.fine x hx
 unfold aCV
 simp only [ex, aj, bu, zY, ae, aa, reduceCtorEq]
 refine (aFc k 3 80 b x w w (by omega) ⟨hd, pY.refl⟩ fx.1.1 fx.1.2 (by omega) (by omega)).mono fun y w1 _ ⟨o, d1⟩ => ?_
 have hq1 : w1[q]? = some (.lst (bG f)) := by
  rw [d1.2.at_ q (ai.mp hq).1 (by omega) (by omega)]
  exact hq
 have fy : Fits y := ⟨o.1.1, by have := o.1.2; have := fx.2; omega⟩
 simp only [aFN hq1 (show a < (bG f).length from ha), zY, ae, aa, reduceCtorEq]
 refine hP (SI f a y) _ (pQ d1.1 q2) ?_ (aAz ha fits fy)
 rw [bf (ai.mp hq1).1, Q5 ha]
theorem sets {q : Nat} {s0 s2 s3 s5 s6 : Option D} (g : Gd f0) (q2 : 2 ≤ q) : ∀ (as : List Nat) (b : Nat) (f : Fd) (w : W) (s8 : Option D), (∀ a ∈ as, a < 10) → cO w 1 0 (b + 15 * as.length) → w[q]? = some (.lst (bG f)) → (∀ x ∈ bG f, Fits x) →
  (∀ f' w' s8, cO w' 1 0 b → w'[q]? = some (.lst (bG f')) → (∀ x ∈ bG f', Fits x) → PF (.nx [s0, some (.ref 1), s2, s3, some (.lst (bG f0)), s5, s6, some (.ref q), s8]) w') →
  ∀ ys : List D, T (forL ⟨ys, always⟩ (a7 8) (aCV k) (as.map fun a => D.int (a : Nat)) [s0, some (.ref 1), s2, s3, some (.lst (bG f0)), s5, s6, some (.ref q), s8] w) PF
 | [], b, f, w, s8, _, hd, hq, hf, hP, ys => by
  rw [List.map_nil, SM]
  exact ⟨trivial, hP f w _ (by simpa using hd) hq hf⟩
 | a :: as, b, f, w, s8, ha, hd, hq, hf, hP, ys => by
  rw [cw, sY]
  refine ⟨trivial, ?_⟩
  simp only [zY, ae, aa, reduceCtorEq]
  refine aA2 k (b := b + 15 * as.length) (ha a (bc ..)) g (hd.less (by rw [cf]; omega)) hq q2 hf fun f' w' d' hq' hf' => ?_
  simp only [Lb.Turn]
  exact sets g q2 as b f' w' _ (fun y hy => ha y (br _ hy)) d' hq' hf' hP ys
def Q1 : MS := (aI (aT (m9 iZ (eI (aA (aJ (aU k) 2 aN (aA (aB 1) (aA (eC (.int 10)) aE))) (aA (aJ (aU k) 2 aN (aA (aB 1) (aA (eC (.int 10)) aE))) aE))) cV (cK (aD bS (eC (.int 1)) (aP x7 (aA (aD gA (aJ (aU k) 2 aN (aA (aB 1) (aA (eC (.int 3)) aE))) (eC (.int 0))) aE))))) (a7 6))
 (aI (aT (aP tG (aA (aB 4) aE)) (a7 7))
 (aI (fX (dY (aB 6)) (a7 8) (aCV k))
 (dN (eV (bU (cW (aJ (fK k) 1 aN (aA (aB 7) aE)))) (eV (bU (cW (aJ (fK k) 1 aN (aA (aB 4) aE)))) (bH (aD rS (aJ (iE k) 1 aN (aA (aB 4) aE)) (eC .non))))) (bE (eC (.bl false))) bC))))
theorem aCI {b : Nat} {s0 s2 s3 s5 s6 s7 s8 : Option D} (UC : Dis k) (g : Gd f) (hd : cO w 1 0 (b + 40))
  (hP : ∀ w' s6 s7 s8, cO w' 1 0 b → PF (.nx [s0, some (.ref 1), s2, s3, some (.lst (bG f)), s5, s6, s7, s8]) w') :
  T (Q1 k [s0, some (.ref 1), s2, s3, some (.lst (bG f)), s5, s6, s7, s8] w) PF := by
 have gf : ∀ x ∈ bG f, Fits x := fun x hx => (g.fine x hx).fits
 unfold Q1
 rw [bJ]
 simp only [qO, zY, ae, aa, reduceCtorEq]
 refine eB (b := b + 39) hd (by omega) (by omega) fun a w1 a0 a1 d1 k1 => ?_
 try simp only [zY, ae, aa, reduceCtorEq]
 refine eB (b := b + 38) d1 (by omega) (by omega) fun c w2 c0 c1 d2 k2 => ?_
 try simp only [zY, ae, aa, reduceCtorEq]
 refine eB (b := b + 37) d2 (by omega) (by omega) fun e w3 e0 e1 d3 k3 => ?_
 obtain ⟨a, rfl⟩ : ∃ n : Nat, a = (n : Int) := ⟨a.toNat, by omega⟩
 obtain ⟨c, rfl⟩ : ∃ n : Nat, c = (n : Int) := ⟨c.toNat, by omega⟩
 simp only [wY, m3, aFT, aj, bu, zY, ae, aa, reduceCtorEq]
 have cut : ∃ as : List Nat, Pc.cutD [D.int (a : Nat), D.int (c : Nat)] none (some (1 + (if (e == 0) = true then 1 else 0))) = as.map (fun a => D.int (a : Nat)) ∧ (∀ x ∈ as, x < 10) ∧ as.length ≤ 2 := by
  cases (e == 0) with
  | true => exact ⟨[a, c], rfl, fun x hx => by simp at hx; omega, by simp⟩
  | false => exact ⟨[a], rfl, fun x hx => by simp at hx; omega, by simp⟩
 obtain ⟨as, ec, has, las⟩ := cut
 have sl : ∀ (lo hi : Option Int) (xs : List D) (w : W) (PP : D → W → Prop), T (iZ (.lst xs) lo hi w) PP = PP (.lst (Pc.cutD xs lo hi)) w := fun lo hi xs w PP => by
  have : iZ (.lst xs) lo hi w = .ok (.lst (Pc.cutD xs lo hi)) w := rfl
  rw [this, bV]
 simp only [sl, ec, zY, ae, aa, reduceCtorEq]
 rw [bJ]
 have ln : ∀ (xs : List D) (w : W) (PP : D → W → Prop), T (tG [.lst xs] w) PP = PP (.ref w.length) (w ++ [.lst xs]) := fun xs w PP => by
  have : tG [.lst xs] w = .ok (.ref w.length) (w ++ [.lst xs]) := rfl
  rw [this, bV]
 simp only [ln, zY, ae, aa, reduceCtorEq]
 rw [bJ, vL]
 simp only [zY, ae, aa, reduceCtorEq]
 have d5 : cO (w3 ++ [MO.lst (bG f)]) 1 0 (b + 15 * as.length) := (VF d3 ⟨_, rfl⟩).less (by omega)
 refine sets k g (LF d3) as b f _ _ has d5 aBh gf (fun f' w4 s8 d4 hq4 hf4 => ?_) _
 obtain ⟨t1, t2⟩ := WH hf4
 obtain ⟨u1, u2⟩ := WH gf
 simp only [zY, ae, aa, reduceCtorEq]
 refine U7 k UC (YW hq4) (WN hf4) t1 (by omega) (by omega) t2 fun w5 x5 => ?_
 simp only [ay, zY, ae, aa, reduceCtorEq]
 refine U7 k UC SE g.ok u1 (by omega) (by omega) u2 fun w6 x6 => ?_
 simp only [ay, zY, ae, aa, reduceCtorEq]
 refine U3 k SE g.ok ?_
 rw [g.first]
 simp only [aBR, kJ, D.isNon, ay, zY, ae, aa, reduceCtorEq]
 exact hP w6 _ _ _ (cO.ext (cO.ext d4 x5) x6)
theorem good (UC : Dis k) (ns : List Int) (hl : ns.length ≤ 63) (hP : ∀ w', P (.bl true) w') : T (K01.NS k [.oI (ns.map D.int)] []) P := by
 unfold K01.NS K01.YU
 rw [eT, aFF, bJ]
 simp only [aFX, zY, ae, aa, reduceCtorEq]
 refine (aDw hl).mono fun r w0 _ ⟨er, l0, d0⟩ => ?_
 subst er
 try simp only [zY, ae, aa, reduceCtorEq]
 rw [bJ]
 simp only [AI (n := 3) (by omega) (by omega), zY, ae, aa, reduceCtorEq]
 have d00 : cO w0 1 0 (10000 - 2000 * 0) := d0.less (by decide)
 refine Lb.EA (it := jK 0 (3 : Int).toNat) (fun z σ w' => cO w' 1 0 (10000 - 2000 * z) ∧ ∃ s2 s3 s4 s5 s6 s7 s8, σ = [some (.oI (ns.map D.int)), some (.ref 1), s2, s3, s4, s5, s6, s7, s8]) (fun _ _ _ _ => trivial) ⟨d00, _, _, _, _, _, _, _, rfl⟩ (fun z dz σ w1 hz hI => ?_) fun σ w1 hI => ?_
 ·obtain ⟨d1, s2, s3, s4, s5, s6, s7, s8, rfl⟩ := hI
  have hz3 : z < 3 := (ai.mp hz).1
  rw [MC, bJ]
  simp only [qO, zY, ae, aa, reduceCtorEq]
  refine eB (b := 9999 - 2000 * z) (d1.less (by omega)) (by omega) (by omega) fun a w2 a0 a1 d2 k2 => ?_
  simp only [wY, m3, aFT, aj, bu, zY, ae, aa, reduceCtorEq]
  rw [bJ]
  simp only [zY, ae, aa, reduceCtorEq]
  refine aEP k (b := 9600 - 2000 * z) (d2.less (by omega)) (by cases (a == 5) <;> simp) fun f w3 gf d3 => ?_
  try simp only [zY, ae, aa, reduceCtorEq]
  simp only [AI (n := 16) (by omega) (by omega), zY, ae, aa, reduceCtorEq]
  refine Lb.EA (it := jK 0 (16 : Int).toNat) (fun y σ w' => cO w' 1 0 (8000 - 2000 * z + 40 * (16 - y)) ∧ ∃ s2 s3 s5 s6 s7 s8, σ = [some (.oI (ns.map D.int)), some (.ref 1), s2, s3, some (.lst (bG f)), s5, s6, s7, s8]) (fun _ _ _ _ => trivial) ⟨d3.less (by omega), _, _, _, _, _, _, rfl⟩ (fun y dy σ w4 hy hI => ?_) fun σ w4 hI => ?_
  ·obtain ⟨d4, s2, s3, s5, s6, s7, s8, rfl⟩ := hI
   have hy3 : y < 16 := (ai.mp hy).1
   rw [MC]
   refine aCI k (b := 8000 - 2000 * z + 40 * (16 - (y + 1))) UC gf (d4.less (by omega)) fun w5 s6 s7 s8 d5 => ?_
   exact ⟨d5, _, _, _, _, _, _, rfl⟩
  ·obtain ⟨d4, s2, s3, s5, s6, s7, s8, rfl⟩ := hI
   try simp only [Lb.Turn, zY, ae, aa, reduceCtorEq]
   exact ⟨d4.less (by omega), _, _, _, _, _, _, _, rfl⟩
 ·obtain ⟨d1, s2, s3, s4, s5, s6, s7, s8, rfl⟩ := hI
  try simp only [zY, ae, aa, reduceCtorEq]
  exact hP _
end
theorem aBC (k : K01.bN) (UC : Dis k) (ns : List Int) (h : ns.length ≤ 63) : ∃ w', K01.NS k [.oI (ns.map Pc.D.int)] [] = .ok (.bl true) w' := by
 obtain ⟨a, w, e, p⟩ := (good k (P := fun d _ => d = .bl true) UC ns h fun _ => rfl).ex
 exact ⟨w, by rw [e, p]⟩
end K01
namespace K01H
open PySem PySem.Spec PyProof.Rows L2 Pc K01
open PySem PySem.W PySem.Calls PyProof.Rows HandSHeadRun in
open PySem PySem.W PySem.Calls PyProof.Rows in
open PySem PySem.W PySem.Calls PyProof.Rows in
open PySem PySem.W PySem.Calls PyProof.Rows in
open PySem PySem.W PySem.Calls PyProof.Rows in
abbrev St (w : World) (K : PySem.W.Frag) (mg : Str → Option Value) (base : Heap) : aR := ⟨PySem.Challenge.pw_onemaster_k01_plans_made_and_refused, w, K, mg, base, 0, [], defScope (top 46), fun _ => true⟩
theorem facts {w : World} {K : PySem.W.Frag} {h : Heap} {mg : Str → Option Value} (X : K.In h) (G : h.Ns mainGlobals mg) (c : He.SaysX fa fn ts [] ex w h K) :
  ∃ (d : FuncData) (kk : bN), (FunD K ("law" : Str) ("law" : Str) (defArgs (top 46)) (defBody (top 46)) (defScope (top 46)) [] [] (He.ga K "law") d) ∧ ∀ base, ∃ x : Fx (St w K mg base), x.k = kk ∧ x.I7 = He.ga K "law" ∧ x.WG = d := by
 obtain ⟨d0, F0⟩ := c.t.d.def_ 0 (d := sT) rfl
 obtain ⟨d1, F1⟩ := c.t.d.def_ 1 (d := sZ) rfl
 obtain ⟨d2, F2⟩ := c.t.d.def_ 2 (d := kY) rfl
 obtain ⟨d3, F3⟩ := c.t.d.def_ 3 (d := lA) rfl
 obtain ⟨d4, F4⟩ := c.t.d.def_ 4 (d := mK) rfl
 obtain ⟨d5, F5⟩ := c.t.d.def_ 5 (d := rL) rfl
 obtain ⟨d6, F6⟩ := c.t.d.def_ 6 (d := jZ) rfl
 obtain ⟨d7, F7⟩ := c.t.d.def_ 7 (d := nZ) rfl
 obtain ⟨d8, F8⟩ := c.t.d.def_ 8 (d := pO) rfl
 obtain ⟨d9, F9⟩ := c.t.d.def_ 9 (d := wM) rfl
 obtain ⟨d10, F10⟩ := c.t.d.def_ 10 (d := uL) rfl
 obtain ⟨d11, F11⟩ := c.t.d.def_ 11 (d := sW) rfl
 obtain ⟨d12, F12⟩ := c.t.d.def_ 12 (d := G2) rfl
 obtain ⟨d13, F13⟩ := c.t.d.def_ 13 (d := xU) rfl
 obtain ⟨d14, F14⟩ := c.t.d.def_ 14 (d := xE) rfl
 obtain ⟨d15, F15⟩ := c.t.d.def_ 15 (d := tV) rfl
 obtain ⟨d16, F16⟩ := c.t.d.def_ 16 (d := sV) rfl
 obtain ⟨d17, F17⟩ := c.t.d.def_ 17 (d := rV) rfl
 obtain ⟨d18, F18⟩ := c.t.d.def_ 18 (d := rP) rfl
 obtain ⟨d19, F19⟩ := c.t.d.def_ 19 (d := xJ) rfl
 obtain ⟨d20, F20⟩ := c.t.d.def_ 20 (d := pG) rfl
 obtain ⟨d21, F21⟩ := c.t.d.def_ 21 (d := sS) rfl
 obtain ⟨d22, F22⟩ := c.t.d.def_ 22 (d := tJ) rfl
 obtain ⟨d23, F23⟩ := c.t.d.def_ 23 (d := aAl) rfl
 obtain ⟨d24, F24⟩ := c.t.d.def_ 24 (d := lR) rfl
 refine ⟨d23, { eU := He.ga K "NetError", iU := He.ga K "NoDeed", iX := He.ga K "NoFate", bL := He.ga K "NoPlan", lH := He.ga K "NoRow", iV := He.ga K "NoText", aO := He.ga K "Plan", gN := He.ga K "TooMany", eE := He.ga K "NUMBERS", k9 := kwAt ("Plan", some "__init__") "ties" K }, F23, fun base => ⟨{
  k := { eU := He.ga K "NetError", iU := He.ga K "NoDeed", iX := He.ga K "NoFate", bL := He.ga K "NoPlan", lH := He.ga K "NoRow", iV := He.ga K "NoText", aO := He.ga K "Plan", gN := He.ga K "TooMany", eE := He.ga K "NUMBERS", k9 := kwAt ("Plan", some "__init__") "ties" K },
  y5 := He.free_ok X G (c.t.d.fact 0 (f := .free "IndexError") rfl),
  yR := He.free_ok X G (c.t.d.fact 1 (f := .free "ValueError") rfl),
  IE := He.free_ok X G (c.t.d.fact 2 (f := .free "all") rfl),
  FZ := He.free_ok X G (c.t.d.fact 3 (f := .free "bool") rfl),
  IP := He.free_ok X G (c.t.d.fact 4 (f := .free "int") rfl),
  bA := He.free_ok X G (c.t.d.fact 5 (f := .free "isinstance") rfl),
  gJ := He.free_ok X G (c.t.d.fact 6 (f := .free "len") rfl),
  L3 := He.free_ok X G (c.t.d.fact 7 (f := .free "list") rfl),
  qW := He.free_ok X G (c.t.d.fact 8 (f := .free "range") rfl),
  GN := He.free_ok X G (c.t.d.fact 9 (f := .free "repr") rfl),
  QQ := He.free_ok X G (c.t.d.fact 10 (f := .free "sorted") rfl),
  aDZ := He.free_ok X G (c.t.d.fact 11 (f := .free "str") rfl),
  aEm := He.free_ok X G (c.t.d.fact 12 (f := .free "sum") rfl),
  dS := He.free_ok X G (c.t.d.fact 13 (f := .free "tuple") rfl),
  aEc := He.free_ok X G (c.t.d.fact 14 (f := .free "zip") rfl),
  qA := vJ X G (iY c.more 0 rfl),
  wF := vJ X G (iY c.more 1 rfl),
  CD := vJ X G (iY c.more 2 rfl),
  FN := vJ X G (iY c.more 3 rfl),
  CU := vJ X G (iY c.more 4 rfl),
  aD0 := vJ X G (iY c.more 5 rfl),
  BL := ⟨.ref _, .ref _, He.glo_ok X G (c.t.d.fact 38 (f := .glo "NUMBERS") rfl), rfl, fun _ _ => by simp [aH]⟩,
  AK := ZY (c.t.tab 0 rfl) (iY c.more 6 rfl),
  t7 := He.glo_ok X G (c.t.d.fact 39 (f := .glo "NetError") rfl),
  UL := ⟨.ref _, .ref _, He.glo_ok X G (c.t.d.fact 39 (f := .glo "NetError") rfl), rfl, fun _ _ => by simp [aH]⟩,
  IL := He.glo_ok X G (c.t.d.fact 40 (f := .glo "NoDeed") rfl),
  aAH := ⟨.ref _, .ref _, He.glo_ok X G (c.t.d.fact 40 (f := .glo "NoDeed") rfl), rfl, fun _ _ => by simp [aH]⟩,
  IS := He.glo_ok X G (c.t.d.fact 41 (f := .glo "NoFate") rfl),
  Z9 := ⟨.ref _, .ref _, He.glo_ok X G (c.t.d.fact 41 (f := .glo "NoFate") rfl), rfl, fun _ _ => by simp [aH]⟩,
  pR := He.glo_ok X G (c.t.d.fact 42 (f := .glo "NoPlan") rfl),
  Z6 := ⟨.ref _, .ref _, He.glo_ok X G (c.t.d.fact 42 (f := .glo "NoPlan") rfl), rfl, fun _ _ => by simp [aH]⟩,
  NW := He.glo_ok X G (c.t.d.fact 43 (f := .glo "NoRow") rfl),
  aCK := ⟨.ref _, .ref _, He.glo_ok X G (c.t.d.fact 43 (f := .glo "NoRow") rfl), rfl, fun _ _ => by simp [aH]⟩,
  I0 := He.glo_ok X G (c.t.d.fact 44 (f := .glo "NoText") rfl),
  aAm := ⟨.ref _, .ref _, He.glo_ok X G (c.t.d.fact 44 (f := .glo "NoText") rfl), rfl, fun _ _ => by simp [aH]⟩,
  WK := He.glo_ok X G (c.t.d.fact 45 (f := .glo "Plan") rfl),
  aFL := ⟨.ref _, .ref _, He.glo_ok X G (c.t.d.fact 45 (f := .glo "Plan") rfl), rfl, fun _ _ => by simp [aH]⟩,
  fQ := He.cls_ok (c.t.d.fact 46 (f := .cls "Plan") rfl),
  rD := He.noat_ok (c.t.d.fact 47 (f := .noat "Plan" "bears") rfl),
  rJ := He.noat_ok (c.t.d.fact 48 (f := .noat "Plan" "every") rfl),
  wQ := He.noat_ok (c.t.d.fact 49 (f := .noat "Plan" "gap") rfl),
  u3 := He.noat_ok (c.t.d.fact 50 (f := .noat "Plan" "hold") rfl),
  rA := He.noat_ok (c.t.d.fact 51 (f := .noat "Plan" "hosts") rfl),
  u4 := He.noat_ok (c.t.d.fact 52 (f := .noat "Plan" "lost") rfl),
  rE := He.noat_ok (c.t.d.fact 53 (f := .noat "Plan" "ranks") rfl),
  uS := He.noat_ok (c.t.d.fact 54 (f := .noat "Plan" "slow") rfl),
  rQ := He.noat_ok (c.t.d.fact 55 (f := .noat "Plan" "takes") rfl),
  uH := He.noat_ok (c.t.d.fact 56 (f := .noat "Plan" "ties") rfl),
  EV := He.glo_ok X G (c.t.d.fact 58 (f := .glo "TooMany") rfl),
  YO := ⟨.ref _, .ref _, He.glo_ok X G (c.t.d.fact 58 (f := .glo "TooMany") rfl), rfl, fun _ _ => by simp [aH]⟩,
  lW := He.fAd K sT.at_,
  oX := d0,
  tQ := F0,
  BX := He.glo_ok X G (c.t.d.fact 15 (f := .glo "_law_deck") rfl),
  yN := F0.kp,
  mE := He.fAd K sZ.at_,
  oY := d1,
  uX := F1,
  bB := He.glo_ok X G (c.t.d.fact 16 (f := .glo "_law_draw") rfl),
  aV := F1.kp,
  fY := He.fAd K kY.at_,
  iG := d2,
  lE := F2,
  dP := He.glo_ok X G (c.t.d.fact 17 (f := .glo "_law_is_within") rfl),
  dC := F2.kp,
  f9 := He.fAd K lA.at_,
  iJ := d3,
  kR := F3,
  pU := He.glo_ok X G (c.t.d.fact 18 (f := .glo "_law_are_cords") rfl),
  oT := F3.kp,
  gK := He.fAd K mK.at_,
  jB := d4,
  mQ := F4,
  sF := He.glo_ok X G (c.t.d.fact 19 (f := .glo "_law_are_rows") rfl),
  qB := F4.kp,
  kD := He.fAd K rL.at_,
  nG := d5,
  q7 := F5,
  rW := He.glo_ok X G (c.t.d.fact 20 (f := .glo "_law_fault") rfl),
  pF := F5.kp,
  fF := He.fAd K jZ.at_,
  gT := d6,
  j8 := F6,
  oU := He.glo_ok X G (c.t.d.fact 21 (f := .glo "_law_due_fields") rfl),
  nP := F6.kp,
  hD := He.fAd K nZ.at_,
  j9 := d7,
  nY := F7,
  tY := He.glo_ok X G (c.t.d.fact 22 (f := .glo "_law_classes") rfl),
  sM := F7.kp,
  iW := He.fAd K pO.at_,
  lM := d8,
  pN := F8,
  vW := He.glo_ok X G (c.t.d.fact 23 (f := .glo "_law_fields") rfl),
  uA := F8.kp,
  oA := He.fAd K wM.at_,
  rR := d9,
  xO := F9,
  EJ := He.glo_ok X G (c.t.d.fact 24 (f := .glo "is_whole") rfl),
  CK := F9.kp,
  mB := He.fAd K uL.at_,
  oQ := d10,
  t4 := F10,
  jQ := He.glo_ok X G (c.t.d.fact 25 (f := .glo "is_within") rfl),
  iF := F10.kp,
  lZ := He.fAd K sW.at_,
  oJ := d11,
  uN := F11,
  CQ := He.glo_ok X G (c.t.d.fact 26 (f := .glo "are_ranks") rfl),
  yP := F11.kp,
  qH := He.fAd K G2.at_,
  zF := d12,
  EK := F12,
  QK := He.glo_ok X G (c.t.d.fact 27 (f := .glo "is_tie") rfl),
  JB := F12.kp,
  oH := He.fAd K xU.at_,
  rB := d13,
  wK := F13,
  ER := He.glo_ok X G (c.t.d.fact 28 (f := .glo "are_ties") rfl),
  B9 := F13.kp,
  nQ := He.fAd K xE.at_,
  rT := d14,
  xS := F14,
  GY := He.glo_ok X G (c.t.d.fact 29 (f := .glo "is_field") rfl),
  B6 := F14.kp,
  oS := He.fAd K tV.at_,
  oW := d15,
  tZ := F15,
  aBf := He.mkr_ok (c.t.d.fact 57 (f := .mkr "Plan") rfl),
  mD := He.fAd K sV.at_,
  oN := d16,
  uG := F16,
  BV := He.glo_ok X G (c.t.d.fact 30 (f := .glo "_law_made") rfl),
  y8 := F16.kp,
  jY := He.fAd K rV.at_,
  nA := d17,
  rY := F17,
  zP := He.glo_ok X G (c.t.d.fact 31 (f := .glo "_law_heard") rfl),
  v3 := F17.kp,
  kF := He.fAd K rP.at_,
  nF := d18,
  rO := F18,
  qT := He.glo_ok X G (c.t.d.fact 32 (f := .glo "_law_right") rfl),
  pD := F18.kp,
  oD := He.fAd K xJ.at_,
  rC := d19,
  wW := F19,
  jI := He.glo_ok X G (c.t.d.fact 33 (f := .glo "_law_odd") rfl),
  hZ := F19.kp,
  cU := He.fAd K pG.at_,
  cZ := d20,
  eK := F20,
  eP := He.glo_ok X G (c.t.d.fact 34 (f := .glo "_law_spoilt") rfl),
  dU := F20.kp,
  mF := He.fAd K sS.at_,
  oV := d21,
  tM := F21,
  oO := He.glo_ok X G (c.t.d.fact 35 (f := .glo "_law_pick") rfl),
  nB := F21.kp,
  l8 := He.fAd K tJ.at_,
  pA := d22,
  uW := F22,
  CV := He.glo_ok X G (c.t.d.fact 36 (f := .glo "_law_told") rfl),
  zV := F22.kp,
  I7 := He.fAd K aAl.at_,
  WG := d23,
  aEf := F23,
  aDQ := He.glo_ok X G (c.t.d.fact 37 (f := .glo "law") rfl),
  aEQ := F23.kp,
  lG := He.fAd K lR.at_,
  lI := d24,
  pM := F24,
  sU := aC2 (iY c.more 7 rfl),
  sC := aB0 (iY c.more 8 rfl),
  JR := PySem.W.aF6 (iY c.more 9 rfl),
  mU := of_decide_eq_true (iY c.more 10 rfl),
  oR := of_decide_eq_true (iY c.more 11 rfl),
  sN := of_decide_eq_true (iY c.more 12 rfl),
  sE := of_decide_eq_true (iY c.more 13 rfl),
  sJ := of_decide_eq_true (iY c.more 14 rfl),
  tE := of_decide_eq_true (iY c.more 15 rfl),
  sG := of_decide_eq_true (iY c.more 16 rfl),
  pW := of_decide_eq_true (iY c.more 17 rfl),
  mY := of_decide_eq_true (iY c.more 18 rfl),
  UC := of_decide_eq_true (iY c.more 19 rfl),
  Z5 := aDd (iY c.more 20 rfl) }, rfl, rfl, rfl⟩⟩
end K01H
set_option maxHeartbeats 0
open PySem PySem.W PySem.Calls PyProof.Rows
theorem PySem.Challenge.cw_onemaster_k01_plans_made_and_refused_holds : PySem.Challenge.rw_onemaster_k01_plans_made_and_refused.Holds := by
 refine K01H.early.2 ?_
 ·refine Pc.aAS (l := PySem.Challenge.rw_onemaster_k01_plans_made_and_refused) (n := 63) (k := 11) (x := "_law_script") rfl (by decide) (by kernel_rfl) ⟨rfl, by decide, by decide⟩ ?F
  intro w mg fa h Y G hmg0
  obtain ⟨K, KX, c⟩ := Y
  have hmg : mg ("law" : PySem.Str) = some (.ref fa) := by
   have e : (HandSHeadRun.topDef (OpenLaw.row PySem.Challenge.rw_onemaster_k01_plans_made_and_refused).prog 46).name = ("law" : PySem.Str) := by kernel_rfl
   rw [← e]
   exact hmg0
  obtain ⟨d, kk, F, fx⟩ := K01H.facts KX G c
  have hx : fa = He.ga K "law" := by
   obtain ⟨x0, _, e1, _⟩ := fx {}
   have z := x0.aDQ
   rw [e1] at z
   have z2 := hmg.symm.trans z
   cases z2
   rfl
  have bd := L2.FunD.bindsA (ps := ["_law_script"]) F fun _ _ _ _ _ _ us hl => match us, hl with | [_], _ => rfl
  refine ⟨K, d, K01.NS kk, KX, fun s v => bd s [v] rfl, fun ns hl => K01.aBC kk (by obtain ⟨x0, e0, _, _⟩ := fx {}; rw [← e0]; exact x0.UC) ns hl, fun base _ _ => ?_⟩
  obtain ⟨x, e0, e1, e2⟩ := fx base
  have z := K01.aEy x
  rw [e0, e1, e2] at z
  rw [hx]
  exact z
end
