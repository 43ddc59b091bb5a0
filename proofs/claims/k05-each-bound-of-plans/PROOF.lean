import PyProof.Rows.All
import Wide.All
import OpenK.AllK
import Wide.FinOn
import HandS.ForMost
import HandS.ForExc
import HandS.TupAny
import HandS.Style
import HandS.Flow
import HandS.Deep
import PyProof.NeKinds
import HandS.Defaults
import HandS.WordsDict
import HandS.IsInst
import HandS.Conv
import KE.SortKeyHeap
import HandS.MakeKwOnly
import HandS.More
import HandS.ListItems
import HandS.Zip
import KE.GoesEnumKw
import HandS.Head0
import HandS.Head1
import HandS.Head2
import HandS.HeadEnd
import HandS.HeadHook1
import HandS.HeadHook2
import HandS.HeadHook3
import HandS.HeadHook4
import HandS.NamedTupGet
import PyProof.FactsLen
import HandS.TupMul
import KE.GoesEnum
import HandS.Zip0
import HandS.SetFor
import HandS.Strs
import KE.DataAny
import KE.KDictPairs
import HandS.DictComp
import HandS.NoneIn
import KE.KEqDict
import HandS.TupLe
import KE.KAssignIn
import HandS.Finally
import HandS.SlotsOwn
import PyProof.InstNe
import HandS.Dict
import HandS.Iter
import KE.KDictCopyH
import KE.DataMinMax
import KE.SortData
import PyProof.Rows.RowBridgeK
import HandS.Exc
import HandS.ExcInit
import HandS.ExcField
import HandS.ClsMeth
import HandS.Text
import HandS.TryMany
import HandS.ExcIs
import HandS.RaiseMore
import HandS.DictTup
import PyProof.ExcBaseAll.IndexError
import HandS.ExcBuiltin
import KE.KExcInit
import KE.SortUse
import HandS.SortKw
import HandS.TupLen
import HandS.Ends
import PySem.Challenge.RW_onemaster_k05_each_bound_of_plans
import KE.KStateDown
noncomputable section
set_option linter.all false
def aa := @if_false
def ae := @Nat.le_of_ble_eq_true
def ah := @if_true
def ai := @List.getElem?_eq_some_iff
def aj := @Option.some.injEq
def ak := @Bool.and_eq_true
def ao := @Option.map_eq_some_iff
def aq := @List.getElem?_append_left
def au := @decide_eq_true_eq
def av := @List.getElem?_set_self
def ax := @List.getElem?_set_ne
def ay := @List.all_eq_true
def az := @List.mem_cons_self
def bc := @List.getElem?_append_right
def bf := @List.mem_of_getElem?
def bg := @List.getElem?_eq_getElem
def bh := @List.mem_cons_of_mem
def bj := @Bool.false_eq_true
def bp := @Nat.le_refl
def bq := @List.length_map
def br := @List.mem_cons
def bu := @exists_eq_left'
def bw := @List.getElem?_map
def bx := @List.not_mem_nil
def bz := @List.append_assoc
def cb := @List.length_append
def cc := @List.mem_map
def cf := @List.length_set
def cg := @List.getElem?_eq_none
def cj := @Nat.le_trans
def ck := @Option.bind_eq_some_iff
set_option Elab.async false
set_option linter.all false
set_option maxRecDepth 100000
set_option maxHeartbeats 4000000
set_option autoImplicit false
namespace Pc
open PySem PySem.Spec PyProof.Rows L2
inductive D where
 | non | bl (b : Bool) | int (i : Int) | str (x : Str) | ty (n : String) | con (a : Addr)
 | tup (xs : List D) | lst (xs : List D) | nG (xs : List D) | kK (xs : List D) | G1 (ks vs : List D) | ref (i : Nat)
inductive MO where
 | lst (xs : List D) | dK (kvs : List (Key × D)) | dT (kvs : List (List Key × D)) | dF (kvs : List (Key × D)) | dG (kvs : List (List Key × D)) | ins (C : Addr) (fs : List (Str × D))
def MO.fz : MO → Bool
 | .dF _ => true
 | .dG _ => true
 | _ => false
abbrev W := List MO
structure XD where
 cls : Value
 fs : Option (List (Str × D))
inductive Res (α : Type) where
 | ok (a : α) (w : W)
 | sW (x : XD) (w : W)
 | bad
def Res.bind {α β : Type} (r : Res α) (f : α → W → Res β) : Res β := match r with
 | .ok a w => f a w
 | .sW x w => .sW x w
 | .bad => .bad
@[simp] theorem Res.aBo {α β : Type} (a : α) (w : W) (f : α → W → Res β) : (Res.ok a w).bind f = f a w := rfl
@[simp] theorem Res.aAP {α β : Type} (x : XD) (w : W) (f : α → W → Res β) : (Res.sW x w : Res α).bind f = .sW x w := rfl
@[simp] theorem Res.aAk {α β : Type} (f : α → W → Res β) : (Res.bad : Res α).bind f = .bad := rfl
theorem Res.bind_assoc {α β γ : Type} (r : Res α) (f : α → W → Res β) (g : β → W → Res γ) : (r.bind f).bind g = r.bind fun a w => (f a w).bind g := by
 cases r <;> rfl
mutual
def aJ (K : PySem.W.Frag) (I : List Addr) (F : Hp) : D → V → Prop
 | .non, v => v = .non
 | .bl b, v => v = .bl b
 | .int i, v => v = .int i
 | .str x, v => v = .str x
 | .ty n, v => v = .ty n
 | .con a, v => v = .ref a
 | .tup xs, v => ∃ a vs, v = .ref a ∧ F a = some (.tup vs) ∧ RepL K I F xs vs
 | .lst xs, v => ∃ a vs, v = .ref a ∧ F a = some (.lst vs) ∧ RepL K I F xs vs
 | .nG xs, v => ∃ a vs, v = .ref a ∧ SqL K F a vs ∧ RepL K I F xs vs
 | .kK xs, v => ∃ a vs, v = .ref a ∧ SqT K F a vs ∧ RepL K I F xs vs
 | .G1 ks xs, v => ∃ a kvs, v = .ref a ∧ Rd F a (.dK kvs) ∧ RepL K I F ks (kvs.map fun p => kV p.1) ∧ RepL K I F xs (kvs.map fun p => p.2)
 | .ref i, v => ∃ a, v = .ref a ∧ I[i]? = some a
def RepL (K : PySem.W.Frag) (I : List Addr) (F : Hp) : List D → List V → Prop
 | [], vs => vs = []
 | d :: ds, vs => ∃ v r, vs = v :: r ∧ aJ K I F d v ∧ RepL K I F ds r
end
def aQ {κ : Type} (K : PySem.W.Frag) (I : List Addr) (F : Hp) : List (κ × D) → List (κ × V) → Prop
 | [], vs => vs = []
 | (k, d) :: ds, vs => ∃ v r, vs = (k, v) :: r ∧ aJ K I F d v ∧ aQ K I F ds r
def iZ (K : PySem.W.Frag) (I : List Addr) (F : Hp) : MO → HO → Prop
 | .lst xs, u => ∃ vs, u = .lst vs ∧ RepL K I F xs vs
 | .dK kvs, u => ∃ r, u = .dK r ∧ aQ K I F kvs r
 | .dT kvs, u => ∃ r, u = .dT r ∧ aQ K I F kvs r
 | .dF kvs, u => ∃ o r, u = .frz o (.dK r) ∧ aQ K I F kvs r
 | .dG kvs, u => ∃ o r, u = .frz o (.dT r) ∧ aQ K I F kvs r
 | .ins C fs, u => ∃ dx r, u = .ins C dx r ∧ aQ K I F fs r
structure Rel (K : PySem.W.Frag) (I : List Addr) (F : Hp) (G : Hp) (w : W) (H : Hp) : Prop where
 len : I.length = w.length
 nd : I.Nodup
 ob : ∀ (i : Nat) (a : Addr) (o : MO), I[i]? = some a → w[i]? = some o → ∃ u, H a = some u ∧ iZ K I F o u
 fz : ∀ a u, F a = some u → H a = some u
 ap : ∀ (i : Nat) (a : Addr) (o : MO), I[i]? = some a → w[i]? = some o → o.fz = false → F a = none
 gz : ∀ a u, G a = some u → H a = some u
 gf : ∀ a u, G a = some u → F a = none ∧ a ∉ I
 gt : ∀ a xs, ¬ G a = some (.tup xs)
structure Ext (I : List Addr) (F : Hp) (I' : List Addr) (F' : Hp) : Prop where
 i : I <+: I'
 f : ∀ a u, F a = some u → F' a = some u
theorem Ext.refl {I : List Addr} {F : Hp} : Ext I F I F := ⟨List.prefix_refl _, fun _ _ h => h⟩
theorem Ext.trans {I I1 I2 : List Addr} {F F1 F2 : Hp} (a : Ext I F I1 F1) (b : Ext I1 F1 I2 F2) : Ext I F I2 F2 := ⟨a.i.trans b.i, fun x u h => b.f x u (a.f x u h)⟩
theorem Ext.get {I I1 : List Addr} {F F1 : Hp} (e : Ext I F I1 F1) {i : Nat} {a : Addr} (h : I[i]? = some a) : I1[i]? = some a := by
 obtain ⟨t, rfl⟩ := e.i
 have hi : i < I.length := (ai.mp h).1
 rw [aq hi]; exact h
section
variable {K : PySem.W.Frag} {I I1 I2 : List Addr} {F F1 F2 : Hp}
theorem IZ (e : Ext I F I1 F1) {a : Addr} {u : HO} (h : Rd F a u) : Rd F1 a u := by
 rcases h with h | ⟨o, h⟩
 ·exact .inl (e.f _ _ h)
 ·exact .inr ⟨o, e.f _ _ h⟩
theorem xG (e : Ext I F I1 F1) {a : Addr} {vs : List V} (h : SqT K F a vs) : SqT K F1 a vs := by
 rcases h with h | h
 ·exact .inl (IZ e h)
 ·exact .inr h
theorem LR (e : Ext I F I1 F1) {a : Addr} {vs : List V} (h : SqL K F a vs) : SqL K F1 a vs := by
 rcases h with h | h
 ·exact .inl (IZ e h)
 ·exact .inr h
mutual
theorem aJ.ext (e : Ext I F I1 F1) : ∀ (d : D) (v : V), aJ K I F d v → aJ K I1 F1 d v
 | .non, _, h => h
 | .bl _, _, h => h
 | .int _, _, h => h
 | .str _, _, h => h
 | .ty _, _, h => h
 | .con _, _, h => h
 | .tup xs, v, h => by
  simp only [aJ] at h ⊢
  obtain ⟨a, vs, h1, h2, h3⟩ := h
  exact ⟨a, vs, h1, e.f _ _ h2, RepL.ext e xs vs h3⟩
 | .kK xs, v, h => by
  simp only [aJ] at h ⊢
  obtain ⟨a, vs, h1, h2, h3⟩ := h
  exact ⟨a, vs, h1, xG e h2, RepL.ext e xs vs h3⟩
 | .lst xs, v, h => by
  simp only [aJ] at h ⊢
  obtain ⟨a, vs, h1, h2, h3⟩ := h
  exact ⟨a, vs, h1, e.f _ _ h2, RepL.ext e xs vs h3⟩
 | .nG xs, v, h => by
  simp only [aJ] at h ⊢
  obtain ⟨a, vs, h1, h2, h3⟩ := h
  exact ⟨a, vs, h1, LR e h2, RepL.ext e xs vs h3⟩
 | .G1 ks xs, v, h => by
  simp only [aJ] at h ⊢
  obtain ⟨a, kvs, h1, h2, h3, h4⟩ := h
  exact ⟨a, kvs, h1, IZ e h2, RepL.ext e ks _ h3, RepL.ext e xs _ h4⟩
 | .ref i, v, h => by
  simp only [aJ] at h ⊢
  obtain ⟨a, h1, h2⟩ := h
  exact ⟨a, h1, e.get h2⟩
theorem RepL.ext (e : Ext I F I1 F1) : ∀ (ds : List D) (vs : List V), RepL K I F ds vs → RepL K I1 F1 ds vs
 | [], _, h => h
 | d :: ds, vs, h => by
  simp only [RepL] at h ⊢
  obtain ⟨v, r, h1, h2, h3⟩ := h
  exact ⟨v, r, h1, aJ.ext e d v h2, RepL.ext e ds r h3⟩
end
theorem aQ.ext {κ : Type} (e : Ext I F I1 F1) : ∀ (ds : List (κ × D)) (vs : List (κ × V)), aQ K I F ds vs → aQ K I1 F1 ds vs
 | [], _, h => h
 | (k, d) :: ds, vs, h => by
  simp only [aQ] at h ⊢
  obtain ⟨v, r, h1, h2, h3⟩ := h
  exact ⟨v, r, h1, aJ.ext e d v h2, aQ.ext e ds r h3⟩
theorem iZ.ext (e : Ext I F I1 F1) {o : MO} {u : HO} (h : iZ K I F o u) : iZ K I1 F1 o u := by
 cases o with
 | lst xs => obtain ⟨vs, h1, h2⟩ := h; exact ⟨vs, h1, RepL.ext e _ _ h2⟩
 | dK xs => obtain ⟨vs, h1, h2⟩ := h; exact ⟨vs, h1, aQ.ext e _ _ h2⟩
 | dT xs => obtain ⟨vs, h1, h2⟩ := h; exact ⟨vs, h1, aQ.ext e _ _ h2⟩
 | dF xs => obtain ⟨o, vs, h1, h2⟩ := h; exact ⟨o, vs, h1, aQ.ext e _ _ h2⟩
 | dG xs => obtain ⟨o, vs, h1, h2⟩ := h; exact ⟨o, vs, h1, aQ.ext e _ _ h2⟩
 | ins C xs => obtain ⟨dx, vs, h1, h2⟩ := h; exact ⟨dx, vs, h1, aQ.ext e _ _ h2⟩
theorem RepL.length : ∀ {ds : List D} {vs : List V}, RepL K I F ds vs → ds.length = vs.length
 | [], vs, h => by simp only [RepL] at h; subst h; rfl
 | d :: ds, vs, h => by
  simp only [RepL] at h
  obtain ⟨v, r, rfl, _, h3⟩ := h
  simp [RepL.length h3]
theorem RepL.cons {d : D} {ds : List D} {v : V} {vs : List V} (h : aJ K I F d v) (t : RepL K I F ds vs) : RepL K I F (d :: ds) (v :: vs) := by
 simp only [RepL]; exact ⟨v, vs, rfl, h, t⟩
theorem RepL.append : ∀ {ds es : List D} {vs us : List V}, RepL K I F ds vs → RepL K I F es us → RepL K I F (ds ++ es) (vs ++ us)
 | [], _, _, _, h, t => by simp only [RepL] at h; subst h; exact t
 | d :: ds, es, vs, us, h, t => by
  simp only [RepL] at h
  obtain ⟨v, r, rfl, h2, h3⟩ := h
  exact RepL.cons h2 (RepL.append h3 t)
theorem RepL.get : ∀ {ds : List D} {vs : List V} {i : Nat} {d : D}, RepL K I F ds vs → ds[i]? = some d → ∃ v, vs[i]? = some v ∧ aJ K I F d v
 | [], _, _, _, _, e => by simp at e
 | d :: ds, vs, 0, x, h, e => by
  simp only [RepL] at h
  obtain ⟨v, r, rfl, h2, _⟩ := h
  simp at e; subst e
  exact ⟨v, rfl, h2⟩
 | d :: ds, vs, i + 1, x, h, e => by
  simp only [RepL] at h
  obtain ⟨v, r, rfl, _, h3⟩ := h
  obtain ⟨u, h4, h5⟩ := RepL.get (i := i) h3 (by simpa using e)
  exact ⟨u, by simpa using h4, h5⟩
theorem RepL.set : ∀ {ds : List D} {vs : List V} (i : Nat) {d : D} {v : V}, RepL K I F ds vs → aJ K I F d v → RepL K I F (ds.set i d) (vs.set i v)
 | [], vs, _, _, _, h, _ => by simp only [RepL] at h; subst h; simp [RepL]
 | d :: ds, vs, 0, x, u, h, hv => by
  simp only [RepL] at h
  obtain ⟨v, r, rfl, _, h3⟩ := h
  exact RepL.cons hv h3
 | d :: ds, vs, i + 1, x, u, h, hv => by
  simp only [RepL] at h
  obtain ⟨v, r, rfl, h2, h3⟩ := h
  exact RepL.cons h2 (RepL.set i h3 hv)
theorem RepL.take : ∀ {ds : List D} {vs : List V} (n : Nat), RepL K I F ds vs → RepL K I F (ds.take n) (vs.take n)
 | _, _, 0, _ => by simp [RepL]
 | [], vs, n + 1, h => by simp only [RepL] at h; subst h; simp [RepL]
 | d :: ds, vs, n + 1, h => by
  simp only [RepL] at h
  obtain ⟨v, r, rfl, h2, h3⟩ := h
  exact RepL.cons h2 (RepL.take n h3)
theorem RepL.drop : ∀ {ds : List D} {vs : List V} (n : Nat), RepL K I F ds vs → RepL K I F (ds.drop n) (vs.drop n)
 | _, _, 0, h => h
 | [], vs, n + 1, h => by simp only [RepL] at h; subst h; simp [RepL]
 | d :: ds, vs, n + 1, h => by
  simp only [RepL] at h
  obtain ⟨v, r, rfl, h2, h3⟩ := h
  exact RepL.drop n h3
theorem RepL.ints (ns : List Int) : RepL K I F (ns.map D.int) (ns.map V.int) := by
 induction ns with
 | nil => simp [RepL]
 | cons n ns ih => exact RepL.cons (by simp [aJ]) ih
end
abbrev Sg := List (Option D)
def eS (K : PySem.W.Frag) (I : List Addr) (F : Hp) (ds : Sg) (s : L2.St) : Prop := ds.length = s.length ∧ ∀ (i : Nat) (d : D), ds[i]? = some (some d) → ∃ v, s[i]? = some (some v) ∧ aJ K I F d v
theorem eS.ext {K : PySem.W.Frag} {I I1 : List Addr} {F F1 : Hp} {ds : Sg} {s : L2.St} (h : eS K I F ds s) (e : Ext I F I1 F1) : eS K I1 F1 ds s :=
 ⟨h.1, fun i d q => let ⟨v, h1, h2⟩ := h.2 i d q; ⟨v, h1, aJ.ext e d v h2⟩⟩
theorem eS.set {K : PySem.W.Frag} {I : List Addr} {F : Hp} {ds : Sg} {s : L2.St} (h : eS K I F ds s) (i : Nat) {d : D} {v : V} (hv : aJ K I F d v) : eS K I F (ds.set i (some d)) (s.set i (some v)) := by
 refine ⟨by simp [h.1], fun j e q => ?_⟩
 by_cases hj : i = j
 ·subst hj
  by_cases hl : i < ds.length
  ·rw [av hl] at q
   cases q
   exact ⟨v, av (by rw [← h.1]; exact hl), hv⟩
  ·rw [cg (by simpa using hl)] at q; cases q
 ·rw [ax hj] at q
  rw [ax hj]
  exact h.2 j e q
theorem eS.unset {K : PySem.W.Frag} {I : List Addr} {F : Hp} {ds : Sg} {s : L2.St} (h : eS K I F ds s) (i : Nat) (x : Option V) : eS K I F (ds.set i none) (s.set i x) := by
 refine ⟨by simp [h.1], fun j e q => ?_⟩
 by_cases hj : i = j
 ·subst hj
  by_cases hl : i < ds.length
  ·rw [av hl] at q; cases q
  ·rw [cg (by simpa using hl)] at q; cases q
 ·rw [ax hj] at q
  rw [ax hj]
  exact h.2 j e q
def u6 (K : PySem.W.Frag) (I : List Addr) (F H : Hp) (x : XD) (c : Value) (d : Option Addr) : Prop :=
 c = x.cls ∧ match x.fs with
  | none => d = none
  | some fs => ∃ a r, d = some a ∧ H a = some (.xd r) ∧ aQ K I F fs r
def a6 {α : Type} (K : PySem.W.Frag) (I : List Addr) (F G : Hp) (E : XK) (R : List Addr → Hp → Hp → α → W → Prop) : Res α → Prop
 | .ok a w => ∀ I' F' H', Ext I F I' F' → Rel K I' F' G w H' → R I' F' H' a w
 | .sW x w => ∀ I' F' H' c d, Ext I F I' F' → Rel K I' F' G w H' → u6 K I' F' H' x c d → E c d H'
 | .bad => False
section
variable {α β : Type} {K : PySem.W.Frag} {I I1 : List Addr} {F F1 G : Hp} {E : XK} {R R' : List Addr → Hp → Hp → α → W → Prop} {r : Res α}
theorem a6.ext (h : a6 K I F G E R r) (e : Ext I F I1 F1) : a6 K I1 F1 G E R r := by
 cases r with
 | ok a w => exact fun I' F' H' e' q => h I' F' H' (e.trans e') q
 | sW x w => exact fun I' F' H' c d e' q y => h I' F' H' c d (e.trans e') q y
 | bad => exact h
theorem a6.mono (h : a6 K I F G E R r) (k : ∀ I' F' H' a w, r = .ok a w → Ext I F I' F' → Rel K I' F' G w H' → R I' F' H' a w → R' I' F' H' a w) : a6 K I F G E R' r := by
 cases r with
 | ok a w => exact fun I' F' H' e' q => k I' F' H' a w rfl e' q (h I' F' H' e' q)
 | sW x w => exact h
 | bad => exact h
theorem a6.bind {f : α → W → Res β} {R2 : List Addr → Hp → Hp → β → W → Prop} (h : a6 K I F G E R2 (r.bind f)) : a6 K I F G E (fun I' F' _ a w => a6 K I' F' G E R2 (f a w)) r := by
 cases r with
 | ok a w => exact fun I' F' H' e' q => a6.ext (K := K) (R := R2) h e'
 | sW x w => exact h
 | bad => exact h
end
def RV (K : PySem.W.Frag) (Q : VK) : List Addr → Hp → Hp → D → W → Prop := fun I' F' H' d _ => ∀ v, aJ K I' F' d v → Q v H'
structure aX where
 P : Program
 w : World
 K : PySem.W.Frag
 mg : Str → Option Value
 base : Heap
 k : Nat
 N : List Str
 sc : Scope
 fn : Str → Bool
structure Ctx (S : aX) (X : Cx) : Prop where
 P : X.prog = S.P
 w : X.w = S.w
 K : X.K = S.K
 mg : X.mg = S.mg
 base : X.base = S.base
 N : X.N = S.N
 sc : X.env.scope = S.sc
 fn : ∀ x, S.fn x = true → X.fn x = true
 calm : X.calm = true
 room : Room S.k X.A
 gds : X.A.guards = some []
 nd : X.N.Nodup
structure n9 (X : Cx) (E : XK) : Prop where
 tk : Takes X (fun cls d _ H => E cls d H)
 own : PassesOwn (model X.prog X.w) X.A X.env X.xe
abbrev ME := Sg → W → Res D
abbrev MT := Sg → W → Res Bool
abbrev MA := Sg → W → Res (List D)
inductive Fl where
 | nx (s : Sg) | rt (d : D) | bk (s : Sg) | ct (s : Sg)
abbrev MS := Sg → W → Res Fl
def RL (K : PySem.W.Frag) (Q : List V → Hp → Prop) : List Addr → Hp → Hp → List D → W → Prop := fun I' F' H' ds _ => ∀ vs, RepL K I' F' ds vs → Q vs H'
def RB (Q : Bool → Hp → Prop) : List Addr → Hp → Hp → Bool → W → Prop := fun _ _ H' b _ => Q b H'
def RFl (K : PySem.W.Frag) (Z : Ends) : List Addr → Hp → Hp → Fl → W → Prop := fun I' F' H' f _ => match f with
 | .nx s => ∀ s', eS K I' F' s s' → Z.nx s' H'
 | .rt d => ∀ v, aJ K I' F' d v → Z.rt v H'
 | .bk s => ∀ s', eS K I' F' s s' → Z.bk s' H'
 | .ct s => ∀ s', eS K I' F' s s' → Z.ct s' H'
def oC (K : PySem.W.Frag) (E : XK) (m : ME) : TE := fun σ H Q => ∃ I F G ds w, Rel K I F G w H ∧ eS K I F ds σ ∧ a6 K I F G E (RV K Q) (m ds w)
def KR (K : PySem.W.Frag) (E : XK) (m : MT) : TT := fun σ H Q => ∃ I F G ds w, Rel K I F G w H ∧ eS K I F ds σ ∧ a6 K I F G E (RB Q) (m ds w)
def VW (K : PySem.W.Frag) (E : XK) (m : MA) : TA := fun σ H Q => ∃ I F G ds w, Rel K I F G w H ∧ eS K I F ds σ ∧ a6 K I F G E (RL K Q) (m ds w)
def C2 (K : PySem.W.Frag) (E : XK) (m : MS) : TS := fun Z σ H => ∃ I F G ds w, Rel K I F G w H ∧ eS K I F ds σ ∧ a6 K I F G E (RFl K Z) (m ds w)
def JE (S : aX) (e : Expr) (m : ME) : Prop := ∀ X E, Ctx S X → n9 X E → PE X e (oC X.K E m)
def JT (S : aX) (e : Expr) (m : MT) : Prop := ∀ X E, Ctx S X → n9 X E → PT X e (KR X.K E m)
def JW (S : aX) (e : Expr) (m : MT) : Prop := ∀ X E, Ctx S X → n9 X E → PW X e (KR X.K E m)
def JA (S : aX) (es : List Expr) (m : MA) : Prop := ∀ X E, Ctx S X → n9 X E → PA X es (VW X.K E m)
def JS (S : aX) (st : Stmt) (m : MS) : Prop := ∀ X E, Ctx S X → n9 X E → PS X st (C2 X.K E m)
def tV (S : aX) (st : List Stmt) (m : MS) : Prop := ∀ X E, Ctx S X → n9 X E → PSs X st (C2 X.K E m)
section
variable {X : Cx} {e : Expr} {es : List Expr} {st : Stmt} {sts : List Stmt}
theorem cE {t t' : TE} (h : PE X e t) (k : ∀ σ H Q, t' σ H Q → t σ H Q) : PE X e t' := ⟨fun pins s σ H Q I q => h.run pins s σ H Q I (k σ H Q q)⟩
theorem xE {t t' : TT} (h : PT X e t) (k : ∀ σ H Q, t' σ H Q → t σ H Q) : PT X e t' := ⟨fun pins s σ H Q I q => h.run pins s σ H Q I (k σ H Q q)⟩
theorem L1 {t t' : TT} (h : PW X e t) (k : ∀ σ H Q, t' σ H Q → t σ H Q) : PW X e t' := ⟨fun wh pins s σ H Q I q => h.run wh pins s σ H Q I (k σ H Q q)⟩
theorem LX {t t' : TA} (h : PA X es t) (k : ∀ σ H Q, t' σ H Q → t σ H Q) : PA X es t' := ⟨fun pos pins s σ H Q I q => h.run pos pins s σ H Q I (k σ H Q q)⟩
theorem i9 {t t' : TS} (h : PS X st t) (k : ∀ D σ H, t' D σ H → t D σ H) : PS X st t' := ⟨fun pins s σ H D I q => h.run pins s σ H D I (k D σ H q)⟩
theorem z3 {t t' : TS} (h : PSs X sts t) (k : ∀ D σ H, t' D σ H → t D σ H) : PSs X sts t' := ⟨fun pins s σ H D I q => h.run pins s σ H D I (k D σ H q)⟩
end
def aB (i : Nat) : ME := fun σ w => match σ[i]? with
 | some (some d) => .ok d w
 | _ => .bad
def eC (d : D) : ME := fun _ w => .ok d w
section
variable {S : aX} {pos : Pos}
theorem X9 (i : Nat) {x : Str} (hN : S.N[i]? = some x) (hv : Vis S.sc x) (hd : (x == ("__debug__" : Str)) = false := by decide) (hcd : (x == ("__classdict__" : Str)) = false := by decide) : JE S (.Name x pos) (aB i) := by
 intro X E c xo
 refine cE (pe_var (i := i) (by rw [c.N]; exact hN) (by rw [c.sc]; exact hv) hd hcd) fun σ H Q h => ?_
 obtain ⟨I, F, G, ds, w, rel, rs, p⟩ := h
 unfold aB at p
 split at p
 ·rename_i d hi
  obtain ⟨v, hv, hr⟩ := rs.2 i d hi
  exact ⟨v, hv, p I F H .refl rel v hr⟩
 ·exact p.elim
theorem UY {e : Expr} {d : D} {v : V} (h : ∀ X, PE X e (tC v)) (hr : ∀ K I F, aJ K I F d v) : JE S e (eC d) := by
 intro X E c xo
 refine cE (h X) fun σ H Q h => ?_
 obtain ⟨I, F, G, ds, w, rel, rs, p⟩ := h
 exact p I F H .refl rel v (hr _ _ _)
theorem aG {i : Int} {j : Nat} : JE S (.Constant (.int i) j pos) (eC (.int i)) := UY (fun _ => pe_int) fun _ _ _ => by simp [aJ]
theorem lJ {b : Bool} {j : Nat} : JE S (.Constant (.bool b) j pos) (eC (.bl b)) := UY (fun _ => pe_bl) fun _ _ _ => by simp [aJ]
theorem kS {j : Nat} : JE S (.Constant .none j pos) (eC .non) := UY (fun _ => pe_non) fun _ _ _ => by simp [aJ]
theorem cH {x : Str} {j : Nat} : JE S (.Constant (.str x) j pos) (eC (.str x)) := UY (fun _ => pe_str) fun _ _ _ => by simp [aJ]
theorem WB {x : Str} {d : D} {v : V} {u : Value} (hg : S.sc.names.lookup x = some .globalImplicit) (hm : S.mg x = some u) (r : RelV v u) (hr : ∀ I F, aJ S.K I F d v) (hd : (x == ("__debug__" : Str)) = false := by decide) : JE S (.Name x pos) (eC d) := by
 intro X E c xo
 refine cE (pe_glob (x := x) (v := v) (u := u) (by show X.env.scope.names.lookup x = _; rw [c.sc]; exact hg) (by rw [c.mg]; exact hm) r hd) fun σ H Q h => ?_
 obtain ⟨I, F, G, ds, w, rel, rs, p⟩ := h
 exact p I F H .refl rel v (by rw [c.K]; exact hr _ _)
end
def aE (f : D → D → W → Res D) (a b : ME) : ME := fun σ w => (a σ w).bind fun x w1 => (b σ w1).bind fun y w2 => f x y w2
def sV (f : D → W → Res D) (a : ME) : ME := fun σ w => (a σ w).bind fun x w1 => f x w1
def RG (K : PySem.W.Frag) (E : XK) (f : D → D → W → Res D) : R2 := fun x y H Q => ∃ I F G d e w, Rel K I F G w H ∧ aJ K I F d x ∧ aJ K I F e y ∧ a6 K I F G E (RV K Q) (f d e w)
def ZY (K : PySem.W.Frag) (E : XK) (f : D → W → Res D) : V → Hp → VK → Prop := fun x H Q => ∃ I F G d w, Rel K I F G w H ∧ aJ K I F d x ∧ a6 K I F G E (RV K Q) (f d w)
def O2 (S : aX) (o : Value → Value → Sem Value) (f : D → D → W → Res D) : Prop := ∀ X E, Ctx S X → n9 X E → OpR X o (RG X.K E f)
def O1 (S : aX) (o : Value → Sem Value) (f : D → W → Res D) : Prop := ∀ X E, Ctx S X → n9 X E → UnR X o (ZY X.K E f)
section
variable {S : aX} {pos : Pos} {a b : Expr} {ma mb : ME}
theorem tY {K : PySem.W.Frag} {E : XK} {f : D → D → W → Res D} {σ : L2.St} {H : Hp} {Q : VK} (h : oC K E (aE f ma mb) σ H Q) : tOp (RG K E f) (oC K E ma) (oC K E mb) σ H Q := by
 obtain ⟨I, F, G, ds, w, rel, rs, p⟩ := h
 refine ⟨I, F, G, ds, w, rel, rs, (a6.bind p).mono fun I1 F1 H1 x w1 _ e1 rel1 p1 v rv => ?_⟩
 refine ⟨I1, F1, G, ds, w1, rel1, rs.ext e1, (a6.bind p1).mono fun I2 F2 H2 y w2 _ e2 rel2 p2 u ru => ?_⟩
 exact ⟨I2, F2, G, x, y, w2, rel2, aJ.ext e2 _ _ rv, ru, p2⟩
theorem bB {op : Operator} {f : D → D → W → Res D} (ho : O2 S (binaryOp op) f) (ha : JE S a ma) (hb : JE S b mb) : JE S (.BinOp a op b pos) (aE f ma mb) := fun X E c xo =>
 cE (pe_op (ho X E c xo) (ha X E c xo) (hb X E c xo)) fun _ _ _ h => tY h
theorem kT {op : CmpOp} {f : D → D → W → Res D} (ho : O2 S (compareOp op) f) (ha : JE S a ma) (hb : JE S b mb) (hm : behindInMarks op b = false := by first | exact nobehind _ (by decide) (by decide) | rfl) : JE S (.Compare a [op] [b] pos) (aE f ma mb) := fun X E c xo =>
 cE (pe_cmpR (ho X E c xo) (ha X E c xo) (hb X E c xo) hm) fun _ _ _ h => tY h
theorem L4 {op : UnaryOp} {f : D → W → Res D} (ho : O1 S (unaryOp op) f) (ha : JE S a ma) : JE S (.UnaryOp op a pos) (sV f ma) := fun X E c xo =>
 cE (pe_un (ho X E c xo) (ha X E c xo)) fun σ H Q h => by
  obtain ⟨I, F, G, ds, w, rel, rs, p⟩ := h
  refine ⟨I, F, G, ds, w, rel, rs, (a6.bind p).mono fun I1 F1 H1 x w1 _ e1 rel1 p1 v rv => ?_⟩
  exact ⟨I1, F1, G, x, w1, rel1, rv, p1⟩
def Z6 (d : D) (w : W) : Res Bool := match d with
 | .bl b => .ok b w
 | _ => .bad
def a8 (m : ME) : MT := fun σ w => (m σ w).bind Z6
theorem dZ {op : CmpOp} {f : D → D → W → Res D} (ho : O2 S (compareOp op) f) (ha : JE S a ma) (hb : JE S b mb) (hm : behindInMarks op b = false := by first | exact nobehind _ (by decide) (by decide) | rfl) : JT S (.Compare a [op] [b] pos) (a8 (aE f ma mb)) := fun X E c xo =>
 xE (pt_cmpR (ho X E c xo) (ha X E c xo) (hb X E c xo) hm) fun σ H Q h => by
  obtain ⟨I, F, G, ds, w, rel, rs, p⟩ := h
  show tOp _ _ _ σ H fun x H' => ∃ k, x = .bl k ∧ Q k H'
  refine tY ⟨I, F, G, ds, w, rel, rs, (a6.bind p).mono fun I1 F1 H1 x w1 _ e1 rel1 p1 v rv => ?_⟩
  cases x <;> first | exact p1.elim | skip
  simp only [aJ] at rv
  exact ⟨_, rv, p1 I1 F1 H1 .refl rel1⟩
end
mutual
def D.gN (f : Nat → Option PyData) : D → Option PyData
 | .non => some .none
 | .bl b => some (.bool b)
 | .int i => some (.int i)
 | .str x => some (.str x)
 | .ty _ => none
 | .con _ => none
 | .tup xs => (D.pysR f xs).map .tuple
 | .lst xs => (D.pysR f xs).map .list
 | .nG xs => (D.pysR f xs).map .list
 | .kK xs => (D.pysR f xs).map .tuple
 | .G1 _ _ => none
 | .ref i => f i
def D.pysR (f : Nat → Option PyData) : List D → Option (List PyData)
 | [] => some []
 | d :: ds => match D.gN f d, D.pysR f ds with
  | some p, some ps => some (p :: ps)
  | _, _ => none
end
def G5 : Nat → W → Nat → Option PyData
 | 0, _, _ => none
 | n + 1, w, i => match w[i]? with
  | some (.lst xs) => (D.pysR (G5 n w) xs).map .list
  | _ => none
def D.py (w : W) (d : D) : Option PyData := d.gN (G5 8 w)
section
variable {K : PySem.W.Frag} {I : List Addr} {F G H : Hp} {w : W}
theorem Rel.RQ (rel : Rel K I F G w H) {a : Addr} {vs : List V} (h : SqL K F a vs) : SqL K H a vs := by
 rcases h with (h | ⟨o, h⟩) | h
 ·exact .inl (.inl (rel.fz _ _ h))
 ·exact .inl (.inr ⟨o, rel.fz _ _ h⟩)
 ·exact .inr h
theorem Rel.KA (rel : Rel K I F G w H) {a : Addr} {vs : List V} (h : SqT K F a vs) : SqT K H a vs := by
 rcases h with (h | ⟨o, h⟩) | h
 ·exact .inl (.inl (rel.fz _ _ h))
 ·exact .inl (.inr ⟨o, rel.fz _ _ h⟩)
 ·exact .inr h
mutual
theorem OK (rel : Rel K I F G w H) {f : Nat → Option PyData} (hf : ∀ i a p, I[i]? = some a → f i = some p → Dp K H (.ref a) p) : ∀ (d : D) (v : V) (p : PyData), aJ K I F d v → d.gN f = some p → Dp K H v p
 | .non, v, p, h, e => by simp only [aJ] at h; simp only [D.gN, aj] at e; subst h; subst e; exact .non
 | .bl b, v, p, h, e => by simp only [aJ] at h; simp only [D.gN, aj] at e; subst h; subst e; exact .bl b
 | .int i, v, p, h, e => by simp only [aJ] at h; simp only [D.gN, aj] at e; subst h; subst e; exact .int i
 | .str x, v, p, h, e => by simp only [aJ] at h; simp only [D.gN, aj] at e; subst h; subst e; exact .str x
 | .ty _, v, p, h, e => by simp [D.gN] at e
 | .con _, v, p, h, e => by simp [D.gN] at e
 | .G1 _ _, v, p, h, e => by simp [D.gN] at e
 | .tup xs, v, p, h, e => by
  simp only [aJ] at h
  obtain ⟨a, vs, rfl, h2, h3⟩ := h
  simp only [D.gN, ao] at e
  obtain ⟨ps, e1, rfl⟩ := e
  exact .tup (.of (rel.fz _ _ h2)) (dp_pysR rel hf xs vs ps h3 e1)
 | .kK xs, v, p, h, e => by
  simp only [aJ] at h
  obtain ⟨a, vs, rfl, h2, h3⟩ := h
  simp only [D.gN, ao] at e
  obtain ⟨ps, e1, rfl⟩ := e
  exact .tup (rel.KA h2) (dp_pysR rel hf xs vs ps h3 e1)
 | .lst xs, v, p, h, e => by
  simp only [aJ] at h
  obtain ⟨a, vs, rfl, h2, h3⟩ := h
  simp only [D.gN, ao] at e
  obtain ⟨ps, e1, rfl⟩ := e
  exact .lst (.of (rel.fz _ _ h2)) (dp_pysR rel hf xs vs ps h3 e1)
 | .nG xs, v, p, h, e => by
  simp only [aJ] at h
  obtain ⟨a, vs, rfl, h2, h3⟩ := h
  simp only [D.gN, ao] at e
  obtain ⟨ps, e1, rfl⟩ := e
  exact .lst (rel.RQ h2) (dp_pysR rel hf xs vs ps h3 e1)
 | .ref i, v, p, h, e => by
  simp only [aJ] at h
  obtain ⟨a, rfl, h2⟩ := h
  simp only [D.gN] at e
  exact hf i a p h2 e
theorem dp_pysR (rel : Rel K I F G w H) {f : Nat → Option PyData} (hf : ∀ i a p, I[i]? = some a → f i = some p → Dp K H (.ref a) p) : ∀ (ds : List D) (vs : List V) (ps : List PyData), RepL K I F ds vs → D.pysR f ds = some ps → DpAll K H vs ps
 | [], vs, ps, h, e => by simp only [RepL] at h; simp only [D.pysR, aj] at e; subst h; subst e; exact .nil
 | d :: ds, vs, ps, h, e => by
  simp only [RepL] at h
  obtain ⟨v, r, rfl, h2, h3⟩ := h
  simp only [D.pysR] at e
  split at e
  ·rename_i p ps' e1 e2
   cases e
   exact .cons (OK rel hf d v p h2 e1) (dp_pysR rel hf ds r ps' h3 e2)
  ·cases e
end
theorem W0 (rel : Rel K I F G w H) : ∀ (n : Nat) (i : Nat) (a : Addr) (p : PyData), I[i]? = some a → G5 n w i = some p → Dp K H (.ref a) p
 | 0, i, a, p, _, e => by simp [G5] at e
 | n + 1, i, a, p, h, e => by
  simp only [G5] at e
  split at e
  ·rename_i xs hw
   simp only [ao] at e
   obtain ⟨ps, e1, rfl⟩ := e
   obtain ⟨u, hu, ho⟩ := rel.ob i a _ h hw
   obtain ⟨vs, rfl, h3⟩ := ho
   exact .lst (.of hu) (dp_pysR rel (fun i a p => W0 rel n i a p) xs vs ps h3 e1)
  ·cases e
theorem HX (rel : Rel K I F G w H) {d : D} {v : V} {p : PyData} (h : aJ K I F d v) (e : d.py w = some p) : Dp K H v p :=
 OK rel (fun i a p => W0 rel 8 i a p) d v p h e
end
def bE (x y : D) (w : W) : Res D := match x, y with
 | .int a, .int b => .ok (.int (a + b)) w
 | .str a, .str b => if a.length + b.length ≤ sizeLine then .ok (.str (a ++ b)) w else .bad
 | .tup a, .tup b => if a.length + b.length ≤ sizeLine then .ok (.tup (a ++ b)) w else .bad
 | .lst a, .lst b => if a.length + b.length ≤ sizeLine then .ok (.lst (a ++ b)) w else .bad
 | _, _ => .bad
def iB (x y : D) (w : W) : Res D := match x, y with
 | .int a, .int b => .ok (.int (a - b)) w
 | _, _ => .bad
def zM (a b : Int) : Bool := (decide (-(2 ^ 64) < a) && decide (a < 2 ^ 64)) || (decide (-(2 ^ 64) < b) && decide (b < 2 ^ 64))
def mulM (x y : D) (w : W) : Res D := match x, y with
 | .int a, .int b => if zM a b then .ok (.int (a * b)) w else .bad
 | .lst a, .int k => if -(2 ^ 63) ≤ k ∧ k < 2 ^ 63 ∧ a.length * k.toNat ≤ sizeLine then .ok (.lst (List.replicate k.toNat a).flatten) w else .bad
 | _, _ => .bad
def rC (x y : D) (w : W) : Res D := match x, y with
 | .int a, .int b => if 0 < b ∧ b < 1073741824 then .ok (.int (a / b)) w else .bad
 | _, _ => .bad
def iU (x y : D) (w : W) : Res D := match x, y with
 | .int a, .int b => if 0 < b then .ok (.int (a % b)) w else .bad
 | _, _ => .bad
def JZ (x y : D) (w : W) : Res D := match x, y with
 | .int a, .int b => if 0 ≤ b ∧ b ≤ 1000000 ∧ a.natAbs < 2 ^ 64 then .ok (.int (a ^ b.toNat)) w else .bad
 | _, _ => .bad
def nR (x : D) (w : W) : Res D := match x with
 | .int a => .ok (.int (-a)) w
 | _ => .bad
def pO (x y : D) (w : W) : Option Bool := match x.py w, y.py w with
 | some p, some q => if SeqAt.shaped p = true ∧ SeqAt.shaped q = true then some (PyData.eqv p q) else none
 | _, _ => none
def X7 (x y : D) (w : W) : Res D := match pO x y w with
 | some b => .ok (.bl b) w
 | none => .bad
def XY (x y : D) (w : W) : Res D := match pO x y w with
 | some b => .ok (.bl (!b)) w
 | none => .bad
def P4 : D → D → Option Bool
 | .tup xs, .tup [] => some xs.isEmpty
 | .lst xs, .lst [] => some xs.isEmpty
 | _, _ => none
def rA (x y : D) (w : W) : Option Bool := match pO x y w with
 | some b => some b
 | none => P4 x y
def fE (x y : D) (w : W) : Res D := match rA x y w with
 | some b => .ok (.bl b) w
 | none => .bad
def kJ (x y : D) (w : W) : Res D := match rA x y w with
 | some b => .ok (.bl (!b)) w
 | none => .bad
def JY (x y : D) (w : W) : Res D := match x, y with
 | .int a, .int b => .ok (.bl (decide (a ≤ b))) w
 | _, _ => .bad
def BU (x y : D) (w : W) : Res D := match x, y with
 | .int a, .int b => .ok (.bl (decide (b < a))) w
 | _, _ => .bad
def V6 (x y : D) (w : W) : Res D := match x, y with
 | .int a, .int b => .ok (.bl (decide (b ≤ a))) w
 | _, _ => .bad
def D.isNon : D → Bool
 | .non => true
 | _ => false
def TC (x y : D) (w : W) : Res D := match x, y with
 | x, .non => .ok (.bl x.isNon) w
 | .bl a, .bl b => .ok (.bl (decide (a = b))) w
 | _, _ => .bad
def mH (x y : D) (w : W) : Res D := match x, y with
 | x, .non => .ok (.bl (!x.isNon)) w
 | .bl a, .bl b => .ok (.bl (!decide (a = b))) w
 | _, _ => .bad
def D.items (w : W) : D → Option (List D)
 | .tup xs => some xs
 | .lst xs => some xs
 | .nG xs => some xs
 | .kK xs => some xs
 | .ref i => match w[i]? with
  | some (.lst xs) => some xs
  | _ => none
 | _ => none
section
variable {S : aX}
theorem gP {o : Value → Value → Sem Value} {f : D → D → W → Res D}
  (h : ∀ (X : Cx) (E : XK), Ctx S X → n9 X E → ∀ (I : List Addr) (F G : Hp) (d e : D) (w : W) (H : Hp) (x y : V) (Q : VK), Rel X.K I F G w H → aJ X.K I F d x → aJ X.K I F e y → a6 X.K I F G E (RV X.K Q) (f d e w) →
   ∃ r : R2, OpR X o r ∧ r x y H Q) : O2 S o f := fun X E c xo pins s σ H x y v u Q I rx ry ⟨J, F, G, d, e, w, rel, rd, re, p⟩ => by
 obtain ⟨r, ho, hr⟩ := h X E c xo J F G d e w H x y Q rel rd re p
 exact ho pins s σ H x y v u Q I rx ry hr
theorem sA {o : Value → Value → Sem Value} {f : D → D → W → Res D} {C : Int → Int → Prop} {g : Int → Int → V} {gd : Int → Int → D} (ho : ∀ X : Cx, OpR X o (rI C g))
  (hg : ∀ K I F a b, aJ K I F (gd a b) (g a b)) (hf : ∀ d e w r, f d e w = r → r = .bad ∨ ∃ a b, d = .int a ∧ e = .int b ∧ C a b ∧ r = .ok (gd a b) w) : O2 S o f :=
 gP fun X E c xo I F G d e w H x y Q rel rd re p => by
  rcases hf d e w _ rfl with h | ⟨a, b, rfl, rfl, hc, h⟩
  ·rw [h] at p; exact p.elim
  ·rw [h] at p
   simp only [aJ] at rd re
   exact ⟨_, ho X, a, b, rd, re, hc, p I F H .refl rel _ (hg _ _ _ _ _)⟩
theorem K6 {o : Value → Value → Sem Value} {X : Cx} {g : Int → Int → V} (h : OpR X o (rI0 g)) : OpR X o (rI (fun _ _ => True) g) := fun pins s σ H x y v u Q I rx ry ⟨i, j, e1, e2, _, q⟩ => h pins s σ H x y v u Q I rx ry ⟨i, j, e1, e2, q⟩
theorem B9 : O2 S (binaryOp .Sub) iB := sA (gd := fun a b => .int (a - b)) (fun _ => K6 op_sub) (fun _ _ _ _ _ => by simp [aJ]) fun d e w r h => by
 subst h; cases d <;> cases e <;> simp [iB]
theorem EI : O2 S (compareOp .LtE) JY := sA (gd := fun a b => .bl (decide (a ≤ b))) (fun _ => K6 op_le) (fun _ _ _ _ _ => by simp [aJ]) fun d e w r h => by
 subst h; cases d <;> cases e <;> simp [JY]
theorem WT : O2 S (compareOp .Gt) BU := sA (gd := fun a b => .bl (decide (b < a))) (fun _ => K6 op_gt) (fun _ _ _ _ _ => by simp [aJ]) fun d e w r h => by
 subst h; cases d <;> cases e <;> simp [BU]
theorem aAF : O2 S (compareOp .GtE) V6 := sA (gd := fun a b => .bl (decide (b ≤ a))) (fun _ => K6 op_ge) (fun _ _ _ _ _ => by simp [aJ]) fun d e w r h => by
 subst h; cases d <;> cases e <;> simp [V6]
theorem K7 : O2 S (binaryOp .FloorDiv) rC := sA (gd := fun a b => .int (a / b)) (fun _ => op_fdiv) (fun _ _ _ _ _ => by simp [aJ]) fun d e w r h => by
 subst h; cases d <;> cases e <;> simp only [rC, true_or, reduceCtorEq, false_and, and_false, exists_const, or_false]
 rename_i a b
 by_cases hc : 0 < b ∧ b < 1073741824
 ·rw [if_pos hc]; exact .inr ⟨a, b, rfl, rfl, hc, rfl⟩
 ·rw [if_neg hc]; exact .inl rfl
theorem sO : O2 S (binaryOp .Mod) iU := sA (gd := fun a b => .int (a % b)) (fun _ => op_mod) (fun _ _ _ _ _ => by simp [aJ]) fun d e w r h => by
 subst h; cases d <;> cases e <;> simp only [iU, true_or, reduceCtorEq, false_and, and_false, exists_const, or_false]
 rename_i a b
 by_cases hc : 0 < b
 ·rw [if_pos hc]; exact .inr ⟨a, b, rfl, rfl, hc, rfl⟩
 ·rw [if_neg hc]; exact .inl rfl
theorem ZN : O2 S (binaryOp .Pow) JZ := sA (gd := fun a b => .int (a ^ b.toNat)) (fun _ => op_pow) (fun _ _ _ _ _ => by simp [aJ]) fun d e w r h => by
 subst h; cases d <;> cases e <;> simp only [JZ, true_or, reduceCtorEq, false_and, and_false, exists_const, or_false]
 rename_i a b
 by_cases hc : 0 ≤ b ∧ b ≤ 1000000 ∧ a.natAbs < 2 ^ 64
 ·rw [if_pos hc]; exact .inr ⟨a, b, rfl, rfl, hc, rfl⟩
 ·rw [if_neg hc]; exact .inl rfl
theorem l5 {K : PySem.W.Frag} {I : List Addr} {F G H : Hp} {E : XK} {w : W} {ds : List D} {vs : List V} {Q : VK} (rel : Rel K I F G w H) (r : RepL K I F ds vs) (p : a6 K I F G E (RV K Q) (.ok (.lst ds) w)) : ∀ q, H q = none → Q (.ref q) (upd H q (.lst vs)) := fun q hq => by
 have hF : F q = none := by
  cases h : F q with
  | none => rfl
  | some u => rw [rel.fz _ _ h] at hq; cases hq
 have e : Ext I F I (upd F q (.lst vs)) := ⟨List.prefix_refl _, fun a u h => by rw [upd_ne (ne_of_none h hF)]; exact h⟩
 refine p I (upd F q (.lst vs)) (upd H q (.lst vs)) e ⟨rel.len, rel.nd, fun i a o h1 h2 => ?_, fun a u h => ?_, fun i a o h h0 hf => ?_, fun a u h => ?_, fun a u h => ?_, rel.gt⟩ _ ?_
 ·obtain ⟨u, h3, h4⟩ := rel.ob i a o h1 h2
  exact ⟨u, by rw [upd_ne (ne_of_none h3 hq)]; exact h3, iZ.ext e h4⟩
 ·by_cases ha : a = q
  ·subst ha; rw [upd_same] at h ⊢; exact h
  ·rw [upd_ne ha] at h ⊢; exact rel.fz a u h
 ·obtain ⟨u, h3, _⟩ := rel.ob i a o h h0
  rw [upd_ne (ne_of_none h3 hq)]; exact rel.ap i a o h h0 hf
 ·rw [upd_ne (ne_of_none (rel.gz a u h) hq)]; exact rel.gz a u h
 ·rw [upd_ne (ne_of_none (rel.gz a u h) hq)]; exact rel.gf a u h
 ·simp only [aJ]
  exact ⟨q, vs, rfl, upd_same, RepL.ext e _ _ r⟩
theorem nS {K : PySem.W.Frag} {I : List Addr} {F G H : Hp} {E : XK} {w : W} {ds : List D} {vs : List V} {Q : VK} (rel : Rel K I F G w H) (r : RepL K I F ds vs) (p : a6 K I F G E (RV K Q) (.ok (.tup ds) w)) : ∀ q, H q = none → Q (.ref q) (upd H q (.tup vs)) := fun q hq => by
 have hF : F q = none := by
  cases h : F q with
  | none => rfl
  | some u => rw [rel.fz _ _ h] at hq; cases hq
 have e : Ext I F I (upd F q (.tup vs)) := ⟨List.prefix_refl _, fun a u h => by rw [upd_ne (ne_of_none h hF)]; exact h⟩
 refine p I (upd F q (.tup vs)) (upd H q (.tup vs)) e ⟨rel.len, rel.nd, fun i a o h1 h2 => ?_, fun a u h => ?_, fun i a o h h0 hf => ?_, fun a u h => ?_, fun a u h => ?_, rel.gt⟩ _ ?_
 ·obtain ⟨u, h3, h4⟩ := rel.ob i a o h1 h2
  exact ⟨u, by rw [upd_ne (ne_of_none h3 hq)]; exact h3, iZ.ext e h4⟩
 ·by_cases ha : a = q
  ·subst ha; rw [upd_same] at h ⊢; exact h
  ·rw [upd_ne ha] at h ⊢; exact rel.fz a u h
 ·obtain ⟨u, h3, _⟩ := rel.ob i a o h h0
  rw [upd_ne (ne_of_none h3 hq)]; exact rel.ap i a o h h0 hf
 ·rw [upd_ne (ne_of_none (rel.gz a u h) hq)]; exact rel.gz a u h
 ·rw [upd_ne (ne_of_none (rel.gz a u h) hq)]; exact rel.gf a u h
 ·simp only [aJ]
  exact ⟨q, vs, rfl, upd_same, RepL.ext e _ _ r⟩
theorem RepL.eq_nil {K : PySem.W.Frag} {I : List Addr} {F : Hp} {ds : List D} (r : RepL K I F ds []) : ds = [] := by
 have := r.length
 exact List.eq_nil_of_length_eq_zero (by simpa using this)
theorem cU : O2 S (binaryOp .Add) bE := gP fun X E c xo I F G d e w H x y Q rel rd re p => by
 cases d <;> cases e <;> first | exact p.elim | skip
 ·simp only [aJ] at rd re
  exact ⟨_, op_add, _, _, rd, re, p I F H .refl rel _ (by simp [aJ])⟩
 ·rename_i a b
  simp only [aJ] at rd re
  simp only [bE] at p
  split at p
  ·rename_i hl
   exact ⟨_, op_add_str, _, _, rd, re, hl, p I F H .refl rel _ (by simp [aJ])⟩
  ·exact p.elim
 ·rename_i a b
  simp only [aJ] at rd re
  obtain ⟨q, vs, rfl, h1, h2⟩ := rd
  obtain ⟨q', vs', rfl, h1', h2'⟩ := re
  simp only [bE] at p
  split at p
  ·rename_i hl
   refine ⟨_, op_catA, q, q', vs, vs', rfl, rfl, .of (rel.fz _ _ h1), .of (rel.fz _ _ h1'), by rw [← h2.length, ← h2'.length]; exact hl, fun hn => ?_, fun _ hn => ?_, fun _ _ => ?_⟩
   ·subst hn
    obtain rfl := h2.eq_nil
    exact p I F H .refl rel _ (by simp only [aJ, List.nil_append]; exact ⟨_, _, rfl, h1', h2'⟩)
   ·subst hn
    obtain rfl := h2'.eq_nil
    exact p I F H .refl rel _ (by simp only [aJ, List.append_nil]; exact ⟨_, _, rfl, h1, h2⟩)
   ·exact nS rel (h2.append h2') p
  ·exact p.elim
 ·rename_i a b
  simp only [aJ] at rd re
  obtain ⟨q, vs, rfl, h1, h2⟩ := rd
  obtain ⟨q', vs', rfl, h1', h2'⟩ := re
  simp only [bE] at p
  split at p
  ·rename_i hl
   exact ⟨_, op_cat, q, q', vs, vs', rfl, rfl, rel.fz _ _ h1, rel.fz _ _ h1', by rw [← h2.length, ← h2'.length]; exact hl, l5 rel (h2.append h2') p⟩
  ·exact p.elim
theorem RepL.rep {K : PySem.W.Frag} {I : List Addr} {F : Hp} {ds : List D} {vs : List V} (r : RepL K I F ds vs) : ∀ n : Nat, RepL K I F (List.replicate n ds).flatten (List.replicate n vs).flatten
 | 0 => by simp [RepL]
 | n + 1 => by
  rw [List.replicate_succ, List.replicate_succ, List.flatten_cons, List.flatten_cons]
  exact r.append (r.rep n)
theorem sS : O2 S (binaryOp .Mult) mulM := gP fun X E c xo I F G d e w H x y Q rel rd re p => by
 cases d <;> cases e <;> first | exact p.elim | skip
 ·rename_i a b
  simp only [aJ] at rd re
  simp only [mulM] at p
  split at p
  ·rename_i hl
   refine ⟨_, op_mul, _, _, rd, re, ?_, p I F H .refl rel _ (by simp [aJ])⟩
   simpa [zM, CMul] using hl
  ·exact p.elim
 ·rename_i a b
  simp only [aJ] at rd re
  obtain ⟨q, vs, rfl, h1, h2⟩ := rd
  simp only [mulM] at p
  split at p
  ·rename_i hl
   exact ⟨_, op_rep, q, b, vs, rfl, re, rel.fz _ _ h1, hl.1, hl.2.1, by rw [← h2.length]; exact hl.2.2, l5 rel (h2.rep _) p⟩
  ·exact p.elim
theorem YO : O2 S (compareOp .Eq) X7 := gP fun X E c xo I F G d e w H x y Q rel rd re p => by
 unfold X7 pO at p
 split at p
 ·rename_i b hb
  split at hb
  ·rename_i p1 q1 e1 e2
   split at hb
   ·rename_i hs
    cases hb
    exact ⟨_, op_eqD c.room.units, p1, q1, HX rel rd e1, HX rel re e2, hs.1, hs.2, p I F H .refl rel _ (by simp [aJ])⟩
   ·cases hb
  ·cases hb
 ·exact p.elim
theorem YX : O2 S (compareOp .NotEq) XY := gP fun X E c xo I F G d e w H x y Q rel rd re p => by
 unfold XY pO at p
 split at p
 ·rename_i b hb
  split at hb
  ·rename_i p1 q1 e1 e2
   split at hb
   ·rename_i hs
    cases hb
    exact ⟨_, op_neD c.room.units, p1, q1, HX rel rd e1, HX rel re e2, hs.1, hs.2, p I F H .refl rel _ (by simp [aJ])⟩
   ·cases hb
  ·cases hb
 ·exact p.elim
theorem A4 {K : PySem.W.Frag} {I : List Addr} {F : Hp} {d : D} {v : V} (h : aJ K I F d v) : decide (v = .non) = d.isNon := by
 cases d <;> simp only [aJ] at h
 case non => subst h; rfl
 case bl => subst h; rfl
 case int => subst h; rfl
 case str => subst h; rfl
 case ty => subst h; rfl
 case con => subst h; rfl
 case tup => obtain ⟨a, vs, rfl, _⟩ := h; rfl
 case lst => obtain ⟨a, vs, rfl, _⟩ := h; rfl
 case nG => obtain ⟨a, vs, rfl, _⟩ := h; rfl
 case kK => obtain ⟨a, vs, rfl, _⟩ := h; rfl
 case G1 => obtain ⟨a, vs, rfl, _⟩ := h; rfl
 case ref => obtain ⟨a, rfl, _⟩ := h; rfl
theorem T3 {x : D} {w : W} : TC x .non w = .ok (.bl x.isNon) w := by cases x <;> rfl
theorem JJ {x : D} {w : W} : mH x .non w = .ok (.bl (!x.isNon)) w := by cases x <;> rfl
theorem zR {n : Nat} {xs : List D} (h : n = xs.length) : ((List.range (min n 0)).all (fun _ => true) && n == 0) = xs.isEmpty := by
 subst h
 cases xs <;> simp
theorem xA {X : Cx} {pins : List (Addr × Obj)} {σ : L2.St} {H : Hp} {s : Shared} (J : Inv X pins σ H s) {a : Addr} {vs : List V} (h : H a = some (.tup vs)) : ∃ its : Array Value, s.heap.IsTuple a its ∧ its.size = vs.length := by
 obtain ⟨its, rv, ht, _⟩ := J.tuple (show SqT X.K H a vs from .of h)
 refine ⟨its.toArray, ht, ?_⟩
 rw [List.size_toArray]
 exact (Vals.length rv).symm
theorem xF {X : Cx} {pins : List (Addr × Obj)} {σ : L2.St} {H : Hp} {s : Shared} (J : Inv X pins σ H s) {a : Addr} {vs : List V} (h : H a = some (.lst vs)) : ∃ its : Array Value, s.heap.IsList a its ∧ its.size = vs.length := by
 obtain ⟨its, rv, ⟨o, n, ho, hc, _, hd⟩, _⟩ := J.list (show SqL X.K H a vs from .of h)
 refine ⟨its.toArray, ⟨o, ho, hc, n, hd⟩, ?_⟩
 rw [List.size_toArray]
 exact (Vals.length rv).symm
theorem rJ : O2 S (compareOp .Eq) fE := fun X E c xo pins s σ H x y v u Q J rx ry ⟨I, F, G, d, e, w, rel, rd, re, p⟩ => by
 unfold fE rA at p
 cases h0 : pO d e w with
 | some b =>
  rw [h0] at p
  exact YO X E c xo pins s σ H x y v u Q J rx ry ⟨I, F, G, d, e, w, rel, rd, re, by unfold X7; rw [h0]; exact p⟩
 | none =>
  rw [h0] at p
  simp only at p
  have hu : X.A.units < cLine := by have := c.room.units; omega
  unfold P4 at p
  split at p
  ·rename_i b hb
   split at hb
   ·rename_i xs
    cases hb
    simp only [aJ, RepL] at rd re
    obtain ⟨a, vs, rfl, h2, h3⟩ := rd
    obtain ⟨b, us, rfl, h4, rfl⟩ := re
    obtain rfl : v = Value.ref a := rx
    obtain rfl : u = Value.ref b := ry
    obtain ⟨i1, t1, l1⟩ := xA J (rel.fz _ _ h2)
    obtain ⟨i2, t2, l2⟩ := xA J (rel.fz _ _ h4)
    have z : i2.size = 0 := l2
    refine SeqAt.eq_tupleAt (e := fun _ => true) t1 t2 hu (fun j h1 h2 => absurd h2 (by omega)) ?_
    rw [z, zR (l1.trans h3.length.symm)]
    exact ⟨.bl xs.isEmpty, H, J, rfl, p I F H .refl rel _ (by simp [aJ])⟩
   ·rename_i xs
    cases hb
    simp only [aJ, RepL] at rd re
    obtain ⟨a, vs, rfl, h2, h3⟩ := rd
    obtain ⟨b, us, rfl, h4, rfl⟩ := re
    obtain rfl : v = Value.ref a := rx
    obtain rfl : u = Value.ref b := ry
    obtain ⟨i1, t1, l1⟩ := xF J (rel.fz _ _ h2)
    obtain ⟨i2, t2, l2⟩ := xF J (rel.fz _ _ h4)
    have z : i2.size = 0 := l2
    have lx : i1.size = xs.length := l1.trans h3.length.symm
    cases xs with
    | nil =>
     refine SeqAt.eq_listAt (e := fun _ => true) t1 t2 (lx.trans z.symm) hu (fun j h1 h2 => absurd h2 (by omega)) ?_
     have : (List.range i1.size).all (fun _ => true) = true := by simp
     rw [this]
     exact ⟨.bl true, H, J, rfl, p I F H .refl rel _ (by simp [aJ])⟩
    | cons x xs =>
     refine SeqAt.eq_list_lengthsAt t1 t2 (by rw [lx, z]; rfl) hu ?_
     exact ⟨.bl false, H, J, rfl, p I F H .refl rel _ (by simp [aJ])⟩
   ·cases hb
  ·exact p.elim
theorem rG : O2 S (compareOp .NotEq) kJ := fun X E c xo pins s σ H x y v u Q J rx ry ⟨I, F, G, d, e, w, rel, rd, re, p⟩ => by
 unfold kJ rA at p
 cases h0 : pO d e w with
 | some b =>
  rw [h0] at p
  exact YX X E c xo pins s σ H x y v u Q J rx ry ⟨I, F, G, d, e, w, rel, rd, re, by unfold XY; rw [h0]; exact p⟩
 | none =>
  rw [h0] at p
  simp only at p
  have hu : X.A.units < cLine := by have := c.room.units; omega
  unfold P4 at p
  split at p
  ·rename_i b hb
   split at hb
   ·rename_i xs
    cases hb
    simp only [aJ, RepL] at rd re
    obtain ⟨a, vs, rfl, h2, h3⟩ := rd
    obtain ⟨b, us, rfl, h4, rfl⟩ := re
    obtain rfl : v = Value.ref a := rx
    obtain rfl : u = Value.ref b := ry
    obtain ⟨i1, t1, l1⟩ := xA J (rel.fz _ _ h2)
    obtain ⟨i2, t2, l2⟩ := xA J (rel.fz _ _ h4)
    have z : i2.size = 0 := l2
    refine SeqAt.RcNeAt.tuples (e := fun _ => true) t1 t2 hu (fun j h1 h2 => absurd h2 (by omega)) _ _ _ _ ?_
    rw [z, zR (l1.trans h3.length.symm)]
    exact ⟨.bl (!xs.isEmpty), H, J, rfl, p I F H .refl rel _ (by simp [aJ])⟩
   ·rename_i xs
    cases hb
    simp only [aJ, RepL] at rd re
    obtain ⟨a, vs, rfl, h2, h3⟩ := rd
    obtain ⟨b, us, rfl, h4, rfl⟩ := re
    obtain rfl : v = Value.ref a := rx
    obtain rfl : u = Value.ref b := ry
    obtain ⟨i1, t1, l1⟩ := xF J (rel.fz _ _ h2)
    obtain ⟨i2, t2, l2⟩ := xF J (rel.fz _ _ h4)
    have z : i2.size = 0 := l2
    have lx : i1.size = xs.length := l1.trans h3.length.symm
    cases xs with
    | nil =>
     refine SeqAt.RcNeAt.lists (e := fun _ => true) t1 t2 (lx.trans z.symm) hu (fun j h1 h2 => absurd h2 (by omega)) _ _ _ _ ?_
     have : (List.range i1.size).all (fun _ => true) = true := by simp
     rw [this]
     exact ⟨.bl false, H, J, rfl, p I F H .refl rel _ (by simp [aJ])⟩
    | cons x xs =>
     refine SeqAt.RcNeAt.lists_lengths t1 t2 (by rw [lx, z]; rfl) hu _ _ _ _ ?_
     exact ⟨.bl true, H, J, rfl, p I F H .refl rel _ (by simp [aJ])⟩
   ·cases hb
  ·exact p.elim
theorem W3 : O2 S (compareOp .Is) TC := gP fun X E c xo I F G d e w H x y Q rel rd re p => by
 cases e
 case non =>
  simp only [T3] at p
  simp only [aJ] at re
  exact ⟨_, op_isN, re, p I F H .refl rel _ (by simp [aJ, A4 rd])⟩
 case bl b =>
  cases d <;> first | exact p.elim | skip
  simp only [aJ] at rd re
  exact ⟨_, op_isBl, _, _, rd, re, p I F H .refl rel _ (by simp [aJ])⟩
 all_goals (cases d <;> exact p.elim)
theorem xS : O2 S (compareOp .IsNot) mH := gP fun X E c xo I F G d e w H x y Q rel rd re p => by
 cases e
 case non =>
  simp only [JJ] at p
  simp only [aJ] at re
  exact ⟨_, op_notN, re, p I F H .refl rel _ (by simp [aJ, A4 rd])⟩
 case bl b =>
  cases d <;> first | exact p.elim | skip
  simp only [aJ] at rd re
  exact ⟨_, op_notBl, _, _, rd, re, p I F H .refl rel _ (by simp [aJ])⟩
 all_goals (cases d <;> exact p.elim)
theorem DQ : O1 S (unaryOp .USub) nR := fun X E c xo pins s σ H x v Q I rx ⟨J, F, G, d, w, rel, rd, p⟩ => by
 cases d <;> first | exact p.elim | skip
 simp only [aJ] at rd
 exact un_neg pins s σ H x v Q I rx ⟨_, rd, p J F H .refl rel _ (by simp [aJ])⟩
end
def kR (d : D) (w : W) : Option Bool := match d with
 | .non => some false
 | .bl b => some b
 | .int i => some (i != 0)
 | .str x => if x.length ≤ sizeLine then some ((x.length : Int) != 0) else none
 | .tup xs => some (!xs.isEmpty)
 | .lst xs => some (!xs.isEmpty)
 | .nG xs => some (!xs.isEmpty)
 | .kK xs => some (!xs.isEmpty)
 | .ref i => (match w[i]? with
  | some (.lst xs) => some (!xs.isEmpty)
  | some (.dK kvs) => some (!kvs.isEmpty)
  | _ => none)
 | _ => none
theorem RepL.isEmpty {K : PySem.W.Frag} {I : List Addr} {F : Hp} {ds : List D} {vs : List V} (r : RepL K I F ds vs) : vs.isEmpty = ds.isEmpty := by
 cases ds with
 | nil => simp only [RepL] at r; subst r; rfl
 | cons d ds => simp only [RepL] at r; obtain ⟨v, t, rfl, _⟩ := r; rfl
theorem aQ.isEmpty {κ : Type} {K : PySem.W.Frag} {I : List Addr} {F : Hp} {ds : List (κ × D)} {vs : List (κ × V)} (r : aQ K I F ds vs) : vs.isEmpty = ds.isEmpty := by
 cases ds with
 | nil => simp only [aQ] at r; subst r; rfl
 | cons d ds => obtain ⟨k, d⟩ := d; simp only [aQ] at r; obtain ⟨v, t, rfl, _⟩ := r; rfl
theorem TV {K : PySem.W.Frag} {I : List Addr} {F G H : Hp} {w : W} (rel : Rel K I F G w H) {d : D} {v : V} (h : aJ K I F d v) {b : Bool} (e : kR d w = some b) : TruV K v H b := by
 cases d <;> simp only [aJ] at h
 case non => subst h; simp only [kR, aj] at e; exact e.symm
 case bl => subst h; simp only [kR, aj] at e; exact e.symm
 case int => subst h; simp only [kR, aj] at e; exact e.symm
 case str x =>
  subst h
  simp only [kR] at e
  split at e
  ·rename_i hl
   cases e; exact ⟨hl, rfl⟩
  ·cases e
 case ty => cases e
 case con => cases e
 case G1 => cases e
 case tup xs =>
  obtain ⟨a, vs, rfl, h1, h2⟩ := h
  simp only [kR, aj] at e
  exact .inr (.inl ⟨vs, .of (rel.fz _ _ h1), by rw [h2.isEmpty]; exact e.symm⟩)
 case kK xs =>
  obtain ⟨a, vs, rfl, h1, h2⟩ := h
  simp only [kR, aj] at e
  exact .inr (.inl ⟨vs, rel.KA h1, by rw [h2.isEmpty]; exact e.symm⟩)
 case lst xs =>
  obtain ⟨a, vs, rfl, h1, h2⟩ := h
  simp only [kR, aj] at e
  exact .inl ⟨vs, .of (rel.fz _ _ h1), by rw [h2.isEmpty]; exact e.symm⟩
 case nG xs =>
  obtain ⟨a, vs, rfl, h1, h2⟩ := h
  simp only [kR, aj] at e
  exact .inl ⟨vs, rel.RQ h1, by rw [h2.isEmpty]; exact e.symm⟩
 case ref i =>
  obtain ⟨a, rfl, h1⟩ := h
  simp only [kR] at e
  split at e
  ·rename_i xs hw
   cases e
   obtain ⟨u, hu, vs, rfl, h2⟩ := rel.ob i a _ h1 hw
   exact .inl ⟨vs, .of hu, by rw [h2.isEmpty]⟩
  ·rename_i kvs hw
   cases e
   obtain ⟨u, hu, vs, rfl, h2⟩ := rel.ob i a _ h1 hw
   exact .inr (.inr ⟨vs, hu, by rw [h2.isEmpty]⟩)
  ·cases e
def fS (d : D) (w : W) : Res Bool := match kR d w with
 | some b => .ok b w
 | none => .bad
def dY (m : ME) : MT := fun σ w => (m σ w).bind fS
def fO (a b : MT) : MT := fun σ w => (a σ w).bind fun c w1 => if c = true then b σ w1 else .ok false w1
def fT (a b : MT) : MT := fun σ w => (a σ w).bind fun c w1 => if c = true then .ok true w1 else b σ w1
def cG (a : MT) : MT := fun σ w => (a σ w).bind fun c w1 => .ok (!c) w1
def mO (a b : ME) : ME := fun σ w => (a σ w).bind fun x w1 => (fS x w1).bind fun c _ => if c = true then b σ w1 else .ok x w1
def eOr (a b : ME) : ME := fun σ w => (a σ w).bind fun x w1 => (fS x w1).bind fun c _ => if c = true then .ok x w1 else b σ w1
def notM (x : D) (w : W) : Res D := (fS x w).bind fun c _ => .ok (.bl (!c)) w
def VE (t : MT) (a b : ME) : ME := fun σ w => (t σ w).bind fun c w1 => if c = true then a σ w1 else b σ w1
section
variable {S : aX} {pos : Pos} {a b c : Expr} {ma mb : ME} {ta tb : MT} {rest : List Expr}
theorem bO {α : Type} {K : PySem.W.Frag} {E : XK} {m : ME} {f : Sg → D → W → Res α} {I : List Addr} {F G H : Hp} {ds : Sg} {w : W} {σ : L2.St} {R : List Addr → Hp → Hp → α → W → Prop} (rel : Rel K I F G w H) (rs : eS K I F ds σ)
  (p : a6 K I F G E R ((m ds w).bind (f ds))) {Q : VK} (k : ∀ I1 F1 H1 x w1 v, Ext I F I1 F1 → Rel K I1 F1 G w1 H1 → eS K I1 F1 ds σ → aJ K I1 F1 x v → a6 K I1 F1 G E R (f ds x w1) → Q v H1) : oC K E m σ H Q :=
 ⟨I, F, G, ds, w, rel, rs, (a6.bind p).mono fun I1 F1 H1 x w1 _ e1 rel1 p1 v rv => k I1 F1 H1 x w1 v e1 rel1 (rs.ext e1) rv p1⟩
theorem nB {α : Type} {K : PySem.W.Frag} {E : XK} {m : MT} {f : Sg → Bool → W → Res α} {I : List Addr} {F G H : Hp} {ds : Sg} {w : W} {σ : L2.St} {R : List Addr → Hp → Hp → α → W → Prop} (rel : Rel K I F G w H) (rs : eS K I F ds σ)
  (p : a6 K I F G E R ((m ds w).bind (f ds))) {Q : Bool → Hp → Prop} (k : ∀ I1 F1 H1 c w1, Ext I F I1 F1 → Rel K I1 F1 G w1 H1 → eS K I1 F1 ds σ → a6 K I1 F1 G E R (f ds c w1) → Q c H1) : KR K E m σ H Q :=
 ⟨I, F, G, ds, w, rel, rs, (a6.bind p).mono fun I1 F1 H1 x w1 _ e1 rel1 p1 => k I1 F1 H1 x w1 e1 rel1 (rs.ext e1) p1⟩
theorem eA {α : Type} {K : PySem.W.Frag} {E : XK} {m : MA} {f : Sg → List D → W → Res α} {I : List Addr} {F G H : Hp} {ds : Sg} {w : W} {σ : L2.St} {R : List Addr → Hp → Hp → α → W → Prop} (rel : Rel K I F G w H) (rs : eS K I F ds σ)
  (p : a6 K I F G E R ((m ds w).bind (f ds))) {Q : List V → Hp → Prop} (k : ∀ I1 F1 H1 xs w1 vs, Ext I F I1 F1 → Rel K I1 F1 G w1 H1 → eS K I1 F1 ds σ → RepL K I1 F1 xs vs → a6 K I1 F1 G E R (f ds xs w1) → Q vs H1) : VW K E m σ H Q :=
 ⟨I, F, G, ds, w, rel, rs, (a6.bind p).mono fun I1 F1 H1 x w1 _ e1 rel1 p1 v rv => k I1 F1 H1 x w1 v e1 rel1 (rs.ext e1) rv p1⟩
theorem a6.n8 {K : PySem.W.Frag} {I : List Addr} {F G H : Hp} {E : XK} {Q : VK} {d : D} {w : W} (p : a6 K I F G E (RV K Q) (.ok d w)) (rel : Rel K I F G w H) {v : V} (h : aJ K I F d v) : Q v H := p I F H .refl rel v h
theorem a6.okB {K : PySem.W.Frag} {I : List Addr} {F G H : Hp} {E : XK} {Q : Bool → Hp → Prop} {b : Bool} {w : W} (p : a6 K I F G E (RB Q) (.ok b w)) (rel : Rel K I F G w H) : Q b H := p I F H .refl rel
theorem a6.truth {α : Type} {K : PySem.W.Frag} {I : List Addr} {F G H : Hp} {E : XK} {R : List Addr → Hp → Hp → α → W → Prop} {d : D} {w : W} {v : V} {f : Bool → W → Res α} (p : a6 K I F G E R ((fS d w).bind f)) (rel : Rel K I F G w H) (h : aJ K I F d v) :
  ∃ b, TruV K v H b ∧ a6 K I F G E R (f b w) := by
 unfold fS at p
 split at p
 ·rename_i b e
  exact ⟨b, TV rel h e, p⟩
 ·exact p.elim
theorem fX (ha : JE S a ma) (he : ∀ (env : Env) (whole : Sem Value), isTrue a env whole = (do let v ← whole; standAt a.pos; holding [v] (truthy v)) := by intro _ _; rfl) : JT S a (dY ma) := fun X E cx xo =>
 xE (pt_truth (ha X E cx xo) (he X.env)) fun σ H Q ⟨I, F, G, ds, w, rel, rs, p⟩ => bO (f := fun _ => fS) rel rs p fun I1 F1 H1 x w1 v e1 rel1 rs1 rv p1 => by
  have p2 : a6 X.K I1 F1 G E (RB Q) ((fS x w1).bind fun b w => .ok b w) := by
   cases h : fS x w1 <;> rw [h] at p1 <;> exact p1
  obtain ⟨b, hb, p3⟩ := p2.truth rel1 rv
  exact ⟨b, hb, p3.okB rel1⟩
theorem AL (h : JW S a ta) : JT S a ta := fun X E cx xo => (h X E cx xo).pt
theorem K4 (ha : JT S a ta) : JW S (.BoolOp .And [a] pos) ta := fun X E cx xo => pw_and1 (ha X E cx xo)
theorem oI (ha : JT S a ta) : JW S (.BoolOp .Or [a] pos) ta := fun X E cx xo => pw_or1 (ha X E cx xo)
theorem RS (ha : JT S a ta) (hb : JW S (.BoolOp .And (b :: rest) pos) tb) : JW S (.BoolOp .And (a :: b :: rest) pos) (fO ta tb) := fun X E cx xo =>
 L1 (pw_and (ha X E cx xo) (hb X E cx xo)) fun σ H Q ⟨I, F, G, ds, w, rel, rs, p⟩ => nB (f := fun ds c w1 => if c = true then tb ds w1 else .ok false w1) rel rs p fun I1 F1 H1 c w1 e1 rel1 rs1 p1 => by
  cases c with
  | true => exact ⟨I1, F1, G, ds, w1, rel1, rs1, p1⟩
  | false => exact p1.okB rel1
theorem rD (ha : JT S a ta) (hb : JW S (.BoolOp .Or (b :: rest) pos) tb) : JW S (.BoolOp .Or (a :: b :: rest) pos) (fT ta tb) := fun X E cx xo =>
 L1 (pw_or (ha X E cx xo) (hb X E cx xo)) fun σ H Q ⟨I, F, G, ds, w, rel, rs, p⟩ => nB (f := fun ds c w1 => if c = true then .ok true w1 else tb ds w1) rel rs p fun I1 F1 H1 c w1 e1 rel1 rs1 p1 => by
  cases c with
  | true => exact p1.okB rel1
  | false => exact ⟨I1, F1, G, ds, w1, rel1, rs1, p1⟩
theorem i5 (ha : JT S a ta) : JT S (.UnaryOp .Not a pos) (cG ta) := fun X E cx xo =>
 xE (pt_not (ha X E cx xo)) fun σ H Q ⟨I, F, G, ds, w, rel, rs, p⟩ => nB (f := fun _ c w1 => .ok (!c) w1) rel rs p fun I1 F1 H1 c w1 e1 rel1 rs1 p1 => p1.okB rel1
theorem DO {op : BoolOp} (h : JE S a ma) : JE S (.BoolOp op [a] pos) ma := fun X E cx xo => pe_one (h X E cx xo)
theorem y3 (ha : JE S a ma) (hb : JE S (.BoolOp .And (b :: rest) pos) mb) : JE S (.BoolOp .And (a :: b :: rest) pos) (mO ma mb) := fun X E cx xo =>
 cE (pe_andT (ha X E cx xo) (hb X E cx xo)) fun σ H Q ⟨I, F, G, ds, w, rel, rs, p⟩ => bO (f := fun ds x w1 => (fS x w1).bind fun c _ => if c = true then mb ds w1 else .ok x w1) rel rs p fun I1 F1 H1 x w1 v e1 rel1 rs1 rv p1 => by
  obtain ⟨k, hk, p2⟩ := p1.truth rel1 rv
  refine ⟨k, hk, ?_⟩
  cases k with
  | true => exact ⟨I1, F1, G, ds, w1, rel1, rs1, p2⟩
  | false => exact p2.n8 rel1 rv
theorem XN (ha : JE S a ma) : JE S (.UnaryOp .Not a pos) (sV notM ma) := fun X E cx xo =>
 cE (pe_notT (ha X E cx xo)) fun σ H Q ⟨I, F, G, ds, w, rel, rs, p⟩ => bO (f := fun _ => notM) rel rs p fun I1 F1 H1 x w1 v e1 rel1 rs1 rv p1 => by
  obtain ⟨k, hk, p2⟩ := a6.truth p1 rel1 rv
  exact ⟨k, hk, p2.n8 rel1 (by simp [aJ])⟩
theorem aAz (ht : JT S c ta) (ha : JE S a ma) (hb : JE S b mb) : JE S (.IfExp c a b pos) (VE ta ma mb) := fun X E cx xo =>
 cE (pe_ifExp (ht X E cx xo) (ha X E cx xo) (hb X E cx xo)) fun σ H Q ⟨I, F, G, ds, w, rel, rs, p⟩ => nB (f := fun ds c w1 => if c = true then ma ds w1 else mb ds w1) rel rs p fun I1 F1 H1 c w1 e1 rel1 rs1 p1 => by
  cases c with
  | true => exact ⟨I1, F1, G, ds, w1, rel1, rs1, p1⟩
  | false => exact ⟨I1, F1, G, ds, w1, rel1, rs1, p1⟩
end
def aD : MA := fun _ w => .ok [] w
def aA (a : ME) (r : MA) : MA := fun σ w => (a σ w).bind fun x w1 => (r σ w1).bind fun xs w2 => .ok (x :: xs) w2
def aM (a : MA) : ME := fun σ w => (a σ w).bind fun xs w1 => if xs.length ≤ sizeLine then .ok (.tup xs) w1 else .bad
def cD (a : MA) : ME := fun σ w => (a σ w).bind fun xs w1 => if xs.length ≤ sizeLine then .ok (.lst xs) w1 else .bad
def eNew (a : MA) : ME := fun σ w => (a σ w).bind fun xs w1 => if xs.length ≤ sizeLine then .ok (.ref w1.length) (w1 ++ [.lst xs]) else .bad
theorem wZ {K : PySem.W.Frag} {I : List Addr} {F G H : Hp} {E : XK} {w : W} {o : MO} {u : HO} {Q : VK} (rel : Rel K I F G w H) (r : iZ K I F o u) (p : a6 K I F G E (RV K Q) (.ok (.ref w.length) (w ++ [o]))) : ∀ q, H q = none → Q (.ref q) (upd H q u) := fun q hq => by
 have hF : F q = none := by
  cases h : F q with
  | none => rfl
  | some u => rw [rel.fz _ _ h] at hq; cases hq
 have hI : q ∉ I := fun z => by
  obtain ⟨i, hi⟩ := List.mem_iff_getElem?.mp z
  have hl : i < w.length := by rw [← rel.len]; exact (ai.mp hi).1
  obtain ⟨u, h3, _⟩ := rel.ob i q _ hi (bg hl)
  rw [h3] at hq; cases hq
 have e : Ext I F (I ++ [q]) F := ⟨List.prefix_append _ _, fun _ _ h => h⟩
 refine p (I ++ [q]) F (upd H q u) e ⟨by simp [rel.len], ?_, fun i a o' h1 h2 => ?_, fun a u' h => ?_, fun i a o' h h0 hf => ?_, fun a u' h => ?_, fun a u' h => ?_, rel.gt⟩ _ ?_
 ·rw [List.nodup_append]
  exact ⟨rel.nd, by simp, fun a ha b hb => by simp at hb; subst hb; exact fun z => hI (z ▸ ha)⟩
 ·by_cases hi : i < I.length
  ·rw [aq hi] at h1
   rw [aq (by rw [← rel.len]; exact hi)] at h2
   obtain ⟨u', h3, h4⟩ := rel.ob i a o' h1 h2
   exact ⟨u', by rw [upd_ne (ne_of_none h3 hq)]; exact h3, iZ.ext e h4⟩
  ·have hi2 : i = I.length := by
    have := (ai.mp h1).1
    simp at this; omega
   subst hi2
   rw [bc (bp _)] at h1
   simp at h1
   rw [rel.len, bc (bp _)] at h2
   simp at h2
   subst h1 h2
   exact ⟨u, upd_same, iZ.ext e r⟩
 ·rw [upd_ne (ne_of_none h hF)]; exact rel.fz a u' h
 ·by_cases hi : i < I.length
  ·rw [aq hi] at h
   rw [aq (by rw [← rel.len]; exact hi)] at h0
   exact rel.ap i a o' h h0 hf
  ·have hi2 : i = I.length := by
    have := (ai.mp h).1
    simp at this; omega
   subst hi2
   rw [bc (bp _)] at h
   simp at h
   subst h; exact hF
 ·rw [upd_ne (ne_of_none (rel.gz a u' h) hq)]; exact rel.gz a u' h
 ·refine ⟨(rel.gf a u' h).1, fun z => ?_⟩
  rcases List.mem_append.mp z with z | z
  ·exact (rel.gf a u' h).2 z
  ·simp at z; subst z; rw [rel.gz a u' h] at hq; cases hq
 ·simp only [aJ]
  refine ⟨q, rfl, ?_⟩
  rw [← rel.len, bc (bp _)]
  simp
section
variable {S : aX} {pos : Pos} {e : Expr} {es : List Expr} {m : ME} {ma : MA}
theorem aF : JA S [] aD := fun X E cx xo => LX pa_nil fun σ H Q ⟨I, F, G, ds, w, rel, rs, p⟩ => p I F H .refl rel [] (by simp [RepL])
theorem aC (he : JE S e m) (hr : JA S es ma) (hs : ∀ env : Env, starEach (e :: es) env = (false, eval e env) :: starEach es env := by intro _; rfl) : JA S (e :: es) (aA m ma) := fun X E cx xo =>
 LX (pa_cons (he X E cx xo) (hr X E cx xo) (hs X.env)) fun σ H Q ⟨I, F, G, ds, w, rel, rs, p⟩ =>
  bO (f := fun ds x w1 => (ma ds w1).bind fun xs w2 => .ok (x :: xs) w2) rel rs p fun I1 F1 H1 x w1 v e1 rel1 rs1 rv p1 =>
   eA (f := fun _ xs w2 => .ok (x :: xs) w2) rel1 rs1 p1 fun I2 F2 H2 xs w2 vs e2 rel2 rs2 rvs p2 => p2 I2 F2 H2 .refl rel2 _ (RepL.cons (aJ.ext e2 _ _ rv) rvs)
theorem aS {k : Nat} (h : JA S es ma) : JE S (.Tuple es k pos) (aM ma) := fun X E cx xo =>
 cE (pe_tup (h X E cx xo)) fun σ H Q ⟨I, F, G, ds, w, rel, rs, p⟩ =>
  eA (f := fun _ xs w1 => if xs.length ≤ sizeLine then Res.ok (D.tup xs) w1 else .bad) rel rs p fun I1 F1 H1 xs w1 vs e1 rel1 rs1 rvs p1 => by
   split at p1
   ·rename_i hl
    exact ⟨by rw [← rvs.length]; exact hl, nS rel1 rvs p1⟩
   ·exact p1.elim
theorem cI (h : JA S es ma) : JE S (.List es pos) (cD ma) := fun X E cx xo =>
 cE (pe_lst (h X E cx xo)) fun σ H Q ⟨I, F, G, ds, w, rel, rs, p⟩ =>
  eA (f := fun _ xs w1 => if xs.length ≤ sizeLine then Res.ok (D.lst xs) w1 else .bad) rel rs p fun I1 F1 H1 xs w1 vs e1 rel1 rs1 rvs p1 => by
   split at p1
   ·rename_i hl
    exact ⟨by rw [← rvs.length]; exact hl, l5 rel1 rvs p1⟩
   ·exact p1.elim
end
def a5 : MS := fun σ w => .ok (.nx σ) w
def aI (a b : MS) : MS := fun σ w => (a σ w).bind fun f w1 => match f with
 | .nx σ1 => b σ1 w1
 | f => .ok f w1
def a7 (e : ME) : MS := fun σ w => (e σ w).bind fun d w1 => .ok (.rt d) w1
def b6 (e : ME) : MS := fun σ w => (e σ w).bind fun _ w1 => .ok (.nx σ) w1
def dE (t : MT) (a b : MS) : MS := fun σ w => (t σ w).bind fun c w1 => if c = true then a σ w1 else b σ w1
abbrev MG := D → Sg → W → Res Sg
def aR (i : Nat) : MG := fun d σ w => .ok (σ.set i (some d)) w
def aP (e : ME) (g : MG) : MS := fun σ w => (e σ w).bind fun d w1 => (g d σ w1).bind fun σ2 w2 => .ok (.nx σ2) w2
def T7 : MS := fun _ _ => .bad
def RSg (K : PySem.W.Frag) (Q : L2.St → Hp → Prop) : List Addr → Hp → Hp → Sg → W → Prop := fun I' F' H' s _ => ∀ s', eS K I' F' s s' → Q s' H'
def lowG (K : PySem.W.Frag) (E : XK) (g : MG) : TG := fun v σ H Q => ∃ I F G d ds w, Rel K I F G w H ∧ eS K I F ds σ ∧ aJ K I F d v ∧ a6 K I F G E (RSg K Q) (g d ds w)
def JG (S : aX) (t : Expr) (g : MG) : Prop := ∀ X E, Ctx S X → n9 X E → PG X t (lowG X.K E g)
theorem tG {X : Cx} {e : Expr} {t t' : TG} (h : PG X e t) (k : ∀ v σ H Q, t' v σ H Q → t v σ H Q) : PG X e t' := ⟨fun pins s σ H v u Q I r q => h.run pins s σ H v u Q I r (k v σ H Q q)⟩
section
variable {S : aX} {pos pos' : Pos} {e : Expr} {st : Stmt} {sts : List Stmt} {m : ME} {a b : MS} {g : MG} {t : MT}
theorem dU : tV S [] a5 := fun X E cx xo => z3 pss_nil fun Z σ H ⟨I, F, G, ds, w, rel, rs, p⟩ => p I F H .refl rel _ rs
theorem GJ {K : PySem.W.Frag} {E : XK} {Z : Ends} {σ : L2.St} {H : Hp} (h : C2 K E (aI a b) Z σ H) : C2 K E a { Z with nx := C2 K E b Z } σ H := by
 obtain ⟨I, F, G, ds, w, rel, rs, p⟩ := h
 refine ⟨I, F, G, ds, w, rel, rs, (a6.bind p).mono fun I1 F1 H1 f w1 _ e1 rel1 p1 => ?_⟩
 cases f with
 | nx s => exact fun s' rs' => ⟨I1, F1, G, s, w1, rel1, rs', p1⟩
 | rt d => exact fun v rv => p1 I1 F1 H1 .refl rel1 v rv
 | bk s => exact fun s' rs' => p1 I1 F1 H1 .refl rel1 s' rs'
 | ct s => exact fun s' rs' => p1 I1 F1 H1 .refl rel1 s' rs'
theorem aO (h1 : JS S st a) (h2 : tV S sts b) : tV S (st :: sts) (aI a b) := fun X E cx xo =>
 z3 (pss_cons (h1 X E cx xo) (h2 X E cx xo)) fun Z σ H h => GJ h
theorem bA (h1 : JS S st a) : tV S [st] a := fun X E cx xo => pss_one (h1 X E cx xo)
theorem cB (he : JE S e m) : JS S (.Return (some e) pos) (a7 m) := fun X E cx xo =>
 i9 (ps_ret (he X E cx xo)) fun Z σ H ⟨I, F, G, ds, w, rel, rs, p⟩ => bO (f := fun _ d w1 => Res.ok (Fl.rt d) w1) rel rs p fun I1 F1 H1 x w1 v e1 rel1 rs1 rv p1 => p1 I1 F1 H1 .refl rel1 v rv
theorem uM (he : JE S e m) (hs : ∀ env : Env, swapsWith e none pos.line env = pure false := by intro _; rfl) : JS S (.Expr e pos) (b6 m) := fun X E cx xo =>
 i9 (ps_expr (he X E cx xo) (hs X.env)) fun Z σ H ⟨I, F, G, ds, w, rel, rs, p⟩ => bO (f := fun ds _ w1 => Res.ok (Fl.nx ds) w1) rel rs p fun I1 F1 H1 x w1 v e1 rel1 rs1 rv p1 => p1 I1 F1 H1 .refl rel1 σ rs1
theorem iX {x : Expr} {sa sb : List Stmt} (ht : JT S x t) (ha : tV S sa a) (hb : tV S sb b) : JS S (.If x sa sb pos) (dE t a b) := fun X E cx xo =>
 i9 (ps_if (ht X E cx xo) (ha X E cx xo) (hb X E cx xo)) fun Z σ H ⟨I, F, G, ds, w, rel, rs, p⟩ => nB (f := fun ds c w1 => if c = true then a ds w1 else b ds w1) rel rs p fun I1 F1 H1 c w1 e1 rel1 rs1 p1 => by
  cases c with
  | true => exact ⟨I1, F1, G, ds, w1, rel1, rs1, p1⟩
  | false => exact ⟨I1, F1, G, ds, w1, rel1, rs1, p1⟩
def Sto (S : aX) (x : Str) : Prop := Loc S.sc x ∧ (S.fn x = true ∨ S.sc.names.lookup x = some .local)
theorem V7 {i : Nat} {x : Str} (hi : S.N[i]? = some x) (hx : Sto S x) : JG S (.Name x pos) (aR i) := fun X E cx xo =>
 tG (pg_name (i := i) (x := x) cx.nd (by rw [cx.N]; exact hi) (by rw [cx.sc]; exact hx.1) (by rw [cx.sc]; exact hx.2.imp (cx.fn x) id)) fun v σ H Q ⟨I, F, G, d, ds, w, rel, rs, rv, p⟩ => p I F H .refl rel _ (rs.set i rv)
theorem K2 {K : PySem.W.Frag} {E : XK} {Z : Ends} {σ : L2.St} {H : Hp} (h : C2 K E (aP m g) Z σ H) : oC K E m σ H fun v H1 => lowG K E g v σ H1 Z.nx := by
 obtain ⟨I, F, G, ds, w, rel, rs, p⟩ := h
 exact bO (f := fun ds d w1 => (g d ds w1).bind fun σ2 w2 => Res.ok (Fl.nx σ2) w2) rel rs p fun I1 F1 H1 x w1 v e1 rel1 rs1 rv p1 =>
  ⟨I1, F1, G, x, ds, w1, rel1, rs1, rv, (a6.bind p1).mono fun I2 F2 H2 s w2 _ e2 rel2 p2 s' rs2 => p2 I2 F2 H2 .refl rel2 s' rs2⟩
theorem YW {i : Nat} {x : Str} (hi : S.N[i]? = some x) (hx : Sto S x) (he : JE S e m) (hs : ∀ env : Env, swapsWith e (some (.Name x pos')) pos.line env = pure false := by intro _; rfl) : JS S (.Assign [.Name x pos'] e pos) (aP m (aR i)) := fun X E cx xo =>
 i9 (ps_set (i := i) (x := x) cx.nd (by rw [cx.N]; exact hi) (by rw [cx.sc]; exact hx.1) (he X E cx xo) (hs X.env) (by rw [cx.sc]; exact hx.2.imp (cx.fn x) id)) fun Z σ H ⟨I, F, G, ds, w, rel, rs, p⟩ =>
  bO (f := fun ds d w1 => (aR i d ds w1).bind fun σ2 w2 => Res.ok (Fl.nx σ2) w2) rel rs p fun I1 F1 H1 x w1 v e1 rel1 rs1 rv p1 => p1 I1 F1 H1 .refl rel1 _ (rs1.set i rv)
theorem CL {tg : Expr} (he : JE S e m) (hg : JG S tg g) (hs : ∀ env : Env, swapsWithSole [tg] e pos.line env = pure false := by intro _; rfl) (hw : ∀ env : Env, swappedStores [tg] e env = pure none := by intro _; rfl)
  (h1 : ∀ env : Env, (assignEach [tg] env).map (·.2) = [assign tg env] := by intro _; rfl) : JS S (.Assign [tg] e pos) (aP m g) := fun X E cx xo =>
 i9 (ps_asg (he X E cx xo) (hg X E cx xo) (hs X.env) (hw X.env) (h1 X.env)) fun Z σ H h => K2 h
end
abbrev NR := List D → Sg → W → Res Sg
def bR : NR := fun ds σ w => match ds with
 | [] => .ok σ w
 | _ => .bad
def aK (g : MG) (r : NR) : NR := fun ds σ w => match ds with
 | d :: ds => (g d σ w).bind fun σ1 w1 => r ds σ1 w1
 | [] => .bad
def bS (n : Nat) (r : NR) : MG := fun d σ w => match d with
 | .tup xs => if xs.length = n then r xs σ w else .bad
 | .kK xs => if xs.length = n then r xs σ w else .bad
 | _ => .bad
def aAc (K : PySem.W.Frag) (E : XK) (g : NR) : TGs := fun vs σ H Q => ∃ I F G xs ds w, Rel K I F G w H ∧ eS K I F ds σ ∧ RepL K I F xs vs ∧ a6 K I F G E (RSg K Q) (g xs ds w)
def JGs (S : aX) (ts : List Expr) (g : NR) : Prop := ∀ X E, Ctx S X → n9 X E → PGs X ts (aAc X.K E g)
theorem tA {X : Cx} {e : List Expr} {t t' : TGs} (h : PGs X e t) (k : ∀ v σ H Q, t' v σ H Q → t v σ H Q) : PGs X e t' := ⟨fun pins s σ H v u Q I r q => h.run pins s σ H v u Q I r (k v σ H Q q)⟩
section
variable {S : aX} {pos pos' : Pos} {e : Expr} {es : List Expr} {g : MG} {r : NR}
theorem uD : JGs S [] bR := fun X E cx xo => tA pgs_nil fun vs σ H Q ⟨I, F, G, xs, ds, w, rel, rs, rv, p⟩ => by
 cases xs with
 | nil =>
  simp only [RepL] at rv
  exact ⟨rv, p I F H .refl rel _ rs⟩
 | cons => exact p.elim
theorem eV (h1 : JG S e g) (h2 : JGs S es r) (hs : ∀ env : Env, (assignEach (e :: es) env).map (·.2) = assign e env :: (assignEach es env).map (·.2) := by intro _; rfl) : JGs S (e :: es) (aK g r) := fun X E cx xo =>
 tA (pgs_cons (h1 X E cx xo) (h2 X E cx xo) (hs X.env)) fun vs σ H Q ⟨I, F, G, xs, ds, w, rel, rs, rv, p⟩ => by
  cases xs with
  | nil => exact p.elim
  | cons x xs =>
   simp only [RepL] at rv
   obtain ⟨v, t, rfl, rv1, rvs⟩ := rv
   exact ⟨v, t, rfl, I, F, G, x, ds, w, rel, rs, rv1, (a6.bind p).mono fun I1 F1 H1 s w1 _ e1 rel1 p1 s' rs1 => ⟨I1, F1, G, xs, s, w1, rel1, rs1, RepL.ext e1 _ _ rvs, p1⟩⟩
theorem zI {k n : Nat} (h : JGs S es r) (hn : ∀ env : Env, (assignEach es env).length = n := by intro _; rfl) (hst : ∀ env : Env, (assignEach es env).findIdx? (·.1) = none := by intro _; rfl) : JG S (.Tuple es k pos) (bS n r) := fun X E cx xo =>
 tG (pg_tup cx.calm (h X E cx xo) (hn X.env) (hst X.env)) fun v σ H Q ⟨I, F, G, d, ds, w, rel, rs, rv, p⟩ => by
  cases d <;> first | exact p.elim | skip
  all_goals
   rename_i xs
   simp only [aJ] at rv
   obtain ⟨a, vs, rfl, h1, h2⟩ := rv
   simp only [bS] at p
   split at p
   ·rename_i hl
    exact ⟨a, vs, rfl, (by first | exact .of (rel.fz _ _ h1) | exact rel.KA h1), by rw [← h2.length]; exact hl, I, F, G, xs, ds, w, rel, rs, h2, p⟩
   ·exact p.elim
end
mutual
def D.cl (n : Nat) : D → Bool
 | .tup xs => D.cls n xs
 | .lst xs => D.cls n xs
 | .nG xs => D.cls n xs
 | .kK xs => D.cls n xs
 | .G1 ks xs => D.cls n ks && D.cls n xs
 | .ref i => decide (i < n)
 | .non => true
 | .bl _ => true
 | .int _ => true
 | .str _ => true
 | .ty _ => true
 | .con _ => true
def D.cls (n : Nat) : List D → Bool
 | [] => true
 | d :: ds => D.cl n d && D.cls n ds
end
def MO.cl (n : Nat) : MO → Bool
 | .lst xs => D.cls n xs
 | .dK kvs => D.cls n (kvs.map (·.2))
 | .dT kvs => D.cls n (kvs.map (·.2))
 | .dF kvs => D.cls n (kvs.map (·.2))
 | .dG kvs => D.cls n (kvs.map (·.2))
 | .ins _ fs => D.cls n (fs.map (·.2))
section
variable {K : PySem.W.Frag} {I : List Addr} {F : Hp} {n : Nat}
theorem QM {n i : Nat} {a : Addr} (h : I[i]? = some a) (hi : i < n) : (I.take n)[i]? = some a := by
 rw [List.getElem?_take_of_lt hi]; exact h
mutual
theorem aJ.cut : ∀ (d : D) (v : V), aJ K I F d v → d.cl n = true → aJ K (I.take n) F d v
 | .non, _, h, _ => by simpa only [aJ] using h
 | .bl _, _, h, _ => by simpa only [aJ] using h
 | .int _, _, h, _ => by simpa only [aJ] using h
 | .str _, _, h, _ => by simpa only [aJ] using h
 | .ty _, _, h, _ => by simpa only [aJ] using h
 | .con _, _, h, _ => by simpa only [aJ] using h
 | .tup xs, v, h, c => by
  simp only [aJ, D.cl] at h c ⊢
  obtain ⟨a, vs, h1, h2, h3⟩ := h
  exact ⟨a, vs, h1, h2, RepL.cut xs vs h3 c⟩
 | .lst xs, v, h, c => by
  simp only [aJ, D.cl] at h c ⊢
  obtain ⟨a, vs, h1, h2, h3⟩ := h
  exact ⟨a, vs, h1, h2, RepL.cut xs vs h3 c⟩
 | .nG xs, v, h, c => by
  simp only [aJ, D.cl] at h c ⊢
  obtain ⟨a, vs, h1, h2, h3⟩ := h
  exact ⟨a, vs, h1, h2, RepL.cut xs vs h3 c⟩
 | .kK xs, v, h, c => by
  simp only [aJ, D.cl] at h c ⊢
  obtain ⟨a, vs, h1, h2, h3⟩ := h
  exact ⟨a, vs, h1, h2, RepL.cut xs vs h3 c⟩
 | .G1 ks xs, v, h, c => by
  simp only [aJ, D.cl, ak] at h c ⊢
  obtain ⟨a, kvs, h1, h2, h3, h4⟩ := h
  exact ⟨a, kvs, h1, h2, RepL.cut ks _ h3 c.1, RepL.cut xs _ h4 c.2⟩
 | .ref i, v, h, c => by
  simp only [aJ, D.cl, au] at h c ⊢
  obtain ⟨a, h1, h2⟩ := h
  exact ⟨a, h1, QM h2 c⟩
theorem RepL.cut : ∀ (ds : List D) (vs : List V), RepL K I F ds vs → D.cls n ds = true → RepL K (I.take n) F ds vs
 | [], _, h, _ => by simpa only [RepL] using h
 | d :: ds, vs, h, c => by
  simp only [RepL, D.cls, ak] at h c ⊢
  obtain ⟨v, r, h1, h2, h3⟩ := h
  exact ⟨v, r, h1, aJ.cut d v h2 c.1, RepL.cut ds r h3 c.2⟩
end
theorem aQ.cut {κ : Type} : ∀ (ds : List (κ × D)) (vs : List (κ × V)), aQ K I F ds vs → D.cls n (ds.map (·.2)) = true → aQ K (I.take n) F ds vs
 | [], _, h, _ => by simpa only [aQ] using h
 | (k, d) :: ds, vs, h, c => by
  simp only [aQ, List.map_cons, D.cls, ak] at h c ⊢
  obtain ⟨v, r, h1, h2, h3⟩ := h
  exact ⟨v, r, h1, aJ.cut d v h2 c.1, aQ.cut ds r h3 c.2⟩
theorem iZ.cut {o : MO} {u : HO} (h : iZ K I F o u) (c : o.cl n = true) : iZ K (I.take n) F o u := by
 cases o with
 | lst xs => obtain ⟨vs, h1, h2⟩ := h; exact ⟨vs, h1, RepL.cut _ _ h2 c⟩
 | dK xs => obtain ⟨vs, h1, h2⟩ := h; exact ⟨vs, h1, aQ.cut _ _ h2 c⟩
 | dT xs => obtain ⟨vs, h1, h2⟩ := h; exact ⟨vs, h1, aQ.cut _ _ h2 c⟩
 | dF xs => obtain ⟨o, vs, h1, h2⟩ := h; exact ⟨o, vs, h1, aQ.cut _ _ h2 c⟩
 | dG xs => obtain ⟨o, vs, h1, h2⟩ := h; exact ⟨o, vs, h1, aQ.cut _ _ h2 c⟩
 | ins C xs => obtain ⟨dx, vs, h1, h2⟩ := h; exact ⟨dx, vs, h1, aQ.cut _ _ h2 c⟩
mutual
theorem aJ.cl : ∀ (d : D) (v : V), aJ K I F d v → I.length ≤ n → d.cl n = true
 | .non, _, _, _ => by simp [D.cl]
 | .bl _, _, _, _ => by simp [D.cl]
 | .int _, _, _, _ => by simp [D.cl]
 | .str _, _, _, _ => by simp [D.cl]
 | .ty _, _, _, _ => by simp [D.cl]
 | .con _, _, _, _ => by simp [D.cl]
 | .tup xs, v, h, l => by
  simp only [aJ, D.cl] at h ⊢
  obtain ⟨a, vs, h1, h2, h3⟩ := h
  exact RepL.cl xs vs h3 l
 | .lst xs, v, h, l => by
  simp only [aJ, D.cl] at h ⊢
  obtain ⟨a, vs, h1, h2, h3⟩ := h
  exact RepL.cl xs vs h3 l
 | .nG xs, v, h, l => by
  simp only [aJ, D.cl] at h ⊢
  obtain ⟨a, vs, h1, h2, h3⟩ := h
  exact RepL.cl xs vs h3 l
 | .kK xs, v, h, l => by
  simp only [aJ, D.cl] at h ⊢
  obtain ⟨a, vs, h1, h2, h3⟩ := h
  exact RepL.cl xs vs h3 l
 | .G1 ks xs, v, h, l => by
  simp only [aJ, D.cl, ak] at h ⊢
  obtain ⟨a, kvs, h1, h2, h3, h4⟩ := h
  exact ⟨RepL.cl ks _ h3 l, RepL.cl xs _ h4 l⟩
 | .ref i, v, h, l => by
  simp only [aJ, D.cl, au] at h ⊢
  obtain ⟨a, h1, h2⟩ := h
  have := (ai.mp h2).1
  omega
theorem RepL.cl : ∀ (ds : List D) (vs : List V), RepL K I F ds vs → I.length ≤ n → D.cls n ds = true
 | [], _, _, _ => by simp [D.cls]
 | d :: ds, vs, h, l => by
  simp only [RepL, D.cls, ak] at h ⊢
  obtain ⟨v, r, h1, h2, h3⟩ := h
  exact ⟨aJ.cl d v h2 l, RepL.cl ds r h3 l⟩
end
theorem aQ.cl {κ : Type} : ∀ (ds : List (κ × D)) (vs : List (κ × V)), aQ K I F ds vs → I.length ≤ n → D.cls n (ds.map (·.2)) = true
 | [], _, _, _ => by simp [D.cls]
 | (k, d) :: ds, vs, h, l => by
  simp only [aQ, List.map_cons, D.cls, ak] at h ⊢
  obtain ⟨v, r, h1, h2, h3⟩ := h
  exact ⟨aJ.cl d v h2 l, aQ.cl ds r h3 l⟩
theorem iZ.cl {o : MO} {u : HO} (h : iZ K I F o u) (l : I.length ≤ n) : o.cl n = true := by
 cases o with
 | lst xs => obtain ⟨vs, h1, h2⟩ := h; exact RepL.cl _ _ h2 l
 | dK xs => obtain ⟨vs, h1, h2⟩ := h; exact aQ.cl _ _ h2 l
 | dT xs => obtain ⟨vs, h1, h2⟩ := h; exact aQ.cl _ _ h2 l
 | dF xs => obtain ⟨o, vs, h1, h2⟩ := h; exact aQ.cl _ _ h2 l
 | dG xs => obtain ⟨o, vs, h1, h2⟩ := h; exact aQ.cl _ _ h2 l
 | ins C xs => obtain ⟨dx, vs, h1, h2⟩ := h; exact aQ.cl _ _ h2 l
end
def ZS (w0 w : W) : Prop := w0.length ≤ w.length ∧ ∀ (i : Nat) (o : MO), w[i]? = some o → w0[i]? = some o ∨ o.cl w.length = true
def XD.cl (n : Nat) (x : XD) : Bool := match x.fs with
 | none => true
 | some fs => D.cls n (fs.map (·.2))
def Fits (w0 : W) (r r' : Res D) : Prop := match r with
 | .bad => True
 | .ok d w => ∃ g, r' = .ok d (w ++ g) ∧ (g = [] ∨ (d.cl w.length = true ∧ ZS w0 w))
 | .sW x w => ∃ g, r' = .sW x (w ++ g) ∧ (g = [] ∨ (x.cl w.length = true ∧ ZS w0 w))
theorem Fits.mZ {w0 : W} {r : Res D} : Fits w0 r r := by
 cases r with
 | ok d w => exact ⟨[], by simp, .inl rfl⟩
 | sW x w => exact ⟨[], by simp, .inl rfl⟩
 | bad => trivial
theorem Fits.of_eq {w0 : W} {r r' : Res D} (h : r' = r) : Fits w0 r r' := h ▸ Fits.mZ
theorem L9 {K : PySem.W.Frag} {I I' : List Addr} {F F' G H H' : Hp} {w0 w g : W} (rel0 : Rel K I F G w0 H) (e : Ext I F I' F') (rel : Rel K I' F' G (w ++ g) H') (s : ZS w0 w) : Ext I F (I'.take w.length) F' ∧ Rel K (I'.take w.length) F' G w H' := by
 have hl : I'.length = w.length + g.length := by rw [rel.len, cb]
 have e2 : Ext I F (I'.take w.length) F' := ⟨by
  obtain ⟨t, rfl⟩ := e.i
  rw [List.take_append, List.take_of_length_le (by rw [rel0.len]; exact s.1)]
  exact List.prefix_append _ _, e.f⟩
 refine ⟨e2, ⟨by simp [hl], rel.nd.sublist (List.take_sublist _ _), fun i a o h1 h2 => ?_, rel.fz, fun i a o h h0 hf => rel.ap i a o (List.getElem?_take_of_lt (ai.mp h0).1 ▸ h) (by rw [aq (ai.mp h0).1]; exact h0) hf, rel.gz, fun a u h => ⟨(rel.gf a u h).1, fun z => (rel.gf a u h).2 (List.mem_of_mem_take z)⟩, rel.gt⟩⟩
 have hi : i < w.length := (ai.mp h2).1
 rw [List.getElem?_take_of_lt hi] at h1
 obtain ⟨u, h3, h4⟩ := rel.ob i a o h1 (by rw [aq hi]; exact h2)
 refine ⟨u, h3, ?_⟩
 rcases s.2 i o h2 with q | q
 ·refine iZ.cut h4 ?_
  have hi0 : i < w0.length := (ai.mp q).1
  obtain ⟨u0, _, h6⟩ := rel0.ob i _ o (bg (by rw [rel0.len]; exact hi0)) q
  exact h6.cl (by rw [rel0.len]; exact s.1)
 ·exact iZ.cut h4 q
theorem u6.cut {K : PySem.W.Frag} {I : List Addr} {F H : Hp} {x : XD} {c : Value} {d : Option Addr} {n : Nat} (h : u6 K (I.take n) F H x c d) (hn : n ≤ I.length) : u6 K I F H x c d := by
 have e : Ext (I.take n) F I F := ⟨List.take_prefix _ _, fun _ _ h => h⟩
 obtain ⟨h1, h2⟩ := h
 refine ⟨h1, ?_⟩
 cases hf : x.fs with
 | none => rw [hf] at h2; exact h2
 | some fs =>
  rw [hf] at h2
  obtain ⟨a, r, q1, q2, q3⟩ := h2
  exact ⟨a, r, q1, q2, aQ.ext e _ _ q3⟩
theorem u6.aBR {K : PySem.W.Frag} {I : List Addr} {F H : Hp} {x : XD} {c : Value} {d : Option Addr} {n : Nat} (h : u6 K I F H x c d) (hx : x.cl n = true) : u6 K (I.take n) F H x c d := by
 obtain ⟨h1, h2⟩ := h
 refine ⟨h1, ?_⟩
 unfold XD.cl at hx
 cases hf : x.fs with
 | none => rw [hf] at h2; exact h2
 | some fs =>
  rw [hf] at h2 hx
  obtain ⟨a, r, q1, q2, q3⟩ := h2
  exact ⟨a, r, q1, q2, aQ.cut _ _ q3 hx⟩
theorem a6.fits {K : PySem.W.Frag} {I : List Addr} {F G H : Hp} {E : XK} {Q : VK} {w0 : W} {r r' : Res D} (rel0 : Rel K I F G w0 H) (p : a6 K I F G E (RV K Q) r) (f : Fits w0 r r') : a6 K I F G E (RV K Q) r' := by
 cases r with
 | bad => exact p.elim
 | ok d w =>
  obtain ⟨g, rfl, hg⟩ := f
  rcases hg with rfl | ⟨hd, hs⟩
  ·rw [List.append_nil]; exact p
  ·intro I' F' H' e rel v rv
   obtain ⟨e2, rel2⟩ := L9 rel0 e rel hs
   exact p _ F' H' e2 rel2 v (aJ.cut d v rv hd)
 | sW x w =>
  obtain ⟨g, rfl, hg⟩ := f
  rcases hg with rfl | ⟨hd, hs⟩
  ·rw [List.append_nil]; exact p
  ·intro I' F' H' c d e rel rx
   obtain ⟨e2, rel2⟩ := L9 rel0 e rel hs
   exact p _ F' H' c d e2 rel2 (u6.aBR rx hd)
abbrev MF := List D → W → Res D
def spM (K : PySem.W.Frag) (m : MF) : Sp := fun vs H Q E => ∃ I F G ds w, Rel K I F G w H ∧ RepL K I F ds vs ∧ a6 K I F G E (RV K Q) (m ds w)
structure iV (P : Program) (w : World) (K : PySem.W.Frag) (mg : Str → Option Value) (base : Heap) (k : Nat) (f : Addr) (fd : FuncData) (ps : List Str) (m : MF) : Prop where
 run : ∀ (A : Around) (outer : List Env) (s : Shared) (H : Hp) (args : Args) (us : List Value) (vs : List V) (Q : VK) (E : XK), Room k A → A.guards = some [] → Env0 P w K mg base A outer s H → BindsTo s fd args (ps.zip us) → Vals vs us →
  vs.length = ps.length → spM K m vs H Q E → codeAny (model P w) A (.call (.ref f) args) (CR (L2.CX P w) outer P w H s Q E) s
theorem iV.mono {P : Program} {w : World} {K : PySem.W.Frag} {mg : Str → Option Value} {base : Heap} {j k : Nat} {f : Addr} {fd : FuncData} {ps : List Str} {m : MF} (G : iV P w K mg base j f fd ps m) (h : j ≤ k) : iV P w K mg base k f fd ps m :=
 ⟨fun A outer s H args us vs Q E hr => G.run A outer s H args us vs Q E (hr.mono h)⟩
def begin (N : List Str) (ds : List D) : Sg := ds.map some ++ List.replicate (N.length - ds.length) none
def bM (mb : MS) (N : List Str) (ds : List D) (w : W) : Res D := (mb (begin N ds) w).bind fun f w1 => match f with
 | .nx _ => .ok .non w1
 | .rt d => .ok d w1
 | _ => .bad
theorem RepL.O8 {K : PySem.W.Frag} {I : List Addr} {F : Hp} {ds : List D} {vs : List V} (r : RepL K I F ds vs) (N : List Str) : eS K I F (begin N ds) (L2.start N vs) := by
 unfold begin L2.start
 refine ⟨by simp [r.length], fun i d h => ?_⟩
 by_cases hi : i < ds.length
 ·rw [aq (by simpa using hi), bw] at h
  cases q : ds[i]? with
  | none => rw [q] at h; cases h
  | some x =>
   rw [q] at h; cases h
   obtain ⟨v, h1, h2⟩ := r.get q
   exact ⟨v, by rw [aq (by simpa [← r.length] using hi), bw, h1]; rfl, h2⟩
 ·rw [bc (by simpa using hi), List.getElem?_replicate] at h
  split at h <;> cases h
abbrev aX.body (S : aX) (k : Nat) (N : List Str) (sc : Scope) : aX := { S with k := k, N := N, sc := sc, fn := fun _ => true }
theorem iV.of {S : aX} {x qual : Str} {params : Arguments} {body : List Stmt} {scope : Scope} {dvs : List V} {kws : List (Str × V)} {f : Addr} {fd : FuncData} {N ps : List Str} {k : Nat} {mb : MS} {m : MF}
  (F : FunD S.K x qual params body scope dvs kws f fd) (Sc : FnScope N ps scope) (hb : tV (S.body k N scope) body mb) (hm : ∀ ds w, ds.length = ps.length → Fits w (m ds w) (bM mb N ds w)) : iV S.P S.w S.K S.mg S.base (k + 1) f fd ps m := by
 refine ⟨fun A outer s H args us vs Q E hr hg e0 hbt r hl hsp => ?_⟩
 obtain ⟨oc, od, dV, kV, doc, pm, an, cdv, ct, osl, rfl, lk, hcd, _, _⟩ := F.ex
 have KX : S.K.In s.heap := e0.mod.kin.keeps fun b o e => (e0.bs b o e).1
 have lim : s.heap.NoLimit := e0.mod.nolimit.keeps fun b o e => (e0.bs b o e).1
 have kinds : ∀ y ∈ ps.zip us, scope.names.lookup y.1 = some .local ∨ (scope.names.lookup y.1 = some .cell ∧ ((cellsFrom (s.heap.objs.size + 1) scope.names []).lookup y.1).isSome = true) := by
  rintro ⟨n, v⟩ hy
  have hn : n ∈ ps := (List.of_mem_zip hy).1
  rcases Sc.par n hn with q | q
  ·exact Or.inl q
  ·exact Or.inr ⟨q, PySem.W.cellsFrom_some _ _ _ (.inl q)⟩
 refine codeAny_call_function hr.depth (KX _ _ lk) rfl Sc.co Sc.gen rfl (PySem.W.codeRec_of KX hcd) (hbt _ _ _ _ ?_)
 refine wpAny_newFunctionEnv_cells Sc.kind kinds fun env he s1 y => ?_
 subst he
 refine ⟨lim.keeps y.toInCall.keep, codeAny_func ?_⟩
 obtain ⟨I, F0, G, ds, w, rel, rl, p⟩ := hsp
 have J : Inv (cxOf (L2.CX S.P S.w) S.P S.w S.K S.mg S.base N qual scope f cdv A outer s H E) [] (start N vs) H s1 := inv_start Sc hr.hd e0 hl r y
 have cx : Ctx (S.body k N scope) (cxOf (L2.CX S.P S.w) S.P S.w S.K S.mg S.base N qual scope f cdv A outer s H E) := ⟨rfl, rfl, rfl, rfl, rfl, rfl, rfl, fun _ _ => rfl, rfl, hr.deeper _, hg, Sc.nd⟩
 have xo : n9 (cxOf (L2.CX S.P S.w) S.P S.w S.K S.mg S.base N qual scope f cdv A outer s H E) E := ⟨takes_of rfl rfl rfl rfl, passes_of rfl⟩
 have p' : a6 S.K I F0 G E (RV S.K Q) (bM mb N ds w) := p.fits rel (hm ds w (by rw [rl.length]; exact hl))
 have go := (hb _ E cx xo).run [] s1 (start N vs) H { nx := fun _ H' => Q .non H', rt := Q } J ⟨I, F0, G, begin N ds, w, rel, rl.O8 N, (a6.bind p').mono fun I1 F1 H1 fl w1 _ e1 rel1 p1 => ?_⟩
 ·refine wpAny_mono go (fun fl s' hs => ?_) fun e s' hs => hs
  cases fl with
  | ret u =>
   obtain ⟨v, σ', H', J', rv, q⟩ := hs
   exact ⟨v, H', J'.os, J'.bare, J'.base, J'.hok, rv, q⟩
  | next =>
   obtain ⟨σ', H', J', q⟩ := hs
   exact ⟨V.non, H', J'.os, J'.bare, J'.base, J'.hok, rfl, q⟩
  | brk =>
   obtain ⟨_, _, _, q⟩ := hs
   exact q.elim
  | cont =>
   obtain ⟨_, _, _, q⟩ := hs
   exact q.elim
 ·cases fl with
  | nx z => exact fun s' _ => p1.n8 rel1 (by simp [aJ])
  | rt d => exact fun v rv => p1.n8 rel1 rv
  | bk z => exact p1.elim
  | ct z => exact p1.elim
structure eW (K : PySem.W.Frag) (fd : FuncData) (ps : List Str) (n : Nat) (ks : List Str) (gd : List D → List D → List D) : Prop where
 ex : ∃ (g : List Value → List Value → List Value) (gV : List V → List V → List V), KBn K fd ps n ks g gV ∧
  ∀ I F xs vs zs us, RepL K I F xs vs → RepL K I F zs us → RepL K I F (gd xs zs) (gV vs us)
 len : ∀ xs zs, xs.length = n → zs.length = ks.length → (gd xs zs).length = ps.length
def aH (m : MF) (n : Nat) (gd : List D → List D → List D) (ma : MA) : ME := fun σ w => (ma σ w).bind fun xs w1 => if xs.length = n then m (gd xs []) w1 else .bad
def IM (m : MF) (n j : Nat) (gd : List D → List D → List D) (ma mk : MA) : ME := fun σ w => (ma σ w).bind fun xs w1 => (mk σ w1).bind fun zs w2 => if xs.length = n ∧ zs.length = j then m (gd xs zs) w2 else .bad
def JK (S : aX) (kws : List Keyword) (m : MA) : Prop := ∀ X E, Ctx S X → n9 X E → PK X kws (VW X.K E m)
theorem aAR {X : Cx} {pins : List (Addr × Obj)} {σ : L2.St} {H : Hp} {s : Shared} {Q : VK} {E : XK} {k : Nat} {f : Addr} {fd : FuncData} {ps ks : List Str} {m : MF} {n : Nat} {gd : List D → List D → List D} {I : List Addr} {F G : Hp} {xs zs : List D} {w : W} {us ws : List Value} {vs ys : List V}
  (xo : n9 X E) (Gf : iV X.prog X.w X.K X.mg X.base k f fd ps m) (B : eW X.K fd ps n ks gd) (hr : Room k X.A) (hg : X.A.guards = some []) (J : Inv X pins σ H s) (rel : Rel X.K I F G w H) (rx : RepL X.K I F xs vs) (rz : RepL X.K I F zs ys)
  (r : Vals vs us) (q : Vals ys ws) (h1 : xs.length = n) (h2 : zs.length = ks.length) (p : a6 X.K I F G E (RV X.K Q) (m (gd xs zs) w)) : wpAny (model X.prog X.w) X.A (call (.ref f) us (ks.zip ws)) (EP X pins σ Q) X.xe s := by
 obtain ⟨g, gV, kb, rep⟩ := B.ex
 have r2 := kb.rel r q
 have r3 := rep I F xs vs zs ys rx rz
 have hl : (gV vs ys).length = ps.length := by rw [← r3.length]; exact B.len xs zs h1 h2
 refine wpAny_call (codeAny_mono (Gf.run X.A X.stack s H ⟨us, ks.zip ws⟩ (g us ws) (gV vs ys) Q E hr hg J.env0 (kb.to s us ws J.kIn (by rw [← r.length, ← rx.length]; exact h1) (by rw [← q.length, ← rz.length]; exact h2)) r2 hl ⟨I, F, G, _, w, rel, r3, p⟩) fun fl s' hq => ?_)
 cases fl with
 | error e => exact passes_call xo.tk (fun _ _ _ _ h => h) pins σ H s e s' J hq
 | ok fl =>
  cases fl with
  | ret u => exact J.after hq
  | next => exact hq.elim
  | brk => exact hq.elim
  | cont => exact hq.elim
section
variable {S : aX} {k n : Nat} {f : Addr} {fd : FuncData} {ps ks : List Str} {m : MF} {gd : List D → List D → List D} {x : Str} {p pos kpos : Pos} {e : Expr} {es : List Expr} {kws : List Keyword} {ma mk : MA} {me : ME} {nm : Option Str}
theorem ZP : JK S [] aD := fun X E cx xo => ⟨fun pos pins s σ H Q J ⟨I, F, G, ds, w, rel, rs, p⟩ => pk_nil.run pos pins s σ H Q J (p I F H .refl rel [] (by simp [RepL]))⟩
theorem kE (he : JE S e me) (hr : JK S kws mk) : JK S (⟨nm, e, kpos⟩ :: kws) (aA me mk) := fun X E cx xo =>
 ⟨fun pos pins s σ H Q J ⟨I, F, G, ds, w, rel, rs, p⟩ => (pk_cons (he X E cx xo) (hr X E cx xo)).run pos pins s σ H Q J
  (bO (f := fun ds x w1 => (mk ds w1).bind fun xs w2 => Res.ok (x :: xs) w2) rel rs p fun I1 F1 H1 x w1 v e1 rel1 rs1 rv p1 =>
   eA (f := fun _ xs w2 => Res.ok (x :: xs) w2) rel1 rs1 p1 fun I2 F2 H2 xs w2 vs e2 rel2 rs2 rvs p2 => p2 I2 F2 H2 .refl rel2 _ (RepL.cons (aJ.ext e2 _ _ rv) rvs))⟩
theorem aV (hk : k ≤ S.k) (Gf : iV S.P S.w S.K S.mg S.base k f fd ps m) (B : eW S.K fd ps n [] gd) (hg : S.sc.names.lookup x = some .globalImplicit) (hm : S.mg x = some (.ref f)) (kp : PySem.W.keepIn S.K (.ref f) = true) (ha : JA S (e :: es) ma)
  (hdb : (x == ("__debug__" : Str)) = false := by decide) (he : ∀ env : Env, starEach (e :: es) env = (false, eval e env) :: starEach es env := by intro _; rfl) (hpl : ∀ env : Env, (backTo pos (starEach es env)).any (·.1) = false := by intro _; rfl) :
  JE S (.Call (.Name x p) (e :: es) [] pos) (aH m n gd ma) := fun X E cx xo => by
 refine ⟨fun pins s σ H Q J ⟨I, F, G, ds, w, rel, rs, p⟩ => ?_⟩
 refine wpAny_Call_Name_kw (ld_glob J (by show X.env.scope.names.lookup x = _; rw [cx.sc]; exact hg) (by rw [cx.mg]; exact hm) ?_ hdb)
 refine PySem.W.callWith_K (h₀ := X.base) J.ok.mod.kin (by rw [cx.K]; exact kp) (thn ((ha X E cx xo).run pos pins s σ H _ J (eA (f := fun _ xs w1 => if xs.length = n then m (gd xs []) w1 else .bad) (Q := fun vs H1 => ∃ I1 F1 xs w1, Rel X.K I1 F1 G w1 H1 ∧ RepL X.K I1 F1 xs vs ∧ xs.length = n ∧ a6 X.K I1 F1 G E (RV X.K Q) (m (gd xs []) w1)) rel rs p fun I1 F1 H1 xs w1 vs e1 rel1 rs1 rvs p1 => ?_)) fun us s1 hq => ?_) (he X.env) (hpl X.env)
 ·split at p1
  ·rename_i hl
   exact ⟨I1, F1, xs, w1, rel1, rvs, hl, p1⟩
  ·exact p1.elim
 ·obtain ⟨vs, H1, J1, r, I1, F1, xs, w1, rel1, rvs, hl, p1⟩ := hq
  refine ⟨J1.kIn, ?_⟩
  have Gf' : iV X.prog X.w X.K X.mg X.base k f fd ps m := by rw [cx.P, cx.w, cx.K, cx.mg, cx.base]; exact Gf
  have B' : eW X.K fd ps n [] gd := by rw [cx.K]; exact B
  exact aAR (ks := []) (ws := []) (zs := []) (ys := []) xo Gf' B' (cx.room.mono hk) cx.gds J1 rel1 rvs (by simp [RepL]) r .nil hl rfl p1
end
theorem cL {K : PySem.W.Frag} {x qual : Str} {params : Arguments} {body : List Stmt} {scope : Scope} {kws : List (Str × V)} {f : Addr} {fd : FuncData} {ps : List Str} (F : FunD K x qual params body scope [] kws f fd)
  (h : ∀ (kV doc pm : Value) (an : Option Addr) (cdv ct : Value) (us : List Value), us.length = ps.length → bindArgs (PySem.W.fnOf x qual params body scope .none kV doc pm an cdv ct) ⟨us, []⟩ = pure (ps.zip us)) : eW K fd ps ps.length [] fun xs _ => xs := by
 refine ⟨⟨fun us _ => us, fun vs _ => vs, ⟨fun s us ws KX h1 h2 => ?_, fun r _ => r⟩, fun _ _ _ _ _ _ r _ => r⟩, fun xs zs h1 _ => h1⟩
 have e : ws = [] := List.eq_nil_of_length_eq_zero (by simpa using h2)
 subst e
 exact F.bindsA h s us h1
structure jN where
 xs : List D
 okp : W → Prop
def jN.ok (it : jN) (w : W) : Prop := it.okp w
def always : W → Prop := fun _ => True
def holds (i : Nat) (o : MO) : W → Prop := fun w => w[i]? = some o
def zG (K : PySem.W.Frag) (I : List Addr) (F : Hp) (J : It) (it : jN) : Prop :=
 ∀ I' F' G w H j, Ext I F I' F' → Rel K I' F' G w H → it.ok w →
  (∀ x, it.xs[j]? = some x → J.go j H ∧ ∀ v H', J.yld j H v H' → ∃ F2, Ext I' F' I' F2 ∧ Rel K I' F2 G w H' ∧ aJ K I' F2 x v) ∧ (it.xs.length = j → J.stop j H)
abbrev MI := Sg → W → Res jN
def RI (K : PySem.W.Frag) (R : It → Hp → Prop) : List Addr → Hp → Hp → jN → W → Prop := fun I' F' H' it w' => it.ok w' → ∀ J, zG K I' F' J it → R J H'
def UU (K : PySem.W.Frag) (E : XK) (m : MI) : TI := fun σ H R => ∃ I F G ds w, Rel K I F G w H ∧ eS K I F ds σ ∧ a6 K I F G E (RI K R) (m ds w)
def JI (S : aX) (tg iter : Expr) (m : MI) : Prop := ∀ X E, Ctx S X → n9 X E → PI X tg iter (UU X.K E m)
theorem qP {X : Cx} {tg e : Expr} {t t' : TI} (h : PI X tg e t) (k : ∀ σ H R, t' σ H R → t σ H R) : PI X tg e t' := ⟨fun pins s σ H R I q => h.run pins s σ H R I (k σ H R q)⟩
def aAO (K : PySem.W.Frag) (tl : TE) : TI := fun σ H R => tl σ H fun x H1 => ∃ a, x = .ref a ∧ (((∃ xs, SqL K H1 a xs) ∧ R (Itl K a) H1) ∨ ((∃ xs, SqT K H1 a xs) ∧ R (Itt K a) H1))
theorem TF {X : Cx} {tg l : Expr} {tl : TE} (hl : PE X l tl) : PI X tg l (aAO X.K tl) := by
 constructor
 intro pins s σ H R J h
 apply thn (hl.run pins s σ H _ J h)
 rintro v s1 ⟨x, H1, J1, r1, a, ex, q⟩
 subst ex
 cases r1
 have fp : ∀ b ∈ [s1.heap.objs.size], FpOk X pins H1 b := fun b hb => by
  rw [List.mem_singleton.mp hb]
  exact J1.fpOk (bp _) (J1.hok.fresh (bp _))
 rcases q with ⟨⟨xs, hq⟩, q⟩ | ⟨⟨xs, hq⟩, q⟩
 ·obtain ⟨its, rv, p, hz⟩ := J1.list hq
  apply wpAny_pyIter_list p.isList
  exact ⟨s1.heap.objs.size, [s1.heap.objs.size], _, _, H1, rfl, J1.kept (t' := s1.toks) fun b o e => Heap.get?_push_of_some _ e, turn_list a _, ⟨_, Heap.get?_push_size _ rfl, rfl, rfl⟩, fp, q⟩
 ·obtain ⟨its, rv, p, hz⟩ := J1.tuple hq
  apply wpAny_pyIter_tuple (show s1.heap.IsTuple a its.toArray from p)
  exact ⟨s1.heap.objs.size, [s1.heap.objs.size], _, _, H1, rfl, J1.kept (t' := s1.toks) fun b o e => Heap.get?_push_of_some _ e, turn_tuple a _, ⟨_, Heap.get?_push_size _ rfl, rfl, rfl⟩, fp, q⟩
def iterM (d : D) (w : W) : Res jN := match d with
 | .tup xs => .ok ⟨xs, always⟩ w
 | .kK xs => .ok ⟨xs, always⟩ w
 | .lst xs => .ok ⟨xs, always⟩ w
 | .nG xs => .ok ⟨xs, always⟩ w
 | .ref i => (match w[i]? with
  | some (.lst xs) => .ok ⟨xs, holds i (.lst xs)⟩ w
  | _ => .bad)
 | _ => .bad
def cZ (m : ME) : MI := fun σ w => (m σ w).bind iterM
section
variable {K : PySem.W.Frag} {I : List Addr} {F : Hp} {a : Addr} {it : jN}
theorem KP (h : ∀ I' F' G w H, Ext I F I' F' → Rel K I' F' G w H → it.ok w → ∃ vs, SqL K H a vs ∧ RepL K I' F' it.xs vs) : zG K I F (Itl K a) it := fun I' F' G w H j e rel ok => by
 obtain ⟨vs, hq, r⟩ := h I' F' G w H e rel ok
 refine ⟨fun x hx => ?_, fun hl => ⟨vs, hq, by rw [← r.length, hl]; exact bp _⟩⟩
 obtain ⟨v, hv, rv⟩ := r.get hx
 refine ⟨⟨vs, v, hq, hv⟩, fun u H' y => ?_⟩
 obtain ⟨rfl, y⟩ := y
 have := y vs hq
 rw [hv] at this; cases this
 exact ⟨F', .refl, rel, rv⟩
theorem O0 (h : ∀ I' F' G w H, Ext I F I' F' → Rel K I' F' G w H → it.ok w → ∃ vs, SqT K H a vs ∧ RepL K I' F' it.xs vs) : zG K I F (Itt K a) it := fun I' F' G w H j e rel ok => by
 obtain ⟨vs, hq, r⟩ := h I' F' G w H e rel ok
 refine ⟨fun x hx => ?_, fun hl => ⟨vs, hq, by rw [← r.length, hl]; exact bp _⟩⟩
 obtain ⟨v, hv, rv⟩ := r.get hx
 refine ⟨⟨vs, v, hq, hv⟩, fun u H' y => ?_⟩
 obtain ⟨rfl, y⟩ := y
 have := y vs hq
 rw [hv] at this; cases this
 exact ⟨F', .refl, rel, rv⟩
theorem OY {lo : Int} {n : Nat} (hx : it.xs = (List.range n).map fun k : Nat => D.int (lo + (k : Int))) : zG K I F (Itr lo n) it := fun I' F' G w H j e rel ok => by
 refine ⟨fun x h => ?_, fun hl => ?_⟩
 ·rw [hx, bw] at h
  by_cases hj : j < n
  ·rw [List.getElem?_range hj] at h
   cases h
   refine ⟨hj, fun v H' y => ?_⟩
   obtain ⟨rfl, rfl⟩ := y
   exact ⟨F', .refl, rel, by simp [aJ]⟩
  ·rw [cg (by simpa using hj)] at h; cases h
 ·rw [hx] at hl
  simp at hl
  show n ≤ j
  omega
end
section
variable {S : aX} {pos p : Pos} {tg l e e2 : Expr} {m : ME} {ma : MA} {x : Str}
theorem iF (hl : JE S l m) : JI S tg l (cZ m) := fun X E cx xo =>
 qP (TF (hl X E cx xo)) fun σ H R ⟨I, F, G, ds, w, rel, rs, p⟩ => bO (f := fun _ => iterM) rel rs p fun I1 F1 H1 d w1 v e1 rel1 rs1 rv p1 => by
  cases d <;> first | exact p1.elim | skip
  case tup xs =>
   simp only [aJ] at rv
   obtain ⟨a, vs, rfl, h1, h2⟩ := rv
   exact ⟨a, rfl, .inr ⟨⟨vs, .of (rel1.fz _ _ h1)⟩, p1 I1 F1 H1 .refl rel1 trivial _ (O0 fun I' F' G w H e rel ok => ⟨vs, .of (rel.fz _ _ (e.f _ _ h1)), RepL.ext e _ _ h2⟩)⟩⟩
  case kK xs =>
   simp only [aJ] at rv
   obtain ⟨a, vs, rfl, h1, h2⟩ := rv
   exact ⟨a, rfl, .inr ⟨⟨vs, rel1.KA h1⟩, p1 I1 F1 H1 .refl rel1 trivial _ (O0 fun I' F' G w H e rel ok => ⟨vs, rel.KA (xG e h1), RepL.ext e _ _ h2⟩)⟩⟩
  case lst xs =>
   simp only [aJ] at rv
   obtain ⟨a, vs, rfl, h1, h2⟩ := rv
   exact ⟨a, rfl, .inl ⟨⟨vs, .of (rel1.fz _ _ h1)⟩, p1 I1 F1 H1 .refl rel1 trivial _ (KP fun I' F' G w H e rel ok => ⟨vs, .of (rel.fz _ _ (e.f _ _ h1)), RepL.ext e _ _ h2⟩)⟩⟩
  case nG xs =>
   simp only [aJ] at rv
   obtain ⟨a, vs, rfl, h1, h2⟩ := rv
   exact ⟨a, rfl, .inl ⟨⟨vs, rel1.RQ h1⟩, p1 I1 F1 H1 .refl rel1 trivial _ (KP fun I' F' G w H e rel ok => ⟨vs, rel.RQ (LR e h1), RepL.ext e _ _ h2⟩)⟩⟩
  case ref i =>
   simp only [aJ] at rv
   obtain ⟨a, rfl, h1⟩ := rv
   simp only [iterM] at p1
   split at p1
   ·rename_i xs hw
    obtain ⟨u, hu, vs, rfl, h2⟩ := rel1.ob i a _ h1 hw
    refine ⟨a, rfl, .inl ⟨⟨vs, .of hu⟩, p1 I1 F1 H1 .refl rel1 hw _ (KP fun I' F' G w H e rel ok => ?_)⟩⟩
    obtain ⟨u', hu', vs', rfl, h2'⟩ := rel.ob i a _ (e.get h1) ok
    exact ⟨vs', .of hu', h2'⟩
   ·exact p1.elim
def gD (lo : Int) (n : Nat) : jN := ⟨(List.range n).map fun k : Nat => D.int (lo + (k : Int)), always⟩
def i0 (ds : List D) (w : W) : Res jN := match ds with
 | [.int n] => if -(2 ^ 62) ≤ n ∧ n < 2 ^ 62 then .ok (gD 0 n.toNat) w else .bad
 | _ => .bad
def B5 (ds : List D) (w : W) : Res jN := match ds with
 | [.int a, .int b] => if -(2 ^ 62) ≤ a ∧ a < 2 ^ 62 ∧ -(2 ^ 62) ≤ b ∧ b < 2 ^ 62 then .ok (gD a (b - a).toNat) w else .bad
 | _ => .bad
def dP (f : List D → W → Res jN) (ma : MA) : MI := fun σ w => (ma σ w).bind f
theorem kN (hg : S.sc.names.lookup ("range" : Str) = some .globalImplicit) (hm : S.mg "range" = none) (ha : JA S [e] ma) (hs : ∀ env : Env, starEach [e] env = [(false, eval e env)] := by intro _; rfl) : JI S tg (.Call (.Name "range" p) [e] [] pos) (dP i0 ma) := fun X E cx xo =>
 qP (pi_range1 (by show X.env.scope.names.lookup _ = _; rw [cx.sc]; exact hg) (by rw [cx.mg]; exact hm) (ha X E cx xo) (hs X.env)) fun σ H R ⟨I, F, G, ds, w, rel, rs, p⟩ => eA (f := fun _ => i0) rel rs p fun I1 F1 H1 xs w1 vs e1 rel1 rs1 rv p1 => by
  unfold i0 at p1
  split at p1
  ·rename_i n
   split at p1
   ·rename_i hn
    simp only [RepL, aJ] at rv
    obtain ⟨v, r, rfl, rfl, rfl⟩ := rv
    exact ⟨n, rfl, hn.1, hn.2, p1 I1 F1 H1 .refl rel1 trivial _ (OY rfl)⟩
   ·exact p1.elim
  ·exact p1.elim
theorem BO (hg : S.sc.names.lookup ("range" : Str) = some .globalImplicit) (hm : S.mg "range" = none) (ha : JA S [e, e2] ma) (hs : ∀ env : Env, starEach [e, e2] env = [(false, eval e env), (false, eval e2 env)] := by intro _; rfl)
  (hs2 : ∀ env : Env, starEach [e2] env = [(false, eval e2 env)] := by intro _; rfl) : JI S tg (.Call (.Name "range" p) [e, e2] [] pos) (dP B5 ma) := fun X E cx xo =>
 qP (pi_range2 (by show X.env.scope.names.lookup _ = _; rw [cx.sc]; exact hg) (by rw [cx.mg]; exact hm) (ha X E cx xo) (hs X.env) (hs2 X.env)) fun σ H R ⟨I, F, G, ds, w, rel, rs, p⟩ => eA (f := fun _ => B5) rel rs p fun I1 F1 H1 xs w1 vs e1 rel1 rs1 rv p1 => by
  unfold B5 at p1
  split at p1
  ·rename_i a b
   split at p1
   ·rename_i hn
    simp only [RepL, aJ] at rv
    obtain ⟨v, r, rfl, rfl, v2, r2, rfl, rfl, rfl⟩ := rv
    exact ⟨a, b, rfl, hn, p1 I1 F1 H1 .refl rel1 trivial _ (OY rfl)⟩
   ·exact p1.elim
  ·exact p1.elim
end
open Classical in
def forL (it : jN) (g : MG) (body : MS) : List D → Sg → W → Res Fl
 | [], σ, w => if it.ok w then .ok (.nx σ) w else .bad
 | x :: xs, σ, w => if it.ok w then (g x σ w).bind fun σ1 w1 => (body σ1 w1).bind fun f w2 => match f with
   | .nx s => forL it g body xs s w2
   | .ct s => forL it g body xs s w2
   | .bk s => .ok (.nx s) w2
   | .rt d => .ok (.rt d) w2
  else .bad
def dR (m : MI) (g : MG) (body : MS) : MS := fun σ w => (m σ w).bind fun it w1 => forL it g body it.xs σ w1
section
variable {S : aX} {pos : Pos} {tg iter : Expr} {body : List Stmt} {m : MI} {g : MG} {b : MS}
theorem mT (hi : JI S tg iter m) (hg : JG S tg g) (hb : tV S body b) (hs : ∀ (env : Env) x, foldedSetIterable iter env x = pure x := by intro _ _; rfl) : JS S (.For tg iter body [] pos) (dR m g b) := fun X E cx xo =>
 i9 (ps_for xo.own cx.calm (hi X E cx xo) (hg X E cx xo) (hb X E cx xo) (hs X.env)) fun Z σ H ⟨I, F, G, ds, w, rel, rs, p⟩ => by
  refine ⟨I, F, G, ds, w, rel, rs, (a6.bind p).mono fun I1 F1 H1 it w1 _ e1 rel1 p1 hok J hJ => ?_⟩
  refine ⟨fun i n σ' H' => n = it.xs.length - i ∧ i ≤ it.xs.length ∧ ∃ I' F' ds' w', Ext I1 F1 I' F' ∧ Rel X.K I' F' G w' H' ∧ eS X.K I' F' ds' σ' ∧ a6 X.K I' F' G E (RFl X.K Z) (forL it g b (it.xs.drop i) ds' w'),
   ⟨it.xs.length, by simp, Nat.zero_le _, I1, F1, ds, w1, .refl, rel1, rs.ext e1, p1⟩, ?_⟩
  rintro i n σ' H' ⟨rfl, hi, I', F', ds', w', e', rel', rs', p'⟩
  by_cases hlt : i < it.xs.length
  ·rw [List.drop_eq_getElem_cons hlt] at p'
   unfold forL at p'
   split at p'
   ·rename_i hw
    obtain ⟨h1, _⟩ := hJ I' F' G w' H' i e' rel' hw
    obtain ⟨hgo, hy⟩ := h1 _ (bg hlt)
    refine .inr ⟨hgo, fun σ2 H2 => ∃ I2 F2 ds2 w2, Ext I1 F1 I2 F2 ∧ Rel X.K I2 F2 G w2 H2 ∧ eS X.K I2 F2 ds2 σ2 ∧ a6 X.K I2 F2 G E (RFl X.K Z) (forL it g b (it.xs.drop (i + 1)) ds2 w2), fun σ2 H2 q => ⟨it.xs.length - (i + 1), by omega, rfl, hlt, q⟩, fun v H2 y => ?_⟩
    obtain ⟨F2, e2, rel2, rv⟩ := hy v H2 y
    refine ⟨I', F2, G, _, ds', w', rel2, rs'.ext e2, rv, (a6.bind (p'.ext e2)).mono fun I3 F3 H3 s3 w3 _ e3 rel3 p3 σ3 rs3 => ?_⟩
    refine ⟨I3, F3, G, s3, w3, rel3, rs3, (a6.bind p3).mono fun I4 F4 H4 f w4 _ e4 rel4 p4 => ?_⟩
    have ee : Ext I1 F1 I4 F4 := ((e'.trans e2).trans e3).trans e4
    cases f with
    | nx s => exact fun s' rs4 => ⟨I4, F4, s, w4, ee, rel4, rs4, p4⟩
    | ct s => exact fun s' rs4 => ⟨I4, F4, s, w4, ee, rel4, rs4, p4⟩
    | bk s => exact fun s' rs4 => p4 I4 F4 H4 .refl rel4 s' rs4
    | rt d => exact fun v rv => p4 I4 F4 H4 .refl rel4 v rv
   ·exact p'.elim
  ·have hl : i = it.xs.length := by omega
   subst hl
   rw [List.drop_length] at p'
   unfold forL at p'
   split at p'
   ·rename_i hw
    exact .inl ⟨(hJ I' F' G w' H' _ e' rel' hw).2 rfl, p' I' F' H' .refl rel' σ' rs'⟩
   ·exact p'.elim
end
def Res.D3 {α : Type} (r : Res α) : Res α := match r with
 | .sW _ _ => .bad
 | r => r
@[simp] theorem Res.aBC {α : Type} (a : α) (w : W) : (Res.ok a w).D3 = .ok a w := rfl
@[simp] theorem Res.aBj {α : Type} (x : XD) (w : W) : (Res.sW x w : Res α).D3 = .bad := rfl
@[simp] theorem Res.aBb {α : Type} : (Res.bad : Res α).D3 = .bad := rfl
abbrev E0 : XK := fun _ _ _ => False
theorem a6.j8 {α β : Type} {K : PySem.W.Frag} {I : List Addr} {F G : Hp} {E : XK} {r : Res α} {f : α → W → Res β} {R2 : List Addr → Hp → Hp → β → W → Prop} (h : a6 K I F G E R2 (r.D3.bind f)) :
  a6 K I F G E0 (fun I' F' _ a w => a6 K I' F' G E R2 (f a w)) r := by
 cases r with
 | ok a w => exact fun I' F' H' e' q => a6.ext (K := K) (R := R2) h e'
 | sW x w => exact h.elim
 | bad => exact h
theorem Rel.keep {K : PySem.W.Frag} {I : List Addr} {F G H : Hp} {w : W} (rel : Rel K I F G w H) {q : Addr} {u : HO} (hq : H q = none) (hu : ∀ xs, u ≠ .tup xs := by intro _ h; cases h) : Rel K I F (upd G q u) w (upd H q u) := by
 have hI : q ∉ I := fun z => by
  obtain ⟨i, hi⟩ := List.mem_iff_getElem?.mp z
  have hl : i < w.length := by rw [← rel.len]; exact (ai.mp hi).1
  obtain ⟨u, h3, _⟩ := rel.ob i q _ hi (bg hl)
  rw [h3] at hq; cases hq
 have hF : F q = none := by
  cases h : F q with
  | none => rfl
  | some u => rw [rel.fz _ _ h] at hq; cases hq
 refine ⟨rel.len, rel.nd, fun i a o h1 h2 => ?_, fun a u' h => ?_, rel.ap, fun a u' h => ?_, fun a u' h => ?_, fun a xs h => ?_⟩
 ·obtain ⟨u', h3, h4⟩ := rel.ob i a o h1 h2
  exact ⟨u', by rw [upd_ne (ne_of_none h3 hq)]; exact h3, h4⟩
 ·rw [upd_ne (ne_of_none h hF)]; exact rel.fz a u' h
 ·by_cases ha : a = q
  ·subst ha; rw [upd_same] at h ⊢; exact h
  ·rw [upd_ne ha] at h ⊢; exact rel.gz a u' h
 ·by_cases ha : a = q
  ·subst ha; exact ⟨hF, hI⟩
  ·rw [upd_ne ha] at h; exact rel.gf a u' h
 ·by_cases ha : a = q
  ·subst ha; rw [upd_same] at h; exact hu xs (Option.some.inj h)
  ·rw [upd_ne ha] at h; exact rel.gt a xs h
theorem Rel.ID {K : PySem.W.Frag} {I : List Addr} {F G H : Hp} {w : W} {q : Addr} {u u' : HO} (rel : Rel K I F (upd G q u) w H) (hu : ∀ xs, u' ≠ .tup xs := by intro _ h; cases h) : Rel K I F (upd G q u') w (upd H q u') := by
 obtain ⟨hF, hI⟩ := rel.gf q u upd_same
 refine ⟨rel.len, rel.nd, fun i a o h1 h2 => ?_, fun a v h => ?_, rel.ap, fun a v h => ?_, fun a v h => ?_, fun a xs h => ?_⟩
 ·obtain ⟨v, h3, h4⟩ := rel.ob i a o h1 h2
  have ha : a ≠ q := fun z => hI (by rw [← z]; exact bf h1)
  exact ⟨v, by rw [upd_ne ha]; exact h3, h4⟩
 ·rw [upd_ne (ne_of_none h hF)]; exact rel.fz a v h
 ·by_cases ha : a = q
  ·subst ha; rw [upd_same] at h ⊢; exact h
  ·rw [upd_ne ha] at h ⊢; exact rel.gz a v (by rw [upd_ne ha]; exact h)
 ·by_cases ha : a = q
  ·subst ha; exact ⟨hF, hI⟩
  ·rw [upd_ne ha] at h; exact rel.gf a v (by rw [upd_ne ha]; exact h)
 ·by_cases ha : a = q
  ·subst ha; rw [upd_same] at h; exact hu xs (Option.some.inj h)
  ·rw [upd_ne ha] at h; exact rel.gt a xs (by rw [upd_ne ha]; exact h)
theorem Rel.aA5 {K : PySem.W.Frag} {I : List Addr} {F G H : Hp} {w : W} {q : Addr} {u : HO} (rel : Rel K I F (upd G q u) w H) (hG : G q = none) : Ext I F I (upd F q u) ∧ Rel K I (upd F q u) G w H := by
 obtain ⟨hF, hI⟩ := rel.gf q u upd_same
 have e : Ext I F I (upd F q u) := ⟨List.prefix_refl _, fun a v h => by rw [upd_ne (ne_of_none h hF)]; exact h⟩
 refine ⟨e, rel.len, rel.nd, fun i a o h1 h2 => ?_, fun a v h => ?_, fun i a o h h0 hf => ?_, fun a v h => ?_, fun a v h => ?_, fun a xs h => rel.gt a xs (by rw [upd_ne (ne_of_none h hG)]; exact h)⟩
 ·obtain ⟨v, h3, h4⟩ := rel.ob i a o h1 h2
  exact ⟨v, h3, iZ.ext e h4⟩
 ·by_cases ha : a = q
  ·subst ha; rw [upd_same] at h; cases h; exact rel.gz a u upd_same
  ·rw [upd_ne ha] at h; exact rel.fz a v h
 ·have ha : a ≠ q := fun z => hI (by rw [← z]; exact bf h)
  rw [upd_ne ha]; exact rel.ap i a o h h0 hf
 ·have ha : a ≠ q := ne_of_none h hG
  exact rel.gz a v (by rw [upd_ne ha]; exact h)
 ·have ha : a ≠ q := ne_of_none h hG
  rw [upd_ne ha]
  exact rel.gf a v (by rw [upd_ne ha]; exact h)
theorem Rel.owned {K : PySem.W.Frag} {I : List Addr} {F G H : Hp} {w : W} {q : Addr} {u : HO} {o : MO} (rel : Rel K I F (upd G q u) w H) (hG : G q = none) (r : iZ K I F o u) : Ext I F (I ++ [q]) F ∧ Rel K (I ++ [q]) F G (w ++ [o]) H := by
 obtain ⟨hF, hI⟩ := rel.gf q u upd_same
 have e : Ext I F (I ++ [q]) F := ⟨List.prefix_append _ _, fun _ _ h => h⟩
 refine ⟨e, by simp [rel.len], ?_, fun i a o' h1 h2 => ?_, rel.fz, fun i a o' h h0 hf => ?_, fun a v h => ?_, fun a v h => ?_, fun a xs h => rel.gt a xs (by rw [upd_ne (ne_of_none h hG)]; exact h)⟩
 ·rw [List.nodup_append]
  exact ⟨rel.nd, by simp, fun a ha b hb => by simp at hb; subst hb; exact fun z => hI (z ▸ ha)⟩
 ·by_cases hi : i < I.length
  ·rw [aq hi] at h1
   rw [aq (by rw [← rel.len]; exact hi)] at h2
   obtain ⟨v, h3, h4⟩ := rel.ob i a o' h1 h2
   exact ⟨v, h3, iZ.ext e h4⟩
  ·have hi2 : i = I.length := by
    have := (ai.mp h1).1
    simp at this; omega
   subst hi2
   rw [bc (bp _)] at h1
   simp at h1
   rw [rel.len, bc (bp _)] at h2
   simp at h2
   subst h1 h2
   exact ⟨u, rel.gz _ _ upd_same, iZ.ext e r⟩
 ·by_cases hi : i < I.length
  ·rw [aq hi] at h
   rw [aq (by rw [← rel.len]; exact hi)] at h0
   exact rel.ap i a o' h h0 hf
  ·have hi2 : i = I.length := by
    have := (ai.mp h).1
    simp at this; omega
   subst hi2
   rw [bc (bp _)] at h
   simp at h
   subst h; exact hF
 ·have ha : a ≠ q := ne_of_none h hG
  exact rel.gz a v (by rw [upd_ne ha]; exact h)
 ·have ha : a ≠ q := ne_of_none h hG
  have := rel.gf a v (by rw [upd_ne ha]; exact h)
  refine ⟨this.1, fun z => ?_⟩
  rcases List.mem_append.mp z with z | z
  ·exact this.2 z
  ·simp at z; exact ha z
def dJ (σ : Sg) : List Nat → Sg
 | [] => σ
 | v :: vs => (dJ σ vs).set v none
theorem eS.wipe {K : PySem.W.Frag} {I : List Addr} {F : Hp} {ds : Sg} {s : L2.St} (h : eS K I F ds s) : ∀ vs : List Nat, eS K I F (dJ ds vs) (L2.wipe s vs)
 | [] => h
 | v :: vs => (h.wipe vs).unset v none
theorem y4 {s : L2.St} {i : Nat} {x : Option V} : ∀ {vs : List Nat}, i ∈ vs → L2.wipe (s.set i x) vs = L2.wipe s vs
 | [], h => by cases h
 | v :: vs, h => by
  show (L2.wipe (s.set i x) vs).set v none = (L2.wipe s vs).set v none
  by_cases hi : i ∈ vs
  ·rw [y4 hi]
  ·have hv : i = v := by
    rcases br.mp h with e | e
    ·exact e
    ·exact absurd e hi
   subst hv
   have key : ∀ ws : List Nat, i ∉ ws → L2.wipe (s.set i x) ws = (L2.wipe s ws).set i x := by
    intro ws
    induction ws with
    | nil => intro _; rfl
    | cons b bs ih =>
     intro hn
     show (L2.wipe (s.set i x) bs).set b none = ((L2.wipe s bs).set b none).set i x
     rw [ih (fun z => hn (bh _ z))]
     rw [List.set_comm _ _ (fun z => hn (by rw [z]; exact az ..))]
   rw [key vs hi, List.set_set]
theorem vC {s : L2.St} : ∀ {vs : List Nat}, L2.wipe (L2.wipe s vs) vs = L2.wipe s vs := by
 intro vs
 have key : ∀ ws : List Nat, (∀ v ∈ ws, v ∈ vs) → L2.wipe (L2.wipe s ws) vs = L2.wipe s vs := by
  intro ws
  induction ws with
  | nil => intro _; rfl
  | cons b bs ih =>
   intro h
   show L2.wipe ((L2.wipe s bs).set b none) vs = _
   rw [y4 (h b (az ..)), ih fun v hv => h v (bh _ hv)]
 exact key vs fun _ h => h
def RSw (K : PySem.W.Frag) (vs : List Nat) (σ : L2.St) (Q : L2.St → Hp → Prop) : List Addr → Hp → Hp → Sg → W → Prop := fun I' F' H' s _ => ∀ s', eS K I' F' s s' → L2.wipe s' vs = L2.wipe σ vs → Q s' H'
def VC (K : PySem.W.Frag) (E : XK) (vs : List Nat) (g : MG) : TG := fun v σ H Q => ∃ I F G d ds w, Rel K I F G w H ∧ eS K I F ds σ ∧ aJ K I F d v ∧ a6 K I F G E (RSw K vs σ Q) (g d ds w)
def Z8 (K : PySem.W.Frag) (E : XK) (vs : List Nat) (g : NR) : TGs := fun v σ H Q => ∃ I F G d ds w, Rel K I F G w H ∧ eS K I F ds σ ∧ RepL K I F d v ∧ a6 K I F G E (RSw K vs σ Q) (g d ds w)
def JC (S : aX) (vs : List Nat) (t : Expr) (g : MG) : Prop := ∀ X E, Ctx S X → n9 X E → PG X t (VC X.K E vs g)
def JCs (S : aX) (vs : List Nat) (t : List Expr) (g : NR) : Prop := ∀ X E, Ctx S X → n9 X E → PGs X t (Z8 X.K E vs g)
section
variable {S : aX} {pos : Pos} {vs : List Nat} {e : Expr} {es : List Expr} {g : MG} {r : NR}
theorem VX {i : Nat} {x : Str} (hi : S.N[i]? = some x) (hx : Sto S x) (hv : i ∈ vs) : JC S vs (.Name x pos) (aR i) := fun X E cx xo =>
 tG (pg_name (i := i) (x := x) cx.nd (by rw [cx.N]; exact hi) (by rw [cx.sc]; exact hx.1) (by rw [cx.sc]; exact hx.2.imp (cx.fn x) id)) fun v σ H Q ⟨I, F, G, d, ds, w, rel, rs, rv, p⟩ => p I F H .refl rel _ (rs.set i rv) (y4 hv)
theorem UP : JCs S vs [] bR := fun X E cx xo => tA pgs_nil fun v σ H Q ⟨I, F, G, xs, ds, w, rel, rs, rv, p⟩ => by
 cases xs with
 | nil =>
  simp only [RepL] at rv
  exact ⟨rv, p I F H .refl rel _ rs rfl⟩
 | cons => exact p.elim
theorem HA (h1 : JC S vs e g) (h2 : JCs S vs es r) (hs : ∀ env : Env, (assignEach (e :: es) env).map (·.2) = assign e env :: (assignEach es env).map (·.2) := by intro _; rfl) : JCs S vs (e :: es) (aK g r) := fun X E cx xo =>
 tA (pgs_cons (h1 X E cx xo) (h2 X E cx xo) (hs X.env)) fun v σ H Q ⟨I, F, G, xs, ds, w, rel, rs, rv, p⟩ => by
  cases xs with
  | nil => exact p.elim
  | cons x xs =>
   simp only [RepL] at rv
   obtain ⟨v, t, rfl, rv1, rvs⟩ := rv
   refine ⟨v, t, rfl, I, F, G, x, ds, w, rel, rs, rv1, (a6.bind p).mono fun I1 F1 H1 s w1 _ e1 rel1 p1 s' rs1 ew => ⟨I1, F1, G, xs, s, w1, rel1, rs1, RepL.ext e1 _ _ rvs, p1.mono fun I2 F2 H2 s2 w2 _ e2 rel2 p2 s3 rs3 ew3 => p2 s3 rs3 (ew3.trans ew)⟩⟩
theorem YH {k n : Nat} (h : JCs S vs es r) (hn : ∀ env : Env, (assignEach es env).length = n := by intro _; rfl) (hst : ∀ env : Env, (assignEach es env).findIdx? (·.1) = none := by intro _; rfl) : JC S vs (.Tuple es k pos) (bS n r) := fun X E cx xo =>
 tG (pg_tup cx.calm (h X E cx xo) (hn X.env) (hst X.env)) fun v σ H Q ⟨I, F, G, d, ds, w, rel, rs, rv, p⟩ => by
  cases d <;> first | exact p.elim | skip
  all_goals
   rename_i xs
   simp only [aJ] at rv
   obtain ⟨a, us, rfl, h1, h2⟩ := rv
   simp only [bS] at p
   split at p
   ·rename_i hl
    exact ⟨a, us, rfl, (by first | exact .of (rel.fz _ _ h1) | exact rel.KA h1), by rw [← h2.length]; exact hl, I, F, G, xs, ds, w, rel, rs, h2, p⟩
   ·exact p.elim
end
open Classical in
def kU (it : jN) (vs : List Nat) (g : MG) (t : MT) (e : ME) : List D → Sg → W → Res (List D)
 | [], σ, w => if it.ok w then .ok [] w else .bad
 | x :: xs, σ, w => if it.ok w then (g x (dJ σ vs) w).D3.bind fun σ1 w1 => (t σ1 w1).D3.bind fun b w2 =>
   if b = true then (e σ1 w2).D3.bind fun y w3 => (kU it vs g t e xs σ w3).bind fun ys w4 => .ok (y :: ys) w4 else kU it vs g t e xs σ w2
  else .bad
def LF (m : MI) (vs : List Nat) (g : MG) (t : MT) (e : ME) : MA := fun σ w => (m σ w).bind fun it w1 => if it.xs.length ≤ sizeLine then kU it vs g t e it.xs σ w1 else .bad
def bT (m : MI) (vs : List Nat) (g : MG) (t : MT) (e : ME) : ME := fun σ w => (LF m vs g t e σ w).bind fun ys w1 => .ok (.lst ys) w1
def IX (m : MI) (vs : List Nat) (g : MG) (t : MT) (e : ME) : ME := fun σ w => (LF m vs g t e σ w).bind fun ys w1 => .ok (.ref w1.length) (w1 ++ [.lst ys])
def XO (S : aX) (ifs : List Expr) (t : MT) : Prop := ∀ X E, Ctx S X → n9 X E → PTs X ifs (KR X.K E t)
def bU : MT := fun _ w => .ok true w
abbrev aX.blk (S : aX) (scope : Scope) : aX := { S with sc := relS scope S.sc, fn := fun x => scope.names.lookup x == some .cell }
theorem gO {S : aX} {X : Cx} (c : Ctx S X) (s : Shared) (H : Hp) (scope : Scope) (C : Addr) (cl : List (Str × Addr)) (fp : List Addr) : Ctx (S.blk scope) (X.blk s H scope (compEnvC scope cl C X.env) fp) :=
 ⟨c.P, c.w, c.K, c.mg, c.base, c.N, by show relS scope X.env.scope = relS scope S.sc; rw [c.sc], fun _ h => h, c.calm, c.room, c.gds, c.nd⟩
theorem gS {X : Cx} (s : Shared) (H : Hp) (scope : Scope) (cenv : Env) (fp : List Addr) : n9 (X.blk s H scope cenv fp) E0 :=
 ⟨fun _ _ ⟨_, _, _, _, _, _, _, _, _, _, _, _, _, _, _, _, h⟩ => h.elim, PassesOwn.never⟩
section
variable {S : aX} {pos : Pos} {elt tg iter c : Expr} {ifs : List Expr} {scope : Scope} {own : List (Str × Nat)} {mi : MI} {g : MG} {t : MT} {me : ME}
theorem gQ : XO S [] bU := fun X E cx xo => ⟨fun pins s σ H Q J ⟨I, F, G, ds, w, rel, rs, p⟩ => pts_nil.run pins s σ H Q J (p I F H .refl rel)⟩
theorem BZ (h : JT S c t) : XO S [c] t := fun X E cx xo => pts_one (h X E cx xo)
theorem HK {K : PySem.W.Frag} {E : XK} {vs : List Nat} {f : List D → W → Res D} {σ : L2.St} {H : Hp} {Q : VK} (h : oC K E (fun σ w => (LF mi vs g t me σ w).bind f) σ H Q)
  (fin : ∀ I F G w H q xs us, Rel K I F (upd G q (.lst us)) w H → G q = none → RepL K I F xs us → a6 K I F G E (RV K Q) (f xs w) → Q (.ref q) H) :
  tLc (UU K E mi) (VC K E0 vs g) (KR K E0 t) (oC K E0 me) vs σ H Q := by
 obtain ⟨I, F, G, ds, w, rel, rs, p⟩ := h
 have p0 : a6 K I F G E (RV K Q) ((mi ds w).bind fun it w1 => (if it.xs.length ≤ sizeLine then kU it vs g t me it.xs ds w1 else .bad).bind f) := by
  rw [← Res.bind_assoc]; exact p
 refine ⟨I, F, G, ds, w, rel, rs, (a6.bind p0).mono fun I1 F1 H1 it w1 _ e1 rel1 p1 hok J hJ q hq => ?_⟩
 have hG : G q = none := by
  cases h : G q with
  | none => rfl
  | some u => rw [rel1.gz _ _ h] at hq; cases hq
 split at p1
 ·rename_i hz
  refine ⟨fun i n H' => n = it.xs.length - i ∧ i ≤ it.xs.length ∧ ∃ I' F' w' xs us, Ext I1 F1 I' F' ∧ Rel K I' F' (upd G q (.lst us)) w' H' ∧ RepL K I' F' xs us ∧ xs.length ≤ i ∧
    a6 K I' F' G E (RV K Q) ((kU it vs g t me (it.xs.drop i) ds w').bind fun ys w2 => f (xs ++ ys) w2),
   ⟨it.xs.length, by simp, Nat.zero_le _, I1, F1, w1, [], [], .refl, rel1.keep hq, by simp [RepL], bp _, by simpa using p1⟩, ?_⟩
  rintro i n H' ⟨rfl, hi, I', F', w', xs, us, e', rel', rx, hxi, p'⟩
  by_cases hlt : i < it.xs.length
  ·rw [List.drop_eq_getElem_cons hlt] at p'
   unfold kU at p'
   split at p'
   ·rename_i hw
    obtain ⟨h1, _⟩ := hJ I' F' _ w' H' i e' rel' hw
    obtain ⟨hgo, hy⟩ := h1 _ (bg hlt)
    refine .inr ⟨hgo, fun H2 => ∃ I2 F2 w2 xs2 us2, Ext I1 F1 I2 F2 ∧ Rel K I2 F2 (upd G q (.lst us2)) w2 H2 ∧ RepL K I2 F2 xs2 us2 ∧ xs2.length ≤ i + 1 ∧ a6 K I2 F2 G E (RV K Q) ((kU it vs g t me (it.xs.drop (i + 1)) ds w2).bind fun ys w2 => f (xs2 ++ ys) w2),
     fun H2 q => ⟨it.xs.length - (i + 1), by omega, rfl, hlt, q⟩, fun v H2 y => ?_⟩
    obtain ⟨F2, e2, rel2, rv⟩ := hy v H2 y
    have p2 := p'.ext e2
    rw [Res.bind_assoc] at p2
    -- from here on the list at q lies still
    have still : ∀ {α : Type} {R : List Addr → Hp → Hp → α → W → Prop} {r : Res α} {I3 : List Addr} {F3 : Hp}, a6 K I3 F3 G E0 R r → a6 K I3 F3 (upd G q (.lst us)) E0 (fun I' F' H' a w => Rel K I' F' (upd G q (.lst us)) w H' ∧ ∀ H'', Rel K I' F' G w H'' → R I' F' H'' a w) r := by
     intro α R r I3 F3 hp
     cases r with
     | ok a w => exact fun I' F' H' e q => ⟨q, fun H'' q' => hp I' F' H'' e q'⟩
     | sW x w =>
      intro I' F' H' c d e q rx
      exact hp I' F' H' c d e ⟨q.len, q.nd, q.ob, q.fz, q.ap, fun a u h => q.gz a u (by rw [upd_ne (ne_of_none h hG)]; exact h), fun a u h => q.gf a u (by rw [upd_ne (ne_of_none h hG)]; exact h), fun a xs h => q.gt a xs (by rw [upd_ne (ne_of_none h hG)]; exact h)⟩ rx
     | bad => exact hp
    have less : ∀ {I3 : List Addr} {F3 : Hp} {w3 : W} {H3 : Hp}, Rel K I3 F3 (upd G q (.lst us)) w3 H3 → Rel K I3 F3 G w3 H3 := fun {I3 F3 w3 H3} q => ⟨q.len, q.nd, q.ob, q.fz, q.ap, fun a u h => q.gz a u (by rw [upd_ne (ne_of_none h hG)]; exact h), fun a u h => q.gf a u (by rw [upd_ne (ne_of_none h hG)]; exact h), fun a xs h => q.gt a xs (by rw [upd_ne (ne_of_none h hG)]; exact h)⟩
    refine ⟨I', F2, upd G q (.lst us), _, dJ ds vs, w', rel2, (((rs.ext e1).ext e').ext e2).wipe vs, rv, (still (a6.j8 p2)).mono fun I3 F3 H3 s3 w3 _ e3 rel3 p3 σ3 rs3 ew => ⟨ew.trans vC, ?_⟩⟩
    have p3' := p3.2 H3 (less rel3)
    rw [Res.bind_assoc] at p3'
    refine ⟨I3, F3, upd G q (.lst us), s3, w3, rel3, rs3, (still (a6.j8 p3')).mono fun I4 F4 H4 b w4 _ e4 rel4 p4 => ?_⟩
    have p4' := p4.2 H4 (less rel4)
    cases b with
    | true =>
     simp only [ah] at p4' ⊢
     rw [Res.bind_assoc] at p4'
     refine ⟨I4, F4, upd G q (.lst us), s3, w4, rel4, rs3.ext e4, (still (a6.j8 p4')).mono fun I5 F5 H5 y w5 _ e5 rel5 p5 u ru => ?_⟩
     have p5' := p5.2 H5 (less rel5)
     rw [Res.bind_assoc] at p5'
     have ee : Ext I' F' I5 F5 := ((e2.trans e3).trans e4).trans e5
     refine ⟨us, rel5.gz _ _ upd_same, by rw [← rx.length]; omega, I5, F5, w5, xs ++ [y], us ++ [u], e'.trans ee, rel5.ID, (RepL.ext ee _ _ rx).append (RepL.cons ru (by simp [RepL])), by simp; omega, ?_⟩
     simpa using p5'
    | false =>
     simp only [bj, aa] at p4' ⊢
     exact ⟨I4, F4, w4, xs, us, (e'.trans e2).trans (e3.trans e4), rel4, RepL.ext ((e2.trans e3).trans e4) _ _ rx, by omega, p4'⟩
   ·exact p'.elim
  ·have hl : i = it.xs.length := by omega
   subst hl
   rw [List.drop_length] at p'
   unfold kU at p'
   split at p'
   ·rename_i hw
    refine .inl ⟨(hJ I' F' _ w' H' _ e' rel' hw).2 rfl, fin I' F' G w' H' q xs us rel' hG rx ?_⟩
    simpa using p'
   ·exact p'.elim
 ·exact p1.elim
theorem CM {K : PySem.W.Frag} {E : XK} {Q : VK} (I : List Addr) (F G : Hp) (w : W) (H : Hp) (q : Addr) (xs : List D) (us : List V) (rel : Rel K I F (upd G q (.lst us)) w H) (hG : G q = none) (rx : RepL K I F xs us)
  (p : a6 K I F G E (RV K Q) (.ok (.lst xs) w)) : Q (.ref q) H := by
 obtain ⟨e, rel2⟩ := rel.aA5 hG
 exact p _ _ H e rel2 _ (by simp only [aJ]; exact ⟨q, us, rfl, upd_same, RepL.ext e _ _ rx⟩)
theorem gR (hi : JI S tg iter mi) (hb : blkC S.N S.sc scope own = true) (hg : JC (S.blk scope) (own.map (·.2)) tg g) (ht : XO (S.blk scope) ifs t) (he : JE (S.blk scope) elt me)
  (hs : ∀ (env : Env) x, foldedSetIterable iter env x = pure x := by intro _ _; rfl) : JE S (.ListComp elt [⟨tg, iter, ifs, 0⟩] scope pos) (bT mi (own.map (·.2)) g t me) := fun X E cx xo =>
 cE (pe_lc (own := own) cx.calm cx.nd (hi X E cx xo) (blkOk_by (by rw [cx.N, cx.sc]; exact hb)) (fun s H C cl fp => hg _ E0 (gO cx s H scope C cl fp) (gS ..)) (fun s H C cl fp => ht _ E0 (gO cx s H scope C cl fp) (gS ..))
  (fun s H C cl fp => he _ E0 (gO cx s H scope C cl fp) (gS ..)) (hs X.env)) fun σ H Q h => HK h CM
theorem IF {i : Nat} {y : Str} {py spos : Pos} (hy : S.N[i]? = some y) (hyl : S.sc.names.lookup y = some .local) (hsw : ∀ env : Env, env.scope = S.sc → env.scope.kind = .function → swapsWith (.ListComp elt [⟨tg, iter, ifs, 0⟩] scope pos) (some (.Name y py)) spos.line env = pure true)
  (hi : JI S tg iter mi) (hb : blkC S.N S.sc scope own = true) (hg : JC (S.blk scope) (own.map (·.2)) tg g) (ht : XO (S.blk scope) ifs t) (he : JE (S.blk scope) elt me)
  (hk : S.sc.kind = .function) (hs : ∀ (env : Env) x, foldedSetIterable iter env x = pure x := by intro _ _; rfl) : JS S (.Assign [.Name y py] (.ListComp elt [⟨tg, iter, ifs, 0⟩] scope pos) spos) (aP (bT mi (own.map (·.2)) g t me) (aR i)) := fun X E cx xo =>
 i9 (ps_setLc (i := i) (own := own) cx.calm cx.nd (by rw [cx.N]; exact hy) (by rw [cx.sc]; exact hyl) (hsw X.env cx.sc (by rw [cx.sc]; exact hk)) (hi X E cx xo) (blkOk_by (by rw [cx.N, cx.sc]; exact hb)) (fun s H C cl fp => hg _ E0 (gO cx s H scope C cl fp) (gS ..)) (fun s H C cl fp => ht _ E0 (gO cx s H scope C cl fp) (gS ..))
  (fun s H C cl fp => he _ E0 (gO cx s H scope C cl fp) (gS ..)) (hs X.env)) fun Z σ H ⟨I, F, G, ds, w, rel, rs, p⟩ => by
  obtain ⟨I, F, G, ds, w, rel, rs, q⟩ : oC X.K E (bT mi (own.map (·.2)) g t me) σ H (fun x H1 => gName i x σ H1 Z.nx) := bO (f := fun ds d w1 => (aR i d ds w1).bind fun σ2 w2 => Res.ok (Fl.nx σ2) w2) rel rs p fun I1 F1 H1 x w1 v e1 rel1 rs1 rv p1 => p1 I1 F1 H1 .refl rel1 _ (rs1.set i rv)
  exact HK (f := fun ys w1 => Res.ok (D.lst ys) w1) ⟨I, F, G, ds, w, rel, rs, q⟩ CM
end
def keyD : D → Option Key
 | .int i => some (.inl i)
 | .str x => some (.inr x)
 | _ => none
def rT : List D → Option (List Key)
 | [] => some []
 | d :: ds => match keyD d, rT ds with
  | some k, some ks => some (k :: ks)
  | _, _ => none
def gM {κ : Type} [DecidableEq κ] : List (κ × D) → κ → Option D
 | [], _ => none
 | (j, d) :: r, k => if j = k then some d else gM r k
def putD {κ : Type} [DecidableEq κ] (kvs : List (κ × D)) (k : κ) (d : D) : List (κ × D) :=
 if (gM kvs k).isSome then kvs.map (fun p => if p.1 = k then (p.1, d) else p) else kvs ++ [(k, d)]
section
variable {K : PySem.W.Frag} {I : List Addr} {F G H : Hp} {w : W} {κ : Type} [DecidableEq κ]
def HW (K : PySem.W.Frag) (I : List Addr) (F : Hp) : Option D → Option V → Prop
 | some d, q => ∃ v, q = some v ∧ aJ K I F d v
 | none, q => q = none
theorem aQ.look : ∀ {kvs : List (κ × D)} {r : List (κ × V)} (k : κ), aQ K I F kvs r → HW K I F (gM kvs k) (valV r k)
 | [], r, k, h => by simp only [aQ] at h; subst h; rfl
 | (j, d) :: kvs, r, k, h => by
  simp only [aQ] at h
  obtain ⟨v, t, rfl, h1, h2⟩ := h
  simp only [gM]
  by_cases e : j = k
  ·rw [if_pos e]; exact ⟨v, by rw [valV_pos e], h1⟩
  ·rw [if_neg e]
   have := aQ.look k h2
   rw [valV_neg (by exact e)]
   exact this
theorem aQ.length : ∀ {kvs : List (κ × D)} {r : List (κ × V)}, aQ K I F kvs r → kvs.length = r.length
 | [], r, h => by simp only [aQ] at h; subst h; rfl
 | (j, d) :: kvs, r, h => by
  simp only [aQ] at h
  obtain ⟨v, t, rfl, h1, h2⟩ := h
  simp [aQ.length h2]
theorem aQ.repl {d : D} {v : V} (k : κ) (hv : aJ K I F d v) : ∀ {kvs : List (κ × D)} {r : List (κ × V)}, aQ K I F kvs r → aQ K I F (kvs.map (fun p => if p.1 = k then (p.1, d) else p)) (r.map (fun p => if p.1 = k then (p.1, v) else p))
 | [], r, h => by simp only [aQ] at h; subst h; simp [aQ]
 | (j, x) :: kvs, r, h => by
  simp only [aQ] at h
  obtain ⟨u, t, rfl, h1, h2⟩ := h
  simp only [List.map_cons]
  by_cases e : j = k
  ·rw [if_pos e, if_pos e]; simp only [aQ]; exact ⟨v, _, rfl, hv, aQ.repl k hv h2⟩
  ·rw [if_neg e, if_neg e]; simp only [aQ]; exact ⟨u, _, rfl, h1, aQ.repl k hv h2⟩
theorem aQ.snoc {d : D} {v : V} (k : κ) (hv : aJ K I F d v) : ∀ {kvs : List (κ × D)} {r : List (κ × V)}, aQ K I F kvs r → aQ K I F (kvs ++ [(k, d)]) (r ++ [(k, v)])
 | [], r, h => by simp only [aQ] at h; subst h; simp only [List.nil_append, aQ]; exact ⟨v, [], rfl, hv, rfl⟩
 | (j, x) :: kvs, r, h => by
  simp only [aQ] at h
  obtain ⟨u, t, rfl, h1, h2⟩ := h
  simp only [List.cons_append, aQ]
  exact ⟨u, _, rfl, h1, aQ.snoc k hv h2⟩
theorem U0 (r : List (κ × V)) (k : κ) (v : V) : putK r k v = if (valV r k).isSome then r.map (fun p => if p.1 = k then (p.1, v) else p) else r ++ [(k, v)] := by
 unfold putK
 rw [valV_any]
theorem aQ.put {d : D} {v : V} (k : κ) (hv : aJ K I F d v) {kvs : List (κ × D)} {r : List (κ × V)} (h : aQ K I F kvs r) : aQ K I F (putD kvs k d) (putK r k v) := by
 rw [U0]
 unfold putD
 have hl := h.look k
 cases e : gM kvs k with
 | some x =>
  rw [e] at hl
  obtain ⟨u, hu, _⟩ := hl
  rw [hu]
  exact h.repl k hv
 | none =>
  rw [e] at hl
  rw [hl]
  exact h.snoc k hv
theorem pZ {d : D} {v : V} {k : Key} (h : aJ K I F d v) (e : keyD d = some k) : v = kV k := by
 cases d <;> simp only [keyD, aj, reduceCtorEq] at e
 ·subst e; simp only [aJ] at h; exact h
 ·subst e; simp only [aJ] at h; exact h
theorem qT : ∀ {ds : List D} {vs : List V} {ks : List Key}, RepL K I F ds vs → rT ds = some ks → vs = ks.map kV
 | [], vs, ks, h, e => by simp only [rT, aj] at e; subst e; simp only [RepL] at h; exact h
 | d :: ds, vs, ks, h, e => by
  simp only [RepL] at h
  obtain ⟨v, r, rfl, h1, h2⟩ := h
  simp only [rT] at e
  split at e
  ·rename_i k ks' e1 e2
   cases e
   rw [pZ h1 e1, qT h2 e2]
   rfl
  ·cases e
theorem Rel.upd {i : Nat} {a : Addr} {o o' : MO} {u' : HO} (rel : Rel K I F G w H) (hi : I[i]? = some a) (ho : w[i]? = some o) (r : iZ K I F o' u') (hf : o.fz = false := by rfl) : Rel K I F G (w.set i o') (upd H a u') := by
 have hF : F a = none := rel.ap i a o hi ho hf
 have hil : i < w.length := (ai.mp ho).1
 refine ⟨by simp [rel.len], rel.nd, fun j b q h1 h2 => ?_, fun b u h => ?_, fun j b q h1 h2 h3 => ?_, fun b u h => ?_, rel.gf, rel.gt⟩
 ·by_cases hj : i = j
  ·subst hj
   rw [av hil] at h2
   cases h2
   rw [hi] at h1; cases h1
   exact ⟨u', upd_same, r⟩
  ·rw [ax hj] at h2
   obtain ⟨u, h3, h4⟩ := rel.ob j b q h1 h2
   have hb : b ≠ a := fun z => by
    subst z
    obtain ⟨l1, e1⟩ := ai.mp hi
    obtain ⟨l2, e2⟩ := ai.mp h1
    exact hj ((List.getElem_inj rel.nd).mp (e1.trans e2.symm))
   exact ⟨u, by rw [upd_ne hb]; exact h3, h4⟩
 ·rw [upd_ne (ne_of_none h hF)]; exact rel.fz b u h
 ·by_cases hj : i = j
  ·subst hj
   rw [hi] at h1; cases h1; exact hF
  ·rw [ax hj] at h2
   exact rel.ap j b q h1 h2 h3
 ·have hb : b ≠ a := fun z => (rel.gf b u h).2 (z ▸ bf hi)
  rw [upd_ne hb]; exact rel.gz b u h
end
theorem RepL.at' {K : PySem.W.Frag} {I : List Addr} {F : Hp} {ds : List D} {vs : List V} (r : RepL K I F ds vs) {i : Int} {d : D} (h : atI ds i = some d) : ∃ v, atI vs i = some v ∧ aJ K I F d v := by
 unfold atI at h ⊢
 rw [← r.length]
 cases e : ixN ds.length i with
 | none => rw [e] at h; cases h
 | some j => rw [e] at h; exact r.get h
def m9 (o : MO) (y : D) : Option (Option D) := match o, y with
 | .dK kvs, y => (keyD y).map (gM kvs)
 | .dF kvs, y => (keyD y).map (gM kvs)
 | .dT kvs, .tup ys => (rT ys).map (gM kvs)
 | .dG kvs, .tup ys => (rT ys).map (gM kvs)
 | _, _ => none
def QF (xs : List D) (y : D) (w : W) : Res D := match y with
 | .int i => (match atI xs i with
  | some d => .ok d w
  | none => .bad)
 | _ => .bad
def atS (z : Str) (y : D) (w : W) : Res D := match y with
 | .int i => if z.length ≤ sizeLine then (match atI z.cps.toList i with
   | some c => .ok (.str ⟨#[c]⟩) w
   | none => .bad) else .bad
 | _ => .bad
def aZ (x y : D) (w : W) : Res D := match x with
 | .tup xs => QF xs y w
 | .kK xs => QF xs y w
 | .lst xs => QF xs y w
 | .nG xs => QF xs y w
 | .str z => atS z y w
 | .ref r => (match w[r]? with
  | some (.lst xs) => QF xs y w
  | some o => (match m9 o y with
   | some (some d) => .ok d w
   | _ => .bad)
  | none => .bad)
 | _ => .bad
theorem U5 {X : Cx} (hu : X.A.units + 1 < cLine) : IxR X (fun x y H Q => ∃ a v, x = .ref a ∧ DGet H a y (some v) ∧ Q v H) := by
 intro value slice pins s σ H x y ov iv Q J rx ry h hs
 obtain ⟨a, v, ex, g, q⟩ := h
 subst ex
 cases rx
 have hT : s.TypeIs (.ref a) "dict" := dict_typeIs J g
 unfold subscriptTail
 apply wpAny_bind
 rw [getitemInPython_of_ne hT.not_modules]
 apply wpAny_bind
 apply wpAny_specialOf hT PySem.F.slot_dict_getitem.lookup
 have fin : wpAny (model X.prog X.w) X.A (subscripted slice false (.ref a) iv) (fun r s₃ => wpAny (model X.prog X.w) X.A (letTemporaryGo value (.ref a) r >>= fun _ => pure r) (EP X pins σ Q) X.xe s₃) X.xe s := by
  rw [hs]
  apply wpAny_operating
  exact d_getItem hu J g ry fun w' s3 J3 rw' => wpAny_bind (wpAny_letTemporaryGo (wpAny_pure ⟨v, H, J3, rw', q⟩))
 first
  | exact wpAny_pure (wpAny_bind fin)
  | exact wpAny_bind (wpAny_pure (wpAny_bind fin))
  | exact wpAny_bind fin
theorem UR {K : PySem.W.Frag} {I : List Addr} {F G H : Hp} {w : W} (rel : Rel K I F G w H) {i : Nat} {a : Addr} {o : MO} {y : D} {v : V} {r : Option D} (hi : I[i]? = some a) (ho : w[i]? = some o) (ry : aJ K I F y v) (e : m9 o y = some r) :
  ∃ q, DGet H a v q ∧ HW K I F r q := by
 obtain ⟨u, hu, ro⟩ := rel.ob i a o hi ho
 cases o with
 | lst => simp [m9] at e
 | ins => simp [m9] at e
 | dK kvs =>
  obtain ⟨t, rfl, rk⟩ := ro
  simp only [m9, ao] at e
  obtain ⟨k, ek, rfl⟩ := e
  exact ⟨valV t k, .inl ⟨t, k, .inl hu, pZ ry ek, rfl⟩, rk.look k⟩
 | dF kvs =>
  obtain ⟨ob, t, rfl, rk⟩ := ro
  simp only [m9, ao] at e
  obtain ⟨k, ek, rfl⟩ := e
  exact ⟨valV t k, .inl ⟨t, k, .inr ⟨ob, hu⟩, pZ ry ek, rfl⟩, rk.look k⟩
 | dT kvs =>
  obtain ⟨t, rfl, rk⟩ := ro
  cases y <;> simp only [m9, ao, reduceCtorEq] at e
  obtain ⟨k, ek, rfl⟩ := e
  simp only [aJ] at ry
  obtain ⟨b, us, rfl, hb, rl⟩ := ry
  obtain rfl := qT rl ek
  exact ⟨valV t k, .inr ⟨t, k, b, .inl hu, rfl, rel.fz _ _ hb, rfl⟩, rk.look k⟩
 | dG kvs =>
  obtain ⟨ob, t, rfl, rk⟩ := ro
  cases y <;> simp only [m9, ao, reduceCtorEq] at e
  obtain ⟨k, ek, rfl⟩ := e
  simp only [aJ] at ry
  obtain ⟨b, us, rfl, hb, rl⟩ := ry
  obtain rfl := qT rl ek
  exact ⟨valV t k, .inr ⟨t, k, b, .inr ⟨ob, hu⟩, rfl, rel.fz _ _ hb, rfl⟩, rk.look k⟩
def SN (S : aX) (f : D → D → W → Res D) : Prop := ∀ X E, Ctx S X → n9 X E → IxR X (RG X.K E f)
section
variable {S : aX} {pos : Pos} {a b : Expr} {ma mb : ME}
theorem GR {f : D → D → W → Res D}
  (h : ∀ (X : Cx) (E : XK), Ctx S X → n9 X E → ∀ (I : List Addr) (F G : Hp) (d e : D) (w : W) (H : Hp) (x y : V) (Q : VK), Rel X.K I F G w H → aJ X.K I F d x → aJ X.K I F e y → a6 X.K I F G E (RV X.K Q) (f d e w) →
   ∃ r : R2, IxR X r ∧ r x y H Q) : SN S f := fun X E c xo value slice pins s σ H x y v u Q J rx ry ⟨I, F, G, d, e, w, rel, rd, re, p⟩ hs => by
 obtain ⟨r, ho, hr⟩ := h X E c xo I F G d e w H x y Q rel rd re p
 exact ho value slice pins s σ H x y v u Q J rx ry hr hs
theorem xO {X : Cx} {E : XK} {I : List Addr} {F G : Hp} {e : D} {w : W} {H : Hp} {x y : V} {Q : VK} (rel : Rel X.K I F G w H) (re : aJ X.K I F e y) {xs : List D} {vs : List V} {q : Addr} (h1 : SqL X.K H q vs ∨ SqT X.K H q vs) (h2 : RepL X.K I F xs vs) (ex : x = .ref q)
  (p : a6 X.K I F G E (RV X.K Q) (QF xs e w)) : ∃ r : R2, IxR X r ∧ r x y H Q := by
 cases e <;> first | exact p.elim | skip
 rename_i i
 simp only [aJ] at re
 simp only [QF] at p
 cases ha : atI xs i with
 | none => rw [ha] at p; exact p.elim
 | some d =>
  rw [ha] at p
  obtain ⟨v, hv, rv⟩ := h2.at' ha
  rcases h1 with h1 | h1
  ·exact ⟨_, ix_list, q, vs, i, v, ex, re, h1, hv, p.n8 rel rv⟩
  ·exact ⟨_, ix_tup, q, vs, i, v, ex, re, h1, hv, p.n8 rel rv⟩
theorem aAD : SN S aZ := GR fun X E c xo I F G d e w H x y Q rel rd re p => by
 cases d <;> first | exact p.elim | skip
 case str z =>
  cases e <;> first | exact p.elim | skip
  rename_i i
  simp only [aJ] at rd re
  simp only [aZ, atS] at p
  split at p
  ·rename_i hz
   split at p
   ·rename_i c hc
    exact ⟨_, ix_str, z, i, c, rd, re, hz, hc, p.n8 rel (by simp [aJ])⟩
   ·exact p.elim
  ·exact p.elim
 case tup xs =>
  simp only [aJ] at rd
  obtain ⟨q, vs, ex, h1, h2⟩ := rd
  exact xO rel re (.inr (.of (rel.fz _ _ h1))) h2 ex p
 case kK xs =>
  simp only [aJ] at rd
  obtain ⟨q, vs, ex, h1, h2⟩ := rd
  exact xO rel re (.inr (rel.KA h1)) h2 ex p
 case lst xs =>
  simp only [aJ] at rd
  obtain ⟨q, vs, ex, h1, h2⟩ := rd
  exact xO rel re (.inl (.of (rel.fz _ _ h1))) h2 ex p
 case nG xs =>
  simp only [aJ] at rd
  obtain ⟨q, vs, ex, h1, h2⟩ := rd
  exact xO rel re (.inl (rel.RQ h1)) h2 ex p
 case ref i =>
  simp only [aJ] at rd
  obtain ⟨q, ex, h1⟩ := rd
  simp only [aZ] at p
  split at p
  ·rename_i xs hw
   obtain ⟨u, hu, vs, rfl, h2⟩ := rel.ob i q _ h1 hw
   exact xO rel re (.inl (.of hu)) h2 ex p
  ·rename_i o hn hw
   split at p
   ·rename_i d hd
    obtain ⟨r, hr, u, rfl, ru⟩ := UR rel h1 hw re hd
    exact ⟨_, U5 (by have := c.room.units; omega), q, u, ex, hr, p.n8 rel ru⟩
   ·exact p.elim
  ·exact p.elim
theorem eB (ha : JE S a ma) (hb : JE S b mb) (hs : PlainIx b := by intro _ _; rfl) : JE S (.Subscript a b pos) (aE aZ ma mb) := fun X E c xo =>
 cE (pe_ix (aAD X E c xo) (ha X E c xo) (hb X E c xo) hs) fun _ _ _ h => tY h
end
abbrev ZH := Sg → W → Res (Option Int)
def cY : ZH := fun _ w => .ok none w
def cK (m : ME) : ZH := fun σ w => (m σ w).bind fun d w1 => match d with
 | .int i => .ok (some i) w1
 | _ => .bad
def RO (Q : Option Int → Hp → Prop) : List Addr → Hp → Hp → Option Int → W → Prop := fun _ _ H' o _ => Q o H'
def aCj (K : PySem.W.Frag) (E : XK) (m : ZH) : TO := fun σ H Q => ∃ I F G ds w, Rel K I F G w H ∧ eS K I F ds σ ∧ a6 K I F G E (RO Q) (m ds w)
def JO (S : aX) (e : Option Expr) (m : ZH) : Prop := ∀ X E, Ctx S X → n9 X E → PO X e (aCj X.K E m)
def cutD (xs : List D) (lo hi : Option Int) : List D := (xs.drop (HT.sIx xs.length 0 lo)).take (HT.sIx xs.length xs.length hi - HT.sIx xs.length 0 lo)
def kH (x : D) (lo hi : Option Int) (w : W) : Res D := match x with
 | .tup xs => .ok (.tup (cutD xs lo hi)) w
 | .str z => if z.length ≤ sizeLine then .ok (.str (cutS z lo hi)) w else .bad
 | .lst xs => .ok (.lst (cutD xs lo hi)) w
 | .nG xs => .ok (.lst (cutD xs lo hi)) w
 | .ref i => (match w[i]? with
  | some (.lst xs) => .ok (.lst (cutD xs lo hi)) w
  | _ => .bad)
 | _ => .bad
def nD (f : D → Option Int → Option Int → W → Res D) (a : ME) (lo hi : ZH) : ME := fun σ w => (a σ w).bind fun x w1 => (lo σ w1).bind fun l w2 => (hi σ w2).bind fun u w3 => f x l u w3
theorem RepL.cutV {K : PySem.W.Frag} {I : List Addr} {F : Hp} {ds : List D} {vs : List V} (r : RepL K I F ds vs) (lo hi : Option Int) : RepL K I F (cutD ds lo hi) (L2.cutV vs lo hi) := by
 unfold cutD L2.cutV
 rw [← r.length]
 exact (r.drop _).take _
theorem ND {xs : List D} {lo hi : Option Int} (h : HT.sIx xs.length 0 lo = 0 ∧ HT.sIx xs.length xs.length hi = xs.length) : cutD xs lo hi = xs := by
 unfold cutD
 rw [h.1, h.2]
 simp
def SlM (S : aX) (f : D → Option Int → Option Int → W → Res D) : Prop := ∀ X E, Ctx S X → n9 X E → ∀ (I : List Addr) (F G : Hp) (d : D) (w : W) (H : Hp) (x : V) (lo hi : Option Int) (Q : VK), Rel X.K I F G w H → aJ X.K I F d x → a6 X.K I F G E (RV X.K Q) (f d lo hi w) →
   ∃ r, SlR X r ∧ r x lo hi H Q
def aAA (K : PySem.W.Frag) (E : XK) (f : D → Option Int → Option Int → W → Res D) : V → Option Int → Option Int → Hp → VK → Prop := fun x lo hi H Q => ∃ I F G d w, Rel K I F G w H ∧ aJ K I F d x ∧ a6 K I F G E (RV K Q) (f d lo hi w)
section
variable {S : aX} {pos p2 : Pos} {a e : Expr} {ma m : ME} {lo hi : Option Expr} {ml mh : ZH} {f : D → Option Int → Option Int → W → Res D}
theorem jG : JO S none cY := fun X E c xo => ⟨fun pins s σ H Q J ⟨I, F, G, ds, w, rel, rs, p⟩ => po_none.run pins s σ H Q J (p I F H .refl rel)⟩
theorem jH (h : JE S e m) : JO S (some e) (cK m) := fun X E c xo => ⟨fun pins s σ H Q J ⟨I, F, G, ds, w, rel, rs, p⟩ => (po_some (h X E c xo)).run pins s σ H Q J
 (bO (f := fun _ d w1 => match d with
  | .int i => Res.ok (some i) w1
  | _ => .bad) rel rs p fun I1 F1 H1 x w1 v e1 rel1 rs1 rv p1 => by
  cases x <;> first | exact p1.elim | skip
  simp only [aJ] at rv
  exact ⟨_, rv, p1 I1 F1 H1 .refl rel1⟩)⟩
theorem rK : SlM S kH := fun X E c xo I F G d w H x lo hi Q rel rd p => by
 cases d <;> first | exact p.elim | skip
 case tup xs =>
  simp only [aJ] at rd
  obtain ⟨q, vs, ex, h1, h2⟩ := rd
  refine ⟨_, sl_tupA, q, vs, ex, .of (rel.fz _ _ h1), fun hw => ?_, fun hw => ?_⟩
  ·rw [← h2.length] at hw
   refine p.n8 rel ?_
   rw [ND hw]
   simp only [aJ]
   exact ⟨q, vs, ex ▸ rfl, h1, h2⟩
  ·exact nS rel (h2.cutV lo hi) p
 case str z =>
  simp only [aJ] at rd
  simp only [kH] at p
  split at p
  ·rename_i hz
   exact ⟨_, sl_str, z, rd, hz, p.n8 rel (by simp [aJ])⟩
  ·exact p.elim
 case lst xs =>
  simp only [aJ] at rd
  obtain ⟨q, vs, ex, h1, h2⟩ := rd
  exact ⟨_, sl_list, q, vs, ex, .of (rel.fz _ _ h1), l5 rel (h2.cutV lo hi) p⟩
 case nG xs =>
  simp only [aJ] at rd
  obtain ⟨q, vs, ex, h1, h2⟩ := rd
  exact ⟨_, sl_list, q, vs, ex, rel.RQ h1, l5 rel (h2.cutV lo hi) p⟩
 case ref i =>
  simp only [aJ] at rd
  obtain ⟨q, ex, h1⟩ := rd
  simp only [kH] at p
  split at p
  ·rename_i xs hw
   obtain ⟨u, hu, vs, rfl, h2⟩ := rel.ob i q _ h1 hw
   exact ⟨_, sl_list, q, vs, ex, .of hu, l5 rel (h2.cutV lo hi) p⟩
  ·exact p.elim
theorem rP (hf : SlM S f) (ha : JE S a ma) (hl : JO S lo ml) (hh : JO S hi mh) : JE S (.Subscript a (.Slice lo hi none p2) pos) (nD f ma ml mh) := fun X E c xo => by
 have hr : SlR X (aAA X.K E f) := fun pins s σ H x v vl vu l u sl Q J rx hs pl pu ⟨I, F, G, d, w, rel, rd, p⟩ => by
  obtain ⟨r, h1, h2⟩ := hf X E c xo I F G d w H x l u Q rel rd p
  exact h1 pins s σ H x v vl vu l u sl Q J rx hs pl pu h2
 refine cE (pe_slice hr (ha X E c xo) (hl X E c xo) (hh X E c xo)) fun σ H Q ⟨I, F, G, ds, w, rel, rs, p⟩ => ?_
 refine bO (f := fun ds x w1 => (ml ds w1).bind fun l w2 => (mh ds w2).bind fun u w3 => f x l u w3) rel rs p fun I1 F1 H1 x w1 v e1 rel1 rs1 rv p1 => ?_
 refine ⟨I1, F1, G, ds, w1, rel1, rs1, (a6.bind p1).mono fun I2 F2 H2 l w2 _ e2 rel2 p2 => ?_⟩
 refine ⟨I2, F2, G, ds, w2, rel2, rs1.ext e2, (a6.bind p2).mono fun I3 F3 H3 u w3 _ e3 rel3 p3 => ?_⟩
 exact ⟨I3, F3, G, x, w3, rel3, aJ.ext (e2.trans e3) _ _ rv, p3⟩
end
def setM (o i d : D) (w : W) : Res Unit := match o with
 | .ref r => (match w[r]? with
  | some (.lst xs) => (match i with
   | .int k => (match ixN xs.length k with
    | some j => .ok () (w.set r (.lst (xs.set j d)))
    | none => .bad)
   | _ => .bad)
  | some (.dK kvs) => (match keyD i with
   | some k => if kvs.length < sizeLine then .ok () (w.set r (.dK (putD kvs k d))) else .bad
   | none => .bad)
  | some (.dT kvs) => (match i with
   | .tup ys => (match rT ys with
    | some k => if kvs.length < sizeLine then .ok () (w.set r (.dT (putD kvs k d))) else .bad
    | none => .bad)
   | _ => .bad)
  | _ => .bad)
 | _ => .bad
def dI (mo mi : ME) : MG := fun d σ w => (mo σ w).bind fun o w1 => (mi σ w1).bind fun i w2 => (setM o i d w2).bind fun _ w3 => .ok σ w3
def XX (K : PySem.W.Frag) (E : XK) : TSet := fun o i v H Q => ∃ I F G x y d w, Rel K I F G w H ∧ aJ K I F x o ∧ aJ K I F y i ∧ aJ K I F d v ∧ a6 K I F G E (fun _ _ H' _ _ => Q H') (setM x y d w)
theorem fZ {X : Cx} {E : XK} (hu : X.A.units + 1 < cLine) : PSet X (XX X.K E) := by
 intro pins s σ H o i v ov iv u Q J ro ri rv ⟨I, F, G, x, y, d, w, rel, rx, ry, rd, p⟩
 cases x <;> first | exact p.elim | skip
 rename_i r
 simp only [aJ] at rx
 obtain ⟨a, rfl, h1⟩ := rx
 simp only [setM] at p
 split at p
 ·rename_i xs hw
  obtain ⟨t, hu', vs, rfl, h2⟩ := rel.ob r a _ h1 hw
  cases y <;> first | exact p.elim | skip
  rename_i k
  simp only [aJ] at ry
  subst ry
  dsimp only at p
  split at p
  ·rename_i j hj
   exact set_list pins s σ H _ _ v ov iv u Q J ro ri rv ⟨a, vs, k, j, rfl, rfl, hu', by rw [← h2.length]; exact hj, p I F _ .refl (rel.upd h1 hw ⟨_, rfl, h2.set j rd⟩)⟩
  ·exact p.elim
 ·rename_i kvs hw
  obtain ⟨t, hu', vs, rfl, h2⟩ := rel.ob r a _ h1 hw
  split at p
  ·rename_i k hk
   split at p
   ·rename_i hl
    obtain rfl := pZ ry hk
    cases ro
    exact d_setItem hu J (.inl ⟨vs, k, hu', rfl, by rw [← h2.length]; exact hl, rfl⟩) ri rv fun s' J' => ⟨_, J', p I F _ .refl (rel.upd h1 hw ⟨_, rfl, h2.put k rd⟩)⟩
   ·exact p.elim
  ·exact p.elim
 ·rename_i kvs hw
  obtain ⟨t, hu', vs, rfl, h2⟩ := rel.ob r a _ h1 hw
  cases y <;> first | exact p.elim | skip
  rename_i ys
  dsimp only at p
  split at p
  ·rename_i k hk
   split at p
   ·rename_i hl
    simp only [aJ] at ry
    obtain ⟨b, us, rfl, hb, rl⟩ := ry
    obtain rfl := qT rl hk
    cases ro
    exact d_setItem hu J (.inr ⟨vs, k, b, hu', rfl, rel.fz _ _ hb, by rw [← h2.length]; exact hl, rfl⟩) ri rv fun s' J' => ⟨_, J', p I F _ .refl (rel.upd h1 hw ⟨_, rfl, h2.put k rd⟩)⟩
   ·exact p.elim
  ·exact p.elim
 ·exact p.elim
section
variable {S : aX} {pos : Pos} {o i : Expr} {mo mi : ME}
theorem QS (ho : JE S o mo) (hi : JE S i mi)
  (ha : ∀ (env : Env) v, assign (.Subscript o i pos) env v = (do
   let ov ← holding [v] (eval o env)
   let iv ← holding [v, ov] (eval i env)
   standAt pos
   holding [v, ov, iv] (setItem ov iv v)
   release [v, ov, iv] []) := by intro _ _; rfl) : JG S (.Subscript o i pos) (dI mo mi) := fun X E c xo =>
 tG (pg_sub (ho X E c xo) (hi X E c xo) (fZ (E := E) (by have := c.room.units; omega)) (ha X.env)) fun v σ H Q ⟨I, F, G, d, ds, w, rel, rs, rv, p⟩ => by
  refine bO (f := fun ds x w1 => (mi ds w1).bind fun y w2 => (setM x y d w2).bind fun _ w3 => Res.ok ds w3) rel rs p fun I1 F1 H1 x w1 u e1 rel1 rs1 ru p1 => ?_
  refine bO (f := fun ds y w2 => (setM x y d w2).bind fun _ w3 => Res.ok ds w3) rel1 rs1 p1 fun I2 F2 H2 y w2 t e2 rel2 rs2 rt p2 => ?_
  exact ⟨I2, F2, G, x, y, d, w2, rel2, aJ.ext e2 _ _ ru, rt, aJ.ext (e1.trans e2) _ _ rv, (a6.bind p2).mono fun I3 F3 H3 z w3 _ e3 rel3 p3 => p3 I3 F3 H3 .refl rel3 σ (rs2.ext e3)⟩
end
def aAZ (K : PySem.W.Frag) (E : XK) (m : MF) : List V → Hp → VK → Prop := fun vs H Q => ∃ I F G ds w, Rel K I F G w H ∧ RepL K I F ds vs ∧ a6 K I F G E (RV K Q) (m ds w)
def CB (S : aX) (f : Value) (m : MF) : Prop := ∀ X E, Ctx S X → n9 X E → CallR X f (aAZ X.K E m)
def aW (m : MF) (ma : MA) : ME := fun σ w => (ma σ w).bind fun xs w1 => m xs w1
section
variable {S : aX} {m : MF} {x : Str} {p pos : Pos} {e : Expr} {es : List Expr} {ma : MA} {f : Value}
theorem uF (h : ∀ (X : Cx) (E : XK), Ctx S X → n9 X E → ∀ (I : List Addr) (F G : Hp) (ds : List D) (w : W) (H : Hp) (vs : List V) (Q : VK), Rel X.K I F G w H → RepL X.K I F ds vs → a6 X.K I F G E (RV X.K Q) (m ds w) → ∃ r, CallR X f r ∧ r vs H Q) : CB S f m :=
 fun X E c xo pins s σ H vs us Q J r ⟨I, F, G, ds, w, rel, rl, p⟩ => by
  obtain ⟨r', h1, h2⟩ := h X E c xo I F G ds w H vs Q rel rl p
  exact h1 pins s σ H vs us Q J r h2
theorem L0 {K : PySem.W.Frag} {E : XK} {σ : L2.St} {H : Hp} {Q : VK} (h : oC K E (aW m ma) σ H Q) : tCB (aAZ K E m) (VW K E ma) σ H Q := by
 obtain ⟨I, F, G, ds, w, rel, rs, p⟩ := h
 exact eA (f := fun _ xs w1 => m xs w1) rel rs p fun I1 F1 H1 xs w1 vs e1 rel1 rs1 rvs p1 => ⟨I1, F1, G, xs, w1, rel1, rvs, p1⟩
theorem bW {id : String} (hc : CB S (.builtin id) m) (hg : S.sc.names.lookup x = some .globalImplicit) (hm : S.mg x = none) (hv : bootBuiltins x = some (.builtin id)) (ha : JA S (e :: es) ma) (hn : x ≠ "__name__" := by decide) (hdb : (x == ("__debug__" : Str)) = false := by decide)
  (he : ∀ env : Env, starEach (e :: es) env = (false, eval e env) :: starEach es env := by intro _; rfl) (hpl : ∀ env : Env, (backTo pos (starEach es env)).any (·.1) = false := by intro _; rfl) : JE S (.Call (.Name x p) (e :: es) [] pos) (aW m ma) := fun X E c xo =>
 cE (pe_callB (hc X E c xo) (by show X.env.scope.names.lookup x = _; rw [c.sc]; exact hg) (by rw [c.mg]; exact hm) hv (ha X E c xo) hn hdb (he X.env) (hpl X.env)) fun _ _ _ h => L0 h
theorem fR {id : String} (hc : CB S (.type id) m) (hg : S.sc.names.lookup x = some .globalImplicit) (hm : S.mg x = none) (hv : bootBuiltins x = some (.type id)) (ha : JA S (e :: es) ma) (hn : x ≠ "__name__" := by decide) (hdb : (x == ("__debug__" : Str)) = false := by decide)
  (he : ∀ env : Env, starEach (e :: es) env = (false, eval e env) :: starEach es env := by intro _; rfl) (hpl : ∀ env : Env, (backTo pos (starEach es env)).any (·.1) = false := by intro _; rfl) : JE S (.Call (.Name x p) (e :: es) [] pos) (aW m ma) := fun X E c xo =>
 cE (pe_callTy (hc X E c xo) (by show X.env.scope.names.lookup x = _; rw [c.sc]; exact hg) (by rw [c.mg]; exact hm) hv (ha X E c xo) hn hdb (he X.env) (hpl X.env)) fun _ _ _ h => L0 h
end
theorem RepL.one {K : PySem.W.Frag} {I : List Addr} {F : Hp} {d : D} {vs : List V} (h : RepL K I F [d] vs) : ∃ v, vs = [v] ∧ aJ K I F d v := by
 simp only [RepL] at h
 obtain ⟨v, r, rfl, h1, rfl⟩ := h
 exact ⟨v, rfl, h1⟩
theorem RepL.two {K : PySem.W.Frag} {I : List Addr} {F : Hp} {d e : D} {vs : List V} (h : RepL K I F [d, e] vs) : ∃ v u, vs = [v, u] ∧ aJ K I F d v ∧ aJ K I F e u := by
 simp only [RepL] at h
 obtain ⟨v, r, rfl, h1, u, r2, rfl, h2, rfl⟩ := h
 exact ⟨v, u, rfl, h1, h2⟩
theorem GU {K : PySem.W.Frag} {I : List Addr} {F G H : Hp} {w : W} (rel : Rel K I F G w H) {d : D} {v : V} {xs : List D} (h : aJ K I F d v) (e : d.items w = some xs) : ∃ a vs, v = .ref a ∧ (SqL K H a vs ∨ SqT K H a vs) ∧ RepL K I F xs vs := by
 cases d <;> simp only [D.items, aj, reduceCtorEq] at e <;> simp only [aJ] at h
 case tup => subst e; obtain ⟨a, vs, h0, h1, h2⟩ := h; exact ⟨a, vs, h0, .inr (.of (rel.fz _ _ h1)), h2⟩
 case kK => subst e; obtain ⟨a, vs, h0, h1, h2⟩ := h; exact ⟨a, vs, h0, .inr (rel.KA h1), h2⟩
 case lst => subst e; obtain ⟨a, vs, h0, h1, h2⟩ := h; exact ⟨a, vs, h0, .inl (.of (rel.fz _ _ h1)), h2⟩
 case nG => subst e; obtain ⟨a, vs, h0, h1, h2⟩ := h; exact ⟨a, vs, h0, .inl (rel.RQ h1), h2⟩
 case ref i =>
  split at e
  ·rename_i ys hw
   cases e
   obtain ⟨a, h0, h1⟩ := h
   obtain ⟨u, hu, vs, rfl, h2⟩ := rel.ob i a _ h1 hw
   exact ⟨a, vs, h0, .inl (.of hu), h2⟩
  ·cases e
def DH (d : D) (w : W) : Option Nat := match d with
 | .str z => if z.length ≤ sizeLine then some z.length else none
 | .ref i => (match w[i]? with
  | some (.lst xs) => some xs.length
  | some (.dK kvs) => some kvs.length
  | _ => none)
 | d => (d.items w).map List.length
def dO : MF := fun ds w => match ds with
 | [d] => (match DH d w with
  | some n => .ok (.int n) w
  | none => .bad)
 | _ => .bad
def lE : List D → Option (List Int)
 | [] => some []
 | .int i :: r => (lE r).map (i :: ·)
 | _ :: _ => none
theorem qM {K : PySem.W.Frag} {I : List Addr} {F : Hp} : ∀ {ds : List D} {vs : List V} {ns : List Int}, RepL K I F ds vs → lE ds = some ns → vs = ns.map V.int
 | [], vs, ns, h, e => by simp only [lE, aj] at e; subst e; simp only [RepL] at h; exact h
 | d :: ds, vs, ns, h, e => by
  cases d <;> simp only [lE, ao, reduceCtorEq] at e
  obtain ⟨r, e1, rfl⟩ := e
  simp only [RepL, aJ] at h
  obtain ⟨v, t, rfl, rfl, h2⟩ := h
  rw [qM h2 e1]
  rfl
def rS (d : D) (w : W) : Option (List D) := match d with
 | .lst xs => some xs
 | .nG xs => some xs
 | .ref i => (match w[i]? with
  | some (.lst xs) => some xs
  | _ => none)
 | _ => none
def wJ (d : D) : Option (List D) := match d with
 | .tup xs => some xs
 | .kK xs => some xs
 | _ => none
theorem wY {K : PySem.W.Frag} {I : List Addr} {F G H : Hp} {w : W} (rel : Rel K I F G w H) {d : D} {v : V} {xs : List D} (h : aJ K I F d v) (e : rS d w = some xs) : ∃ a vs, v = .ref a ∧ SqL K H a vs ∧ RepL K I F xs vs := by
 cases d <;> simp only [rS, aj, reduceCtorEq] at e <;> simp only [aJ] at h
 case lst => subst e; obtain ⟨a, vs, h0, h1, h2⟩ := h; exact ⟨a, vs, h0, .of (rel.fz _ _ h1), h2⟩
 case nG => subst e; obtain ⟨a, vs, h0, h1, h2⟩ := h; exact ⟨a, vs, h0, rel.RQ h1, h2⟩
 case ref i =>
  split at e
  ·rename_i ys hw
   cases e
   obtain ⟨a, h0, h1⟩ := h
   obtain ⟨u, hu, vs, rfl, h2⟩ := rel.ob i a _ h1 hw
   exact ⟨a, vs, h0, .of hu, h2⟩
  ·cases e
theorem OM {K : PySem.W.Frag} {I : List Addr} {F G H : Hp} {w : W} (rel : Rel K I F G w H) {d : D} {v : V} {xs : List D} (h : aJ K I F d v) (e : wJ d = some xs) : ∃ a vs, v = .ref a ∧ SqT K H a vs ∧ RepL K I F xs vs := by
 cases d <;> simp only [wJ, aj, reduceCtorEq] at e <;> simp only [aJ] at h
 case tup => subst e; obtain ⟨a, vs, h0, h1, h2⟩ := h; exact ⟨a, vs, h0, .of (rel.fz _ _ h1), h2⟩
 case kK => subst e; obtain ⟨a, vs, h0, h1, h2⟩ := h; exact ⟨a, vs, h0, rel.KA h1, h2⟩
def HD : MF := fun ds w => match ds with
 | [d] => (match (rS d w).bind lE with
  | some ns => .ok (.int ns.sum) w
  | none => .bad)
 | _ => .bad
def WO : MF := fun ds w => match ds with
 | [d] => (match d.items w with
  | some xs => .ok (.lst xs) w
  | none => .bad)
 | _ => .bad
def yF : MF := fun ds w => match ds with
 | [d] => (match d.items w with
  | some xs => .ok (.ref w.length) (w ++ [.lst xs])
  | none => .bad)
 | _ => .bad
def fL : MF := fun ds w => match ds with
 | [.tup xs] => .ok (.tup xs) w
 | [d] => (match rS d w with
  | some xs => .ok (.tup xs) w
  | none => .bad)
 | _ => .bad
def oB : MF := fun ds w => match ds with
 | [.int i] => .ok (.int i) w
 | [.bl b] => .ok (.int (if b then 1 else 0)) w
 | _ => .bad
def max2 : MF := fun ds w => match ds with
 | [.int i, .int j] => .ok (.int (if j > i then j else i)) w
 | _ => .bad
def min2 : MF := fun ds w => match ds with
 | [.int i, .int j] => .ok (.int (if j < i then j else i)) w
 | _ => .bad
section
variable {S : aX}
theorem mM : CB S (.builtin "len") dO := uF fun X E c xo I F G ds w H vs Q rel rl p => by
 unfold dO at p
 split at p
 ·rename_i d
  obtain ⟨v, rfl, rv⟩ := rl.one
  split at p
  ·rename_i n hn
   have go : ∀ {xs : List D}, d.items w = some xs → n = xs.length → ∃ r, CallR X (.builtin "len") r ∧ r [v] H Q := fun {xs} h1 h2 => by
    obtain ⟨a, us, rfl, hq, hr⟩ := GU rel rv h1
    refine ⟨_, call_len, .ref a, n, rfl, ?_, p.n8 rel (by simp [aJ])⟩
    rw [h2, hr.length]
    rcases hq with hq | hq
    ·exact .inl ⟨us, hq, rfl⟩
    ·exact .inr ⟨us, hq, rfl⟩
   cases d <;> simp only [DH, D.items, Option.map_some, Option.map_none, aj, reduceCtorEq] at hn
   case str z =>
    split at hn
    ·rename_i hz
     cases hn
     simp only [aJ] at rv
     subst rv
     exact ⟨_, call_len, .str z, z.length, rfl, ⟨hz, rfl⟩, p.n8 rel (by simp [aJ])⟩
    ·cases hn
   case tup => exact go (by simp [D.items]) hn.symm
   case kK => exact go (by simp [D.items]) hn.symm
   case lst => exact go (by simp [D.items]) hn.symm
   case nG => exact go (by simp [D.items]) hn.symm
   case ref i =>
    split at hn
    ·rename_i xs hw
     exact go (by simp [D.items, hw]) (Option.some.inj hn).symm
    ·rename_i kvs hw
     cases hn
     simp only [aJ] at rv
     obtain ⟨a, rfl, h1⟩ := rv
     obtain ⟨u, hu, us, rfl, h2⟩ := rel.ob i a _ h1 hw
     exact ⟨_, call_lenD, a, us, rfl, hu, p.n8 rel (by simp [aJ, h2.length])⟩
    ·cases hn
  ·exact p.elim
 ·exact p.elim
theorem X4 : CB S (.builtin "sum") HD := uF fun X E c xo I F G ds w H vs Q rel rl p => by
 unfold HD at p
 split at p
 ·rename_i d
  obtain ⟨v, rfl, rv⟩ := rl.one
  split at p
  ·rename_i ns hn
   obtain ⟨xs, h1, h2⟩ := ck.mp hn
   obtain ⟨a, us, rfl, hq, hr⟩ := wY rel rv h1
   obtain rfl := qM hr h2
   exact ⟨_, cr_sum c.calm, a, ns, rfl, hq, p.n8 rel (by simp [aJ])⟩
  ·exact p.elim
 ·exact p.elim
theorem S0 : CB S (.type "list") yF := uF fun X E c xo I F G ds w H vs Q rel rl p => by
 unfold yF at p
 split at p
 ·rename_i d
  obtain ⟨v, rfl, rv⟩ := rl.one
  split at p
  ·rename_i xs hn
   obtain ⟨a, us, rfl, hq, hr⟩ := GU rel rv hn
   exact ⟨_, call_list_of, a, us, rfl, hq, wZ (o := .lst xs) rel ⟨us, rfl, hr⟩ p⟩
  ·exact p.elim
 ·exact p.elim
theorem m2 : CB S (.type "tuple") fL := uF fun X E c xo I F G ds w H vs Q rel rl p => by
 unfold fL at p
 split at p
 ·rename_i xs
  obtain ⟨v, rfl, rv⟩ := rl.one
  have rv' := rv
  simp only [aJ] at rv'
  obtain ⟨a, us, rfl, h1, h2⟩ := rv'
  exact ⟨_, call_tuple_of, a, us, rfl, .inr ⟨.of (rel.fz _ _ h1), p.n8 rel rv⟩⟩
 ·rename_i d _
  obtain ⟨v, rfl, rv⟩ := rl.one
  split at p
  ·rename_i xs hn
   obtain ⟨a, us, rfl, hq, hr⟩ := wY rel rv hn
   exact ⟨_, call_tuple_of, a, us, rfl, .inl ⟨hq, nS rel hr p⟩⟩
  ·exact p.elim
 ·exact p.elim
theorem CT : CB S (.type "int") oB := uF fun X E c xo I F G ds w H vs Q rel rl p => by
 unfold oB at p
 split at p
 ·rename_i i
  obtain ⟨v, rfl, rv⟩ := rl.one
  simp only [aJ] at rv
  subst rv
  exact ⟨_, call_int1, .inl ⟨i, rfl, p.n8 rel (by simp [aJ])⟩⟩
 ·rename_i b
  obtain ⟨v, rfl, rv⟩ := rl.one
  simp only [aJ] at rv
  subst rv
  exact ⟨_, call_int1, .inr ⟨b, rfl, p.n8 rel (by simp [aJ])⟩⟩
 ·exact p.elim
end
abbrev PJ := D → List D → W → Res D
def aCc (K : PySem.W.Frag) (E : XK) (m : PJ) : V → List V → Hp → VK → Prop := fun x vs H Q => ∃ I F G d ds w, Rel K I F G w H ∧ aJ K I F d x ∧ RepL K I F ds vs ∧ a6 K I F G E (RV K Q) (m d ds w)
def MB (S : aX) (id : String) (m : PJ) : Prop := ∀ X E, Ctx S X → n9 X E → MtR X id (aCc X.K E m)
def VL (d : D) (w : W) : Option String := match d with
 | .str _ => some "str"
 | .lst _ => some "list"
 | .nG _ => some "list"
 | .ref i => (match w[i]? with
  | some (.lst _) => some "list"
  | some (.dK _) => some "dict"
  | some (.dT _) => some "dict"
  | some (.dG _) => some "dict"
  | _ => none)
 | _ => none
def YS (K : PySem.W.Frag) (T : String) (x : V) (H : Hp) : Prop := tyV K T x H ∨ (T = "dict" ∧ ∃ p o kvs, x = .ref p ∧ H p = some (.frz o (.dT kvs)))
theorem V0 {X : Cx} {pins : List (Addr × Obj)} {σ : L2.St} {H : Hp} {s : Shared} {T : String} {x : V} {v : Value} (I : Inv X pins σ H s) (r : RelV x v) (ty : YS X.K T x H) :
  s.TypeIs v T ∧ ∀ a, v = .ref a → ∃ ob, s.heap.get? a = some ob ∧ ob.dict = none := by
 rcases ty with ty | ⟨rfl, p, o, kvs, rfl, hp⟩
 ·exact tyV_is I r ty
 ·cases r
  obtain ⟨_, hgd, ex, _⟩ := I.frzT hp
  exact ⟨⟨o, hgd, ex.1⟩, fun a e => by cases e; exact ⟨o, hgd, ex.2.1⟩⟩
def aBE (K : PySem.W.Frag) (T : String) (r : V → List V → Hp → VK → Prop) (to : TE) (t : TA) : TE := fun σ H Q => to σ H fun x H1 => YS K T x H1 ∧ t σ H1 fun xs H2 => r x xs H2 Q
section
variable {X : Cx} {o e : Expr} {es : List Expr} {to : TE} {t : TA} {name : Str} {apos cpos : Pos} {T id : String} {r : V → List V → Hp → VK → Prop}
theorem XU (pa : PlainAttrs T) (slot : Slot T name id) (hty : typeOf (.builtin id) = pure (.type "method_descriptor")) (hm : MtR X id r) (ho : PE X o to) (ha : PA X (e :: es) t)
  (hbase : attributeBase o name X.env (eval o X.env) = eval o X.env := by rfl)
  (hfew : ((backTo cpos (starEach (e :: es) X.env)).all (fun x => !x.1) && (backToKw cpos (keywordEach [] X.env)).all (fun x => x.1.isSome)
   && decide ((e :: es).length + ([] : List Keyword).length + (if ([] : List Keyword).isEmpty then 0 else 1) < 30)) = true := by rfl)
  (hline : (apos.endLine == cpos.line) = true := by rfl) (hs : starEach (e :: es) X.env = (false, eval e X.env) :: starEach es X.env := by rfl) (hplain : (backTo cpos (starEach es X.env)).any (·.1) = false := by rfl) :
  PE X (.Call (.Attribute o name apos) (e :: es) [] cpos) (aBE X.K T r to t) := by
 refine ⟨fun pins s σ H Q I h => ?_⟩
 refine wpAny_Call_method_late hbase hfew hline rfl (thn (ho.run pins s σ H _ I h) fun v s1 ⟨x, H1, I1, r1, ty, q1⟩ => ?_)
 obtain ⟨h1, h2⟩ := V0 I1 r1 ty
 refine ⟨T, id, pa, slot, hty, h1, h2, ?_⟩
 have hA := ha.run cpos pins s1 σ H1 _ I1 q1
 rw [hs] at hA ⊢
 refine Calls.callWith_builtin (by show (false || (backTo cpos (starEach es X.env)).any (·.1)) = false; rw [hplain] <;> rfl) (Calls.evalArgs_plain ?_)
 exact thn hA fun us s2 ⟨vs, H2, I2, r2, q2⟩ => hm pins s2 σ H2 x vs v us Q I2 r1 r2 q2
end
theorem XR {K : PySem.W.Frag} {I : List Addr} {F G H : Hp} {w : W} (rel : Rel K I F G w H) {d : D} {v : V} (h : aJ K I F d v) {T : String} (e : VL d w = some T) : YS K T v H := by
 cases d <;> simp only [VL, aj, reduceCtorEq] at e <;> simp only [aJ] at h
 case str => subst h; exact .inl e.symm
 case lst => obtain ⟨a, vs, rfl, h1, h2⟩ := h; exact .inl (.inl ⟨e.symm, vs, .of (rel.fz _ _ h1)⟩)
 case nG => obtain ⟨a, vs, rfl, h1, h2⟩ := h; exact .inl (.inl ⟨e.symm, vs, rel.RQ h1⟩)
 case ref i =>
  obtain ⟨a, rfl, h1⟩ := h
  split at e
  ·rename_i xs hw
   cases e
   obtain ⟨u, hu, vs, rfl, _⟩ := rel.ob i a _ h1 hw
   exact .inl (.inl ⟨rfl, vs, .of hu⟩)
  ·rename_i xs hw
   cases e
   obtain ⟨u, hu, vs, rfl, _⟩ := rel.ob i a _ h1 hw
   exact .inl (.inr (.inr (.inl ⟨rfl, .inl ⟨vs, hu⟩⟩)))
  ·rename_i xs hw
   cases e
   obtain ⟨u, hu, vs, rfl, _⟩ := rel.ob i a _ h1 hw
   exact .inl (.inr (.inr (.inl ⟨rfl, .inr ⟨vs, hu⟩⟩)))
  ·rename_i xs hw
   cases e
   obtain ⟨u, hu, ob, vs, rfl, _⟩ := rel.ob i a _ h1 hw
   exact .inr ⟨rfl, a, ob, vs, rfl, hu⟩
  ·cases e
def dA (T : String) (m : PJ) (mo : ME) (ma : MA) : ME := fun σ w => (mo σ w).bind fun d w1 => if VL d w1 = some T then (ma σ w1).bind fun xs w2 => m d xs w2 else .bad
section
variable {S : aX} {m : PJ} {o e : Expr} {es : List Expr} {mo : ME} {ma : MA} {name : Str} {apos cpos : Pos} {T id : String}
theorem tM (pa : PlainAttrs T) (slot : Slot T name id) (hm : MB S id m) (ho : JE S o mo) (ha : JA S (e :: es) ma) (hty : typeOf (.builtin id) = pure (.type "method_descriptor") := by rfl)
  (hbase : ∀ env : Env, attributeBase o name env (eval o env) = eval o env := by intro _; rfl)
  (hfew : ∀ env : Env, ((backTo cpos (starEach (e :: es) env)).all (fun x => !x.1) && (backToKw cpos (keywordEach [] env)).all (fun x => x.1.isSome)
   && decide ((e :: es).length + ([] : List Keyword).length + (if ([] : List Keyword).isEmpty then 0 else 1) < 30)) = true := by intro _; rfl)
  (hline : (apos.endLine == cpos.line) = true := by rfl) (hs : ∀ env : Env, starEach (e :: es) env = (false, eval e env) :: starEach es env := by intro _; rfl) (hplain : ∀ env : Env, (backTo cpos (starEach es env)).any (·.1) = false := by intro _; rfl) :
  JE S (.Call (.Attribute o name apos) (e :: es) [] cpos) (dA T m mo ma) := fun X E c xo =>
 cE (XU pa slot hty (hm X E c xo) (ho X E c xo) (ha X E c xo) (hbase X.env) (hfew X.env) hline (hs X.env) (hplain X.env)) fun σ H Q ⟨I, F, G, ds, w, rel, rs, p⟩ =>
  bO (f := fun ds d w1 => if VL d w1 = some T then (ma ds w1).bind fun xs w2 => m d xs w2 else .bad) rel rs p fun I1 F1 H1 d w1 v e1 rel1 rs1 rv p1 => by
   split at p1
   ·rename_i ht
    refine ⟨XR rel1 rv ht, ?_⟩
    exact eA (f := fun _ xs w2 => m d xs w2) rel1 rs1 p1 fun I2 F2 H2 xs w2 vs e2 rel2 rs2 rvs p2 => ⟨I2, F2, G, d, xs, w2, rel2, aJ.ext e2 _ _ rv, rvs, p2⟩
   ·exact p1.elim
theorem LA {id : String} (h : ∀ (X : Cx) (E : XK), Ctx S X → n9 X E → ∀ (I : List Addr) (F G : Hp) (d : D) (ds : List D) (w : W) (H : Hp) (x : V) (vs : List V) (Q : VK), Rel X.K I F G w H → aJ X.K I F d x → RepL X.K I F ds vs → a6 X.K I F G E (RV X.K Q) (m d ds w) →
  ∃ r, MtR X id r ∧ r x vs H Q) : MB S id m := fun X E c xo pins s σ H x vs v us Q J rx rv ⟨I, F, G, d, ds, w, rel, rd, rl, p⟩ => by
 obtain ⟨r', h1, h2⟩ := h X E c xo I F G d ds w H x vs Q rel rd rl p
 exact h1 pins s σ H x vs v us Q J rx rv h2
end
def cO : PJ := fun d ds w => match d, ds with
 | .ref i, [y] => (match w[i]? with
  | some (.lst xs) => if xs.length < sizeLine then .ok .non (w.set i (.lst (xs ++ [y]))) else .bad
  | _ => .bad)
 | _, _ => .bad
def uU : PJ := fun d ds w => match d, ds with
 | .ref i, [.int n] => (match w[i]? with
  | some (.lst xs) => if -(2 ^ 63) ≤ n ∧ n < 2 ^ 63 then (match seqIndex? n xs.length with
   | some k => (match xs[k]? with
    | some y => .ok y (w.set i (.lst (xs.eraseIdx k)))
    | none => .bad)
   | none => .bad) else .bad
  | _ => .bad)
 | _, _ => .bad
section
variable {K : PySem.W.Frag} {I : List Addr} {F : Hp}
theorem RepL.dropLast {ds : List D} {vs : List V} (r : RepL K I F ds vs) : RepL K I F ds.dropLast vs.dropLast := by
 rw [List.dropLast_eq_take, List.dropLast_eq_take, ← r.length]
 exact r.take _
theorem RepL.eraseIdx {ds : List D} {vs : List V} (r : RepL K I F ds vs) (i : Nat) : RepL K I F (ds.eraseIdx i) (vs.eraseIdx i) := by
 rw [List.eraseIdx_eq_take_drop_succ, List.eraseIdx_eq_take_drop_succ]
 exact (r.take _).append (r.drop _)
theorem RepL.reverse : ∀ {ds : List D} {vs : List V}, RepL K I F ds vs → RepL K I F ds.reverse vs.reverse
 | [], vs, h => by simp only [RepL] at h; subst h; simp [RepL]
 | d :: ds, vs, h => by
  simp only [RepL] at h
  obtain ⟨v, r, rfl, h2, h3⟩ := h
  rw [List.reverse_cons, List.reverse_cons]
  exact h3.reverse.append (RepL.cons h2 (by simp [RepL]))
end
section
variable {S : aX}
theorem A7 : MB S "list.append" cO := LA fun X E c xo I F G d ds w H x vs Q rel rd rl p => by
 unfold cO at p
 split at p
 ·rename_i i y
  simp only [aJ] at rd
  obtain ⟨a, rfl, hi⟩ := rd
  obtain ⟨v, rfl, rv⟩ := rl.one
  split at p
  ·rename_i xs hw
   obtain ⟨u, hu, us, rfl, hr⟩ := rel.ob i a _ hi hw
   split at p
   ·rename_i hl
    exact ⟨_, mt_append, a, us, v, rfl, rfl, hu, by rw [← hr.length]; exact hl, p.n8 (rel.upd hi hw ⟨_, rfl, hr.append (RepL.cons rv (by simp [RepL]))⟩) (by simp [aJ])⟩
   ·exact p.elim
  ·exact p.elim
 ·exact p.elim
theorem SK : MB S "list.pop" uU := LA fun X E c xo I F G d ds w H x vs Q rel rd rl p => by
 unfold uU at p
 split at p
 ·rename_i i n
  simp only [aJ] at rd
  obtain ⟨a, rfl, hi⟩ := rd
  obtain ⟨t, rfl, rt⟩ := rl.one
  simp only [aJ] at rt
  subst rt
  split at p
  ·rename_i xs hw
   obtain ⟨u, hu, us, rfl, hr⟩ := rel.ob i a _ hi hw
   split at p
   ·rename_i hn
    split at p
    ·rename_i k hk
     split at p
     ·rename_i y hy
      obtain ⟨v, hv, rv⟩ := hr.get hy
      exact ⟨_, mt_popAt, a, us, n, k, v, rfl, rfl, hu, hn.1, hn.2, by rw [← hr.length]; exact hk, hv, p.n8 (rel.upd hi hw ⟨_, rfl, hr.eraseIdx k⟩) rv⟩
     ·exact p.elim
    ·exact p.elim
   ·exact p.elim
  ·exact p.elim
 ·exact p.elim
end
def BW (x y : D) (w : W) : Option Bool := match x.py w, y.py w with
 | some p, some (.list qs) => if SeqAt.shaped p = true ∧ SeqAt.shaped (.list qs) = true then some (qs.any fun z => PyData.eqv z p) else none
 | some p, some (.tuple qs) => if SeqAt.shaped p = true ∧ SeqAt.shaped (.tuple qs) = true then some (qs.any fun z => PyData.eqv z p) else none
 | _, _ => none
def inD (x y : D) (w : W) : Option Bool := match y with
 | .ref i => (match w[i]? with
  | some (.dK kvs) => (m9 (.dK kvs) x).map Option.isSome
  | some (.dT kvs) => (m9 (.dT kvs) x).map Option.isSome
  | _ => BW x y w)
 | y => BW x y w
def N6 (x y : D) (w : W) : Res D := match inD x y w with
 | some b => .ok (.bl b) w
 | none => .bad
def RK (x y : D) (w : W) : Res D := match inD x y w with
 | some b => .ok (.bl (!b)) w
 | none => .bad
theorem HW.isSome {K : PySem.W.Frag} {I : List Addr} {F : Hp} {d : Option D} {q : Option V} (h : HW K I F d q) : q.isSome = d.isSome := by
 cases d with
 | none => rw [show q = none from h]; rfl
 | some d => obtain ⟨v, rfl, _⟩ := h; rfl
open PySem.W (EachIs AllAlike Sortable alike dataLe)
def DX (w : W) (d : D) : PyData := (d.py w).getD .none
def R7 : PyData → Bool
 | .tuple (_ :: _) => true
 | _ => false
def LU : PyData → Bool
 | .none => false
 | .tuple _ => false
 | _ => true
def iN (ps : List PyData) : Bool := (ps.all fun p => ps.all fun q => alike p q) && (ps.all R7 || ps.all LU) && ps.all fun p => decide (p.depth ≤ 60)
theorem iN.h1 {ps : List PyData} (h : iN ps = true) : AllAlike ps := by
 simp only [iN, ak, ay] at h
 exact fun d hd e he => h.1.1 d hd e he
theorem iN.h2 {ps : List PyData} (h : iN ps = true) : Sortable ps := by
 simp only [iN, ak, Bool.or_eq_true, ay] at h
 rcases h.1.2 with h | h
 ·refine .inl fun d hd => ?_
  have := h d hd
  unfold R7 at this
  split at this
  ·exact ⟨_, _, rfl⟩
  ·cases this
 ·refine .inr fun d hd => ?_
  have := h d hd
  unfold LU at this
  split at this
  ·cases this
  ·cases this
  ·rename_i n1 n2
   exact ⟨n1, fun xs z => n2 xs z⟩
theorem iN.h3 {ps : List PyData} (h : iN ps = true) : ∀ p ∈ ps, p.depth ≤ 60 := by
 simp only [iN, ak, ay, au] at h
 exact h.2
def EF (xs : List D) (w : W) : Option (List D) := if xs.all (fun d => (d.py w).isSome) = true ∧ iN (xs.map (DX w)) = true ∧ xs.length ≤ sizeLine then some (xs.mergeSort (dataLe false (DX w))) else none
def kB : MF := fun ds w => match ds with
 | [d] => (match (rS d w).bind fun xs => EF xs w with
  | some ys => .ok (.lst ys) w
  | none => .bad)
 | _ => .bad
def X8 (K : PySem.W.Frag) (I : List Addr) (F : Hp) (v : Value) (d : D) : Prop := ∃ x, RelV x v ∧ aJ K I F d x
theorem LL {K : PySem.W.Frag} {I : List Addr} {F : Hp} : ∀ {ds : List D} {vs : List V} {us : List Value}, RepL K I F ds vs → Vals vs us → EachIs (X8 K I F) us ds
 | [], vs, us, h, r => by simp only [RepL] at h; subst h; cases r; exact .nil
 | d :: ds, vs, us, h, r => by
  simp only [RepL] at h
  obtain ⟨v, t, rfl, h2, h3⟩ := h
  cases r with
  | cons r1 r2 => exact .cons ⟨v, r1, h2⟩ (LL h3 r2)
theorem K9 {K : PySem.W.Frag} {I : List Addr} {F : Hp} : ∀ {ds : List D} {us : List Value}, EachIs (X8 K I F) us ds → ∃ vs, RepL K I F ds vs ∧ Vals vs us
 | _, _, .nil => ⟨[], by simp [RepL], .nil⟩
 | _, _, .cons ⟨v, r1, h1⟩ t => by
  obtain ⟨vs, h2, h3⟩ := K9 t
  exact ⟨v :: vs, RepL.cons h1 h2, .cons r1 h3⟩
def QU (K : PySem.W.Frag) : List V → Hp → VK → Prop := fun vs H Q => ∃ I F G w a xs us, Rel K I F G w H ∧ vs = [V.ref a] ∧ SqL K H a us ∧ RepL K I F xs us ∧ ∃ ys, EF xs w = some ys ∧ ∀ zs q, RepL K I F ys zs → H q = none → Q (.ref q) (upd H q (.lst zs))
theorem IJ {X : Cx} (hu : X.A.units + 64 < cLine) : CallR X (.builtin "sorted") (QU X.K) := by
 intro pins s σ H vs us0 Q J r h
 obtain ⟨I, F, G, w, a, xs, us, rel, rfl, hq, hr, ys, hy, q⟩ := h
 obtain ⟨its, rv, hl, hz⟩ := J.list hq
 obtain ⟨u, rfl, ru⟩ := vals1 r
 obtain rfl : u = Value.ref a := ru
 unfold EF at hy
 split at hy
 ·rename_i hc
  cases hy
  obtain ⟨c1, c2, c3⟩ := hc
  have e := LL hr rv
  have er : EachIs (fun v d => ∃ as, Reads s.heap v (DX w d) as) its xs := by
   have : ∀ {ds : List D} {us : List Value}, EachIs (X8 X.K I F) us ds → ds.all (fun d => (d.py w).isSome) = true → EachIs (fun v d => ∃ as, Reads s.heap v (DX w d) as) us ds := by
    intro ds us h hs
    induction h with
    | nil => exact .nil
    | cons h1 _ ih =>
     rw [List.all_cons, ak] at hs
     refine .cons ?_ (ih hs.2)
     obtain ⟨x, r1, h2⟩ := h1
     obtain ⟨p, hp⟩ := Option.isSome_iff_exists.mp hs.1
     unfold DX
     rw [hp]
     exact Dp.reads J p x _ (HX rel h2 hp) r1
   exact this e c1
  refine PySem.W.sorted_data (enc := DX w) hl.isList e er (iN.h1 c2) (iN.h2 c2) c3 (fun d hd => ?_) fun out ho eo => ?_
  ·have := iN.h3 c2 _ (List.mem_map_of_mem hd)
   omega
  ·obtain ⟨zs, h1, h2⟩ := K9 eo
   obtain ⟨n, hn⟩ := sortedAll_at s.heap its (List.toArray out)
   refine ⟨.ref (s.heap.objs.size + 1), upd H (s.heap.objs.size + 1) (.lst zs), J.laid (t' := s.toks) (fun b o hb => sortedAll_old hb) (Nat.le_succ _) ⟨?_, out, n, h2, hn⟩, rfl, q zs _ h1 (J.hok.fresh (Nat.le_succ _))⟩
   rw [h2.length, ho]; exact c3
 ·cases hy
section
variable {S : aX}
theorem NV : CB S (.builtin "sorted") kB := uF fun X E c xo I F G ds w H vs Q rel rl p => by
 unfold kB at p
 split at p
 ·rename_i d
  obtain ⟨v, rfl, rv⟩ := rl.one
  split at p
  ·rename_i ys hy
   obtain ⟨xs, h1, h2⟩ := ck.mp hy
   obtain ⟨a, us, rfl, hq, hr⟩ := wY rel rv h1
   exact ⟨_, IJ (by have := c.room.un; omega), I, F, G, w, a, xs, us, rel, rfl, hq, hr, ys, h2, fun zs q hz hn => l5 rel hz p q hn⟩
  ·exact p.elim
 ·exact p.elim
end
def qG (f : Str) (v : D) : List (Str × D) → List (Str × D)
 | [] => [(f, v)]
 | (g, x) :: r => if g = f then (g, v) :: r else (g, x) :: qG f v r
theorem aQ.lookup {K : PySem.W.Frag} {I : List Addr} {F : Hp} {κ : Type} [BEq κ] (k : κ) : ∀ {kvs : List (κ × D)} {r : List (κ × V)}, aQ K I F kvs r → HW K I F (kvs.lookup k) (r.lookup k)
 | [], r, h => by simp only [aQ] at h; subst h; rfl
 | (j, d) :: kvs, r, h => by
  simp only [aQ] at h
  obtain ⟨v, t, rfl, h1, h2⟩ := h
  simp only [List.lookup]
  cases e : (k == j) with
  | true => exact ⟨v, rfl, h1⟩
  | false => exact aQ.lookup k h2
theorem aQ.qG {K : PySem.W.Frag} {I : List Addr} {F : Hp} (f : Str) {d : D} {v : V} (hv : aJ K I F d v) : ∀ {kvs : List (Str × D)} {r : List (Str × V)}, aQ K I F kvs r → aQ K I F (Pc.qG f d kvs) (putF f v r)
 | [], r, h => by simp only [aQ] at h; subst h; simp only [Pc.qG, putF, aQ]; exact ⟨v, [], rfl, hv, rfl⟩
 | (j, x) :: kvs, r, h => by
  simp only [aQ] at h
  obtain ⟨u, t, rfl, h1, h2⟩ := h
  simp only [Pc.qG, putF]
  by_cases e : j = f
  ·rw [if_pos e, if_pos e]; simp only [aQ]; exact ⟨v, t, rfl, hv, h2⟩
  ·rw [if_neg e, if_neg e]; simp only [aQ]; exact ⟨u, _, rfl, h1, aQ.qG f hv h2⟩
def nJ (C : Addr) (f : Str) (d : D) (w : W) : Res D := match d with
 | .ref i => (match w[i]? with
  | some (.ins C' fs) => if C' = C then (match fs.lookup f with
   | some x => .ok x w
   | none => .bad) else .bad
  | _ => .bad)
 | _ => .bad
def l9 (C : Addr) (f : Str) (d x : D) (w : W) : Res Unit := match d with
 | .ref i => (match w[i]? with
  | some (.ins C' fs) => if C' = C ∧ fs.length < 1000 then .ok () (w.set i (.ins C (qG f x fs))) else .bad
  | _ => .bad)
 | _ => .bad
def bY (C : Addr) (f : Str) (m : ME) : ME := sV (nJ C f) m
def cM (C : Addr) (f : Str) (mo mv : ME) : MS := fun σ w => (mv σ w).bind fun x w1 => (mo σ w1).bind fun d w2 => (l9 C f d x w2).bind fun _ w3 => .ok (.nx σ) w3
section
variable {S : aX} {C : Addr} {f : Str} {o e : Expr} {mo mv : ME} {pos pos' : Pos}
theorem mR (hc : Cls S.K C) (hn : NoAttr S.K C f) (ho : JE S o mo) (hb : ∀ env : Env, attributeBase o f env (eval o env) = eval o env := by intro _; rfl) : JE S (.Attribute o f pos) (bY C f mo) := fun X E cx xo =>
 cE (pe_fld (ho X E cx xo) (hb X.env)) fun σ H Q ⟨I, F, G, ds, w, rel, rs, p⟩ => bO (f := fun _ d w1 => nJ C f d w1) rel rs p fun I1 F1 H1 d w1 v e1 rel1 rs1 rv pp => by
  unfold nJ at pp
  split at pp
  ·rename_i i
   simp only [aJ] at rv
   obtain ⟨a, rfl, hi⟩ := rv
   split at pp
   ·rename_i C' fs hw
    obtain ⟨u, hu, dx, r, rfl, hr⟩ := rel1.ob i a _ hi hw
    split at pp
    ·rename_i hC
     subst hC
     have hl := hr.lookup f
     split at pp
     ·rename_i x hx
      rw [hx] at hl
      obtain ⟨t, ht, rt⟩ := hl
      exact ⟨a, C', dx, r, t, rfl, hu, by rw [cx.K]; exact hc, by rw [cx.K]; exact hn, ht, pp.n8 rel1 rt⟩
     ·exact pp.elim
    ·exact pp.elim
   ·exact pp.elim
  ·exact pp.elim
theorem fJ (hc : Cls S.K C) (hn : NoAttr S.K C f) (ho : JE S o mo) (hv : JE S e mv) (hs : ∀ env : Env, swapsWith e (some (.Attribute o f pos')) pos.line env = pure false := by intro _; rfl) : JS S (.Assign [.Attribute o f pos'] e pos) (cM C f mo mv) := fun X E cx xo =>
 i9 (ps_fld (ho X E cx xo) (hv X E cx xo) (hs X.env)) fun Z σ H ⟨I, F, G, ds, w, rel, rs, p⟩ => bO (f := fun ds x w1 => (mo ds w1).bind fun d w2 => (l9 C f d x w2).bind fun _ w3 => Res.ok (Fl.nx ds) w3) rel rs p fun I1 F1 H1 x w1 v e1 rel1 rs1 rv p1 =>
  bO (f := fun ds d w2 => (l9 C f d x w2).bind fun _ w3 => Res.ok (Fl.nx ds) w3) rel1 rs1 p1 fun I2 F2 H2 d w2 u e2 rel2 rs2 ru pp => by
   unfold l9 at pp
   split at pp
   ·rename_i i
    simp only [aJ] at ru
    obtain ⟨a, rfl, hi⟩ := ru
    split at pp
    ·rename_i C' fs hw
     obtain ⟨t, hu, dx, r, rfl, hr⟩ := rel2.ob i a _ hi hw
     split at pp
     ·rename_i hC
      obtain ⟨rfl, hl⟩ := hC
      have e0 : fs.length = r.length := hr.length
      exact ⟨a, C', dx, r, rfl, hu, by rw [cx.K]; exact hc, by rw [cx.K]; exact hn, by rw [← e0]; exact hl,
       pp I2 F2 _ .refl (rel2.upd (o' := .ins C' (qG f x fs)) hi hw ⟨dx, _, rfl, hr.qG f (aJ.ext e2 _ _ rv)⟩) σ rs2⟩
     ·exact pp.elim
    ·exact pp.elim
   ·exact pp.elim
end
theorem AA {K : PySem.W.Frag} {I : List Addr} {F G H : Hp} {w : W} (rel : Rel K I F G w H) {q : Addr} (hq : H q = none) (u : HO) : Rel K I F G w (upd H q u) := by
 refine ⟨rel.len, rel.nd, fun i a o h1 h2 => ?_, fun a t h => ?_, rel.ap, fun a t h => ?_, rel.gf, rel.gt⟩
 ·obtain ⟨t, h3, h4⟩ := rel.ob i a o h1 h2
  exact ⟨t, by rw [upd_ne (ne_of_none h3 hq)]; exact h3, h4⟩
 ·rw [upd_ne (ne_of_none (rel.fz a t h) hq)]; exact rel.fz a t h
 ·rw [upd_ne (ne_of_none (rel.gz a t h) hq)]; exact rel.gz a t h
theorem NO {K : PySem.W.Frag} {I : List Addr} {F G H : Hp} {E : XK} {w : W} {o : MO} {u : HO} (rel : Rel K I F G w H) (r : iZ K I F o u) {q : Addr} (hq : H q = none) : ∃ I' F', Ext I F I' F' ∧ Rel K I' F' G (w ++ [o]) (upd H q u) ∧ aJ K I' F' (.ref w.length) (.ref q) :=
 wZ (E := E) (Q := fun v H1 => ∃ I' F', Ext I F I' F' ∧ Rel K I' F' G (w ++ [o]) H1 ∧ aJ K I' F' (.ref w.length) v) rel r (fun I' F' H' e rel' v rv => ⟨I', F', e, rel', rv⟩) q hq
def rL (m : MF) (C : Addr) (xs : List D → List D) (w : W) : Res D := (m (xs [.ref w.length]) (w ++ [.ins C []])).bind fun r w1 => match r with
 | .non => .ok (.ref w.length) w1
 | _ => .bad
def aA6 (C : Addr) (m : MF) (n : Nat) (gd : List D → List D → List D) (ma : MA) : ME := fun σ w => (ma σ w).bind fun xs w1 => if xs.length = n then rL m C (fun s => gd (s ++ xs) []) w1 else .bad
def sU (C : Addr) (m : MF) (n j : Nat) (gd : List D → List D → List D) (ma mk : MA) : ME := fun σ w => (ma σ w).bind fun xs w1 => (mk σ w1).bind fun zs w2 => if xs.length = n ∧ zs.length = j then rL m C (fun s => gd (s ++ xs) zs) w2 else .bad
theorem run_mk {X : Cx} {pins : List (Addr × Obj)} {σ : L2.St} {H : Hp} {s : Shared} {Q : VK} {E : XK} {k : Nat} {f C : Addr} {fd : FuncData} {ps ks : List Str} {m : MF} {n : Nat} {gd : List D → List D → List D} {I : List Addr} {F G : Hp} {xs zs : List D} {w : W} {us ws : List Value} {vs ys : List V}
  (M : Mk X.K C f) (xo : n9 X E) (Gf : iV X.prog X.w X.K X.mg X.base k f fd ps m) (B : eW X.K fd ps (n + 1) ks gd) (hr : Room (k + 1) X.A) (hg : X.A.guards = some []) (J : Inv X pins σ H s) (rel : Rel X.K I F G w H) (rx : RepL X.K I F xs vs) (rz : RepL X.K I F zs ys)
  (r : Vals vs us) (q : Vals ys ws) (h1 : xs.length = n) (h2 : zs.length = ks.length) (p : a6 X.K I F G E (RV X.K Q) (rL m C (fun s => gd (s ++ xs) zs) w)) : wpAny (model X.prog X.w) X.A (call (.ref C) us (ks.zip ws)) (EP X pins σ Q) X.xe s := by
 obtain ⟨g, gV, kb, rep⟩ := B.ex
 have f1 : H (s.heap.objs.size + 1) = none := J.hok.fresh (Nat.le_succ _)
 have f2 : H s.heap.objs.size = none := J.hok.fresh (bp _)
 have J2 := Inv.made (C := C) J
 have r1 : Vals (V.ref (s.heap.objs.size + 1) :: vs) (Value.ref (s.heap.objs.size + 1) :: us) := .cons rfl r
 have r2 := kb.rel r1 q
 have n1 : (Value.ref (s.heap.objs.size + 1) :: us).length = n + 1 := by
  rw [List.length_cons, ← r.length, ← rx.length, h1]
 have f3 : (upd H s.heap.objs.size (.own (s.heap.objs.size + 1))) (s.heap.objs.size + 1) = none := by
  rw [upd_ne (Nat.succ_ne_self _)]; exact f1
 obtain ⟨I', F', ee, rel', rn⟩ := NO (E := E) (AA rel f2 (.own (s.heap.objs.size + 1))) (o := .ins C []) (u := .ins C s.heap.objs.size []) ⟨_, [], rfl, by simp [aQ]⟩ f3
 have rxs : RepL X.K I' F' ([.ref w.length] ++ xs) (V.ref (s.heap.objs.size + 1) :: vs) := RepL.cons rn (RepL.ext ee _ _ rx)
 have r3 := rep I' F' _ _ zs ys rxs (RepL.ext ee _ _ rz)
 have hl : (gV (V.ref (s.heap.objs.size + 1) :: vs) ys).length = ps.length := by rw [← r3.length]; exact B.len _ zs (by simp [h1]) h2
 have pp : a6 X.K I' F' G E (RV X.K fun v H2 => v = .non ∧ Q (.ref (s.heap.objs.size + 1)) H2) (m (gd ([.ref w.length] ++ xs) zs) (w ++ [.ins C []])) := by
  refine (a6.bind (p.ext ee)).mono fun I1 F1 H1 d w1 _ e1 rel1 p1 v rv => ?_
  cases d <;> first | exact p1.elim | skip
  simp only [aJ] at rv
  exact ⟨rv, p1.n8 rel1 (aJ.ext e1 _ _ rn)⟩
 refine wpAny_call (make_map (f := f) J.kIn M.makes M.init (beq_iff_eq.mp M.fn) (codeAny_mono (Gf.run _ X.stack _ _ ⟨Value.ref (s.heap.objs.size + 1) :: us, ks.zip ws⟩ (g (Value.ref (s.heap.objs.size + 1) :: us) ws) _ _ E (hr.make C us (ks.zip ws)) hg
  (J2.env0.make C us (ks.zip ws)) (kb.to _ (Value.ref (s.heap.objs.size + 1) :: us) ws J2.kIn n1 (by rw [← q.length, ← rz.length]; exact h2)) r2 hl ⟨I', F', G, _, _, rel', r3, pp⟩) fun r s' hq' => ?_))
 cases r with
 | error e => exact passes_call xo.tk (fun _ _ _ _ h => h) pins σ _ _ e s' J2 hq'
 | ok fl =>
  cases fl with
  | ret u =>
   obtain ⟨v, H', I3, rv, ev, q3⟩ := J2.after hq'
   subst ev
   exact ⟨rv, ⟨V.ref (s.heap.objs.size + 1), H', I3, rfl, q3⟩⟩
  | next => exact False.elim hq'
  | brk => exact False.elim hq'
  | cont => exact False.elim hq'
section
variable {S : aX} {k n : Nat} {f C : Addr} {fd : FuncData} {ps ks : List Str} {m : MF} {gd : List D → List D → List D} {x : Str} {p pos kpos : Pos} {e : Expr} {es : List Expr} {kws : List Keyword} {ma mk : MA} {me : ME} {nm : Option Str}
theorem SG (hk : k + 1 ≤ S.k) (M : Mk S.K C f) (Gf : iV S.P S.w S.K S.mg S.base k f fd ps m) (B : eW S.K fd ps (n + 1) ks gd) (hg : S.sc.names.lookup x = some .globalImplicit) (hm : S.mg x = some (.ref C)) (ha : JA S (e :: es) ma) (hkw : JK S kws mk)
  (hall : ∀ env : Env, (backToKw pos (keywordEach kws env)).all (·.1.isSome) = true := by intro _; rfl) (hks : ∀ env : Env, (backToKw pos (keywordEach kws env)).filterMap (·.1) = ks := by intro _; rfl)
  (hdb : (x == ("__debug__" : Str)) = false := by decide) (he : ∀ env : Env, starEach (e :: es) env = (false, eval e env) :: starEach es env := by intro _; rfl)
  (hpl : ∀ env : Env, ((backTo pos (starEach (e :: es) env)).any (·.1) || (backToKw pos (keywordEach kws env)).any (·.1.isNone)) = false := by intro _; rfl) :
  JE S (.Call (.Name x p) (e :: es) kws pos) (sU C m n ks.length gd ma mk) := fun X E cx xo => by
 refine ⟨fun pins s σ H Q J ⟨I, F, G, ds, w, rel, rs, p⟩ => ?_⟩
 refine wpAny_Call_Name_kw (ld_glob J (by show X.env.scope.names.lookup x = _; rw [cx.sc]; exact hg) (by rw [cx.mg]; exact hm) ?_ hdb)
 refine PySem.W.callWith_KW (h₀ := X.base) J.ok.mod.kin (by rw [cx.K]; exact M.kp) (hall X.env) (thn ((ha X E cx xo).run pos pins s σ H _ J (eA (f := fun ds xs w1 => (mk ds w1).bind fun zs w2 => if xs.length = n ∧ zs.length = ks.length then rL m C (fun s => gd (s ++ xs) zs) w2 else .bad)
  (Q := fun vs H1 => ∃ I1 F1 xs w1, Rel X.K I1 F1 G w1 H1 ∧ eS X.K I1 F1 ds σ ∧ RepL X.K I1 F1 xs vs ∧ a6 X.K I1 F1 G E (RV X.K Q) ((mk ds w1).bind fun zs w2 => if xs.length = n ∧ zs.length = ks.length then rL m C (fun s => gd (s ++ xs) zs) w2 else .bad)) rel rs p fun I1 F1 H1 xs w1 vs e1 rel1 rs1 rvs p1 => ⟨I1, F1, xs, w1, rel1, rs1, rvs, p1⟩)) fun us s1 hq => ?_) (hpl X.env) (he X.env)
 obtain ⟨vs, H1, J1, r, I1, F1, xs, w1, rel1, rs1, rvs, p1⟩ := hq
 refine thn ((hkw X E cx xo).run pos pins s1 σ H1 _ J1 (eA (f := fun _ zs w2 => if xs.length = n ∧ zs.length = ks.length then rL m C (fun s => gd (s ++ xs) zs) w2 else .bad)
  (Q := fun ys H2 => ∃ I2 F2 zs w2, Rel X.K I2 F2 G w2 H2 ∧ RepL X.K I2 F2 xs vs ∧ RepL X.K I2 F2 zs ys ∧ (xs.length = n ∧ zs.length = ks.length) ∧ a6 X.K I2 F2 G E (RV X.K Q) (rL m C (fun s => gd (s ++ xs) zs) w2)) rel1 rs1 p1 fun I2 F2 H2 zs w2 ys e2 rel2 rs2 rvs2 p2 => ?_)) fun ws s2 hq2 => ?_
 ·split at p2
  ·rename_i hl
   exact ⟨I2, F2, zs, w2, rel2, RepL.ext e2 _ _ rvs, rvs2, hl, p2⟩
  ·exact p2.elim
 ·obtain ⟨ys, H2, J2, r2, I2, F2, zs, w2, rel2, rvs', rvs2, hl, p2⟩ := hq2
  refine ⟨J2.kIn, ?_⟩
  have Gf' : iV X.prog X.w X.K X.mg X.base k f fd ps m := by rw [cx.P, cx.w, cx.K, cx.mg, cx.base]; exact Gf
  have B' : eW X.K fd ps (n + 1) ks gd := by rw [cx.K]; exact B
  have M' : Mk X.K C f := by rw [cx.K]; exact M
  rw [hks X.env]
  exact run_mk (ks := ks) M' xo Gf' B' (cx.room.mono hk) cx.gds J2 rel2 rvs' rvs2 r r2 hl.1 hl.2 p2
end
section
variable {S : aX} {pos pos' : Pos} {e : Expr} {m : ME}
theorem jv (i : Nat) {x : Str} (hN : S.N[i]? = some x := by rfl) (hv : Vis S.sc x := by first | exact Or.inl rfl | exact Or.inr (Or.inl rfl) | exact Or.inr (Or.inr rfl)) (hd : (x == ("__debug__" : Str)) = false := by decide) (hcd : (x == ("__classdict__" : Str)) = false := by decide) : JE S (.Name x pos) (aB i) :=
 X9 i hN hv hd hcd
theorem AM (i : Nat) {x : Str} (hN : S.N[i]? = some x := by rfl) (h1 : Loc S.sc x := by first | exact Or.inl rfl | exact Or.inr rfl) (h2 : S.fn x = true ∨ S.sc.names.lookup x = some .local := by first | exact Or.inl rfl | exact Or.inr rfl) : JG S (.Name x pos) (aR i) := V7 hN ⟨h1, h2⟩
theorem HZ {vs : List Nat} (i : Nat) {x : Str} (hN : S.N[i]? = some x := by rfl) (h1 : Loc S.sc x := by first | exact Or.inl rfl | exact Or.inr rfl) (h2 : S.fn x = true ∨ S.sc.names.lookup x = some .local := by first | exact Or.inl rfl | exact Or.inr rfl) (hv : i ∈ vs := by decide) : JC S vs (.Name x pos) (aR i) := VX hN ⟨h1, h2⟩ hv
theorem oH (i : Nat) {x : Str} (he : JE S e m) (hN : S.N[i]? = some x := by rfl) (h1 : Loc S.sc x := by first | exact Or.inl rfl | exact Or.inr rfl) (h2 : S.fn x = true ∨ S.sc.names.lookup x = some .local := by first | exact Or.inl rfl | exact Or.inr rfl) (hs : ∀ env : Env, swapsWith e (some (.Name x pos')) pos.line env = pure false := by intro _; rfl) :
  JS S (.Assign [.Name x pos'] e pos) (aP m (aR i)) := YW hN ⟨h1, h2⟩ he hs
end
def aL : List D → List D → List D := fun xs _ => xs
theorem Vals.ZJ {vs : List V} {us : List Value} (r : Vals vs us) (i : Nat) : (vs[i]? = none ∧ us[i]? = none) ∨ ∃ v u, vs[i]? = some v ∧ us[i]? = some u ∧ RelV v u := by
 induction r generalizing i with
 | nil => exact .inl ⟨by simp, by simp⟩
 | cons h _ ih =>
  cases i with
  | zero => exact .inr ⟨_, _, rfl, rfl, h⟩
  | succ i => simpa using ih i
theorem RepL.ZJ {K : PySem.W.Frag} {I : List Addr} {F : Hp} {ds : List D} {vs : List V} (r : RepL K I F ds vs) (i : Nat) : (ds[i]? = none ∧ vs[i]? = none) ∨ ∃ d v, ds[i]? = some d ∧ vs[i]? = some v ∧ aJ K I F d v := by
 cases h : ds[i]? with
 | none => exact .inl ⟨rfl, by rw [List.getElem?_eq_none_iff] at h ⊢; rw [← r.length]; exact h⟩
 | some d => obtain ⟨v, h1, h2⟩ := r.get h; exact .inr ⟨d, v, rfl, h1, h2⟩
def RJ (N ps : List Str) (sc : Scope) : Bool := (match sc.kind with
 | .function => true
 | _ => false) && !sc.isCoroutine && !sc.isGenerator && decide N.Nodup && decide (N.take ps.length = ps) && (ps.all fun x => decide (sc.names.lookup x = some .local) || decide (sc.names.lookup x = some .cell)) && sc.names.all fun y => decide (y.2 ≠ .free)
theorem cN {N ps : List Str} {sc : Scope} (h : RJ N ps sc = true) : FnScope N ps sc := by
 unfold RJ at h
 simp only [ak, au, ay, Bool.or_eq_true, Bool.not_eq_true'] at h
 obtain ⟨⟨⟨⟨⟨⟨h1, h2⟩, h3⟩, h4⟩, h5⟩, h6⟩, h7⟩ := h
 refine ⟨?_, h2, h3, h4, h5, h6, h7⟩
 split at h1
 ·assumption
 ·cases h1
def ON (f g : D → D → W → Res D) (ma mb mc : ME) : ME := fun σ w => (ma σ w).bind fun x w1 => (mb σ w1).bind fun y w2 => (f x y w2).bind fun r w3 => match r with
 | .bl b => if b = true then (mc σ w3).bind fun z w4 => g y z w4 else .ok (.bl false) w3
 | _ => .bad
section
variable {S : aX} {pos : Pos} {a b c : Expr} {ma mb mc : ME} {f g : D → D → W → Res D}
theorem QN {K : PySem.W.Frag} {E : XK} {σ : L2.St} {H : Hp} {Q : VK} (h : oC K E (ON f g ma mb mc) σ H Q) : tChain (RG K E f) (RG K E g) (oC K E ma) (oC K E mb) (oC K E mc) σ H Q := by
 obtain ⟨I, F, G, ds, w, rel, rs, p⟩ := h
 refine ⟨I, F, G, ds, w, rel, rs, (a6.bind p).mono fun I1 F1 H1 x w1 _ e1 rel1 p1 v rv => ?_⟩
 refine ⟨I1, F1, G, ds, w1, rel1, rs.ext e1, (a6.bind p1).mono fun I2 F2 H2 y w2 _ e2 rel2 p2 u ru => ?_⟩
 refine ⟨I2, F2, G, x, y, w2, rel2, aJ.ext e2 _ _ rv, ru, (a6.bind p2).mono fun I3 F3 H3 r w3 _ e3 rel3 p3 t rt => ?_⟩
 cases r <;> first | exact p3.elim | skip
 rename_i k _
 simp only [aJ] at rt
 refine ⟨k, rt, ?_⟩
 cases k with
 | false => exact p3.n8 rel3 (by simp [aJ])
 | true =>
  refine ⟨I3, F3, G, ds, w3, rel3, (rs.ext e1).ext (e2.trans e3), (a6.bind p3).mono fun I4 F4 H4 z w4 _ e4 rel4 p4 q rq => ?_⟩
  exact ⟨I4, F4, G, y, z, w4, rel4, aJ.ext (e3.trans e4) _ _ ru, rq, p4⟩
theorem R4 {op op' : CmpOp} (ho : O2 S (compareOp op) f) (ho' : O2 S (compareOp op') g) (ha : JE S a ma) (hb : JE S b mb) (hc : JE S c mc) (hm : lastMarks [op, op'] [b, c] = false := by with_unfolding_all rfl) :
  JE S (.Compare a [op, op'] [b, c] pos) (ON f g ma mb mc) := fun X E cx xo => cE (pe_chain (ho X E cx xo) (ho' X E cx xo) (ha X E cx xo) (hb X E cx xo) (hc X E cx xo) hm) fun _ _ _ h => QN h
end
theorem sP {S : aX} {x : Str} {n : String} {pos : Pos} (hg : S.sc.names.lookup x = some .globalImplicit) (hm : S.mg x = none) (hv : bootBuiltins x = some (.type n)) (hn : x ≠ "__name__" := by decide) (hd : (x == ("__debug__" : Str)) = false := by decide) : JE S (.Name x pos) (eC (.ty n)) := fun X E cx xo =>
 cE (pe_bltn (v := .ty n) (by show X.env.scope.names.lookup x = _; rw [cx.sc]; exact hg) (by rw [cx.mg]; exact hm) hv rfl hn hd) fun σ H Q ⟨I, F, G, ds, w, rel, rs, p⟩ => p I F H .refl rel _ (by simp [aJ])
inductive wM where
 | b (n : String) | o (C : Addr)
 deriving DecidableEq
def wM.v : wM → Value
 | .b n => .type n
 | .o C => .ref C
def SJ (d : D) (w : W) : Option wM := match d with
 | .non => some (.b "NoneType")
 | .bl _ => some (.b "bool")
 | .int _ => some (.b "int")
 | .str _ => some (.b "str")
 | .tup _ => some (.b "tuple")
 | .kK _ => some (.b "tuple")
 | .lst _ => some (.b "list")
 | .nG _ => some (.b "list")
 | .ref i => (match w[i]? with
  | some (.lst _) => some (.b "list")
  | some (.dK _) => some (.b "dict")
  | some (.dT _) => some (.b "dict")
  | some (.dF _) => some (.b "dict")
  | some (.dG _) => none
  | some (.ins C _) => some (.o C)
  | none => none)
 | .G1 _ _ => some (.b "dict")
 | _ => none
def names7 : List String := ["NoneType", "bool", "int", "str", "tuple", "list", "dict"]
def S6 (t n : String) : Bool := t == n || (t == "bool" && n == "int")
theorem LG : ∀ t ∈ names7, ∀ n ∈ ["bool", "int", "str", "tuple", "list", "dict"], kitB t n = some (S6 t n) := by decide +kernel
structure W6 (K : PySem.W.Frag) (C : Addr) : Prop where
 cl : Cls K C
 ha : PySem.W.findIn K (.ref C) "__class__" = some (some (.builtin "object.__class__"))
 hn : PySem.W.specialIn K (.builtin "object.__class__") "__get__" = some (some (.builtin "getset_descriptor.__get__"))
 tk : PySem.W.takesIn K (.builtin "object.__class__") = some true
 hm : PySem.W.mroIn K C (.type "object") = some true
def S1 : List D → Option (List String)
 | [] => some []
 | .ty n :: ds => (S1 ds).map fun ns => n :: ns
 | _ :: _ => none
def lH (kc : wM → wM → Option Bool) : MF := fun ds w => match ds with
 | [d, .ty n] => (match SJ d w with
  | some (.b t) => if t ∈ names7 ∧ n ∈ ["bool", "int", "str", "tuple", "list", "dict"] then .ok (.bl (S6 t n)) w else .bad
  | some (.o C) => (match kc (.o C) (.b n) with
   | some r => .ok (.bl r) w
   | none => .bad)
  | none => .bad)
 | [d, .con C] => (match SJ d w with
  | some t => (match kc t (.o C) with
   | some r => .ok (.bl r) w
   | none => .bad)
  | none => .bad)
 | [d, .tup cs] => (match SJ d w, S1 cs with
  | some (.b t), some ns => if t ∈ names7 ∧ ∀ n ∈ ns, n ∈ ["bool", "int", "str", "tuple", "list", "dict"] then .ok (.bl (ns.any (S6 t))) w else .bad
  | _, _ => .bad)
 | _ => .bad
structure aAm (K : PySem.W.Frag) (kc : wM → wM → Option Bool) : Prop where
 one : ∀ t c r, kc t c = some r → PySem.W.kitOne K t.v c.v = some r
 ins : ∀ C c r, kc (.o C) c = some r → W6 K C
def lS : wM → wM → Option Bool := fun _ _ => none
theorem nW {K : PySem.W.Frag} : aAm K lS := ⟨fun _ _ _ h => (by cases h), fun _ _ _ h => (by cases h)⟩
theorem DZ {K : PySem.W.Frag} {I : List Addr} {F G H : Hp} {w : W} (rel : Rel K I F G w H) {d : D} {v : V} (h : aJ K I F d v) {t : wM} (e : SJ d w = some t) (hi : ∀ C, t = .o C → W6 K C) : TyX K H v t.v := by
 have hT : ∀ {a : Addr} {vs : List V}, SqT K H a vs → TyX K H (.ref a) (.type "tuple") := fun {a vs} q => by
  rcases q with (q | ⟨o, q⟩) | q
  ·exact .base (.tup q)
  ·exact .fTuple q
  ·obtain ⟨o, its, n, q1, q2, _⟩ := q
   exact .kTuple q1 q2
 have hL : ∀ {a : Addr} {vs : List V}, SqL K H a vs → TyX K H (.ref a) (.type "list") := fun {a vs} q => by
  rcases q with (q | ⟨o, q⟩) | q
  ·exact .base (.lst q)
  ·exact .base (.frz q)
  ·obtain ⟨o, its, n, q1, q2, _⟩ := q
   exact .kList q1 q2
 cases d <;> simp only [SJ, aj, reduceCtorEq] at e <;> simp only [aJ] at h
 case non => subst h; subst e; exact .base .non
 case bl => subst h; subst e; exact .base (.bl _)
 case int => subst h; subst e; exact .base (.int _)
 case str => subst h; subst e; exact .base (.str _)
 case tup => obtain ⟨a, vs, rfl, h1, _⟩ := h; subst e; exact hT (.of (rel.fz _ _ h1))
 case kK => obtain ⟨a, vs, rfl, h1, _⟩ := h; subst e; exact hT (rel.KA h1)
 case lst => obtain ⟨a, vs, rfl, h1, _⟩ := h; subst e; exact hL (.of (rel.fz _ _ h1))
 case nG => obtain ⟨a, vs, rfl, h1, _⟩ := h; subst e; exact hL (rel.RQ h1)
 case ref i =>
  obtain ⟨a, rfl, hi'⟩ := h
  split at e
  ·rename_i hw; cases e; obtain ⟨u, hu, vs, rfl, _⟩ := rel.ob i a _ hi' hw; exact .base (.lst hu)
  ·rename_i hw; cases e; obtain ⟨u, hu, vs, rfl, _⟩ := rel.ob i a _ hi' hw; exact .base (.dK hu)
  ·rename_i hw; cases e; obtain ⟨u, hu, vs, rfl, _⟩ := rel.ob i a _ hi' hw; exact .base (.dT hu)
  ·rename_i hw; cases e; obtain ⟨u, hu, o, vs, rfl, _⟩ := rel.ob i a _ hi' hw; exact .fDict hu
  ·cases e
  ·rename_i C fs hw
   cases e
   obtain ⟨u, hu, dx, r, rfl, _⟩ := rel.ob i a _ hi' hw
   have z := hi C rfl
   exact .base (.ins hu z.cl z.ha z.hn z.tk z.hm)
  ·cases e
 case G1 =>
  obtain ⟨a, kvs, rfl, h1, _⟩ := h
  subst e
  rcases h1 with h1 | ⟨o, h1⟩
  ·exact .base (.dK (rel.fz _ _ h1))
  ·exact .fDict (rel.fz _ _ h1)
theorem FN {K : PySem.W.Frag} {I : List Addr} {F : Hp} {t : String} (ht : t ∈ names7) : ∀ {cs : List D} {ns : List String} {vs : List V}, S1 cs = some ns → RepL K I F cs vs → (∀ n ∈ ns, n ∈ ["bool", "int", "str", "tuple", "list", "dict"]) → ∃ ws, Paired ClsV vs ws ∧ PySem.W.kitAny K (.type t) ws = some (ns.any (S6 t))
 | [], ns, vs, e, r, _ => by
  simp only [S1, aj] at e
  subst e
  simp only [RepL] at r
  subst r
  exact ⟨[], .nil, kitAny_nil⟩
 | d :: ds, ns, vs, e, r, hn => by
  cases d <;> simp only [S1, ao, reduceCtorEq] at e
  rename_i n
  obtain ⟨ns', e1, rfl⟩ := e
  simp only [RepL, aJ] at r
  obtain ⟨v, r', rfl, rfl, r2⟩ := r
  obtain ⟨ws, p, q⟩ := FN ht e1 r2 fun m hm => hn m (bh _ hm)
  refine ⟨.type n :: ws, .cons (.ty n) p, ?_⟩
  have k1 : PySem.W.kitOne K (.type t) (.type n) = some (S6 t n) := kit_ty (LG t ht n (hn n (az ..)))
  rw [List.any_cons]
  refine kitAny_cons k1 (fun hb => ?_) fun hb => ?_
  ·rw [hb, Bool.false_or]; exact q
  ·rw [hb, Bool.true_or]
theorem sQ {S : aX} {kc : wM → wM → Option Bool} (hk : aAm S.K kc) : CB S (.builtin "isinstance") (lH kc) := uF fun X E c xo I F G ds w H vs Q rel rl p => by
 unfold lH at p
 split at p
 ·rename_i d n
  obtain ⟨v, u, rfl, rv, ru⟩ := rl.two
  simp only [aJ] at ru
  subst ru
  split at p
  ·rename_i t ht
   split at p
   ·rename_i hc
    exact ⟨_, call_isi, v, .ty n, _, .type n, _, rfl, .ty n, DZ rel rv ht (fun C z => by cases z), kit_ty (LG t hc.1 n hc.2), p.n8 rel (by simp [aJ])⟩
   ·exact p.elim
  ·rename_i C hC
   split at p
   ·rename_i r hr
    exact ⟨_, call_isi, v, .ty n, _, .type n, _, rfl, .ty n, DZ rel rv hC (fun C' z => by cases z; rw [c.K]; exact hk.ins _ _ _ hr), by rw [c.K]; exact hk.one _ _ _ hr, p.n8 rel (by simp [aJ])⟩
   ·exact p.elim
  ·exact p.elim
 ·rename_i d C
  obtain ⟨v, u, rfl, rv, ru⟩ := rl.two
  simp only [aJ] at ru
  subst ru
  split at p
  ·rename_i t ht
   split at p
   ·rename_i r hr
    exact ⟨_, call_isi, v, .ref C, _, .ref C, _, rfl, .own C, DZ rel rv ht (fun C' z => by subst z; rw [c.K]; exact hk.ins _ _ _ hr), by rw [c.K]; exact hk.one _ _ _ hr, p.n8 rel (by simp [aJ])⟩
   ·exact p.elim
  ·exact p.elim
 ·rename_i d cs
  obtain ⟨v, u, rfl, rv, ru⟩ := rl.two
  simp only [aJ] at ru
  obtain ⟨tp, vs, rfl, h2, h3⟩ := ru
  split at p
  ·rename_i t ns ht hn
   split at p
   ·rename_i hc
    obtain ⟨ws, hp, hk2⟩ := FN (K := X.K) hc.1 hn h3 hc.2
    exact ⟨_, call_isiT, v, tp, vs, _, ws, _, rfl, rel.fz _ _ h2, hp, DZ rel rv ht (fun C z => by cases z), hk2, p.n8 rel (by simp [aJ])⟩
   ·exact p.elim
  ·exact p.elim
 ·exact p.elim
def qF : List D → Option (List Bool)
 | [] => some []
 | .bl b :: r => (qF r).map (b :: ·)
 | _ :: _ => none
theorem xI {K : PySem.W.Frag} {I : List Addr} {F : Hp} : ∀ {ds : List D} {vs : List V} {ns : List Bool}, RepL K I F ds vs → qF ds = some ns → vs = ns.map V.bl
 | [], vs, ns, h, e => by simp only [qF, aj] at e; subst e; simp only [RepL] at h; exact h
 | d :: ds, vs, ns, h, e => by
  cases d <;> simp only [qF, ao, reduceCtorEq] at e
  obtain ⟨r, e1, rfl⟩ := e
  simp only [RepL, aJ] at h
  obtain ⟨v, t, rfl, rfl, h2⟩ := h
  rw [xI h2 e1]
  rfl
def allM : MF := fun ds w => match ds with
 | [d] => (match (rS d w).bind qF with
  | some bs => .ok (.bl (bs.all id)) w
  | none => .bad)
 | _ => .bad
theorem xT {S : aX} : CB S (.builtin "all") allM := uF fun X E c xo I F G ds w H vs Q rel rl p => by
 unfold allM at p
 split at p
 ·rename_i d
  obtain ⟨v, rfl, rv⟩ := rl.one
  split at p
  ·rename_i bs hn
   obtain ⟨xs, h1, h2⟩ := ck.mp hn
   obtain ⟨a, us, rfl, hq, hr⟩ := wY rel rv h1
   obtain rfl := xI hr h2
   exact ⟨_, cr_all c.calm, a, bs, rfl, hq, p.n8 rel (by simp [aJ])⟩
  ·exact p.elim
 ·exact p.elim
def BR (x y : D) (w : W) : Res D := match x, y with
 | .int a, .int b => .ok (.bl (decide (a < b))) w
 | x, y => match (wJ x).bind lE, (wJ y).bind lE with
  | some ns, some ms => .ok (.bl (HT.lexLt ns ms)) w
  | _, _ => .bad
theorem OL {S : aX} : O2 S (compareOp .Lt) BR := gP fun X E c xo I F G d e w H x y Q rel rd re p => by
 unfold BR at p
 split at p
 ·simp only [aJ] at rd re
  exact ⟨_, op_lt, _, _, rd, re, p.n8 rel (by simp [aJ])⟩
 ·split at p
  ·rename_i ns ms h1 h2
   obtain ⟨xs, q1, q2⟩ := ck.mp h1
   obtain ⟨ys, q3, q4⟩ := ck.mp h2
   obtain ⟨a, us, rfl, g1, g2⟩ := OM rel rd q1
   obtain ⟨b, ts, rfl, g3, g4⟩ := OM rel re q3
   obtain rfl := qM g2 q2
   obtain rfl := qM g4 q4
   exact ⟨_, op_ltT (by have := c.room.un; omega), a, b, ns, ms, rfl, rfl, g1, g3, p.n8 rel (by simp [aJ])⟩
  ·exact p.elim
theorem iR {K : PySem.W.Frag} {I : List Addr} {F G H : Hp} {w : W} {q : Addr} {u : HO} (rel : Rel K I F (upd G q u) w H) (hG : G q = none) : Rel K I F G w H :=
 ⟨rel.len, rel.nd, rel.ob, rel.fz, rel.ap, fun a v h => rel.gz a v (by rw [upd_ne (ne_of_none h hG)]; exact h), fun a v h => rel.gf a v (by rw [upd_ne (ne_of_none h hG)]; exact h), fun a xs h => rel.gt a xs (by rw [upd_ne (ne_of_none h hG)]; exact h)⟩
theorem a6.more {α : Type} {K : PySem.W.Frag} {I : List Addr} {F G : Hp} {E : XK} {R R' : List Addr → Hp → Hp → α → W → Prop} {r : Res α} {q : Addr} {u : HO} (p : a6 K I F G E R r) (hG : G q = none)
  (k : ∀ I' F' H' a w, r = .ok a w → Ext I F I' F' → Rel K I' F' (upd G q u) w H' → R I' F' H' a w → R' I' F' H' a w) : a6 K I F (upd G q u) E R' r := by
 cases r with
 | ok a w => exact fun I' F' H' e rel => k I' F' H' a w rfl e rel (p I' F' H' e (iR rel hG))
 | sW x w => exact fun I' F' H' c d e rel rx => p I' F' H' c d e (iR rel hG) rx
 | bad => exact p
abbrev MP := Sg → W → Res (List (D × D))
def AF : MP := fun _ w => .ok [] w
def c9 (mk mv : ME) (r : MP) : MP := fun σ w => (mk σ w).bind fun k w1 => (mv σ w1).bind fun v w2 => (r σ w2).bind fun ps w3 => .ok ((k, v) :: ps) w3
def keyed : List (D × D) → Option (List (Key × D))
 | [] => some []
 | (k, v) :: r => match keyD k, keyed r with
  | some j, some t => some ((j, v) :: t)
  | _, _ => none
def qD {κ : Type} [DecidableEq κ] (kvs more : List (κ × D)) : List (κ × D) := more.foldl (fun acc kv => putD acc kv.1 kv.2) kvs
def zS (m : MP) : ME := fun σ w => (m σ w).bind fun ps w1 => match keyed ps with
 | some kvs => if kvs.length ≤ 15 then .ok (.ref w1.length) (w1 ++ [.dK (qD [] kvs)]) else .bad
 | none => .bad
def nL : ME := fun _ w => .ok (.ref w.length) (w ++ [.dT []])
def aAg (K : PySem.W.Frag) (I : List Addr) (F : Hp) (ps : List (D × D)) (vs : List (V × V)) : Prop := RepL K I F (ps.map (·.1)) (vs.map (·.1)) ∧ RepL K I F (ps.map (·.2)) (vs.map (·.2))
def RPs (K : PySem.W.Frag) (Q : List (V × V) → Hp → Prop) : List Addr → Hp → Hp → List (D × D) → W → Prop := fun I' F' H' ps _ => ∀ vs, aAg K I' F' ps vs → Q vs H'
def lowP (K : PySem.W.Frag) (E : XK) (m : MP) : L2.St → Hp → (List (V × V) → Hp → Prop) → Prop := fun σ H Q => ∃ I F G ds w, Rel K I F G w H ∧ eS K I F ds σ ∧ a6 K I F G E (RPs K Q) (m ds w)
def JD (S : aX) (pos : Pos) (ks : List (Option Expr)) (vs : List Expr) (m : MP) : Prop := ∀ X E, Ctx S X → n9 X E → ∃ trs, PPs X pos ks vs trs ∧ ∀ σ H Q, lowP X.K E m σ H Q → tPairs trs σ H Q
theorem aQ.merge {K : PySem.W.Frag} {I : List Addr} {F : Hp} {κ : Type} [DecidableEq κ] : ∀ {more : List (κ × D)} {rs : List (κ × V)} {kvs : List (κ × D)} {vs : List (κ × V)}, aQ K I F more rs → aQ K I F kvs vs → aQ K I F (qD kvs more) (rs.foldl (fun acc kv => putK acc kv.1 kv.2) vs)
 | [], rs, kvs, vs, h, g => by simp only [aQ] at h; subst h; exact g
 | (k, d) :: more, rs, kvs, vs, h, g => by
  simp only [aQ] at h
  obtain ⟨v, r, rfl, h1, h2⟩ := h
  exact aQ.merge (more := more) (rs := r) h2 (g.put k h1)
theorem BP {K : PySem.W.Frag} {I : List Addr} {F : Hp} : ∀ {ps : List (D × D)} {vs : List (V × V)} {kvs : List (Key × D)}, aAg K I F ps vs → keyed ps = some kvs → ∃ r : List (Key × V), vs = r.map (fun kv => (kV kv.1, kv.2)) ∧ aQ K I F kvs r
 | [], vs, kvs, h, e => by
  simp only [keyed, aj] at e
  subst e
  have := h.1
  simp only [List.map_nil, RepL, List.map_eq_nil_iff] at this
  subst this
  exact ⟨[], rfl, by simp [aQ]⟩
 | (k, d) :: ps, vs, kvs, h, e => by
  obtain ⟨h1, h2⟩ := h
  cases vs with
  | nil => simp only [List.map_cons, List.map_nil, RepL] at h1; obtain ⟨_, _, z, _⟩ := h1; cases z
  | cons x vs =>
   obtain ⟨x1, x2⟩ := x
   simp only [List.map_cons, RepL] at h1 h2
   obtain ⟨v, r, z1, g1, g2⟩ := h1
   obtain ⟨u, t, z2, g3, g4⟩ := h2
   cases z1
   cases z2
   simp only [keyed] at e
   split at e
   ·rename_i j tt e1 e2
    cases e
    obtain ⟨rr, e3, e4⟩ := BP ⟨g2, g4⟩ e2
    refine ⟨(j, x2) :: rr, ?_, ?_⟩
    ·rw [List.map_cons, ← e3, pZ g1 e1]
    ·simp only [aQ]; exact ⟨x2, rr, rfl, g3, e4⟩
   ·cases e
section
variable {S : aX} {pos : Pos} {k v : Expr} {ks : List (Option Expr)} {vs : List Expr} {mk mv : ME} {m : MP}
theorem IK : JD S pos [] [] AF := fun X E cx xo => ⟨[], pps_nil, fun σ H Q ⟨I, F, G, ds, w, rel, rs, p⟩ => p I F H .refl rel [] ⟨by simp [RepL], by simp [RepL]⟩⟩
theorem gT (hk : JE S k mk) (hv : JE S v mv) (hr : JD S pos ks vs m) : JD S pos (some k :: ks) (v :: vs) (c9 mk mv m) := fun X E cx xo => by
 obtain ⟨trs, h1, h2⟩ := hr X E cx xo
 refine ⟨(oC X.K E mk, oC X.K E mv) :: trs, pps_cons (hk X E cx xo) (hv X E cx xo) h1, fun σ H Q ⟨I, F, G, ds, w, rel, rs, p⟩ => ?_⟩
 refine bO (f := fun ds x w1 => (mv ds w1).bind fun y w2 => (m ds w2).bind fun ps w3 => .ok ((x, y) :: ps) w3) rel rs p fun I1 F1 H1 x w1 a e1 rel1 rs1 ra p1 => ?_
 refine bO (f := fun ds y w2 => (m ds w2).bind fun ps w3 => .ok ((x, y) :: ps) w3) rel1 rs1 p1 fun I2 F2 H2 y w2 b e2 rel2 rs2 rb p2 => ?_
 refine h2 σ H2 _ ⟨I2, F2, G, ds, w2, rel2, rs2, (a6.bind p2).mono fun I3 F3 H3 ps w3 _ e3 rel3 p3 us ru => ?_⟩
 refine p3 I3 F3 H3 .refl rel3 ((a, b) :: us) ⟨?_, ?_⟩
 ·exact RepL.cons (aJ.ext (e2.trans e3) _ _ ra) ru.1
 ·exact RepL.cons (aJ.ext e3 _ _ rb) ru.2
theorem KN (h : JD S pos ks vs m) (hall : ks.all (·.isSome) = true := by rfl) (hl : ks.length = vs.length := by rfl) (h0 : ks ≠ [] := by simp) (h15 : ks.length ≤ 15 := by exact ae rfl) : JE S (.Dict ks vs pos) (zS m) := fun X E cx xo => by
 obtain ⟨trs, g1, g2⟩ := h X E cx xo
 refine cE (pe_disp g1 hall hl h0 h15) fun σ H Q ⟨I, F, G, ds, w, rel, rs, p⟩ q hq => ?_
 have hG : G q = none := by
  cases z : G q with
  | none => rfl
  | some u => rw [rel.gz _ _ z] at hq; cases hq
 refine g2 σ _ _ ⟨I, F, upd G q (.dK []), ds, w, rel.keep hq, rs, (a6.bind p).more hG fun I1 F1 H1 ps w1 _ e1 rel1 p1 us ru => ?_⟩
 refine ⟨rel1.gz q _ upd_same, ?_⟩
 split at p1
 ·rename_i kvs hk
  split at p1
  ·rename_i hl'
   obtain ⟨r, e2, e3⟩ := BP ru hk
   refine ⟨r, e2, by rw [← e3.length]; exact hl', ?_⟩
   obtain ⟨ee, rel2⟩ := (rel1.ID (u' := .dK (mergeK [] r))).owned hG (o := .dK (qD [] kvs)) ⟨_, rfl, aQ.merge e3 (by simp [aQ])⟩
   refine p1 _ _ _ ee rel2 _ ?_
   simp only [aJ]
   refine ⟨q, rfl, ?_⟩
   rw [← rel1.len, bc (bp _)]
   simp
  ·exact p1.elim
 ·exact p1.elim
theorem Q9 : JE S (.Dict [] [] pos) nL := fun X E cx xo => cE pe_dnewT fun σ H Q ⟨I, F, G, ds, w, rel, rs, p⟩ => wZ (o := .dT []) rel ⟨[], rfl, by simp [aQ]⟩ p
end
def getM : PJ := fun d ds w => match d, ds with
 | .ref i, [k, z] => (match w[i]? with
  | some o => (match m9 o k with
   | some r => .ok (r.getD z) w
   | none => .bad)
  | none => .bad)
 | _, _ => .bad
def II : PJ := fun d ds w => match d, ds with
 | .ref i, [.ref j] => (match w[i]?, w[j]? with
  | some (.dK kvs), some (.dK more) => if i ≠ j ∧ kvs.length + more.length ≤ sizeLine then .ok .non (w.set i (.dK (qD kvs more))) else .bad
  | _, _ => .bad)
 | _, _ => .bad
theorem VO {X : Cx} : MtR X "dict.update" (fun x xs H Q => ∃ a b kvs more, x = V.ref a ∧ xs = [V.ref b] ∧ H a = some (.dK kvs) ∧ H b = some (.dK more) ∧ a ≠ b ∧ kvs.length + more.length ≤ sizeLine ∧ Q .non (upd H a (.dK (mergeK kvs more)))) := by
 intro pins s σ H x xs v us Q J rx rxs h
 obtain ⟨a, b, kvs, more, rfl, rfl, ha, hb, ne, hz, q⟩ := h
 cases rx
 obtain ⟨u, rfl, ru⟩ := rxs.one
 cases ru
 obtain ⟨z1, d1, vs1, r1, dd1⟩ := dk_of J.hok ha
 obtain ⟨z2, d2, vs2, r2, dd2⟩ := dk_of J.hok hb
 refine PySem.call_meetsIn PySem.F.slot_dict_update dd1.typeIs PySem.F.entry_dict_update (PySem.F.args_dict_update_2 _ _) (meets_dict_update (mixKind X.prog X.w) a b ne d2) ⟨vs1, vs2, dd1, dd2, by rw [← r1.length, ← r2.length]; exact hz, fun h' g1 _ hs => ?_⟩
 have he : ∃ q, h'.get? a = some q := by
  obtain ⟨q, _, _, hq, _⟩ := g1
  exact ⟨q, hq⟩
 refine ⟨.non, _, d_write J (t' := s.toks) (by rw [ha]; exact True.intro) hs he (dk_new ?_ d1 (KV.merge r2 r1) g1), rfl, q⟩
 exact cj (length_mergeK more kvs) hz
theorem NA {S : aX} : MB S "dict.update" II := LA fun X E c xo I F G d ds w H x vs Q rel rd rl p => by
 unfold II at p
 split at p
 ·rename_i i j
  simp only [aJ] at rd
  obtain ⟨a, rfl, hi⟩ := rd
  obtain ⟨t, rfl, rt⟩ := rl.one
  simp only [aJ] at rt
  obtain ⟨b, rfl, hj⟩ := rt
  split at p
  ·rename_i kvs more hw1 hw2
   obtain ⟨u, hu, r, rfl, hr⟩ := rel.ob i a _ hi hw1
   obtain ⟨u2, hu2, r2, rfl, hr2⟩ := rel.ob j b _ hj hw2
   split at p
   ·rename_i hc
    refine ⟨_, VO, a, b, r, r2, rfl, rfl, hu, hu2, fun z => hc.1 ?_, by rw [← hr.length, ← hr2.length]; exact hc.2, p.n8 (rel.upd hi hw1 ⟨_, rfl, aQ.merge hr2 hr⟩) (by simp [aJ])⟩
    subst z
    obtain ⟨l1, e1⟩ := ai.mp hi
    obtain ⟨l2, e2⟩ := ai.mp hj
    exact (List.getElem_inj rel.nd).mp (e1.trans e2.symm)
   ·exact p.elim
  ·exact p.elim
 ·exact p.elim
def gF : Key → D
 | .inl i => .int i
 | .inr x => .str x
theorem vJ {K : PySem.W.Frag} {I : List Addr} {F : Hp} (k : Key) : aJ K I F (gF k) (kV k) := by
 cases k <;> simp [gF, aJ, kV]
def vB (d : D) (w : W) : Res jN := match d with
 | .ref i => (match w[i]? with
  | some (.dK kvs) => .ok ⟨kvs.map fun p => .tup [gF p.1, p.2], always⟩ (w.set i (.dF kvs))
  | _ => .bad)
 | _ => .bad
def qZ (m : ME) : MI := fun σ w => (m σ w).bind vB
def tLock (te : TE) : TE := fun σ H Q => te σ H fun x H1 => ∃ d kvs, x = V.ref d ∧ H1 d = some (.dK kvs) ∧ ∀ o, Q x (upd H1 d (.frz o (.dK kvs)))
theorem pe_lock {X : Cx} {e : Expr} {te : TE} (h : PE X e te) : PE X e (tLock te) := ⟨fun pins s σ H Q J q => thn (h.run pins s σ H _ J q) fun u s1 ⟨x, H1, J1, r, d, kvs, ex, hd, k⟩ => by
 obtain ⟨o, J2⟩ := J1.lock hd trivial
 exact ⟨x, _, J2, r, k o⟩⟩
theorem aQ.get {K : PySem.W.Frag} {I : List Addr} {F : Hp} {κ : Type} : ∀ {kvs : List (κ × D)} {r : List (κ × V)} {i : Nat} {k : κ} {v : V}, aQ K I F kvs r → r[i]? = some (k, v) → ∃ d, kvs[i]? = some (k, d) ∧ aJ K I F d v
 | [], r, i, k, v, h, e => by simp only [aQ] at h; subst h; simp at e
 | (j, d) :: kvs, r, 0, k, v, h, e => by
  simp only [aQ] at h
  obtain ⟨u, t, rfl, h1, h2⟩ := h
  simp at e
  obtain ⟨rfl, rfl⟩ := e
  exact ⟨d, rfl, h1⟩
 | (j, d) :: kvs, r, i + 1, k, v, h, e => by
  simp only [aQ] at h
  obtain ⟨u, t, rfl, h1, h2⟩ := h
  obtain ⟨d', h3, h4⟩ := aQ.get (i := i) h2 (by simpa using e)
  exact ⟨d', by simpa using h3, h4⟩
theorem A5 {K : PySem.W.Frag} {I : List Addr} {F G H : Hp} {w : W} {ds : List D} {vs : List V} (rel : Rel K I F G w H) (r : RepL K I F ds vs) {q : Addr} (hq : H q = none) : ∃ F2, Ext I F I F2 ∧ Rel K I F2 G w (upd H q (.tup vs)) ∧ aJ K I F2 (.tup ds) (.ref q) := by
 have hF : F q = none := by
  cases h : F q with
  | none => rfl
  | some u => rw [rel.fz _ _ h] at hq; cases hq
 have e : Ext I F I (upd F q (.tup vs)) := ⟨List.prefix_refl _, fun a u h => by rw [upd_ne (ne_of_none h hF)]; exact h⟩
 refine ⟨_, e, ⟨rel.len, rel.nd, fun i a o h1 h2 => ?_, fun a u h => ?_, fun i a o h h0 hf => ?_, fun a u h => ?_, fun a u h => ?_, rel.gt⟩, ?_⟩
 ·obtain ⟨u, h3, h4⟩ := rel.ob i a o h1 h2
  exact ⟨u, by rw [upd_ne (ne_of_none h3 hq)]; exact h3, iZ.ext e h4⟩
 ·by_cases ha : a = q
  ·subst ha; rw [upd_same] at h ⊢; exact h
  ·rw [upd_ne ha] at h ⊢; exact rel.fz a u h
 ·obtain ⟨u, h3, _⟩ := rel.ob i a o h h0
  rw [upd_ne (ne_of_none h3 hq)]; exact rel.ap i a o h h0 hf
 ·rw [upd_ne (ne_of_none (rel.gz a u h) hq)]; exact rel.gz a u h
 ·rw [upd_ne (ne_of_none (rel.gz a u h) hq)]; exact rel.gf a u h
 ·simp only [aJ]
  exact ⟨q, vs, rfl, upd_same, RepL.ext e _ _ r⟩
theorem QG {K : PySem.W.Frag} {I : List Addr} {F G H : Hp} {w : W} {i : Nat} {a : Addr} {kvs : List (Key × D)} {r : List (Key × V)} (o : Obj) (rel : Rel K I F G w H) (hi : I[i]? = some a) (hw : w[i]? = some (.dK kvs)) (hr : aQ K I F kvs r) :
  Ext I F I (upd F a (.frz o (.dK r))) ∧ Rel K I (upd F a (.frz o (.dK r))) G (w.set i (.dF kvs)) (upd H a (.frz o (.dK r))) := by
 have hF : F a = none := rel.ap i a _ hi hw rfl
 have rel' := rel.upd (u' := .frz o (.dK r)) (o' := .dF kvs) hi hw ⟨o, r, rfl, hr⟩
 have e : Ext I F I (upd F a (.frz o (.dK r))) := ⟨List.prefix_refl _, fun b u h => by rw [upd_ne (ne_of_none h hF)]; exact h⟩
 refine ⟨e, rel'.len, rel'.nd, fun j b q h1 h2 => ?_, fun b u h => ?_, fun j b q h1 h2 h3 => ?_, rel'.gz, fun b u h => ?_, rel.gt⟩
 ·obtain ⟨u, h3, h4⟩ := rel'.ob j b q h1 h2
  exact ⟨u, h3, iZ.ext e h4⟩
 ·by_cases hb : b = a
  ·subst hb; rw [upd_same] at h ⊢; exact h
  ·rw [upd_ne hb] at h; exact rel'.fz b u h
 ·have hb : b ≠ a := fun z => by
   subst z
   obtain ⟨l1, e1⟩ := ai.mp hi
   obtain ⟨l2, e2⟩ := ai.mp h1
   have hij : i = j := (List.getElem_inj rel.nd).mp (e1.trans e2.symm)
   subst hij
   rw [av (ai.mp hw).1] at h2
   cases h2
   cases h3
  rw [upd_ne hb]; exact rel'.ap j b q h1 h2 h3
 ·obtain ⟨g1, g2⟩ := rel.gf b u h
  have hb : b ≠ a := fun z => g2 (by rw [z]; exact bf hi)
  exact ⟨by rw [upd_ne hb]; exact g1, g2⟩
theorem QY {S : aX} {e : Expr} {m : ME} {apos cpos tpos : Pos} {elts : List Expr} {kk : Nat} (he : JE S e m) (hbase : ∀ env : Env, attributeBase e "items" env (eval e env) = eval e env := by intro _; rfl) (hline : (apos.endLine == cpos.line) = true := by rfl) :
  JI S (.Tuple elts kk tpos) (.Call (.Attribute e "items" apos) [] [] cpos) (qZ m) := fun X E cx xo =>
 qP (pi_items (pe_lock (he X E cx xo)) (hbase X.env) hline) fun σ H R ⟨I, F, G, ds, w, rel, rs, p⟩ => bO (f := fun _ => vB) rel rs p fun I1 F1 H1 d w1 v e1 rel1 rs1 rv p1 => by
  unfold vB at p1
  split at p1
  ·rename_i i
   simp only [aJ] at rv
   obtain ⟨a, rfl, hi⟩ := rv
   split at p1
   ·rename_i kvs hw
    obtain ⟨u, hu, r, rfl, hr⟩ := rel1.ob i a _ hi hw
    refine ⟨a, r, rfl, hu, fun o => ⟨a, o, r, rfl, upd_same, ?_⟩⟩
    have hl : i < w1.length := (ai.mp hw).1
    obtain ⟨e2, rel2⟩ := QG o rel1 hi hw hr
    refine p1 I1 _ _ e2 rel2 trivial _ fun I' F' G' w' H' j e' rel' _ => ?_
    have hH : H' a = some (.frz o (.dK r)) := rel'.fz _ _ (e'.f _ _ upd_same)
    have hr' := aQ.ext (e2.trans e') _ _ hr
    have hlen : kvs.length = r.length := hr.length
    refine ⟨fun x hx => ?_, fun hl' => ⟨hH, by rw [bq] at hl'; omega⟩⟩
    rw [bw] at hx
    cases hk : kvs[j]? with
    | none => rw [hk] at hx; cases hx
    | some kd =>
     rw [hk] at hx
     cases hx
     refine ⟨⟨hH, by rw [← hlen]; exact (ai.mp hk).1⟩, fun v H'' y => ?_⟩
     obtain ⟨T, k, v', g1, rfl, g2, rfl⟩ := y
     obtain ⟨d', g3, g4⟩ := hr'.get g1
     rw [hk] at g3
     cases g3
     exact A5 rel' (RepL.cons (vJ k) (RepL.cons g4 (by simp [RepL]))) g2
   ·exact p1.elim
  ·exact p1.elim
open Classical in
def S8 (it : jN) (vs : List Nat) (g : MG) (t : MT) (e : ME) : List D → List D → Sg → W → Res (List D)
 | acc, [], σ, w => if it.ok w then .ok acc w else .bad
 | acc, x :: xs, σ, w => if it.ok w then (g x (dJ σ vs) w).D3.bind fun σ1 w1 => (t σ1 w1).D3.bind fun b w2 =>
   if b = true then (e σ1 w2).D3.bind fun y w3 => if acc.length < sizeLine then S8 it vs g t e (acc ++ [y]) xs σ w3 else .bad else S8 it vs g t e acc xs σ w2
  else .bad
open Classical in
def uG (it : jN) (vs : List Nat) (g : MG) (t : MT) (mi1 : MI) (vs1 : List Nat) (g1 : MG) (t1 : MT) (e : ME) : List D → List D → Sg → W → Res (List D)
 | acc, [], σ, w => if it.ok w then .ok acc w else .bad
 | acc, x :: xs, σ, w => if it.ok w then (g x (dJ σ vs) w).D3.bind fun σ1 w1 => (t σ1 w1).D3.bind fun b w2 =>
   if b = true then (mi1 σ1 w2).D3.bind fun it1 w3 => (S8 it1 vs1 g1 t1 e acc it1.xs σ1 w3).bind fun acc' w4 => uG it vs g t mi1 vs1 g1 t1 e acc' xs σ w4
   else uG it vs g t mi1 vs1 g1 t1 e acc xs σ w2
  else .bad
def SI (m : MI) (vs : List Nat) (g : MG) (t : MT) (mi1 : MI) (vs1 : List Nat) (g1 : MG) (t1 : MT) (e : ME) : MA := fun σ w => (m σ w).bind fun it w1 => uG it vs g t mi1 vs1 g1 t1 e [] it.xs σ w1
def yJ (m : MI) (vs : List Nat) (g : MG) (t : MT) (mi1 : MI) (vs1 : List Nat) (g1 : MG) (t1 : MT) (e : ME) : ME := fun σ w => (SI m vs g t mi1 vs1 g1 t1 e σ w).bind fun ys w1 => .ok (.lst ys) w1
theorem still {α : Type} {K : PySem.W.Frag} {R : List Addr → Hp → Hp → α → W → Prop} {r : Res α} {I : List Addr} {F G : Hp} {q : Addr} {u : HO} (hG : G q = none) (p : a6 K I F G E0 R r) :
  a6 K I F (upd G q u) E0 (fun I' F' H' a w => Rel K I' F' (upd G q u) w H' ∧ ∀ H'', Rel K I' F' G w H'' → R I' F' H'' a w) r := by
 cases r with
 | ok a w => exact fun I' F' H' e q => ⟨q, fun H'' q' => p I' F' H'' e q'⟩
 | sW x w => exact fun I' F' H' c d e q rx => p I' F' H' c d e (iR q hG) rx
 | bad => exact p
theorem NZ {mi : MI} {g : MG} {t : MT} {mi1 : MI} {g1 : MG} {t1 : MT} {me : ME} {K : PySem.W.Frag} {E : XK} {vs vs1 : List Nat} {f : List D → W → Res D} {σ : L2.St} {H : Hp} {Q : VK} (h : oC K E (fun σ w => (SI mi vs g t mi1 vs1 g1 t1 me σ w).bind f) σ H Q)
  (fin : ∀ I F G w H q xs us, Rel K I F (upd G q (.lst us)) w H → G q = none → RepL K I F xs us → a6 K I F G E (RV K Q) (f xs w) → Q (.ref q) H) :
  tLc2 (UU K E mi) (VC K E0 vs g) (KR K E0 t) (UU K E0 mi1) (VC K E0 vs1 g1) (KR K E0 t1) (oC K E0 me) vs vs1 σ H Q := by
 obtain ⟨I, F, G, ds, w, rel, rs, p⟩ := h
 have p0 : a6 K I F G E (RV K Q) ((mi ds w).bind fun it w1 => (uG it vs g t mi1 vs1 g1 t1 me [] it.xs ds w1).bind f) := by
  rw [← Res.bind_assoc]; exact p
 refine ⟨I, F, G, ds, w, rel, rs, (a6.bind p0).mono fun I1 F1 H1 it w1 _ e1 rel1 p1 hok J hJ q hq => ?_⟩
 have hG : G q = none := by
  cases h : G q with
  | none => rfl
  | some u => rw [rel1.gz _ _ h] at hq; cases hq
 refine ⟨fun i n H' => n = it.xs.length - i ∧ i ≤ it.xs.length ∧ ∃ I' F' w' xs us, Ext I1 F1 I' F' ∧ Rel K I' F' (upd G q (.lst us)) w' H' ∧ RepL K I' F' xs us ∧
   a6 K I' F' G E (RV K Q) ((uG it vs g t mi1 vs1 g1 t1 me xs (it.xs.drop i) ds w').bind f),
  ⟨it.xs.length, by simp, Nat.zero_le _, I1, F1, w1, [], [], .refl, rel1.keep hq, by simp [RepL], by simpa using p1⟩, ?_⟩
 rintro i n H' ⟨rfl, hi, I', F', w', xs, us, e', rel', rx, p'⟩
 by_cases hlt : i < it.xs.length
 ·rw [List.drop_eq_getElem_cons hlt] at p'
  unfold uG at p'
  split at p'
  ·rename_i hw
   obtain ⟨h1, _⟩ := hJ I' F' _ w' H' i e' rel' hw
   obtain ⟨hgo, hy⟩ := h1 _ (bg hlt)
   refine .inr ⟨hgo, fun H2 => ∃ I2 F2 w2 xs2 us2, Ext I1 F1 I2 F2 ∧ Rel K I2 F2 (upd G q (.lst us2)) w2 H2 ∧ RepL K I2 F2 xs2 us2 ∧ a6 K I2 F2 G E (RV K Q) ((uG it vs g t mi1 vs1 g1 t1 me xs2 (it.xs.drop (i + 1)) ds w2).bind f),
    fun H2 q => ⟨it.xs.length - (i + 1), by omega, rfl, hlt, q⟩, fun v H2 y => ?_⟩
   obtain ⟨F2, e2, rel2, rv⟩ := hy v H2 y
   have p2 := p'.ext e2
   rw [Res.bind_assoc] at p2
   refine ⟨I', F2, upd G q (.lst us), _, dJ ds vs, w', rel2, (((rs.ext e1).ext e').ext e2).wipe vs, rv, (still hG (a6.j8 p2)).mono fun I3 F3 H3 s3 w3 _ e3 rel3 p3 σ3 rs3 ew => ⟨ew.trans vC, ?_⟩⟩
   have p3' := p3.2 H3 (iR rel3 hG)
   rw [Res.bind_assoc] at p3'
   refine ⟨I3, F3, upd G q (.lst us), s3, w3, rel3, rs3, (still hG (a6.j8 p3')).mono fun I4 F4 H4 b w4 _ e4 rel4 p4 => ?_⟩
   have p4' := p4.2 H4 (iR rel4 hG)
   cases b with
   | false =>
    simp only [bj, aa] at p4' ⊢
    exact ⟨I4, F4, w4, xs, us, (e'.trans e2).trans (e3.trans e4), rel4, RepL.ext ((e2.trans e3).trans e4) _ _ rx, p4'⟩
   | true =>
    simp only [ah] at p4' ⊢
    rw [Res.bind_assoc] at p4'
    refine ⟨I4, F4, upd G q (.lst us), s3, w4, rel4, rs3.ext e4, (still hG (a6.j8 p4')).mono fun I5 F5 H5 it1 w5 _ e5 rel5 p5 hok1 J1 hJ1 => ?_⟩
    have p5' := p5.2 H5 (iR rel5 hG)
    rw [Res.bind_assoc] at p5'
    have ee : Ext I' F' I5 F5 := ((e2.trans e3).trans e4).trans e5
    refine ⟨fun j k H' => k = it1.xs.length - j ∧ j ≤ it1.xs.length ∧ ∃ I' F' w' xs us, Ext I5 F5 I' F' ∧ Rel K I' F' (upd G q (.lst us)) w' H' ∧ RepL K I' F' xs us ∧
      a6 K I' F' G E (RV K Q) ((S8 it1 vs1 g1 t1 me xs (it1.xs.drop j) s3 w').bind fun xs2 w2 => (uG it vs g t mi1 vs1 g1 t1 me xs2 (it.xs.drop (i + 1)) ds w2).bind f),
     ⟨it1.xs.length, by simp, Nat.zero_le _, I5, F5, w5, xs, us, .refl, rel5, RepL.ext ee _ _ rx, by simpa using p5'⟩, ?_⟩
    rintro j k H6 ⟨rfl, hj, I6, F6, w6, xs6, us6, e6, rel6, rx6, p6⟩
    by_cases hlt1 : j < it1.xs.length
    ·rw [List.drop_eq_getElem_cons hlt1] at p6
     unfold S8 at p6
     split at p6
     ·rename_i hw1
      obtain ⟨k1, _⟩ := hJ1 I6 F6 _ w6 H6 j e6 rel6 hw1
      obtain ⟨kgo, ky⟩ := k1 _ (bg hlt1)
      refine .inr ⟨kgo, fun H2 => ∃ I' F' w' xs us, Ext I5 F5 I' F' ∧ Rel K I' F' (upd G q (.lst us)) w' H2 ∧ RepL K I' F' xs us ∧
        a6 K I' F' G E (RV K Q) ((S8 it1 vs1 g1 t1 me xs (it1.xs.drop (j + 1)) s3 w').bind fun xs2 w2 => (uG it vs g t mi1 vs1 g1 t1 me xs2 (it.xs.drop (i + 1)) ds w2).bind f),
       fun H2 q => ⟨it1.xs.length - (j + 1), by omega, rfl, hlt1, q⟩, fun v1 H7 y1 => ?_⟩
      obtain ⟨F7, e7, rel7, rv7⟩ := ky v1 H7 y1
      have p7 := p6.ext e7
      rw [Res.bind_assoc] at p7
      have e47 : Ext I3 F3 I6 F7 := ((e4.trans e5).trans e6).trans e7
      refine ⟨I6, F7, upd G q (.lst us6), _, dJ s3 vs1, w6, rel7, (rs3.ext e47).wipe vs1, rv7, (still hG (a6.j8 p7)).mono fun I8 F8 H8 s8 w8 _ e8 rel8 p8 σ8 rs8 ew8 => ⟨ew8.trans vC, ?_⟩⟩
      have p8' := p8.2 H8 (iR rel8 hG)
      rw [Res.bind_assoc] at p8'
      refine ⟨I8, F8, upd G q (.lst us6), s8, w8, rel8, rs8, (still hG (a6.j8 p8')).mono fun I9 F9 H9 b9 w9 _ e9 rel9 p9 => ?_⟩
      have p9' := p9.2 H9 (iR rel9 hG)
      cases b9 with
      | false =>
       simp only [bj, aa] at p9' ⊢
       exact ⟨I9, F9, w9, xs6, us6, e6.trans ((e7.trans e8).trans e9), rel9, RepL.ext ((e7.trans e8).trans e9) _ _ rx6, p9'⟩
      | true =>
       simp only [ah] at p9' ⊢
       rw [Res.bind_assoc] at p9'
       refine ⟨I9, F9, upd G q (.lst us6), s8, w9, rel9, rs8.ext e9, (still hG (a6.j8 p9')).mono fun Ia Fa Ha ya wa _ ea rela pa ua rua => ?_⟩
       have pa' := pa.2 Ha (iR rela hG)
       split at pa'
       ·rename_i hz
        have eee : Ext I6 F6 Ia Fa := ((e7.trans e8).trans e9).trans ea
        exact ⟨us6, rela.gz _ _ upd_same, by rw [← rx6.length]; exact hz, Ia, Fa, wa, xs6 ++ [ya], us6 ++ [ua], e6.trans eee, rela.ID, (RepL.ext eee _ _ rx6).append (RepL.cons rua (by simp [RepL])), pa'⟩
       ·exact pa'.elim
     ·exact p6.elim
    ·have hl : j = it1.xs.length := by omega
     subst hl
     rw [List.drop_length] at p6
     unfold S8 at p6
     split at p6
     ·rename_i hw1
      exact .inl ⟨(hJ1 I6 F6 _ w6 H6 _ e6 rel6 hw1).2 rfl, I6, F6, w6, xs6, us6, (e'.trans ee).trans e6, rel6, rx6, p6⟩
     ·exact p6.elim
  ·exact p'.elim
 ·have hl : i = it.xs.length := by omega
  subst hl
  rw [List.drop_length] at p'
  unfold uG at p'
  split at p'
  ·rename_i hw
   exact .inl ⟨(hJ I' F' _ w' H' _ e' rel' hw).2 rfl, fin I' F' G w' H' q xs us rel' hG rx p'⟩
  ·exact p'.elim
section
variable {S : aX} {pos : Pos} {elt tg iter tg1 iter1 : Expr} {ifs ifs1 : List Expr} {scope : Scope} {own : List (Str × Nat)} {vs1 : List Nat} {mi mi1 : MI} {g g1 : MG} {t t1 : MT} {me : ME}
theorem P1 (hi : JI S tg iter mi) (hb : blkC S.N S.sc scope own = true) (hg : JC (S.blk scope) (own.map (·.2)) tg g) (ht : XO (S.blk scope) ifs t) (ZV : JI (S.blk scope) tg1 iter1 mi1) (hg1 : JC (S.blk scope) vs1 tg1 g1) (ht1 : XO (S.blk scope) ifs1 t1) (he : JE (S.blk scope) elt me)
  (hv : ∀ i ∈ vs1, i ∈ own.map (·.2) := by decide) (hs : ∀ (env : Env) x, foldedSetIterable iter env x = pure x := by intro _ _; rfl) (hs1 : ∀ (env : Env) x, foldedSetIterable iter1 env x = pure x := by intro _ _; rfl) :
  JE S (.ListComp elt [⟨tg, iter, ifs, 0⟩, ⟨tg1, iter1, ifs1, 0⟩] scope pos) (yJ mi (own.map (·.2)) g t mi1 vs1 g1 t1 me) := fun X E cx xo =>
 cE (pe_lc2 (own := own) (vs1 := vs1) cx.calm cx.nd (hi X E cx xo) (blkOk_by (by rw [cx.N, cx.sc]; exact hb)) hv (fun s H C cl fp => hg _ E0 (gO cx s H scope C cl fp) (gS ..)) (fun s H C cl fp => ht _ E0 (gO cx s H scope C cl fp) (gS ..))
  (fun s H C cl fp => ZV _ E0 (gO cx s H scope C cl fp) (gS ..)) (fun s H C cl fp => hg1 _ E0 (gO cx s H scope C cl fp) (gS ..)) (fun s H C cl fp => ht1 _ E0 (gO cx s H scope C cl fp) (gS ..))
  (fun s H C cl fp => he _ E0 (gO cx s H scope C cl fp) (gS ..)) (hs X.env) hs1) fun σ H Q h => NZ h CM
end
structure KTab (K : PySem.W.Frag) (w : World) (d : Addr) (tab : List (Str × Option D)) : Prop where
 ex : ∃ es n, KDict K w d es n
 hit : ∀ z x, tab.lookup z = some (some x) → ∃ u v, PySem.W.nsIn K d z = some (some u) ∧ RelV v u ∧ ∀ I F, aJ K I F x v
 miss : ∀ z, tab.lookup z = some none → PySem.W.nsIn K d z = some none
def NN (d : Addr) (tab : List (Str × Option D)) (x y : D) (w : W) : Res D := match x, y with
 | .str z, .con a => if a = d then (match tab.lookup z with
  | some o => .ok (.bl o.isSome) w
  | none => .bad) else .bad
 | _, _ => .bad
def KL (d : Addr) (tab : List (Str × Option D)) (x y : D) (w : W) : Res D := match x, y with
 | .con a, .str z => if a = d then (match tab.lookup z with
  | some (some v) => .ok v w
  | _ => .bad) else .bad
 | _, _ => .bad
theorem X5 {S : aX} {d : Addr} {tab : List (Str × Option D)} (T : KTab S.K S.w d tab) : O2 S (compareOp .In) (NN d tab) := gP fun X E c xo I F G a b w H x y Q rel rd re p => by
 unfold NN at p
 split at p
 ·rename_i z a'
  simp only [aJ] at rd re
  subst rd re
  split at p
  ·rename_i hd
   subst hd
   obtain ⟨es, n, T1⟩ := T.ex
   rw [← c.K, ← c.w] at T1
   cases h : tab.lookup z with
   | none => rw [h] at p; exact p.elim
   | some o =>
    rw [h] at p
    cases o with
    | none => exact ⟨_, op_in_kd T1, z, none, rfl, rfl, by rw [c.K]; exact T.miss z h, p.n8 rel (by simp [aJ])⟩
    | some v =>
     obtain ⟨u, v', h1, h2, h3⟩ := T.hit z v h
     exact ⟨_, op_in_kd T1, z, some u, rfl, rfl, by rw [c.K]; exact h1, p.n8 rel (by simp [aJ])⟩
  ·exact p.elim
 ·exact p.elim
theorem XM {S : aX} {d : Addr} {tab : List (Str × Option D)} (T : KTab S.K S.w d tab) : SN S (KL d tab) := GR fun X E c xo I F G a b w H x y Q rel rd re p => by
 unfold KL at p
 split at p
 ·rename_i a' z
  simp only [aJ] at rd re
  subst rd re
  split at p
  ·rename_i hd
   subst hd
   obtain ⟨es, n, T1⟩ := T.ex
   rw [← c.K, ← c.w] at T1
   cases h : tab.lookup z with
   | none => rw [h] at p; exact p.elim
   | some o =>
    cases o with
    | none => rw [h] at p; exact p.elim
    | some v =>
    rw [h] at p
    obtain ⟨u, v', h1, h2, h3⟩ := T.hit z v h
    exact ⟨_, ix_kdict, a', z, v', rfl, rfl, ⟨es, n, u, T1.at_, T1.lit, by rw [c.K]; exact h1, h2⟩, p.n8 rel (by rw [c.K]; exact h3 _ _)⟩
  ·exact p.elim
 ·exact p.elim
theorem ZI {S : aX} {d : Addr} {tab : List (Str × Option D)} {a b : Expr} {ma mb : ME} {pos : Pos} (T : KTab S.K S.w d tab) (ha : JE S a ma) (hb : JE S b mb) (hs : PlainIx b := by intro _ _; rfl) : JE S (.Subscript a b pos) (aE (KL d tab) ma mb) := fun X E c xo =>
 cE (pe_ix (XM T X E c xo) (ha X E c xo) (hb X E c xo) hs) fun _ _ _ h => tY h
open RZ (nextOf_tuple_item nextOf_tuple_end zipTH1 zipTH2 zipTH3 zipTH4)
abbrev oG (h : Heap) (z TI TO : Addr) (f0 : Value) : Prop :=
 h.get? z = some { cls := .type "zip", dict := none, data := .fields #[f0, .bool false, .bool true, .ref TI, .ref TO], slots := #[] }
abbrev S7 (h : Heap) (l1 l2 : Addr) : Heap := (zipTH4 h l1 l2).push { cls := .type "zip", data := .fields #[.none, .bool false, .bool true, .ref (zipTH2 h l1 l2).objs.size, .ref (zipTH3 h l1 l2).objs.size] }
theorem HI (a b c : Value) : checkTypeCall "zip" ⟨[a, b], [(Str.ofString "strict", c)]⟩ = pure () := by kernel_rfl
theorem KD (a b c : Value) : checkBuiltinCall "zip.__new__" ⟨[.type "zip", a, b], [(Str.ofString "strict", c)]⟩ = pure () := by kernel_rfl
theorem TM (x a b c : Value) : argsOk "object.__init__" ⟨[x, a, b], [(Str.ofString "strict", c)]⟩ := by unfold argsOk; kernel_rfl
theorem ZO (l1 l2 : Addr) (xs ys : Array Value) : Meets (Builtin.«zip.__new__» ⟨[.type "zip", .ref l1, .ref l2], [(Str.ofString "strict", .bool true)]⟩) (fun _ R s => s.heap.IsTuple l1 xs ∧ s.heap.IsTuple l2 ys ∧
   R (.ok (.ret (.ref (zipTH4 s.heap l1 l2).objs.size))) { s with heap := S7 s.heap l1 l2 }) :=
 .of_wp fun prog w A R s ⟨t1, t2, fin⟩ => by
  obtain ⟨hp, gs, dr, tk, os⟩ := s
  have sub0 := sub_zip
  have T1 : Heap.IsTuple (Shared.heap ⟨hp, gs, dr, tk, os⟩) l1 xs := t1
  have T2 : Heap.IsTuple (Shared.heap ⟨hp.push { cls := .type "tuple_iterator", data := .fields #[.ref l1, .int 0 0] }, gs, dr, tk, os⟩) l2 ys := Heap.IsTuple.push t2 _
  have s1 : (Str.ofString "strict" == ("strict" : Str)) = true := by decide +kernel
  have s2 : (Str.ofString "strict" != ("strict" : Str)) = false := by decide +kernel
  wp_walk using wpAny_pyIter_tuple T1, wpAny_pyIter_tuple T2
  exact ⟨_, rfl, fin⟩
open RZ (nextOf_tuple_item nextOf_tuple_end zipTH1 zipTH2 zipTH3 zipTH4)
section
variable {prog : Program} {w : World} {A : Around} {E : Value → Shared → Prop} {s : Shared}
theorem VQ {l1 l2 : Addr} {xs ys : Array Value} {Q : Value → Shared → Prop} (t1 : s.heap.IsTuple l1 xs) (t2 : s.heap.IsTuple l2 ys)
  (fin : ∀ g, oG g (s.heap.objs.size + 4) (s.heap.objs.size + 2) (s.heap.objs.size + 3) .none → IsPair g (s.heap.objs.size + 2) (.ref s.heap.objs.size) (.ref (s.heap.objs.size + 1)) → IsPair g (s.heap.objs.size + 3) .none .none →
   g.IsTupleIter s.heap.objs.size l1 0 → g.IsTupleIter (s.heap.objs.size + 1) l2 0 → (∀ c o, s.heap.get? c = some o → g.get? c = some o) → Q (.ref (s.heap.objs.size + 4)) { s with heap := g }) :
  wpAny (model prog w) A (call (.type "zip") [.ref l1, .ref l2] [(Str.ofString "strict", .bool true)]) Q E s := by
 refine callType_newKw F.called_zip (by decide) (HI _ _ _) (KD _ _ _) (fun x => TM x _ _ _) F.entry_zip_new (ZO l1 l2 xs ys) ⟨t1, t2, ?_⟩
 have n1 : (zipTH1 s.heap l1).objs.size = s.heap.objs.size + 1 := Heap.size_push ..
 have n2 : (zipTH2 s.heap l1 l2).objs.size = s.heap.objs.size + 2 := by rw [Heap.size_push, n1]
 have n3 : (zipTH3 s.heap l1 l2).objs.size = s.heap.objs.size + 3 := by rw [Heap.size_push, n2]
 have n4 : (zipTH4 s.heap l1 l2).objs.size = s.heap.objs.size + 4 := by rw [Heap.size_push, n3]
 have up1 : ∀ {c o}, (zipTH4 s.heap l1 l2).get? c = some o → (S7 s.heap l1 l2).get? c = some o := fun h => Heap.get?_push_of_some _ h
 have up2 : ∀ {c o}, (zipTH3 s.heap l1 l2).get? c = some o → (S7 s.heap l1 l2).get? c = some o := fun h => up1 (Heap.get?_push_of_some _ h)
 have up3 : ∀ {c o}, (zipTH2 s.heap l1 l2).get? c = some o → (S7 s.heap l1 l2).get? c = some o := fun h => up2 (Heap.get?_push_of_some _ h)
 have up4 : ∀ {c o}, (zipTH1 s.heap l1).get? c = some o → (S7 s.heap l1 l2).get? c = some o := fun h => up3 (Heap.get?_push_of_some _ h)
 have k5 : (S7 s.heap l1 l2).get? (zipTH4 s.heap l1 l2).objs.size = some _ := Heap.get?_push_size _ rfl
 have k4 : (S7 s.heap l1 l2).get? (zipTH3 s.heap l1 l2).objs.size = some _ := up1 (Heap.get?_push_size _ rfl)
 have k3 : (S7 s.heap l1 l2).get? (zipTH2 s.heap l1 l2).objs.size = some _ := up2 (Heap.get?_push_size _ rfl)
 have k2 : (S7 s.heap l1 l2).get? (zipTH1 s.heap l1).objs.size = some _ := up3 (Heap.get?_push_size _ rfl)
 have k1 : (S7 s.heap l1 l2).get? s.heap.objs.size = some _ := up4 (Heap.get?_push_size _ rfl)
 show _ ∧ _
 rw [n2, n3, n4] at k5
 rw [n1, n2] at k3
 rw [n3] at k4
 rw [n1] at k2
 rw [n4]
 exact ⟨⟨_, k5, rfl⟩, fin _ k5 k3 k4 ⟨_, k1, rfl, rfl⟩ ⟨_, k2, rfl, rfl⟩ fun c o h => up4 (Heap.get?_push_of_some _ h)⟩
theorem EG {it l : Addr} {i : Nat} {items : Array Value} {x : Value} {Q : Option Value → Shared → Prop} (a : s.heap.IsTupleIter it l i) (b : s.heap.IsTuple l items) (c : items[i]? = some x)
  (q : ∀ g, g.IsTupleIter it l (i + 1) → Heap.SameBut it s.heap g → Q (some x) { s with heap := g }) : wpAny (model prog w) A (Builtin.SmallTypes.nextOrEnd (.ref it)) Q E s := by
 unfold Builtin.SmallTypes.nextOrEnd
 exact wpAny_bind (wpAny_attempt (nextOf_tuple_item a b c fun g g1 g2 => wpAny_pure (q g g1 g2)))
theorem LJ {it l : Addr} {i : Nat} {items : Array Value} {Q : Option Value → Shared → Prop} (hh : A.handled = none) (a : s.heap.IsTupleIter it l i) (b : s.heap.IsTuple l items) (c : items[i]? = none)
  (q : ∀ g, Heap.ExtBut it s.heap g → Q none { s with heap := g }) : wpAny (model prog w) A (Builtin.SmallTypes.nextOrEnd (.ref it)) Q E s := by
 unfold Builtin.SmallTypes.nextOrEnd
 refine wpAny_bind (wpAny_attempt (nextOf_tuple_end hh a b c fun g e g1 ⟨o, g2, g3⟩ => ?_))
 refine wpAny_bind (wpAny_isInstance (T := "StopIteration") (b := true) ⟨o, g2, g3⟩ isSubtype_stop ?_)
 exact wpAny_pure (q g g1)
theorem zP {T : Addr} {a b x : Value} {k : Nat} {Q : Unit → Shared → Prop} (h : IsPair s.heap T a b) (q : ∀ g, g.get? T = some { cls := .type "tuple", data := .seq ((#[a, b] : Array Value).setIfInBounds k x) } → Heap.SameBut T s.heap g → Q () { s with heap := g }) :
  wpAny (model prog w) A (updateSeq T (·.setIfInBounds k x)) Q E s := wpAny_updateSeq_pair h q
theorem UW {z TI TO i1 i2 l1 l2 : Addr} {k : Nat} {xs ys : Array Value} {x y a b : Value} {Q : Value → Shared → Prop} (D : ZipApart z TI TO i1 i2 l1 l2)
  (hz : oG s.heap z TI TO .none) (hI : IsPair s.heap TI (.ref i1) (.ref i2)) (hO : IsPair s.heap TO a b) (a1 : s.heap.IsTupleIter i1 l1 k) (a2 : s.heap.IsTupleIter i2 l2 k) (b1 : s.heap.IsTuple l1 xs) (b2 : s.heap.IsTuple l2 ys) (c1 : xs[k]? = some x) (c2 : ys[k]? = some y)
  (fin : ∀ g, oG g z TI TO (rawInt s.heap.objs.size) → IsPair g TO x y → g.IsTupleIter i1 l1 (k + 1) → g.IsTupleIter i2 l2 (k + 1) → IsPair g s.heap.objs.size x y → (∀ c o, c ≠ z → c ≠ TO → c ≠ i1 → c ≠ i2 → s.heap.get? c = some o → g.get? c = some o) → Q (.ref s.heap.objs.size) { s with heap := g }) :
  wpAny (model prog w) A (Builtin.«zip.__next__» ⟨[.ref z], []⟩) (fun f t => ∃ v, f = .done (.ret v) ∧ Q v t) E s := by
 show wpAny _ _ (field (.ref z) 2 >>= _) _ _ _
 refine wpAny_bind (wpAny_field hz rfl (x := .bool true) rfl ?_)
 show wpAny _ _ (field (.ref z) 3 >>= _) _ _ _
 refine wpAny_bind (wpAny_field hz rfl (x := .ref TI) rfl ?_)
 refine wpAny_bind (wpAny_seqItems hI rfl ?_)
 show wpAny _ _ (Builtin.SmallTypes.ownedTupleIsFree (.ref z) >>= _) _ _ _
 refine wpAny_bind ?_
 unfold Builtin.SmallTypes.ownedTupleIsFree
 refine wpAny_bind (wpAny_field hz rfl (x := .none) rfl (wpAny_pure ?_))
 simp only [ah]
 refine wpAny_bind (wpAny_rule ?_)
 refine wpAny_bind (wpAny_field hz rfl (x := .ref TO) rfl ?_)
 refine wpAny_bind (wpAny_setField_rec hz (by simp) fun g1 z1 s1 => ?_)
 have z1' : oG g1 z TI TO .ellipsis := z1
 refine wpAny_bind ?_
 simp only [List.zipIdx_cons, List.zipIdx_nil, List.forIn_cons, List.forIn_nil]
 refine wpAny_bind (wpAny_bind (wpAny_onRaise ?_))
 show wpAny _ _ (Builtin.SmallTypes.nextOrEnd (.ref i1)) _ _ _
 refine EG (a1.extBut s1.extBut D.i1z) (b1.extBut s1.extBut D.l1z) c1 fun g2 d1 s2 => ?_
 have O2 : IsPair g2 TO a b := s2.extBut _ _ D.TOi1 (s1.extBut _ _ D.TOz hO)
 refine wpAny_bind (wpAny_seqItems O2 rfl ?_)
 refine wpAny_bind (zP O2 fun g3 O3 s3 => ?_)
 have O3' : IsPair g3 TO x b := O3
 refine wpAny_bind (wpAny_letGo (wpAny_pure ?_))
 refine wpAny_bind (wpAny_bind (wpAny_onRaise ?_))
 show wpAny _ _ (Builtin.SmallTypes.nextOrEnd (.ref i2)) _ _ _
 refine EG (((a2.extBut s1.extBut D.i2z).extBut s2.extBut D.i12.symm).extBut s3.extBut D.TOi2.symm) (((b2.extBut s1.extBut D.l2z).extBut s2.extBut D.l2i1).extBut s3.extBut D.l2TO) c2 fun g4 d2 s4 => ?_
 have O4 : IsPair g4 TO x b := s4.extBut _ _ D.TOi2 O3'
 refine wpAny_bind (wpAny_seqItems O4 rfl ?_)
 refine wpAny_bind (zP O4 fun g5 O5 s5 => ?_)
 have O5' : IsPair g5 TO x y := O5
 refine wpAny_bind (wpAny_letGo (wpAny_pure (wpAny_pure ?_)))
 refine wpAny_bind (wpAny_seqItems O5' rfl ?_)
 refine wpAny_bind (wpAny_newTuple ?_)
 have size5 : g5.objs.size = s.heap.objs.size := by rw [s5.1, s4.1, s3.1, s2.1, s1.1]
 have z5 : oG g5 z TI TO .ellipsis := s5.extBut _ _ D.TOz.symm (s4.extBut _ _ D.i2z.symm (s3.extBut _ _ D.TOz.symm (s2.extBut _ _ D.i1z.symm z1')))
 have kp : ∀ c o, c ≠ z → c ≠ TO → c ≠ i1 → c ≠ i2 → s.heap.get? c = some o → g5.get? c = some o := fun c o n1 n2 n3 n4 e =>
  s5.extBut _ _ n2 (s4.extBut _ _ n4 (s3.extBut _ _ n2 (s2.extBut _ _ n3 (s1.extBut _ _ n1 e))))
 have d1' : g5.IsTupleIter i1 l1 (k + 1) := ((d1.extBut s3.extBut D.TOi1.symm).extBut s4.extBut D.i12).extBut s5.extBut D.TOi1.symm
 have d2' : g5.IsTupleIter i2 l2 (k + 1) := d2.extBut s5.extBut D.TOi2.symm
 have zl : z < g5.objs.size := Heap.lt_size z5
 show wpAny _ _ (Builtin.SmallTypes.ownedTupleHandOut (.ref z) (.ref g5.objs.size) >>= _) _ _ _
 refine wpAny_bind ?_
 unfold Builtin.SmallTypes.ownedTupleHandOut
 have z6 : oG (g5.push { cls := .type "tuple", data := .seq #[x, y] }) z TI TO .ellipsis := Heap.get?_push_of_some _ z5
 refine wpAny_bind (wpAny_setField_rec z6 (by simp) fun g7 z7 s7 => ?_)
 have z7' : oG g7 z TI TO (rawInt g5.objs.size) := z7
 refine wpAny_setField_rec z7' (by simp) fun g8 z8 s8 => ?_
 have z8' : oG g8 z TI TO (rawInt g5.objs.size) := z8
 have up : ∀ c o, c ≠ z → g5.get? c = some o → g8.get? c = some o := fun c o n e => s8.extBut _ _ n (s7.extBut _ _ n (Heap.get?_push_of_some _ e))
 have T8 : IsPair g8 g5.objs.size x y := s8.extBut _ _ (Nat.ne_of_gt zl) (s7.extBut _ _ (Nat.ne_of_gt zl) (Heap.get?_push_size _ rfl))
 rw [size5] at z8' T8
 refine wpAny_pure ⟨_, rfl, ?_⟩
 show Q (.ref g5.objs.size) _
 rw [size5]
 exact fin g8 z8' (up _ _ D.TOz O5') (d1'.at fun o e => up _ o D.i1z e) (d2'.at fun o e => up _ o D.i2z e) T8 fun c o n1 n2 n3 n4 e => up c o n1 (kp c o n1 n2 n3 n4 e)
theorem YV {z TI TO i1 i2 l1 l2 : Addr} {k : Nat} {xs ys : Array Value} {a b : Value} {Q : Fin → Shared → Prop} (hh : A.handled = none) (D : ZipApart z TI TO i1 i2 l1 l2)
  (hz : oG s.heap z TI TO .none) (hI : IsPair s.heap TI (.ref i1) (.ref i2)) (hO : IsPair s.heap TO a b) (a1 : s.heap.IsTupleIter i1 l1 k) (a2 : s.heap.IsTupleIter i2 l2 k) (b1 : s.heap.IsTuple l1 xs) (b2 : s.heap.IsTuple l2 ys) (c1 : xs[k]? = none) (c2 : ys[k]? = none)
  (fin : ∀ g e, (∀ c o, c ≠ z → c ≠ TO → c ≠ i1 → c ≠ i2 → s.heap.get? c = some o → g.get? c = some o) → (∃ o, g.get? e = some o ∧ o.cls = .type "StopIteration") → E (.ref e) { s with heap := g }) :
  wpAny (model prog w) A (Builtin.«zip.__next__» ⟨[.ref z], []⟩) Q E s := by
 show wpAny _ _ (field (.ref z) 2 >>= _) _ _ _
 refine wpAny_bind (wpAny_field hz rfl (x := .bool true) rfl ?_)
 show wpAny _ _ (field (.ref z) 3 >>= _) _ _ _
 refine wpAny_bind (wpAny_field hz rfl (x := .ref TI) rfl ?_)
 refine wpAny_bind (wpAny_seqItems hI rfl ?_)
 show wpAny _ _ (Builtin.SmallTypes.ownedTupleIsFree (.ref z) >>= _) _ _ _
 refine wpAny_bind ?_
 unfold Builtin.SmallTypes.ownedTupleIsFree
 refine wpAny_bind (wpAny_field hz rfl (x := .none) rfl (wpAny_pure ?_))
 simp only [ah]
 refine wpAny_bind (wpAny_rule ?_)
 refine wpAny_bind (wpAny_field hz rfl (x := .ref TO) rfl ?_)
 refine wpAny_bind (wpAny_setField_rec hz (by simp) fun g1 z1 s1 => ?_)
 have z1' : oG g1 z TI TO .ellipsis := z1
 refine wpAny_bind ?_
 simp only [List.zipIdx_cons, List.zipIdx_nil, List.forIn_cons, List.forIn_nil]
 refine wpAny_bind (wpAny_bind (wpAny_onRaise ?_))
 show wpAny _ _ (Builtin.SmallTypes.nextOrEnd (.ref i1)) _ _ _
 refine LJ hh (a1.extBut s1.extBut D.i1z) (b1.extBut s1.extBut D.l1z) c1 fun g2 s2 => ?_
 have z2 : oG g2 z TI TO .ellipsis := s2 _ _ D.i1z.symm z1'
 refine wpAny_bind (wpAny_setField_rec z2 (by simp) fun g3 _ s3 => ?_)
 refine wpAny_bind (wpAny_bind ?_)
 show wpAny _ _ (forIn ((List.drop 1 [Value.ref i1, Value.ref i2]).zipIdx 1) PUnit.unit _) _ _ _
 simp only [List.drop_succ_cons, List.drop_zero, List.zipIdx_cons, List.zipIdx_nil, List.forIn_cons, List.forIn_nil]
 refine wpAny_bind (wpAny_bind (LJ hh (((a2.extBut s1.extBut D.i2z).extBut s2 D.i12.symm).extBut s3.extBut D.i2z) (((b2.extBut s1.extBut D.l2z).extBut s2 D.l2i1).extBut s3.extBut D.l2z) c2 fun g4 s4 => ?_))
 show wpAny _ _ (pure (ForInStep.yield PUnit.unit)) _ _ _
 refine wpAny_pure ?_
 refine wpAny_pure ?_
 refine wpAny_bind (wpAny_rule ?_)
 unfold Builtin.SmallTypes.stopIteration
 refine wpAny_bind ?_
 simp only [newExc, newTuple]
 refine wpAny_bind (wpAny_newObj_type ?_ (by size_fits))
 refine wpAny_bind (m := firstArgMember _ _) (wpAny_of_eq (a := Value.none) (by first | rfl | (simp only [firstArgMember]; rfl)) ?_)
 refine wpAny_newObj_type ?_ (by size_fits)
 simp only [raiseNew]
 refine wpAny_bind (wpAny_handled ?_)
 rw [hh]
 refine wpAny_bind (wpAny_pure (wpAny_throw ?_))
 refine fin _ _ (fun c o n1 _ n3 n4 e => ?_) ⟨_, Heap.get?_push_size _ rfl, rfl⟩
 exact Heap.get?_push_of_some _ (Heap.get?_push_of_some _ (s4 _ _ n4 (s3.extBut _ _ n1 (s2 _ _ n3 (s1.extBut _ _ n1 e)))))
theorem E6 {z TI TO i1 i2 l1 l2 : Addr} {k : Nat} {xs ys : Array Value} {x y a b : Value} {Q : Option Value → Shared → Prop} (D : ZipApart z TI TO i1 i2 l1 l2)
  (hz : oG s.heap z TI TO .none) (hI : IsPair s.heap TI (.ref i1) (.ref i2)) (hO : IsPair s.heap TO a b) (a1 : s.heap.IsTupleIter i1 l1 k) (a2 : s.heap.IsTupleIter i2 l2 k) (b1 : s.heap.IsTuple l1 xs) (b2 : s.heap.IsTuple l2 ys) (c1 : xs[k]? = some x) (c2 : ys[k]? = some y)
  (fin : ∀ g, oG g z TI TO (rawInt s.heap.objs.size) → IsPair g TO x y → g.IsTupleIter i1 l1 (k + 1) → g.IsTupleIter i2 l2 (k + 1) → IsPair g s.heap.objs.size x y → (∀ c o, c ≠ z → c ≠ TO → c ≠ i1 → c ≠ i2 → s.heap.get? c = some o → g.get? c = some o) → Q (some (.ref s.heap.objs.size)) { s with heap := g }) :
  wpAny (model prog w) A (pyNext (.ref z)) Q E s := by
 have ty : s.TypeIs (.ref z) "zip" := ⟨_, hz, rfl⟩
 unfold pyNext
 exact wpAny_bind (wpAny_attempt (wpAny_callSpecial?_slot (name := Str.ofString "__next__") ty F.slot_zip_next (wpAny_call_entry F.slot_zip_next ty F.entry_zip_next (UW D hz hI hO a1 a2 b1 b2 c1 c2 fun g e1 e2 e3 e4 e5 e6 => wpAny_pure (fin g e1 e2 e3 e4 e5 e6)) (F.args_zip_next_1 _))))
theorem IW {z TI TO i1 i2 l1 l2 : Addr} {k : Nat} {xs ys : Array Value} {a b : Value} {Q : Option Value → Shared → Prop} (hh : A.handled = none) (D : ZipApart z TI TO i1 i2 l1 l2)
  (hz : oG s.heap z TI TO .none) (hI : IsPair s.heap TI (.ref i1) (.ref i2)) (hO : IsPair s.heap TO a b) (a1 : s.heap.IsTupleIter i1 l1 k) (a2 : s.heap.IsTupleIter i2 l2 k) (b1 : s.heap.IsTuple l1 xs) (b2 : s.heap.IsTuple l2 ys) (c1 : xs[k]? = none) (c2 : ys[k]? = none)
  (fin : ∀ g, (∀ c o, c ≠ z → c ≠ TO → c ≠ i1 → c ≠ i2 → s.heap.get? c = some o → g.get? c = some o) → Q none { s with heap := g }) : wpAny (model prog w) A (pyNext (.ref z)) Q E s := by
 have ty : s.TypeIs (.ref z) "zip" := ⟨_, hz, rfl⟩
 unfold pyNext
 refine wpAny_bind (wpAny_attempt (wpAny_callSpecial?_slot (name := Str.ofString "__next__") ty F.slot_zip_next (wpAny_call_entry F.slot_zip_next ty F.entry_zip_next (YV hh D hz hI hO a1 a2 b1 b2 c1 c2 fun g e kp he => ?_) (F.args_zip_next_1 _))))
 obtain ⟨o, h1, h2⟩ := he
 refine wpAny_bind (wpAny_isInstance (T := "StopIteration") (b := true) ⟨o, h1, h2⟩ isSubtype_stop ?_)
 exact wpAny_pure (fin _ kp)
theorem LY {z TI TO : Addr} {f0 : Value} {Q : Value → Shared → Prop} (hz : oG s.heap z TI TO f0) (h : Q (.ref z) s) : wpAny (model prog w) A (pyIter (.ref z)) Q E s := by
 have ty : s.TypeIs (.ref z) "zip" := ⟨_, hz, rfl⟩
 refine wpAny_pyIter_slot ty F.slot_zip_iter (wpAny_call_entry F.slot_zip_iter ty F.entry_zip_iter ?_ (F.args_zip_iter_1 _))
 show wpAny _ _ (ret (.ref z)) _ _ s
 exact wpAny_pure ⟨_, rfl, "zip", _, ty, F.slot_zip_next.lookup, h⟩
theorem PQ {elts : List Expr} {x1 : Nat} {pos : Pos} {z TI TO T : Addr} {Q : Unit → Shared → Prop} (hz : oG s.heap z TI TO (rawInt T))
  (fin : ∀ g, oG g z TI TO .none → Heap.SameBut z s.heap g → Q () { s with heap := g }) : wpAny (model prog w) A (letOwnedTupleGo (.Tuple elts x1 pos) (.ref z) (.ref T)) Q E s := by
 unfold letOwnedTupleGo
 refine wpAny_bind (wpAny_load hz ?_)
 show wpAny _ _ (if (["enumerate", "zip", "dict_itemiterator", "dict_reverseitemiterator", "odict_iterator", "itertools.zip_longest", "itertools.pairwise"].contains "zip" &&
   (#[rawInt T, .bool false, .bool true, .ref TI, .ref TO] : Array Value)[0]? == some (rawInt T)) = true then _ else _) Q E s
 rw [if_pos (by simp)]
 refine wpAny_bind (wpAny_rule ?_)
 show wpAny _ _ (setField (.ref z) 0 .none) Q E s
 exact wpAny_setField_rec hz (by simp) fun g h1 h2 => fin g h1 h2
end
def aAj (K : PySem.W.Frag) (a b : Addr) : It :=
 ⟨fun i H => ∃ (xs ys : List V) (x y : V), SqT K H a xs ∧ SqT K H b ys ∧ xs[i]? = some x ∧ ys[i]? = some y,
  fun i H v H' => ∃ T x y, v = .ref T ∧ H T = none ∧ H' = upd H T (.tup [x, y]) ∧ (∀ xs, SqT K H a xs → xs[i]? = some x) ∧ ∀ ys, SqT K H b ys → ys[i]? = some y,
  fun i H => ∃ xs ys : List V, SqT K H a xs ∧ SqT K H b ys ∧ xs.length ≤ i ∧ ys.length ≤ i⟩
theorem UI {P : Program} {w : World} {K : PySem.W.Frag} {elts : List Expr} {kk : Nat} {tpos : Pos} {a b z TI TO i1 i2 : Addr} (D : ZipApart z TI TO i1 i2 a b) :
  Turn P w K (.Tuple elts kk tpos) (aAj K a b) [z, TI, TO, i1, i2] z (fun i h => oG h z TI TO .none ∧ IsPair h TI (.ref i1) (.ref i2) ∧ (∃ x y, IsPair h TO x y) ∧ h.IsTupleIter i1 a i ∧ h.IsTupleIter i2 b i) where
 mem := by simp
 obj := fun i h st c hc => by
  obtain ⟨f1, f2, ⟨x, y, f3⟩, ⟨o1, e1, _, d1⟩, ⟨o2, e2, _, d2⟩⟩ := st
  have cs : c = z ∨ c = TI ∨ c = TO ∨ c = i1 ∨ c = i2 := by simpa using hc
  rcases cs with rfl | rfl | rfl | rfl | rfl
  ·exact ⟨_, f1, fun v q => nomatch q⟩
  ·exact ⟨_, f2, fun v q => nomatch q⟩
  ·exact ⟨_, f3, fun v q => nomatch q⟩
  ·exact ⟨o1, e1, fun v q => by rw [d1] at q; cases q⟩
  ·exact ⟨o2, e2, fun v q => by rw [d2] at q; cases q⟩
 keep := fun i h h' st k => by
  obtain ⟨f1, f2, ⟨x, y, f3⟩, f4, f5⟩ := st
  exact ⟨k z (by simp) _ f1, k TI (by simp) _ f2, ⟨x, y, k TO (by simp) _ f3⟩, f4.at fun o q => k i1 (by simp) o q, f5.at fun o q => k i2 (by simp) o q⟩
 item := by
  intro X hP hw hK hc i pins s σ H E I fp st go
  subst hP hw hK
  obtain ⟨f1, f2, ⟨x0, y0, f3⟩, f4, f5⟩ := st
  obtain ⟨xs, ys, x, y, qx, qy, gx, gy⟩ := go
  obtain ⟨us, rv, p, _⟩ := I.tuple qx
  obtain ⟨us2, rv2, p2, _⟩ := I.tuple qy
  obtain ⟨u, hu, ru⟩ := rv.get gx
  obtain ⟨u2, hu2, ru2⟩ := rv2.get gy
  have zl : z < s.heap.objs.size := Heap.lt_size f1
  refine E6 D f1 f2 f3 f4 f5 p p2 (x := u) (y := u2) (by simpa using hu) (by simpa using hu2) fun g z' TO' h1' h2' hT hk => ?_
  refine ⟨_, rfl, PQ (s := { s with heap := g }) z' fun g2 z'' sb => ?_⟩
  have hT2 : g2.get? s.heap.objs.size = some { cls := .type "tuple", data := .seq #[u, u2] } := (sb.2 _ (Nat.ne_of_gt zl)).trans hT
  have new : ObjOk X.prog X.w (upd H s.heap.objs.size (.tup [x, y])) g2 s.heap.objs.size (.tup [x, y]) := ⟨by show 2 ≤ sizeLine; decide, [u, u2], .cons ru (.cons ru2 .nil), ⟨_, hT2, rfl, _, rfl⟩⟩
  have I1 : Inv X pins σ (upd H s.heap.objs.size (.tup [x, y])) { s with heap := g2 } :=
   I.turnedNew (t' := s.toks) (ch := [z, TI, TO, i1, i2]) (fun c o hb q => by
    simp only [br, bx, or_false, not_or] at hb
    exact (sb.2 c hb.1).trans (hk c o hb.1 hb.2.2.1 hb.2.2.2.1 hb.2.2.2.2 q)) fp (bp _) new
  refine ⟨.ref s.heap.objs.size, _, I1, rfl, ⟨_, x, y, rfl, I.hok.fresh (bp _), rfl, fun l hl => by rw [I.tuple_inj hl qx]; exact gx, fun l hl => by rw [I.tuple_inj hl qy]; exact gy⟩, ⟨z'', ?_, ⟨u, u2, ?_⟩, ?_, ?_⟩, fun c hcm => ?_⟩
  ·exact (sb.2 _ D.TIz).trans (hk _ _ D.TIz D.TITO D.TIi1 D.TIi2 f2)
  ·exact (sb.2 _ D.TOz).trans TO'
  ·exact h1'.at fun o q => (sb.2 _ D.i1z).trans q
  ·exact h2'.at fun o q => (sb.2 _ D.i2z).trans q
  ·have hlt : c < s.heap.objs.size := by
    have cs : c = z ∨ c = TI ∨ c = TO ∨ c = i1 ∨ c = i2 := by simpa using hcm
    rcases cs with rfl | rfl | rfl | rfl | rfl
    ·exact zl
    ·exact Heap.lt_size f2
    ·exact Heap.lt_size f3
    ·obtain ⟨_, e1, _⟩ := f4; exact Heap.lt_size e1
    ·obtain ⟨_, e2, _⟩ := f5; exact Heap.lt_size e2
   rw [upd_ne (Nat.ne_of_lt hlt)]
   exact (fp c hcm).1
 done := by
  intro X hP hw hK hc i pins s σ H E I fp st go
  subst hP hw hK
  obtain ⟨f1, f2, ⟨x0, y0, f3⟩, f4, f5⟩ := st
  obtain ⟨xs, ys, qx, qy, e1, e2⟩ := go
  obtain ⟨us, rv, p, _⟩ := I.tuple qx
  obtain ⟨us2, rv2, p2, _⟩ := I.tuple qy
  have l1 := rv.length
  have l2 := rv2.length
  refine IW (I.ok.hd hc) D f1 f2 f3 f4 f5 p p2 (by simp; omega) (by simp; omega) fun g hk => ⟨rfl, I.turnedL (t' := s.toks) (ch := [z, TI, TO, i1, i2]) (fun c o hb q => ?_) fp⟩
  simp only [br, bx, or_false, not_or] at hb
  exact hk c o hb.1 hb.2.2.1 hb.2.2.2.1 hb.2.2.2.2 q
 self := fun A i s Q E st h => LY st.1 h
section
variable {M : Model} {A : Around} {E : Value → Shared → Prop} {s : Shared} {env : Env}
theorem A3 {pos : Pos} {T : String} {first : List Value} {args : List (Bool × Sem Value)} {kws : List (Option Str × Sem Value)} {Q : Value → Shared → Prop} (p1 : args.any (·.1) = false) (p2 : kws.any (·.1.isNone) = false)
  (h : wpAny M A (evalArgs (.type T) true args kws) (fun a t => wpAny M A (call (.type T) (first ++ a.pos) a.kw) Q E t) E s) : wpAny M A (callWith pos (.type T) first args kws) Q E s := by
 unfold callWith
 refine wpAny_bind (wpAny_holding (wpAny_mono h (fun a t g => wpAny_bind (wpAny_standAt ?_)) fun _ _ z => z))
 simp only [p1, p2, Bool.or_false]
 refine wpAny_bind (wpAny_pure ?_)
 exact wpAny_bind (wpAny_mono g (fun r t2 hr => wpAny_bind (wpAny_holding (wpAny_point (wpAny_pure hr)))) fun _ _ z => z)
end
section
variable {X : Cx} {e e2 : Expr} {ta : TA} {p pos tpos cp kp : Pos} {elts : List Expr} {kk k : Nat}
def iZs (K : PySem.W.Frag) (ta : TA) : TI := fun σ H R => ta σ H fun vs H1 => ∃ a b xs ys, vs = [V.ref a, V.ref b] ∧ SqT K H1 a xs ∧ SqT K H1 b ys ∧ R (aAj K a b) H1
theorem ZZ (hg : Gl X "zip") (hm : X.mg "zip" = none) (ha : PA X [e, e2] ta) (hs : starEach [e, e2] X.env = (false, eval e X.env) :: starEach [e2] X.env := by rfl) (hpl : (backTo pos (starEach [e, e2] X.env)).any (·.1) = false := by rfl)
  (hk1 : (backToKw pos (keywordEach [⟨some "strict", .Constant (.bool true) k cp, kp⟩] X.env)).any (·.1.isNone) = false := by rfl) (hk2 : (backToKw pos (keywordEach [⟨some "strict", .Constant (.bool true) k cp, kp⟩] X.env)).all (·.1.isSome) = true := by rfl)
  (hk3 : (backToKw pos (keywordEach [⟨some "strict", .Constant (.bool true) k cp, kp⟩] X.env)).filterMap (·.1) = [Str.ofString "strict"] := by rfl) :
  PI X (.Tuple elts kk tpos) (.Call (.Name "zip" p) [e, e2] [⟨some "strict", .Constant (.bool true) k cp, kp⟩] pos) (iZs X.K ta) := by
 refine ⟨fun pins s σ H R I h => ?_⟩
 refine wpAny_Call_Name_kw (ld_blt I hg hm PyProof.Rows.boot_zip (A3 hpl hk1 ?_))
 have hA := ha.run pos pins s σ H _ I h
 rw [hs] at hA ⊢
 refine evalArgs_kwB hk2 (thn hA fun us s1 ⟨vs, H1, I1, r1, a, b, xs, ys, ex, qx, qy, q⟩ => ?_)
 subst ex
 rw [hk3]
 refine thn ((pk_cons (nm := some "strict") (kpos := kp) (pe_bl (b := true) (j := k) (pos := cp)) pk_nil).run pos pins s1 σ H1 (fun zs H2 => zs = [V.bl true] ∧ H2 = H1) I1 ⟨rfl, rfl⟩) fun ws s2 ⟨zs, H2, I2, rz, ez, eH⟩ => ?_
 subst ez eH
 obtain ⟨w1, rfl, rw1⟩ := rz.one
 cases rw1
 obtain ⟨u1, u2, rfl, ra, rb⟩ := r1.two
 cases ra
 cases rb
 obtain ⟨us1, rv, p1, _⟩ := I2.tuple qx
 obtain ⟨us2, rv2, p2, _⟩ := I2.tuple qy
 obtain ⟨o1, ho1, _⟩ := id p1
 obtain ⟨o2, ho2, _⟩ := id p2
 refine VQ (show s2.heap.IsTuple a us1.toArray from p1) (show s2.heap.IsTuple b us2.toArray from p2) fun g hz hI hO h1 h2 hk => LY hz ?_
 have I3 : Inv X pins σ H2 { s2 with heap := g } := I2.kept (t' := s2.toks) hk
 refine ⟨s2.heap.objs.size + 4, [s2.heap.objs.size + 4, s2.heap.objs.size + 2, s2.heap.objs.size + 3, s2.heap.objs.size, s2.heap.objs.size + 1], _, _, H2, rfl, I3, UI (PySem.W.ktu_apart s2.heap.objs.size a b (Heap.lt_size ho1) (Heap.lt_size ho2)), ⟨hz, hI, ⟨_, _, hO⟩, h1, h2⟩, fun c hc => ?_, q⟩
 have le : s2.heap.objs.size ≤ c := by
  simp only [br, bx, or_false] at hc
  rcases hc with rfl | rfl | rfl | rfl | rfl <;> omega
 exact I2.fpOk le (I2.hok.fresh le)
end
def W2 (ds : List D) (w : W) : Res jN := match ds with
 | [x, y] => (match wJ x, wJ y with
  | some xs, some ys => if xs.length = ys.length then .ok ⟨(xs.zip ys).map fun p => .tup [p.1, p.2], always⟩ w else .bad
  | _, _ => .bad)
 | _ => .bad
theorem G3 {K : PySem.W.Frag} {I : List Addr} {F : Hp} {d : D} {v : V} {xs : List D} (h : aJ K I F d v) (e : wJ d = some xs) : ∃ a vs, v = .ref a ∧ SqT K F a vs ∧ RepL K I F xs vs := by
 cases d <;> simp only [wJ, aj, reduceCtorEq] at e <;> simp only [aJ] at h
 case tup => subst e; obtain ⟨a, vs, h0, h1, h2⟩ := h; exact ⟨a, vs, h0, .of h1, h2⟩
 case kK => subst e; obtain ⟨a, vs, h0, h1, h2⟩ := h; exact ⟨a, vs, h0, h1, h2⟩
theorem aAr {S : aX} {e e2 : Expr} {ma : MA} {p pos tpos cp kp : Pos} {elts : List Expr} {kk k : Nat} (hg : S.sc.names.lookup ("zip" : Str) = some .globalImplicit) (hm : S.mg "zip" = none) (ha : JA S [e, e2] ma)
  (hs : ∀ env : Env, starEach [e, e2] env = (false, eval e env) :: starEach [e2] env := by intro _; rfl) (hpl : ∀ env : Env, (backTo pos (starEach [e, e2] env)).any (·.1) = false := by intro _; rfl) :
  JI S (.Tuple elts kk tpos) (.Call (.Name "zip" p) [e, e2] [⟨some "strict", .Constant (.bool true) k cp, kp⟩] pos) (dP W2 ma) := fun X E cx xo =>
 qP (ZZ (by show X.env.scope.names.lookup _ = _; rw [cx.sc]; exact hg) (by rw [cx.mg]; exact hm) (ha X E cx xo) (hs X.env) (hpl X.env)) fun σ H R ⟨I, F, G, ds, w, rel, rs, p⟩ => eA (f := fun _ => W2) rel rs p fun I1 F1 H1 xs w1 vs e1 rel1 rs1 rv p1 => by
  unfold W2 at p1
  split at p1
  ·rename_i x y
   obtain ⟨v, u, rfl, rx, ry⟩ := rv.two
   split at p1
   ·rename_i xs ys hx hy
    split at p1
    ·rename_i hl
     obtain ⟨a, us, rfl, q1, q2⟩ := G3 rx hx
     obtain ⟨b, ts, rfl, q3, q4⟩ := G3 ry hy
     refine ⟨a, b, us, ts, rfl, rel1.KA q1, rel1.KA q3, p1 I1 F1 H1 .refl rel1 trivial _ fun I' F' G' w' H' j e' rel' _ => ?_⟩
     have t1 := rel'.KA (xG e' q1)
     have t2 := rel'.KA (xG e' q3)
     have r1 := RepL.ext e' _ _ q2
     have r2 := RepL.ext e' _ _ q4
     have l1 : xs.length = us.length := r1.length
     have l2 : ys.length = ts.length := r2.length
     refine ⟨fun x hx => ?_, fun hj => ⟨us, ts, t1, t2, ?_, ?_⟩⟩
     ·rw [bw] at hx
      cases hz : (xs.zip ys)[j]? with
      | none => rw [hz] at hx; cases hx
      | some pr =>
       rw [hz] at hx
       cases hx
       obtain ⟨pa, pb⟩ := pr
       rw [List.getElem?_zip_eq_some] at hz
       obtain ⟨v1, g1, g2⟩ := r1.get hz.1
       obtain ⟨v2, g3, g4⟩ := r2.get hz.2
       refine ⟨⟨us, ts, v1, v2, t1, t2, g1, g3⟩, fun v H'' y => ?_⟩
       obtain ⟨T, x', y', rfl, k1, rfl, k2, k3⟩ := y
       have z1 := k2 us t1
       have z2 := k3 ts t2
       rw [g1] at z1
       rw [g3] at z2
       cases z1
       cases z2
       exact A5 rel' (RepL.cons g2 (RepL.cons g4 (by simp [RepL]))) k1
     ·simp only [bq, List.length_zip] at hj; omega
     ·simp only [bq, List.length_zip] at hj; omega
    ·exact p1.elim
   ·exact p1.elim
  ·exact p1.elim
def L5 : D → Value → Bool
 | .non, .none => true
 | .bl b, .bool c => b == c
 | .int i, .int j _ => decide (i = j)
 | .str x, .str y _ => decide (x = y)
 | _, _ => false
def wC : D → V
 | .bl b => .bl b
 | .int i => .int i
 | .str x => .str x
 | _ => .non
theorem G4 {d : D} {u : Value} (h : L5 d u = true) : RelV (wC d) u ∧ ∀ K I F, aJ K I F d (wC d) := by
 cases d <;> cases u <;> simp only [L5, bj, beq_iff_eq, au] at h
 ·exact ⟨rfl, fun _ _ _ => by simp [aJ, wC]⟩
 ·subst h; exact ⟨rfl, fun _ _ _ => by simp [aJ, wC]⟩
 ·subst h; exact ⟨⟨_, rfl⟩, fun _ _ _ => by simp [aJ, wC]⟩
 ·subst h; exact ⟨⟨_, rfl⟩, fun _ _ _ => by simp [aJ, wC]⟩
def vE : List D → List Value → Bool
 | [], [] => true
 | d :: ds, u :: us => L5 d u && vE ds us
 | _, _ => false
theorem BG : ∀ {ds : List D} {us : List Value}, vE ds us = true → Vals (ds.map wC) us ∧ ∀ K I F, RepL K I F ds (ds.map wC)
 | [], [], _ => ⟨.nil, fun _ _ _ => by simp [RepL]⟩
 | d :: ds, u :: us, h => by
  simp only [vE, ak] at h
  obtain ⟨h1, h2⟩ := G4 h.1
  obtain ⟨h3, h4⟩ := BG h.2
  exact ⟨.cons h1 h3, fun K I F => RepL.cons (h2 K I F) (h4 K I F)⟩
 | [], _ :: _, h => by simp [vE] at h
 | _ :: _, [], h => by simp [vE] at h
def CD (K : PySem.W.Frag) (d : D) (u : Value) : Bool := match d, u with
 | .kK ds, .ref a => (match K.lookup a with
  | some ⟨.type c, _, .seq its _, _⟩ => decide (c = "tuple") && (decide (its.size ≤ sizeLine) && vE ds its.toList)
  | _ => false)
 | .con a, .ref b => decide (a = b)
 | d, u => L5 d u
theorem BD {K : PySem.W.Frag} {d : D} {u : Value} (h : CD K d u = true) : ∃ v, RelV v u ∧ ∀ I F, aJ K I F d v := by
 unfold CD at h
 split at h
 ·rename_i ds a
  split at h
  ·rename_i c od its n sl hl
   simp only [ak, au] at h
   obtain ⟨rfl, h2, h3⟩ := h
   obtain ⟨h4, h5⟩ := BG h3
   refine ⟨.ref a, rfl, fun I F => ?_⟩
   simp only [aJ]
   exact ⟨a, _, rfl, .inr ⟨_, its, n, hl, rfl, rfl, h2, h4⟩, h5 K I F⟩
  ·cases h
 ·rename_i a b
  simp only [au] at h
  subst h
  exact ⟨.ref a, rfl, fun I F => by simp [aJ]⟩
 ·obtain ⟨h1, h2⟩ := G4 h
  exact ⟨_, h1, h2 K⟩
def OG (S : aX) (x : Str) (d : D) : Prop := ∃ v u, S.mg x = some u ∧ RelV v u ∧ ∀ I F, aJ S.K I F d v
theorem v8 {S : aX} {x : Str} {d : D} {pos : Pos} (G : OG S x d) (hg : S.sc.names.lookup x = some .globalImplicit := by rfl) (hd : (x == ("__debug__" : Str)) = false := by decide) : JE S (.Name x pos) (eC d) := by
 obtain ⟨v, u, h1, h2, h3⟩ := G
 exact WB hg h1 h2 h3 hd
def FH (K : PySem.W.Frag) (x : Str) (d : D) : Bool := match PySem.W.nsIn K mainGlobals x with
 | some (some u) => CD K d u
 | _ => false
theorem qX {S : aX} {h : Heap} {x : Str} {d : D} (kin : S.K.In h) (ns : h.Ns mainGlobals S.mg) (c : FH S.K x d = true) : OG S x d := by
 unfold FH at c
 split at c
 ·rename_i u hu
  obtain ⟨v, h1, h2⟩ := BD c
  exact ⟨v, u, PySem.W.mg_of kin ns hu, h1, h2⟩
 ·cases c
def SF (K : PySem.W.Frag) (a : Addr) (tab : List (Str × Option D)) : Bool := tab.all fun p => match p.2 with
 | some d => (match PySem.W.nsIn K a p.1 with
  | some (some u) => CD K d u
  | _ => false)
 | none => He.eqO (PySem.W.nsIn K a p.1) (some none)
theorem lookup_mem {α : Type} {k : Str} {x : α} : ∀ {l : List (Str × α)}, l.lookup k = some x → (k, x) ∈ l
 | [], h => by simp at h
 | (j, y) :: r, h => by
  simp only [List.lookup] at h
  split at h
  ·rename_i e
   cases h
   rw [beq_iff_eq] at e
   subst e
   exact az ..
  ·exact bh _ (lookup_mem h)
theorem SE {K : PySem.W.Frag} {w : World} {a : Addr} {tab : List (Str × Option D)} (ex : ∃ es n, KDict K w a es n) (c : SF K a tab = true) : KTab K w a tab := by
 unfold SF at c
 rw [ay] at c
 refine ⟨ex, fun z x h => ?_, fun z h => ?_⟩
 ·have := c _ (lookup_mem h)
  dsimp only at this
  split at this
  ·rename_i u hu
   obtain ⟨v, h1, h2⟩ := BD this
   exact ⟨u, v, hu, h1, h2⟩
  ·cases this
 ·exact He.eqO_ok (c _ (lookup_mem h))
def jQ {α : Type} (is : List (Nat × Nat)) (us ws mv : List α) : List α := is.filterMap fun p => match p.1 with
 | 0 => us[p.2]?
 | 1 => ws[p.2]?
 | _ => mv[p.2]?
theorem JQ (is : List (Nat × Nat)) {vs zs ms : List V} {us ws mv : List Value} (h1 : Vals vs us) (h2 : Vals zs ws) (h3 : Vals ms mv) : Vals (jQ is vs zs ms) (jQ is us ws mv) := by
 induction is with
 | nil => exact .nil
 | cons p is ih =>
  obtain ⟨b, i⟩ := p
  unfold jQ at ih ⊢
  match b with
  | 0 =>
   rcases Vals.ZJ h1 i with ⟨e1, e2⟩ | ⟨v, u, e1, e2, r⟩
   ·simpa [List.filterMap_cons, e1, e2] using ih
   ·simpa [List.filterMap_cons, e1, e2] using (show Vals (v :: _) (u :: _) from .cons r ih)
  | 1 =>
   rcases Vals.ZJ h2 i with ⟨e1, e2⟩ | ⟨v, u, e1, e2, r⟩
   ·simpa [List.filterMap_cons, e1, e2] using ih
   ·simpa [List.filterMap_cons, e1, e2] using (show Vals (v :: _) (u :: _) from .cons r ih)
  | n + 2 =>
   rcases Vals.ZJ h3 i with ⟨e1, e2⟩ | ⟨v, u, e1, e2, r⟩
   ·simpa [List.filterMap_cons, e1, e2] using ih
   ·simpa [List.filterMap_cons, e1, e2] using (show Vals (v :: _) (u :: _) from .cons r ih)
theorem NP (is : List (Nat × Nat)) {K : PySem.W.Frag} {I : List Addr} {F : Hp} {xs zs ms : List D} {vs us mv : List V} (h1 : RepL K I F xs vs) (h2 : RepL K I F zs us) (h3 : RepL K I F ms mv) : RepL K I F (jQ is xs zs ms) (jQ is vs us mv) := by
 induction is with
 | nil => simp [jQ, RepL]
 | cons p is ih =>
  obtain ⟨b, i⟩ := p
  unfold jQ at ih ⊢
  match b with
  | 0 =>
   rcases RepL.ZJ h1 i with ⟨e1, e2⟩ | ⟨v, u, e1, e2, r⟩
   ·simpa [List.filterMap_cons, e1, e2] using ih
   ·simpa [List.filterMap_cons, e1, e2] using RepL.cons r ih
  | 1 =>
   rcases RepL.ZJ h2 i with ⟨e1, e2⟩ | ⟨v, u, e1, e2, r⟩
   ·simpa [List.filterMap_cons, e1, e2] using ih
   ·simpa [List.filterMap_cons, e1, e2] using RepL.cons r ih
  | n + 2 =>
   rcases RepL.ZJ h3 i with ⟨e1, e2⟩ | ⟨v, u, e1, e2, r⟩
   ·simpa [List.filterMap_cons, e1, e2] using ih
   ·simpa [List.filterMap_cons, e1, e2] using RepL.cons r ih
theorem SR {K : PySem.W.Frag} {x qual : Str} {params : Arguments} {body : List Stmt} {scope : Scope} {kws : List (Str × V)} {f : Addr} {fd : FuncData} {ps : List Str} (F : FunD K x qual params body scope [] kws f fd) (n : Nat) (ks : List Str) (ms : List (Str × V)) (mds : List D) (is : List (Nat × Nat))
  (hk : kws ≠ []) (hms : ∀ q ∈ ms, q ∈ kws) (hmd : ∀ I F', RepL K I F' mds (ms.map (·.2)))
  (h : ∀ (D : Addr) (doc pm : Value) (an : Option Addr) (cdv ct : Value) (us mv ws : List Value), us.length = n → mv.length = ms.length → ws.length = ks.length →
   KwChain D ((ms.map (·.1)).zip mv) (bindArgs (PySem.W.fnOf x qual params body scope .none (.ref D) doc pm an cdv ct) ⟨us, ks.zip ws⟩) (ps.zip (jQ is us ws mv)))
  (hlen : ∀ xs zs : List D, xs.length = n → zs.length = ks.length → (jQ is xs zs mds).length = ps.length) : eW K fd ps n ks fun xs zs => jQ is xs zs mds := by
 obtain ⟨mv, kb⟩ := F.kbinds0 n ks ms (fun us mv ws => jQ is us ws mv) hk hms (fun h1 h2 h3 => JQ is h1 h3 h2) h
 exact ⟨⟨_, _, kb, fun I F' xs vs zs us h1 h2 => NP is h1 h2 (hmd I F')⟩, hlen⟩
def kwAt (f : Str × Option Str) (x : Str) (K : PySem.W.Frag) : Addr := match K.lookup (He.fAd K f) with
 | some ⟨_, _, .func fd, _⟩ => (match fd.kwdefaults with
  | .ref d => (match PySem.W.nsIn K d x with
   | some (some (.ref a)) => a
   | _ => 0)
  | _ => 0)
 | _ => 0
section
variable {S : aX} {k n j : Nat} {f C : Addr} {fd : FuncData} {ps ks : List Str} {m : MF} {gd : List D → List D → List D} {x : Str} {p pos kpos : Pos} {e : Expr} {es : List Expr} {kws : List Keyword} {ma mk : MA}
theorem jmk (hk : k + 1 ≤ S.k) (M : Mk S.K C f) (Gf : iV S.P S.w S.K S.mg S.base k f fd ps m) (B : eW S.K fd ps (n + 1) ks gd) (hg : S.sc.names.lookup x = some .globalImplicit) (hm : S.mg x = some (.ref C)) (ha : JA S (e :: es) ma) (hkw : JK S kws mk) (hj : ks.length = j := by rfl)
  (hall : ∀ env : Env, (backToKw pos (keywordEach kws env)).all (·.1.isSome) = true := by intro _; rfl) (hks : ∀ env : Env, (backToKw pos (keywordEach kws env)).filterMap (·.1) = ks := by intro _; rfl)
  (hdb : (x == ("__debug__" : Str)) = false := by decide) (he : ∀ env : Env, starEach (e :: es) env = (false, eval e env) :: starEach es env := by intro _; rfl)
  (hpl : ∀ env : Env, ((backTo pos (starEach (e :: es) env)).any (·.1) || (backToKw pos (keywordEach kws env)).any (·.1.isNone)) = false := by intro _; rfl) :
  JE S (.Call (.Name x p) (e :: es) kws pos) (sU C m n j gd ma mk) := by subst hj; exact SG hk M Gf B hg hm ha hkw hall hks hdb he hpl
end
theorem PZ {S : aX} {pos : Pos} {a b c : Expr} {ma mb mc : ME} {f g : D → D → W → Res D} {op op' : CmpOp} (ho : O2 S (compareOp op) f) (ho' : O2 S (compareOp op') g) (ha : JE S a ma) (hb : JE S b mb) (hc : JE S c mc) (hm : lastMarks [op, op'] [b, c] = false := by with_unfolding_all rfl) :
  JT S (.Compare a [op, op'] [b, c] pos) (a8 (ON f g ma mb mc)) := fun X E cx xo => xE (pt_chain (ho X E cx xo) (ho' X E cx xo) (ha X E cx xo) (hb X E cx xo) (hc X E cx xo) hm) fun σ H Q ⟨I, F, G, ds, w, rel, rs, p⟩ => by
  show tChain _ _ _ _ _ σ H fun x H' => ∃ k, x = .bl k ∧ Q k H'
  refine QN ⟨I, F, G, ds, w, rel, rs, (a6.bind p).mono fun I1 F1 H1 x w1 _ e1 rel1 p1 v rv => ?_⟩
  cases x <;> first | exact p1.elim | skip
  simp only [aJ] at rv
  exact ⟨_, rv, p1 I1 F1 H1 .refl rel1⟩
def XI (i j : Nat) (ma : MA) : MS := fun σ w => (ma σ w).bind fun xs w1 => match xs with
 | [u, v] => .ok (.nx ((σ.set i (some u)).set j (some v))) w1
 | _ => .bad
section
variable {S : aX} {elt tg iter : Expr} {ifs : List Expr} {scope : Scope} {pos py spos : Pos} {y : Str} {mi : MI} {g : MG} {t : MT} {me : ME} {own : List (Str × Nat)}
theorem jsc (i : Nat) (hi : JI S tg iter mi) (hb : blkC S.N S.sc scope own = true) (hg : JC (S.blk scope) (own.map (·.2)) tg g) (ht : XO (S.blk scope) ifs t) (he : JE (S.blk scope) elt me)
  (hy : S.N[i]? = some y := by rfl) (hyl : S.sc.names.lookup y = some .local := by rfl) (hl : (py.line == pos.line) = true := by rfl) (ha : (scope.names.any fun (n, k) => n == y && (k == .local || k == .cell)) = false := by rfl)
  (hk : S.sc.kind = .function := by rfl) (hs : ∀ (env : Env) x, foldedSetIterable iter env x = pure x := by intro _ _; rfl) : JS S (.Assign [.Name y py] (.ListComp elt [⟨tg, iter, ifs, 0⟩] scope pos) spos) (aP (bT mi (own.map (·.2)) g t me) (aR i)) :=
 IF hy hyl (fun env e k => sw_true k (by rw [e]; exact hyl) hl ha) hi hb hg ht he hk hs
end
def GP (C : Addr) (m : MF) : MF := fun ds w => match ds with
 | [.ref i] => (match w[i]? with
  | some (.ins C' _) => if C' = C then (m [.ref i] w).bind fun d w1 => (match d with
    | .int n => if 0 ≤ n ∧ n < 2 ^ 62 then .ok (.int n) w1 else .bad
    | _ => .bad) else .bad
  | _ => dO [.ref i] w)
 | _ => dO ds w
theorem DB (l : Addr) (items : Array Value) (n : Nat) (dd : Option Addr) (sl : Array (Option Value)) (x : Int) (u : Tok) (c0 : (decide (x < -(2 ^ 63)) || decide (x ≥ 2 ^ 63)) = false) (c1 : (items.isEmpty || x == 1) = true) :
  Meets (Builtin.«tuple.__mul__» ⟨[.ref l, .int x u], []⟩) (fun _ R s => s.heap.get? l = some { cls := .type "tuple", dict := dd, data := .seq items n, slots := sl } ∧ R (.ok (.ret (Value.ref l))) s) :=
 .of_wp fun prog w A R s h => by
  obtain ⟨hp, g, d, tk, os⟩ := s
  obtain ⟨hl, h⟩ := h
  have f1 := AutoSeq1.idx_int
  wp_walk using wpAny_loadPart' hl
  repeat (first
   | (refine wpAny_ite_false (decide_eq_false (by rw [c0]; exact Bool.false_ne_true)) ?_; wp_walk using wpAny_loadPart' hl)
   | (refine wpAny_ite_true (decide_eq_true (by rw [c1])) ?_; wp_walk using wpAny_loadPart' hl))
  exact ⟨_, rfl, h⟩
theorem CG (l : Addr) (items : Array Value) (n : Nat) (dd : Option Addr) (sl : Array (Option Value)) (x : Int) (u : Tok) (c0 : (decide (x < -(2 ^ 63)) || decide (x ≥ 2 ^ 63)) = false) (c1 : (items.isEmpty || x == 1) = false) (c2 : (decide (x ≤ 0) || items.isEmpty) = true) :
  Meets (Builtin.«tuple.__mul__» ⟨[.ref l, .int x u], []⟩) (fun _ R s => s.heap.get? l = some { cls := .type "tuple", dict := dd, data := .seq items n, slots := sl } ∧
   R (.ok (.ret (Value.ref s.heap.objs.size))) { s with heap := s.heap.push { cls := Value.type "tuple", data := Data.seq #[] }, toks := s.toks }) :=
 .of_wp fun prog w A R s h => by
  obtain ⟨hp, g, d, tk, os⟩ := s
  obtain ⟨hl, h⟩ := h
  have f1 := AutoSeq1.idx_int
  wp_walk using wpAny_loadPart' hl
  repeat (first
   | (refine wpAny_ite_false (decide_eq_false (by rw [c0]; exact Bool.false_ne_true)) ?_; wp_walk using wpAny_loadPart' hl)
   | (refine wpAny_ite_false (decide_eq_false (by rw [c1]; exact Bool.false_ne_true)) ?_; wp_walk using wpAny_loadPart' hl)
   | (refine wpAny_ite_true (decide_eq_true (by rw [c2])) ?_; wp_walk using wpAny_loadPart' hl))
  exact ⟨_, rfl, h⟩
section
variable {X : Cx}
theorem N8 : OpR X (binaryOp .Mult) (fun x y H Q => ∃ l k xs, x = .ref l ∧ y = .int k ∧ SqT X.K H l xs ∧ (xs = [] ∨ k = 1) ∧ -1000 ≤ k ∧ k ≤ 1000 ∧ Q (.ref l) H) := by
 intro pins s σ H x y v u Q I rx ry h
 obtain ⟨l, k, xs, rfl, rfl, hT, hne, h1, h2, q⟩ := h
 cases rx
 obtain ⟨t, rfl⟩ := ry
 obtain ⟨its, r, ⟨⟨cls, dd, data, sl⟩, ho, hc, n, hd⟩, hs⟩ := I.tuple hT
 simp only at hc hd
 subst hc hd
 have hle : its.length = xs.length := r.length.symm
 have c0 : (decide (k < -(2 ^ 63)) || decide (k ≥ 2 ^ 63)) = false := by
  rw [decide_eq_false (by omega), decide_eq_false (by omega)] <;> rfl
 have c1 : (its.toArray.isEmpty || k == 1) = true := by
  rcases hne with rfl | rfl
  ·have : its = [] := List.eq_nil_of_length_eq_zero hle
   subst this; rfl
  ·simp
 refine wpAny_binaryOp_repeat_ref (T := "tuple") (U := "int") (by decide) ⟨_, ho, rfl⟩ (fun s' => typeIs_int s' k t) noFill_tuple_mul F.fills_int_mul F.slot_int_rmul repeat_tuple F.slot_int_index.lookup
  (call_meets F.slot_int_rmul (typeIs_int s k t) F.entry_int_rmul (F.args_int_rmul_2 _ _) (int_rmul_tuple k t l its.toArray n dd sl)
   ⟨ho, rfl, ⟨_, ho, rfl⟩, call_meets F.slot_tuple_mul ⟨_, ho, rfl⟩ F.entry_tuple_mul (F.args_tuple_mul_2 _ _) (DB l its.toArray n dd sl k t c0 c1) ⟨ho, ?_⟩⟩)
 exact ⟨.ref l, H, I, rfl, q⟩
theorem NY : OpR X (binaryOp .Mult) (fun x y H Q => ∃ l k xs, x = .ref l ∧ y = .int k ∧ SqT X.K H l xs ∧ xs ≠ [] ∧ -1000 ≤ k ∧ k ≤ 0 ∧ ∀ p, H p = none → Q (.ref p) (upd H p (.tup []))) := by
 intro pins s σ H x y v u Q I rx ry h
 obtain ⟨l, k, xs, rfl, rfl, hT, hne, h1, h2, q⟩ := h
 cases rx
 obtain ⟨t, rfl⟩ := ry
 obtain ⟨its, r, ⟨⟨cls, dd, data, sl⟩, ho, hc, n, hd⟩, hs⟩ := I.tuple hT
 simp only at hc hd
 subst hc hd
 have hle : its.length = xs.length := r.length.symm
 have hn : its ≠ [] := fun e => hne (by
  rw [e] at hle
  exact List.eq_nil_of_length_eq_zero hle.symm)
 have hi : its.toArray.isEmpty = false := by
  cases its with
  | nil => exact absurd rfl hn
  | cons a b => rfl
 have c0 : (decide (k < -(2 ^ 63)) || decide (k ≥ 2 ^ 63)) = false := by
  rw [decide_eq_false (by omega), decide_eq_false (by omega)] <;> rfl
 have c1 : (its.toArray.isEmpty || k == 1) = false := by
  rw [hi, Bool.false_or]
  exact beq_eq_false_iff_ne.mpr (by omega)
 have c2 : (decide (k ≤ 0) || its.toArray.isEmpty) = true := by
  rw [decide_eq_true h2]; rfl
 refine wpAny_binaryOp_repeat_ref (T := "tuple") (U := "int") (by decide) ⟨_, ho, rfl⟩ (fun s' => typeIs_int s' k t) noFill_tuple_mul F.fills_int_mul F.slot_int_rmul repeat_tuple F.slot_int_index.lookup
  (call_meets F.slot_int_rmul (typeIs_int s k t) F.entry_int_rmul (F.args_int_rmul_2 _ _) (int_rmul_tuple k t l its.toArray n dd sl)
   ⟨ho, rfl, ⟨_, ho, rfl⟩, call_meets F.slot_tuple_mul ⟨_, ho, rfl⟩ F.entry_tuple_mul (F.args_tuple_mul_2 _ _) (CG l its.toArray n dd sl k t c0 c1 c2) ⟨ho, ?_⟩⟩)
 refine ⟨.ref s.heap.objs.size, _, I.laid (t' := s.toks) (o := .tup []) (fun b ob q => Heap.get?_push_of_some _ q) (bp _) ?_, rfl, q _ (I.hok.fresh (bp _))⟩
 exact ⟨Nat.zero_le _, [], .nil, IsTup.new _ _⟩
end
def nP (x y : D) (w : W) : Res D := match x, y with
 | .tup a, .int k => if -1000 ≤ k ∧ k ≤ 1000 ∧ a.length ≤ 1000 then .ok (.tup (List.replicate k.toNat a).flatten) w else .bad
 | x, y => mulM x y w
theorem qN {S : aX} : O2 S (binaryOp .Mult) nP := gP fun X E c xo I F G d e w H x y Q rel rd re p => by
 unfold nP at p
 split at p
 ·rename_i a k
  split at p
  ·rename_i hk
   simp only [aJ] at rd re
   obtain ⟨q, vs, rfl, h1, h2⟩ := rd
   subst re
   have hl := h2.length
   by_cases hA : vs = [] ∨ k = 1
   ·refine ⟨_, N8, q, k, vs, rfl, rfl, .of (rel.fz _ _ h1), hA, hk.1, hk.2.1, p.n8 rel ?_⟩
    simp only [aJ]
    refine ⟨q, vs, rfl, h1, ?_⟩
    rcases hA with e | e
    ·subst e
     have : a = [] := List.eq_nil_of_length_eq_zero hl
     subst this
     have : (List.replicate k.toNat ([] : List D)).flatten = [] := by simp
     rw [this]; exact h2
    ·subst e
     simpa using h2
   ·have hA' : vs ≠ [] ∧ k ≠ 1 := ⟨fun e => hA (.inl e), fun e => hA (.inr e)⟩
    by_cases h0 : k ≤ 0
    ·refine ⟨_, NY, q, k, vs, rfl, rfl, .of (rel.fz _ _ h1), hA'.1, hk.1, h0, ?_⟩
     have e : (List.replicate k.toNat a).flatten = [] := by
      have : k.toNat = 0 := by omega
      rw [this]; rfl
     rw [e] at p
     exact nS rel (by simp [RepL]) p
    ·refine ⟨_, op_repT, q, k, vs, rfl, rfl, .of (rel.fz _ _ h1), hA'.1, by omega, hk.2.1, by omega, ?_⟩
     exact nS rel (h2.rep _) p
  ·exact p.elim
 ·exact ⟨_, sS X E c xo, I, F, G, _, _, w, rel, rd, re, p⟩
open AutoSeq1 (wpAny_loadPart')
open RZ (nextOf_tuple_item nextOf_tuple_end)
def yC (ds : List D) (w : W) : Res jN := match ds with
 | [x] => (match wJ x with
  | some xs => .ok ⟨(List.range xs.length).zipWith (fun i x => D.tup [.int (i : Nat), x]) xs, always⟩ w
  | none => .bad)
 | _ => .bad
def r4 (d : D) (w : W) : Option (List D) := match d with
 | .lst xs => some xs
 | .ref i => (match w[i]? with
  | some (.lst xs) => some xs
  | _ => none)
 | _ => none
theorem tN {K : PySem.W.Frag} {I : List Addr} {F G H : Hp} {w : W} (rel : Rel K I F G w H) {d : D} {v : V} {xs : List D} (h : aJ K I F d v) (e : r4 d w = some xs) : ∃ a vs, v = .ref a ∧ H a = some (.lst vs) ∧ RepL K I F xs vs := by
 cases d <;> simp only [r4, aj, reduceCtorEq] at e <;> simp only [aJ] at h
 case lst =>
  subst e
  obtain ⟨a, vs, h0, h1, h2⟩ := h
  exact ⟨a, vs, h0, rel.fz _ _ h1, h2⟩
 case ref i =>
  obtain ⟨a, h0, h1⟩ := h
  split at e
  ·rename_i ys hw
   cases e
   obtain ⟨u, h2, vs, rfl, h3⟩ := rel.ob i a _ h1 hw
   exact ⟨a, vs, h0, h2, h3⟩
  ·cases e
def zK (x y : D) (w : W) : Res D := match r4 x w, r4 y w with
 | some a, some b => if a.length + b.length ≤ sizeLine then .ok (.lst (a ++ b)) w else .bad
 | _, _ => .bad
theorem LK {S : aX} : O2 S (binaryOp .Add) zK := gP fun X E c xo I F G d e w H x y Q rel rd re p => by
 unfold zK at p
 split at p
 ·rename_i a b ha hb
  obtain ⟨q, vs, rfl, h1, h2⟩ := tN rel rd ha
  obtain ⟨q', vs', rfl, h1', h2'⟩ := tN rel re hb
  split at p
  ·rename_i hl
   exact ⟨_, op_cat, q, q', vs, vs', rfl, rfl, h1, h1', by rw [← h2.length, ← h2'.length]; exact hl, l5 rel (h2.append h2') p⟩
  ·exact p.elim
 ·exact p.elim
theorem Rel.less {K : PySem.W.Frag} {I : List Addr} {F G H : Hp} {w : W} {q : Addr} {u : HO} (rel : Rel K I F (L2.upd G q u) w H) (hG : G q = none) : Rel K I F G w H :=
 ⟨rel.len, rel.nd, rel.ob, rel.fz, rel.ap, fun a v h => rel.gz a v (by rw [upd_ne (ne_of_none h hG)]; exact h), fun a v h => rel.gf a v (by rw [upd_ne (ne_of_none h hG)]; exact h), fun a xs h => rel.gt a xs (by rw [upd_ne (ne_of_none h hG)]; exact h)⟩
theorem Rel.aAh {K : PySem.W.Frag} {I : List Addr} {F G H : Hp} {w : W} (rel : Rel K I F G w H) {q : Addr} {u : HO} (hq : H q = none) : Rel K I F G w (L2.upd H q u) := AA rel hq u
end Pc
namespace Pc
open PySem PySem.Spec PyProof.Rows L2 HT
theorem EH {α β : Type} {f g : α → Option β} : ∀ {l : List α}, (∀ x ∈ l, f x = g x) → l.filterMap f = l.filterMap g
 | [], _ => rfl
 | a :: l, h => by
  rw [List.filterMap_cons, List.filterMap_cons, h a (az ..), EH fun x hx => h x (bh _ hx)]
theorem OH (xs : Array Value) : ((List.range xs.size).filterMap fun (m : Nat) => xs[(((xs.size : Int) - 1) + (m : Int) * (-1)).toNat]?).toArray = xs.toList.reverse.toArray := by
 rw [← PySem.W.krv_pick]
 unfold slicePick
 rw [PySem.W.krv_bounds]
 show _ = ((sliceRange ((xs.size : Int) - 1) (-1) (-1)).filterMap (xs[·]?)).toArray
 rw [PySem.W.krv_sliceRange, List.filterMap_map]
 congr 1
 refine EH fun m hm => ?_
 have := List.mem_range.mp hm
 have e : (((xs.size : Int) - 1) + (m : Int) * (-1)).toNat = xs.size - 1 - m := by omega
 rw [e]; rfl
theorem J0 (n : Nat) : Builtin.Slice.slicePlaces ((n : Int) - 1) (-1) (-1) = n := by
 unfold Builtin.Slice.slicePlaces
 have h1 : ¬ ((-1 : Int) > 0) := by decide
 simp only [h1, aa]
 split
 ·rw [show (- -1 : Int) = 1 by decide, Int.ediv_one]; omega
 ·omega
section
variable {prog : Program} {w : World} {A : Around} {E : Value → Shared → Prop} {s : Shared}
theorem u5 {sl : Addr} {vl vu vs : Value} {n : Nat} {Q : Int × Int × Nat → Shared → Prop} (hs : s.heap.IsSliceOf sl vl vu vs) (pl : IsPart vl none) (pu : IsPart vu none) (ps : IsPart vs (some (-1)))
  (h : Q ((n : Int) - 1, -1, n) s) : wpAny (model prog w) A (Builtin.Slice.sliceApplied (.ref sl) (pure (n : Int))) Q E s := by
 obtain ⟨os, hos, hcs, hds⟩ := id hs
 unfold Builtin.Slice.sliceApplied Builtin.Slice.sliceFields
 refine wpAny_bind (wpAny_bind (wpAny_field hos hds (x := vl) rfl (wpAny_bind (wpAny_field hos hds (x := vu) rfl (wpAny_bind (wpAny_field hos hds (x := vs) rfl (wpAny_pure ?_)))))))
 refine wpAny_bind (slicePart_ ps ?_)
 show wpAny _ _ (if ((-1 : Int) == 0) = true then _ else _) _ _ s
 rw [if_neg (by decide)]
 refine wpAny_bind (slicePart_ pl (wpAny_bind (slicePart_ pu (wpAny_bind (wpAny_pure ?_)))))
 show wpAny _ _ (pure ((n : Int) - 1, (-1 : Int), Builtin.Slice.slicePlaces ((n : Int) - 1) (-1) (-1))) _ _ s
 rw [J0]
 exact wpAny_pure h
theorem uI {t sl : Addr} {items : Array Value} {vl vu vs : Value} {Q : Value → Shared → Prop} (ht : IsTup s.heap t items) (hs : s.heap.IsSliceOf sl vl vu vs) (pl : IsPart vl none) (pu : IsPart vu none) (ps : IsPart vs (some (-1)))
  (h : Q (.ref s.heap.objs.size) { s with heap := s.heap.push { cls := .type "tuple", data := .seq items.toList.reverse.toArray } })
  (hsz : items.size ≤ sizeLine) : wpAny (model prog w) A (getItem (.ref t) (.ref sl)) Q E s := by
 have htake : sizeOk (.seq items.toList.reverse.toArray) := by
  show (items.toList.reverse.toArray).size ≤ sizeLine
  rw [List.size_toArray, List.length_reverse, Array.length_toList]
  exact hsz
 obtain ⟨os, hos, hcs, hds⟩ := id hs
 have hTs : s.TypeIs (.ref sl) "slice" := ⟨os, hos, hcs⟩
 unfold getItem
 try with_reducible refine wpAny_holding ?_
 first | refine wpAny_bind (wpAny_pure ?_) | skip
 refine wpAny_bind (wpAny_sequenceKey ht.typeIs (by decide) ?_)
 refine wpAny_bind (wpAny_callSpecial?_slot (name := Str.ofString "__getitem__") ht.typeIs PyProof.Rows.slot_tuple_getitem
  (wpAny_call_entry PyProof.Rows.slot_tuple_getitem ht.typeIs entry_tuple_getitem ?_ (args_tuple_getitem _ _)))
 show wpAny _ _ (Builtin.Tuple.tupleItemsOf (.ref t) >>= _) _ _ s
 refine wpAny_bind (tupleItemsOf_ ht ?_)
 refine wpAny_bind (wpAny_typeOf hTs ?_)
 rw [if_pos (by decide)]
 refine wpAny_bind (u5 hs pl pu ps ?_)
 have hno : ¬ ((((items.size : Int) - 1) == 0 && (-1 : Int) == 1 && items.size == items.size) = true) := by
  intro q
  rw [ak, ak] at q
  exact absurd q.1.2 (by decide)
 show wpAny _ _ (if (((items.size : Int) - 1) == 0 && (-1 : Int) == 1 && items.size == items.size) = true then _ else _) _ _ s
 rw [if_neg hno, OH]
 first
  | exact wpAny_bind (m := Builtin.Tuple.tupleExact _) (wpAny_newObj_type (wpAny_pure ⟨_, rfl, wpAny_pure h⟩) htake)
  | exact wpAny_bind (m := Builtin.Tuple.tupleExact _) (wpAny_newObj_type (wpAny_bind (wpAny_pure (wpAny_pure ⟨_, rfl, wpAny_pure h⟩))) htake)
  | exact wpAny_bind (wpAny_bind (m := Builtin.Tuple.tupleExact _) (wpAny_newObj_type (wpAny_pure (wpAny_pure ⟨_, rfl, wpAny_pure h⟩)) htake))
  | exact wpAny_bind (wpAny_bind (m := Builtin.Tuple.tupleExact _) (wpAny_newObj_type (wpAny_pure ⟨_, rfl, wpAny_pure h⟩) htake))
end
section
variable {X : Cx}
def aAL (K : PySem.W.Frag) (te : TE) : TE := fun σ H Q => te σ H fun x H1 => ∃ a xs, x = .ref a ∧ SqT K H1 a xs ∧ ∀ p, H1 p = none → Q (.ref p) (upd H1 p (.tup xs.reverse))
theorem VS {e : Expr} {te : TE} {k : Nat} {p1 p2 p3 pos : Pos} (he : PE X e te) : PE X (.Subscript e (.Slice none none (some (.UnaryOp .USub (.Constant (.int 1) k p1) p2)) p3) pos) (aAL X.K te) := by
 refine ⟨fun pins s σ H Q I h => ?_⟩
 refine Subscript_ (thn (he.run pins s σ H _ I h) fun v s1 ⟨x, H1, I1, r1, q1⟩ => ?_)
 obtain ⟨a, xs, ex, hx, q⟩ := q1
 subst ex
 cases r1
 have hst : PO X (some (.UnaryOp .USub (.Constant (.int 1) k p1) p2)) (tPart (tUn (rU fun i => .int (-i)) (tC (.int 1)))) := po_some (pe_un un_neg pe_int)
 refine wpAny_Slice (thn (po_none.run pins s1 σ H1 (fun o H2 => o = none ∧ H2 = H1) I1 ⟨rfl, rfl⟩) fun vl s2 ⟨l, H2, I2, pl, el, e2⟩ => ?_)
 subst el e2
 refine thn (po_none.run pins s2 σ H2 (fun o H3 => o = none ∧ H3 = H2) I2 ⟨rfl, rfl⟩) fun vu s3 ⟨u, H3, I3, pu, eu, e3⟩ => ?_
 subst eu e3
 refine thn (hst.run pins s3 σ H3 (fun o H4 => o = some (-1) ∧ H4 = H3) I3 ⟨1, rfl, -1, rfl, rfl, rfl⟩) fun vs s4 ⟨o, H4, I4, ps, eo, e4⟩ => ?_
 subst eo e4
 have I5 : Inv X pins σ H4 { s4 with heap := s4.heap.push { cls := .type "slice", data := .fields #[vl, vu, vs] } } := I4.kept (t' := s4.toks) fun b ob q => Heap.get?_push_of_some _ q
 obtain ⟨its, r, ht, hz⟩ := I5.tuple hx
 have hlen := r.length
 show wpAny (model X.prog X.w) X.A (subscriptTail e (.Slice none none (some (.UnaryOp .USub (.Constant (.int 1) k p1) p2)) p3) (.ref a) (.ref s4.heap.objs.size)) (EP X pins σ Q) X.xe { s4 with heap := s4.heap.push { cls := .type "slice", data := .fields #[vl, vu, vs] } }
 refine tail_any (ops := [.ref a, .ref s4.heap.objs.size]) ht.typeIs (PyProof.Rows.slot_tuple_getitem.lookup) ?_ (by with_unfolding_all rfl)
 refine uI ht (Heap.IsSliceOf.new _ vl vu vs) pl pu ps ?_ (by rw [List.size_toArray]; omega)
 refine ⟨.ref _, _, I5.laid (t' := s4.toks) (o := .tup xs.reverse) (fun b ob q => Heap.get?_push_of_some _ q) (bp _) ?_, rfl, q _ (I5.hok.fresh (bp _))⟩
 exact ⟨by rw [List.length_reverse]; exact hz, _, r.reverse, ⟨_, Heap.get?_push_size _ rfl, rfl, 0, by simp⟩⟩
end
def NL (d : D) (w : W) : Res D := match d with
 | .tup xs => .ok (.tup xs.reverse) w
 | _ => .bad
theorem V4 {S : aX} {e : Expr} {m : ME} {k : Nat} {p1 p2 p3 pos : Pos} (h : JE S e m) : JE S (.Subscript e (.Slice none none (some (.UnaryOp .USub (.Constant (.int 1) k p1) p2)) p3) pos) (sV NL m) := fun X E c xo =>
 cE (VS (h X E c xo)) fun σ H Q ⟨I, F, G, ds, w, rel, rs, p⟩ => bO (f := fun _ d w1 => NL d w1) rel rs p fun I1 F1 H1 d w1 v e1 rel1 rs1 rv p => by
  unfold NL at p
  split at p
  ·simp only [aJ] at rv
   obtain ⟨a, us, rfl, h1, h2⟩ := rv
   exact ⟨a, us, rfl, .of (rel1.fz _ _ h1), nS rel1 h2.reverse p⟩
  ·exact p.elim
end Pc
namespace Pc
open PySem PySem.Spec PyProof.Rows L2
theorem aAB {f : Expr → Option Str} {t1 t2 : Expr} (h : f t1 = none ∨ f t2 = none) : (([t1, t2].filterMap f).length != 2) = true := by
 have : ([t1, t2].filterMap f).length ≤ 1 := by
  rcases h with h | h <;> rw [List.filterMap_cons, List.filterMap_cons, h]
  ·exact cj (List.length_filterMap_le f []|> fun _ => by cases f t2 <;> simp) (bp 1)
  ·cases f t1 <;> simp
 simp; omega
theorem VP {x y : Str} {a b : Expr} {px py pt pt2 : Pos} {kt k2 : Nat} {env : Env} (h : env.scope.names.lookup x ≠ some .local ∨ env.scope.names.lookup y ≠ some .local) :
  swappedStores [.Tuple [.Name x px, .Name y py] kt pt] (.Tuple [a, b] k2 pt2) env = pure none := by
 unfold swappedStores
 simp only [List.length_cons, List.length_nil, Nat.zero_add, Nat.reduceAdd, beq_self_eq_true, Bool.true_or, Bool.not_true, bne_self_eq_false, Bool.false_or]
 cases hb : (env.blockKind != .function) with
 | true => rfl
 | false =>
  simp only [bj, aa]
  split
  ·rfl
  ·split
   ·rfl
   ·rename_i h2
    exfalso
    apply h2
    rw [Bool.or_eq_true]
    refine .inl (aAB ?_)
    rcases h with h | h
    ·refine .inl ?_
     have : (env.kindOf x == some .local) = false := beq_eq_false_iff_ne.mpr h
     simp [this]
    ·refine .inr ?_
     have : (env.kindOf y == some .local) = false := beq_eq_false_iff_ne.mpr h
     simp [this]
theorem UL {S : aX} {x y : Str} {a b : Expr} {px py pt pt2 pos : Pos} {kt k2 : Nat} {m : ME} {g : MG} (he : JE S (.Tuple [a, b] k2 pt2) m) (hg : JG S (.Tuple [.Name x px, .Name y py] kt pt) g)
  (h : S.sc.names.lookup x ≠ some .local ∨ S.sc.names.lookup y ≠ some .local) (hs : ∀ env : Env, swapsWithSole [.Tuple [.Name x px, .Name y py] kt pt] (.Tuple [a, b] k2 pt2) pos.line env = pure false := by intro _; rfl)
  (h1 : ∀ env : Env, (assignEach [.Tuple [.Name x px, .Name y py] kt pt] env).map (·.2) = [assign (.Tuple [.Name x px, .Name y py] kt pt) env] := by intro _; rfl) : JS S (.Assign [.Tuple [.Name x px, .Name y py] kt pt] (.Tuple [a, b] k2 pt2) pos) (aP m g) := fun X E cx xo =>
 i9 (ps_asg (he X E cx xo) (hg X E cx xo) (hs X.env) (VP (by rw [cx.sc]; exact h)) (h1 X.env)) fun Z σ H h => K2 h
theorem QA {S : aX} {x y : Str} {a b : Expr} {px py pt pt2 pos : Pos} {kt k2 : Nat} {m : ME} {g : MG} (he : JE S (.Tuple [a, b] k2 pt2) m) (hg : JG S (.Tuple [.Name x px, .Name y py] kt pt) g)
  (h : S.sc.names.lookup x = some .cell := by rfl) (hs : ∀ env : Env, swapsWithSole [.Tuple [.Name x px, .Name y py] kt pt] (.Tuple [a, b] k2 pt2) pos.line env = pure false := by intro _; rfl)
  (h1 : ∀ env : Env, (assignEach [.Tuple [.Name x px, .Name y py] kt pt] env).map (·.2) = [assign (.Tuple [.Name x px, .Name y py] kt pt) env] := by intro _; rfl) : JS S (.Assign [.Tuple [.Name x px, .Name y py] kt pt] (.Tuple [a, b] k2 pt2) pos) (aP m g) :=
 UL he hg (.inl (by rw [h]; decide)) hs h1
def noM : MF := fun _ _ => .bad
theorem iV.bad {P : Program} {w : World} {K : PySem.W.Frag} {mg : Str → Option Value} {base : Heap} {k : Nat} {f : Addr} {fd : FuncData} {ps : List Str} : iV P w K mg base k f fd ps noM :=
 ⟨fun A outer s H args us vs Q E hr hg e0 hb r hl ⟨_, _, _, _, _, _, _, p⟩ => p.elim⟩
def LV (n : Nat) (r : NR) : MG := fun d σ w => match wJ d with
 | some xs => if n ≤ xs.length ∧ xs.length ≤ sizeLine then r (xs.take n ++ [.lst (xs.drop n)]) σ w else .bad
 | none => .bad
def anyM : MF := fun ds w => match ds with
 | [d] => (match (wJ d).bind lE with
  | some ns => .ok (.bl (ns.any fun n => n != 0)) w
  | none => match (rS d w).bind qF with
   | some bs => .ok (.bl (bs.any id)) w
   | none => .bad)
 | _ => .bad
def R9 (xs : List D) : List D := (List.range xs.length).zipWith (fun i x => D.tup [.int (i : Nat), x]) xs
def vF (ds : List D) (w : W) : Res jN := match ds with
 | [.lst xs] => .ok ⟨R9 xs, always⟩ w
 | [.ref i] => (match w[i]? with
  | some (.lst xs) => .ok ⟨R9 xs, holds i (.lst xs)⟩ w
  | _ => .bad)
 | _ => .bad
end Pc
namespace L2
open PySem PySem.Spec PyProof.Rows
def smallKey : List Key → Bool
 | [.inl a, .inl s, .inl r] => (decide (0 ≤ a) && decide (a < 4)) && ((decide (0 ≤ s) && decide (s < 6)) && (decide (0 ≤ r) && decide (r < 10)))
 | _ => false
end L2
namespace Pc
open PySem PySem.Spec PyProof.Rows L2
open Classical in
def dcL (it : jN) (vs : List Nat) (g : MG) (t : MT) (ek ev : ME) : List D → List (List Key × D) → Sg → W → Res (List (List Key × D))
 | [], acc, σ, w => if it.ok w then .ok acc w else .bad
 | x :: xs, acc, σ, w => if it.ok w then (g x (dJ σ vs) w).D3.bind fun σ1 w1 => (t σ1 w1).D3.bind fun b w2 =>
   if b = true then (ek σ1 w2).D3.bind fun k w3 => (ev σ1 w3).D3.bind fun v w4 => match k with
    | .tup ks => (match rT ks with
     | some kk => if acc.length < sizeLine then dcL it vs g t ek ev xs (putD acc kk v) σ w4 else .bad
     | none => .bad)
    | _ => .bad
   else dcL it vs g t ek ev xs acc σ w2
  else .bad
def aBB (m : MI) (vs : List Nat) (g : MG) (t : MT) (ek ev : ME) : ME := fun σ w => (m σ w).bind fun it w1 => (dcL it vs g t ek ev it.xs [] σ w1).bind fun kvs w2 => .ok (.ref w2.length) (w2 ++ [.dT kvs])
theorem aQ.len {κ : Type} {K : PySem.W.Frag} {I : List Addr} {F : Hp} : ∀ {ds : List (κ × D)} {vs : List (κ × V)}, aQ K I F ds vs → ds.length = vs.length
 | [], vs, h => by simp only [aQ] at h; subst h; rfl
 | (k, d) :: ds, vs, h => by
  simp only [aQ] at h
  obtain ⟨v, r, rfl, _, h3⟩ := h
  simp [aQ.len h3]
def pairOf : D → Option (List Key × D)
 | .tup [.tup ks, v] => (rT ks).map fun k => (k, v)
 | _ => none
def pairsOf : List D → Option (List (List Key × D))
 | [] => some []
 | d :: ds => match pairOf d, pairsOf ds with
  | some p, some ps => some (p :: ps)
  | _, _ => none
def aAv : MF := fun ds w => match ds with
 | [.ref i] => (match w[i]? with
  | some (.dK kvs) => .ok (.ref w.length) (w ++ [.dK kvs])
  | some (.dT kvs) => if (kvs.all fun p => smallKey p.1) = true then .ok (.ref w.length) (w ++ [.dT kvs]) else .bad
  | _ => .bad)
 | [.lst ps] => (match pairsOf ps with
  | some kvs => .ok (.ref w.length) (w ++ [.dT (qD [] kvs)])
  | none => .bad)
 | _ => .bad
def aAw (tab : List (Str × Option D)) (ys : List D) (w : W) : Res D := match ys with
 | [.str z, y] => (match tab.lookup z with
  | some o => .ok (o.getD y) w
  | none => .bad)
 | _ => .bad
def aAt (d : Addr) (tab : List (Str × Option D)) (mo : ME) (ma : MA) : ME := fun σ w => (mo σ w).bind fun x w1 => match x with
 | .con a => if a = d then (ma σ w1).bind fun ys w2 => aAw tab ys w2 else .bad
 | _ => .bad
end Pc
namespace L2
open PySem PySem.Spec PyProof.Rows
open PySem.W (EachIs AllAlike Sortable dataLe)
def WK (a b : Int) : Bool := decide (a ≤ b)
end L2
namespace Pc
open PySem PySem.Spec PyProof.Rows L2
def UE : MF := fun ds w => match ds with
 | [.tup xs] => (match lE xs with
  | some ns => .ok (.lst ((ns.mergeSort WK).map D.int)) w
  | none => .bad)
 | ds => kB ds w
def W9 (n : Nat) (r : NR) : MG := fun d σ w => match r4 d w with
 | some xs => if xs.length = n then r xs σ w else .bad
 | none => .bad
open RZ (nextOf_tuple_item nextOf_tuple_end)
def zmM (ds : List D) (w : W) : Res jN := match ds with
 | [.tup xs, .lst ys] => if xs.length = ys.length then .ok ⟨(xs.zip ys).map fun p => .tup [p.1, p.2], always⟩ w else .bad
 | _ => .bad
end Pc
namespace Pc
open PySem PySem.Spec PyProof.Rows L2 PySem.W
def eqE (x y : D) (w : W) : Res D := match x, y with
 | .ref i, .ref j => (match w[i]?, w[j]? with
  | some (.dT kvs), some (.dT []) => .ok (.bl kvs.isEmpty) w
  | _, _ => .bad)
 | _, _ => .bad
end Pc
namespace Pc
open PySem PySem.Spec PyProof.Rows L2
def aAy (C : Addr) (nm : Str) (x : D) (w : W) : Option Nat := match x with
 | .ref i => (match w[i]? with
  | some (.ins C' fs) => if C' = C ∧ fs.lookup nm = none then some i else none
  | _ => none)
 | _ => none
def sJ (C : Addr) (nm : Str) (m : MF) (n : Nat) (gd : List D → List D → List D) (mo : ME) (ma : MA) : ME := fun σ w => (mo σ w).bind fun x w1 => match aAy C nm x w1 with
 | some i => (ma σ w1).bind fun xs w2 => if xs.length + 1 = n then m (gd (.ref i :: xs) []) w2 else .bad
 | none => .bad
def UX : PJ := fun d ds w => match d, ds with
 | .ref i, [.tup zs] => (match w[i]? with
  | some (.lst xs) => if xs.length + zs.length ≤ sizeLine then .ok .non (w.set i (.lst (xs ++ zs))) else .bad
  | _ => .bad)
 | _, _ => .bad
def YK (ns ms : List Int) : Bool := Ob.lexAt (fun j => decide (ns.getD j 0 = ms.getD j 0)) (fun j => decide (ns.getD j 0 ≤ ms.getD j 0)) (decide (ns.length ≤ ms.length)) 0 (min ns.length ms.length)
def leA (x y : D) (w : W) : Res D := match x, y with
 | .int a, .int b => .ok (.bl (decide (a ≤ b))) w
 | .tup a, .tup b => (match lE a, lE b with
  | some ns, some ms => .ok (.bl (YK ns ms)) w
  | _, _ => .bad)
 | _, _ => .bad
def tL (x y : D) (w : W) : Res D := match r4 x w, r4 y w with
 | some a, some b => if a.length + b.length ≤ sizeLine then .ok (.ref w.length) (w ++ [.lst (a ++ b)]) else .bad
 | _, _ => .bad
theorem EB {S : aX} : O2 S (binaryOp .Add) tL := gP fun X E c xo I F G d e w H x y Q rel rd re p => by
 unfold tL at p
 split at p
 ·rename_i a b ha hb
  obtain ⟨q, vs, rfl, h1, h2⟩ := tN rel rd ha
  obtain ⟨q', vs', rfl, h1', h2'⟩ := tN rel re hb
  split at p
  ·rename_i hl
   exact ⟨_, op_cat, q, q', vs, vs', rfl, rfl, h1, h1', by rw [← h2.length, ← h2'.length]; exact hl, wZ (o := .lst (a ++ b)) rel ⟨_, rfl, h2.append h2'⟩ p⟩
  ·exact p.elim
 ·exact p.elim
end Pc
namespace He
open PySem PySem.Spec PyProof.Rows L2
abbrev ZT : Type := AlT × Bool
def US (as : List Addr) (fa : List Fa) (fn : List DefD) (ts : List Tab) (ex : PySem.W.Frag → Bool) (g : Addr → Option Obj) : ZT := (obsT fa fn ts (frT g as), ex (frT g as))
def aAS (fn : List DefD) (ts : List Tab) (w : World) : ZT := (valT fn ts w, true)
theorem RX {as : List Addr} {fa : List Fa} {fn : List DefD} {ts : List Tab} {ex : PySem.W.Frag → Bool} {w : World} {h : Heap} (e : US as fa fn ts ex h.get? = aAS fn ts w) : SaysX fa fn ts [] ex w h (frT h.get? as) :=
 ⟨congrArg (fun z : ZT => z.1) e, congrArg (fun z : ZT => z.2) e, (fun _ hp => nomatch hp), (fun _ hp => nomatch hp), (fun _ hp => nomatch hp)⟩
def WI (as : List Addr) (fa : List Fa) (fn : List DefD) (ts : List Tab) (ex : PySem.W.Frag → Bool) : PySem.W.Hook where
 α := ZT
 obs := fun s => US as fa fn ts ex s.heap.get?
 val := fun w => aAS fn ts w
 says := fun w h => ∃ K : PySem.W.Frag, K.In h ∧ SaysX fa fn ts [] ex w h K
 of := fun _ _ e => ⟨_, frT_in, RX e⟩
 keeps := fun _ _ _ ⟨K, hK, c⟩ k => ⟨K, PySem.W.Frag.In.keeps hK k, ⟨c.t, c.more, c.hd, c.out, (fun _ hp => nomatch hp)⟩⟩
theorem WA {as : List Addr} {fa : List Fa} {fn : List DefD} {ts : List Tab} {ex : PySem.W.Frag → Bool} {g : Addr → Option Obj} {s : Shared} (h : ∀ a, g a = s.heap.get? a) : US as fa fn ts ex g = (WI as fa fn ts ex).obs s := by
 have e : g = s.heap.get? := funext h
 rw [e]
 rfl
theorem WV {α β γ δ : Type} {e : Option α} {f : α → β} {g : α → γ} {h : α → δ} {a : β} {b : γ} {c : δ} (h1 : e.map (fun s => (f s, g s)) = some (a, b)) (h2 : e.map h = some c) : e.map (fun s => (f s, g s, h s)) = some (a, b, c) := by
 cases e with
 | none => exact nomatch h1
 | some s => 
  have q : (f s, g s) = (a, b) := Option.some.inj h1
  have q2 : h s = c := Option.some.inj h2
  have q3 := congrArg Prod.fst q
  have q4 := congrArg Prod.snd q
  show some (f s, g s, h s) = some (a, b, c)
  rw [q2, show f s = a from q3, show g s = b from q4]
end He
namespace Pc
open PySem PySem.Spec PyProof.Rows L2
def qR : PJ := fun d ds w => match d, ds with
 | .ref i, [.int j, y] => (match w[i]? with
  | some (.lst xs) => if xs.length < sizeLine ∧ 0 ≤ j ∧ j < 2 ^ 63 then .ok .non (w.set i (.lst (xs.take j.toNat ++ [y] ++ xs.drop j.toNat))) else .bad
  | _ => .bad)
 | _, _ => .bad
theorem MX {S : aX} : MB S "list.insert" qR := LA fun X E c xo I F G d ds w H x vs Q rel rd rl p => by
 unfold qR at p
 split at p
 ·rename_i i j y
  simp only [aJ] at rd
  obtain ⟨a, rfl, hi⟩ := rd
  obtain ⟨v, u0, rfl, rj, ry⟩ := rl.two
  simp only [aJ] at rj
  subst rj
  split at p
  ·rename_i xs hw
   obtain ⟨u, hu, us, rfl, hr⟩ := rel.ob i a _ hi hw
   split at p
   ·rename_i hl
    exact ⟨_, mt_insert, a, us, j, u0, rfl, rfl, hu, by rw [← hr.length]; exact hl.1, hl.2.1, hl.2.2, p.n8 (rel.upd hi hw ⟨_, rfl, ((hr.take _).append (RepL.cons ry (by simp [RepL]))).append (hr.drop _)⟩) (by simp [aJ])⟩
   ·exact p.elim
  ·exact p.elim
 ·exact p.elim
def WM (C : Addr) (f : Str) (mo mv : ME) : MS := fun σ w => (mo σ w).bind fun x w1 => (nJ C f x w1).bind fun u w2 => (mv σ w2).bind fun v w3 => match u, v with
 | .int i, .int j => (l9 C f x (.int (i + j)) w3).bind fun _ w4 => .ok (.nx σ) w4
 | _, _ => .bad
def aCf (mb mf : MS) : MS := fun σ w => match mb σ w with
 | .ok (.nx σ1) w1 => (match mf σ1 w1 with
  | .ok (.nx σ2) w2 => .ok (.nx σ2) w2
  | _ => .bad)
 | _ => .bad
def U4 (C : Addr) (nm : Str) (m : MF) (n j : Nat) (gd : List D → List D → List D) (mo : ME) (ma mk : MA) : ME := fun σ w => (mo σ w).bind fun x w1 => match aAy C nm x w1 with
 | some i => (ma σ w1).bind fun xs w2 => (mk σ w2).bind fun zs w3 => if xs.length + 1 = n ∧ zs.length = j then m (gd (.ref i :: xs) zs) w3 else .bad
 | none => .bad
end Pc
namespace L2
open PySem PySem.Spec PyProof.Rows
section
variable {X : Cx} {e : Expr} {es : List Expr} {ta : TA} {p1 p2 pos : Pos} {x : Str} {N : Addr}
theorem Q1 {pl : Sem Bool} (hg : Gl X x) (hm : X.mg x = some (.ref N)) (hdb : (x == ("__debug__" : Str)) = false) (rd : ClX.CRead X.K N (.type "type")) (vN : PySem.W.findCls X.K (.ref N) (.type "type") "__init__" = some (.val (.builtin "ValueError.__init__"))) (ha : PA X (e :: es) ta)
  (hc : eval (.Call (.Attribute (.Name x p1) "__init__" p2) (e :: es) [] pos) X.env = (do
   let ov ← eval (.Name x p1) X.env
   standAt p2.atName
   let (f, first) ← holding [ov] (getMethod ov "__init__" pl)
   callWith pos f first (backTo pos (starEach (e :: es) X.env)) (backToKw pos (keywordEach [] X.env))) := by rfl)
  (he : starEach (e :: es) X.env = (false, eval e X.env) :: starEach es X.env := by rfl) (hpl : (backTo pos (starEach es X.env)).any (·.1) = false := by rfl) :
  PE X (.Call (.Attribute (.Name x p1) "__init__" p2) (e :: es) [] pos) (tVeI X.K ta) := by
 refine ⟨fun pins s σ H Q I h => ?_⟩
 refine PySem.W.methodCall_KW (ld_glob I hg hm ?_ hdb) hc
 refine PySem.W.method_cls I.kIn rd.ga (PySem.W.cls_value I.kIn rd.rd vN (by decide +kernel) ?_)
 show wpAny _ _ (callWith pos (Value.builtin "ValueError.__init__") [] (backTo pos (starEach (e :: es) X.env)) []) _ _ _
 refine PyProof.Rows.callWith_method1 (thn (ha.run pos pins _ σ H _ (I.tok _) h) fun us s1 ⟨vs, H1, I1, r1, a, C, ws, ev, hl, T, ea, q⟩ => ?_) he hpl
 subst ev
 cases r1 with
 | @cons _ u0 _ ur ra rw' =>
  obtain rfl : u0 = Value.ref a := ra
  have hlen : ur.length ≤ sizeLine := by
   rw [← Paired.length rw', sizeLine_eq]
   omega
  exact oinit_ok T I1 ea hlen fun s' J => ⟨.non, H1, J, rfl, q⟩
end
end L2
namespace Pc
open PySem PySem.Spec PyProof.Rows L2
structure ZU (K : PySem.W.Frag) (C N fI : Addr) (f : Str) : Prop where
 oex : OexC K C
 iC : PySem.W.findIn K (.ref C) "__init__" = some (some (.ref fI))
 tI : PySem.W.typeIn K (.ref fI) = some (.type "function")
 no : PySem.W.findIn K (.ref C) f = some none
 xf : XfC K C
 rd : ClX.CRead K N (.type "type")
 vN : PySem.W.findCls K (.ref N) (.type "type") "__init__" = some (.val (.builtin "ValueError.__init__"))
def spX (C : Addr) (f : Str) : Sp := fun vs H Q E => ∃ (a : Addr) (v : V), vs = [.ref a, v] ∧ H a = some (exo a C none) ∧ ∀ dx, H dx = none → dx ≠ a → Q .non (upd (upd H dx (exd dx [(f, v)])) a (exo a C (some dx)))
def Z9 : CXT := fun _ _ _ _ _ _ => False
theorem Z7 {X : Cx} {E : XK} : Passes Z9 X E := fun _ _ _ _ _ _ _ h => h.elim
theorem UJ {P : Program} {w : World} {K : PySem.W.Frag} {mg : Str → Option Value} {base : Heap} {C N fI : Addr} {f xN a qual txt : Str} {fd : FuncData} {params : Arguments} {scope : Scope} {body : List Stmt} {p1 p2 p3 p4 p5 p6 p7 p8 p9 p10 : Pos} {j : Nat}
  (T : ZU K C N fI f) (F : FunD K "__init__" qual params body scope [] [] fI fd) (Sc : FnScope ["self", a] ["self", a] scope)
  (hb : body = [.Expr (.Call (.Attribute (.Name xN p1) "__init__" p2) [.Name "self" p3, .Constant (.str txt) j p4] [] p5) p6, .Assign [.Attribute (.Name "self" p7) f p8] (.Name a p9) p10])
  (hg : scope.names.lookup xN = some .globalImplicit) (hm : mg xN = some (.ref N)) (hdb : (xN == ("__debug__" : Str)) = false) (v0 : Vis scope "self") (v1 : Vis scope a) (d1 : (a == ("__debug__" : Str)) = false) (d2 : (a == ("__classdict__" : Str)) = false)
  {pl : Env → Sem Bool} (hc : ∀ env : Env, eval (.Call (.Attribute (.Name xN p1) "__init__" p2) [.Name "self" p3, .Constant (.str txt) j p4] [] p5) env = (do
   let ov ← eval (.Name xN p1) env
   standAt p2.atName
   let (f, first) ← holding [ov] (getMethod ov "__init__" (pl env))
   callWith p5 f first (backTo p5 (starEach [.Name "self" p3, .Constant (.str txt) j p4] env)) (backToKw p5 (keywordEach [] env))))
  (hs1 : ∀ env : Env, swapsWith (.Call (.Attribute (.Name xN p1) "__init__" p2) [.Name "self" p3, .Constant (.str txt) j p4] [] p5) none p6.line env = pure false)
  (hs2 : ∀ env : Env, swapsWith (.Name a p9) (some (.Attribute (.Name "self" p7) f p8)) p10.line env = pure false) :
  FnOk P w K mg base Z9 1 fI fd ["self", a] (spX C f) := by
 subst hb
 refine F.ok Sc (fun vs H Q E ⟨b, v, e, _⟩ => by rw [e]; rfl) fun cdv A outer s H vs Q E hr ⟨b, v, e, hb, k⟩ => ?_
 subst e
 refine ⟨_, pss_cons (ps_expr (Q1 (by exact hg) (by exact hm) hdb (by exact T.rd) (by exact T.vN) (pa_cons (pe_var (i := 0) rfl (by exact v0)) (pa_cons pe_str pa_nil)) (hc _)) (hs1 _)) (pss_one (ps_ost (pe_var (i := 0) rfl (by exact v0)) (pe_var (i := 1) rfl (by exact v1) d1 d2) (hs2 _))), ?_⟩
 refine ⟨.ref b, rfl, b, C, [.str txt], rfl, by simp, T.oex, hb, ?_⟩
 refine ⟨v, rfl, .ref b, rfl, b, C, rfl, T.oex, T.no, .inl ⟨hb, fun dx n ne => ?_⟩⟩
 exact k dx n ne
def uT (C : Addr) (f : Str) (me : ME) : MS := fun σ w => (me σ w).bind fun d w1 => .sW ⟨.ref C, some [(f, d)]⟩ w1
theorem HP {S : aX} {C N fI : Addr} {f x : Str} {fd : FuncData} {ps : List Str} {e : Expr} {me : ME} {p cpos pos : Pos} (hk : 2 ≤ S.k) (T : ZU S.K C N fI f) (F1 : FnOk S.P S.w S.K S.mg S.base Z9 1 fI fd ps (spX C f)) (hb : Binds S.K fd ps [])
  (hg : S.sc.names.lookup x = some .globalImplicit) (hm : S.mg x = some (.ref C)) (he : JE S e me) (hdb : (x == ("__debug__" : Str)) = false := by decide)
  (hst : ∀ env : Env, starEach [e] env = (false, eval e env) :: starEach [] env := by intro _; rfl) (hpl : ∀ env : Env, (backTo cpos (starEach [] env)).any (·.1) = false := by intro _; rfl) :
  JS S (.Raise (some (.Call (.Name x p) [e] [] cpos)) none pos) (uT C f me) := fun X E cx xo => by
 have T' : ZU X.K C N fI f := by rw [cx.K]; exact T
 have F' : FnOk X.prog X.w X.K X.mg X.base Z9 1 fI fd ps (spX C f) := by rw [cx.P, cx.w, cx.K, cx.mg, cx.base]; exact F1
 refine i9 (ps_raise cx.calm xo.tk (pmk_oex (dvs := []) T'.oex T'.iC T'.tI F' (cx.room.mono hk) (by rw [cx.K]; exact hb) .nil Z7 (by show X.env.scope.names.lookup x = _; rw [cx.sc]; exact hg) (by rw [cx.mg]; exact hm) (pa_cons (he X E cx xo) pa_nil (hst X.env)) hdb (hst X.env) (hpl X.env))) fun Z σ H ⟨I, F, G, ds, w, rel, rs, p⟩ => ?_
 refine bO (f := fun _ d w1 => (Res.sW ⟨.ref C, some [(f, d)]⟩ w1 : Res Fl)) rel rs p fun I1 F1 H1 y w1 v e1 rel1 rs1 rv p1 => ?_
 refine ⟨by simp, fun a na => ⟨a, v, rfl, upd_same, fun dx n ne => ⟨rfl, dx, [(f, v)], upd_same, ?_, ?_, ?_⟩⟩⟩
 ·rw [upd_ne ne, upd_same]
 ·rw [upd_ne ne] at n
  exact n
 have n' : H1 dx = none := by rw [upd_ne ne] at n; exact n
 have eH : upd (del (upd (upd (upd H1 a (exo a C none)) dx (exd dx [(f, v)])) a (exo a C (some dx))) a) dx (.xd [(f, v)]) = upd H1 dx (.xd [(f, v)]) := by
  funext b
  by_cases h1 : b = dx
  ·rw [h1, upd_same, upd_same]
  ·rw [upd_ne h1, upd_ne h1]
   by_cases h2 : b = a
   ·rw [h2, del_same, na]
   ·rw [del_ne h2, upd_ne h2, upd_ne h1, upd_ne h2]
 rw [eH]
 exact p1 I1 F1 _ (.ref C) (some dx) .refl (rel1.aAh n') ⟨rfl, dx, [(f, v)], rfl, upd_same, ⟨v, [], rfl, rv, rfl⟩⟩
def kmL (l : List (Addr × Bool)) : Value → Option Bool
 | .ref a => l.lookup a
 | _ => none
def P7 (K : PySem.W.Frag) (Hc : Addr) (l : List (Addr × Bool)) : Prop := ∀ a b, l.lookup a = some b → PySem.W.exmOne K (.ref a) (.ref Hc) = some b
def unI (i : Nat) : Fl → Fl
 | .nx s => .nx (s.set i none)
 | .rt d => .rt d
 | .bk s => .bk (s.set i none)
 | .ct s => .ct (s.set i none)
def forget (σ : Sg) : Sg := List.replicate σ.length none
def calm {α : Type} : Res α → Res α
 | .ok a w => .ok a w
 | _ => .bad
def IC (mb : MS) (l : List (Addr × Bool)) (i : Nat) (ms : XD → MS) : MS := fun σ w => match mb σ w with
 | .ok f w1 => .ok f w1
 | .bad => .bad
 | .sW x w1 => match kmL l x.cls with
  | some true => (calm (ms x (forget σ) w1)).bind fun f w2 => .ok (unI i f) w2
  | some false => .sW x w1
  | none => .bad
def WU (K : PySem.W.Frag) (i : Nat) (a : Addr) (cls : Value) (d : Option Addr) (ms : XD → MS) : TS := fun Z σ H => σ[i]? = some (some (.ref a)) ∧ ∃ I F G ds w x, Rel K I F G w H ∧ eS K I F ds σ ∧ u6 K I F H x cls d ∧ a6 K I F G (fun _ _ _ => False) (RFl K Z) (calm (ms x ds w))
def JSu (S : aX) (i : Nat) (suite : List Stmt) (ms : XD → MS) : Prop := ∀ (X : Cx) (a : Addr) (oe : Obj) (cls : Value) (d : Option Addr) (pn : List (Addr × Obj)), Ctx S X → Zc cls d oe → (∃ vs, oe.data = .fields vs) → PSs (X.suite a ((a, oe) :: pn)) suite (WU X.K i a cls d ms)
theorem eS.forget {K : PySem.W.Frag} {I : List Addr} {F : Hp} {ds : Sg} {s : L2.St} (h : ds.length = s.length) : eS K I F (forget ds) s := by
 refine ⟨by simp [Pc.forget, h], fun i d e => ?_⟩
 unfold Pc.forget at e
 rw [List.getElem?_replicate] at e
 split at e <;> cases e
def Top (X : Cx) : Prop := X.stack = X.env :: X.outer ∧ X.env.frame = some X.env.locals
def JST (S : aX) (st : Stmt) (m : MS) : Prop := ∀ X E, Ctx S X → n9 X E → Top X → PS X st (C2 X.K E m)
def NI (S : aX) (st : List Stmt) (m : MS) : Prop := ∀ X E, Ctx S X → n9 X E → Top X → PSs X st (C2 X.K E m)
theorem JS.t {S : aX} {st : Stmt} {m : MS} (h : JS S st m) : JST S st m := fun X E cx xo _ => h X E cx xo
theorem tV.t {S : aX} {st : List Stmt} {m : MS} (h : tV S st m) : NI S st m := fun X E cx xo _ => h X E cx xo
theorem E8 {S : aX} {st : Stmt} {sts : List Stmt} {a b : MS} (h1 : JST S st a) (h2 : NI S sts b) : NI S (st :: sts) (aI a b) := fun X E cx xo t =>
 z3 (pss_cons (h1 X E cx xo t) (h2 X E cx xo t)) fun Z σ H h => GJ h
theorem TJ {S : aX} {st : Stmt} {a : MS} (h1 : JST S st a) : NI S [st] a := fun X E cx xo t => pss_one (h1 X E cx xo t)
theorem YQ {S : aX} {Hc : Addr} {l : List (Addr × Bool)} {i : Nat} {x n : Str} {body suite : List Stmt} {b₀ : Stmt} {np pos pos' : Pos} {mb : MS} {ms : XD → MS} (hi : S.N[i]? = some n) (hln : S.sc.names.lookup n = some .local) (hg : S.sc.names.lookup x = some .globalImplicit) (hm : S.mg x = some (.ref Hc))
  (km : P7 S.K Hc l) (hb : tV S body mb) (hs : JSu S i (b₀ :: suite) ms) (hdb : (x == ("__debug__" : Str)) = false := by decide) :
  JST S (.Try body [.ExceptHandler (some (.Name x np)) (some n) (b₀ :: suite) pos'] [] [] pos) (IC mb l i ms) := fun X E cx xo ⟨s1, s2⟩ => by
 have hi' : X.N[i]? = some n := by rw [cx.N]; exact hi
 have PT := ps_try_as (X := X) (i := i) (x := x) (n := n) (np := np) (pos := pos) (pos' := pos') (body := body) (b₀ := b₀) (suite := suite) (c := .ref Hc) (tb := fun W => C2 X.K (fun cls d H => ∀ σ' : L2.St, σ'.length = X.N.length → W cls d σ' H) mb) (ts := fun a cls d => WU X.K i a cls d ms) (Wout := fun cls d _ H => E cls d H) s1 s2 cx.nd hi' (by show X.env.scope.names.lookup n = _; rw [cx.sc]; exact hln)
  ⟨by show X.env.scope.names.lookup x = _; rw [cx.sc]; exact hg, hdb, .inl (by rw [cx.mg]; exact hm)⟩ xo.tk (fun W pn xe tk ow => by
   have cx' : Ctx S (X.tr pn xe) := ⟨cx.P, cx.w, cx.K, cx.mg, cx.base, cx.N, cx.sc, cx.fn, cx.calm, cx.room, cx.gds, cx.nd⟩
   refine hb (X.tr pn xe) _ cx' ⟨fun u s' ⟨a, B, sI, pins, σ, H, cls, d, e, J, nb, up, sky, na, os, ag, w⟩ => ?_, ow⟩
   exact tk u s' ⟨a, B, sI, pins, σ, H, cls, d, e, J, nb, up, sky, na, os, ag, w σ J.len⟩) (fun a oe cls d pn hz hf => hs X a oe cls d pn cx hz hf)
 refine ⟨fun pins s σ H Z J ⟨I, F, G, ds, w, rel, rs, p⟩ => PT.run pins s σ H Z J ?_⟩
 have hlen0 : ds.length = X.N.length := by rw [rs.1]; exact J.len
 refine ⟨I, F, G, ds, w, rel, rs, ?_⟩
 unfold IC at p
 cases hr : mb ds w with
 | ok f w1 => rw [hr] at p; exact p
 | bad => rw [hr] at p; exact p.elim
 | sW z w1 =>
  rw [hr] at p
  intro I' F' H' c d e rel' rx σ' hlen
  have ec : c = z.cls := rx.1
  have hl : ds.length = σ'.length := by rw [hlen, hlen0]
  simp only at p
  cases hk : kmL l z.cls with
  | none => rw [hk] at p; exact p.elim
  | some b =>
   rw [hk] at p
   have hex : PySem.W.exmOne X.K c (.ref Hc) = some b := by
    rw [ec, cx.K]
    unfold kmL at hk
    split at hk
    ·rename_i a ha
     rw [ha]
     exact km a b hk
    ·cases hk
   refine ⟨b, hex, fun hb a na => ?_, fun hb => ?_⟩
   ·subst hb
    simp only at p
    have hin : i < σ'.length := by rw [hlen]; exact (ai.mp hi').1
    refine ⟨av hin, I', F', G, forget ds, w1, z, rel', eS.forget (by rw [cf]; exact hl), rx, ?_⟩
    have p' := (a6.ext (a6.bind p) e)
    cases hq : calm (ms z (forget ds) w1) with
    | bad => rw [hq] at p'; exact p'.elim
    | sW y w2 => unfold calm at hq; split at hq <;> cases hq
    | ok f w2 =>
     rw [hq] at p'
     intro I2 F2 H2 e2 rel2
     have p2 := p' I2 F2 H2 e2 rel2
     have p3 := p2 I2 F2 H2 .refl rel2
     cases f with
     | nx s => exact fun s' hs' => p3 (s'.set i none) (hs'.unset i none)
     | rt d => exact fun v hv => p3 v hv
     | bk s => exact fun s' hs' => p3 (s'.set i none) (hs'.unset i none)
     | ct s => exact fun s' hs' => p3 (s'.set i none) (hs'.unset i none)
   ·subst hb
    exact p I' F' H' c d e rel' rx
theorem iV.ofT {S : aX} {x qual : Str} {params : Arguments} {body : List Stmt} {scope : Scope} {dvs : List V} {kws : List (Str × V)} {f : Addr} {fd : FuncData} {N ps : List Str} {k : Nat} {mb : MS} {m : MF}
  (F : FunD S.K x qual params body scope dvs kws f fd) (Sc : FnScope N ps scope) (hb : NI (S.body k N scope) body mb) (hm : ∀ ds w, ds.length = ps.length → Fits w (m ds w) (bM mb N ds w)) : iV S.P S.w S.K S.mg S.base (k + 1) f fd ps m := by
 refine ⟨fun A outer s H args us vs Q E hr hg e0 hbt r hl hsp => ?_⟩
 obtain ⟨oc, od, dV, kV, doc, pm, an, cdv, ct, osl, rfl, lk, hcd, _, _⟩ := F.ex
 have KX : S.K.In s.heap := e0.mod.kin.keeps fun b o e => (e0.bs b o e).1
 have lim : s.heap.NoLimit := e0.mod.nolimit.keeps fun b o e => (e0.bs b o e).1
 have kinds : ∀ y ∈ ps.zip us, scope.names.lookup y.1 = some .local ∨ (scope.names.lookup y.1 = some .cell ∧ ((cellsFrom (s.heap.objs.size + 1) scope.names []).lookup y.1).isSome = true) := by
  rintro ⟨n, v⟩ hy
  have hn : n ∈ ps := (List.of_mem_zip hy).1
  rcases Sc.par n hn with q | q
  ·exact Or.inl q
  ·exact Or.inr ⟨q, PySem.W.cellsFrom_some _ _ _ (.inl q)⟩
 refine codeAny_call_function hr.depth (KX _ _ lk) rfl Sc.co Sc.gen rfl (PySem.W.codeRec_of KX hcd) (hbt _ _ _ _ ?_)
 refine wpAny_newFunctionEnv_cells Sc.kind kinds fun env he s1 y => ?_
 subst he
 refine ⟨lim.keeps y.toInCall.keep, codeAny_func ?_⟩
 obtain ⟨I, F0, G, ds, w, rel, rl, p⟩ := hsp
 have J : Inv (cxOf (L2.CX S.P S.w) S.P S.w S.K S.mg S.base N qual scope f cdv A outer s H E) [] (start N vs) H s1 := inv_start Sc hr.hd e0 hl r y
 have cx : Ctx (S.body k N scope) (cxOf (L2.CX S.P S.w) S.P S.w S.K S.mg S.base N qual scope f cdv A outer s H E) := ⟨rfl, rfl, rfl, rfl, rfl, rfl, rfl, fun _ _ => rfl, rfl, hr.deeper _, hg, Sc.nd⟩
 have xo : n9 (cxOf (L2.CX S.P S.w) S.P S.w S.K S.mg S.base N qual scope f cdv A outer s H E) E := ⟨takes_of rfl rfl rfl rfl, passes_of rfl⟩
 have p' : a6 S.K I F0 G E (RV S.K Q) (bM mb N ds w) := p.fits rel (hm ds w (by rw [rl.length]; exact hl))
 have go := (hb _ E cx xo ⟨rfl, rfl⟩).run [] s1 (start N vs) H { nx := fun _ H' => Q .non H', rt := Q } J ⟨I, F0, G, begin N ds, w, rel, rl.O8 N, (a6.bind p').mono fun I1 F1 H1 fl w1 _ e1 rel1 p1 => ?_⟩
 ·refine wpAny_mono go (fun fl s' hs => ?_) fun e s' hs => hs
  cases fl with
  | ret u =>
   obtain ⟨v, σ', H', J', rv, q⟩ := hs
   exact ⟨v, H', J'.os, J'.bare, J'.base, J'.hok, rv, q⟩
  | next =>
   obtain ⟨σ', H', J', q⟩ := hs
   exact ⟨V.non, H', J'.os, J'.bare, J'.base, J'.hok, rfl, q⟩
  | brk =>
   obtain ⟨_, _, _, q⟩ := hs
   exact q.elim
  | cont =>
   obtain ⟨_, _, _, q⟩ := hs
   exact q.elim
 ·cases fl with
  | nx z => exact fun s' _ => p1.n8 rel1 (by simp [aJ])
  | rt d => exact fun v rv => p1.n8 rel1 rv
  | bk z => exact p1.elim
  | ct z => exact p1.elim
def uR (Cs : List Addr) (f : Str) (x : XD) : Option D := match x.cls, x.fs with
 | .ref C, some fs => if Cs.contains C = true then fs.lookup f else none
 | _, _ => none
def SY (K : PySem.W.Frag) (Cs : List Addr) (f : Str) : Prop := ∀ C ∈ Cs, XfC K C ∧ PySem.W.findIn K (.ref C) f = some none
theorem S3 {K : PySem.W.Frag} {I : List Addr} {F H : Hp} {x : XD} {cls : Value} {d : Option Addr} {Cs : List Addr} {f : Str} {y : D} (rx : u6 K I F H x cls d) (e : uR Cs f x = some y) :
  ∃ C dd fs v, C ∈ Cs ∧ cls = .ref C ∧ d = some dd ∧ H dd = some (.xd fs) ∧ fs.lookup f = some v ∧ aJ K I F y v := by
 obtain ⟨ec, h⟩ := rx
 unfold uR at e
 split at e
 ·rename_i C gs h1 h2
  rw [h2] at h
  obtain ⟨dd, r, e1, e2, e3⟩ := h
  split at e
  ·rename_i hc
   have := aQ.lookup f e3
   rw [e] at this
   obtain ⟨v, e4, e5⟩ := this
   exact ⟨C, dd, r, v, by simpa using hc, by rw [ec, h1], e1, e2, e4, e5⟩
  ·cases e
 ·cases e
def GC (Cs : List Addr) (f : Str) (j : Nat) : XD → MS := fun x σ w => match uR Cs f x with
 | some y => .ok (.nx (σ.set j (some y))) w
 | none => .bad
theorem YT {S : aX} {i j : Nat} {n v f : Str} {Cs : List Addr} {p1 p2 p3 p4 : Pos} (hi : S.N[i]? = some n) (hln : S.sc.names.lookup n = some .local) (hj : S.N[j]? = some v) (hlv : S.sc.names.lookup v = some .local) (xf : SY S.K Cs f)
  (d1 : (n == ("__debug__" : Str)) = false := by decide) (d2 : (n == ("__classdict__" : Str)) = false := by decide) (hb : ∀ env : Env, attributeBase (.Name n p1) f env (eval (.Name n p1) env) = eval (.Name n p1) env := by intro _; rfl)
  (hs : ∀ env : Env, swapsWithSole [.Name v p3] (.Attribute (.Name n p1) f p2) p4.line env = pure false := by intro _; rfl) (hw : ∀ env : Env, swappedStores [.Name v p3] (.Attribute (.Name n p1) f p2) env = pure none := by intro _; rfl)
  (h1 : ∀ env : Env, (assignEach [.Name v p3] env).map (·.2) = [assign (.Name v p3) env] := by intro _; rfl) :
  JSu S i [.Assign [.Name v p3] (.Attribute (.Name n p1) f p2) p4] (GC Cs f j) := fun X a oe cls d pn cx hz hf => by
 refine ⟨fun pins s σ H Z J ⟨hσ, I, F, G, ds, w, x, rel, rs, rx, p⟩ => ?_⟩
 unfold GC at p
 cases e : uR Cs f x with
 | none => rw [e] at p; exact p.elim
 | some y =>
  rw [e] at p
  obtain ⟨C, dd, fs, u, hC, ec, ed, hH, hl, rv⟩ := S3 rx e
  have xf' := xf C hC
  rw [← cx.K] at xf'
  have hloc : X.env.scope.names.lookup n = some .local := by rw [cx.sc]; exact hln
  have hlov : X.env.scope.names.lookup v = some .local := by rw [cx.sc]; exact hlv
  exact (pss_one (ps_asg (pe_xf xf'.1 xf'.2 hz hf (pe_var (i := i) (by show X.N[i]? = _; rw [cx.N]; exact hi) (.inl hloc) d1 d2) (hb _)) (pg_name (i := j) cx.nd (by show X.N[j]? = _; rw [cx.N]; exact hj) (.inl hlov) (.inr hlov)) (hs _) (hw _) (h1 _))).run pins s σ H Z J
   ⟨.ref a, hσ, rfl, ec, dd, fs, u, ed, hH, hl, (p I F H .refl rel) (σ.set j (some u)) (rs.set j rv)⟩
theorem ZF {K : PySem.W.Frag} {Hc : Addr} : P7 K Hc [] := fun a b e => nomatch e
theorem U3 {K : PySem.W.Frag} {Hc a : Addr} {b : Bool} {l : List (Addr × Bool)} (h : PySem.W.exmOne K (.ref a) (.ref Hc) = some b) (t : P7 K Hc l) : P7 K Hc ((a, b) :: l) := fun a' b' e => by
 rw [List.lookup_cons] at e
 by_cases q : a' = a
 ·subst q
  simp at e
  rw [← e]
  exact h
 ·have : (a' == a) = false := by simpa using q
  rw [this] at e
  exact t a' b' e
theorem Y8 {K : PySem.W.Frag} {f : Str} : SY K [] f := fun C h => nomatch h
theorem U2 {K : PySem.W.Frag} {C N fI : Addr} {f : Str} {l : List Addr} (h : ZU K C N fI f) (t : SY K l f) : SY K (C :: l) f := fun C' hC => by
 rcases br.mp hC with rfl | hC
 ·exact ⟨h.xf, h.no⟩
 ·exact t C' hC
def YE (K : PySem.W.Frag) (C : Addr) : Bool := match K.lookup C with
 | some ⟨.type t, _, .cls ⟨_, _, .ref C' :: bm, _, _, hd, _, _, _, _, del⟩, ⟨[_, _, _, _, some (.builtin n), _]⟩⟩ => t == "type" && decide (C' = C) && hd && !del && n == "ValueError.__new__" && PySem.HandSPX.refsVE bm
 | _ => false
theorem UO {K : PySem.W.Frag} {C : Addr} (h : YE K C = true) : ∃ nm q N bs bm sn sub ab col dd k0 k1 k2 k3 k5, K.lookup C = some (excClassObj nm q C N bs bm true sn sub ab col dd k0 k1 k2 k3 k5 "ValueError.__new__") ∧ PySem.HandSPX.refsVE bm = true := by
 unfold YE at h
 split at h
 ·rename_i t dd nm bs C' bm N q hd sn sub ab col del k0 k1 k2 k3 n k5 e
  simp only [ak, beq_iff_eq, au, Bool.not_eq_true'] at h
  obtain ⟨⟨⟨⟨⟨rfl, rfl⟩, rfl⟩, rfl⟩, rfl⟩, h6⟩ := h
  exact ⟨nm, q, N, bs, bm, sn, sub, ab, col, dd, k0, k1, k2, k3, k5, e, h6⟩
 ·cases h
def YY : Option PySem.W.CFound → String → Bool
 | some (.val (.builtin n)), x => n == x
 | _, _ => false
theorem VR {r : Option PySem.W.CFound} {x : String} (h : YY r x = true) : r = some (.val (.builtin x)) := by
 unfold YY at h
 split at h
 ·rw [beq_iff_eq] at h
  rw [h]
 ·cases h
def X1 (K : PySem.W.Frag) (C N fI : Addr) (f : Str) : Bool :=
 YE K C && He.eqO (PySem.W.findIn K (.ref C) "__setattr__") (some (some (.builtin "object.__setattr__"))) && decide (PySem.W.subIn K (.ref C) (.type "BaseException") = some true) && decide (PySem.W.typeIn K (.ref C) = some (.type "type")) && PySem.W.keepIn K (.ref C) &&
 He.eqO (PySem.W.findIn K (.ref C) "__init__") (some (some (.ref fI))) && decide (PySem.W.typeIn K (.ref fI) = some (.type "function")) && He.eqO (PySem.W.findIn K (.ref C) f) (some none) && xfB K C &&
 PySem.W.readsIn K N (.type "type") && He.eqO (PySem.W.specialIn K (.ref N) "__getattribute__") (some (some (.builtin "type.__getattribute__"))) && YY (PySem.W.findCls K (.ref N) (.type "type") "__init__") "ValueError.__init__"
theorem VY {K : PySem.W.Frag} {C N fI : Addr} {f : Str} (h : X1 K C N fI f = true) : ZU K C N fI f := by
 unfold X1 at h
 simp only [ak, au] at h
 obtain ⟨⟨⟨⟨⟨⟨⟨⟨⟨⟨⟨h1, h2⟩, h3⟩, h4⟩, h5⟩, h6⟩, h7⟩, h8⟩, h9⟩, h10⟩, h11⟩, h12⟩ := h
 exact ⟨⟨UO h1, He.eqO_ok h2, h3, h4, h5⟩, He.eqO_ok h6, h7, He.eqO_ok h8, xfB_ok h9, ⟨h10, He.eqO_ok h11⟩, VR h12⟩
def aAp (K : PySem.W.Frag) (C Hc : Addr) (b : Bool) : Bool := decide (PySem.W.exmOne K (.ref C) (.ref Hc) = some b)
theorem UA {K : PySem.W.Frag} {C Hc : Addr} {b : Bool} (h : aAp K C Hc b = true) : PySem.W.exmOne K (.ref C) (.ref Hc) = some b := of_decide_eq_true h
theorem Q8 {K : PySem.W.Frag} {fd : FuncData} {ps : List Str} (h : ∀ (s : Shared) (us : List Value), us.length = ps.length → BindsTo s fd ⟨us, []⟩ (ps.zip us)) : Binds K fd ps [] := fun s us _ hl => by
 rw [List.append_nil] at hl ⊢
 exact h s us hl
def sF (d : D) (w : W) : Res jN := match d with
 | .ref i => (match w[i]? with
  | some (.dT kvs) => .ok ⟨kvs.map fun p => .tup (p.1.map gF), always⟩ (w.set i (.dG kvs))
  | some (.dG kvs) => .ok ⟨kvs.map fun p => .tup (p.1.map gF), always⟩ w
  | _ => .bad)
 | _ => .bad
def qU (m : ME) : MI := fun σ w => (m σ w).bind sF
def XG (te : TE) : TE := fun σ H Q => te σ H fun x H1 => ∃ d, x = V.ref d ∧ ((∃ kvs, H1 d = some (.dT kvs) ∧ ∀ o, Q x (upd H1 d (.frz o (.dT kvs)))) ∨ ∃ o kvs, H1 d = some (.frz o (.dT kvs)) ∧ Q x H1)
theorem RR {X : Cx} {e : Expr} {te : TE} (h : PE X e te) : PE X e (XG te) := ⟨fun pins s σ H Q J q => thn (h.run pins s σ H _ J q) fun u s1 ⟨x, H1, J1, r, d, ex, k⟩ => by
 rcases k with ⟨kvs, hd, k⟩ | ⟨o, kvs, hd, k⟩
 ·obtain ⟨o, J2⟩ := J1.lock hd trivial
  exact ⟨x, _, J2, r, k o⟩
 ·exact ⟨x, _, J1, r, k⟩⟩
theorem E1 {K : PySem.W.Frag} {I : List Addr} {F : Hp} : ∀ ks : List Key, RepL K I F (ks.map gF) (ks.map kV)
 | [] => by simp [RepL]
 | k :: ks => RepL.cons (vJ k) (E1 ks)
theorem P2 {K : PySem.W.Frag} {I : List Addr} {F G H : Hp} {w : W} {ds : List D} {vs : List V} (rel : Rel K I F G w H) (r : ∀ F', RepL K I F' ds vs) {q : Addr} (hq : H q = some (.tup vs)) : ∃ F2, Ext I F I F2 ∧ Rel K I F2 G w H ∧ aJ K I F2 (.tup ds) (.ref q) := by
 cases hF : F q with
 | some u =>
  have := rel.fz _ _ hF
  rw [hq] at this
  cases this
  refine ⟨F, .refl, rel, ?_⟩
  simp only [aJ]
  exact ⟨q, vs, rfl, hF, r F⟩
 | none =>
  have e : Ext I F I (upd F q (.tup vs)) := ⟨List.prefix_refl _, fun a u h => by rw [upd_ne (ne_of_none h hF)]; exact h⟩
  refine ⟨_, e, ⟨rel.len, rel.nd, fun i a o h1 h2 => ?_, fun a u h => ?_, fun i a o h h0 hf => ?_, rel.gz, fun a u h => ?_, rel.gt⟩, ?_⟩
  ·obtain ⟨u, h3, h4⟩ := rel.ob i a o h1 h2
   exact ⟨u, h3, iZ.ext e h4⟩
  ·by_cases ha : a = q
   ·subst ha; rw [upd_same] at h; cases h; exact hq
   ·rw [upd_ne ha] at h; exact rel.fz a u h
  ·have ha : a ≠ q := fun z => by
    subst z
    obtain ⟨u, h3, h4⟩ := rel.ob i a o h h0
    rw [hq] at h3
    cases h3
    cases o with
    | lst xs => obtain ⟨_, z, _⟩ := h4; cases z
    | dK xs => obtain ⟨_, z, _⟩ := h4; cases z
    | dT xs => obtain ⟨_, z, _⟩ := h4; cases z
    | dF xs => cases hf
    | dG xs => cases hf
    | ins C xs => obtain ⟨_, _, z, _⟩ := h4; cases z
   rw [upd_ne ha]; exact rel.ap i a o h h0 hf
  ·have ha : a ≠ q := fun z => by
    subst z
    have := rel.gz a u h
    rw [hq] at this
    cases this
    exact rel.gt a vs h
   rw [upd_ne ha]; exact rel.gf a u h
  ·simp only [aJ]
   exact ⟨q, vs, rfl, upd_same, r _⟩
theorem N3 {K : PySem.W.Frag} {I : List Addr} {F G H : Hp} {w : W} {i : Nat} {a : Addr} {kvs : List (List Key × D)} {r : List (List Key × V)} (o : Obj) (rel : Rel K I F G w H) (hi : I[i]? = some a) (hw : w[i]? = some (.dT kvs)) (hr : aQ K I F kvs r) :
  Ext I F I (upd F a (.frz o (.dT r))) ∧ Rel K I (upd F a (.frz o (.dT r))) G (w.set i (.dG kvs)) (upd H a (.frz o (.dT r))) := by
 have hF : F a = none := rel.ap i a _ hi hw rfl
 have rel' := rel.upd (u' := .frz o (.dT r)) (o' := .dG kvs) hi hw ⟨o, r, rfl, hr⟩
 have e : Ext I F I (upd F a (.frz o (.dT r))) := ⟨List.prefix_refl _, fun b u h => by rw [upd_ne (ne_of_none h hF)]; exact h⟩
 refine ⟨e, rel'.len, rel'.nd, fun j b q h1 h2 => ?_, fun b u h => ?_, fun j b q h1 h2 h3 => ?_, rel'.gz, fun b u h => ?_, rel.gt⟩
 ·obtain ⟨u, h3, h4⟩ := rel'.ob j b q h1 h2
  exact ⟨u, h3, iZ.ext e h4⟩
 ·by_cases hb : b = a
  ·subst hb; rw [upd_same] at h ⊢; exact h
  ·rw [upd_ne hb] at h; exact rel'.fz b u h
 ·have hb : b ≠ a := fun z => by
   subst z
   obtain ⟨l1, e1⟩ := ai.mp hi
   obtain ⟨l2, e2⟩ := ai.mp h1
   have hij : i = j := (List.getElem_inj rel.nd).mp (e1.trans e2.symm)
   subst hij
   rw [av (ai.mp hw).1] at h2
   cases h2
   cases h3
  rw [upd_ne hb]; exact rel'.ap j b q h1 h2 h3
 ·obtain ⟨g1, g2⟩ := rel.gf b u h
  have hb : b ≠ a := fun z => g2 (by rw [z]; exact bf hi)
  exact ⟨by rw [upd_ne hb]; exact g1, g2⟩
theorem QC {K : PySem.W.Frag} {I : List Addr} {F G H : Hp} {w : W} {i : Nat} {a : Addr} {kvs : List (List Key × D)} {o : Obj} {r : List (List Key × V)} (rel : Rel K I F G w H) (hi : I[i]? = some a) (hw : w[i]? = some (.dG kvs)) (ha : H a = some (.frz o (.dT r))) :
  ∃ F2, Ext I F I F2 ∧ Rel K I F2 G w H ∧ F2 a = some (.frz o (.dT r)) := by
 cases hF : F a with
 | some u =>
  have := rel.fz _ _ hF
  rw [ha] at this
  cases this
  exact ⟨F, .refl, rel, hF⟩
 | none =>
  have e : Ext I F I (upd F a (.frz o (.dT r))) := ⟨List.prefix_refl _, fun b u h => by rw [upd_ne (ne_of_none h hF)]; exact h⟩
  refine ⟨_, e, ⟨rel.len, rel.nd, fun j b q h1 h2 => ?_, fun b u h => ?_, fun j b q h1 h2 h3 => ?_, rel.gz, fun b u h => ?_, rel.gt⟩, upd_same⟩
  ·obtain ⟨u, h3, h4⟩ := rel.ob j b q h1 h2
   exact ⟨u, h3, iZ.ext e h4⟩
  ·by_cases hb : b = a
   ·subst hb; rw [upd_same] at h; cases h; exact ha
   ·rw [upd_ne hb] at h; exact rel.fz b u h
  ·have hb : b ≠ a := fun z => by
    subst z
    obtain ⟨l1, e1⟩ := ai.mp hi
    obtain ⟨l2, e2⟩ := ai.mp h1
    have hij : i = j := (List.getElem_inj rel.nd).mp (e1.trans e2.symm)
    subst hij
    rw [hw] at h2
    cases h2
    cases h3
   rw [upd_ne hb]; exact rel.ap j b q h1 h2 h3
  ·obtain ⟨g1, g2⟩ := rel.gf b u h
   have hb : b ≠ a := fun z => g2 (by rw [z]; exact bf hi)
   exact ⟨by rw [upd_ne hb]; exact g1, g2⟩
theorem LW {K : PySem.W.Frag} {I1 : List Addr} {F2 : Hp} {a : Addr} {o : Obj} {kvs : List (List Key × D)} {r : List (List Key × V)} (hF : F2 a = some (.frz o (.dT r))) (hr : aQ K I1 F2 kvs r) : zG K I1 F2 (Itkt a o r) ⟨kvs.map fun p => .tup (p.1.map gF), always⟩ := fun I' F' G' w' H' j e' rel' _ => by
 have hH : H' a = some (.frz o (.dT r)) := rel'.fz _ _ (e'.f _ _ hF)
 have hr' := aQ.ext e' _ _ hr
 have hlen : kvs.length = r.length := hr.length
 refine ⟨fun x hx => ?_, fun hl' => ⟨hH, by rw [bq] at hl'; omega⟩⟩
 rw [bw] at hx
 cases hk : kvs[j]? with
 | none => rw [hk] at hx; cases hx
 | some kd =>
  rw [hk] at hx
  cases hx
  refine ⟨⟨hH, by rw [← hlen]; exact (ai.mp hk).1⟩, fun v H'' y => ?_⟩
  obtain ⟨rfl, k, v', q, g1, rfl, g2⟩ := y
  obtain ⟨d', g3, _⟩ := hr'.get g1
  rw [hk] at g3
  cases g3
  exact P2 rel' (fun F' => E1 k) g2
theorem UC {S : aX} {tg e : Expr} {m : ME} (he : JE S e m) : JI S tg e (qU m) := fun X E cx xo =>
 qP (pi_keys (RR (he X E cx xo))) fun σ H R ⟨I, F, G, ds, w, rel, rs, p⟩ => bO (f := fun _ => sF) rel rs p fun I1 F1 H1 d w1 v e1 rel1 rs1 rv p1 => by
  unfold sF at p1
  split at p1
  ·rename_i i
   simp only [aJ] at rv
   obtain ⟨a, rfl, hi⟩ := rv
   split at p1
   ·rename_i kvs hw
    obtain ⟨u, hu, r, rfl, hr⟩ := rel1.ob i a _ hi hw
    refine ⟨a, rfl, .inl ⟨r, hu, fun o => ⟨a, o, rfl, .inr ⟨r, upd_same, ?_⟩⟩⟩⟩
    obtain ⟨e2, rel2⟩ := N3 o rel1 hi hw hr
    exact p1 I1 _ _ e2 rel2 trivial _ (LW upd_same (aQ.ext e2 _ _ hr))
   ·rename_i kvs hw
    obtain ⟨u, hu, o, r, rfl, hr⟩ := rel1.ob i a _ hi hw
    refine ⟨a, rfl, .inr ⟨o, r, hu, a, o, rfl, .inr ⟨r, hu, ?_⟩⟩⟩
    obtain ⟨F2, e2, rel2, hF2⟩ := QC rel1 hi hw hu
    exact p1 I1 F2 _ e2 rel2 trivial _ (LW hF2 (aQ.ext e2 _ _ hr))
   ·exact p1.elim
  ·exact p1.elim
abbrev Ez : XK := fun _ _ _ => False
theorem a6.calm {α β : Type} {K : PySem.W.Frag} {I : List Addr} {F G : Hp} {E : XK} {R : List Addr → Hp → Hp → β → W → Prop} {r : Res α} {f : α → W → Res β} (p : a6 K I F G E R ((Pc.calm r).bind f)) : a6 K I F G Ez (fun I1 F1 _ x w1 => a6 K I1 F1 G E R (f x w1)) r := by
 cases r with
 | ok a w => exact fun I' F' H' e rel => a6.ext p e
 | sW x w => exact False.elim p
 | bad => exact False.elim p
theorem Rel.hold {K : PySem.W.Frag} {I : List Addr} {F G H : Hp} {w : W} {x : XD} {c : Value} {d : Option Addr} (rel : Rel K I F G w H) (rx : u6 K I F H x c d) :
  ∃ G', Rel K I F G' w H ∧ (∀ I2 F2 w2 H2, Ext I F I2 F2 → Rel K I2 F2 G' w2 H2 → Rel K I2 F2 G w2 H2 ∧ u6 K I2 F2 H2 x c d) := by
 obtain ⟨ec, hx⟩ := rx
 cases hf : x.fs with
 | none =>
  rw [hf] at hx
  exact ⟨G, rel, fun I2 F2 w2 H2 e r2 => ⟨r2, ec, by rw [hf]; exact hx⟩⟩
 | some fs =>
  rw [hf] at hx
  obtain ⟨a, r, e1, e2, e3⟩ := hx
  have fin : ∀ {I2 F2 H2}, Ext I F I2 F2 → H2 a = some (.xd r) → u6 K I2 F2 H2 x c d := fun e h => ⟨ec, by rw [hf]; exact ⟨a, r, e1, h, aQ.ext e _ _ e3⟩⟩
  have nI : a ∉ I := fun hm => by
   obtain ⟨i, hi⟩ := List.mem_iff_getElem?.mp hm
   have li : i < w.length := by rw [← rel.len]; exact (ai.mp hi).1
   obtain ⟨u, h1, h2⟩ := rel.ob i a w[i] hi (bg li)
   rw [e2] at h1
   cases h1
   cases hw : w[i] with
   | lst xs => rw [hw] at h2; obtain ⟨_, z, _⟩ := h2; cases z
   | dK xs => rw [hw] at h2; obtain ⟨_, z, _⟩ := h2; cases z
   | dT xs => rw [hw] at h2; obtain ⟨_, z, _⟩ := h2; cases z
   | dF xs => rw [hw] at h2; obtain ⟨_, _, z, _⟩ := h2; cases z
   | dG xs => rw [hw] at h2; obtain ⟨_, _, z, _⟩ := h2; cases z
   | ins C xs => rw [hw] at h2; obtain ⟨_, _, z, _⟩ := h2; cases z
  cases hF : F a with
  | some u =>
   have hu := rel.fz a u hF
   rw [e2] at hu
   cases hu
   exact ⟨G, rel, fun I2 F2 w2 H2 e r2 => ⟨r2, fin e (r2.fz a _ (e.f a _ hF))⟩⟩
  | none =>
   cases hG : G a with
   | some u =>
    have hu := rel.gz a u hG
    rw [e2] at hu
    cases hu
    exact ⟨G, rel, fun I2 F2 w2 H2 e r2 => ⟨r2, fin e (r2.gz a _ hG)⟩⟩
   | none =>
    refine ⟨L2.upd G a (.xd r), ⟨rel.len, rel.nd, rel.ob, rel.fz, rel.ap, fun b v hb => ?_, fun b v hb => ?_, fun b xs hb => ?_⟩, fun I2 F2 w2 H2 e r2 => ⟨r2.less hG, fin e (r2.gz a _ upd_same)⟩⟩
    ·by_cases q : b = a
     ·subst q
      rw [upd_same] at hb
      cases hb
      exact e2
     ·rw [upd_ne q] at hb
      exact rel.gz b v hb
    ·by_cases q : b = a
     ·subst q
      exact ⟨hF, nI⟩
     ·rw [upd_ne q] at hb
      exact rel.gf b v hb
    ·by_cases q : b = a
     ·subst q
      rw [upd_same] at hb
      cases hb
     ·rw [upd_ne q] at hb
      exact rel.gt b xs hb
def aAI (K : PySem.W.Frag) : Prop := ∃ o, K.lookup sysModules = some o ∧ o.cls = .type "dict"
mutual
inductive Dq (K : PySem.W.Frag) (H : Hp) : V → PyData → Prop
 | non : Dq K H .non .none
 | bl (b : Bool) : Dq K H (.bl b) (.bool b)
 | int (i : Int) : Dq K H (.int i) (.int i)
 | str (x : Str) : Dq K H (.str x) (.str x)
 | lst {a : Addr} {xs : List V} {ds : List PyData} : SqL K H a xs → DqAll K H xs ds → Dq K H (.ref a) (.list ds)
 | tup {a : Addr} {xs : List V} {ds : List PyData} : SqT K H a xs → DqAll K H xs ds → Dq K H (.ref a) (.tuple ds)
 | emp {a : Addr} : (H a = some (.dK []) ∨ H a = some (.dT [])) → Dq K H (.ref a) (.dict [])
inductive DqAll (K : PySem.W.Frag) (H : Hp) : List V → List PyData → Prop
 | nil : DqAll K H [] []
 | cons {v : V} {vs : List V} {d : PyData} {ds : List PyData} : Dq K H v d → DqAll K H vs ds → DqAll K H (v :: vs) (d :: ds)
end
theorem U9 {P : Program} {w : World} {H : Hp} {h : Heap} {a : Addr} {o : HO} (x : ObjOk P w H h a o) (e : o = .dK [] ∨ o = .dT []) : (a == sysModules) = false ∧ ∃ ob es n, h.get? a = some ob ∧ ob.cls = .type "dict" ∧ ob.data = .dict es n ∧ es.toList = [] := by
 rcases e with rfl | rfl
 ·obtain ⟨_, ns, vs, kv, o, es, n, e1, e2, e3, e4, e5⟩ := x
  cases kv
  have e6 := e5.1
  refine ⟨ns, o, es, n, e1, e2.1, e3, ?_⟩
  generalize es.toList = l at e6
  cases l with
  | nil => rfl
  | cons x l => cases e6
 ·obtain ⟨_, ns, xs, pr, o, es, n, e1, e2, e3, e4, e5⟩ := x
  cases pr
  exact ⟨ns, o, es, n, e1, e2.1, e3, by rw [e4]; rfl⟩
section
variable {X : Cx} {pins : List (Addr × Obj)} {σ : L2.St} {H : Hp} {s : Shared}
mutual
theorem Dq.reads (hS : aAI X.K) (I : Inv X pins σ H s) : ∀ (d : PyData) (v : V) (u : Value), Dq X.K H v d → RelV v u → ∃ as, Reads s.heap u d as ∧ sysModules ∉ as
 | .none, _, _, h, r => by
  cases h
  cases r
  exact ⟨_, Reads.none, by simp⟩
 | .bool b, _, _, h, r => by
  cases h
  cases r
  exact ⟨_, Reads.bool b, by simp⟩
 | .int i, _, _, h, r => by
  cases h
  obtain ⟨t, rfl⟩ := r
  exact ⟨_, Reads.int i t, by simp⟩
 | .str x, _, _, h, r => by
  cases h
  obtain ⟨t, rfl⟩ := r
  exact ⟨_, Reads.str x t, by simp⟩
 | .list ds, _, _, h, r => by
  cases h with
  | lst hs ha =>
   cases r
   obtain ⟨its, rv, ⟨o, n, ho, hc, _, hd⟩, _⟩ := I.list hs
   obtain ⟨as, hr, ns⟩ := Dq.readsAll hS I ds _ its ha rv
   refine ⟨_, Reads.list ho hc hd hr, fun hm => ?_⟩
   rcases br.mp hm with e | e
   ·obtain ⟨o2, h1, h2⟩ := hS
    have := I.kIn _ _ h1
    rw [e, ho] at this
    cases this
    rw [h2] at hc
    exact absurd (Value.type.inj hc) (by decide)
   ·exact ns e
 | .tuple ds, _, _, h, r => by
  cases h with
  | tup hs ha =>
   cases r
   obtain ⟨its, rv, ⟨o, ho, hc, n, hd⟩, _⟩ := I.tuple hs
   obtain ⟨as, hr, ns⟩ := Dq.readsAll hS I ds _ its ha rv
   exact ⟨_, Reads.tuple ho hc hd hr, ns⟩
 | .dict kvs, _, _, h, r => by
  cases h with
  | emp he =>
   cases r
   rename_i a
   have hx : ∃ o, H a = some o ∧ (o = .dK [] ∨ o = .dT []) := by
    rcases he with he | he
    ·exact ⟨_, he, .inl rfl⟩
    ·exact ⟨_, he, .inr rfl⟩
   obtain ⟨o, h1, h2⟩ := hx
   obtain ⟨ne, ob, es, n, e1, e2, e3, e4⟩ := U9 (I.hok a o h1) h2
   have r0 : ReadsAll s.heap (es.toList.map (·.key)) (([] : List (PyData × PyData)).map (·.1)) [] := by rw [e4]; exact .nil
   have r1 : ReadsAll s.heap (es.toList.map (·.val)) (([] : List (PyData × PyData)).map (·.2)) [] := by rw [e4]; exact .nil
   refine ⟨_, Reads.dict e1 e2 e3 r0 r1, fun hm => ?_⟩
   have : sysModules = a := by simpa using hm
   rw [← this] at ne
   simp at ne
theorem Dq.readsAll (hS : aAI X.K) (I : Inv X pins σ H s) : ∀ (ds : List PyData) (vs : List V) (us : List Value), DqAll X.K H vs ds → Vals vs us → ∃ as, ReadsAll s.heap us ds as ∧ sysModules ∉ as
 | [], _, _, h, r => by
  cases h
  cases r
  exact ⟨_, ReadsAll.nil, by simp⟩
 | d :: ds, _, _, h, r => by
  cases h with
  | cons h1 h2 =>
   cases r with
   | cons r1 r2 =>
    obtain ⟨as, q1, n1⟩ := Dq.reads hS I d _ _ h1 r1
    obtain ⟨bs, q2, n2⟩ := Dq.readsAll hS I ds _ _ h2 r2
    exact ⟨_, ReadsAll.cons q1 q2, fun hm => by
     rcases List.mem_append.mp hm with e | e
     ·exact n1 e
     ·exact n2 e⟩
end
end
section
variable {K : PySem.W.Frag} {I : List Addr} {F G H : Hp} {w : W}
mutual
theorem YG (rel : Rel K I F G w H) {f : Nat → Option PyData} (hf : ∀ i a p, I[i]? = some a → f i = some p → Dq K H (.ref a) p) : ∀ (d : D) (v : V) (p : PyData), aJ K I F d v → d.gN f = some p → Dq K H v p
 | .non, v, p, h, e => by simp only [aJ] at h; simp only [D.gN, aj] at e; subst h; subst e; exact .non
 | .bl b, v, p, h, e => by simp only [aJ] at h; simp only [D.gN, aj] at e; subst h; subst e; exact .bl b
 | .int i, v, p, h, e => by simp only [aJ] at h; simp only [D.gN, aj] at e; subst h; subst e; exact .int i
 | .str x, v, p, h, e => by simp only [aJ] at h; simp only [D.gN, aj] at e; subst h; subst e; exact .str x
 | .ty _, v, p, h, e => by simp [D.gN] at e
 | .con _, v, p, h, e => by simp [D.gN] at e
 | .G1 _ _, v, p, h, e => by simp [D.gN] at e
 | .tup xs, v, p, h, e => by
  simp only [aJ] at h
  obtain ⟨a, vs, rfl, h2, h3⟩ := h
  simp only [D.gN, ao] at e
  obtain ⟨ps, e1, rfl⟩ := e
  exact .tup (.of (rel.fz _ _ h2)) (dq_pysR rel hf xs vs ps h3 e1)
 | .kK xs, v, p, h, e => by
  simp only [aJ] at h
  obtain ⟨a, vs, rfl, h2, h3⟩ := h
  simp only [D.gN, ao] at e
  obtain ⟨ps, e1, rfl⟩ := e
  exact .tup (rel.KA h2) (dq_pysR rel hf xs vs ps h3 e1)
 | .lst xs, v, p, h, e => by
  simp only [aJ] at h
  obtain ⟨a, vs, rfl, h2, h3⟩ := h
  simp only [D.gN, ao] at e
  obtain ⟨ps, e1, rfl⟩ := e
  exact .lst (.of (rel.fz _ _ h2)) (dq_pysR rel hf xs vs ps h3 e1)
 | .nG xs, v, p, h, e => by
  simp only [aJ] at h
  obtain ⟨a, vs, rfl, h2, h3⟩ := h
  simp only [D.gN, ao] at e
  obtain ⟨ps, e1, rfl⟩ := e
  exact .lst (rel.RQ h2) (dq_pysR rel hf xs vs ps h3 e1)
 | .ref i, v, p, h, e => by
  simp only [aJ] at h
  obtain ⟨a, rfl, h2⟩ := h
  simp only [D.gN] at e
  exact hf i a p h2 e
theorem dq_pysR (rel : Rel K I F G w H) {f : Nat → Option PyData} (hf : ∀ i a p, I[i]? = some a → f i = some p → Dq K H (.ref a) p) : ∀ (ds : List D) (vs : List V) (ps : List PyData), RepL K I F ds vs → D.pysR f ds = some ps → DqAll K H vs ps
 | [], vs, ps, h, e => by simp only [RepL] at h; simp only [D.pysR, aj] at e; subst h; subst e; exact .nil
 | d :: ds, vs, ps, h, e => by
  simp only [RepL] at h
  obtain ⟨v, r, rfl, h2, h3⟩ := h
  simp only [D.pysR] at e
  split at e
  ·rename_i p ps' e1 e2
   cases e
   exact .cons (YG rel hf d v p h2 e1) (dq_pysR rel hf ds r ps' h3 e2)
  ·cases e
end
end
def zH : MF := fun ds w => match ds with
 | [.ref i] => (match w[i]? with
  | some (.dT kvs) => .ok (.int ((kvs.length : Nat) : Int)) w
  | _ => .bad)
 | _ => .bad
theorem Q3 {S : aX} : CB S (.builtin "len") zH := uF fun X E c xo I F G ds w H vs Q rel rl p => by
 unfold zH at p
 split at p
 ·rename_i i
  obtain ⟨v, rfl, rv⟩ := rl.one
  simp only [aJ] at rv
  obtain ⟨a, rfl, hi⟩ := rv
  split at p
  ·rename_i kvs hw
   obtain ⟨u, hu, r, rfl, hr⟩ := rel.ob i a _ hi hw
   refine ⟨_, call_len_dT, a, r, rfl, hu, p.n8 rel ?_⟩
   rw [← aQ.len hr]
   simp [aJ]
  ·exact p.elim
 ·exact p.elim
theorem RM {P : Program} {w : World} {K : PySem.W.Frag} {mg mb : Str → Option Value} {k : Nat} {fa a : Addr} {fd : FuncData} {x : Str} {m : MF} {s : Shared} {ns : List Int} (H : Hp)
  (kin : K.In s.heap) (glo : s.heap.Ns mainGlobals mg) (blt : s.heap.Ns builtinsNs mb) (boot : ∀ y : Str, y ≠ "__name__" → mb y = bootBuiltins y) (free : s.heap.NoLimit) (gens : s.gens = #[]) (room : Room k callerA)
  (prom : ∀ base : Heap, K.In base → base.Ns mainGlobals mg → iV P w K mg base k fa fd [x] m) (bind : ∀ (t : Shared) (u : Value), BindsTo t fd ⟨[u], []⟩ [(x, u)]) (w' : W) (good : m [.nG (ns.map D.int)] [] = .ok (.bl true) w')
  (only : Only H) (held : SqL K H a (ns.map V.int)) (ok : HOk P w H s.heap) (nod : ∀ b o, s.heap.get? b = some o → H b ≠ none → ∀ es ep, o.data ≠ .dict es ep) (nok : ∀ b, H b ≠ none → K.lookup b = none) :
  codeAny (model P w) callerA (.call (.ref fa) ⟨[.ref a], []⟩) (fun r t => r = .ok (.ret (.bool true)) ∧ OldK s.heap t.heap ∧ t.os = s.os ∧ AllBare t.gens) s := by
 have low : ∀ {b : Addr} {o : Obj}, s.heap.get? b = some o → H b = none → (hidT s.heap H).get? b = some o := hidT_get
 have dicts : ∀ {b : Addr} {f : Str → Option Value}, s.heap.Ns b f → (hidT s.heap H).Ns b f := by
  rintro b f ⟨o, es, ep, h1, h2, h3⟩
  refine ⟨o, es, ep, low h1 ?_, h2, h3⟩
  by_cases q : H b = none
  ·exact q
  ·exact absurd h2 (nod b o h1 q es ep)
 have kb : K.In (hidT s.heap H) := fun b o h => low (kin b o h) (by
  by_cases q : H b = none
  ·exact q
  ·rw [nok b q] at h; cases h)
 obtain ⟨mc, c1, c2⟩ := free
 have e0 : Env0 P w K mg (hidT s.heap H) callerA [] s H := {
  frames := rfl
  mod := ⟨kb, dicts glo, ⟨mb, dicts blt, boot⟩, ⟨mc, dicts c1, c2⟩⟩
  bs := fun b o h => of_hidT h
  bsz := Nat.le_of_eq (hidT_size _ _)
  funs := trivial
  frf := fun b hb => by simp [frs] at hb
  hok := ok
  bare := .of_eq gens }
 have rel : Rel K [] H (fun _ => none) [] H := ⟨rfl, List.nodup_nil, fun i b o h => by simp at h, fun _ _ h => h, fun i b o h => by simp at h, fun _ _ h => (by cases h), fun _ _ h => (by cases h), fun _ _ h => (by cases h)⟩
 have sp : spM K m [V.ref a] H (fun v _ => v = .bl true) fun _ _ _ => False := by
  refine ⟨[], H, fun _ => none, [.nG (ns.map D.int)], [], rel, RepL.cons ?_ (by simp [RepL]), ?_⟩
  ·simp only [aJ]; exact ⟨a, _, rfl, held, RepL.ints ns⟩
  ·rw [good]
   intro I' F' H' _ _ v rv
   simpa only [aJ] using rv
 refine codeAny_mono ((prom _ kb (dicts glo)).run callerA [] s H ⟨[.ref a], []⟩ [.ref a] [.ref a] _ _ room rfl e0 (bind s (.ref a)) (.cons rfl .nil) rfl sp) fun r t h => ?_
 match r, h with
 | .error e, h =>
  obtain ⟨_, _, _, _, _, h⟩ := h
  simp at h
 | .ok (.ret u), h =>
  obtain ⟨v, H2, h1, h2, h3, h4, h5, h6⟩ := h
  subst h6
  obtain rfl : u = Value.bool true := h5
  refine ⟨rfl, OldK.of_keep fun b o hb => ?_, h1, h2⟩
  rcases only b with q | ⟨ob, xs, q⟩
  ·exact h3.keep b o hb q (by intro z; simp [frs] at z) (by simp)
  ·obtain ⟨g1, _⟩ := ok b _ q
   obtain ⟨g2, _⟩ := h4 b _ (h3.frzs b ob _ q)
   rw [hb] at g1; cases g1
   exact g2
 | .ok .next, h => exact h.elim
 | .ok .brk, h => exact h.elim
 | .ok .cont, h => exact h.elim
theorem QJ {P : Program} {w : World} {K : PySem.W.Frag} {mg mb : Str → Option Value} {k : Nat} {fa a : Addr} {fd : FuncData} {x : Str} {m : MF} {s : Shared} {us : List Value} {ns : List Int}
  (kin : K.In s.heap) (glo : s.heap.Ns mainGlobals mg) (blt : s.heap.Ns builtinsNs mb) (boot : ∀ y : Str, y ≠ "__name__" → mb y = bootBuiltins y) (free : s.heap.NoLimit) (gens : s.gens = #[]) (room : Room k callerA)
  (laid : s.heap.get? a = some { cls := .type "list", data := .seq us.toArray }) (nums : IntsAre us ns) (few : ns.length ≤ sizeLine)
  (prom : ∀ base : Heap, K.In base → base.Ns mainGlobals mg → iV P w K mg base k fa fd [x] m) (bind : ∀ (t : Shared) (u : Value), BindsTo t fd ⟨[u], []⟩ [(x, u)]) (w' : W) (good : m [.nG (ns.map D.int)] [] = .ok (.bl true) w') :
  codeAny (model P w) callerA (.call (.ref fa) ⟨[.ref a], []⟩) (fun r t => r = .ok (.ret (.bool true)) ∧ OldK s.heap t.heap ∧ t.os = s.os ∧ AllBare t.gens) s := by
 have vals := vals_ints nums
 cases hk : K.lookup a with
 | some o =>
  have h := kin a o hk
  rw [laid] at h
  cases h
  refine RM (fun _ => none) kin glo blt boot free gens room prom bind w' good (fun _ => .inl rfl) (.inr ⟨_, us.toArray, _, hk, rfl, rfl, rfl, ?_, by simpa using vals⟩) (fun _ _ h => by cases h) (fun _ _ _ h => absurd rfl h) fun _ h => absurd rfl h
  rw [List.size_toArray]; have := nums.length; omega
 | none =>
  let ob : Obj := { cls := .type "list", data := .seq us.toArray }
  let H : Hp := fun b => if b = a then some (.frz ob (.lst (ns.map V.int))) else none
  have at1 : H a = some (.frz ob (.lst (ns.map V.int))) := if_pos rfl
  have at2 : ∀ {b : Addr}, H b ≠ none → b = a := fun {b} h => by
   by_cases e : b = a
   ·exact e
   ·exact absurd (if_neg e) h
  refine RM H kin glo blt boot free gens room prom bind w' good (fun b => ?_) (.inl (.inr ⟨ob, at1⟩)) (fun b u h => ?_) (fun b o h hb es ep hd => ?_) fun b hb => by rw [at2 hb]; exact hk
  ·by_cases e : b = a
   ·exact .inr ⟨ob, _, if_pos e⟩
   ·exact .inl (if_neg e)
  ·obtain rfl := at2 (b := b) (by rw [h]; simp)
   rw [at1] at h
   cases h
   exact ⟨laid, by rw [bq]; exact few, us, _, vals, laid⟩
  ·obtain rfl := at2 hb
   rw [laid] at h
   cases h
   cases hd
theorem RC {l : PySem.W.OpenLaw} {n k : Nat} {q : Program} {loose : List Str} {XP : (Str → Option Value) → Heap → Prop} {YP : World → Heap → Prop} {d : DefRec} {x : Str}
  (hn : l.most = some n) (hn2 : n ≤ sizeLine) (hdf : d.params.defaults = []) (hr : Room k callerA)
  (F : ∀ (w : World) (mg : Str → Option Value) (fa : Addr) (h : Heap), YP w h → h.Ns mainGlobals mg → mg d.name = some (.ref fa) →
   ∃ (K : PySem.W.Frag) (fd : FuncData) (m : MF), K.In h ∧ (∀ (s : Shared) (u : Value), BindsTo s fd ⟨[u], []⟩ [(x, u)]) ∧ (∀ ns : List Int, ns.length ≤ n → ∃ w', m [.nG (ns.map D.int)] [] = .ok (.bl true) w') ∧
    ∀ base : Heap, K.In base → base.Ns mainGlobals mg → iV l.prog w K mg base k fa fd [x] m) :
  PySem.W.WalkO q loose XP YP l.row.toRowW d [] (fun f vs => PySem.call f vs) :=
 Att.attach_call hn hdf fun w _ s mg _ fa _ _ _ _ _ us ns G Y _ _ _ hmg laid nums few gens => by
  obtain ⟨K, fd, m, kin, bind, good, prom⟩ := F w mg fa _ Y G.T.g hmg
  obtain ⟨w', hw⟩ := good ns few
  exact QJ kin G.T.g G.T.b G.T.builtins G.T.nolimit gens hr laid nums (cj few hn2) prom bind w' hw
end Pc
namespace K05
open PySem PySem.Spec PyProof.Rows L2 Pc
def top (i : Nat) : Stmt := PySem.Challenge.pw_onemaster_k05_each_bound_of_plans.main.body.getD i (.Pass ⟨0, 0, 0, 0⟩)
structure bN where
 lI : Addr
 cC : Addr
 aN : Addr
 dH : Addr
 i4 : Addr
 zz : Unit := ()
def dD : List (Str × Option D) := [(("every" : Str), some (.kK [(.int 1), (.int 5)])), (("lost" : Str), some (.kK [(.int 0), (.int 3)])), (("slow" : Str), some (.kK [(.int 1), (.int 4)])), (("bears" : Str), some (.kK [(.int 0), (.int 3)])), (("gap" : Str), some (.kK [(.int 0), (.int 3)])), (("hold" : Str), some (.kK [(.int 0), (.int 20)])), (("hosts" : Str), some (.kK [(.int 0), (.int 4)])), (("takes" : Str), none), (("ties" : Str), none)]
end K05
set_option maxHeartbeats 0
namespace K05H
open PySem PySem.Spec PyProof.Rows L2 Pc K05
def pC : He.DefD := ⟨("_law_draw", none), "_law_draw", "_law_draw", defArgs (top 26), defBody (top 26), defScope (top 26), [], []⟩
def mP : He.DefD := ⟨("_law_fields", none), "_law_fields", "_law_fields", defArgs (top 30), defBody (top 30), defScope (top 30), [], []⟩
def sL : He.DefD := ⟨("is_whole", none), "is_whole", "is_whole", defArgs (top 16), defBody (top 16), defScope (top 16), [], []⟩
def qB : He.DefD := ⟨("is_within", none), "is_within", "is_within", defArgs (top 17), defBody (top 17), defScope (top 17), [], []⟩
def qH : He.DefD := ⟨("are_ranks", none), "are_ranks", "are_ranks", defArgs (top 18), defBody (top 18), defScope (top 18), [], []⟩
def yV : He.DefD := ⟨("is_tie", none), "is_tie", "is_tie", defArgs (top 19), defBody (top 19), defScope (top 19), [], []⟩
def sR : He.DefD := ⟨("are_ties", none), "are_ties", "are_ties", defArgs (top 20), defBody (top 20), defScope (top 20), [], []⟩
def rZ : He.DefD := ⟨("is_field", none), "is_field", "is_field", defArgs (top 21), defBody (top 21), defScope (top 21), [], []⟩
def oV : He.DefD := ⟨("Plan", some "__init__"), "__init__", "Plan.__init__", defArgs (inClass (top 23) 0), defBody (inClass (top 23) 0), defScope (inClass (top 23) 0), [], [(("every" : Str), (.int 1)), (("lost" : Str), (.int 1)), (("slow" : Str), (.int 1)), (("bears" : Str), .non), (("gap" : Str), (.int 1)), (("hold" : Str), (.int 0)), (("takes" : Str), (.bl true)), (("ties" : Str), (.adr (Pc.kwAt ("Plan", some "__init__") "ties"))), (("hosts" : Str), (.int 0))]⟩
def qI : He.DefD := ⟨("_law_made", none), "_law_made", "_law_made", defArgs (top 29), defBody (top 29), defScope (top 29), [], []⟩
def kP : He.DefD := ⟨("_law_refused", none), "_law_refused", "_law_refused", defArgs (top 33), defBody (top 33), defScope (top 33), [], []⟩
def pT : He.DefD := ⟨("_law_with", none), "_law_with", "_law_with", defArgs (top 32), defBody (top 32), defScope (top 32), [], []⟩
def gW : He.DefD := ⟨("_law_cords_right", none), "_law_cords_right", "_law_cords_right", defArgs (top 36), defBody (top 36), defScope (top 36), [], []⟩
def pP : He.DefD := ⟨("_law_deck", none), "_law_deck", "_law_deck", defArgs (top 25), defBody (top 25), defScope (top 25), [], []⟩
def gB : He.DefD := ⟨("_law_numbers_right", none), "_law_numbers_right", "_law_numbers_right", defArgs (top 34), defBody (top 34), defScope (top 34), [], []⟩
def iG : He.DefD := ⟨("_law_rows_right", none), "_law_rows_right", "_law_rows_right", defArgs (top 35), defBody (top 35), defScope (top 35), [], []⟩
def oO : He.DefD := ⟨("_law_pick", none), "_law_pick", "_law_pick", defArgs (top 27), defBody (top 27), defScope (top 27), [], []⟩
def pV : He.DefD := ⟨("_law_told", none), "_law_told", "_law_told", defArgs (top 28), defBody (top 28), defScope (top 28), [], []⟩
def S5 : He.DefD := ⟨("law", none), "law", "law", defArgs (top 37), defBody (top 37), defScope (top 37), [], []⟩
def jC : He.DefD := ⟨("NoPlan", some "__init__"), "__init__", "NoPlan.__init__", defArgs (inClass (top 8) 0), defBody (inClass (top 8) 0), defScope (inClass (top 8) 0), [], []⟩
def fn : List He.DefD := [pC, mP, sL, qB, qH, yV, sR, rZ, oV, qI, kP, pT, gW, pP, gB, iG, oO, pV, S5, jC]
def fa : List He.Fa := [.free "all", .free "bool", .free "int", .free "isinstance", .free "len", .free "list", .free "range", .free "sorted", .free "sum", .free "tuple", .free "zip", .glo "_law_draw", .glo "_law_fields", .glo "is_whole", .glo "is_within", .glo "are_ranks", .glo "is_tie", .glo "are_ties", .glo "is_field", .glo "_law_made", .glo "_law_refused", .glo "_law_with", .glo "_law_cords_right", .glo "_law_deck", .glo "_law_numbers_right", .glo "_law_rows_right", .glo "_law_pick", .glo "_law_told", .glo "law", .glo "NUMBERS", .glo "NetError", .glo "NoPlan", .glo "Plan", .cls "Plan", .noat "Plan" "bears", .noat "Plan" "every", .noat "Plan" "gap", .noat "Plan" "hold", .noat "Plan" "hosts", .noat "Plan" "lost", .noat "Plan" "ranks", .noat "Plan" "slow", .noat "Plan" "takes", .noat "Plan" "ties", .mkr "Plan"]
def ts : List He.Tab := [((fun K => He.ga K "NUMBERS"), [("every" : Str), ("lost" : Str), ("slow" : Str), ("bears" : Str), ("gap" : Str), ("hold" : Str), ("hosts" : Str)])]
def exl (K : PySem.W.Frag) : List Bool := [FH K "MOST_ADDRESSES" (.int 4), FH K "MOST_HOUSES" (.int 6), FH K "MOST_LESS" (.int 11), FH K "MOST_TIE" (.int 9), FH K "MOST_TIES" (.int 6), FH K "TOP" (.int 12), SF K (He.ga K "NUMBERS") dD, X1 K (He.ga K "NoPlan") (He.ga K "NetError") (He.fAd K jC.at_) ("field" : Str), aAp K (He.ga K "NoPlan") (He.ga K "NoPlan") true]
def ex (K : PySem.W.Frag) : Bool := (exl K).all id
theorem tW {K : PySem.W.Frag} (h : ex K = true) (i : Nat) {b : Bool} (hi : (exl K)[i]? = some b) : b = true := by
 unfold ex at h
 rw [ay] at h
 exact h b (bf hi)
def loose : List PySem.Str := (["EVERY", "LOST", "SLOW", "GAP", "HOLD", "TOP", "NetError", "NoPlan", "MOST_ADDRESSES", "MOST_HOUSES", "MOST_TIES", "MOST_TIE", "MOST_LESS", "NUMBERS", "is_whole", "is_within", "are_ranks", "is_tie", "are_ties", "is_field", "in_words", "Plan", "_law_deck", "_law_draw", "_law_pick", "_law_told", "_law_made", "_law_fields", "_law_due_fields", "_law_with"] : List PySem.Str) ++ (["_law_refused", "_law_numbers_right", "_law_rows_right", "_law_cords_right"] : List PySem.Str)
abbrev R : PySem.W.OpenRow := PySem.W.OpenLaw.row PySem.Challenge.rw_onemaster_k05_each_bound_of_plans
def as : List Nat := ([3, 6, 4, 24, 44, 47, 61, 68, 73, 80, 85, 92, 97, 149, 160, 167, 174, 179, 186, 193, 200, 207, 214, 219, 224, 229, 236, 0, 23, 43, 48, 49, 50, 51, 52, 53, 54, 60, 67, 72, 79, 84, 91, 96, 148, 159, 166, 173, 178, 185, 192, 199, 206, 213, 218, 223, 228, 235, 22, 25] : List Nat) ++ ([41, 42, 55, 57, 58, 59, 62, 64, 65, 66, 69, 71, 74, 76, 77, 78, 81, 83, 86, 88, 89, 90, 93, 95, 113, 120, 127, 134, 139, 146, 147, 150, 151, 154, 156, 157, 158, 161, 163, 164, 165, 168, 170, 171, 172, 175, 177, 180, 182, 183, 184, 187, 189, 190, 191, 194, 196, 197, 198, 201] : List Nat) ++ ([203, 204, 205, 208, 210, 211, 212, 215, 217, 220, 222, 225, 227, 230, 232, 233, 234, 40, 112, 106, 119, 126, 133, 138, 145, 35, 37, 38, 39, 107, 109, 110, 111, 105, 114, 116, 117, 118, 121, 123, 124, 125, 128, 130, 131, 132, 135, 137, 140, 142, 143, 144, 2] : List Nat)
abbrev hk : PySem.W.Hook := He.WI as fa fn ts ex
def ob (s : PySem.W.SharedT) : He.ZT := He.US as fa fn ts ex (HandSHeadRun.getT s)
theorem aAG (s : PySem.W.SharedT) : ob s = hk.obs s.abs := He.WA (HandSHeadRun.getT_eq s)
open PySem PySem.W PySem.Calls PyProof.Rows HandSHeadRun in
abbrev eF (w : World) (os : OsState) : Option SharedT := endF (stepQ (denQ tabQ) R.prog w) 8000 R.prog w os
open PySem PySem.W PySem.Calls PyProof.Rows in
theorem HB (w : World) (os : OsState) : (eF (w.withFollow "special-get-raises" false) os).map (fun s => (HandSHeadRun.looksF R.prog (boot_heap (w.withFollow "special-get-raises" false).params) s.abs, HandSHeadRun.seenQ (PySem.W.view R.prog [37]) loose (importedModules R.prog.main.body) (fun s => xlAt (PySem.W.view R.prog [37]) [] s && recOk R.toRowW.records s) s.abs)) = some (true, openGood (PySem.W.view R.prog [37]) loose) := by
 kernel_rfl
open PySem PySem.W PySem.Calls PyProof.Rows in
theorem JM (w : World) (os : OsState) : (eF (w.withFollow "special-get-raises" false) os).map (ob) = some (hk.val (w.withFollow "special-get-raises" false)) := by
 kernel_rfl
theorem NU (w : World) : HandSHeadRun.RunEq R (PySem.W.view R.prog [37]) hk ob 8000 loose (w.withFollow "special-get-raises" false) := fun os => He.WV (HB w os) (JM w os)
open PySem PySem.W PySem.Calls PyProof.Rows in
theorem KQ (w : World) (os : OsState) : (eF (w.withFollow "special-get-raises" true) os).map (fun s => (HandSHeadRun.looksF R.prog (boot_heap (w.withFollow "special-get-raises" true).params) s.abs, HandSHeadRun.seenQ (PySem.W.view R.prog [37]) loose (importedModules R.prog.main.body) (fun s => xlAt (PySem.W.view R.prog [37]) [] s && recOk R.toRowW.records s) s.abs)) = some (true, openGood (PySem.W.view R.prog [37]) loose) := by
 kernel_rfl
open PySem PySem.W PySem.Calls PyProof.Rows in
theorem MZ (w : World) (os : OsState) : (eF (w.withFollow "special-get-raises" true) os).map (ob) = some (hk.val (w.withFollow "special-get-raises" true)) := by
 kernel_rfl
theorem SS (w : World) : HandSHeadRun.RunEq R (PySem.W.view R.prog [37]) hk ob 8000 loose (w.withFollow "special-get-raises" true) := fun os => He.WV (KQ w os) (MZ w os)
theorem run (w : World) : HandSHeadRun.RunEq R (PySem.W.view R.prog [37]) hk ob 8000 loose w := PySem.W.byRow2 "special-get-raises" (P := fun w => HandSHeadRun.RunEq R (PySem.W.view R.prog [37]) hk ob 8000 loose w) NU SS w
section
 open PySem PySem.W PySem.Calls PyProof.Rows
def early : { E : Prop // E → PySem.Challenge.rw_onemaster_k05_each_bound_of_plans.Holds } := ⟨_, fun hc => by
 w_on; o_law
 refine HandSHeadRun.head_any (r := OpenLaw.row PySem.Challenge.rw_onemaster_k05_each_bound_of_plans) (q := view (OpenLaw.row PySem.Challenge.rw_onemaster_k05_each_bound_of_plans).prog [37]) (H := hk) (ob := ob) (M := 8000) (loose := loose) (d := HandSHeadRun.topDef (OpenLaw.row PySem.Challenge.rw_onemaster_k05_each_bound_of_plans).prog 37) (kwd := []) aAG
  (by kernel_rfl) (fun s => by kernel_rfl) run (by kernel_rfl) (by kernel_rfl) (by kernel_rfl) (by rfl) (by first | assumption | decide +kernel) (by decide +kernel) ⟨rfl, rfl, rfl, rfl, rfl, by decide +kernel⟩ ?hw ?hc
 case hw => w_witness2
 case hc => exact hc⟩
end
end K05H
set_option maxHeartbeats 4000000
namespace Pc
open PySem PySem.Spec PyProof.Rows L2
def xW (w : W) (d c : Nat) : Prop := d ≠ c ∧ ∃ (cells : List Int) (sm n : Int), w[d]? = some (.lst [.ref c, .int sm, .int n]) ∧ w[c]? = some (.lst (cells.map .int)) ∧ cells.length ≤ 63
def Kept (w w' : W) (d c : Nat) : Prop := w'.length = w.length ∧ ∀ i, i ≠ d → i ≠ c → w'[i]? = w[i]?
theorem zN : ∀ cells : List Int, PyData.canLayAll0 (cells.map PyData.int) = true
 | [] => rfl
 | x :: xs => by simp [PyData.canLayAll0, PyData.canLay0, zN xs]
theorem x6 : ∀ cells : List Int, PyData.depthAll (cells.map PyData.int) ≤ 1
 | [] => by simp [PyData.depthAll]
 | x :: xs => by
  have := x6 xs
  simp only [List.map_cons, PyData.depthAll, PyData.depth]
  omega
theorem lay_ints (cells : List Int) : SeqAt.shaped (.list (cells.map PyData.int)) = true := by
 have h1 := zN cells
 have h2 := x6 cells
 unfold SeqAt.shaped
 simp [PyData.canLay0, PyData.depth, h1]
 omega
theorem xR (f : Nat → Option PyData) (cells : List Int) : D.pysR f (cells.map D.int) = some (cells.map PyData.int) := by
 induction cells with
 | nil => rfl
 | cons x xs ih => simp [D.pysR, D.gN, ih]
theorem YM {w : W} {c : Nat} {cells : List Int} (h : w[c]? = some (.lst (cells.map D.int))) : D.py w (.ref c) = some (.list (cells.map PyData.int)) := by
 show G5 8 w c = _
 simp [G5, h, xR]
theorem ne_nil {w : W} {c : Nat} {cells : List Int} (h : w[c]? = some (.lst (cells.map D.int))) : kJ (.ref c) (.lst []) w = .ok (.bl (!cells.isEmpty)) w := by
 unfold kJ rA pO
 rw [YM h]
 have e : D.py w (.lst []) = some (.list []) := rfl
 rw [e]
 have l2 : SeqAt.shaped (.list []) = true := lay_ints []
 simp only [lay_ints, l2, and_self, ah]
 cases cells <;> simp [PyData.eqv, PyData.eqvAll]
@[irreducible] def T {α : Type} (r : Res α) (P : α → W → Prop) : Prop := match r with
 | .ok a w => P a w
 | _ => False
section
variable {α β : Type} {P Q : α → W → Prop} {r : Res α}
theorem T.ex (h : T r P) : ∃ a w, r = .ok a w ∧ P a w := by
 unfold T at h
 cases r with
 | ok a w => exact ⟨a, w, rfl, h⟩
 | sW x w => exact h.elim
 | bad => exact h.elim
theorem T.of {a : α} {w : W} (h : r = .ok a w) (p : P a w) : T r P := by unfold T; rw [h]; exact p
theorem T.mono (h : T r P) (k : ∀ a w, r = .ok a w → P a w → Q a w) : T r Q := by
 obtain ⟨a, w, e, p⟩ := h.ex
 exact T.of e (k a w e p)
theorem bZ {a : α} {w : W} : T (.ok a w) P = P a w := by unfold T; rfl
theorem aAe : T .bad P = False := by unfold T; rfl
theorem bD {r : Res α} {f : α → W → Res β} {P : β → W → Prop} : T (r.bind f) P = T r fun a w => T (f a w) P := by cases r <;> (first | rfl | (unfold T; rfl) | (unfold Then; rfl))
theorem t8 : T r.D3 P = T r P := by cases r <;> (first | rfl | (unfold T; rfl) | (unfold Then; rfl))
theorem BE {c : Prop} [Decidable c] {a b : Res α} : T (if c then a else b) P = (if c then T a P else T b P) := by split <;> (first | rfl | (unfold T; rfl) | (unfold Then; rfl))
theorem c7 {c : Prop} [Decidable c] {a : Res α} : T (if c then a else .bad) P = (c ∧ T a P) := by
 by_cases h : c
 ·rw [if_pos h]; exact propext ⟨fun z => ⟨h, z⟩, fun z => z.2⟩
 ·rw [if_neg h]; exact propext ⟨fun z => by unfold T at z; exact z.elim, fun z => absurd z.1 h⟩
end
section
variable {σ : Sg} {w : W} {P : D → W → Prop} {PA : List D → W → Prop} {PB : Bool → W → Prop} {PF : Fl → W → Prop} {a b c : ME} {ma mk : MA} {ta tb : MT} {sa sb : MS} {g : MG} {gs : NR} {f : D → D → W → Res D} {d x y : D}
theorem T_C : T (eC d σ w) P = P d w := by unfold T; rfl
theorem ZW {i : Nat} : T (aB i σ w) P = (match σ[i]? with
 | some (some d) => P d w
 | _ => False) := by
 unfold aB
 cases h : σ[i]? with
 | none => unfold T; rfl
 | some o => cases o <;> (first | rfl | (unfold T; rfl) | (unfold Then; rfl))
theorem FF : T (aE f a b σ w) P = T (a σ w) fun x w1 => T (b σ w1) fun y w2 => T (f x y w2) P := by unfold aE; simp only [bD]
theorem OJ {f : D → W → Res D} : T (sV f a σ w) P = T (a σ w) fun x w1 => T (f x w1) P := by unfold sV; simp only [bD]
theorem G9 : T (mO a b σ w) P = T (a σ w) fun x w1 => T (fS x w1) fun c _ => if c = true then T (b σ w1) P else P x w1 := by unfold mO; simp only [bD, BE, bZ]
theorem SQ : T (eOr a b σ w) P = T (a σ w) fun x w1 => T (fS x w1) fun c _ => if c = true then P x w1 else T (b σ w1) P := by unfold eOr; simp only [bD, BE, bZ]
theorem Q5 : T (VE ta a b σ w) P = T (ta σ w) fun c w1 => if c = true then T (a σ w1) P else T (b σ w1) P := by unfold VE; simp only [bD, BE]
theorem z4 : T (aD σ w) PA = PA [] w := by unfold T; rfl
theorem tZ : T (aA a ma σ w) PA = T (a σ w) fun x w1 => T (ma σ w1) fun xs w2 => PA (x :: xs) w2 := by unfold aA; simp only [bD, bZ]
theorem HJ : T (aM ma σ w) P = T (ma σ w) fun xs w1 => xs.length ≤ sizeLine ∧ P (.tup xs) w1 := by unfold aM; simp only [bD, c7, bZ]
theorem E5 : T (cD ma σ w) P = T (ma σ w) fun xs w1 => xs.length ≤ sizeLine ∧ P (.lst xs) w1 := by unfold cD; simp only [bD, c7, bZ]
theorem ER : T (eNew ma σ w) P = T (ma σ w) fun xs w1 => xs.length ≤ sizeLine ∧ P (.ref w1.length) (w1 ++ [.lst xs]) := by unfold eNew; simp only [bD, c7, bZ]
theorem HL {m : MF} : T (aW m ma σ w) P = T (ma σ w) fun xs w1 => T (m xs w1) P := by unfold aW; simp only [bD]
theorem zJ {t : String} {m : PJ} : T (dA t m a ma σ w) P = T (a σ w) fun d w1 => VL d w1 = some t ∧ T (ma σ w1) fun xs w2 => T (m d xs w2) P := by unfold dA; simp only [bD, c7]
theorem xV {m : MF} {n : Nat} {gd : List D → List D → List D} : T (aH m n gd ma σ w) P = T (ma σ w) fun xs w1 => xs.length = n ∧ T (m (gd xs []) w1) P := by unfold aH; simp only [bD, c7]
theorem uB {m : MF} {n j : Nat} {gd : List D → List D → List D} : T (IM m n j gd ma mk σ w) P = T (ma σ w) fun xs w1 => T (mk σ w1) fun zs w2 => (xs.length = n ∧ zs.length = j) ∧ T (m (gd xs zs) w2) P := by unfold IM; simp only [bD, c7]
theorem WD {m : MF} {C : Addr} {h : List D → List D} : T (rL m C h w) P = T (m (h [.ref w.length]) (w ++ [.ins C []])) fun r w1 => r = .non ∧ P (.ref w.length) w1 := by
 unfold rL
 simp only [bD]
 congr 1
 funext r w1
 cases r <;> simp [T]
theorem u9 {m : MF} {C : Addr} {n j : Nat} {gd : List D → List D → List D} : T (sU C m n j gd ma mk σ w) P = T (ma σ w) fun xs w1 => T (mk σ w1) fun zs w2 => (xs.length = n ∧ zs.length = j) ∧ T (rL m C (fun s => gd (s ++ xs) zs) w2) P := by unfold sU; simp only [bD, c7]
theorem EC {C : Addr} {z : Str} : T (bY C z a σ w) P = T (a σ w) fun x w1 => T (nJ C z x w1) P := by unfold bY sV; simp only [bD]
theorem QW {g : D → D → W → Res D} : T (ON f g a b c σ w) P = T (a σ w) fun x w1 => T (b σ w1) fun y w2 => T (f x y w2) fun r w3 => match r with
 | .bl k => if k = true then T (c σ w3) fun z w4 => T (g y z w4) P else P (.bl false) w3
 | _ => False := by
 unfold ON
 simp only [bD]
 congr 1; funext x w1; congr 1; funext y w2; congr 1; funext r w3
 cases r <;> first | (unfold T; rfl) | skip
 rename_i k
 cases k
 ·unfold T; rfl
 ·exact bD
theorem EL : T (a8 a σ w) PB = T (a σ w) fun x w1 => match x with
 | .bl k => PB k w1
 | _ => False := by
 unfold a8
 simp only [bD]
 congr 1; funext x w1
 cases x <;> (first | rfl | (unfold T; rfl) | (unfold Then; rfl))
theorem FJ : T (dY a σ w) PB = T (a σ w) fun x w1 => T (fS x w1) PB := by unfold dY; simp only [bD]
theorem j5 : T (cG ta σ w) PB = T (ta σ w) fun k w1 => PB (!k) w1 := by unfold cG; simp only [bD, bZ]
theorem uW : T (fO ta tb σ w) PB = T (ta σ w) fun k w1 => if k = true then T (tb σ w1) PB else PB false w1 := by unfold fO; simp only [bD, BE, bZ]
theorem G6 : T (fT ta tb σ w) PB = T (ta σ w) fun k w1 => if k = true then PB true w1 else T (tb σ w1) PB := by unfold fT; simp only [bD, BE, bZ]
theorem nT : T (bU σ w) PB = PB true w := by unfold T; rfl
def Then (b : MS) (PF : Fl → W → Prop) : Fl → W → Prop := fun f w => match f with
 | .nx σ => T (b σ w) PF
 | f => PF f w
theorem bF : T (aI sa sb σ w) PF = T (sa σ w) (Then sb PF) := by
 unfold aI
 simp only [bD]
 congr 1; funext f w1
 cases f <;> (first | rfl | (unfold T; rfl) | (unfold Then; rfl))
theorem c5 {σ : Sg} : Then sb PF (.nx σ) w = T (sb σ w) PF := by first | rfl | (unfold Then; rfl)
theorem sX {d : D} : Then sb PF (.rt d) w = PF (.rt d) w := by first | rfl | (unfold Then; rfl)
theorem HQ : T (a7 a σ w) PF = T (a σ w) fun d w1 => PF (.rt d) w1 := by unfold a7; simp only [bD, bZ]
theorem xU : T (b6 a σ w) PF = T (a σ w) fun _ w1 => PF (.nx σ) w1 := by unfold b6; simp only [bD, bZ]
theorem uE : T (dE ta sa sb σ w) PF = T (ta σ w) fun k w1 => if k = true then T (sa σ w1) PF else T (sb σ w1) PF := by unfold dE; simp only [bD, BE]
theorem yB : T (a5 σ w) PF = PF (.nx σ) w := by unfold T; rfl
theorem A6 : T (aP a g σ w) PF = T (a σ w) fun d w1 => T (g d σ w1) fun s w2 => PF (.nx s) w2 := by unfold aP; simp only [bD, bZ]
theorem FL {i : Nat} {PS : Sg → W → Prop} : T (aR i d σ w) PS = PS (σ.set i (some d)) w := by unfold T; rfl
theorem yI {PS : Sg → W → Prop} : T (dI a b d σ w) PS = T (a σ w) fun o w1 => T (b σ w1) fun i w2 => T (setM o i d w2) fun _ w3 => PS σ w3 := by unfold dI; simp only [bD, bZ]
theorem uY {C : Addr} {z : Str} : T (cM C z a b σ w) PF = T (b σ w) fun x w1 => T (a σ w1) fun d w2 => T (l9 C z d x w2) fun _ w3 => PF (.nx σ) w3 := by unfold cM; simp only [bD, bZ]
theorem x8 {n : Nat} {xs : List D} {PS : Sg → W → Prop} : T (bS n gs (.tup xs) σ w) PS = (xs.length = n ∧ T (gs xs σ w) PS) := by simp only [bS, c7]
theorem tT {n : Nat} {xs : List D} {PS : Sg → W → Prop} : T (bS n gs (.kK xs) σ w) PS = (xs.length = n ∧ T (gs xs σ w) PS) := by simp only [bS, c7]
theorem yX {PS : Sg → W → Prop} : T (bR [] σ w) PS = PS σ w := by unfold T; rfl
theorem tP {xs : List D} {PS : Sg → W → Prop} : T (aK g gs (d :: xs) σ w) PS = T (g d σ w) fun s w1 => T (gs xs s w1) PS := by simp only [aK, bD]
theorem fH {mb : MS} {N : List Str} {ds : List D} : T (bM mb N ds w) P = T (mb (begin N ds) w) fun f w1 => match f with
 | .nx _ => P .non w1
 | .rt d => P d w1
 | _ => False := by
 unfold bM
 simp only [bD]
 congr 1; funext f w1
 cases f <;> (first | rfl | (unfold T; rfl) | (unfold Then; rfl))
end
section
variable {w : W} {P : D → W → Prop} {a b : Int} {x y d : D}
theorem fW : T (bE (.int a) (.int b) w) P = P (.int (a + b)) w := by unfold T; rfl
theorem uN : T (iB (.int a) (.int b) w) P = P (.int (a - b)) w := by unfold T; rfl
theorem sY : T (mulM (.int a) (.int b) w) P = (zM a b = true ∧ P (.int (a * b)) w) := by unfold mulM; simp only [c7, bZ]
theorem rO : T (iU (.int a) (.int b) w) P = (0 < b ∧ P (.int (a % b)) w) := by unfold iU; simp only [c7, bZ]
theorem nN : T (rC (.int a) (.int b) w) P = ((0 < b ∧ b < 1073741824) ∧ P (.int (a / b)) w) := by unfold rC; simp only [c7, bZ]
theorem EJ : T (nR (.int a) w) P = P (.int (-a)) w := by unfold T; rfl
theorem OR : T (BR (.int a) (.int b) w) P = P (.bl (decide (a < b))) w := by unfold T; rfl
theorem Q4 : T (JY (.int a) (.int b) w) P = P (.bl (decide (a ≤ b))) w := by unfold T; rfl
theorem NG : T (BU (.int a) (.int b) w) P = P (.bl (decide (b < a))) w := by unfold T; rfl
theorem M0 : T (V6 (.int a) (.int b) w) P = P (.bl (decide (b ≤ a))) w := by unfold T; rfl
theorem zV {xs ys : List D} : T (bE (.tup xs) (.tup ys) w) P = (xs.length + ys.length ≤ sizeLine ∧ P (.tup (xs ++ ys)) w) := by unfold bE; simp only [c7, bZ]
theorem lF {xs ys : List D} : T (bE (.lst xs) (.lst ys) w) P = (xs.length + ys.length ≤ sizeLine ∧ P (.lst (xs ++ ys)) w) := by unfold bE; simp only [c7, bZ]
theorem yT : T (TC x .non w) P = P (.bl x.isNon) w := by cases x <;> (first | rfl | (unfold T; rfl))
theorem D8 {p q : Bool} : T (TC (.bl p) (.bl q) w) P = P (.bl (decide (p = q))) w := by unfold T; rfl
theorem pN : T (mH x .non w) P = P (.bl (!x.isNon)) w := by cases x <;> (first | rfl | (unfold T; rfl))
theorem pA {p q : Bool} : T (mH (.bl p) (.bl q) w) P = P (.bl (!decide (p = q))) w := by unfold T; rfl
theorem HR : T (notM x w) P = T (fS x w) fun c _ => P (.bl (!c)) w := by unfold notM; simp only [bD, bZ]
theorem yQ {p : Bool} {PB : Bool → W → Prop} : T (fS (.bl p) w) PB = PB p w := by unfold T; rfl
theorem x9 {PB : Bool → W → Prop} : T (fS (.int a) w) PB = PB (a != 0) w := by unfold T; rfl
theorem y9 {PB : Bool → W → Prop} : T (fS .non w) PB = PB false w := by unfold T; rfl
theorem m4 {xs : List D} : T (QF xs (.int a) w) P = ∃ d, atI xs a = some d ∧ P d w := by
 show T (match atI xs a with
  | some d => Res.ok d w
  | none => .bad) P = _
 cases atI xs a with
 | none => simp [T]
 | some d => simp [T]
theorem wB {xs : List D} : T (aZ (.tup xs) y w) P = T (QF xs y w) P := by unfold T; rfl
theorem GZ {xs : List D} : T (aZ (.kK xs) y w) P = T (QF xs y w) P := by unfold T; rfl
theorem rX {xs : List D} : T (aZ (.lst xs) y w) P = T (QF xs y w) P := by unfold T; rfl
theorem LP {i : Nat} {kvs : List (Key × D)} {z : Str} (h : w[i]? = some (.dK kvs)) : T (aZ (.ref i) (.str z) w) P = ∃ d, gM kvs (.inr z) = some d ∧ P d w := by
 simp only [aZ, h, m9, keyD, Option.map_some]
 cases gM kvs (Sum.inr z) with
 | none => simp [T]
 | some d => simp [T]
theorem zA : T (fE x y w) P = ∃ r, rA x y w = some r ∧ P (.bl r) w := by
 unfold fE
 cases rA x y w with
 | none => simp [T]
 | some r => simp [T]
theorem RE : T (kJ x y w) P = ∃ r, rA x y w = some r ∧ P (.bl (!r)) w := by
 unfold kJ
 cases rA x y w with
 | none => simp [T]
 | some r => simp [T]
theorem tF : rA (.int a) (.int b) w = some (a == b) := by simp [rA, pO, D.py, D.gN, SeqAt.shaped, PyData.canLay0, PyData.depth, PyData.eqv]
theorem aCh : T (N6 x y w) P = ∃ r, inD x y w = some r ∧ P (.bl r) w := by
 unfold N6
 cases inD x y w with
 | none => simp [T]
 | some r => simp [T]
theorem RY : T (dO [d] w) P = ∃ n, DH d w = some n ∧ P (.int n) w := by
 show T (match DH d w with
  | some n => Res.ok (D.int n) w
  | none => .bad) P = _
 cases DH d w with
 | none => simp [T]
 | some n => simp [T]
theorem QE {C : Addr} {z : Str} {i : Nat} {fs : List (Str × D)} (h : w[i]? = some (.ins C fs)) : T (nJ C z (.ref i) w) P = ∃ d, fs.lookup z = some d ∧ P d w := by
 simp only [nJ, h, ah]
 cases fs.lookup z with
 | none => simp [T]
 | some d => simp [T]
theorem FV {i : Nat} {xs : List D} (h : w[i]? = some (.lst xs)) : T (cO (.ref i) [d] w) P = (xs.length < sizeLine ∧ P .non (w.set i (.lst (xs ++ [d])))) := by
 simp only [cO, h, c7, bZ]
theorem YB {i : Nat} {kvs : List (Key × D)} {z : Str} {PU : Unit → W → Prop} (h : w[i]? = some (.dK kvs)) : T (setM (.ref i) (.str z) d w) PU = (kvs.length < sizeLine ∧ PU () (w.set i (.dK (putD kvs (.inr z) d)))) := by
 simp only [setM, h, keyD, c7, bZ]
theorem PV {C : Addr} {z : Str} {i : Nat} {fs : List (Str × D)} {PU : Unit → W → Prop} (h : w[i]? = some (.ins C fs)) : T (l9 C z (.ref i) d w) PU = (fs.length < 1000 ∧ PU () (w.set i (.ins C (qG z d fs)))) := by
 simp only [l9, h, true_and, c7, bZ]
end
theorem Y1 {it : jN} {g : MG} {body : MS} {P : Fl → W → Prop} (Inv : Nat → Sg → W → Prop) (ok : ∀ i σ w, Inv i σ w → it.ok w)
  (step : ∀ i x σ w, it.xs[i]? = some x → Inv i σ w → T (g x σ w) fun σ1 w1 => T (body σ1 w1) fun f w2 => match f with
   | .nx s => Inv (i + 1) s w2
   | .ct s => Inv (i + 1) s w2
   | .bk s => P (.nx s) w2
   | .rt d => P (.rt d) w2) (fin : ∀ σ w, Inv it.xs.length σ w → P (.nx σ) w) : ∀ {i : Nat} {σ : Sg} {w : W}, i ≤ it.xs.length → Inv i σ w → T (forL it g body (it.xs.drop i) σ w) P := by
 intro i
 generalize hn : it.xs.length - i = n
 induction n generalizing i with
 | zero =>
  intro σ w hi h
  have e : i = it.xs.length := by omega
  subst e
  rw [List.drop_length]
  unfold forL
  rw [if_pos (ok _ _ _ h)]
  rw [bZ]; exact fin σ w h
 | succ n ih =>
  intro σ w hi h
  have hlt : i < it.xs.length := by omega
  rw [List.drop_eq_getElem_cons hlt]
  unfold forL
  rw [if_pos (ok _ _ _ h), bD]
  refine (step i _ σ w (bg hlt) h).mono fun s1 w1 _ q => ?_
  rw [bD]
  refine T.mono q fun f w2 _ q2 => ?_
  cases f with
  | nx s => exact ih (by omega) (by omega) q2
  | ct s => exact ih (by omega) (by omega) q2
  | bk s => rw [bZ]; exact q2
  | rt d => rw [bZ]; exact q2
theorem BC {m : MI} {g : MG} {body : MS} {σ : Sg} {w : W} {P : Fl → W → Prop} : T (dR m g body σ w) P = T (m σ w) fun it w1 => T (forL it g body it.xs σ w1) P := by unfold dR; simp only [bD]
theorem LD {it : jN} {vs : List Nat} {g : MG} {t : MT} {e : ME} {σ : Sg} {P : List D → W → Prop} (Inv : Nat → List D → W → Prop) (ok : ∀ i acc w, Inv i acc w → it.ok w)
  (step : ∀ i x acc w, it.xs[i]? = some x → Inv i acc w → T (g x (dJ σ vs) w) fun σ1 w1 => T (t σ1 w1) fun b w2 => if b = true then T (e σ1 w2) fun y w3 => Inv (i + 1) (acc ++ [y]) w3 else Inv (i + 1) acc w2)
  (fin : ∀ acc w, Inv it.xs.length acc w → P acc w) : ∀ {i : Nat} {acc : List D} {w : W}, i ≤ it.xs.length → Inv i acc w → T (kU it vs g t e (it.xs.drop i) σ w) fun ys w1 => P (acc ++ ys) w1 := by
 intro i
 generalize hn : it.xs.length - i = n
 induction n generalizing i with
 | zero =>
  intro acc w hi h
  have e : i = it.xs.length := by omega
  subst e
  rw [List.drop_length]
  unfold kU
  rw [if_pos (ok _ _ _ h)]
  rw [bZ, List.append_nil]
  exact fin acc w h
 | succ n ih =>
  intro acc w hi h
  have hlt : i < it.xs.length := by omega
  rw [List.drop_eq_getElem_cons hlt]
  unfold kU
  rw [if_pos (ok _ _ _ h), bD, t8]
  refine (step i _ acc w (bg hlt) h).mono fun s1 w1 _ q => ?_
  rw [bD, t8]
  refine T.mono q fun b w2 _ q2 => ?_
  cases b with
  | true =>
   simp only [ah] at q2 ⊢
   rw [bD, t8]
   refine T.mono q2 fun y w3 _ q3 => ?_
   rw [bD]
   refine (ih (by omega) (by omega) q3).mono fun ys w4 _ q4 => ?_
   rw [bZ]
   simpa using q4
  | false =>
   simp only [bj, aa] at q2 ⊢
   exact ih (by omega) (by omega) q2
theorem x5 {m : MI} {vs : List Nat} {g : MG} {t : MT} {e : ME} {σ : Sg} {w : W} {P : D → W → Prop} : T (bT m vs g t e σ w) P = T (m σ w) fun it w1 => it.xs.length ≤ sizeLine ∧ T (kU it vs g t e it.xs σ w1) fun ys w2 => P (.lst ys) w2 := by
 unfold bT LF
 simp only [bD, c7, bZ]
structure oU (w w' : W) (d c : Nat) : Prop where
 le : w.length ≤ w'.length
 at_ : ∀ i, i < w.length → i ≠ d → i ≠ c → w'[i]? = w[i]?
section
variable {w w1 w2 : W} {d c i : Nat} {o : MO}
theorem oU.refl : oU w w d c := ⟨bp _, fun _ _ _ _ => rfl⟩
theorem oU.trans (a : oU w w1 d c) (b : oU w1 w2 d c) : oU w w2 d c := ⟨cj a.le b.le, fun i h1 h2 h3 => (b.at_ i (Nat.lt_of_lt_of_le h1 a.le) h2 h3).trans (a.at_ i h1 h2 h3)⟩
theorem Kept.refl : Kept w w d c := ⟨rfl, fun _ _ _ => rfl⟩
theorem Kept.trans (a : Kept w w1 d c) (b : Kept w1 w2 d c) : Kept w w2 d c := ⟨b.1.trans a.1, fun i h1 h2 => (b.2 i h1 h2).trans (a.2 i h1 h2)⟩
theorem Kept.obj (a : Kept w w1 d c) (h : w[i]? = some o) (h1 : i ≠ d) (h2 : i ≠ c) : w1[i]? = some o := by rw [a.2 i h1 h2]; exact h
theorem Kept.grow (k : Kept w w1 d c) : oU w w1 d c := ⟨Nat.le_of_eq k.1.symm, fun i _ h2 h3 => k.2 i h2 h3⟩
theorem oU.app {g : W} : oU w (w ++ g) d c := ⟨by simp, fun i h _ _ => by rw [aq h]⟩
theorem oU.obj (a : oU w w1 d c) (h : w[i]? = some o) (h1 : i ≠ d) (h2 : i ≠ c) : w1[i]? = some o := by rw [a.at_ i (ai.mp h).1 h1 h2]; exact h
theorem xW.lt (h : xW w d c) : d < w.length ∧ c < w.length := by
 obtain ⟨_, cells, sm, n, h1, h2, _⟩ := h
 exact ⟨(ai.mp h1).1, (ai.mp h2).1⟩
theorem xW.app {g : W} (h : xW w d c) : xW (w ++ g) d c := by
 obtain ⟨l1, l2⟩ := h.lt
 obtain ⟨hne, cells, sm, n, h1, h2, h3⟩ := h
 exact ⟨hne, cells, sm, n, by rw [aq l1]; exact h1, by rw [aq l2]; exact h2, h3⟩
theorem xW.set (h : xW w d c) (h1 : i ≠ d) (h2 : i ≠ c) : xW (w.set i o) d c := by
 obtain ⟨hne, cells, sm, n, g1, g2, g3⟩ := h
 exact ⟨hne, cells, sm, n, by rw [ax h1]; exact g1, by rw [ax h2]; exact g2, g3⟩
end
theorem atI_nat {xs : List D} {r : Int} (h0 : 0 ≤ r) (h1 : r < xs.length) : ∃ (i : Nat) (x : D), xs[i]? = some x ∧ atI xs r = some x ∧ (i : Int) = r := by
 have l : r.toNat < xs.length := by omega
 refine ⟨r.toNat, xs[r.toNat], bg l, ?_, by omega⟩
 unfold atI ixN
 rw [if_pos h0, if_pos h1]
 show xs[r.toNat]? = _
 exact bg l
section
variable {σ : Sg} {w : W} {PI : jN → W → Prop} {P : D → W → Prop}
theorem yM {m : ME} : T (cZ m σ w) PI = T (m σ w) fun d w1 => T (iterM d w1) PI := by unfold cZ; simp only [bD]
theorem yR {f : List D → W → Res jN} {ma : MA} : T (dP f ma σ w) PI = T (ma σ w) fun xs w1 => T (f xs w1) PI := by unfold dP; simp only [bD]
theorem GX {xs : List D} : T (iterM (.tup xs) w) PI = PI ⟨xs, always⟩ w := by unfold T; rfl
theorem HS {xs : List D} : T (iterM (.lst xs) w) PI = PI ⟨xs, always⟩ w := by unfold T; rfl
theorem vD {n : Int} (h : 0 ≤ n) (h2 : n < 1073741824) : T (i0 [.int n] w) PI = PI (gD 0 n.toNat) w := by
 simp only [i0]
 rw [if_pos (by constructor <;> omega)]
 unfold T; rfl
theorem R0 {a b : Int} (h : -1073741824 ≤ a ∧ a < 1073741824) (h2 : -1073741824 ≤ b ∧ b < 1073741824) : T (B5 [.int a, .int b] w) PI = PI (gD a (b - a).toNat) w := by
 simp only [B5]
 rw [if_pos (by refine ⟨?_, ?_, ?_, ?_⟩ <;> omega)]
 unfold T; rfl
theorem tD {PO : Option Int → W → Prop} : T (cY σ w) PO = PO none w := by unfold T; rfl
theorem uK {m : ME} {PO : Option Int → W → Prop} : T (cK m σ w) PO = T (m σ w) fun d w1 => match d with
 | .int i => PO (some i) w1
 | _ => False := by
 unfold cK
 simp only [bD]
 congr 1; funext d w1
 cases d <;> (unfold T; rfl)
theorem QK {f : D → Option Int → Option Int → W → Res D} {a : ME} {lo hi : ZH} : T (nD f a lo hi σ w) P = T (a σ w) fun x w1 => T (lo σ w1) fun l w2 => T (hi σ w2) fun u w3 => T (f x l u w3) P := by unfold nD; simp only [bD]
theorem qV : ∀ ns : List Int, lE (ns.map D.int) = some ns
 | [] => rfl
 | n :: ns => by simp [lE, qV ns]
theorem VD {ns : List Int} {lo hi : Option Int} : ∃ ms : List Int, cutD (ns.map D.int) lo hi = ms.map D.int ∧ ms.length ≤ ns.length := by
 unfold cutD
 rw [← List.map_drop, ← List.map_take]
 exact ⟨_, rfl, by simp; omega⟩
end
def r7 (r : List Int) : D := .tup (r.map .int)
def eR (t : Int × Int × Int) : D := .tup [.int t.1, .int t.2.1, .int t.2.2]
structure Mo where
 bV : List (List Int)
 kX : Int
 jP : Int
 uO : Int
 bears : D
 gap : Int
 hold : Int
 takes : Bool
 q8 : List (Int × Int × Int)
 fA : Int
def Mo.kvs (m : Mo) : List (Key × D) := [(.inr "ranks", .tup (m.bV.map r7)), (.inr "every", .int m.kX), (.inr "lost", .int m.jP), (.inr "slow", .int m.uO), (.inr "bears", m.bears), (.inr "gap", .int m.gap), (.inr "hold", .int m.hold),
 (.inr "takes", .bl m.takes), (.inr "ties", .tup (m.q8.map eR)), (.inr "hosts", .int m.fA)]
structure U8 (rs : List (List Int)) (h : Nat) : Prop where
 h1 : 1 ≤ h
 h6 : h ≤ 6
 row : ∀ r ∈ rs, r.length = h ∧ ∀ x ∈ r, 1 ≤ x ∧ x ≤ 12
structure ZA (ts : List (Int × Int × Int)) (h : Nat) : Prop where
 few : ts.length ≤ 6
 each : ∀ t ∈ ts, (0 ≤ t.1 ∧ t.1 < h) ∧ (0 ≤ t.2.1 ∧ t.2.1 ≤ 9) ∧ (1 ≤ t.2.2 ∧ t.2.2 ≤ 11)
 up : ts.Pairwise fun a b => a.1 < b.1 ∨ (a.1 = b.1 ∧ a.2.1 < b.2.1)
theorem oP {n : Nat} {i : Nat} {x : D} {lo : Int} (h : (gD lo n).xs[i]? = some x) : i < n ∧ x = .int (lo + i) := by
 have h' : ((List.range n).map fun k : Nat => D.int (lo + (k : Int)))[i]? = some x := h
 rw [bw] at h'
 by_cases hi : i < n
 ·rw [List.getElem?_range hi] at h'
  cases h'
  exact ⟨hi, rfl⟩
 ·rw [cg (by simpa using hi)] at h'
  cases h'
theorem kM {n : Nat} {lo : Int} : (gD lo n).xs.length = n := by simp [gD]
open PySem.W (dataLe)
def l3 (t : Int × Int × Int) : List Int := [t.1, t.2.1, t.2.2]
def zF (t u : Int × Int × Int) : Bool := decide (l3 t ≤ l3 u)
theorem MN {w : W} {ts : List (Int × Int × Int)} : (ts.map eR).mergeSort (dataLe false (DX w)) = (ts.mergeSort zF).map eR := by
 refine (List.map_mergeSort fun a _ b _ => ?_).symm
 have e : dataLe false (DX w) (eR a) (eR b) = dataLe false (fun t : Int × Int × Int => .list ((l3 t).map .int)) a b := rfl
 rw [e, PySem.W.dataLe_rows]
 rfl
theorem GB {ts : List (Int × Int × Int)} : (ts.mergeSort zF).Pairwise fun a b => l3 a ≤ l3 b := by
 have h := List.pairwise_mergeSort (le := zF) (fun a b c h1 h2 => by
  simp only [zF, au] at *
  exact List.le_trans h1 h2) (fun a b => by
  simp only [zF, Bool.or_eq_true, au]
  exact List.le_total _ _) ts
 exact h.imp fun h => by simpa [zF] using h
def pairD (p : Int × Int) : D := .tup [.int p.1, .int p.2]
theorem XZ {t : Int × Int × Int} {w : W} : kH (eR t) none (some 2) w = .ok (pairD (t.1, t.2.1)) w := rfl
section
variable {σ : Sg} {w : W} {P : D → W → Prop} {PP : List (D × D) → W → Prop}
theorem IT : T (AF σ w) PP = PP [] w := by unfold T; rfl
theorem C6 {a b : ME} {r : MP} : T (c9 a b r σ w) PP = T (a σ w) fun k w1 => T (b σ w1) fun v w2 => T (r σ w2) fun ps w3 => PP ((k, v) :: ps) w3 := by unfold c9; simp only [bD, bZ]
theorem OP {m : MP} : T (zS m σ w) P = T (m σ w) fun ps w1 => ∃ kvs, keyed ps = some kvs ∧ kvs.length ≤ 15 ∧ P (.ref w1.length) (w1 ++ [.dK (qD [] kvs)]) := by
 unfold zS
 simp only [bD]
 congr 1; funext ps w1
 cases keyed ps with
 | none => simp [T]
 | some kvs => simp [c7, bZ]
end
section
variable {α β : Type} {it : jN} {vs : List Nat} {g : MG} {t : MT} {e : ME} {σ : Sg} {w : W} {P : List D → W → Prop}
theorem kG (ys : List α) (enc : α → D) (f : α → D) (hx : it.xs = ys.map enc) (hok : it.ok w)
  (h : ∀ y ∈ ys, T (g (enc y) (dJ σ vs) w) fun σ1 w1 => T (t σ1 w1) fun b w2 => b = true ∧ T (e σ1 w2) fun z w3 => z = f y ∧ w3 = w) (k : P (ys.map f) w) :
  T (kU it vs g t e it.xs σ w) P := by
 have cl := LD (it := it) (vs := vs) (g := g) (t := t) (e := e) (σ := σ) (P := P) (fun i acc w1 => w1 = w ∧ acc = (ys.take i).map f) (fun _ _ _ q => by rw [q.1]; exact hok)
  (fun i x acc w1 hi q => by
   obtain ⟨rfl, rfl⟩ := q
   rw [hx, bw] at hi
   cases hy : ys[i]? with
   | none => rw [hy] at hi; cases hi
   | some y =>
    rw [hy] at hi
    cases hi
    refine (h y (bf hy)).mono fun σ1 w2 _ q => q.mono fun b w3 _ q => ?_
    obtain ⟨rfl, q⟩ := q
    rw [if_pos rfl]
    refine q.mono fun z w4 _ q => ⟨q.2, ?_⟩
    rw [List.take_add_one, hy, q.1]
    simp)
  (fun acc w1 q => by
   obtain ⟨rfl, rfl⟩ := q
   rw [hx, bq, List.take_length]
   exact k) (i := 0) (acc := []) (w := w) (Nat.zero_le _) ⟨rfl, rfl⟩
 rw [List.drop_zero] at cl
 exact cl.mono fun _ _ _ q => by simpa using q
theorem J6 (ys : List α) (f : α → Bool) : qF (ys.map fun y => D.bl (f y)) = some (ys.map f) := by
 induction ys with
 | nil => rfl
 | cons y ys ih => simp [qF, ih]
theorem y5 {P : D → W → Prop} (ys : List α) (f : α → Bool) : T (allM [.lst (ys.map fun y => .bl (f y))] w) P = P (.bl (ys.all f)) w := by
 have e : allM [.lst (ys.map fun y => .bl (f y))] w = .ok (.bl (ys.all f)) w := by
  simp only [allM, rS, Option.bind_some, J6]
  congr 2
  rw [List.all_map]
  rfl
 rw [e, bZ]
theorem W5 (enc f : β → D) : ∀ (zs : List β) (acc : List D) {P : List D → W → Prop} (hok : it.ok w) (hl : acc.length + zs.length ≤ sizeLine)
  (h : ∀ z ∈ zs, T (g (enc z) (dJ σ vs) w) fun σ1 w1 => T (t σ1 w1) fun b w2 => b = true ∧ T (e σ1 w2) fun y w3 => y = f z ∧ w3 = w) (k : P (acc ++ zs.map f) w), T (S8 it vs g t e acc (zs.map enc) σ w) P
 | [], acc, P, hok, hl, h, k => by
  rw [List.map_nil]
  unfold S8
  rw [if_pos hok, bZ]
  simpa using k
 | z :: zs, acc, P, hok, hl, h, k => by
  simp only [List.length_cons] at hl
  rw [List.map_cons]
  unfold S8
  rw [if_pos hok, bD, t8]
  refine (h z (az ..)).mono fun σ1 w1 _ q => ?_
  rw [bD, t8]
  refine q.mono fun b w2 _ q => ?_
  obtain ⟨rfl, q⟩ := q
  rw [if_pos rfl, bD, t8]
  refine q.mono fun y w3 _ q => ?_
  rw [if_pos (by omega), q.1, q.2]
  exact W5 enc f zs (acc ++ [f z]) hok (by simp; omega) (fun z hz => h z (bh _ hz)) (by simpa using k)
theorem RW (enc : α → D) (inner : α → List β) (enc1 : β → D) (f : α → β → D) {mi1 : MI} {vs1 : List Nat} {g1 : MG} {t1 : MT} : ∀ (ys : List α) (acc : List D) {P : List D → W → Prop} (hok : it.ok w) (hl : acc.length + (ys.map fun y => (inner y).length).sum ≤ sizeLine)
  (h : ∀ y ∈ ys, T (g (enc y) (dJ σ vs) w) fun σ1 w1 => T (t σ1 w1) fun b w2 => b = true ∧ T (mi1 σ1 w2) fun it1 w3 => (w3 = w ∧ it1.ok w ∧ it1.xs = (inner y).map enc1) ∧
   ∀ z ∈ inner y, T (g1 (enc1 z) (dJ σ1 vs1) w) fun σ2 w4 => T (t1 σ2 w4) fun b w5 => b = true ∧ T (e σ2 w5) fun v w6 => v = f y z ∧ w6 = w)
  (k : P (acc ++ ys.flatMap fun y => (inner y).map (f y)) w), T (uG it vs g t mi1 vs1 g1 t1 e acc (ys.map enc) σ w) P
 | [], acc, P, hok, hl, h, k => by
  rw [List.map_nil]
  unfold uG
  rw [if_pos hok, bZ]
  simpa using k
 | y :: ys, acc, P, hok, hl, h, k => by
  simp only [List.map_cons, List.sum_cons] at hl
  rw [List.map_cons]
  unfold uG
  rw [if_pos hok, bD, t8]
  refine (h y (az ..)).mono fun σ1 w1 _ q => ?_
  rw [bD, t8]
  refine q.mono fun b w2 _ q => ?_
  obtain ⟨rfl, q⟩ := q
  rw [if_pos rfl, bD, t8]
  refine q.mono fun it1 w3 _ q => ?_
  obtain ⟨⟨ew, i1, i2⟩, q⟩ := q
  rw [bD, i2, ew]
  refine W5 enc1 (f y) (inner y) acc i1 (by omega) q ?_
  exact RW enc inner enc1 f ys _ hok (by simp; omega) (fun z hz => h z (bh _ hz)) (by simpa using k)
theorem T5 {m mi1 : MI} {vs1 : List Nat} {g1 : MG} {t1 : MT} {P : D → W → Prop} : T (yJ m vs g t mi1 vs1 g1 t1 e σ w) P = T (m σ w) fun it w1 => T (uG it vs g t mi1 vs1 g1 t1 e [] it.xs σ w1) fun ys w2 => P (.lst ys) w2 := by
 unfold yJ SI
 simp only [bD, bZ]
end
end Pc
namespace Lb
open PySem PySem.Spec PyProof.Rows L2 Pc
structure bN where
 aN : Addr
 dH : Addr
def dD : List (Str × Option D) := [(("every" : Str), some (.kK [(.int 1), (.int 5)])), (("lost" : Str), some (.kK [(.int 0), (.int 3)])), (("slow" : Str), some (.kK [(.int 1), (.int 4)])), (("bears" : Str), some (.kK [(.int 0), (.int 3)])), (("gap" : Str), some (.kK [(.int 0), (.int 3)])), (("hold" : Str), some (.kK [(.int 0), (.int 20)])), (("hosts" : Str), some (.kK [(.int 0), (.int 4)])), (("takes" : Str), none), (("ties" : Str), none)]
def i7 : List Str := [("thing" : Str)]
def k9 (k : bN) : MS :=
 (a7 (mO (aW (lH lS) (aA (aB 0) (aA (eC (.ty "int")) aD))) (sV notM (aW (lH lS) (aA (aB 0) (aA (eC (.ty "bool")) aD))))))
def gX (k : bN) : MF := bM (k9 k) i7
theorem EX (x0 : D) : begin i7 [x0] = [some x0] := rfl
def hR : List Str := [("thing" : Str), ("least" : Str), ("most" : Str)]
def j4 (k : bN) : MS :=
 (a7 (mO (aH (gX k) 1 aL (aA (aB 0) aD)) (ON JY JY (aB 1) (aB 0) (aB 2))))
def bG (k : bN) : MF := bM (j4 k) hR
theorem B7 (x0 x1 x2 : D) : begin hR [x0, x1, x2] = [some x0, some x1, some x2] := rfl
def hZ : List Str := [("thing" : Str), ("row" : Str), ("rank" : Str)]
def jK (k : bN) : MS :=
 (aI (dE (fT (cG (dY (aW (lH lS) (aA (aB 0) (aA (eC (.ty "tuple")) aD))))) (cG (a8 (ON JY JY (eC (.int 1)) (aW dO (aA (aB 0) aD)) (eC (.int 4)))))) (a7 (eC (.bl false))) a5)
 (aI (dE (cG (dY (aW allM (aA (bT (cZ (aB 0)) [1] (aR 1) bU (mO (aW (lH lS) (aA (aB 1) (aA (eC (.ty "tuple")) aD))) (aE JY (aW dO (aA (aB 1) aD)) (eC (.int 6))))) aD)))) (a7 (eC (.bl false))) a5)
 (aI (dE (fT (a8 (aE fE (aE aZ (aB 0) (eC (.int 0))) (aM aD))) (cG (dY (aW allM (aA (bT (cZ (aB 0)) [1] (aR 1) bU (aE fE (aW dO (aA (aB 1) aD)) (aW dO (aA (aE aZ (aB 0) (eC (.int 0))) aD)))) aD))))) (a7 (eC (.bl false))) a5)
 (a7 (aW allM (aA (yJ (cZ (aB 0)) [1, 2] (aR 1) bU (cZ (aB 1)) [2] (aR 2) bU (aH (bG k) 3 aL (aA (aB 2) (aA (eC (.int 1)) (aA (eC (.int 12)) aD))))) aD))))))
def eE (k : bN) : MF := bM (jK k) hZ
theorem DT (x0 : D) : begin hZ [x0] = [some x0, none, none] := rfl
def m8 : List Str := [("thing" : Str), ("houses" : Str), ("house" : Str), ("tie" : Str), ("less" : Str)]
def qE (k : bN) : MS :=
 (aI (dE (fT (cG (dY (aW (lH lS) (aA (aB 0) (aA (eC (.ty "tuple")) aD))))) (a8 (aE kJ (aW dO (aA (aB 0) aD)) (eC (.int 3))))) (a7 (eC (.bl false))) a5)
 (aI (aP (aB 0) (bS 3 (aK (aR 2) (aK (aR 3) (aK (aR 4) bR)))))
 (a7 (mO (aH (bG k) 3 aL (aA (aB 2) (aA (eC (.int 0)) (aA (aE iB (aB 1) (eC (.int 1))) aD)))) (mO (aH (bG k) 3 aL (aA (aB 3) (aA (eC (.int 0)) (aA (eC (.int 9)) aD)))) (aH (bG k) 3 aL (aA (aB 4) (aA (eC (.int 1)) (aA (eC (.int 11)) aD)))))))))
def mY (k : bN) : MF := bM (qE k) m8
theorem N5 (x0 x1 : D) : begin m8 [x0, x1] = [some x0, some x1, none, none, none] := rfl
def i8 : List Str := [("thing" : Str), ("houses" : Str), ("one" : Str), ("other" : Str)]
def lG (k : bN) : MS :=
 (aI (dE (fT (cG (dY (aW (lH lS) (aA (aB 0) (aA (eC (.ty "tuple")) aD))))) (fT (a8 (aE BU (aW dO (aA (aB 0) aD)) (eC (.int 6)))) (cG (dY (aW allM (aA (bT (cZ (aB 0)) [2] (aR 2) bU (aH (mY k) 2 aL (aA (aB 2) (aA (aB 1) aD)))) aD)))))) (a7 (eC (.bl false))) a5)
 (a7 (aW allM (aA (bT (dP W2 (aA (nD kH (aB 0) cY (cK (sV nR (eC (.int 1))))) (aA (nD kH (aB 0) (cK (eC (.int 1))) cY) aD))) [2, 3] (bS 2 (aK (aR 2) (aK (aR 3) bR))) bU (aE BR (nD kH (aB 2) cY (cK (eC (.int 2)))) (nD kH (aB 3) cY (cK (eC (.int 2)))))) aD))))
def i6 (k : bN) : MF := bM (lG k) i8
theorem FA (x0 x1 : D) : begin i8 [x0, x1] = [some x0, some x1, none, none] := rfl
def i3 : List Str := [("name" : Str), ("thing" : Str), ("houses" : Str), ("least" : Str), ("most" : Str)]
def gY (k : bN) : MS :=
 (aI (dE (a8 (aE (NN k.dH dD) (aB 0) (eC (.con k.dH)))) (aI (aP (aE (KL k.dH dD) (eC (.con k.dH)) (aB 0)) (bS 2 (aK (aR 3) (aK (aR 4) bR))))
 (a7 (aH (bG k) 3 aL (aA (aB 1) (aA (aB 3) (aA (aB 4) aD)))))) a5)
 (aI (dE (a8 (aE fE (aB 0) (eC (.str ("takes" : Str))))) (a7 (aW (lH lS) (aA (aB 1) (aA (eC (.ty "bool")) aD)))) a5)
 (a7 (aH (i6 k) 2 aL (aA (aB 1) (aA (aB 2) aD))))))
def c8 (k : bN) : MF := bM (gY k) i3
theorem pJ (x0 x1 x2 : D) : begin i3 [x0, x1, x2] = [some x0, some x1, some x2, none, none] := rfl
def eY : List Str := [("self" : Str), ("ranks" : Str), ("every" : Str), ("lost" : Str), ("slow" : Str), ("bears" : Str), ("gap" : Str), ("hold" : Str), ("takes" : Str), ("ties" : Str), ("hosts" : Str), ("borne" : Str), ("told" : Str), ("name" : Str), ("thing" : Str)]
def jI (k : bN) : MS :=
 (aI (dE (cG (dY (aH (eE k) 1 aL (aA (aB 1) aD)))) T7 a5)
 (aI (aP (VE (a8 (aE TC (aB 5) (eC .non))) (aB 3) (aB 5)) (aR 11))
 (aI (aP (zS (c9 (eC (.str ("every" : Str))) (aB 2) (c9 (eC (.str ("lost" : Str))) (aB 3) (c9 (eC (.str ("slow" : Str))) (aB 4) (c9 (eC (.str ("bears" : Str))) (aB 11) (c9 (eC (.str ("gap" : Str))) (aB 6) (c9 (eC (.str ("hold" : Str))) (aB 7) (c9 (eC (.str ("takes" : Str))) (aB 8) AF)))))))) (aR 12))
 (aI (b6 (dA "dict" II (aB 12) (aA (zS (c9 (eC (.str ("ties" : Str))) (aB 9) (c9 (eC (.str ("hosts" : Str))) (aB 10) AF))) aD)))
 (aI (dR (qZ (aB 12)) (bS 2 (aK (aR 13) (aK (aR 14) bR))) (dE (cG (dY (aH (c8 k) 3 aL (aA (aB 13) (aA (aB 14) (aA (aW dO (aA (aE aZ (aB 1) (eC (.int 0))) aD)) aD)))))) T7 a5))
 (aI (cM k.aN ("ranks" : Str) (aB 0) (aB 1))
 (aI (cM k.aN ("every" : Str) (aB 0) (aB 2))
 (aI (cM k.aN ("lost" : Str) (aB 0) (aB 3))
 (aI (cM k.aN ("slow" : Str) (aB 0) (aB 4))
 (aI (cM k.aN ("bears" : Str) (aB 0) (aB 11))
 (aI (cM k.aN ("gap" : Str) (aB 0) (aB 6))
 (aI (cM k.aN ("hold" : Str) (aB 0) (aB 7))
 (aI (cM k.aN ("takes" : Str) (aB 0) (aB 8))
 (aI (cM k.aN ("ties" : Str) (aB 0) (aB 9))
 (cM k.aN ("hosts" : Str) (aB 0) (aB 10))))))))))))))))
def hU (k : bN) : MF := bM (jI k) eY
abbrev cV (k : bN) : List D → List D → List D := fun xs zs => jQ [(0, 0), (0, 1), (1, 0), (1, 1), (1, 2), (1, 3), (1, 4), (1, 5), (1, 6), (1, 7), (1, 8)] xs zs []
def iA : List Str := [("_law_model_here" : Str), ("_law_words" : Str), ("_law_word" : Str)]
def hE (k : bN) : MS :=
 (aI (aP (bT (cZ (aM (aA (eC (.str ("every" : Str))) (aA (eC (.str ("lost" : Str))) (aA (eC (.str ("slow" : Str))) (aA (eC (.str ("bears" : Str))) (aA (eC (.str ("gap" : Str))) (aA (eC (.str ("hold" : Str))) (aA (eC (.str ("takes" : Str))) (aA (eC (.str ("ties" : Str))) (aA (eC (.str ("hosts" : Str))) aD))))))))))) [2] (aR 2) bU (aE aZ (aB 0) (aB 2))) (aR 1))
 (a7 (sU k.aN (hU k) 1 9 (cV k) (aA (aE aZ (aB 0) (eC (.str ("ranks" : Str)))) aD) (aA (aE aZ (aB 1) (eC (.int 0))) (aA (aE aZ (aB 1) (eC (.int 1))) (aA (aE aZ (aB 1) (eC (.int 2))) (aA (aE aZ (aB 1) (eC (.int 3))) (aA (aE aZ (aB 1) (eC (.int 4))) (aA (aE aZ (aB 1) (eC (.int 5))) (aA (aE aZ (aB 1) (eC (.int 6))) (aA (aE aZ (aB 1) (eC (.int 7))) (aA (aE aZ (aB 1) (eC (.int 8))) aD))))))))))))
def bX (k : bN) : MF := bM (hE k) iA
def MY : List Str := [("plan" : Str), ("rank" : Str)]
def NT (k : bN) : MS :=
 (a7 (aE bE (eC (.int 2)) (aE mulM (bY k.aN ("gap" : Str) (aB 0)) (aE iB (eC (.int 12)) (aB 1)))))
def NC (k : bN) : MF := bM (NT k) MY
def z9 : List Str := [("plan" : Str), ("lost" : Str)]
def yE (k : bN) : MS :=
 (a7 (aE bE (aE mulM (aE bE (aB 1) (eC (.int 1))) (bY k.aN ("every" : Str) (aB 0))) (bY k.aN ("slow" : Str) (aB 0))))
def y8 (k : bN) : MF := bM (yE k) z9
def NX : List Str := [("plan" : Str), ("rank" : Str)]
def M7 (k : bN) : MS :=
 (a7 (aE bE (aH (y8 k) 2 aL (aA (aB 0) (aA (bY k.aN ("bears" : Str) (aB 0)) aD))) (aE mulM (bY k.aN ("gap" : Str) (aB 0)) (aE iB (eC (.int 12)) (aB 1)))))
def BJ (k : bN) : MF := bM (M7 k) NX
def JH : List Str := [("self" : Str)]
def IS (k : bN) : MS :=
 (a7 (aW dO (aA (aE aZ (bY k.aN ("ranks" : Str) (aB 0)) (eC (.int 0))) aD)))
def gA (k : bN) : MF := bM (IS k) JH
section
variable {w : W} {P : D → W → Prop} (k : bN)
theorem sz (n : Nat) (h : n ≤ 1000) : n ≤ sizeLine := by rw [sizeLine_eq]; omega
theorem XB {a b : Int} : T (fE (.int a) (.int b) w) P = P (.bl (a == b)) w := by
 rw [zA, tF]
 simp
theorem SH {a b : Int} : T (kJ (.int a) (.int b) w) P = P (.bl (!(a == b))) w := by
 rw [RE, tF]
 simp
theorem D7 {xs : List D} : T (dO [.tup xs] w) P = P (.int xs.length) w := by rw [RY]; simp [DH, D.items]
theorem aA9 {xs : List D} : T (dO [.lst xs] w) P = P (.int xs.length) w := by rw [RY]; simp [DH, D.items]
theorem aBW {xs : List D} : T (dO [.kK xs] w) P = P (.int xs.length) w := by rw [RY]; simp [DH, D.items]
theorem ZX {x : D} {xs : List D} : atI (x :: xs) 0 = some x := by
 unfold atI ixN
 rw [if_pos (by omega), if_pos (by simp)]
 rfl
theorem BK (cells : List Int) : SeqAt.shaped (.tuple (cells.map PyData.int)) = true := by
 have h1 := zN cells
 have h2 := x6 cells
 unfold SeqAt.shaped
 simp [PyData.canLay0, PyData.depth, h1]
 omega
theorem VT (r : List Int) : D.py w (r7 r) = some (.tuple (r.map PyData.int)) := by
 show (D.pysR _ (r.map D.int)).map PyData.tuple = _
 rw [xR]
 rfl
theorem LS {r : List Int} : T (fE (r7 r) (.tup []) w) P = P (.bl r.isEmpty) w := by
 have e : rA (r7 r) (.tup []) w = some r.isEmpty := by
  unfold rA pO
  rw [VT]
  have e2 : D.py w (.tup []) = some (.tuple []) := rfl
  rw [e2]
  have l2 : SeqAt.shaped (.tuple []) = true := BK []
  simp only [BK, l2, and_self, ah]
  cases r <;> simp [PyData.eqv, PyData.eqvAll]
 rw [zA, e]
 simp
end
section
variable {w : W} {P : D → W → Prop} (k : bN)
theorem aBT {xs ys : List D} {PI : jN → W → Prop} : T (W2 [.tup xs, .tup ys] w) PI = (xs.length = ys.length ∧ PI ⟨(xs.zip ys).map fun p => .tup [p.1, p.2], always⟩ w) := by
 simp only [W2, wJ, c7, bZ]
theorem TB {xs : List D} : kH (.tup xs) none (some (-1)) w = .ok (.tup xs.dropLast) w := by
 simp only [kH, Pc.cutD, HT.sIx]
 congr 2
 rw [if_pos (by omega), List.drop_zero, List.dropLast_eq_take]
 congr 1
 omega
theorem U1 {xs : List D} : kH (.tup xs) (some 1) none w = .ok (.tup xs.tail) w := by
 simp only [kH, Pc.cutD, HT.sIx]
 congr 2
 rw [if_neg (by omega)]
 cases xs with
 | nil => simp
 | cons x xs => simp
theorem UN {p q : Int × Int} : BR (pairD p) (pairD q) w = .ok (.bl (HT.lexLt [p.1, p.2] [q.1, q.2])) w := rfl
theorem Q0 {a : Addr} {tab : List (Str × Option D)} {z : Str} {o : Option D} (h : tab.lookup z = some o) : T (NN a tab (.str z) (.con a) w) P = P (.bl o.isSome) w := by
 simp only [NN, ah, h, bZ]
theorem aAX {a : Addr} {tab : List (Str × Option D)} {z : Str} {d : D} (h : tab.lookup z = some (some d)) : T (KL a tab (.con a) (.str z) w) P = P d w := by
 simp only [KL, ah, h, bZ]
theorem DS {a b : Str} (ha : PyData.strOk a = true) (hb : PyData.strOk b = true) : rA (.str a) (.str b) w = some (a == b) := by
 simp [rA, pO, D.py, D.gN, SeqAt.shaped, PyData.canLay0, PyData.depth, PyData.eqv, ha, hb]
theorem DR {a b : Str} {r : Bool} (h : rA (.str a) (.str b) w = some r) : T (fE (.str a) (.str b) w) P = P (.bl r) w := by
 rw [zA, h]
 simp
end
section
variable {w : W} {P : D → W → Prop} {PF : Fl → W → Prop} {PI : jN → W → Prop} {σ : Sg}
theorem K5 {i : Nat} {kvs : List (Key × D)} (h : w[i]? = some (.dK kvs)) : T (vB (.ref i) w) PI = PI ⟨kvs.map fun p => .tup [gF p.1, p.2], always⟩ (w.set i (.dF kvs)) := by
 simp only [vB, h, bZ]
theorem zW {m : ME} : T (qZ m σ w) PI = T (m σ w) fun d w1 => T (vB d w1) PI := by unfold qZ; simp only [bD]
def Turn (next : Sg → W → Prop) (PF : Fl → W → Prop) : Fl → W → Prop := fun f w => match f with
 | .nx s => next s w
 | .ct s => next s w
 | .bk s => PF (.nx s) w
 | .rt d => PF (.rt d) w
open Classical in
open Classical in
theorem YL {i j : Nat} {kvs more : List (Key × D)} (h1 : w[i]? = some (.dK kvs)) (h2 : w[j]? = some (.dK more)) : T (II (.ref i) [.ref j] w) P = ((i ≠ j ∧ kvs.length + more.length ≤ sizeLine) ∧ P .non (w.set i (.dK (qD kvs more)))) := by
 simp only [II, h1, h2, c7, bZ]
structure MoB (m : Mo) (h : Nat) : Prop where
 bV : U8 m.bV h
 n1 : 1 ≤ m.bV.length
 n4 : m.bV.length ≤ 4
 kX : 1 ≤ m.kX ∧ m.kX ≤ 5
 jP : 0 ≤ m.jP ∧ m.jP ≤ 3
 uO : 1 ≤ m.uO ∧ m.uO ≤ 4
 gap : 0 ≤ m.gap ∧ m.gap ≤ 3
 hold : 0 ≤ m.hold ∧ m.hold ≤ 20
 q8 : ZA m.q8 h
 fA : 0 ≤ m.fA ∧ m.fA ≤ 4
def OQ (m : Mo) (b : Int) : List (Str × D) := [("ranks", .tup (m.bV.map r7)), ("every", .int m.kX), ("lost", .int m.jP), ("slow", .int m.uO), ("bears", .int b), ("gap", .int m.gap), ("hold", .int m.hold), ("takes", .bl m.takes), ("ties", .tup (m.q8.map eR)), ("hosts", .int m.fA)]
theorem mG {p i : Nat} {C : Addr} {fs : List (Str × D)} {z : Str} {d : D} (h : w[p]? = some (.ins C fs)) (h0 : σ[0]? = some (some (.ref p))) (h1 : σ[i]? = some (some d)) (hl : fs.length < 1000) (q : PF (.nx σ) (w.set p (.ins C (qG z d fs)))) : T (cM C z (aB 0) (aB i) σ w) PF := by
 simp only [uY, ZW, h0, h1, PV h]
 exact ⟨hl, q⟩
variable (k : bN)
end
section
variable {w : W} {P : D → W → Prop} {PF : Fl → W → Prop} {PI : jN → W → Prop} {σ : Sg}
theorem sl0 : (0 ≤ sizeLine) = True := eq_true (sz _ (by omega))
theorem sl1 : (0 + 1 ≤ sizeLine) = True := eq_true (sz _ (by omega))
theorem sl2 : (0 + 1 + 1 ≤ sizeLine) = True := eq_true (sz _ (by omega))
theorem sl3 : (0 + 1 + 1 + 1 ≤ sizeLine) = True := eq_true (sz _ (by omega))
theorem sl4 : (0 + 1 + 1 + 1 + 1 ≤ sizeLine) = True := eq_true (sz _ (by omega))
theorem sl5 : (0 + 1 + 1 + 1 + 1 + 1 ≤ sizeLine) = True := eq_true (sz _ (by omega))
theorem sl6 : (0 + 1 + 1 + 1 + 1 + 1 + 1 ≤ sizeLine) = True := eq_true (sz _ (by omega))
theorem sl7 : (0 + 1 + 1 + 1 + 1 + 1 + 1 + 1 ≤ sizeLine) = True := eq_true (sz _ (by omega))
theorem sl8 : (0 + 1 + 1 + 1 + 1 + 1 + 1 + 1 + 1 ≤ sizeLine) = True := eq_true (sz _ (by omega))
theorem sl9 : (0 + 1 + 1 + 1 + 1 + 1 + 1 + 1 + 1 + 1 ≤ sizeLine) = True := eq_true (sz _ (by omega))
theorem aB7 : (0 + 1 + 1 + 1 + 1 + 1 + 1 + 1 + 1 + 1 + 1 ≤ sizeLine) = True := eq_true (sz _ (by omega))
theorem aCb : (0 + 1 + 1 + 1 + 1 + 1 + 1 + 1 + 1 + 1 + 1 + 1 ≤ sizeLine) = True := eq_true (sz _ (by omega))
theorem aBD : (0 + 1 + 1 + 1 + 1 + 1 + 1 + 1 + 1 + 1 + 1 + 1 + 1 ≤ sizeLine) = True := eq_true (sz _ (by omega))
variable (k : bN)
def gI (w : W) (p : Nat) (m : Mo) (b : Int) : Prop := w[p]? = some (.ins k.aN (OQ m b))
variable {k} {p : Nat} {m : Mo} {b : Int}
theorem AV {z : Str} {d : D} (h : gI k w p m b) (e : (OQ m b).lookup z = some d) : T (nJ k.aN z (.ref p) w) P = P d w := by
 rw [QE h, e]
 simp
theorem VI (h : gI k w p m b) : T (nJ k.aN "ranks" (.ref p) w) P = P (.tup (m.bV.map r7)) w := AV h rfl
theorem UH (h : gI k w p m b) : T (nJ k.aN "every" (.ref p) w) P = P (.int m.kX) w := AV h rfl
theorem Y6 (h : gI k w p m b) : T (nJ k.aN "lost" (.ref p) w) P = P (.int m.jP) w := AV h rfl
theorem ZQ (h : gI k w p m b) : T (nJ k.aN "slow" (.ref p) w) P = P (.int m.uO) w := AV h rfl
theorem U7 (h : gI k w p m b) : T (nJ k.aN "bears" (.ref p) w) P = P (.int b) w := AV h rfl
theorem aAV (h : gI k w p m b) : T (nJ k.aN "gap" (.ref p) w) P = P (.int m.gap) w := AV h rfl
theorem Y5 (h : gI k w p m b) : T (nJ k.aN "hold" (.ref p) w) P = P (.int m.hold) w := AV h rfl
theorem V5 (h : gI k w p m b) : T (nJ k.aN "takes" (.ref p) w) P = P (.bl m.takes) w := AV h rfl
theorem QH (h : gI k w p m b) : T (nJ k.aN "ties" (.ref p) w) P = P (.tup (m.q8.map eR)) w := AV h rfl
theorem TQ (h : gI k w p m b) : T (nJ k.aN "hosts" (.ref p) w) P = P (.int m.fA) w := AV h rfl
def WJ (m : Mo) (b r : Int) : Int := (b + 1) * m.kX + m.uO + m.gap * (12 - r)
variable (k)
end
theorem mS (a b : Str) : PyData.strOk (a ++ b) = (PyData.strOk a && PyData.strOk b) := by
 show Array.all (a.cps ++ b.cps) _ = _
 unfold PyData.strOk
 rw [Array.all_append]
theorem jU (s : String) : PyData.strOk (Str.ofString s) = true := by
 rw [Str.ofString_eq_toList]
 unfold PyData.strOk
 rw [Array.all_eq_true_iff_forall_mem]
 intro c hc
 simp only [List.mem_toArray, cc] at hc
 obtain ⟨ch, _, rfl⟩ := hc
 have := ch.valid
 simp only [au]
 have h2 : ch.toNat < 0x110000 := by
  have h3 : ch.toNat = ch.val.toNat := rfl
  rcases this with h | ⟨_, h⟩
  ·rw [h3]; exact Nat.lt_trans h (by decide)
  ·rw [h3]; exact h
 exact h2
theorem pI : ∀ (ts : List Str) (k : Nat) (acc : Str), PyData.strOk acc = true → (∀ t ∈ ts, PyData.strOk t = true) → PyData.strOk (textFrom k acc ts) = true
 | [], k, acc, h, _ => h
 | t :: ts, k, acc, h, ht => by
  unfold textFrom
  refine pI ts (k + 1) _ ?_ fun x hx => ht x (bh _ hx)
  rw [mS, mS, h, ht t (az ..), jU]
  rfl
theorem D1 (sep : Str) (hs : PyData.strOk sep = true) : ∀ ts : List Str, (∀ t ∈ ts, PyData.strOk t = true) → PyData.strOk (Str.join sep ts) = true
 | [], _ => by show PyData.strOk Str.empty = true; decide +kernel
 | [x], h => h x (az ..)
 | x :: y :: r, h => by
  show PyData.strOk (x ++ sep ++ Str.join sep (y :: r)) = true
  rw [mS, mS, hs, h x (az ..), D1 sep hs (y :: r) fun t ht => h t (bh _ ht)]
  rfl
mutual
/-- data of short numbers and fine short texts, lists and tuples of such -/
def fK : PyData → Bool
 | .none | .bool _ => true
 | .int i => decide (i.natAbs < 10 ^ 40)
 | .str x => PyData.strOk (reprText x) && PyData.strOk x && PyData.leavesShort 60 (.str x) && decide (x.length ≤ 100)
 | .list xs | .tuple xs => plainPs xs
 | .dict _ => false
def plainPs : List PyData → Bool
 | [] => true
 | x :: xs => fK x && plainPs xs
end
mutual
theorem FI : ∀ p : PyData, fK p = true → PyData.strOk p.shown = true
 | .none, _ => jU _
 | .bool b, _ => by cases b <;> exact jU _
 | .int i, _ => jU _
 | .str x, h => by
  simp only [fK, ak] at h
  exact h.1.1.1
 | .list xs, h => by
  rw [fK] at h
  show PyData.strOk (textFrom 0 "[" (PyData.shownAll xs) ++ "]") = true
  rw [mS, pI _ _ _ (jU _) (plains_shown xs h), jU]
  rfl
 | .tuple xs, h => by
  rw [fK] at h
  show PyData.strOk (tupleText (PyData.shownAll xs)) = true
  unfold tupleText
  rw [mS, mS, jU, D1 _ (jU _) _ (plains_shown xs h)]
  split <;> rw [jU] <;> rfl
 | .dict _, h => by simp [fK] at h
theorem plains_shown : ∀ ps : List PyData, plainPs ps = true → ∀ t ∈ PyData.shownAll ps, PyData.strOk t = true
 | [], _, t, ht => by simp [PyData.shownAll] at ht
 | p :: ps, h, t, ht => by
  simp only [plainPs, ak] at h
  simp only [PyData.shownAll, br] at ht
  rcases ht with rfl | ht
  ·exact FI p h.1
  ·exact plains_shown ps h.2 t ht
end
theorem BS {i : Int} (h : i.natAbs < 10 ^ 40) : PyData.leavesShort 60 (.int i) = true := by
 have e := int_text_length_le10 (k := 40) (by decide) h
 simp only [PyData.leavesShort, au]
 show (Str.ofString (toString i)).length ≤ 60
 rw [PySem.ofString_length]
 omega
theorem EE {i : Int} (h : i.natAbs < 10 ^ 40) : PyData.showable (.int i) = true := by
 simp only [PyData.showable, au]
 by_cases h0 : i.natAbs = 0
 ·rw [h0]; decide
 ·rw [Nat.log2_lt h0]
  exact Nat.lt_of_lt_of_le h (by decide +kernel)
mutual
theorem plain_all : ∀ p : PyData, fK p = true → p.leavesShort 60 = true ∧ p.showable = true ∧ p.hasDict = false ∧ p.canLay0 = true
 | .none, _ => by simp [PyData.leavesShort, PyData.showable, PyData.hasDict, PyData.canLay0]
 | .bool b, _ => by simp [PyData.leavesShort, PyData.showable, PyData.hasDict, PyData.canLay0]
 | .int i, h => by
  simp only [fK, au] at h
  exact ⟨BS h, EE h, by simp [PyData.hasDict], by simp [PyData.canLay0]⟩
 | .str x, h => by
  simp only [fK, ak] at h
  exact ⟨h.1.2, by simp [PyData.showable], by simp [PyData.hasDict], by simp [PyData.canLay0, h.1.1.2]⟩
 | .list xs, h => by
  rw [fK] at h
  have := plains_all xs h
  simp only [PyData.leavesShort, PyData.showable, PyData.hasDict, PyData.canLay0]
  exact this
 | .tuple xs, h => by
  rw [fK] at h
  have := plains_all xs h
  simp only [PyData.leavesShort, PyData.showable, PyData.hasDict, PyData.canLay0]
  exact this
 | .dict _, h => by simp [fK] at h
theorem plains_all : ∀ p : List PyData, plainPs p = true → PyData.leavesShortAll 60 p = true ∧ PyData.showableAll p = true ∧ PyData.hasDictAll p = false ∧ PyData.canLayAll0 p = true
 | [], _ => by simp [PyData.leavesShortAll, PyData.showableAll, PyData.hasDictAll, PyData.canLayAll0]
 | p :: ps, h => by
  simp only [plainPs, ak] at h
  obtain ⟨a1, a2, a3, a4⟩ := plain_all p h.1
  obtain ⟨b1, b2, b3, b4⟩ := plains_all ps h.2
  simp only [PyData.leavesShortAll, PyData.showableAll, PyData.hasDictAll, PyData.canLayAll0, a1, a2, a3, a4, b1, b2, b3, b4]
  simp
end
section
variable {w : W} {P : D → W → Prop} {x y : D} {p q : PyData}
theorem HG {a b : Str} (ha : PyData.strOk a = true) (hb : PyData.strOk b = true) : rA (.str a) (.str b) w = some (decide (a = b)) := by
 rw [DS ha hb]
 rfl
theorem VA {xs : List Int} : D.py w (.lst (xs.map D.int)) = some (.list (xs.map PyData.int)) := by
 show (D.pysR _ (xs.map D.int)).map PyData.list = _
 rw [xR]
 rfl
end
theorem mN {it : jN} {g : MG} {body : MS} {P : Fl → W → Prop} {σ : Sg} {w : W} (Inv : Nat → Sg → W → Prop) (ok : ∀ i σ w, Inv i σ w → it.ok w) (init : Inv 0 σ w)
  (step : ∀ i x σ w, it.xs[i]? = some x → Inv i σ w → T (g x σ w) fun σ1 w1 => T (body σ1 w1) (Turn (Inv (i + 1)) P)) (fin : ∀ σ w, Inv it.xs.length σ w → P (.nx σ) w) : T (forL it g body it.xs σ w) P := by
 have fl := Y1 (it := it) (g := g) (body := body) (P := P) Inv ok (fun i x σ w h1 h2 => (step i x σ w h1 h2).mono fun s1 w1 _ q => q.mono fun f w2 _ q2 => by cases f <;> exact q2) fin (i := 0) (σ := σ) (w := w) (Nat.zero_le _) init
 rw [List.drop_zero] at fl
 exact fl
theorem tR {it : jN} {vs : List Nat} {g : MG} {t : MT} {e : ME} {σ : Sg} {w : W} {P : List D → W → Prop} (Inv : Nat → List D → W → Prop) (ok : ∀ i acc w, Inv i acc w → it.ok w) (init : Inv 0 [] w)
  (step : ∀ i x acc w, it.xs[i]? = some x → Inv i acc w → T (g x (dJ σ vs) w) fun σ1 w1 => T (t σ1 w1) fun b w2 => if b = true then T (e σ1 w2) fun y w3 => Inv (i + 1) (acc ++ [y]) w3 else Inv (i + 1) acc w2)
  (fin : ∀ acc w, Inv it.xs.length acc w → P acc w) : T (kU it vs g t e it.xs σ w) P := by
 have cl := LD (it := it) (vs := vs) (g := g) (t := t) (e := e) (σ := σ) (P := P) Inv ok step fin (i := 0) (acc := []) (w := w) (Nat.zero_le _) init
 rw [List.drop_zero] at cl
 exact cl.mono fun _ _ _ q => by simpa using q
inductive Role where
 | rests | P8 | DY
deriving DecidableEq
def Role.s : Role → Str
 | .rests => "rests"
 | .P8 => "waits"
 | .DY => "serves"
structure AB where
 left : Int
 a : Int
 s : Int
 r : Int
 rank : Int
structure uL where
 living : List Int
 parts : List Int
 downs : List Int
 bV : List (List Int)
 b8 : List (List (Role × Int))
 eU : List AB
 iY : List (List (List Int))
 tables : List (List Int)
 asks : List (Int × Int)
def YU (p : Role × Int) : D := .tup [.str p.1.s, .int p.2]
def aAH (r : List (Role × Int)) : D := .tup (r.map YU)
def WN (l : AB) : D := .tup [.int l.left, .int l.a, .int l.s, .int l.r, .int l.rank]
def WZ (l : List (List Int)) : D := .tup (l.map r7)
abbrev FAR : Int := 1000000000000000000000000000000000000000000000000000000000000
def LB (kX lives : Int) (p : Role × Int) : Prop := (p.1 = .rests ∧ lives = 0 ∧ p.2 = 0) ∨ (lives ≠ 0 ∧ p.1 = .P8 ∧ 1 ≤ p.2 ∧ p.2 ≤ FAR) ∨ (lives ≠ 0 ∧ p.1 = .DY ∧ 1 ≤ p.2 ∧ p.2 ≤ kX)
structure PH (m : Mo) (h : Nat) (l : AB) : Prop where
 left : 1 ≤ l.left ∧ l.left ≤ m.uO
 a : 0 ≤ l.a ∧ l.a ≤ (m.bV.length : Int) - 1
 s : 0 ≤ l.s ∧ l.s ≤ (h : Int) - 1
 r : 0 ≤ l.r ∧ l.r ≤ (h : Int) + m.fA - 1
 ne : l.r ≠ l.s
 rank : 0 ≤ l.rank ∧ l.rank ≤ 12
structure QQ (m : Mo) (h : Nat) (s : uL) : Prop where
 living : s.living.length = h ∧ ∀ x ∈ s.living, 0 ≤ x ∧ x ≤ 1
 parts : (s.parts.length : Int) = h + m.fA ∧ ∀ x ∈ s.parts, 0 ≤ x ∧ x ≤ 1
 downs : (∀ x ∈ s.downs, (0 ≤ x ∧ x ≤ 9) ∧ x ∈ m.q8.map fun t => t.2.1) ∧ s.downs.Pairwise (· < ·)
 bV : s.bV.length = m.bV.length ∧ ∀ r ∈ s.bV, r.length = h ∧ ∀ x ∈ r, 1 ≤ x ∧ x ≤ 12
 b8 : s.b8.length = m.bV.length ∧ ∀ r ∈ s.b8, r.length = h ∧ ∀ p ∈ s.living.zip r, LB m.kX p.1 p.2
 eU : ∀ l ∈ s.eU, PH m h l
 few : s.eU.length ≤ 100000
 iY : s.iY.length = m.bV.length ∧ ∀ l ∈ s.iY, l.length = h ∧ ∀ (j : Nat) (r : List Int), l[j]? = some r → (r.length : Int) = h + m.fA ∧ (∀ x ∈ r, 0 ≤ x ∧ x ≤ m.jP) ∧ r[j]? = some 0
 tables : (s.tables.length : Int) = m.fA ∧ ∀ r ∈ s.tables, r.length = m.bV.length ∧ ∀ x ∈ r, -1 ≤ x ∧ x ≤ (h : Int) - 1
 asks : (s.asks.length : Int) = m.fA ∧ ∀ p ∈ s.asks, 0 ≤ p.2 ∧ p.2 ≤ p.1 ∧ p.1 ≤ FAR
section
variable {w : W} {P : D → W → Prop} {k : bN} {p h : Nat} {m : Mo} {b : Int}
theorem QO (n : Nat) (h : n ≤ 1000000) : n ≤ sizeLine := by rw [sizeLine_eq]; omega
end
section
variable {w : W} {P : D → W → Prop} {k : bN} {p h : Nat} {m : Mo} {b : Int}
theorem UQ {x : Int} {xs : List Int} : inD (.int x) (.lst (xs.map D.int)) w = some (decide (x ∈ xs)) := by
 show BW (.int x) (.lst (xs.map D.int)) w = _
 unfold BW
 have e1 : D.py w (.int x) = some (.int x) := rfl
 rw [e1, VA]
 have l1 : SeqAt.shaped (.int x) = true := by simp [SeqAt.shaped, PyData.canLay0, PyData.depth]
 simp only [l1, lay_ints, and_self, ah]
 congr 1
 rw [List.any_map]
 induction xs with
 | nil => simp
 | cons y ys ih =>
  rw [List.any_cons, ih]
  simp only [Function.comp_apply, PyData.eqv, br]
  by_cases h : y = x
  ·subst h; simp
  ·have h' : x ≠ y := fun z => h z.symm
   simp [h, h']
end
section
variable {w : W} {P : D → W → Prop} {k : bN} {p h : Nat} {m : Mo} {b : Int}
theorem gZ {xs : List D} {j : Nat} {d : D} (e : xs[j]? = some d) : atI xs (j : Int) = some d := by
 have hl := (ai.mp e).1
 unfold atI ixN
 rw [if_pos (by omega), if_pos (by omega)]
 exact e
end
section
variable {w : W} {P : D → W → Prop} {k : bN} {p h : Nat} {m : Mo} {b : Int}
def first (m : Mo) (b : Int) (h : Nat) : uL where
 living := List.replicate h 1
 parts := List.replicate (h + m.fA.toNat) 0
 downs := []
 bV := m.bV
 b8 := m.bV.map fun r => r.map fun x => (.P8, WJ m b x + m.hold)
 eU := []
 iY := m.bV.map fun _ => List.replicate h (List.replicate (h + m.fA.toNat) 0)
 tables := List.replicate m.fA.toNat (List.replicate m.bV.length (-1))
 asks := List.replicate m.fA.toNat (0, 0)
theorem qW {d : D} {n : Int} (h0 : 0 ≤ n) (h1 : n ≤ 1000) : T (nP (.tup [d]) (.int n) w) P = P (.tup (List.replicate n.toNat d)) w := by
 simp only [nP]
 rw [if_pos ⟨by omega, by omega, by simp⟩, bZ, List.flatten_replicate_singleton]
theorem QP {xs : List D} : T (fL [.lst xs] w) P = P (.tup xs) w := by
 have e : fL [.lst xs] w = .ok (.tup xs) w := rfl
 rw [e, bZ]
end
def zZ := And.intro @fH (And.intro @c5 (And.intro @sX (And.intro @HQ (And.intro @xU (And.intro @uE (And.intro @yB (And.intro @A6 (And.intro @FL (And.intro @yI (And.intro @uY (And.intro @x8 (And.intro @tT (And.intro @yX (And.intro @tP (And.intro @T_C (And.intro @ZW (And.intro @FF (And.intro @OJ (And.intro @G9 (And.intro @SQ (And.intro @Q5 (And.intro @z4 (And.intro @tZ (And.intro @HJ (And.intro @E5 (And.intro @ER (And.intro @HL (And.intro @zJ (And.intro @xV (And.intro @uB (And.intro @u9 (And.intro @EC (And.intro @QW (And.intro @EL (And.intro @FJ (And.intro @j5 (And.intro @uW (And.intro @G6 (And.intro @nT (And.intro @fW (And.intro @uN (And.intro @sY (And.intro @rO (And.intro @nN (And.intro @EJ (And.intro @OR (And.intro @Q4 (And.intro @NG (And.intro @M0 (And.intro @yT (And.intro @D8 (And.intro @pN (And.intro @pA (And.intro @HR (And.intro @yQ (And.intro @x9 (And.intro @y9 (And.intro @bZ (And.intro @x5 (And.intro @yM (And.intro @yR (And.intro @QK (And.intro @tD (And.intro @uK (And.intro @BC (And.intro @zV (And.intro @lF (And.intro @GX (And.intro @HS (And.intro @wB (And.intro @rX (And.intro @GZ (And.intro @m4 (And.intro @sl0 (And.intro @sl1 (And.intro @sl2 (And.intro @sl3 (And.intro @sl4 (And.intro @sl5 (And.intro @sl6 (And.intro @sl7 (And.intro @sl8 (And.intro @sl9 (And.intro @aB7 (And.intro @aCb (And.intro @aBD (And.intro @OP (And.intro @C6 (And.intro @IT (And.intro @D7 (And.intro @aA9 (And.intro @aBW (And.intro @XB (And.intro @SH (@zW)))))))))))))))))))))))))))))))))))))))))))))))))))))))))))))))))))))))))))))))))))))))))))))))
theorem VF {xs ys : List D} : aL xs ys = xs := rfl
def zY := And.intro zZ (And.intro @List.getElem?_cons_zero.{0} (And.intro @List.getElem?_cons_succ.{0} (And.intro @List.set_cons_zero.{0} (And.intro @List.set_cons_succ.{0} (And.intro @List.length_cons.{0} (And.intro @List.length_nil.{0} (And.intro @VF (And.intro @true_and (And.intro @and_true (And.intro @bj (And.intro @Bool.not_true (And.intro @Bool.not_false (And.intro @Bool.true_eq_false (And.intro @bu.{1} @aj.{0}))))))))))))))
def gH : Nat → D → Bool
 | 0, _ => false
 | _ + 1, .non => true
 | _ + 1, .bl _ => true
 | _ + 1, .int i => decide (i ≤ 100000000000000000000000000000000000000000000000000)
 | _ + 1, .str x => PyData.strOk x
 | n + 1, .tup xs => xs.all (gH n) && decide (xs.length ≤ 70000)
 | n + 1, .lst xs => xs.all (gH n) && decide (xs.length ≤ 70000)
 | n + 1, .G1 ks vs => (ks.all (gH n) && vs.all (gH n)) && decide (ks.length ≤ 15)
 | _ + 1, _ => false
def sZ : Nat → D → Bool
 | 0, _ => false
 | _ + 1, .non => true
 | _ + 1, .bl _ => true
 | _ + 1, .int i => decide (i ≤ 100000000000000000000000000000000000000000000000000)
 | _ + 1, .str x => PyData.strOk x
 | n + 1, .tup xs => xs.all (sZ n) && decide (xs.length ≤ 70000)
 | n + 1, .lst xs => xs.all (sZ n) && decide (xs.length ≤ 70000)
 | _ + 1, _ => false
theorem DA : ∀ {n : Nat} {d : D}, sZ n d = true → gH n d = true
 | 0, _, e => by simp [sZ] at e
 | n + 1, d, e => by
  cases d <;> simp only [sZ, gH, bj] at e ⊢ <;> first | exact e | skip
  ·simp only [ak, ay] at e ⊢
   exact ⟨fun x hx => DA (e.1 x hx), e.2⟩
  ·simp only [ak, ay] at e ⊢
   exact ⟨fun x hx => DA (e.1 x hx), e.2⟩
def isInt : D → Bool
 | .int _ => true
 | _ => false
def aU (lo hi : Int) : D → Bool
 | .int i => decide (lo ≤ i) && decide (i ≤ hi)
 | _ => false
def yU : D → Bool
 | .tup _ => true
 | _ => false
section
variable {w : W} {P : D → W → Prop} {k : bN} {p h n : Nat} {m : Mo} {b : Int} {d : D}
theorem wX {xs : List D} (e : gH (n + 1) (.tup xs) = true) : (∀ x ∈ xs, gH n x = true) ∧ xs.length ≤ 70000 := by
 simp only [gH, ak, ay, au] at e
 exact e
theorem aBa (e : gH n d = true) : T (lH lS [d, .ty "int"] w) P = P (.bl (match d with | .int _ => true | .bl _ => true | _ => false)) w := by
 cases n with
 | zero => simp [gH] at e
 | succ n => cases d <;> first | (simp [gH] at e; done) | (unfold T; rfl)
theorem Q2 (e : gH n d = true) : T (lH lS [d, .ty "bool"] w) P = P (.bl (match d with | .bl _ => true | _ => false)) w := by
 cases n with
 | zero => simp [gH] at e
 | succ n => cases d <;> first | (simp [gH] at e; done) | (unfold T; rfl)
theorem MJ (e : gH n d = true) : T (lH lS [d, .ty "tuple"] w) P = P (.bl (yU d)) w := by
 cases n with
 | zero => simp [gH] at e
 | succ n => cases d <;> first | (simp [gH] at e; done) | (unfold T; rfl)
theorem T9 (e : gH n d = true) : T (gX k [d] w) P = P (.bl (isInt d)) w := by
 unfold gX k9
 rw [fH, EX]
 simp only [aBa e, Q2 e, zY, ah, aa, reduceCtorEq]
 cases d <;> simp [isInt]
theorem m3 (lo hi : Int) (e : gH n d = true) : T (bG k [d, .int lo, .int hi] w) P = P (.bl (aU lo hi d)) w := by
 unfold bG j4
 rw [fH, B7]
 simp only [T9 e, zY, ah, aa, reduceCtorEq]
 cases d <;> simp only [isInt, aU, zY, ah, aa, reduceCtorEq]
 rename_i i
 by_cases h : lo ≤ i <;> simp [h]
end
section
variable {w : W} {P : D → W → Prop} {k : bN} {p h n : Nat} {m : Mo} {b : Int} {d : D}
def vF (ls : List D) : List D := (List.range ls.length).zipWith (fun i x => D.tup [.int (i : Nat), x]) ls
end
theorem TU {n : Nat} {xs : List D} (e : sZ (n + 1) (.tup xs) = true) : (∀ x ∈ xs, sZ n x = true) ∧ xs.length ≤ 70000 := by
 simp only [sZ, ak, ay, au] at e
 exact e
theorem T6 {n : Nat} {xs : List D} (e : sZ (n + 1) (.lst xs) = true) : (∀ x ∈ xs, sZ n x = true) ∧ xs.length ≤ 70000 := by
 simp only [sZ, ak, ay, au] at e
 exact e
theorem DP {w : W} : ∀ {n : Nat} {xs : List D}, (∀ d, sZ n d = true → ∃ p, d.py w = some p ∧ p.canLay0 = true ∧ p.depth ≤ n) → (∀ x ∈ xs, sZ n x = true) → ∃ ps, D.pysR (G5 8 w) xs = some ps ∧ ps.length = xs.length ∧ PyData.canLayAll0 ps = true ∧ PyData.depthAll ps ≤ n
 | n, [], h, hx => ⟨[], rfl, rfl, rfl, Nat.zero_le _⟩
 | n, x :: xs, h, hx => by
  obtain ⟨p, p1, p2, p3⟩ := h x (hx x (az ..))
  obtain ⟨ps, q1, q0, q2, q3⟩ := DP h fun y hy => hx y (bh _ hy)
  refine ⟨p :: ps, ?_, by simp [q0], ?_, ?_⟩
  ·unfold D.py at p1
   unfold D.pysR
   rw [p1, q1]
  ·simp [PyData.canLayAll0, p2, q2]
  ·rw [PyData.depthAll]; omega
theorem KW {w : W} : ∀ {n : Nat} {d : D}, sZ n d = true → ∃ p, d.py w = some p ∧ p.canLay0 = true ∧ p.depth ≤ n
 | 0, _, e => by simp [sZ] at e
 | n + 1, d, e => by
  cases d
  case tup xs =>
   obtain ⟨e1, _⟩ := TU e
   obtain ⟨ps, q1, _, q2, q3⟩ := DP (w := w) (fun d hd => KW hd) e1
   exact ⟨.tuple ps, by unfold D.py D.gN; rw [q1]; rfl, by rw [PyData.canLay0]; exact q2, by rw [PyData.depth]; omega⟩
  case lst xs =>
   obtain ⟨e1, _⟩ := T6 e
   obtain ⟨ps, q1, _, q2, q3⟩ := DP (w := w) (fun d hd => KW hd) e1
   exact ⟨.list ps, by unfold D.py D.gN; rw [q1]; rfl, by rw [PyData.canLay0]; exact q2, by rw [PyData.depth]; omega⟩
  case str x => exact ⟨.str x, rfl, by simpa [sZ, PyData.canLay0] using e, by simp [PyData.depth]⟩
  case int i => exact ⟨.int i, rfl, rfl, by simp [PyData.depth]⟩
  case bl b => exact ⟨.bool b, rfl, rfl, by simp [PyData.depth]⟩
  case non => exact ⟨.none, rfl, rfl, by simp [PyData.depth]⟩
  all_goals simp [sZ] at e
theorem DC {f : Nat → Option PyData} : ∀ {xs : List D} {ps : List PyData}, D.pysR f xs = some ps → ps.length = xs.length
 | [], ps, h => by simp only [D.pysR, aj] at h; subst h; rfl
 | x :: xs, ps, h => by
  simp only [D.pysR] at h
  split at h
  ·rename_i p ps' e1 e2
   cases h
   simp [DC e2]
  ·cases h
theorem OU {w : W} {ys : List D} : rA (.lst ys) (.lst []) w = some ys.isEmpty := by
 unfold rA
 cases h : pO (.lst ys) (.lst []) w with
 | none => rfl
 | some b =>
  unfold pO at h
  have e2 : D.py w (.lst []) = some (.list []) := rfl
  rw [e2] at h
  split at h
  ·rename_i p q e3 e4
   cases e4
   split at h
   ·cases h
    unfold D.py D.gN at e3
    obtain ⟨ps, q1, rfl⟩ := ao.mp e3
    have hl := DC q1
    cases ys with
    | nil => cases ps with
     | nil => rfl
     | cons => simp at hl
    | cons y ys => cases ps with
     | nil => simp at hl
     | cons => rfl
   ·cases h
  ·cases h
theorem MU {w : W} {ys : List D} : rA (.tup ys) (.tup []) w = some ys.isEmpty := by
 unfold rA
 cases h : pO (.tup ys) (.tup []) w with
 | none => rfl
 | some b =>
  unfold pO at h
  have e2 : D.py w (.tup []) = some (.tuple []) := rfl
  rw [e2] at h
  split at h
  ·rename_i p q e3 e4
   cases e4
   split at h
   ·cases h
    unfold D.py D.gN at e3
    obtain ⟨ps, q1, rfl⟩ := ao.mp e3
    have hl := DC q1
    cases ys with
    | nil => cases ps with
     | nil => rfl
     | cons => simp at hl
    | cons y ys => cases ps with
     | nil => simp at hl
     | cons => rfl
   ·cases h
  ·cases h
section
variable {w : W} {P : D → W → Prop} {k : bN} {p h n i : Nat} {m : Mo} {b : Int} {d : D}
theorem MD {ys : List D} (h : ∀ y ∈ ys, gH n y = true) (hn : n ≤ 60) : rA (.lst ys) (.lst []) w = some ys.isEmpty := OU
theorem ne_nil {ys : List D} (h : ∀ y ∈ ys, gH n y = true) (hn : n ≤ 60) : T (kJ (.lst ys) (.lst []) w) P = P (.bl (!ys.isEmpty)) w := by
 rw [RE, MD h hn]
 simp
theorem eq_nil {ys : List D} (h : ∀ y ∈ ys, gH n y = true) (hn : n ≤ 60) : T (fE (.lst ys) (.lst []) w) P = P (.bl ys.isEmpty) w := by
 rw [zA, MD h hn]
 simp
end
section
variable {w : W} {P : D → W → Prop} {k : bN} {p h n i : Nat} {m : Mo} {b : Int} {d : D}
theorem qV : ∀ {l : List Int}, lE (l.map D.int) = some l
 | [] => rfl
 | a :: l => by simp [lE, qV (l := l)]
end
theorem FR : ∀ {ds : List Int} {c : Int}, ds.Pairwise (· < ·) → (∀ x ∈ ds, c ≤ x ∧ x ≤ 9) → (ds.length : Int) ≤ max 0 (10 - c)
 | [], c, _, _ => by simp; omega
 | a :: l, c, hp, hb => by
  rw [List.pairwise_cons] at hp
  have ha := hb a (az ..)
  have := FR (c := a + 1) hp.2 fun x hx => ⟨by have := hp.1 x hx; omega, (hb x (bh _ hx)).2⟩
  simp only [List.length_cons]
  omega
def M6 : List (Str × Option D) := [(("fall" : Str), some (.int 1)), (("stop" : Str), some (.int 1)), (("rise" : Str), some (.int 1)), (("down" : Str), some (.int 1)), (("up" : Str), some (.int 1)), (("rank" : Str), some (.int 3)), (("tear" : Str), some (.int 2)), (("heal" : Str), some (.int 0)), (("ask" : Str), some (.int 2))]
def A2 : List Str := [("plan" : Str), ("state" : Str), ("host" : Str), ("address" : Str), ("told" : Str)]
def AU (k : bN) : MS :=
 (aI (aP (aE aZ (aE aZ (aE aZ (aB 1) (eC (.int 7))) (aB 2)) (aB 3)) (aR 4))
 (aI (dE (fT (a8 (aE BR (aB 4) (eC (.int 0)))) (a8 (aE kJ (aE aZ (aE aZ (aB 1) (eC (.int 1))) (aB 4)) (aE aZ (aE aZ (aB 1) (eC (.int 1))) (aE bE (aW (GP k.aN (gA k)) (aA (aB 0) aD)) (aB 2)))))) (a7 (eC (.bl false))) a5)
 (a7 (aE fE (aE aZ (aE aZ (aE aZ (aE aZ (aB 1) (eC (.int 4))) (aB 3)) (aB 4)) (eC (.int 0))) (eC (.str ("serves" : Str)))))))
def AN (k : bN) : MF := bM (AU k) A2
def aAC : List Str := [("row" : Str), ("at" : Str), ("thing" : Str)]
def aAQ (k : bN) : MS :=
 (a7 (aE bE (aE bE (nD kH (aB 0) cY (cK (aB 1))) (aM (aA (aB 2) aD))) (nD kH (aB 0) (cK (aE bE (aB 1) (eC (.int 1)))) cY)))
def lC (k : bN) : MF := bM (aAQ k) aAC
def IQ : List Str := [("plan" : Str), ("state" : Str), ("host" : Str), ("address" : Str), ("many" : Str), ("dropped" : Str), ("told" : Str)]
def KO (k : bN) : MS :=
 (aI (aP (aE aZ (aE aZ (aB 1) (eC (.int 8))) (aB 2)) (bS 2 (aK (aR 4) (aK (aR 5) bR))))
 (aI (aP (aM (aA (aE bE (aB 4) (eC (.int 1))) (aA (aE bE (aB 5) (aW oB (aA (sV notM (aH (AN k) 4 aL (aA (aB 0) (aA (aB 1) (aA (aB 2) (aA (aB 3) aD)))))) aD))) aD))) (aR 6))
 (a7 (aH (lC k) 3 aL (aA (aB 1) (aA (eC (.int 8)) (aA (aH (lC k) 3 aL (aA (aE aZ (aB 1) (eC (.int 8))) (aA (aB 2) (aA (aB 6) aD)))) aD)))))))
def J7 (k : bN) : MF := bM (KO k) IQ
def uQ : List Str := [("plan" : Str)]
def vA (k : bN) : MS :=
 (a7 (aW dO (aA (bY k.aN ("ranks" : Str) (aB 0)) aD)))
def dQ (k : bN) : MF := bM (vA k) uQ
def ES : List Str := [("state" : Str), ("house" : Str), ("lives" : Str)]
def EV (k : bN) : MS :=
 (a7 (aH (lC k) 3 aL (aA (aB 0) (aA (eC (.int 0)) (aA (aH (lC k) 3 aL (aA (aE aZ (aB 0) (eC (.int 0))) (aA (aB 1) (aA (aB 2) aD)))) aD)))))
def vU (k : bN) : MF := bM (EV k) ES
def AZ : List Str := [("state" : Str), ("house" : Str), ("stands" : Str), ("rows" : Str), ("row" : Str), ("stand" : Str)]
def AY (k : bN) : MS :=
 (aI (aP (aW fL (aA (bT (dP zmM (aA (aE aZ (aB 0) (eC (.int 4))) (aA (aB 2) aD))) [4, 5] (bS 2 (aK (aR 4) (aK (aR 5) bR))) bU (aH (lC k) 3 aL (aA (aB 4) (aA (aB 1) (aA (aB 5) aD))))) aD)) (aR 3))
 (a7 (aH (lC k) 3 aL (aA (aB 0) (aA (eC (.int 4)) (aA (aB 3) aD))))))
def rN (k : bN) : MF := bM (AY k) AZ
def RF : List Str := [("plan" : Str), ("state" : Str), ("house" : Str)]
def P5 (k : bN) : MS :=
 (a7 (aH (rN k) 3 aL (aA (aH (vU k) 3 aL (aA (aB 1) (aA (aB 2) (aA (eC (.int 0)) aD)))) (aA (aB 2) (aA (aE mulM (cD (aA (aM (aA (eC (.str ("rests" : Str))) (aA (eC (.int 0)) aD))) aD)) (aH (dQ k) 1 aL (aA (aB 0) aD))) aD)))))
def HY (k : bN) : MF := bM (P5 k) RF
def KJ : List Str := [("plan" : Str), ("state" : Str), ("address" : Str), ("house" : Str), ("downs" : Str), ("ranks" : Str), ("taken" : Str), ("one" : Str), ("tie" : Str), ("less" : Str)]
def H0 (k : bN) : MS :=
 (aI (aP (aM (aA (aE aZ (aB 1) (eC (.int 2))) (aA (aE aZ (aB 1) (eC (.int 3))) aD))) (bS 2 (aK (aR 4) (aK (aR 5) bR))))
 (aI (aP (aW HD (aA (bT (cZ (bY k.aN ("ties" : Str) (aB 0))) [7, 8, 9] (bS 3 (aK (aR 7) (aK (aR 8) (aK (aR 9) bR)))) (fO (a8 (aE fE (aB 7) (aB 3))) (a8 (aE N6 (aB 8) (aB 4)))) (aB 9)) aD)) (aR 6))
 (a7 (aW max2 (aA (eC (.int 1)) (aA (aE iB (aE aZ (aE aZ (aB 5) (aB 2)) (aB 3)) (aB 6)) aD))))))
def lP (k : bN) : MF := bM (H0 k) KJ
def AQ : List Str := [("plan" : Str), ("state" : Str), ("address" : Str), ("house" : Str)]
def AG (k : bN) : MS :=
 (a7 (aE bE (aH (BJ k) 2 aL (aA (aB 0) (aA (aH (lP k) 4 aL (aA (aB 0) (aA (aB 1) (aA (aB 2) (aA (aB 3) aD))))) aD))) (bY k.aN ("hold" : Str) (aB 0))))
def mW (k : bN) : MF := bM (AG k) AQ
def AH : List Str := [("plan" : Str), ("ahead" : Str), ("state" : Str), ("address" : Str), ("house" : Str), ("role" : Str), ("clock" : Str), ("row" : Str)]
def AX (k : bN) : MS :=
 (aI (dR (dP i0 (aA (aH (dQ k) 1 aL (aA (aB 0) aD)) aD)) (aR 3) (dR (dP i0 (aA (aW (GP k.aN (gA k)) (aA (aB 0) aD)) aD)) (aR 4) (aI (aP (aE aZ (aE aZ (aE aZ (aB 2) (eC (.int 4))) (aB 3)) (aB 4)) (bS 2 (aK (aR 5) (aK (aR 6) bR))))
 (dE (fO (a8 (aE fE (aB 5) (eC (.str ("waits" : Str))))) (a8 (aE BU (aH (lP k) 4 aL (aA (aB 0) (aA (aB 2) (aA (aB 3) (aA (aB 4) aD))))) (aH (lP k) 4 aL (aA (aB 0) (aA (aB 1) (aA (aB 3) (aA (aB 4) aD)))))))) (aI (aP (aW max2 (aA (aB 6) (aA (aH (mW k) 4 aL (aA (aB 0) (aA (aB 2) (aA (aB 3) (aA (aB 4) aD))))) aD))) (aR 6))
 (aI (aP (aH (lC k) 3 aL (aA (aE aZ (aE aZ (aB 2) (eC (.int 4))) (aB 3)) (aA (aB 4) (aA (aM (aA (aB 5) (aA (aB 6) aD))) aD)))) (aR 7))
 (aP (aH (lC k) 3 aL (aA (aB 2) (aA (eC (.int 4)) (aA (aH (lC k) 3 aL (aA (aE aZ (aB 2) (eC (.int 4))) (aA (aB 3) (aA (aB 7) aD)))) aD)))) (aR 2)))) a5))))
 (a7 (aB 2)))
def mL (k : bN) : MF := bM (AX k) AH
def UD : List Str := [("plan" : Str), ("state" : Str), ("house" : Str), ("stands" : Str), ("address" : Str)]
def VU (k : bN) : MS :=
 (aI (aP (bT (dP i0 (aA (aH (dQ k) 1 aL (aA (aB 0) aD)) aD)) [4] (aR 4) bU (aM (aA (eC (.str ("waits" : Str))) (aA (aH (mW k) 4 aL (aA (aB 0) (aA (aB 1) (aA (aB 4) (aA (aB 2) aD))))) aD)))) (aR 3))
 (a7 (aH (rN k) 3 aL (aA (aH (vU k) 3 aL (aA (aB 1) (aA (aB 2) (aA (eC (.int 1)) aD)))) (aA (aB 2) (aA (aB 3) aD))))))
def VJ (k : bN) : MF := bM (VU k) UD
def KG : List Str := [("lacks" : Str), ("sent" : Str), ("fates" : Str), ("found" : Str), ("address" : Str), ("sender" : Str), ("receiver" : Str), ("rank" : Str), ("lost" : Str), ("rows" : Str), ("own" : Str), ("houses" : Str), ("row" : Str), ("many" : Str)]
def IB (k : bN) : MS :=
 (aI (aP nL (aR 3))
 (aI (dR (cZ (aB 1)) (bS 4 (aK (aR 4) (aK (aR 5) (aK (aR 6) (aK (aR 7) bR))))) (aI (aP (aE fE (dA "dict" getM (aB 2) (aA (aM (aA (aB 4) (aA (aB 5) (aA (aB 6) aD)))) (aA (eC (.int 1)) aD))) (eC (.int 0))) (aR 8))
 (aP (VE (dY (aB 8)) (aE bE (aE aZ (aE aZ (aE aZ (aB 0) (aB 4)) (aB 5)) (aB 6)) (eC (.int 1))) (eC (.int 0))) (dI (aB 3) (aM (aA (aB 4) (aA (aB 5) (aA (aB 6) aD))))))))
 (aI (dE (a8 (aE eqE (aB 3) nL)) (a7 (aB 0)) a5)
 (aI (aP (eNew aD) (aR 9))
 (aI (dR (dP yC (aA (aB 0) aD)) (bS 2 (aK (aR 4) (aK (aR 10) bR))) (aI (aP (eNew aD) (aR 11))
 (aI (dR (dP yC (aA (aB 10) aD)) (bS 2 (aK (aR 5) (aK (aR 12) bR))) (b6 (dA "list" cO (aB 11) (aA (aW fL (aA (bT (dP yC (aA (aB 12) aD)) [6, 13] (bS 2 (aK (aR 6) (aK (aR 13) bR))) bU (dA "dict" getM (aB 3) (aA (aM (aA (aB 4) (aA (aB 5) (aA (aB 6) aD)))) (aA (aB 13) aD)))) aD)) aD))))
 (b6 (dA "list" cO (aB 9) (aA (aW fL (aA (aB 11) aD)) aD))))))
 (a7 (aW fL (aA (aB 9) aD))))))))
def zO (k : bN) : MF := bM (IB k) KG
def CK : List Str := [("sent" : Str), ("fates" : Str), ("found" : Str), ("address" : Str), ("sender" : Str), ("receiver" : Str), ("rank" : Str), ("fate" : Str)]
def C7 (k : bN) : MS :=
 (aI (aP (eNew aD) (aR 2))
 (aI (dR (cZ (aB 0)) (bS 4 (aK (aR 3) (aK (aR 4) (aK (aR 5) (aK (aR 6) bR))))) (aI (aP (dA "dict" getM (aB 1) (aA (aM (aA (aB 3) (aA (aB 4) (aA (aB 5) aD)))) (aA (eC (.int 1)) aD))) (aR 7))
 (dE (a8 (aE BU (aB 7) (eC (.int 0)))) (b6 (dA "list" cO (aB 2) (aA (aM (aA (aB 7) (aA (aB 3) (aA (aB 4) (aA (aB 5) (aA (aB 6) aD)))))) aD))) a5)))
 (a7 (aW fL (aA (aB 2) aD)))))
def tQ (k : bN) : MF := bM (C7 k) CK
def yP : List Str := [("plan" : Str), ("state" : Str), ("house" : Str), ("living" : Str), ("parts" : Str), ("found" : Str), ("receiver" : Str), ("part" : Str)]
def zT (k : bN) : MS :=
 (aI (XI 3 4 (aA (aE aZ (aB 1) (eC (.int 0))) (aA (aE aZ (aB 1) (eC (.int 1))) aD)))
 (aI (aP (eNew aD) (aR 5))
 (aI (dR (dP yC (aA (aB 4) aD)) (bS 2 (aK (aR 6) (aK (aR 7) bR))) (dE (fO (a8 (aE kJ (aB 6) (aB 2))) (fO (a8 (aE fE (aB 7) (aE aZ (aB 4) (aB 2)))) (fT (a8 (aE V6 (aB 6) (aW (GP k.aN (gA k)) (aA (aB 0) aD)))) (a8 (aE fE (aE aZ (aB 3) (aB 6)) (eC (.int 1))))))) (b6 (dA "list" cO (aB 5) (aA (aB 6) aD))) a5))
 (a7 (aW fL (aA (aB 5) aD))))))
def pQ (k : bN) : MF := bM (zT k) yP
def zC : List Str := [("plan" : Str), ("state" : Str), ("address" : Str), ("house" : Str), ("rank" : Str), ("fates" : Str), ("sent" : Str), ("letters" : Str), ("receiver" : Str)]
def zX (k : bN) : MS :=
 (aI (aP (bT (cZ (aH (pQ k) 3 aL (aA (aB 0) (aA (aB 1) (aA (aB 3) aD))))) [8] (aR 8) bU (aM (aA (aB 2) (aA (aB 3) (aA (aB 8) (aA (aB 4) aD)))))) (aR 6))
 (aI (aP (aE bE (aE aZ (aB 1) (eC (.int 5))) (aH (tQ k) 2 aL (aA (aB 6) (aA (aB 5) aD)))) (aR 7))
 (a7 (aE bE (aE bE (nD kH (aB 1) cY (cK (eC (.int 5)))) (aM (aA (aB 7) (aA (aH (zO k) 3 aL (aA (aE aZ (aB 1) (eC (.int 6))) (aA (aB 6) (aA (aB 5) aD)))) aD)))) (nD kH (aB 1) (cK (aE bE (eC (.int 6)) (eC (.int 1)))) cY)))))
def yS (k : bN) : MF := bM (zX k) zC
def NM : List Str := [("plan" : Str), ("state" : Str), ("house" : Str), ("fates" : Str), ("address" : Str), ("row" : Str)]
def MV (k : bN) : MS :=
 (aI (dR (dP yC (aA (aE aZ (aB 1) (eC (.int 4))) aD)) (bS 2 (aK (aR 4) (aK (aR 5) bR))) (dE (a8 (aE fE (aE aZ (aE aZ (aB 5) (aB 2)) (eC (.int 0))) (eC (.str ("serves" : Str))))) (aP (aH (yS k) 6 aL (aA (aB 0) (aA (aB 1) (aA (aB 4) (aA (aB 2) (aA (eC (.int 0)) (aA (aB 3) aD))))))) (aR 1)) a5))
 (a7 (aH (HY k) 3 aL (aA (aB 0) (aA (aB 1) (aA (aB 2) aD))))))
def N7 (k : bN) : MF := bM (MV k) NM
def HM : List Str := [("plan" : Str), ("state" : Str), ("houses" : Str), ("hosts" : Str), ("there" : Str), ("host" : Str), ("place" : Str)]
def HH (k : bN) : MS :=
 (aI (aP (aE bE (aB 2) (aW fL (aA (bT (cZ (aB 3)) [5] (aR 5) bU (aE bE (aW (GP k.aN (gA k)) (aA (aB 0) aD)) (aB 5))) aD))) (aR 4))
 (a7 (aH (lC k) 3 aL (aA (aB 1) (aA (eC (.int 1)) (aA (aW fL (aA (bT (dP i0 (aA (aW dO (aA (aE aZ (aB 1) (eC (.int 1))) aD)) aD)) [6] (aR 6) bU (aW oB (aA (aE N6 (aB 6) (aB 4)) aD))) aD)) aD))))))
def vZ (k : bN) : MF := bM (HH k) HM
def FO : List Str := [("plan" : Str), ("state" : Str), ("deed" : Str), ("fates" : Str), ("word" : Str), ("rest" : Str), ("downs" : Str), ("address" : Str), ("house" : Str), ("rank" : Str), ("ranks" : Str), ("tie" : Str)]
def EO (k : bN) : MS :=
 (aI (aP (aB 2) (LV 1 (aK (aR 4) (aK (aR 5) bR))))
 (aI (dE (a8 (aE fE (aB 4) (eC (.str ("fall" : Str))))) (a7 (aH (HY k) 3 aL (aA (aB 0) (aA (aB 1) (aA (aE aZ (aB 5) (eC (.int 0))) aD))))) a5)
 (aI (dE (a8 (aE fE (aB 4) (eC (.str ("stop" : Str))))) (a7 (aH (N7 k) 4 aL (aA (aB 0) (aA (aB 1) (aA (aE aZ (aB 5) (eC (.int 0))) (aA (aB 3) aD)))))) a5)
 (aI (dE (a8 (aE fE (aB 4) (eC (.str ("rise" : Str))))) (a7 (aH (VJ k) 3 aL (aA (aB 0) (aA (aB 1) (aA (aE aZ (aB 5) (eC (.int 0))) aD))))) a5)
 (aI (dE (a8 (aE fE (aB 4) (eC (.str ("down" : Str))))) (a7 (aH (mL k) 3 aL (aA (aB 0) (aA (aB 1) (aA (aH (lC k) 3 aL (aA (aB 1) (aA (eC (.int 2)) (aA (aW fL (aA (aW UE (aA (aE bE (aE aZ (aB 1) (eC (.int 2))) (aM (aA (aE aZ (aB 5) (eC (.int 0))) aD))) aD)) aD)) aD)))) aD))))) a5)
 (aI (dE (a8 (aE fE (aB 4) (eC (.str ("up" : Str))))) (aI (aP (aW fL (aA (bT (cZ (aE aZ (aB 1) (eC (.int 2)))) [11] (aR 11) (a8 (aE kJ (aB 11) (aE aZ (aB 5) (eC (.int 0))))) (aB 11)) aD)) (aR 6))
 (a7 (aH (mL k) 3 aL (aA (aB 0) (aA (aB 1) (aA (aH (lC k) 3 aL (aA (aB 1) (aA (eC (.int 2)) (aA (aB 6) aD)))) aD)))))) a5)
 (aI (dE (a8 (aE fE (aB 4) (eC (.str ("rank" : Str))))) (aI (aP (aB 5) (W9 3 (aK (aR 7) (aK (aR 8) (aK (aR 9) bR)))))
 (aI (aP (aH (lC k) 3 aL (aA (aE aZ (aB 1) (eC (.int 3))) (aA (aB 7) (aA (aH (lC k) 3 aL (aA (aE aZ (aE aZ (aB 1) (eC (.int 3))) (aB 7)) (aA (aB 8) (aA (aB 9) aD)))) aD)))) (aR 10))
 (a7 (aH (mL k) 3 aL (aA (aB 0) (aA (aB 1) (aA (aH (lC k) 3 aL (aA (aB 1) (aA (eC (.int 3)) (aA (aB 10) aD)))) aD))))))) a5)
 (aI (dE (a8 (aE fE (aB 4) (eC (.str ("tear" : Str))))) (a7 (aH (vZ k) 4 aL (aA (aB 0) (aA (aB 1) (aA (aE aZ (aB 5) (eC (.int 0))) (aA (aE aZ (aB 5) (eC (.int 1))) aD)))))) a5)
 (aI (dE (a8 (aE fE (aB 4) (eC (.str ("heal" : Str))))) (a7 (aH (vZ k) 4 aL (aA (aB 0) (aA (aB 1) (aA (aM aD) (aA (aM aD) aD)))))) a5)
 (a7 (aH (J7 k) 4 aL (aA (aB 0) (aA (aB 1) (aA (aE aZ (aB 5) (eC (.int 0))) (aA (aE aZ (aB 5) (eC (.int 1))) aD)))))))))))))))
def GI (k : bN) : MF := bM (EO k) FO
def J5 : List Str := [("thing" : Str), ("many" : Str), ("one" : Str), ("other" : Str)]
def K0 (k : bN) : MS :=
 (aI (dE (fT (cG (dY (aW (lH lS) (aA (aB 0) (aA (eC (.ty "tuple")) aD))))) (cG (dY (aW allM (aA (bT (cZ (aB 0)) [2] (aR 2) bU (aH (bG k) 3 aL (aA (aB 2) (aA (eC (.int 0)) (aA (aE iB (aB 1) (eC (.int 1))) aD))))) aD))))) (a7 (eC (.bl false))) a5)
 (a7 (aW allM (aA (bT (dP W2 (aA (nD kH (aB 0) cY (cK (sV nR (eC (.int 1))))) (aA (nD kH (aB 0) (cK (eC (.int 1))) cY) aD))) [2, 3] (bS 2 (aK (aR 2) (aK (aR 3) bR))) bU (aE BR (aB 2) (aB 3))) aD))))
def yZ (k : bN) : MF := bM (K0 k) J5
def I7 : List Str := [("plan" : Str), ("state" : Str), ("houses" : Str), ("hosts" : Str)]
def JN (k : bN) : MS :=
 (aI (dE (fT (dY (aW anyM (aA (aE aZ (aB 1) (eC (.int 1))) aD))) (fT (cG (dY (aH (yZ k) 2 aL (aA (aB 2) (aA (aW (GP k.aN (gA k)) (aA (aB 0) aD)) aD))))) (cG (dY (aH (yZ k) 2 aL (aA (aB 3) (aA (bY k.aN ("hosts" : Str) (aB 0)) aD))))))) (a7 (eC (.bl false))) a5)
 (a7 (ON BR BR (eC (.int 0)) (aW dO (aA (aB 2) aD)) (aW (GP k.aN (gA k)) (aA (aB 0) aD)))))
def IA (k : bN) : MF := bM (JN k) I7
def yO : List Str := [("plan" : Str), ("address" : Str), ("house" : Str), ("rank" : Str)]
def yN (k : bN) : MS :=
 (aI (dE (fT (cG (dY (aH (bG k) 3 aL (aA (aB 1) (aA (eC (.int 0)) (aA (aE iB (aH (dQ k) 1 aL (aA (aB 0) aD)) (eC (.int 1))) aD)))))) (cG (dY (aH (bG k) 3 aL (aA (aB 2) (aA (eC (.int 0)) (aA (aE iB (aW (GP k.aN (gA k)) (aA (aB 0) aD)) (eC (.int 1))) aD))))))) (a7 (eC (.bl false))) a5)
 (a7 (aH (bG k) 3 aL (aA (aB 3) (aA (eC (.int 1)) (aA (eC (.int 12)) aD))))))
def yD (k : bN) : MF := bM (yN k) yO
def oX : List Str := [("plan" : Str), ("thing" : Str), ("house" : Str), ("tie" : Str), ("less" : Str)]
def oL (k : bN) : MS :=
 (a7 (mO (aH (bG k) 3 aL (aA (aB 1) (aA (eC (.int 0)) (aA (eC (.int 9)) aD)))) (aE N6 (aB 1) (bT (cZ (bY k.aN ("ties" : Str) (aB 0))) [2, 3, 4] (bS 3 (aK (aR 2) (aK (aR 3) (aK (aR 4) bR)))) bU (aB 3)))))
def lD (k : bN) : MF := bM (oL k) oX
theorem wU (x0 x1 : D) : begin oX [x0, x1] = [some x0, some x1, none, none, none] := rfl
def M5 : List Str := [("plan" : Str), ("state" : Str), ("thing" : Str), ("word" : Str), ("rest" : Str)]
def OA (k : bN) (tS : Addr) : MS :=
 (aI (dE (fT (cG (dY (aW (lH lS) (aA (aB 2) (aA (eC (.ty "tuple")) aD))))) (fT (a8 (aE fE (aB 2) (aM aD))) (cG (dY (aW (lH lS) (aA (aE aZ (aB 2) (eC (.int 0))) (aA (eC (.ty "str")) aD))))))) (a7 (eC (.bl false))) a5)
 (aI (aP (aB 2) (LV 1 (aK (aR 3) (aK (aR 4) bR))))
 (aI (dE (a8 (aE kJ (aW dO (aA (aB 4) aD)) (aAt tS M6 (eC (.con tS)) (aA (aB 3) (aA (sV nR (eC (.int 1))) aD))))) (a7 (eC (.bl false))) a5)
 (aI (dE (a8 (aE N6 (aB 3) (aM (aA (eC (.str ("fall" : Str))) (aA (eC (.str ("stop" : Str))) (aA (eC (.str ("rise" : Str))) aD)))))) (a7 (mO (aH (bG k) 3 aL (aA (aE aZ (aB 4) (eC (.int 0))) (aA (eC (.int 0)) (aA (aE iB (aW (GP k.aN (gA k)) (aA (aB 0) aD)) (eC (.int 1))) aD)))) (aE fE (aE aZ (aE aZ (aB 1) (eC (.int 0))) (aE aZ (aB 4) (eC (.int 0)))) (aW oB (aA (aE kJ (aB 3) (eC (.str ("rise" : Str)))) aD))))) a5)
 (aI (dE (a8 (aE N6 (aB 3) (aM (aA (eC (.str ("down" : Str))) (aA (eC (.str ("up" : Str))) aD))))) (a7 (mO (aH (lD k) 2 aL (aA (aB 0) (aA (aE aZ (aB 4) (eC (.int 0))) aD))) (aE fE (aE N6 (aE aZ (aB 4) (eC (.int 0))) (aE aZ (aB 1) (eC (.int 2)))) (aE fE (aB 3) (eC (.str ("up" : Str))))))) a5)
 (aI (dE (a8 (aE fE (aB 3) (eC (.str ("rank" : Str))))) (a7 (aH (yD k) 4 aL (aA (aB 0) (aA (aE aZ (aB 4) (eC (.int 0))) (aA (aE aZ (aB 4) (eC (.int 1))) (aA (aE aZ (aB 4) (eC (.int 2))) aD)))))) a5)
 (aI (dE (a8 (aE fE (aB 3) (eC (.str ("tear" : Str))))) (a7 (aH (IA k) 4 aL (aA (aB 0) (aA (aB 1) (aA (aE aZ (aB 4) (eC (.int 0))) (aA (aE aZ (aB 4) (eC (.int 1))) aD)))))) a5)
 (aI (dE (a8 (aE fE (aB 3) (eC (.str ("heal" : Str))))) (a7 (aW anyM (aA (aE aZ (aB 1) (eC (.int 1))) aD))) a5)
 (a7 (mO (aH (bG k) 3 aL (aA (aE aZ (aB 4) (eC (.int 0))) (aA (eC (.int 0)) (aA (aE iB (bY k.aN ("hosts" : Str) (aB 0)) (eC (.int 1))) aD)))) (aH (bG k) 3 aL (aA (aE aZ (aB 4) (eC (.int 1))) (aA (eC (.int 0)) (aA (aE iB (aH (dQ k) 1 aL (aA (aB 0) aD)) (eC (.int 1))) aD))))))))))))))
def ML (k : bN) (tS : Addr) : MF := bM (OA k tS) M5
end Lb
namespace Lw
open PySem PySem.Spec PyProof.Rows L2 Pc Lb
def FG : List Str := [("_law_model_here" : Str), ("_law_world_here" : Str), ("_law_a" : Str), ("_law_h" : Str), ("_law_down" : Str), ("_law_house" : Str), ("_law_tie" : Str), ("_law_less" : Str)]
def GV (k : bN) : MS :=
 (aI (aP (aW HD (aA (bT (cZ (aE aZ (aB 0) (eC (.str ("ties" : Str))))) [5, 6, 7] (bS 3 (aK (aR 5) (aK (aR 6) (aK (aR 7) bR)))) (fO (a8 (aE fE (aB 5) (aB 3))) (a8 (aE N6 (aB 6) (aE aZ (aB 1) (eC (.str ("downs" : Str))))))) (aB 7)) aD)) (aR 4))
 (a7 (aW max2 (aA (eC (.int 1)) (aA (aE iB (aE aZ (aE aZ (aE aZ (aB 1) (eC (.str ("ranks" : Str)))) (aB 2)) (aB 3)) (aB 4)) aD)))))
def jV (k : bN) : MF := bM (GV k) FG
def HF : List Str := [("_law_model_here" : Str), ("_law_rank_here" : Str), ("_law_whole" : Str)]
def FP (k : bN) : MS :=
 (aI (aP (aE bE (aE mulM (aE bE (aE aZ (aB 0) (eC (.str ("bears" : Str)))) (eC (.int 1))) (aE aZ (aB 0) (eC (.str ("every" : Str))))) (aE aZ (aB 0) (eC (.str ("slow" : Str))))) (aR 2))
 (a7 (aE bE (aB 2) (aE mulM (aE aZ (aB 0) (eC (.str ("gap" : Str)))) (aE iB (eC (.int 12)) (aB 1))))))
def wF (k : bN) : MF := bM (FP k) HF
def C0 : List Str := [("_law_model_here" : Str), ("_law_world_here" : Str), ("_law_a" : Str), ("_law_h" : Str)]
def CC (k : bN) : MS :=
 (a7 (eNew (aA (eC (.str ("waits" : Str))) (aA (aE bE (aH (wF k) 2 aL (aA (aB 0) (aA (aH (jV k) 4 aL (aA (aB 0) (aA (aB 1) (aA (aB 2) (aA (aB 3) aD))))) aD))) (aE aZ (aB 0) (eC (.str ("hold" : Str))))) aD))))
def nH (k : bN) : MF := bM (CC k) C0
def tX : List Str := [("_law_lots" : Str), ("_law_one" : Str)]
def tH (k : bN) : MS :=
 (a7 (aW aAv (aA (bT (cZ (aB 0)) [1] (aR 1) bU (aM (aA (nD kH (aB 1) cY (cK (eC (.int 3)))) (aA (aE aZ (aB 1) (eC (.int 3))) aD)))) aD)))
def t7 (k : bN) : MF := bM (tH k) tX
def D2 : List Str := [("_law_world_here" : Str), ("_law_host" : Str), ("_law_a" : Str), ("_law_told" : Str), ("_law_many" : Str), ("_law_good" : Str)]
def BV (k : bN) : MS :=
 (aI (aP (aE aZ (aE aZ (aE aZ (aB 0) (eC (.str ("tables" : Str)))) (aB 1)) (aB 2)) (aR 3))
 (aI (aP (aW dO (aA (aE aZ (aB 0) (eC (.str ("living" : Str)))) aD)) (aR 4))
 (aI (aP (mO (aE V6 (aB 3) (eC (.int 0))) (aE fE (aE aZ (aE aZ (aB 0) (eC (.str ("parts" : Str)))) (aB 3)) (aE aZ (aE aZ (aB 0) (eC (.str ("parts" : Str)))) (aE bE (aB 4) (aB 1))))) (aR 5))
 (aI (aP (mO (aB 5) (aE fE (aE aZ (aE aZ (aE aZ (aE aZ (aB 0) (eC (.str ("stands" : Str)))) (aB 2)) (aB 3)) (eC (.int 0))) (eC (.str ("serves" : Str))))) (aR 5))
 (aP (eNew (aA (aE bE (aE aZ (aE aZ (aE aZ (aB 0) (eC (.str ("asks" : Str)))) (aB 1)) (eC (.int 0))) (eC (.int 1))) (aA (aE bE (aE aZ (aE aZ (aE aZ (aB 0) (eC (.str ("asks" : Str)))) (aB 1)) (eC (.int 1))) (aW oB (aA (sV notM (aB 5)) aD))) aD))) (dI (aE aZ (aB 0) (eC (.str ("asks" : Str)))) (aB 1)))))))
def DK (k : bN) : MF := bM (BV k) D2
def DJ : List Str := [("_law_world_here" : Str), ("_law_h" : Str), ("_law_news" : Str), ("_law_a" : Str), ("_law_row" : Str)]
def DE (k : bN) : MS :=
 (aI (aP (eC (.int 0)) (dI (aE aZ (aB 0) (eC (.str ("living" : Str)))) (aB 1)))
 (dR (dP vF (aA (aE aZ (aB 0) (eC (.str ("stands" : Str)))) aD)) (bS 2 (aK (aR 3) (aK (aR 4) bR))) (aI (aP (eNew (aA (eC (.str ("rests" : Str))) (aA (eC (.int 0)) aD))) (dI (aB 4) (aB 1)))
 (b6 (dA "list" cO (aB 2) (aA (aM (aA (aB 3) (aA (aB 1) (aA (eC (.str ("rests" : Str))) aD)))) aD))))))
def DF (k : bN) : MF := bM (DE k) DJ
def HC : List Str := [("_law_world_here" : Str), ("_law_a" : Str), ("_law_s" : Str), ("_law_rank_here" : Str), ("_law_lots" : Str), ("_law_r" : Str), ("_law_fate" : Str)]
def E7 (k : bN) : MS :=
 (dR (dP i0 (aA (aW dO (aA (aE aZ (aB 0) (eC (.str ("parts" : Str)))) aD)) aD)) (aR 5) (dE (fO (a8 (aE kJ (aB 5) (aB 2))) (fO (a8 (aE fE (aE aZ (aE aZ (aB 0) (eC (.str ("parts" : Str)))) (aB 5)) (aE aZ (aE aZ (aB 0) (eC (.str ("parts" : Str)))) (aB 2)))) (a8 (aE kJ (nD kH (aE aZ (aB 0) (eC (.str ("living" : Str)))) (cK (aB 5)) (cK (aE bE (aB 5) (eC (.int 1))))) (cD (aA (eC (.int 0)) aD)))))) (aI (aP (dA "dict" getM (aB 4) (aA (aM (aA (aB 1) (aA (aB 2) (aA (aB 5) aD)))) (aA (eC (.int 1)) aD))) (aR 6))
 (aI (aP (VE (a8 (aE fE (aB 6) (eC (.int 0)))) (aE bE (dA "dict" getM (aE aZ (aB 0) (eC (.str ("lacks" : Str)))) (aA (aM (aA (aB 1) (aA (aB 2) (aA (aB 5) aD)))) (aA (eC (.int 0)) aD))) (eC (.int 1))) (eC (.int 0))) (dI (aE aZ (aB 0) (eC (.str ("lacks" : Str)))) (aM (aA (aB 1) (aA (aB 2) (aA (aB 5) aD))))))
 (aI (b6 (dA "list" cO (aE aZ (aB 0) (eC (.str ("sent" : Str)))) (aA (aM (aA (aB 1) (aA (aB 2) (aA (aB 5) aD)))) aD)))
 (dE (a8 (aE BU (aB 6) (eC (.int 0)))) (b6 (dA "list" cO (aE aZ (aB 0) (eC (.str ("under" : Str)))) (aA (aM (aA (aB 6) (aA (aB 1) (aA (aB 2) (aA (aB 5) (aA (aB 3) aD)))))) aD))) a5)))) a5))
def wA (k : bN) : MF := bM (E7 k) HC
def AW : List Str := [("_law_model_here" : Str), ("_law_world_here" : Str), ("_law_deed_here" : Str), ("_law_word" : Str), ("_law_rest" : Str), ("_law_many" : Str), ("_law_old" : Str), ("_law_a" : Str), ("_law_row" : Str), ("_law_h" : Str), ("_law_stand" : Str), ("_law_tie" : Str)]
def AJ (k : bN) : MS :=
 (aI (aP (aM (aA (aE aZ (aB 2) (eC (.int 0))) (aA (nD kH (aB 2) (cK (eC (.int 1))) cY) aD))) (bS 2 (aK (aR 3) (aK (aR 4) bR))))
 (aI (aP (aW dO (aA (aE aZ (aB 1) (eC (.str ("living" : Str)))) aD)) (aR 5))
 (aI (aP (bT (dP i0 (aA (aW dO (aA (aE aZ (aB 0) (eC (.str ("ranks" : Str)))) aD)) aD)) [7] (aR 7) bU (bT (dP i0 (aA (aB 5) aD)) [9] (aR 9) bU (aH (jV k) 4 aL (aA (aB 0) (aA (aB 1) (aA (aB 7) (aA (aB 9) aD))))))) (aR 6))
 (aI (dE (a8 (aE fE (aB 3) (eC (.str ("down" : Str))))) (b6 (dA "list" cO (aE aZ (aB 1) (eC (.str ("downs" : Str)))) (aA (aE aZ (aB 4) (eC (.int 0))) aD))) a5)
 (aI (dE (a8 (aE fE (aB 3) (eC (.str ("up" : Str))))) (aP (IX (cZ (aE aZ (aB 1) (eC (.str ("downs" : Str))))) [11] (aR 11) (a8 (aE kJ (aB 11) (aE aZ (aB 4) (eC (.int 0))))) (aB 11)) (dI (aB 1) (eC (.str ("downs" : Str))))) a5)
 (aI (dE (a8 (aE fE (aB 3) (eC (.str ("rank" : Str))))) (aP (aE aZ (aB 4) (eC (.int 2))) (dI (aE aZ (aE aZ (aB 1) (eC (.str ("ranks" : Str)))) (aE aZ (aB 4) (eC (.int 0)))) (aE aZ (aB 4) (eC (.int 1))))) a5)
 (dR (dP vF (aA (aE aZ (aB 1) (eC (.str ("stands" : Str)))) aD)) (bS 2 (aK (aR 7) (aK (aR 8) bR))) (dR (dP vF (aA (aB 8) aD)) (bS 2 (aK (aR 9) (aK (aR 10) bR))) (dE (fO (a8 (aE fE (aE aZ (aB 10) (eC (.int 0))) (eC (.str ("waits" : Str))))) (a8 (aE BU (aH (jV k) 4 aL (aA (aB 0) (aA (aB 1) (aA (aB 7) (aA (aB 9) aD))))) (aE aZ (aE aZ (aB 6) (aB 7)) (aB 9))))) (aP (aW max2 (aA (aE aZ (aB 10) (eC (.int 1))) (aA (aE aZ (aH (nH k) 4 aL (aA (aB 0) (aA (aB 1) (aA (aB 7) (aA (aB 9) aD))))) (eC (.int 1))) aD))) (dI (aB 10) (eC (.int 1)))) a5)))))))))
def AS (k : bN) : MF := bM (AJ k) AW
def G0 : List Str := [("_law_model_here" : Str), ("_law_world_here" : Str), ("_law_deed_here" : Str), ("_law_lots" : Str), ("_law_news" : Str), ("_law_word" : Str), ("_law_rest" : Str), ("_law_a" : Str), ("_law_row" : Str), ("_law_many" : Str), ("_law_there" : Str), ("_law_host" : Str), ("_law_k" : Str)]
def FW (k : bN) : MS :=
 (aI (XI 5 6 (aA (aE aZ (aB 2) (eC (.int 0))) (aA (nD kH (aB 2) (cK (eC (.int 1))) cY) aD)))
 (aI (dE (a8 (aE fE (aB 5) (eC (.str ("stop" : Str))))) (dR (dP vF (aA (aE aZ (aB 1) (eC (.str ("stands" : Str)))) aD)) (bS 2 (aK (aR 7) (aK (aR 8) bR))) (dE (a8 (aE fE (aE aZ (aE aZ (aB 8) (aE aZ (aB 6) (eC (.int 0)))) (eC (.int 0))) (eC (.str ("serves" : Str))))) (b6 (aH (wA k) 5 aL (aA (aB 1) (aA (aB 7) (aA (aE aZ (aB 6) (eC (.int 0))) (aA (eC (.int 0)) (aA (aB 3) aD))))))) a5)) a5)
 (aI (dE (a8 (aE N6 (aB 5) (aM (aA (eC (.str ("stop" : Str))) (aA (eC (.str ("fall" : Str))) aD))))) (b6 (aH (DF k) 3 aL (aA (aB 1) (aA (aE aZ (aB 6) (eC (.int 0))) (aA (aB 4) aD))))) a5)
 (aI (dE (a8 (aE fE (aB 5) (eC (.str ("rise" : Str))))) (aI (aP (eC (.int 1)) (dI (aE aZ (aB 1) (eC (.str ("living" : Str)))) (aE aZ (aB 6) (eC (.int 0)))))
 (dR (dP vF (aA (aE aZ (aB 1) (eC (.str ("stands" : Str)))) aD)) (bS 2 (aK (aR 7) (aK (aR 8) bR))) (aP (aH (nH k) 4 aL (aA (aB 0) (aA (aB 1) (aA (aB 7) (aA (aE aZ (aB 6) (eC (.int 0))) aD))))) (dI (aB 8) (aE aZ (aB 6) (eC (.int 0))))))) a5)
 (aI (dE (a8 (aE N6 (aB 5) (aM (aA (eC (.str ("down" : Str))) (aA (eC (.str ("up" : Str))) (aA (eC (.str ("rank" : Str))) aD)))))) (b6 (aH (AS k) 3 aL (aA (aB 0) (aA (aB 1) (aA (aB 2) aD))))) a5)
 (aI (dE (a8 (aE N6 (aB 5) (aM (aA (eC (.str ("tear" : Str))) (aA (eC (.str ("heal" : Str))) aD))))) (aI (aP (aW dO (aA (aE aZ (aB 1) (eC (.str ("living" : Str)))) aD)) (aR 9))
 (aI (aP (VE (a8 (aE fE (aB 5) (eC (.str ("tear" : Str))))) (aE bE (aW WO (aA (aE aZ (aB 6) (eC (.int 0))) aD)) (bT (cZ (aE aZ (aB 6) (eC (.int 1)))) [11] (aR 11) bU (aE bE (aB 9) (aB 11)))) (cD aD)) (aR 10))
 (aP (IX (dP i0 (aA (aW dO (aA (aE aZ (aB 1) (eC (.str ("parts" : Str)))) aD)) aD)) [12] (aR 12) bU (aW oB (aA (aE N6 (aB 12) (aB 10)) aD))) (dI (aB 1) (eC (.str ("parts" : Str))))))) a5)
 (dE (a8 (aE fE (aB 5) (eC (.str ("ask" : Str))))) (b6 (aH (DK k) 3 aL (aA (aB 1) (aA (aE aZ (aB 6) (eC (.int 0))) (aA (aE aZ (aB 6) (eC (.int 1))) aD))))) a5)))))))
def GO (k : bN) : MF := bM (FW k) G0
end Lw
namespace Lb
open PySem PySem.Spec PyProof.Rows L2 Pc
def P0 (s : uL) (c a : Nat) : Int := ((s.tables[c]?).getD []).getD a (-1)
def LC (s : uL) (a h : Nat) : Role × Int := ((s.b8[a]?).getD []).getD h (.rests, 0)
def R3 (s : uL) (i : Nat) : Int := s.parts.getD i 0
def OE (h : Nat) (s : uL) (c a : Nat) : Bool := if P0 s c a < 0 then false else R3 s (P0 s c a).toNat == R3 s (h + c) && decide ((LC s a (P0 s c a).toNat).1 = .DY)
def X6 (h : Nat) (s : uL) (c a : Nat) : uL := { s with asks := s.asks.set c ((s.asks.getD c (0, 0)).1 + 1, (s.asks.getD c (0, 0)).2 + if OE h s c a = true then 0 else 1) }
section
variable {w : W} {P : D → W → Prop} {σ : Sg} {k : bN} {p h : Nat} {m : Mo} {b : Int} {s : uL}
theorem VB {q : Bool} : T (oB [.bl q] w) P = P (.int (if q = true then 1 else 0)) w := by
 have : oB [.bl q] w = .ok (.int (if q = true then 1 else 0)) w := by cases q <;> rfl
 rw [this, bZ]
end
inductive SA where
 | OD | stop | rise | down | up | rank | JP | JL | ask
deriving DecidableEq
def SA.s : SA → Str
 | .OD => "fall" | .stop => "stop" | .rise => "rise" | .down => "down" | .up => "up" | .rank => "rank" | .JP => "tear" | .JL => "heal" | .ask => "ask"
inductive rB where
 | down (t : Int) | up (t : Int) | rank (a c : Nat) (r : Int) | JP (hs cs : List Int) | JL | ask (c a : Nat)
 | OD (c : Nat) | stop (c : Nat) | rise (c : Nat)
def rB.word : rB → SA
 | .down _ => .down | .up _ => .up | .rank .. => .rank | .JP .. => .JP | .JL => .JL | .ask .. => .ask | .OD _ => .OD | .stop _ => .stop | .rise _ => .rise
def rB.args : rB → List D
 | .down t => [.int t] | .up t => [.int t] | .rank a c r => [.int (a : Nat), .int (c : Nat), .int r] | .JP hs cs => [r7 hs, r7 cs] | .JL => [] | .ask c a => [.int (c : Nat), .int (a : Nat)]
 | .OD c => [.int (c : Nat)] | .stop c => [.int (c : Nat)] | .rise c => [.int (c : Nat)]
def sortI (ns : List Int) : List Int := ns.mergeSort WK
section
variable {w : W} {P : D → W → Prop} {PL : List (List Key × D) → W → Prop} {σ : Sg} {k : bN} {tS : Addr} {p h : Nat} {m : Mo} {b : Int} {s : uL}
def SA.size : SA → Int
 | .rank => 3
 | .JP => 2
 | .JL => 0
 | .ask => 2
 | _ => 1
def QL (n : Int) (xs : List Int) : Prop := (∀ x ∈ xs, 0 ≤ x ∧ x ≤ n - 1) ∧ xs.Pairwise (· < ·)
def Fits (m : Mo) (h : Nat) : rB → Prop
 | .down t => (0 ≤ t ∧ t ≤ 9) ∧ t ∈ m.q8.map fun t => t.2.1
 | .up t => (0 ≤ t ∧ t ≤ 9) ∧ t ∈ m.q8.map fun t => t.2.1
 | .rank a c r => a < m.bV.length ∧ c < h ∧ 1 ≤ r ∧ r ≤ 12
 | .JP hs cs => (QL h hs ∧ QL m.fA cs) ∧ (hs.length ≤ 100 ∧ cs.length ≤ 100) ∧ 0 < hs.length ∧ hs.length < h
 | .JL => True
 | .ask c a => (c : Int) < m.fA ∧ a < m.bV.length
 | .OD c => c < h
 | .stop c => c < h
 | .rise c => c < h
end
end Lb
namespace Lw
open PySem PySem.Spec PyProof.Rows L2 Pc Lb
inductive lR where
 | dict | living | parts | downs | under | iY | bV | b8 | tables | asks | GF
 | SU (a : Nat) | I0 (a : Nat) | E2 (a c : Nat) | O6 (c : Nat) | ask (c : Nat)
deriving DecidableEq
abbrev qQ := lR → Nat
abbrev Con := lR → Option MO
def lO {α : Type} (f : lR → α) (l : lR) (x : α) : lR → α := fun q => if q = l then x else f q
theorem kI {α : Type} {f : lR → α} {l : lR} {x : α} : lO f l x l = x := if_pos rfl
theorem eJ {α : Type} {f : lR → α} {l q : lR} {x : α} (h : q ≠ l) : lO f l x q = f q := if_neg h
def UZ (S : lR → Bool) (C : Con) : Con := fun l => if S l then C l else none
def nC (n : Nat) (w : W) (A : qQ) (C : Con) : Prop := ∀ l o, C l = some o → n ≤ A l ∧ w[A l]? = some o ∧ ∀ l' o', C l' = some o' → A l' = A l → l' = l
section
variable {n : Nat} {w w' : W} {A A' : qQ} {C C' : Con} {l : lR} {o : MO}
theorem nC.get (h : nC n w A C) (e : C l = some o) : w[A l]? = some o := (h l o e).2.1
theorem nC.lt (h : nC n w A C) (e : C l = some o) : A l < w.length := (ai.mp (h.get e)).1
theorem nC.keep (h : nC n w A C) (hk : ∀ i, n ≤ i → i < w.length → w'[i]? = w[i]?) : nC n w' A C := fun l o e =>
 ⟨(h l o e).1, by rw [hk _ (h l o e).1 (h.lt e)]; exact h.get e, (h l o e).2.2⟩
theorem nC.grow (h : nC n w A C) (h2 : 2 ≤ n) (g : oU w w' 1 0) : nC n w' A C := h.keep fun i hi hl => g.at_ i hl (by omega) (by omega)
theorem nC.app (h : nC n w A C) (u : W) : nC n (w ++ u) A C := h.keep fun i _ hl => aq hl
theorem nC.set (h : nC n w A C) (e : C l = some o) (o1 : MO) : nC n (w.set (A l) o1) A (lO C l (some o1)) := fun q u eq => by
 have inj : ∀ l' o', lO C l (some o1) l' = some o' → ∃ o2, C l' = some o2 := fun l' o' e' => by
  by_cases c : l' = l
  ·subst c; exact ⟨o, e⟩
  ·rw [eJ c] at e'; exact ⟨o', e'⟩
 obtain ⟨u2, e2⟩ := inj q u eq
 refine ⟨(h q u2 e2).1, ?_, fun l' o' e' ea => ?_⟩
 ·by_cases c : q = l
  ·subst c
   rw [kI] at eq
   cases eq
   rw [av (h.lt e)]
  ·rw [eJ c] at eq
   rw [ax (fun x => c ((h l o e).2.2 q u2 e2 x.symm))]
   exact h.get eq
 ·obtain ⟨o3, e3⟩ := inj l' o' e'
  exact (h q u2 e2).2.2 l' o3 e3 ea
theorem nC.new (h : nC n w A C) (hk : ∀ i, n ≤ i → i < w.length → w'[i]? = w[i]?) {r : Nat} (h1 : w.length ≤ r) (h0 : n ≤ w.length) (e : w'[r]? = some o) (l : lR) : nC n w' (lO A l r) (lO C l (some o)) := fun q u eq => by
 by_cases c : q = l
 ·subst c
  rw [kI] at eq ⊢
  cases eq
  refine ⟨cj h0 h1, e, fun l' o' e' ea => ?_⟩
  by_cases c' : l' = q
  ·exact c'
  ·rw [eJ c'] at e' ea
   have := h.lt e'
   omega
 ·rw [eJ c] at eq ⊢
  refine ⟨(h q u eq).1, by rw [hk _ (h q u eq).1 (h.lt eq)]; exact h.get eq, fun l' o' e' ea => ?_⟩
  by_cases c' : l' = l
  ·subst c'
   rw [kI] at ea
   have := h.lt eq
   omega
  ·rw [eJ c'] at e' ea
   exact (h q u eq).2.2 l' o' e' ea
theorem nC.add (h : nC n w A C) (h0 : n ≤ w.length) (l : lR) (o : MO) : nC n (w ++ [o]) (lO A l w.length) (lO C l (some o)) :=
 h.new (fun i _ hl => aq hl) (bp _) h0 (by rw [bc (bp _)]; simp) l
theorem nC.sub (h : nC n w A C) (hs : ∀ l o, C' l = some o → C l = some o ∧ A' l = A l) : nC n w A' C' := fun l o e => by
 obtain ⟨e1, e2⟩ := hs l o e
 rw [e2]
 refine ⟨(h l o e1).1, h.get e1, fun l' o' e' ea => ?_⟩
 obtain ⟨e3, e4⟩ := hs l' o' e'
 rw [e4] at ea
 exact (h l o e1).2.2 l' o' e3 ea
theorem nC.nil : nC n w A fun _ => none := fun l o e => nomatch e
end
structure Wx where
 s : uL
 lk : List (List Key × D)
 GF : List D
def GD (A : qQ) : List (Key × D) := [(.inr "living", .ref (A .living)), (.inr "parts", .ref (A .parts)), (.inr "downs", .ref (A .downs)), (.inr "under", .ref (A .under)), (.inr "lacks", .ref (A .iY)),
 (.inr "ranks", .ref (A .bV)), (.inr "stands", .ref (A .b8)), (.inr "tables", .ref (A .tables)), (.inr "asks", .ref (A .asks)), (.inr "sent", .ref (A .GF))]
def eX (A : qQ) (g : Nat → lR) (k : Nat) : List D := (List.range k).map fun i => .ref (A (g i))
def FT (xs : List Int) : MO := .lst (xs.map D.int)
def aAJ (q : Role × Int) : MO := .lst [.str q.1.s, .int q.2]
def aBx (q : Int × Int) : MO := .lst [.int q.1, .int q.2]
def cont (A : qQ) (x : Wx) : Con
 | .dict => some (.dK (GD A))
 | .living => some (FT x.s.living)
 | .parts => some (FT x.s.parts)
 | .downs => some (FT x.s.downs)
 | .under => some (.lst (x.s.eU.map WN))
 | .iY => some (.dT x.lk)
 | .bV => some (.lst (eX A .SU x.s.bV.length))
 | .b8 => some (.lst (eX A .I0 x.s.b8.length))
 | .tables => some (.lst (eX A .O6 x.s.tables.length))
 | .asks => some (.lst (eX A .ask x.s.asks.length))
 | .GF => some (.lst x.GF)
 | .SU a => x.s.bV[a]?.map FT
 | .I0 a => x.s.b8[a]?.map fun r => .lst (eX A (.E2 a) r.length)
 | .E2 a c => (x.s.b8[a]?.bind (·[c]?)).map aAJ
 | .O6 c => x.s.tables[c]?.map FT
 | .ask c => x.s.asks[c]?.map aBx
def World (n : Nat) (w : W) (A : qQ) (x : Wx) : Prop := nC n w A (cont A x)
section
variable {n : Nat} {w w' : W} {A A' : qQ} {x x' : Wx} {P : D → W → Prop} {PU : Unit → W → Prop} {l : lR} {o o1 : MO}
theorem World.set (h : World n w A x) (e : cont A x l = some o) (o1 : MO) (hc : ∀ q, cont A x' q = lO (cont A x) l (some o1) q) : World n (w.set (A l) o1) A x' := by
 unfold World
 rw [funext hc]
 exact nC.set h e o1
theorem OB {g : Nat → lR} {k i v : Nat} (inj : ∀ i j, g i = g j → i = j) : (eX A g k).set i (.ref v) = eX (lO A (g i) v) g k := by
 refine List.ext_getElem? fun j => ?_
 rw [List.getElem?_set]
 unfold eX
 by_cases c : i = j
 ·subst c
  rw [if_pos rfl]
  by_cases h : i < k
  ·simp [h, kI]
  ·simp [h]
 ·rw [if_neg c]
  simp only [bw]
  cases e : (List.range k)[j]? with
  | none => rfl
  | some y =>
   have : y = j := by
    have := ai.mp e
    obtain ⟨_, h⟩ := this
    rw [List.getElem_range] at h
    exact h.symm
   subst this
   simp only [Option.map_some]
   rw [eJ (fun z => c (inj _ _ z).symm)]
end
open PySem.W (dataLe)
section
variable {n : Nat} {w w' : W} {A A' : qQ} {x x' : Wx} {P : D → W → Prop} {PU : Unit → W → Prop} {l : lR} {o o1 : MO} {k : bN} {i h : Nat} {m : Mo} {b : Int}
def rE (w : W) (i : Nat) (m : Mo) : Prop := w[i]? = some (.dK m.kvs)
end
def YI (lk : List (List Key × D)) (a s r : Nat) : Int := match gM lk [.inl (a : Int), .inl (s : Int), .inl (r : Int)] with
 | some (.int i) => i
 | _ => 0
def LI (na nh np : Nat) (lk : List (List Key × D)) : List (List (List Int)) := (List.range na).map fun a => (List.range nh).map fun s => (List.range np).map fun r => YI lk a s r
def WH (m : Mo) (h : Nat) (x : Wx) : uL := { x.s with downs := sortI x.s.downs, iY := LI m.bV.length h x.s.parts.length x.lk }
def OT (lk : List (List Key × D)) : Prop := ∀ ks d, gM lk ks = some d → ∃ i, d = .int i
section
variable {n : Nat} {w w' : W} {A A' : qQ} {x x' : Wx} {P : D → W → Prop} {PU : Unit → W → Prop} {PI : jN → W → Prop} {l : lR} {o o1 : MO} {k : bN} {i h : Nat} {m : Mo} {b : Int}
theorem getD_at {α : Type} {xs : List α} {d : α} {i : Nat} (h : i < xs.length) : xs[i]? = some (xs.getD i d) := by
 rw [List.getD_eq_getElem?_getD, bg h]
 rfl
structure WOk (m : Mo) (h : Nat) (x : Wx) : Prop where
 sta : QQ m h (WH m h x)
 lk : OT x.lk
theorem WOk.few (o : WOk m h x) : x.s.downs.length ≤ 10 := by
 have h1 := FR (c := 0) o.sta.downs.2 fun y hy => (o.sta.downs.1 y hy).1
 have h2 : (WH m h x).downs.length = x.s.downs.length := by
  show (sortI x.s.downs).length = _
  unfold sortI
  exact List.length_mergeSort _
 rw [h2] at h1
 omega
theorem World.app (hW : World n w A x) (u : W) : World n (w ++ u) A x := nC.app hW u
end
section
variable {n : Nat} {w w' : W} {A A' : qQ} {C : Con} {x x' : Wx} {σ : Sg} {P : D → W → Prop} {PL : List D → W → Prop} {PF : Fl → W → Prop} {PU : Unit → W → Prop} {PI : jN → W → Prop} {l : lR} {o1 : MO} {k : bN} {i h : Nat} {m : Mo} {b : Int}
theorem nC.bind {S : lR → Bool} (h : nC n w A (UZ S (cont A x))) (hS : S .dict = true) (hn : n ≤ w.length) (hl : l ≠ .dict) (hc : cont (lO A l w.length) x' l = some o1)
  (hr : ∀ q, q ≠ .dict → q ≠ l → S q = true → cont (lO A l w.length) x' q = cont A x q) :
  nC n ((w ++ [o1]).set (A .dict) (.dK (GD (lO A l w.length)))) (lO A l w.length) (UZ (fun q => S q || q == l) (cont (lO A l w.length) x')) := by
 have h1 := h.add hn l o1
 have e : lO (UZ S (cont A x)) l (some o1) .dict = some (.dK (GD A)) := by
  rw [eJ hl.symm, UZ, hS]
  rfl
 have h3 := h1.set e (.dK (GD (lO A l w.length)))
 rw [eJ hl.symm] at h3
 refine h3.sub fun q o e => ⟨?_, rfl⟩
 replace e : (if (S q || q == l) = true then cont (lO A l w.length) x' q else none) = some o := e
 by_cases c : q = .dict
 ·subst c
  rw [kI]
  rw [hS] at e
  exact e
 ·rw [eJ c]
  by_cases c2 : q = l
  ·subst c2
   rw [kI]
   simp only [beq_self_eq_true, Bool.or_true, ah] at e
   rw [← hc]
   exact e
  ·rw [eJ c2]
   unfold UZ
   have c3 : (q == l) = false := by simpa using c2
   rw [c3, Bool.or_false] at e
   cases s : S q with
   | false => rw [s] at e; exact nomatch e
   | true =>
    rw [s] at e
    simp only [ah] at e ⊢
    rw [← hr q c c2 s]
    exact e
end
def lR.top : lR → Bool
 | .living => true | .parts => true | .downs => true | .under => true | .iY => true | .bV => true | .b8 => true | .tables => true | .asks => true | .GF => true
 | _ => false
def dep : lR → lR → Prop
 | .dict, q => q.top = true
 | .bV, q => ∃ a, q = .SU a
 | .b8, q => ∃ a, q = .I0 a
 | .tables, q => ∃ a, q = .O6 a
 | .asks, q => ∃ a, q = .ask a
 | .I0 a, q => ∃ c, q = .E2 a c
 | _, _ => False
theorem jO {A A' : qQ} {g : Nat → lR} {k : Nat} (h : ∀ i, A (g i) = A' (g i)) : eX A g k = eX A' g k := by
 unfold eX
 exact List.map_congr_left fun i _ => by rw [h i]
theorem IL {A A' : qQ} {x : Wx} {l : lR} (h : ∀ q, dep l q → A q = A' q) : cont A x l = cont A' x l := by
 cases l with
 | dict =>
  show some (MO.dK (GD A)) = some (MO.dK (GD A'))
  unfold GD
  rw [h .living rfl, h .parts rfl, h .downs rfl, h .under rfl, h .iY rfl, h .bV rfl, h .b8 rfl, h .tables rfl, h .asks rfl, h .GF rfl]
 | bV =>
  show some (MO.lst (eX A .SU x.s.bV.length)) = some (MO.lst (eX A' .SU x.s.bV.length))
  rw [jO fun i => h _ ⟨i, rfl⟩]
 | b8 =>
  show some (MO.lst (eX A .I0 x.s.b8.length)) = some (MO.lst (eX A' .I0 x.s.b8.length))
  rw [jO fun i => h _ ⟨i, rfl⟩]
 | tables =>
  show some (MO.lst (eX A .O6 x.s.tables.length)) = some (MO.lst (eX A' .O6 x.s.tables.length))
  rw [jO fun i => h _ ⟨i, rfl⟩]
 | asks =>
  show some (MO.lst (eX A .ask x.s.asks.length)) = some (MO.lst (eX A' .ask x.s.asks.length))
  rw [jO fun i => h _ ⟨i, rfl⟩]
 | I0 a =>
  show x.s.b8[a]?.map (fun r => MO.lst (eX A (.E2 a) r.length)) = x.s.b8[a]?.map (fun r => MO.lst (eX A' (.E2 a) r.length))
  congr 1
  funext r
  rw [jO fun i => h _ ⟨i, rfl⟩]
 | _ => rfl
section
variable {n : Nat} {w w' w0 : W} {A A' A1 : qQ} {C : Con} {x x' : Wx} {σ : Sg} {P : D → W → Prop} {PL : List D → W → Prop} {PF : Fl → W → Prop} {PU : Unit → W → Prop} {PI : jN → W → Prop} {l : lR} {o1 : MO} {k : bN} {i h : Nat} {m : Mo} {b : Int}
theorem O9 {v : Nat} {q : lR} (ht : l.top = true) (hq : q ≠ .dict) : cont (lO A l v) x q = cont A x q := IL fun r d => eJ fun e => by
 subst e
 cases q <;> simp only [dep] at d
 case dict => exact hq rfl
 all_goals
  obtain ⟨a, rfl⟩ := d
  exact nomatch ht
structure cQ (w w' : W) : Prop where
 le : w.length ≤ w'.length
 at_ : ∀ i, i < w.length → w'[i]? = w[i]?
theorem cQ.refl : cQ w w := ⟨bp _, fun _ _ => rfl⟩
theorem cQ.app (h : cQ w0 w) (u : W) : cQ w0 (w ++ u) := ⟨by rw [cb]; have := h.le; omega, fun i hi => by rw [aq (Nat.lt_of_lt_of_le hi h.le)]; exact h.at_ i hi⟩
theorem cQ.set (h : cQ w0 w) {j : Nat} (hj : w0.length ≤ j) (o : MO) : cQ w0 (w.set j o) := ⟨by rw [cf]; exact h.le, fun i hi => by rw [ax (by omega)]; exact h.at_ i hi⟩
theorem cQ.trans {w1 w2 w3 : W} (a : cQ w1 w2) (b : cQ w2 w3) : cQ w1 w3 := ⟨cj a.le b.le, fun i hi => by rw [b.at_ i (Nat.lt_of_lt_of_le hi a.le), a.at_ i hi]⟩
theorem cQ.A8 (e : cQ w0 w) (hW : World n w0 A x) : World n w A x := nC.keep hW fun i _ hl => e.at_ i hl
theorem cQ.mod {j : Nat} (e : cQ w0 w) (hM : rE w0 j m) : rE w j m := by
 unfold rE
 rw [e.at_ j (ai.mp hM).1]
 exact hM
theorem cQ.grow (e : cQ w0 w) : oU w0 w 1 0 := ⟨e.le, fun i hi _ _ => e.at_ i hi⟩
end
section
variable {n : Nat} {w w' w0 : W} {A A' A1 : qQ} {C : Con} {x x' : Wx} {σ : Sg} {P : D → W → Prop} {PL : List D → W → Prop} {PF : Fl → W → Prop} {PU : Unit → W → Prop} {PI : jN → W → Prop} {l : lR} {o1 : MO} {k : bN} {i h : Nat} {m : Mo} {b : Int}
theorem World.UZ (hW : World n w A x) : nC n w A (Lw.UZ (fun _ => true) (cont A x)) := hW
theorem World.le (hW : World n w A x) : n ≤ A .dict := (hW .dict _ rfl).1
theorem World.lt (hW : World n w A x) (l : lR) {o : MO} (e : cont A x l = some o) : A l < w.length := nC.lt hW e
theorem World.YN (hW : World n w A x) : n ≤ w.length := by
 have h1 := hW.le
 have h2 := hW.lt .dict rfl
 omega
theorem World.bind (hW : World n w A x) (l : lR) (ht : l.top = true) (hc : ∀ A, cont A x' l = some o1) (hr : ∀ A q, q ≠ .dict → q ≠ l → cont A x' q = cont A x q) :
  World n ((w ++ [o1]).set (A .dict) (.dK (GD (lO A l w.length)))) (lO A l w.length) x' := by
 have hl : l ≠ .dict := fun e => by subst e; exact nomatch ht
 have := nC.bind (x' := x') (l := l) (o1 := o1) hW.UZ rfl hW.YN hl (hc _) fun q q1 q2 _ => by rw [hr _ q q1 q2, O9 ht q1]
 exact this.sub fun q o e => ⟨by unfold Lw.UZ; exact e, rfl⟩
def Apart (A : qQ) (x : Wx) (r : Nat) : Prop := ∀ l o, cont A x l = some o → A l ≠ r
theorem World.other (hW : World n w A x) {r : Nat} (ap : Apart A x r) (o : MO) : World n (w.set r o) A x := fun l u e => by
 obtain ⟨h1, h2, h3⟩ := hW l u e
 exact ⟨h1, by rw [ax (Ne.symm (ap l u e))]; exact h2, h3⟩
end
section
variable {n : Nat} {w w' w0 : W} {A A' A1 : qQ} {C : Con} {x x' : Wx} {σ : Sg} {P : D → W → Prop} {PL : List D → W → Prop} {PF : Fl → W → Prop} {PU : Unit → W → Prop} {PI : jN → W → Prop} {l : lR} {o1 : MO} {k : bN} {tS : Addr} {i h p : Nat} {m : Mo} {b : Int}
theorem cQ.aCw {w1 w2 : W} (e : cQ w1 w2) (hp : gI k w1 p m b) : gI k w2 p m b := by
 unfold gI
 rw [e.at_ p (ai.mp hp).1]
 exact hp
end
section
variable {n d0 : Nat} {w w' w0 : W} {A A' A1 : qQ} {C : Con} {x x' : Wx} {σ : Sg} {P : D → W → Prop} {PL : List D → W → Prop} {PF : Fl → W → Prop} {PU : Unit → W → Prop} {PI : jN → W → Prop} {l : lR} {o1 u : MO} {k : bN} {tS : Addr} {i h p : Nat} {m : Mo} {b : Int}
theorem XT : T (nL σ w) P = P (.ref w.length) (w ++ [.dT []]) := by unfold nL; rw [bZ]
end
section
variable {n d0 : Nat} {w w' w0 : W} {A A' A1 : qQ} {C : Con} {x x' : Wx} {σ : Sg} {P : D → W → Prop} {PL : List D → W → Prop} {PF : Fl → W → Prop} {PU : Unit → W → Prop} {PI : jN → W → Prop} {l : lR} {o o1 u : MO} {k : bN} {tS : Addr} {i h p : Nat} {m : Mo} {b : Int}
theorem Kept.A8 (kk : Pc.Kept w w' 1 0) (h2 : 2 ≤ n) (hW : World n w A x) : World n w' A x := nC.keep hW fun i h1 _ => kk.2 i (by omega) (by omega)
theorem Kept.mod (kk : Pc.Kept w w' 1 0) (i2 : 2 ≤ i) (hM : rE w i m) : rE w' i m := kk.obj hM (by omega) (by omega)
theorem oU.mod (g : oU w w' 1 0) (i2 : 2 ≤ i) (hM : rE w i m) : rE w' i m := by
 unfold rE
 rw [g.at_ i (ai.mp hM).1 (by omega) (by omega)]
 exact hM
theorem World.row {par : lR} {gl : Nat → lR} {kk c r : Nat} (hW : World n w A x) (hk : ∀ i, n ≤ i → i < w.length → w'[i]? = w[i]?) (hr : w.length ≤ r) (er : w'[r]? = some o) (inj : ∀ i j, gl i = gl j → i = j) (hne : par ≠ gl c)
  (hpar : cont A x par = some (.lst (eX A gl kk))) (hpar' : ∀ A', cont A' x' par = some (.lst (eX A' gl kk))) (hrow : ∀ A', cont A' x' (gl c) = some o) (hoth : ∀ A' q, q ≠ par → q ≠ gl c → (∀ l, l ≠ gl c → A' l = A l) → cont A' x' q = cont A x q) :
  World n (w'.set (A par) (.lst ((eX A gl kk).set c (.ref r)))) (lO A (gl c) r) x' := by
 have h1 := nC.new hW hk hr hW.YN er (gl c)
 have ee : lO (cont A x) (gl c) (some o) par = some (.lst (eX A gl kk)) := by rw [eJ hne]; exact hpar
 have h3 := h1.set ee (.lst ((eX A gl kk).set c (.ref r)))
 rw [eJ hne] at h3
 refine h3.sub fun q u e => ⟨?_, rfl⟩
 by_cases c1 : q = par
 ·subst c1
  rw [kI, OB inj]
  rw [hpar'] at e
  exact e
 rw [eJ c1]
 by_cases c2 : q = gl c
 ·subst c2
  rw [kI]
  rw [hrow] at e
  exact e
 rw [eJ c2, ← e]
 exact (hoth _ q c1 c2 fun l hl => eJ hl).symm
end
def GA (jP : Int) (lk : List (List Key × D)) : Prop := ∀ q ∈ lk, ∃ (a c r : Nat) (v : Int), q = ([.inl (a : Int), .inl (c : Int), .inl (r : Int)], .int v) ∧ a < 4 ∧ c < 6 ∧ r < 10 ∧ 0 ≤ v ∧ v ≤ jP ∧ (r = c → v = 0)
structure L8 (m : Mo) (h : Nat) (x : Wx) : Prop where
 living : x.s.living.length = h ∧ ∀ v ∈ x.s.living, 0 ≤ v ∧ v ≤ 1
 parts : (x.s.parts.length : Int) = h + m.fA ∧ ∀ v ∈ x.s.parts, 0 ≤ v ∧ v ≤ 1
 downs : (∀ v ∈ x.s.downs, (0 ≤ v ∧ v ≤ 9) ∧ v ∈ m.q8.map fun t => t.2.1) ∧ x.s.downs.Nodup
 bV : x.s.bV.length = m.bV.length ∧ ∀ r ∈ x.s.bV, r.length = h ∧ ∀ v ∈ r, 1 ≤ v ∧ v ≤ 12
 b8 : x.s.b8.length = m.bV.length ∧ ∀ r ∈ x.s.b8, r.length = h ∧ ∀ q ∈ x.s.living.zip r, LB m.kX q.1 q.2
 ZK : ∀ r ∈ x.s.b8, ∀ q ∈ r, q.2 ≤ 1000000
 eU : ∀ l ∈ x.s.eU, PH m h l
 few : x.s.eU.length ≤ 1300
 lk : GA m.jP x.lk
 lkn : (x.lk.map (·.1)).Nodup
 tables : (x.s.tables.length : Int) = m.fA ∧ ∀ r ∈ x.s.tables, r.length = m.bV.length ∧ ∀ v ∈ r, -1 ≤ v ∧ v ≤ (h : Int) - 1
 asks : (x.s.asks.length : Int) = m.fA ∧ ∀ q ∈ x.s.asks, 0 ≤ q.2 ∧ q.2 ≤ q.1 ∧ q.1 ≤ 1000000
section
variable {n d0 : Nat} {w w' w0 : W} {A A' A1 : qQ} {C : Con} {x x' : Wx} {σ : Sg} {P : D → W → Prop} {PL : List D → W → Prop} {PF : Fl → W → Prop} {PU : Unit → W → Prop} {PI : jN → W → Prop} {l : lR} {o o1 u : MO} {k : bN} {tS : Addr} {i h p : Nat} {m : Mo} {b : Int}
theorem yY {κ : Type} [DecidableEq κ] : ∀ {kvs : List (κ × D)} {ks : κ} {d : D}, gM kvs ks = some d → (ks, d) ∈ kvs
 | [], _, _, h => nomatch h
 | (j, e) :: r, ks, d, h => by
  unfold gM at h
  split at h
  ·rename_i c
   cases h
   rw [c]
   exact az ..
  ·exact bh _ (yY h)
theorem mem_putD {κ : Type} [DecidableEq κ] {kvs : List (κ × D)} {ks : κ} {d : D} {q : κ × D} (h : q ∈ putD kvs ks d) : q = (ks, d) ∨ q ∈ kvs := by
 unfold putD at h
 split at h
 ·obtain ⟨p, hp, e⟩ := cc.mp h
  split at e
  ·rename_i c
   subst e
   exact .inl (by rw [c])
  ·subst e
   exact .inr hp
 ·rcases List.mem_append.mp h with h | h
  ·exact .inr h
  ·exact .inl (List.mem_singleton.mp h)
theorem GA.int {jP : Int} {lk : List (List Key × D)} (h : GA jP lk) : OT lk := fun ks d e => by
 obtain ⟨_, _, _, v, e, _⟩ := h _ (yY e)
 injection e with _ e2
 exact ⟨v, e2⟩
theorem GA.at_ {jP : Int} {lk : List (List Key × D)} (h : GA jP lk) (h0 : 0 ≤ jP) (a c r : Nat) : 0 ≤ YI lk a c r ∧ YI lk a c r ≤ jP ∧ (r = c → YI lk a c r = 0) := by
 unfold YI
 cases e : gM lk [.inl (a : Int), .inl (c : Int), .inl (r : Int)] with
 | none => exact ⟨Int.le_refl 0, h0, fun _ => rfl⟩
 | some d =>
  obtain ⟨a', c', r', v, e2, _, _, _, v0, v1, vz⟩ := h _ (yY e)
  injection e2 with e3 e4
  subst e4
  refine ⟨v0, v1, fun hr => vz ?_⟩
  simp only [List.cons.injEq, Sum.inl.injEq, and_true] at e3
  omega
theorem GA.put {jP v : Int} {lk : List (List Key × D)} {a c r : Nat} (h : GA jP lk) (ha : a < 4) (hc : c < 6) (hr : r < 10) (v0 : 0 ≤ v) (v1 : v ≤ jP) (vz : r = c → v = 0) : GA jP (putD lk [.inl (a : Int), .inl (c : Int), .inl (r : Int)] (.int v)) := fun q hq => by
 rcases mem_putD hq with rfl | hq
 ·exact ⟨a, c, r, v, rfl, ha, hc, hr, v0, v1, vz⟩
 ·exact h q hq
theorem sortI_rises {ns : List Int} (h : ns.Nodup) : (sortI ns).Pairwise (· < ·) := by
 have p := List.mergeSort_perm ns WK
 have h1 := List.pairwise_mergeSort (le := WK) (fun a b c h1 h2 => by simp only [WK, au] at *; omega) (fun a b => by simp only [WK, Bool.or_eq_true, au]; omega) ns
 have h2 : (sortI ns).Nodup := p.nodup_iff.mpr h
 refine (h1.and h2).imp fun {a b} ⟨g1, g2⟩ => ?_
 simp only [WK, au] at g1
 omega
theorem MQ {ns : List Int} {v : Int} : v ∈ sortI ns ↔ v ∈ ns := (List.mergeSort_perm ns WK).mem_iff
theorem L8.ok (o : MoB m h) (g : L8 m h x) : WOk m h x := by
 have lo := o.jP
 refine ⟨⟨g.living, g.parts, ⟨fun v hv => g.downs.1 v (MQ.mp hv), sortI_rises g.downs.2⟩, g.bV, g.b8, g.eU, by have := g.few; show x.s.eU.length ≤ _; omega, ⟨?_, fun l hl => ?_⟩, g.tables, ⟨g.asks.1, fun q hq => ?_⟩⟩, g.lk.int⟩
 ·show (LI m.bV.length h x.s.parts.length x.lk).length = _
  simp [LI]
 ·have hl : l ∈ LI m.bV.length h x.s.parts.length x.lk := hl
  obtain ⟨a, _, rfl⟩ := cc.mp hl
  refine ⟨by simp, fun j r hj => ?_⟩
  rw [bw] at hj
  by_cases c : j < h
  ·rw [List.getElem?_range c] at hj
   have hj : (List.range x.s.parts.length).map (fun r => YI x.lk a j r) = r := Option.some.inj hj
   subst hj
   refine ⟨by rw [bq, List.length_range]; exact g.parts.1, fun v hv => ?_, ?_⟩
   ·obtain ⟨r, _, rfl⟩ := cc.mp hv
    exact ⟨(g.lk.at_ lo.1 a j r).1, (g.lk.at_ lo.1 a j r).2.1⟩
   ·have hp := g.parts.1
    have ho := o.fA
    rw [bw, List.getElem?_range (by omega)]
    show some (YI x.lk a j j) = _
    rw [(g.lk.at_ lo.1 a j j).2.2 rfl]
  ·rw [cg (by simp; omega)] at hj
   exact nomatch hj
 ·obtain ⟨q0, q1, q2⟩ := g.asks.2 q hq
  refine ⟨q0, q1, ?_⟩
  have : (1000000 : Int) ≤ FAR := by show (1000000 : Int) ≤ 1000000000000000000000000000000000000000000000000000000000000; omega
  omega
end
structure St (n i : Nat) (m : Mo) (w0 w : W) (A : qQ) (x : Wx) : Prop where
 aAi : xW w 1 0
 mod : rE w i m
 A8 : World n w A x
 n2 : 2 ≤ n
 i2 : 2 ≤ i
 hi : i < n
 le : w0.length ≤ w.length
 fd : ∀ j, j < n → j ≠ 1 → j ≠ 0 → w[j]? = w0[j]?
section
variable {n d0 : Nat} {w w' w0 : W} {A A' A1 : qQ} {C : Con} {x x' : Wx} {σ : Sg} {P : D → W → Prop} {PL : List D → W → Prop} {PF : Fl → W → Prop} {PU : Unit → W → Prop} {PI : jN → W → Prop} {l : lR} {o o1 u : MO} {k : bN} {tS : Addr} {i h p : Nat} {m : Mo} {b : Int}
theorem St.kept (s : St n i m w0 w A x) (d : xW w' 1 0) (kk : Pc.Kept w w' 1 0) : St n i m w0 w' A x :=
 ⟨d, Kept.mod kk s.i2 s.mod, Kept.A8 kk s.n2 s.A8, s.n2, s.i2, s.hi, by rw [kk.1]; exact s.le, fun j h1 h2 h3 => by rw [kk.2 j h2 h3]; exact s.fd j h1 h2 h3⟩
theorem St.grow (s : St n i m w0 w A x) (d : xW w' 1 0) (g : oU w w' 1 0) : St n i m w0 w' A x :=
 ⟨d, oU.mod g s.i2 s.mod, nC.grow s.A8 s.n2 g, s.n2, s.i2, s.hi, cj s.le g.le, fun j h1 h2 h3 => by rw [g.at_ j (by have := s.A8.YN; omega) h2 h3]; exact s.fd j h1 h2 h3⟩
theorem St.app (s : St n i m w0 w A x) (u : W) : St n i m w0 (w ++ u) A x := s.grow s.aAi.app ⟨by simp, fun i hi _ _ => aq hi⟩
theorem St.set {j : Nat} (s : St n i m w0 w A x) (hj : n ≤ j) (hw : World n (w.set j o) A' x') : St n i m w0 (w.set j o) A' x' :=
 ⟨s.aAi.set (by have := s.n2; omega) (by have := s.n2; omega), by unfold rE; rw [ax (by have := s.hi; omega)]; exact s.mod, hw, s.n2, s.i2, s.hi, by rw [cf]; exact s.le, fun j' h1 h2 h3 => by rw [ax (by omega)]; exact s.fd j' h1 h2 h3⟩
end
section
variable {n d0 : Nat} {w w' w0 : W} {A A' A1 : qQ} {C : Con} {x x' : Wx} {σ : Sg} {P : D → W → Prop} {PL : List D → W → Prop} {PF : Fl → W → Prop} {PU : Unit → W → Prop} {PI : jN → W → Prop} {l : lR} {o o1 u : MO} {k : bN} {tS : Addr} {i h p : Nat} {m : Mo} {b : Int}
theorem S4 {a b : D} {r : Int} (h0 : 0 ≤ r) (h1 : r < 2) : ∃ y, atI [a, b] r = some y ∧ ((r = 0 ∧ y = a) ∨ (r = 1 ∧ y = b)) := by
 have : r = 0 ∨ r = 1 := by omega
 rcases this with rfl | rfl
 ·exact ⟨a, rfl, .inl ⟨rfl, rfl⟩⟩
 ·exact ⟨b, rfl, .inr ⟨rfl, rfl⟩⟩
end
section
variable {n d0 : Nat} {w w' w0 : W} {A A' A1 : qQ} {C : Con} {x x' : Wx} {σ : Sg} {P : D → W → Prop} {PL : List D → W → Prop} {PF : Fl → W → Prop} {PU : Unit → W → Prop} {PI : jN → W → Prop} {l : lR} {o o1 u : MO} {k : bN} {tS : Addr} {i h p : Nat} {m : Mo} {b : Int}
theorem World.Z1 (hW : World n w A x) (l : lR) (ht : l.top = true) {o0 : MO} (h0 : cont A x l = some o0) (hc : cont A x' l = some o1) (hr : ∀ q, q ≠ l → cont A x' q = cont A x q) : World n (w.set (A l) o1) A x' :=
 World.set hW h0 o1 fun q => by
  by_cases c : q = l
  ·subst c
   rw [kI]
   exact hc
  ·rw [eJ c]
   exact hr q c
end
section
variable {n d0 : Nat} {w w' w0 : W} {A A' A1 : qQ} {C : Con} {x x' x0 : Wx} {σ : Sg} {P : D → W → Prop} {PL : List D → W → Prop} {PF : Fl → W → Prop} {PU : Unit → W → Prop} {PI : jN → W → Prop} {l : lR} {o o1 u : MO} {k : bN} {tS : Addr} {i h p na : Nat} {m : Mo} {b : Int} {sd : List (List (Role × Int))} {lk : List (List Key × D)} {ls : List Int}
theorem mem_set {α : Type} {xs : List α} {i : Nat} {v y : α} (h : y ∈ xs.set i v) : y = v ∨ y ∈ xs := by
 rcases List.mem_or_eq_of_mem_set h with h | h
 ·exact .inr h
 ·exact .inl h
end
section
variable {n d0 : Nat} {w w' w0 : W} {A A' A1 : qQ} {C : Con} {x x' : Wx} {σ : Sg} {P : D → W → Prop} {PL : List D → W → Prop} {PF : Fl → W → Prop} {PU : Unit → W → Prop} {PI : jN → W → Prop} {l : lR} {o o1 u : MO} {k : bN} {tS : Addr} {i h p : Nat} {m : Mo} {b : Int}
def aA8 (B : Int) (x : Wx) : Prop := ∀ q ∈ x.s.asks, q.1 ≤ B
end
section
variable {n d0 : Nat} {w w' w0 : W} {A A' A1 : qQ} {C : Con} {x x' : Wx} {σ : Sg} {P : D → W → Prop} {PL : List D → W → Prop} {PF : Fl → W → Prop} {PU : Unit → W → Prop} {PI : jN → W → Prop} {l : lR} {o o1 u : MO} {k : bN} {tS : Addr} {i h p : Nat} {m : Mo} {b B : Int}
theorem xZ {c a : Nat} (g : L8 m h x) (hb : aA8 B x) (hB : B + 1 ≤ 1000000) (h0 : 0 ≤ B) : L8 m h { x with s := X6 h x.s c a } ∧ aA8 (B + 1) { x with s := X6 h x.s c a } := by
 have q0 : 0 ≤ (x.s.asks.getD c (0, 0)).2 ∧ (x.s.asks.getD c (0, 0)).2 ≤ (x.s.asks.getD c (0, 0)).1 ∧ (x.s.asks.getD c (0, 0)).1 ≤ B := by
  by_cases hc : c < x.s.asks.length
  ·have hm := bf (getD_at (d := ((0 : Int), (0 : Int))) hc)
   exact ⟨(g.asks.2 _ hm).1, (g.asks.2 _ hm).2.1, hb _ hm⟩
  ·rw [List.getD_eq_getElem?_getD, cg (by omega)]
   exact ⟨by decide, by decide, h0⟩
 have key : ∀ q ∈ (X6 h x.s c a).asks, 0 ≤ q.2 ∧ q.2 ≤ q.1 ∧ q.1 ≤ B + 1 := fun q hq => by
  rcases mem_set hq with rfl | hq
  ·refine ⟨?_, ?_, ?_⟩ <;> simp only <;> (try split) <;> omega
  ·have := g.asks.2 q hq
   have := hb q hq
   omega
 refine ⟨⟨g.living, g.parts, g.downs, g.bV, g.b8, g.ZK, g.eU, g.few, g.lk, g.lkn, g.tables, ⟨?_, fun q hq => ?_⟩⟩, fun q hq => (key q hq).2.2⟩
 ·show ((x.s.asks.set c _).length : Int) = _
  rw [cf]
  exact g.asks.1
 ·have := key q hq
  omega
end
section
variable {n : Nat} {w w' w0 : W} {A : qQ} {x : Wx} {P : D → W → Prop} {i h p : Nat} {m : Mo} {b : Int} {s : uL} {σ : Sg}
theorem slL {xs : List D} {lo hi : Option Int} : kH (.lst xs) lo hi w = .ok (.lst (Pc.cutD xs lo hi)) w := rfl
end
abbrev NH := Nat → Nat → Nat → Int
structure LQ where
 a : Nat
 s : Nat
 r : Nat
 rank : Int
section
variable {n : Nat} {w w' : W} {x : Wx} {σ : Sg} {P : D → W → Prop} {PF : Fl → W → Prop} {PU : Unit → W → Prop} {k : bN} {i h p f : Nat} {m : Mo} {b : Int} {s : uL} {ts : List LQ} {kv : List (List Key × D)}
theorem tyL {r : Nat} {xs : List D} (e : w[r]? = some (.lst xs)) : VL (.ref r) w = some "list" := by simp only [VL, e]
end
structure J4 (m : Mo) (h B : Nat) (s : uL) : Prop where
 living : s.living.length = h
 parts : (s.parts.length : Int) = h + m.fA
 iY : s.iY.length = m.bV.length ∧ ∀ own ∈ s.iY, own.length = h ∧ ∀ row ∈ own, row.length = s.parts.length
 few : s.eU.length ≤ B
section
variable {n B : Nat} {w w' : W} {x : Wx} {σ : Sg} {P : D → W → Prop} {PF : Fl → W → Prop} {PU : Unit → W → Prop} {PI : jN → W → Prop} {k : bN} {i h p f : Nat} {m : Mo} {b : Int} {s : uL} {ts : List LQ} {kv : List (List Key × D)}
theorem J4.le (o : MoB m h) (ok : J4 m h B s) : s.parts.length ≤ 10 := by
 have h6 := o.bV.h6
 have ho := o.fA
 have := ok.parts
 omega
theorem QQ.send (ok : QQ m h s) (hB : s.eU.length ≤ B) : J4 m h B s := by
 refine ⟨ok.living.1, ok.parts.1, ⟨ok.iY.1, fun own ho => ⟨(ok.iY.2 own ho).1, fun row hr => ?_⟩⟩, hB⟩
 obtain ⟨j, hj⟩ := List.getElem?_of_mem hr
 have := ((ok.iY.2 own ho).2 j row hj).1
 have := ok.parts.1
 omega
theorem vK {xs : List D} : T (iterM (.tup xs) w) PI = PI ⟨xs, always⟩ w := by unfold T; rfl
theorem GW {xs : List D} : T (iterM (.lst xs) w) PI = PI ⟨xs, always⟩ w := by unfold T; rfl
end
def keyD (a c r : Nat) : D := .tup [.int (a : Nat), .int (c : Nat), .int (r : Nat)]
structure n9 (m : Mo) (h B : Nat) (x : Wx) : Prop where
 living : x.s.living.length = h ∧ ∀ v ∈ x.s.living, 0 ≤ v ∧ v ≤ 1
 parts : (x.s.parts.length : Int) = h + m.fA
 b8 : x.s.b8.length = m.bV.length ∧ ∀ r ∈ x.s.b8, r.length = h
 lk : OT x.lk
 b1 : x.lk.length ≤ B
 b2 : x.GF.length ≤ B
 b3 : x.s.eU.length ≤ B
section
variable {n d0 B : Nat} {w w' w0 : W} {A A' A1 : qQ} {C : Con} {x x' : Wx} {σ : Sg} {P : D → W → Prop} {PL : List D → W → Prop} {PF : Fl → W → Prop} {PU : Unit → W → Prop} {PI : jN → W → Prop} {l : lR} {o o1 u : MO} {k : bN} {i h p f : Nat} {m : Mo} {b : Int} {kv : List (List Key × D)} {fa : NH}
theorem n9.le (o : MoB m h) (ok : n9 m h B x) : x.s.parts.length ≤ 10 := by
 have h6 := o.bV.h6
 have ho := o.fA
 have := ok.parts
 omega
theorem n9.mono {B' : Nat} (ok : n9 m h B x) (hB : B ≤ B') : n9 m h B' x := ⟨ok.living, ok.parts, ok.b8, ok.lk, cj ok.b1 hB, cj ok.b2 hB, cj ok.b3 hB⟩
end
section
variable {n d0 B : Nat} {w w' w0 : W} {A A' A1 : qQ} {C : Con} {x x' : Wx} {σ : Sg} {P : D → W → Prop} {PL : List D → W → Prop} {PF : Fl → W → Prop} {PU : Unit → W → Prop} {PI : jN → W → Prop} {l : lR} {o o1 u : MO} {k : bN} {i h p f : Nat} {m : Mo} {b : Int} {kv : List (List Key × D)} {fa : NH}
theorem zipIdx {α β : Type} {f : α → β → α} {ss : Nat → β} : ∀ {xs : List α}, (xs.mapIdx fun a x => if a < xs.length then f x (ss a) else x) = List.zipWith f xs ((List.range xs.length).map ss) := fun {xs} => by
 refine List.ext_getElem? fun j => ?_
 rw [List.getElem?_mapIdx, List.getElem?_zipWith, bw]
 by_cases c : j < xs.length
 ·rw [bg c, List.getElem?_range c]
  simp [c]
 ·rw [cg (by omega)]
  rfl
end
structure Bd where
 k : bN
 B : Addr
 S : Addr
def EY : List Str := [("self" : Str), ("address" : Str), ("house" : Str), ("role" : Str), ("rank" : Str), ("receiver" : Str)]
def ET (k : Bd) : MS :=
 (aI (dE (a8 (aE fE (aB 3) (eC (.str ("waits" : Str))))) (b6 (dA "list" cO (bY k.B ("news_told" : Str) (aB 0)) (aA (aM (aA (aB 1) (aA (aB 2) (aA (eC (.str ("serves" : Str))) aD)))) aD))) a5)
 (aI (aP (aM (aA (eC (.str ("serves" : Str))) (aA (bY k.k.aN ("every" : Str) (bY k.B ("plan_here" : Str) (aB 0))) aD))) (dI (aE aZ (bY k.B ("stands_now" : Str) (aB 0)) (aB 1)) (aB 2)))
 (aI (aP (aH (lP k.k) 4 aL (aA (bY k.B ("plan_here" : Str) (aB 0)) (aA (bY k.B ("state_here" : Str) (aB 0)) (aA (aB 1) (aA (aB 2) aD))))) (aR 4))
 (dR (cZ (aH (pQ k.k) 3 aL (aA (bY k.B ("plan_here" : Str) (aB 0)) (aA (bY k.B ("state_here" : Str) (aB 0)) (aA (aB 2) aD))))) (aR 5) (b6 (dA "list" cO (bY k.B ("letters_sent" : Str) (aB 0)) (aA (aM (aA (aB 1) (aA (aB 2) (aA (aB 5) (aA (aB 4) aD))))) aD)))))))
def G7 (k : Bd) : MF := bM (ET k) EY
def tK : List Str := [("self" : Str), ("address" : Str), ("row" : Str), ("house" : Str), ("role" : Str), ("clock" : Str)]
def uC (k : Bd) : MS :=
 (dR (dP vF (aA (bY k.B ("stands_now" : Str) (aB 0)) aD)) (bS 2 (aK (aR 1) (aK (aR 2) bR))) (dR (dP vF (aA (aW WO (aA (aB 2) aD)) aD)) (bS 2 (aK (aR 3) (aK (bS 2 (aK (aR 4) (aK (aR 5) bR))) bR))) (dE (fO (a8 (aE kJ (aB 4) (eC (.str ("rests" : Str))))) (a8 (aE BU (aB 5) (eC (.int 1))))) (aP (aM (aA (aB 4) (aA (aE iB (aB 5) (eC (.int 1))) aD))) (dI (aB 2) (aB 3))) (dE (a8 (aE kJ (aB 4) (eC (.str ("rests" : Str))))) (b6 (sJ k.B ("send" : Str) (G7 k) 4 aL (aB 0) (aA (aB 1) (aA (aB 3) (aA (aB 4) aD))))) a5))))
def tU (k : Bd) : MF := bM (uC k) tK
def JF : List Str := [("one" : Str), ("other" : Str), ("rank" : Str), ("number" : Str), ("other_rank" : Str), ("other_number" : Str)]
def KS (k : Bd) : MS :=
 (aI (aP (aB 0) (bS 2 (aK (aR 2) (aK (aR 3) bR))))
 (aI (aP (aB 1) (bS 2 (aK (aR 4) (aK (aR 5) bR))))
 (a7 (eOr (aE BU (aB 2) (aB 4)) (mO (aE fE (aB 2) (aB 4)) (aE BR (aB 3) (aB 5)))))))
def IE (k : Bd) : MF := bM (KS k) JF
def E3 : List Str := [("self" : Str), ("address" : Str), ("sender" : Str), ("house" : Str), ("rank" : Str), ("role" : Str), ("clock" : Str), ("own" : Str), ("is_sender_ahead" : Str)]
def FU (k : Bd) : MS :=
 (aI (aP (aE aZ (aE aZ (bY k.B ("stands_now" : Str) (aB 0)) (aB 1)) (aB 3)) (bS 2 (aK (aR 5) (aK (aR 6) bR))))
 (aI (aP (aH (lP k.k) 4 aL (aA (bY k.B ("plan_here" : Str) (aB 0)) (aA (bY k.B ("state_here" : Str) (aB 0)) (aA (aB 1) (aA (aB 3) aD))))) (aR 7))
 (aI (aP (aH (IE k) 2 aL (aA (aM (aA (aB 4) (aA (aB 2) aD))) (aA (aM (aA (aB 7) (aA (aB 3) aD))) aD))) (aR 8))
 (dE (a8 (aE fE (aB 5) (eC (.str ("serves" : Str))))) (dE (fO (a8 (aE BU (aB 4) (eC (.int 0)))) (dY (aB 8))) (aI (aP (aM (aA (eC (.str ("waits" : Str))) (aA (aH (mW k.k) 4 aL (aA (bY k.B ("plan_here" : Str) (aB 0)) (aA (bY k.B ("state_here" : Str) (aB 0)) (aA (aB 1) (aA (aB 3) aD))))) aD))) (dI (aE aZ (bY k.B ("stands_now" : Str) (aB 0)) (aB 1)) (aB 3)))
 (b6 (dA "list" cO (bY k.B ("news_told" : Str) (aB 0)) (aA (aM (aA (aB 1) (aA (aB 3) (aA (eC (.str ("yields" : Str))) aD)))) aD)))) a5) (dE (a8 (aE fE (aB 4) (eC (.int 0)))) (aP (aM (aA (aB 5) (aA (aW min2 (aA (aB 6) (aA (aH (NC k.k) 2 aL (aA (bY k.B ("plan_here" : Str) (aB 0)) (aA (aB 7) aD))) aD))) aD))) (dI (aE aZ (bY k.B ("stands_now" : Str) (aB 0)) (aB 1)) (aB 3))) (dE (fT (dY (aB 8)) (cG (dY (bY k.k.aN ("takes" : Str) (bY k.B ("plan_here" : Str) (aB 0)))))) (aP (aM (aA (aB 5) (aA (aW max2 (aA (aB 6) (aA (aH (BJ k.k) 2 aL (aA (bY k.B ("plan_here" : Str) (aB 0)) (aA (aB 7) aD))) aD))) aD))) (dI (aE aZ (bY k.B ("stands_now" : Str) (aB 0)) (aB 1)) (aB 3))) a5))))))
def FD (k : Bd) : MF := bM (FU k) E3
def AO : List Str := [("self" : Str), ("address" : Str), ("sender" : Str), ("receiver" : Str), ("rank" : Str), ("living" : Str), ("parts" : Str), ("others" : Str)]
def AK (k : Bd) : MS :=
 (aI (aP (bY k.B ("state_here" : Str) (aB 0)) (LV 2 (aK (aR 5) (aK (aR 6) (aK (aR 7) bR)))))
 (aI (dE (a8 (aE kJ (aE aZ (aB 6) (aB 2)) (aE aZ (aB 6) (aB 3)))) (a7 (eC .non)) a5)
 (dE (a8 (aE V6 (aB 3) (aW dO (aA (aB 5) aD)))) (dE (a8 (aE BU (aB 4) (eC (.int 0)))) (aP (aB 2) (dI (aE aZ (bY k.B ("tables_now" : Str) (aB 0)) (aE iB (aB 3) (aW dO (aA (aB 5) aD)))) (aB 1))) a5) (dE (a8 (aE fE (aE aZ (aB 5) (aB 3)) (eC (.int 1)))) (b6 (sJ k.B ("hear" : Str) (FD k) 5 aL (aB 0) (aA (aB 1) (aA (aB 2) (aA (aB 3) (aA (aB 4) aD)))))) a5))))
def AR (k : Bd) : MF := bM (AK k) AO
def xM : List Str := [("self" : Str), ("letter" : Str), ("left" : Str), ("rest" : Str)]
def xQ (k : Bd) : MS :=
 (aI (aP (aB 1) (LV 1 (aK (aR 2) (aK (aR 3) bR))))
 (dE (a8 (aE BU (aB 2) (eC (.int 1)))) (b6 (dA "list" cO (bY k.B ("still_under_way" : Str) (aB 0)) (aA (aE bE (aM (aA (aE iB (aB 2) (eC (.int 1))) aD)) (aW fL (aA (aB 3) aD))) aD))) (b6 (sJ k.B ("arrive" : Str) (AR k) 5 aL (aB 0) (aA (aE aZ (aB 3) (eC (.int 0))) (aA (aE aZ (aB 3) (eC (.int 1))) (aA (aE aZ (aB 3) (eC (.int 2))) (aA (aE aZ (aB 3) (eC (.int 3))) aD))))))))
def zB (k : Bd) : MF := bM (xQ k) xM
def EA : List Str := [("self" : Str), ("plan" : Str), ("state" : Str), ("many_old" : Str), ("living" : Str), ("parts" : Str), ("downs" : Str), ("ranks" : Str), ("stands" : Str), ("letters" : Str), ("lacks" : Str), ("tables" : Str), ("asks" : Str), ("letter" : Str), ("row" : Str)]
def GG (k : Bd) : MS :=
 (aI (aP (aB 2) (bS 9 (aK (aR 4) (aK (aR 5) (aK (aR 6) (aK (aR 7) (aK (aR 8) (aK (aR 9) (aK (aR 10) (aK (aR 11) (aK (aR 12) bR)))))))))))
 (aI (cM k.B ("plan_here" : Str) (aB 0) (aB 1))
 (aI (cM k.B ("state_here" : Str) (aB 0) (aB 2))
 (aI (cM k.B ("stands_now" : Str) (aB 0) (bT (cZ (aB 8)) [14] (aR 14) bU (aW yF (aA (aB 14) aD))))
 (aI (cM k.B ("tables_now" : Str) (aB 0) (bT (cZ (aB 11)) [14] (aR 14) bU (aW yF (aA (aB 14) aD))))
 (aI (cM k.B ("still_under_way" : Str) (aB 0) (eNew aD))
 (aI (cM k.B ("letters_sent" : Str) (aB 0) (IX (cZ (nD kH (aB 9) (cK (aB 3)) cY)) [13] (aR 13) bU (nD kH (aB 13) (cK (eC (.int 1))) cY)))
 (aI (cM k.B ("news_told" : Str) (aB 0) (eNew aD))
 (aI (dR (cZ (nD kH (aB 9) cY (cK (aB 3)))) (aR 13) (b6 (sJ k.B ("move_on" : Str) (zB k) 2 aL (aB 0) (aA (aB 13) aD))))
 (b6 (sJ k.B ("end_clocks" : Str) (tU k) 1 aL (aB 0) aD)))))))))))
def EM (k : Bd) : MF := bM (GG k) EA
def wR : List Str := [("self" : Str), ("lacks" : Str), ("fates" : Str), ("living" : Str), ("parts" : Str), ("downs" : Str), ("ranks" : Str), ("stands" : Str), ("letters" : Str), ("others" : Str), ("tables" : Str), ("asks" : Str), ("row" : Str)]
def wK (k : Bd) : MS :=
 (aI (aP (bY k.B ("state_here" : Str) (aB 0)) (bS 9 (aK (aR 3) (aK (aR 4) (aK (aR 5) (aK (aR 6) (aK (aR 7) (aK (aR 8) (aK (aR 9) (aK (aR 10) (aK (aR 11) bR)))))))))))
 (aI (aP (aW fL (aA (bT (cZ (bY k.B ("stands_now" : Str) (aB 0))) [12] (aR 12) bU (aW fL (aA (aB 12) aD))) aD)) (aR 7))
 (aI (aP (aE bE (aW fL (aA (bY k.B ("still_under_way" : Str) (aB 0)) aD)) (aH (tQ k.k) 2 aL (aA (bY k.B ("letters_sent" : Str) (aB 0)) (aA (aB 2) aD)))) (aR 8))
 (aI (aP (aW fL (aA (bT (cZ (bY k.B ("tables_now" : Str) (aB 0))) [12] (aR 12) bU (aW fL (aA (aB 12) aD))) aD)) (aR 10))
 (a7 (aM (aA (aB 3) (aA (aB 4) (aA (aB 5) (aA (aB 6) (aA (aB 7) (aA (aB 8) (aA (aH (zO k.k) 3 aL (aA (aB 1) (aA (bY k.B ("letters_sent" : Str) (aB 0)) (aA (aB 2) aD)))) (aA (aB 10) (aA (aB 11) aD)))))))))))))))
def wV (k : Bd) : MF := bM (wK k) wR
def NS : List Str := [("plan" : Str), ("lacks" : Str), ("sent_here" : Str), ("ahead" : Str), ("thing" : Str), ("address" : Str), ("sender" : Str), ("receiver" : Str), ("fate" : Str), ("part" : Str)]
def MR (k : Bd) : MS :=
 (aI (dE (fT (cG (dY (aW (lH lS) (aA (aB 4) (aA (eC (.ty "tuple")) aD))))) (fT (a8 (aE kJ (aW dO (aA (aB 4) aD)) (eC (.int 4)))) (cG (dY (aW allM (aA (bT (cZ (aB 4)) [9] (aR 9) bU (aH (gX k.k) 1 aL (aA (aB 9) aD))) aD)))))) (a7 (eC (.bl false))) a5)
 (aI (aP (aB 4) (bS 4 (aK (aR 5) (aK (aR 6) (aK (aR 7) (aK (aR 8) bR))))))
 (aI (dE (fT (a8 (aE RK (nD kH (aB 4) cY (cK (sV nR (eC (.int 1))))) (aB 2))) (fO (a8 (aE kJ (aB 3) (aM aD))) (a8 (aE leA (nD kH (aB 4) cY (cK (sV nR (eC (.int 1))))) (nD kH (aB 3) cY (cK (sV nR (eC (.int 1))))))))) (a7 (eC (.bl false))) a5)
 (aI (dE (a8 (aE fE (aB 8) (eC (.int 0)))) (a7 (aE BR (aE aZ (aE aZ (aE aZ (aB 1) (aB 5)) (aB 6)) (aB 7)) (bY k.k.aN ("lost" : Str) (aB 0)))) a5)
 (a7 (ON JY JY (eC (.int 1)) (aB 8) (bY k.k.aN ("slow" : Str) (aB 0))))))))
def NB (k : Bd) : MF := bM (MR k) NS
def J8 : List Str := [("plan" : Str), ("lacks" : Str), ("sent_here" : Str), ("fates" : Str), ("found" : Str), ("ahead" : Str), ("place" : Str), ("thing" : Str)]
def JU (k : Bd) : MS :=
 (aI (aP nL (aR 4))
 (aI (aP (aM aD) (aR 5))
 (aI (dR (dP yC (aA (aB 3) aD)) (bS 2 (aK (aR 6) (aK (aR 7) bR))) (aI (dE (cG (dY (aH (NB k) 5 aL (aA (aB 0) (aA (aB 1) (aA (aB 2) (aA (aB 5) (aA (aB 7) aD)))))))) T7 a5)
 (aI (aP (aE aZ (aB 7) (sV nR (eC (.int 1)))) (dI (aB 4) (nD kH (aB 7) cY (cK (sV nR (eC (.int 1)))))))
 (aP (aB 7) (aR 5)))))
 (a7 (aB 4)))))
def KY (k : Bd) : MF := bM (JU k) J8
def IG : List Str := [("plan" : Str), ("deed" : Str), ("address" : Str)]
def KZ (k : Bd) : MS :=
 (aI (dE (a8 (aE RK (aE aZ (aB 1) (eC (.int 0))) (aM (aA (eC (.str ("fall" : Str))) (aA (eC (.str ("stop" : Str))) aD))))) (a7 (aM aD)) a5)
 (a7 (aW fL (aA (bT (dP i0 (aA (aH (dQ k.k) 1 aL (aA (aB 0) aD)) aD)) [2] (aR 2) bU (aM (aA (aB 2) (aA (aE aZ (aB 1) (eC (.int 1))) (aA (eC (.str ("rests" : Str))) aD))))) aD))))
def IP (k : Bd) : MF := bM (KZ k) IG
def DN : List Str := [("plan" : Str), ("state" : Str), ("deeds" : Str), ("news" : Str), ("place" : Str), ("deed" : Str)]
def CI (k : Bd) : MS :=
 (aI (aP (eNew aD) (aR 3))
 (aI (dR (dP yC (aA (aB 2) aD)) (bS 2 (aK (aR 4) (aK (aR 5) bR))) (aI (dE (cG (dY (aH (ML k.k k.S) 3 aL (aA (aB 0) (aA (aB 1) (aA (aB 5) aD)))))) T7 a5)
 (aI (aP (aH (GI k.k) 4 aL (aA (aB 0) (aA (aB 1) (aA (aB 5) (aA nL aD))))) (aR 1))
 (b6 (dA "list" UX (aB 3) (aA (aH (IP k) 2 aL (aA (aB 0) (aA (aB 5) aD))) aD))))))
 (a7 (aM (aA (aB 1) (aA (aW fL (aA (aB 3) aD)) aD))))))
def CH (k : Bd) : MF := bM (CI k) DN
def QZ : List Str := [("plan" : Str), ("state" : Str), ("deeds" : Str), ("fates" : Str), ("after" : Str), ("news" : Str), ("beat" : Str), ("sent_here" : Str), ("known" : Str), ("letter" : Str)]
def RT (k : Bd) : MS :=
 (aI (aP (aH (CH k) 3 aL (aA (aB 0) (aA (aB 1) (aA (aB 2) aD)))) (bS 2 (aK (aR 4) (aK (aR 5) bR))))
 (aI (aP (aA6 k.B (EM k) 3 aL (aA (aB 0) (aA (aB 4) (aA (aW dO (aA (aE aZ (aB 1) (eC (.int 5))) aD)) aD)))) (aR 6))
 (aI (aP (aBB (cZ (bY k.B ("letters_sent" : Str) (aB 6))) [9] (aR 9) bU (nD kH (aB 9) cY (cK (sV nR (eC (.int 1))))) (eC (.bl true))) (aR 7))
 (aI (aP (aH (KY k) 4 aL (aA (aB 0) (aA (aE aZ (aB 1) (eC (.int 6))) (aA (aB 7) (aA (aB 3) aD))))) (aR 8))
 (a7 (aM (aA (aE bE (aB 5) (aW fL (aA (bY k.B ("news_told" : Str) (aB 6)) aD))) (aA (sJ k.B ("state_by" : Str) (wV k) 3 aL (aB 6) (aA (aE aZ (aB 1) (eC (.int 6))) (aA (aB 8) aD))) aD))))))))
def QR (k : Bd) : MF := bM (RT k) QZ
abbrev nU (k : Bd) : List D → List D → List D := fun xs zs => jQ [(0, 0), (0, 1), (1, 0), (1, 1)] xs zs []
def AI : List Str := [("_law_one" : Str), ("_law_other" : Str)]
def AE (k : bN) : MS :=
 (a7 (eOr (aE BU (aE aZ (aB 0) (eC (.int 0))) (aE aZ (aB 1) (eC (.int 0)))) (mO (aE fE (aE aZ (aB 0) (eC (.int 0))) (aE aZ (aB 1) (eC (.int 0)))) (aE BR (aE aZ (aB 0) (eC (.int 1))) (aE aZ (aB 1) (eC (.int 1)))))))
def rH (k : bN) : MF := bM (AE k) AI
def xJ : List Str := [("_law_model_here" : Str), ("_law_world_here" : Str), ("_law_letter" : Str), ("_law_news" : Str), ("_law_left" : Str), ("_law_a" : Str), ("_law_s" : Str), ("_law_r" : Str), ("_law_rank_here" : Str), ("_law_many" : Str), ("_law_stand" : Str), ("_law_own" : Str)]
def yH (k : bN) : MS :=
 (aI (aP (aB 2) (bS 5 (aK (aR 4) (aK (aR 5) (aK (aR 6) (aK (aR 7) (aK (aR 8) bR)))))))
 (aI (aP (aW dO (aA (aE aZ (aB 1) (eC (.str ("living" : Str)))) aD)) (aR 9))
 (aI (dE (fT (a8 (aE kJ (aE aZ (aE aZ (aB 1) (eC (.str ("parts" : Str)))) (aB 6)) (aE aZ (aE aZ (aB 1) (eC (.str ("parts" : Str)))) (aB 7)))) (fO (a8 (aE BR (aB 7) (aB 9))) (a8 (aE fE (aE aZ (aE aZ (aB 1) (eC (.str ("living" : Str)))) (aB 7)) (eC (.int 0)))))) (a7 (eC .non)) a5)
 (aI (dE (a8 (aE V6 (aB 7) (aB 9))) (aI (dE (a8 (aE BU (aB 8) (eC (.int 0)))) (aP (aB 6) (dI (aE aZ (aE aZ (aB 1) (eC (.str ("tables" : Str)))) (aE iB (aB 7) (aB 9))) (aB 5))) a5)
 (a7 (eC .non))) a5)
 (aI (XI 10 11 (aA (aE aZ (aE aZ (aE aZ (aB 1) (eC (.str ("stands" : Str)))) (aB 5)) (aB 7)) (aA (aM (aA (aH (jV k) 4 aL (aA (aB 0) (aA (aB 1) (aA (aB 5) (aA (aB 7) aD))))) (aA (aB 7) aD))) aD)))
 (dE (fO (a8 (aE fE (aE aZ (aB 10) (eC (.int 0))) (eC (.str ("serves" : Str))))) (fO (a8 (aE BU (aB 8) (eC (.int 0)))) (dY (aH (rH k) 2 aL (aA (aM (aA (aB 8) (aA (aB 6) aD))) (aA (aB 11) aD)))))) (aI (aP (aH (nH k) 4 aL (aA (aB 0) (aA (aB 1) (aA (aB 5) (aA (aB 7) aD))))) (dI (aE aZ (aE aZ (aB 1) (eC (.str ("stands" : Str)))) (aB 5)) (aB 7)))
 (b6 (dA "list" cO (aB 3) (aA (aM (aA (aB 5) (aA (aB 7) (aA (eC (.str ("yields" : Str))) aD)))) aD)))) (dE (fO (a8 (aE fE (aE aZ (aB 10) (eC (.int 0))) (eC (.str ("waits" : Str))))) (a8 (aE fE (aB 8) (eC (.int 0))))) (aP (aW min2 (aA (aE aZ (aB 10) (eC (.int 1))) (aA (aE bE (eC (.int 2)) (aE mulM (aE aZ (aB 0) (eC (.str ("gap" : Str)))) (aE iB (eC (.int 12)) (aE aZ (aB 11) (eC (.int 0)))))) aD))) (dI (aB 10) (eC (.int 1)))) (dE (fO (a8 (aE fE (aE aZ (aB 10) (eC (.int 0))) (eC (.str ("waits" : Str))))) (fT (cG (dY (aE aZ (aB 0) (eC (.str ("takes" : Str)))))) (dY (aH (rH k) 2 aL (aA (aM (aA (aB 8) (aA (aB 6) aD))) (aA (aB 11) aD)))))) (aP (aW max2 (aA (aE aZ (aB 10) (eC (.int 1))) (aA (aH (wF k) 2 aL (aA (aB 0) (aA (aE aZ (aB 11) (eC (.int 0))) aD))) aD))) (dI (aB 10) (eC (.int 1)))) a5))))))))
def x7 (k : bN) : MF := bM (yH k) xJ
def FE : List Str := [("_law_model_here" : Str), ("_law_world_here" : Str), ("_law_acts" : Str), ("_law_lots" : Str), ("_law_news" : Str), ("_law_letters" : Str), ("_law_deed_here" : Str), ("_law_one" : Str), ("_law_a" : Str), ("_law_h" : Str), ("_law_role" : Str), ("_law_clock" : Str)]
def FQ (k : bN) : MS :=
 (aI (aP (aM (aA (eNew aD) (aA (eNew aD) aD))) (bS 2 (aK (aR 4) (aK (dI (aB 1) (eC (.str ("sent" : Str)))) bR))))
 (aI (aP (aM (aA (bT (cZ (aE aZ (aB 1) (eC (.str ("under" : Str))))) [7] (aR 7) bU (aE bE (aM (aA (aE iB (aE aZ (aB 7) (eC (.int 0))) (eC (.int 1))) aD)) (nD kH (aB 7) (cK (eC (.int 1))) cY))) (aA (eNew aD) aD))) (bS 2 (aK (aR 5) (aK (dI (aB 1) (eC (.str ("under" : Str)))) bR))))
 (aI (dR (cZ (aB 2)) (aR 6) (b6 (aH (GO k) 5 aL (aA (aB 0) (aA (aB 1) (aA (aB 6) (aA (aB 3) (aA (aB 4) aD))))))))
 (aI (aP (aE tL (bT (cZ (aB 5)) [7] (aR 7) (a8 (aE BU (aE aZ (aB 7) (eC (.int 0))) (eC (.int 0)))) (aB 7)) (aE aZ (aB 1) (eC (.str ("under" : Str))))) (dI (aB 1) (eC (.str ("under" : Str)))))
 (aI (dR (cZ (aB 5)) (aR 7) (dE (a8 (aE fE (aE aZ (aB 7) (eC (.int 0))) (eC (.int 0)))) (b6 (aH (x7 k) 4 aL (aA (aB 0) (aA (aB 1) (aA (aB 7) (aA (aB 4) aD)))))) a5))
 (aI (dR (dP i0 (aA (aW dO (aA (aE aZ (aB 0) (eC (.str ("ranks" : Str)))) aD)) aD)) (aR 8) (dR (dP i0 (aA (aW dO (aA (aE aZ (aB 1) (eC (.str ("living" : Str)))) aD)) aD)) (aR 9) (aI (aP (aE aZ (aE aZ (aE aZ (aB 1) (eC (.str ("stands" : Str)))) (aB 8)) (aB 9)) (W9 2 (aK (aR 10) (aK (aR 11) bR))))
 (aI (aP (eNew (aA (aB 10) (aA (aE iB (aB 11) (aW oB (aA (aE kJ (aB 10) (eC (.str ("rests" : Str)))) aD))) aD))) (dI (aE aZ (aE aZ (aB 1) (eC (.str ("stands" : Str)))) (aB 8)) (aB 9)))
 (dE (fO (a8 (aE kJ (aB 10) (eC (.str ("rests" : Str))))) (a8 (aE fE (aB 11) (eC (.int 1))))) (aI (dE (a8 (aE fE (aB 10) (eC (.str ("waits" : Str))))) (b6 (dA "list" cO (aB 4) (aA (aM (aA (aB 8) (aA (aB 9) (aA (eC (.str ("serves" : Str))) aD)))) aD))) a5)
 (aI (aP (eNew (aA (eC (.str ("serves" : Str))) (aA (aE aZ (aB 0) (eC (.str ("every" : Str)))) aD))) (dI (aE aZ (aE aZ (aB 1) (eC (.str ("stands" : Str)))) (aB 8)) (aB 9)))
 (b6 (aH (wA k) 5 aL (aA (aB 1) (aA (aB 8) (aA (aB 9) (aA (aH (jV k) 4 aL (aA (aB 0) (aA (aB 1) (aA (aB 8) (aA (aB 9) aD))))) (aA (aB 3) aD))))))))) a5)))))
 (a7 (aW fL (aA (aB 4) aD)))))))))
def FC (k : bN) : MF := bM (FQ k) FE
structure Bt where
 b8 : List (List (Role × Int))
 tables : List (List Int)
 under : List AB
 GF : List LQ
 news : List D
def aA1 (y : Bt) (a c : Nat) : Role × Int := (y.b8.getD a []).getD c (.rests, 0)
def aAl (l : AB) : LQ := ⟨l.a.toNat, l.s.toNat, l.r.toNat, l.rank⟩
def bt0 (s : uL) (j : Nat) : Bt := ⟨s.b8, s.tables, [], (s.eU.drop j).map aAl, []⟩
def Pos (y : Bt) : Prop := ∀ a c, (aA1 y a c).1 ≠ .rests → 1 ≤ (aA1 y a c).2
section
variable {n B0 : Nat} {w w' w0 : W} {A A' A0 : qQ} {x X X0 : Wx} {y y' : Bt} {σ : Sg} {P : D → W → Prop} {PL : List D → W → Prop} {PF : Fl → W → Prop} {PU : Unit → W → Prop} {PI : jN → W → Prop} {k : bN} {i h p f q news : Nat} {m : Mo} {b : Int} {s s1 s2 : uL} {l : AB} {o o1 : MO} {kv : List (List Key × D)} {nw : List D} {fa : NH} {ts t1 t2 : List LQ} {ls : List AB} {ds : List rB}
theorem L6 {a c : D} {xs zs : List D} (h1 : r4 a w = some xs) (h2 : r4 c w = some zs) : T (tL a c w) P = (xs.length + zs.length ≤ sizeLine ∧ P (.ref w.length) (w ++ [.lst (xs ++ zs)])) := by
 simp only [tL, h1, h2]
 by_cases c : xs.length + zs.length ≤ sizeLine
 ·rw [if_pos c, bZ]; simp [c]
 ·rw [if_neg c, aAe]; simp [c]
end
open PySem.W (dataLe)
section
variable {n B0 Q : Nat} {w w' w0 : W} {A A' A0 : qQ} {x X X0 e : Wx} {y y' z : Bt} {σ : Sg} {P : D → W → Prop} {PL : List D → W → Prop} {kb : Bd} {k : bN} {i h p f q news : Nat} {m : Mo} {b jP : Int} {s s1 s2 : uL} {l : AB} {o o1 : MO} {kv : List (List Key × D)} {nw : List D} {fa : NH} {t : LQ} {ts t1 t2 ls : List LQ} {L : List AB} {S : List D} {ds : List rB}
theorem MM {us : List (Int × Int × Int)} (h : us.length ≤ 1000) : EF (us.map eR) w = some ((us.mergeSort zF).map eR) := by
 unfold EF
 rw [MN, if_pos]
 refine ⟨?_, ?_, by rw [bq, sizeLine_eq]; omega⟩
 ·rw [ay]
  intro d hd
  obtain ⟨t, _, rfl⟩ := cc.mp hd
  rfl
 ·have e : (us.map eR).map (DX w) = us.map fun t => .tuple [.int t.1, .int t.2.1, .int t.2.2] := by rw [List.map_map]; rfl
  rw [e]
  unfold iN
  simp only [ak, Bool.or_eq_true, ay]
  refine ⟨⟨fun p hp q hq => ?_, .inl fun p hp => ?_⟩, fun p hp => ?_⟩
  ·obtain ⟨t, _, rfl⟩ := cc.mp hp
   obtain ⟨u, _, rfl⟩ := cc.mp hq
   simp [PySem.W.alike, PySem.W.alikeAll]
  ·obtain ⟨t, _, rfl⟩ := cc.mp hp
   rfl
  ·obtain ⟨t, _, rfl⟩ := cc.mp hp
   simp [PyData.depth, PyData.depthAll]
end
section
variable {n B0 Q : Nat} {w w' : W} {A A' : qQ} {x : Wx} {y : Bt} {P : D → W → Prop} {kb : Bd} {k : bN} {i h p f : Nat} {m : Mo} {b : Int} {s : uL} {ls : List LQ} {ds : List rB}
theorem J9 {us : List (Int × Int × Int)} (hl : us.length ≤ 1000) : T (kB [.lst (us.map eR)] w) P = P (.lst ((us.mergeSort zF).map eR)) w := by
 have : kB [.lst (us.map eR)] w = .ok (.lst ((us.mergeSort zF).map eR)) w := by
  have l : rS (.lst (us.map eR)) w = some (us.map eR) := rfl
  simp only [kB, l, Option.bind_some, MM (w := w) hl]
 rw [this, bZ]
end
open PySem.W (dataLe)
abbrev Qd := Int × Int × Int × Int
def l4 (t : Qd) : List Int := [t.1, t.2.1, t.2.2.1, t.2.2.2]
def Z5 (q : Role × Int) : Bool := decide (q.1 = .DY)
structure Nd where
 b : Bd
 N : Addr
def rF : List Str := [("self" : Str), ("numbers" : Str)]
def rQ (k : Nd) : MS :=
 (aI (aP (aM (aA (bY k.b.k.aN ("every" : Str) (aB 0)) (aA (bY k.b.k.aN ("lost" : Str) (aB 0)) (aA (bY k.b.k.aN ("slow" : Str) (aB 0)) (aA (bY k.b.k.aN ("bears" : Str) (aB 0)) (aA (bY k.b.k.aN ("gap" : Str) (aB 0)) (aA (bY k.b.k.aN ("hold" : Str) (aB 0)) aD))))))) (aR 1))
 (a7 (aE bE (aE bE (aM (aA (bY k.b.k.aN ("ranks" : Str) (aB 0)) aD)) (aB 1)) (aM (aA (bY k.b.k.aN ("takes" : Str) (aB 0)) (aA (bY k.b.k.aN ("ties" : Str) (aB 0)) (aA (bY k.b.k.aN ("hosts" : Str) (aB 0)) aD)))))))
def rM (k : Nd) : MF := bM (rQ k) rF
theorem yG (x0 : D) : begin rF [x0] = [some x0, none] := rfl
def GK : List Str := [("self" : Str)]
def EW (k : Nd) : MS :=
 (a7 (aE aZ (bY k.N ("states_kept" : Str) (aB 0)) (sV nR (eC (.int 1)))))
def FX (k : Nd) : MF := bM (EW k) GK
def IV : List Str := [("self" : Str), ("deeds" : Str), ("fates" : Str), ("told" : Str), ("state" : Str)]
def JB (k : Nd) : MS :=
 (aI (WM k.N ("beats_begun" : Str) (aB 0) (eC (.int 1)))
 (aI (aCf (aI (aP (IM (QR k.b) 2 2 (nU k.b) (aA (bY k.N ("plan" : Str) (aB 0)) (aA (sJ k.N ("state" : Str) (FX k) 1 aL (aB 0) aD) aD)) (aA (aB 1) (aA (aB 2) aD))) (bS 2 (aK (aR 3) (aK (aR 4) bR))))
 (aI (b6 (dA "list" cO (bY k.N ("states_kept" : Str) (aB 0)) (aA (aB 4) aD)))
 (b6 (dA "list" cO (bY k.N ("news_kept" : Str) (aB 0)) (aA (aB 3) aD))))) (WM k.N ("beats_left" : Str) (aB 0) (eC (.int 1))))
 (a7 (aB 3))))
def JX (k : Nd) : MF := bM (JB k) IV
abbrev mI (k : Nd) : List D → List D → List D := fun xs zs => jQ [(0, 0), (1, 0), (1, 1)] xs zs []
section
variable {n B0 Q : Nat} {w w' w0 : W} {A A' A0 : qQ} {x : Wx} {y : Bt} {P : D → W → Prop} {PF : Fl → W → Prop} {kb : Bd} {k : Nd} {i h p q f S N : Nat} {m : Mo} {b g l : Int} {s : uL} {lk : List (List (List Int))} {ts ls : List LQ} {ds : List rB} {dd ff cur : D} {ss : List D} {ns : List (List D)}
def WC (m : Mo) (b : Int) : D := .tup [.tup (m.bV.map r7), .int m.kX, .int m.jP, .int m.uO, .int b, .int m.gap, .int m.hold, .bl m.takes, .tup (m.q8.map eR), .int m.fA]
theorem t4 (hp : gI k.b.k w p m b) : T (rM k [.ref p] w) P = P (WC m b) w := by
 unfold rM rQ
 rw [fH, yG, bF]
 simp only [UH hp, Y6 hp, ZQ hp, U7 hp, aAV hp, Y5 hp, VI hp, V5 hp, QH hp, TQ hp, zY, ah, aa, reduceCtorEq]
 exact propext ⟨fun h => h.2, fun h => ⟨QO _ (by simp), h⟩⟩
end
section
variable {n n' nn Q : Nat} {w w' : W} {A : qQ} {x : Wx} {P : D → W → Prop} {i h p q F S N r : Nat} {m : Mo} {b g l : Int} {ds : List rB} {ls : List LQ} {ns : List (List D)} {nw : List D} {ys : List D}
theorem World.mono (hW : World n w A x) (h : n' ≤ n) : World n' w A x := fun l o e => by
 obtain ⟨h1, h2, h3⟩ := hW l o e
 exact ⟨by omega, h2, h3⟩
end
abbrev GS := List rB × List LQ
end Lw
namespace Pro
structure Dat where
 N : Nat
 mem : Nat → Prop
 R : Nat → Int
 takes : Bool
 kX : Nat
 jP : Nat
 uO : Nat
 B : Nat
 wait : Nat → Int
 srv : Nat → Nat → Prop
 clk : Nat → Nat → Int
 snd : Nat → Nat → Prop
 hit : Nat → Nat → Nat → Prop
 lk : Nat → Nat → Nat → Nat
def Dat.ahead (D : Dat) (d c : Nat) : Prop := D.R d > D.R c ∨ (D.R d = D.R c ∧ d < c)
def Dat.P (D : Dat) : Nat := (D.jP + 1) * D.kX + D.uO - 1
variable {D : Dat}
end Pro
namespace Lw
open PySem PySem.Spec PyProof.Rows L2 Pc Lb
section
variable {m : Mo} {b : Int} {h Q : Nat} {s : uL} {x e : Wx} {a c r : Nat} {q : Role × Int} {ds : List rB} {fa : NH} {l : AB}
def aBX (m : Mo) (b : Int) : Int := WJ m b 1 + m.hold
end
section
variable {m : Mo} {b : Int} {h Q : Nat} {s : uL} {x x' e : Wx} {a c d r t : Nat} {p : Int} {q : Role × Int} {ds : List rB} {fa : NH} {l : AB} {ts : List GS}
open Classical in
def aAx (m : Mo) (b : Int) (h : Nat) : Nat := (h + 1) * m.uO.toNat + (aBX m b).toNat
def Z2 (m : Mo) : Nat := (m.jP.toNat + 1) * m.kX.toNat + m.uO.toNat - 1
end
def hX : List Str := [("_law_net" : Str), ("_law_model_here" : Str), ("_law_world_here" : Str), ("_law_acts" : Str), ("_law_lots" : Str)]
def jW (k : Nd) : MS :=
 (aI (b6 (U4 k.N ("turn" : Str) (JX k) 1 2 (mI k) (aB 0) aD (aA (aB 3) (aA (aB 4) aD))))
 (b6 (aH (FC k.b.k) 4 aL (aA (aB 1) (aA (aB 2) (aA (aB 3) (aA (aH (t7 k.b.k) 1 aL (aA (aB 4) aD)) aD)))))))
def j3 (k : Nd) : MF := bM (jW k) hX
def Q7 (h : Nat) (s : uL) (v : Nat) : List Nat := (List.range h).filter fun c => s.living.getD c 0 == 1 && s.parts.getD c 0 == (v : Int)
section
variable {k : Nd} {m : Mo} {b : Int} {h n0 p q S N TT Q i a c r : Nat} {ss : List D} {ns : List (List D)} {w w' w0 : W} {x : Wx} {P : D → W → Prop} {PF : Fl → W → Prop} {ds : List rB} {ls : List LQ} {dd ff : D}
theorem e6 (s : uL) : atI [r7 s.living, r7 s.parts, r7 s.downs, .tup (s.bV.map r7), .tup (s.b8.map aAH), .tup (s.eU.map WN), .tup (s.iY.map WZ), .tup (s.tables.map r7), .tup (s.asks.map Pc.pairD)] 6 = some (.tup (s.iY.map WZ)) := rfl
end
end Lw
namespace Pc
open PySem PySem.Spec PyProof.Rows L2
def TX {α : Type} (r : Res α) (P : XD → W → Prop) : Prop := match r with
 | .sW x w => P x w
 | _ => False
section
variable {α β : Type} {r r' : Res α} {f f' : α → W → Res β} {P : α → W → Prop} {PX : XD → W → Prop} {σ : Sg} {w : W} {a b a' b' : MS} {e e' : ME} {g : MG} {t : MT} {m m' : MF} {PF : Fl → W → Prop} {PD : D → W → Prop} {N : List Str} {ds : List D}
theorem TX.bind (h : T r fun a w => TX (f a w) PX) : TX (r.bind f) PX := by
 obtain ⟨a, w, e, p⟩ := h.ex
 rw [e]
 exact p
theorem TX.j8 (h : TX r PX) : TX (r.bind f) PX := by
 cases r with
 | sW x w => exact h
 | ok a w => exact h.elim
 | bad => exact h.elim
theorem TX.mono {PX' : XD → W → Prop} (h : TX r PX) (k : ∀ x w, PX x w → PX' x w) : TX r PX' := by
 cases r with
 | sW x w => exact k x w h
 | ok a w => exact h.elim
 | bad => exact h.elim
theorem XW (h : T (a σ w) fun f w1 => ∃ σ1, f = .nx σ1 ∧ TX (b σ1 w1) PX) : TX (aI a b σ w) PX :=
 TX.bind (h.mono fun f w1 _ ⟨σ1, e, q⟩ => by subst e; exact q)
theorem K8 (h : TX (a σ w) PX) : TX (aI a b σ w) PX := TX.j8 h
theorem PM (h : TX (e σ w) PX) : TX (b6 e σ w) PX := TX.j8 h
theorem WY (h : T (t σ w) fun c w1 => TX ((if c = true then a else b) σ w1) PX) : TX (dE t a b σ w) PX :=
 TX.bind (h.mono fun c w1 _ q => by cases c <;> exact q)
theorem SO (h : TX (a (begin N ds) w) PX) : TX (bM a N ds w) PX := TX.j8 h
theorem E4 {C : Addr} {z : Str} (h : T (e σ w) fun d w1 => PX ⟨.ref C, some [(z, d)]⟩ w1) : TX (uT C z e σ w) PX := TX.bind h
theorem TR {n : Nat} {gd : List D → List D → List D} {ma : MA} (h : T (ma σ w) fun xs w1 => xs.length = n ∧ TX (m (gd xs []) w1) PX) : TX (aH m n gd ma σ w) PX :=
 TX.bind (h.mono fun xs w1 _ ⟨e, q⟩ => by rw [if_pos e]; exact q)
theorem CF {it : jN} (Inv : Nat → Sg → W → Prop) {n : Nat} (hn : n < it.xs.length) (ok : ∀ i σ w, Inv i σ w → it.ok w)
  (step : ∀ i x σ w, i < n → it.xs[i]? = some x → Inv i σ w → T (g x σ w) fun σ1 w1 => T (a σ1 w1) (Lb.Turn (Inv (i + 1)) fun _ _ => False))
  (last : ∀ x σ w, it.xs[n]? = some x → Inv n σ w → T (g x σ w) fun σ1 w1 => TX (a σ1 w1) PX) :
  ∀ (j i : Nat) (σ : Sg) (w : W), i + j = n → Inv i σ w → TX (forL it g a (it.xs.drop i) σ w) PX
 | 0, i, σ, w, e, hI => by
  have e : i = n := by omega
  subst e
  rw [List.drop_eq_getElem_cons hn]
  unfold forL
  rw [if_pos (ok _ _ _ hI)]
  exact TX.bind ((last _ σ w (bg hn) hI).mono fun σ1 w1 _ q => TX.j8 q)
 | j + 1, i, σ, w, e, hI => by
  have hi : i < it.xs.length := by omega
  rw [List.drop_eq_getElem_cons hi]
  unfold forL
  rw [if_pos (ok _ _ _ hI)]
  refine TX.bind ((step i _ σ w (by omega) (bg hi) hI).mono fun σ1 w1 _ q => TX.bind (q.mono fun f w2 _ q2 => ?_))
  cases f with
  | nx s => exact CF Inv hn ok step last j (i + 1) s w2 (by omega) q2
  | ct s => exact CF Inv hn ok step last j (i + 1) s w2 (by omega) q2
  | bk s => exact q2.elim
  | rt d => exact q2.elim
theorem YZ {mi : MI} (h : T (mi σ w) fun it w1 => TX (forL it g a it.xs σ w1) PX) : TX (dR mi g a σ w) PX := TX.bind h
theorem UK {it : jN} (Inv : Nat → Sg → W → Prop) (n : Nat) (hn : n < it.xs.length) (ok : ∀ i σ w, Inv i σ w → it.ok w) (init : Inv 0 σ w)
  (step : ∀ i x σ w, i < n → it.xs[i]? = some x → Inv i σ w → T (g x σ w) fun σ1 w1 => T (a σ1 w1) (Lb.Turn (Inv (i + 1)) fun _ _ => False))
  (last : ∀ x σ w, it.xs[n]? = some x → Inv n σ w → T (g x σ w) fun σ1 w1 => TX (a σ1 w1) PX) : TX (forL it g a it.xs σ w) PX := by
 have := CF Inv hn ok step last n 0 σ w (by omega) init
 rw [List.drop_zero] at this
 exact this
theorem R5 {l : List (Addr × Bool)} {i : Nat} {ms : XD → MS} (h : T (a σ w) PF) : T (IC a l i ms σ w) PF := by
 obtain ⟨f, w1, e, p⟩ := h.ex
 unfold IC
 rw [e]
 exact T.of rfl p
theorem SD {l : List (Addr × Bool)} {i : Nat} {ms : XD → MS} (h : TX (a σ w) fun x w1 => kmL l x.cls = some true ∧ T (ms x (forget σ) w1) fun f w2 => PF (unI i f) w2) : T (IC a l i ms σ w) PF := by
 unfold IC
 cases hr : a σ w with
 | ok f w1 => rw [hr] at h; exact h.elim
 | bad => rw [hr] at h; exact h.elim
 | sW x w1 =>
  rw [hr] at h
  obtain ⟨h1, h2⟩ := h
  obtain ⟨f, w2, e, p⟩ := h2.ex
  simp only [h1, e]
  exact T.of rfl p
end
end Pc
namespace Lw
open PySem PySem.Spec PyProof.Rows L2 Pc Lb
section
variable {w : W} {P : D → W → Prop} {PI : jN → W → Prop} {kvs : List (List Key × D)} {i a c d C : Nat}
theorem UG (h : w[i]? = some (.dT kvs)) : T (sF (.ref i) w) PI = PI ⟨kvs.map fun p => .tup (p.1.map gF), always⟩ (w.set i (.dG kvs)) := by
 have : sF (.ref i) w = .ok ⟨kvs.map fun p => .tup (p.1.map gF), always⟩ (w.set i (.dG kvs)) := by simp only [sF, h]
 rw [this, bZ]
theorem SM {m : ME} {σ : Sg} : T (qU m σ w) PI = T (m σ w) fun d w1 => T (sF d w1) PI := by
 unfold qU
 rw [bD]
end
end Lw
namespace Lb
open PySem PySem.Spec PyProof.Rows L2 Pc
section
variable {w : W} {P : D → W → Prop} {k : bN} {tS : Addr} {p h n : Nat} {m : Mo} {b : Int} {s : uL} {d : D}
def aA4 (m : Mo) : D → Bool
 | .int t => (decide (0 ≤ t) && decide (t ≤ 9)) && decide (t ∈ m.q8.map fun t => t.2.1)
 | _ => false
theorem m6 (hp : gI k w p m b) (o : MoB m h) (e : gH (n + 1) d = true) (hP : P (.bl (aA4 m d)) w) : T (lD k [.ref p, d] w) P := by
 have few := o.q8.few
 unfold lD oL
 rw [fH, wU]
 simp only [m3 0 9 e, zY, ah, aa, reduceCtorEq]
 cases d <;> simp only [aU, aA4, zY, ah, aa, reduceCtorEq] at hP ⊢ <;> first | exact hP | skip
 rename_i t
 by_cases hr : (decide (0 ≤ t) && decide (t ≤ 9)) = true
 ·rw [hr] at hP
  simp only [hr, Bool.true_and, QH hp, zY, ah, aa, reduceCtorEq] at hP ⊢
  refine ⟨QO _ (by rw [bq]; omega), ?_⟩
  refine kG (it := ⟨m.q8.map eR, always⟩) m.q8 eR (fun t => .int t.2.1) rfl trivial (fun t _ => ?_) ?_
  ·simp only [dJ, eR, zY, ah, aa, reduceCtorEq]
  have em : m.q8.map (fun t => D.int t.2.1) = (m.q8.map fun t => t.2.1).map D.int := by rw [List.map_map]; rfl
  rw [em]
  simp only [aCh, UQ, zY, ah, aa, reduceCtorEq]
  exact hP
 ·rw [Bool.not_eq_true] at hr
  rw [hr] at hP
  simp only [hr, Bool.false_and, zY, ah, aa, reduceCtorEq] at hP ⊢
  exact hP
end
end Lb
namespace Lw
open PySem PySem.Spec PyProof.Rows L2 Pc Lb
section
variable {w : W} {P : D → W → Prop} {PX : XD → W → Prop} {kn : Nd} {C C' : Addr} {p h q S N Q : Nat} {m : Mo} {b g l : Int} {x : Wx} {ds : List rB} {d ff : D} {rest : List D} {ss : List D} {ns : List (List D)} {fb : MF} {ls : List LQ}
theorem V3 {σ : Sg} {e : ME} (h : TX (e σ w) PX) : TX (a7 e σ w) PX := TX.j8 h
end
end Lw
namespace Lw
open PySem PySem.Spec PyProof.Rows L2 Pc Lb TL
def K3 (z : Str) : Prop := tl (reprText z) = 39 :: (tl z ++ [39]) ∧ 39 ∉ tl z
mutual
def eP : PyData → Prop
 | .int _ => True
 | .str z => K3 z
 | .tuple xs => SimPs xs
 | _ => False
def SimPs : List PyData → Prop
 | [] => True
 | x :: xs => eP x ∧ SimPs xs
end
def jF : List PyData → List Nat
 | [] => [41]
 | y :: t => 44 :: 32 :: (tl y.shown ++ jF t)
def j6 : List PyData → List Nat
 | [] => [41]
 | [x] => tl x.shown ++ [44, 41]
 | x :: y :: t => tl x.shown ++ (44 :: 32 :: (tl y.shown ++ jF t))
theorem BN : ∀ (x : PyData) (t : List PyData), joinL [44, 32] ((PyData.shownAll (x :: t)).map tl) ++ [41] = tl x.shown ++ jF t
 | x, [] => rfl
 | x, y :: t => by
  show (tl x.shown ++ ([44, 32] ++ joinL [44, 32] ((PyData.shownAll (y :: t)).map tl))) ++ [41] = _
  rw [bz, bz, BN y t]
  rfl
theorem uH (xs : List PyData) : tl (PyData.tuple xs).shown = 40 :: j6 xs := by
 have e : (PyData.tuple xs).shown = ("(" : Str) ++ Str.join ", " (PyData.shownAll xs) ++ (if (PyData.shownAll xs).length == 1 then ",)" else ")" : String) := by
  simp only [PyData.shown]
  rfl
 have e1 : tl ("(" : Str) = [40] := by decide +kernel
 have e2 : tl (", " : Str) = [44, 32] := by decide +kernel
 have e3 : tl (Str.ofString ",)") = [44, 41] := by decide +kernel
 have e4 : tl (Str.ofString ")") = [41] := by decide +kernel
 rw [e, tl_append, tl_append, tl_join, e1, e2]
 match xs with
 | [] => simp only [PyData.shownAll, List.length_nil, List.map_nil]; exact congrArg _ e4
 | [x] =>
  show ([40] ++ tl x.shown) ++ tl (Str.ofString ",)") = _
  rw [e3]; rfl
 | x :: y :: t =>
  show ([40] ++ joinL [44, 32] ((PyData.shownAll (x :: y :: t)).map tl)) ++ tl (Str.ofString ")") = _
  rw [e4, bz, BN]; rfl
theorem xH (n : Nat) : tl (PyData.int (Int.negSucc n)).shown = 45 :: numL (n + 1) := by
 have e : (PyData.int (Int.negSucc n)).shown = Str.ofString ("-" ++ toString ((n + 1 : Nat) : Int)) := by
  simp only [PyData.shown]
  rfl
 rw [e, tl_ofString, String.toList_append, List.map_append, ← tl_ofString, ← tl_ofString, tl_num]
 have : tl (Str.ofString "-") = [45] := by decide +kernel
 rw [this]
 rfl
theorem C9 (n : Nat) : tl (PyData.int (n : Nat)).shown = numL n := by
 simp only [PyData.shown]
 exact tl_num n
def Dl (r : List Nat) : Prop := r = [] ∨ (∃ t, r = 44 :: t) ∨ ∃ t, r = 41 :: t
theorem Y9 : ∀ (a b : List Nat) {r r' : List Nat}, (∀ c ∈ a, 48 ≤ c ∧ c ≤ 57) → (∀ c ∈ b, 48 ≤ c ∧ c ≤ 57) → Dl r → Dl r' → a ++ r = b ++ r' → a = b ∧ r = r'
 | [], [], r, r', _, _, _, _, h => ⟨rfl, h⟩
 | x :: a, y :: b, r, r', ha, hb, d, d', h => by
  rw [List.cons_append, List.cons_append] at h
  injection h with h1 h2
  obtain ⟨e1, e2⟩ := Y9 a b (fun c hc => ha c (bh _ hc)) (fun c hc => hb c (bh _ hc)) d d' h2
  exact ⟨by rw [h1, e1], e2⟩
 | x :: a, [], r, r', ha, _, _, d', h => by
  exfalso
  have hx := ha x (az ..)
  rw [List.nil_append] at h
  rcases d' with e | ⟨t, e⟩ | ⟨t, e⟩ <;> rw [e, List.cons_append] at h <;> injection h <;> omega
 | [], y :: b, r, r', _, hb, d, _, h => by
  exfalso
  have hy := hb y (az ..)
  rw [List.nil_append] at h
  rcases d with e | ⟨t, e⟩ | ⟨t, e⟩ <;> rw [e, List.cons_append] at h <;> injection h <;> omega
theorem marks : ∀ (a b : List Nat) {r r' : List Nat}, 39 ∉ a → 39 ∉ b → a ++ 39 :: r = b ++ 39 :: r' → a = b ∧ r = r'
 | [], [], _, _, _, _, h => ⟨rfl, by injection h⟩
 | x :: a, y :: b, r, r', ha, hb, h => by
  rw [List.cons_append, List.cons_append] at h
  injection h with h1 h2
  obtain ⟨e1, e2⟩ := marks a b (fun c => ha (bh _ c)) (fun c => hb (bh _ c)) h2
  exact ⟨by rw [h1, e1], e2⟩
 | x :: a, [], r, r', ha, _, h => by
  rw [List.cons_append, List.nil_append] at h
  injection h with h1 h2
  exact absurd (by rw [h1]; exact az ..) ha
 | [], y :: b, r, r', _, hb, h => by
  rw [List.cons_append, List.nil_append] at h
  injection h with h1 h2
  exact absurd (by rw [← h1]; exact az ..) hb
theorem uJ {z : Str} (h : K3 z) : tl (PyData.str z).shown = 39 :: (tl z ++ [39]) := by
 simp only [PyData.shown]
 exact h.1
theorem qS : ∀ (p : PyData), eP p → ∃ c l, tl p.shown = c :: l ∧ ((∃ n : Nat, p = .int (n : Nat)) ∧ (48 ≤ c ∧ c ≤ 57) ∨ (∃ n, p = .int (Int.negSucc n)) ∧ c = 45 ∨ (∃ z, p = .str z ∧ K3 z) ∧ c = 39 ∨ (∃ xs, p = .tuple xs ∧ SimPs xs) ∧ c = 40)
 | .int (Int.ofNat n), _ => by
  have e : tl (PyData.int (Int.ofNat n)).shown = numL n := C9 n
  obtain ⟨c, l, h⟩ := List.exists_cons_of_ne_nil (numL_ne n)
  refine ⟨c, l, e.trans h, .inl ⟨⟨n, rfl⟩, ?_⟩⟩
  have := numL_digits n c (by rw [h]; exact az ..)
  omega
 | .int (Int.negSucc n), _ => ⟨45, _, xH n, .inr (.inl ⟨⟨n, rfl⟩, rfl⟩)⟩
 | .str z, h => by
  rw [eP] at h
  exact ⟨39, _, uJ h, .inr (.inr (.inl ⟨⟨z, rfl, h⟩, rfl⟩))⟩
 | .tuple xs, h => by
  rw [eP] at h
  exact ⟨40, _, uH xs, .inr (.inr (.inr ⟨⟨xs, rfl, h⟩, rfl⟩))⟩
 | .none, h => by simp [eP] at h
 | .bool _, h => by simp [eP] at h
 | .list _, h => by simp [eP] at h
 | .dict _, h => by simp [eP] at h
theorem Dl.tail : ∀ (t : List PyData) (r : List Nat), Dl (jF t ++ r)
 | [], r => .inr (.inr ⟨r, rfl⟩)
 | y :: t, r => .inr (.inl ⟨_, rfl⟩)
theorem qO {p : PyData} (h : eP p) {s u : List Nat} (e : tl p.shown ++ s = 41 :: u) : False := by
 obtain ⟨c, l, e1, hc⟩ := qS p h
 rw [e1, List.cons_append] at e
 injection e with e2 _
 rcases hc with ⟨_, hc⟩ | ⟨_, hc⟩ | ⟨_, hc⟩ | ⟨_, hc⟩ <;> omega
mutual
theorem kL : ∀ (p : PyData), eP p → ∀ (q : PyData), eP q → ∀ (r r' : List Nat), Dl r → Dl r' → tl p.shown ++ r = tl q.shown ++ r' → p = q ∧ r = r'
 | .int (Int.ofNat n), hp, q, hq, r, r', d, d', h => by
  have e : tl (PyData.int (Int.ofNat n)).shown = numL n := C9 n
  have dg : ∀ n c, c ∈ numL n → 48 ≤ c ∧ c ≤ 57 := fun n c hc => by
   have := numL_digits n c hc
   omega
  obtain ⟨c', l', e', hc'⟩ := qS (.int (Int.ofNat n)) hp
  obtain ⟨c, l, eq, hc⟩ := qS q hq
  have hcc : c' = c := by rw [e', eq, List.cons_append, List.cons_append] at h; injection h
  have h48 : 48 ≤ c' ∧ c' ≤ 57 := dg n c' (by rw [← e, e']; exact az ..)
  rcases hc with ⟨⟨k, rfl⟩, _⟩ | ⟨_, hc⟩ | ⟨_, hc⟩ | ⟨_, hc⟩
  ·rw [e, C9] at h
   obtain ⟨e1, e2⟩ := Y9 _ _ (dg n) (dg k) d d' h
   rw [numL_inj e1]
   exact ⟨rfl, e2⟩
  all_goals exfalso; omega
 | .int (Int.negSucc n), hp, q, hq, r, r', d, d', h => by
  have dg : ∀ n c, c ∈ numL n → 48 ≤ c ∧ c ≤ 57 := fun n c hc => by
   have := numL_digits n c hc
   omega
  obtain ⟨c, l, eq, hc⟩ := qS q hq
  have hcc : 45 = c := by rw [xH, eq, List.cons_append, List.cons_append] at h; injection h
  rcases hc with ⟨_, hc⟩ | ⟨⟨k, rfl⟩, _⟩ | ⟨_, hc⟩ | ⟨_, hc⟩
  ·omega
  ·rw [xH, xH, List.cons_append, List.cons_append] at h
   injection h with _ h
   obtain ⟨e1, e2⟩ := Y9 _ _ (dg (n + 1)) (dg (k + 1)) d d' h
   have := numL_inj e1
   rw [show n = k by omega]
   exact ⟨rfl, e2⟩
  all_goals exfalso; omega
 | .str z, hp, q, hq, r, r', d, d', h => by
  rw [eP] at hp
  obtain ⟨c, l, eq, hc⟩ := qS q hq
  have hcc : 39 = c := by rw [uJ hp, eq, List.cons_append, List.cons_append] at h; injection h
  rcases hc with ⟨_, hc⟩ | ⟨_, hc⟩ | ⟨⟨k, rfl, hk⟩, _⟩ | ⟨_, hc⟩
  ·omega
  ·omega
  ·rw [uJ hp, uJ hk, List.cons_append, List.cons_append] at h
   injection h with _ h
   rw [bz, bz] at h
   obtain ⟨e1, e2⟩ := marks _ _ hp.2 hk.2 h
   rw [ext_tl e1]
   exact ⟨rfl, e2⟩
  ·omega
 | .tuple xs, hp, q, hq, r, r', d, d', h => by
  rw [eP] at hp
  obtain ⟨c, l, eq, hc⟩ := qS q hq
  have hcc : 40 = c := by rw [uH, eq, List.cons_append, List.cons_append] at h; injection h
  rcases hc with ⟨_, hc⟩ | ⟨_, hc⟩ | ⟨_, hc⟩ | ⟨⟨ys, rfl, hk⟩, _⟩
  ·omega
  ·omega
  ·omega
  ·rw [uH, uH, List.cons_append, List.cons_append] at h
   injection h with _ h
   obtain ⟨e1, e2⟩ := tup_key xs hp ys hk r r' h
   exact ⟨by rw [e1], e2⟩
 | .none, h, _, _, _, _, _, _, _ => by simp [eP] at h
 | .bool _, h, _, _, _, _, _, _, _ => by simp [eP] at h
 | .list _, h, _, _, _, _, _, _, _ => by simp [eP] at h
 | .dict _, h, _, _, _, _, _, _, _ => by simp [eP] at h
theorem tup_key : ∀ (xs : List PyData), SimPs xs → ∀ (ys : List PyData), SimPs ys → ∀ (r r' : List Nat), j6 xs ++ r = j6 ys ++ r' → xs = ys ∧ r = r'
 | [], hx, [], hy, r, r', h => ⟨rfl, by simp only [j6, List.cons_append, List.nil_append] at h; injection h⟩
 | [], hx, [y], hy, r, r', h => by
  simp only [SimPs] at hy
  simp only [j6, List.cons_append, List.nil_append, bz] at h
  exact (qO hy.1 h.symm).elim
 | [], hx, y :: y2 :: ys, hy, r, r', h => by
  simp only [SimPs] at hy
  simp only [j6, List.cons_append, List.nil_append, bz] at h
  exact (qO hy.1 h.symm).elim
 | [x], hx, [], hy, r, r', h => by
  simp only [SimPs] at hx
  simp only [j6, List.cons_append, List.nil_append, bz] at h
  exact (qO hx.1 h).elim
 | [x], hx, [y], hy, r, r', h => by
  simp only [SimPs] at hx hy
  simp only [j6, List.cons_append, List.nil_append, bz] at h
  obtain ⟨e1, e2⟩ := kL x hx.1 y hy.1 _ _ (.inr (.inl ⟨_, rfl⟩)) (.inr (.inl ⟨_, rfl⟩)) h
  injection e2 with _ e2
  injection e2 with _ e2
  exact ⟨by rw [e1], e2⟩
 | [x], hx, y :: y2 :: ys, hy, r, r', h => by
  simp only [SimPs] at hx hy
  simp only [j6, List.cons_append, List.nil_append, bz] at h
  obtain ⟨e1, e2⟩ := kL x hx.1 y hy.1 _ _ (.inr (.inl ⟨_, rfl⟩)) (.inr (.inl ⟨_, rfl⟩)) h
  injection e2 with _ e2
  injection e2 with e2 _
  omega
 | x :: x2 :: xs, hx, [], hy, r, r', h => by
  simp only [SimPs] at hx
  simp only [j6, List.cons_append, List.nil_append, bz] at h
  exact (qO hx.1 h).elim
 | x :: x2 :: xs, hx, [y], hy, r, r', h => by
  simp only [SimPs] at hx hy
  simp only [j6, List.cons_append, List.nil_append, bz] at h
  obtain ⟨e1, e2⟩ := kL x hx.1 y hy.1 _ _ (.inr (.inl ⟨_, rfl⟩)) (.inr (.inl ⟨_, rfl⟩)) h
  injection e2 with _ e2
  injection e2 with e2 _
  omega
 | x :: x2 :: xs, hx, y :: y2 :: ys, hy, r, r', h => by
  simp only [SimPs] at hx hy
  simp only [j6, List.cons_append, List.nil_append, bz] at h
  obtain ⟨e1, e2⟩ := kL x hx.1 y hy.1 _ _ (.inr (.inl ⟨_, rfl⟩)) (.inr (.inl ⟨_, rfl⟩)) h
  injection e2 with _ e2
  injection e2 with _ e2
  obtain ⟨e3, e4⟩ := kL x2 hx.2.1 y2 hy.2.1 _ _ (Dl.tail _ _) (Dl.tail _ _) e2
  obtain ⟨e5, e6⟩ := tail_key xs hx.2.2 ys hy.2.2 r r' e4
  exact ⟨by rw [e1, e3, e5], e6⟩
theorem tail_key : ∀ (xs : List PyData), SimPs xs → ∀ (ys : List PyData), SimPs ys → ∀ (r r' : List Nat), jF xs ++ r = jF ys ++ r' → xs = ys ∧ r = r'
 | [], _, [], _, r, r', h => ⟨rfl, by simp only [jF, List.cons_append, List.nil_append] at h; injection h⟩
 | [], _, y :: ys, _, r, r', h => by
  simp only [jF, List.cons_append, List.nil_append] at h
  injection h with h _
  omega
 | x :: xs, _, [], _, r, r', h => by
  simp only [jF, List.cons_append, List.nil_append] at h
  injection h with h _
  omega
 | x :: xs, hx, y :: ys, hy, r, r', h => by
  simp only [SimPs] at hx hy
  simp only [jF, List.cons_append, List.nil_append, bz] at h
  injection h with _ h
  injection h with _ h
  obtain ⟨e1, e2⟩ := kL x hx.1 y hy.1 _ _ (Dl.tail _ _) (Dl.tail _ _) h
  obtain ⟨e3, e4⟩ := tail_key xs hx.2 ys hy.2 r r' e2
  exact ⟨by rw [e1, e3], e4⟩
end
mutual
theorem VH : ∀ (p : PyData), eP p → ∀ (q : PyData), eP q → (PyData.eqv p q = true ↔ p = q)
 | .int i, _, .int j, _ => by simp [PyData.eqv]
 | .str x, _, .str y, _ => by simp [PyData.eqv]
 | .tuple xs, hp, .tuple ys, hq => by
  rw [eP] at hp hq
  rw [PyData.eqv, eqvs_sim xs hp ys hq]
  simp
 | .int i, _, .str y, _ => by simp [PyData.eqv]
 | .int i, _, .tuple y, _ => by simp [PyData.eqv]
 | .str i, _, .int y, _ => by simp [PyData.eqv]
 | .str i, _, .tuple y, _ => by simp [PyData.eqv]
 | .tuple i, _, .int y, _ => by simp [PyData.eqv]
 | .tuple i, _, .str y, _ => by simp [PyData.eqv]
 | .none, h, _, _ => by simp [eP] at h
 | .bool _, h, _, _ => by simp [eP] at h
 | .list _, h, _, _ => by simp [eP] at h
 | .dict _, h, _, _ => by simp [eP] at h
 | _, _, .none, h => by simp [eP] at h
 | _, _, .bool _, h => by simp [eP] at h
 | _, _, .list _, h => by simp [eP] at h
 | _, _, .dict _, h => by simp [eP] at h
theorem eqvs_sim : ∀ (xs : List PyData), SimPs xs → ∀ (ys : List PyData), SimPs ys → (PyData.eqvAll xs ys = true ↔ xs = ys)
 | [], _, [], _ => by simp [PyData.eqvAll]
 | [], _, y :: ys, _ => by simp [PyData.eqvAll]
 | x :: xs, _, [], _ => by simp [PyData.eqvAll]
 | x :: xs, hx, y :: ys, hy => by
  simp only [SimPs] at hx hy
  rw [PyData.eqvAll, ak, VH x hx.1 y hy.1, eqvs_sim xs hx.2 ys hy.2, List.cons.injEq]
end
mutual
def eT : D → Prop
 | .int _ => True
 | .str z => K3 z
 | .tup xs => SimDs xs
 | _ => False
def SimDs : List D → Prop
 | [] => True
 | x :: xs => eT x ∧ SimDs xs
end
mutual
theorem CS : ∀ (d : D) {f : Nat → Option PyData} {p : PyData}, eT d → d.gN f = some p → eP p
 | .int i, f, p, _, h1 => by
  simp only [D.gN, aj] at h1
  subst h1
  simp [eP]
 | .str i, f, p, s1, h1 => by
  simp only [D.gN, aj] at h1
  simp only [eT] at s1
  subst h1
  simp [eP, s1]
 | .tup i, f, p, s1, h1 => by
  simp only [D.gN, ao] at h1
  obtain ⟨ps, h1, rfl⟩ := h1
  simp only [eT] at s1
  simp only [eP]
  exact simps_of i s1 h1
 | .non, _, _, h, _ => by simp [eT] at h
 | .bl _, _, _, h, _ => by simp [eT] at h
 | .ty _, _, _, h, _ => by simp [eT] at h
 | .con _, _, _, h, _ => by simp [eT] at h
 | .lst _, _, _, h, _ => by simp [eT] at h
 | .nG _, _, _, h, _ => by simp [eT] at h
 | .kK _, _, _, h, _ => by simp [eT] at h
 | .G1 _ _, _, _, h, _ => by simp [eT] at h
 | .ref _, _, _, h, _ => by simp [eT] at h
theorem simps_of : ∀ (xs : List D) {f : Nat → Option PyData} {ps : List PyData}, SimDs xs → D.pysR f xs = some ps → SimPs ps
 | [], f, ps, _, h1 => by
  simp only [D.pysR, aj] at h1
  subst h1
  simp [SimPs]
 | x :: xs, f, ps, s1, h1 => by
  simp only [D.pysR] at h1
  split at h1
  ·rename_i p ps e1 e2
   cases h1
   simp only [SimDs] at s1
   simp only [SimPs]
   exact ⟨CS x s1.1 e1, simps_of xs s1.2 e2⟩
  ·cases h1
end
mutual
theorem XH : ∀ (d e : D) {f g : Nat → Option PyData} {p q : PyData}, eT d → eT e → d.gN f = some p → e.gN g = some q → eP p ∧ eP q ∧ (p = q ↔ d = e)
 | .int i, .int j, f, g, p, q, _, _, h1, h2 => by
  simp only [D.gN, aj] at h1 h2
  subst h1 h2
  simp [eP]
 | .str i, .str j, f, g, p, q, s1, s2, h1, h2 => by
  simp only [D.gN, aj] at h1 h2
  simp only [eT] at s1 s2
  subst h1 h2
  simp [eP, s1, s2]
 | .tup i, .tup j, f, g, p, q, s1, s2, h1, h2 => by
  simp only [D.gN, ao] at h1 h2
  obtain ⟨ps, h1, rfl⟩ := h1
  obtain ⟨qs, h2, rfl⟩ := h2
  simp only [eT] at s1 s2
  obtain ⟨a1, a2, a3⟩ := pys_sim i j s1 s2 h1 h2
  simp only [eP, PyData.tuple.injEq, D.tup.injEq]
  exact ⟨a1, a2, a3⟩
 | .int i, .str j, f, g, p, q, s1, s2, h1, h2 => by
  simp only [D.gN, aj] at h1 h2
  simp only [eT] at s1 s2
  subst h1 h2
  simp [eP, s2]
 | .str i, .int j, f, g, p, q, s1, s2, h1, h2 => by
  simp only [D.gN, aj] at h1 h2
  simp only [eT] at s1 s2
  subst h1 h2
  simp [eP, s1]
 | .tup i, .int j, f, g, p, q, s1, s2, h1, h2 => by
  simp only [D.gN, aj, ao] at h1 h2
  obtain ⟨ps, h1, rfl⟩ := h1
  subst h2
  simp only [eT] at s1 s2
  have a1 := simps_of i s1 h1
  simp [eP, a1]
 | .tup i, .str j, f, g, p, q, s1, s2, h1, h2 => by
  simp only [D.gN, aj, ao] at h1 h2
  obtain ⟨ps, h1, rfl⟩ := h1
  subst h2
  simp only [eT] at s1 s2
  have a1 := simps_of i s1 h1
  simp [eP, a1, s2]
 | .int i, .tup j, f, g, p, q, s1, s2, h1, h2 => by
  simp only [D.gN, aj, ao] at h1 h2
  obtain ⟨ps, h2, rfl⟩ := h2
  subst h1
  simp only [eT] at s1 s2
  have a1 := simps_of j s2 h2
  simp [eP, a1]
 | .str i, .tup j, f, g, p, q, s1, s2, h1, h2 => by
  simp only [D.gN, aj, ao] at h1 h2
  obtain ⟨ps, h2, rfl⟩ := h2
  subst h1
  simp only [eT] at s1 s2
  have a1 := simps_of j s2 h2
  simp [eP, a1, s1]
 | .non, _, _, _, _, _, h, _, _, _ => by simp [eT] at h
 | .bl _, _, _, _, _, _, h, _, _, _ => by simp [eT] at h
 | .ty _, _, _, _, _, _, h, _, _, _ => by simp [eT] at h
 | .con _, _, _, _, _, _, h, _, _, _ => by simp [eT] at h
 | .lst _, _, _, _, _, _, h, _, _, _ => by simp [eT] at h
 | .nG _, _, _, _, _, _, h, _, _, _ => by simp [eT] at h
 | .kK _, _, _, _, _, _, h, _, _, _ => by simp [eT] at h
 | .G1 _ _, _, _, _, _, _, h, _, _, _ => by simp [eT] at h
 | .ref _, _, _, _, _, _, h, _, _, _ => by simp [eT] at h
 | _, .non, _, _, _, _, _, h, _, _ => by simp [eT] at h
 | _, .bl _, _, _, _, _, _, h, _, _ => by simp [eT] at h
 | _, .ty _, _, _, _, _, _, h, _, _ => by simp [eT] at h
 | _, .con _, _, _, _, _, _, h, _, _ => by simp [eT] at h
 | _, .lst _, _, _, _, _, _, h, _, _ => by simp [eT] at h
 | _, .nG _, _, _, _, _, _, h, _, _ => by simp [eT] at h
 | _, .kK _, _, _, _, _, _, h, _, _ => by simp [eT] at h
 | _, .G1 _ _, _, _, _, _, _, h, _, _ => by simp [eT] at h
 | _, .ref _, _, _, _, _, _, h, _, _ => by simp [eT] at h
theorem pys_sim : ∀ (xs ys : List D) {f g : Nat → Option PyData} {ps qs : List PyData}, SimDs xs → SimDs ys → D.pysR f xs = some ps → D.pysR g ys = some qs → SimPs ps ∧ SimPs qs ∧ (ps = qs ↔ xs = ys)
 | [], [], f, g, ps, qs, s1, s2, h1, h2 => by
  simp only [D.pysR, aj] at h1 h2
  subst h1 h2
  simp [SimPs]
 | x :: xs, [], f, g, ps, qs, s1, s2, h1, h2 => by
  simp only [D.pysR, aj] at h1 h2
  subst h2
  split at h1
  ·rename_i p ps e1 e2
   cases h1
   simp only [SimDs] at s1
   have a1 := CS x s1.1 e1
   have b1 := simps_of xs s1.2 e2
   simp [SimPs, a1, b1]
  ·cases h1
 | [], y :: ys, f, g, ps, qs, s1, s2, h1, h2 => by
  simp only [D.pysR, aj] at h1 h2
  subst h1
  split at h2
  ·rename_i p ps e1 e2
   cases h2
   simp only [SimDs] at s2
   have a1 := CS y s2.1 e1
   have b1 := simps_of ys s2.2 e2
   simp [SimPs, a1, b1]
  ·cases h2
 | x :: xs, y :: ys, f, g, ps, qs, s1, s2, h1, h2 => by
  simp only [D.pysR] at h1 h2
  split at h1
  ·split at h2
   ·rename_i p ps e1 e2 _ _ q qs e3 e4
    cases h1
    cases h2
    simp only [SimDs] at s1 s2
    obtain ⟨a1, a2, a3⟩ := XH x y s1.1 s2.1 e1 e3
    obtain ⟨b1, b2, b3⟩ := pys_sim xs ys s1.2 s2.2 e2 e4
    exact ⟨⟨a1, b1⟩, ⟨a2, b2⟩, by rw [List.cons.injEq, List.cons.injEq, a3, b3]⟩
   ·cases h2
  ·cases h1
end
section
variable {w : W} {d e : D} {u v : PyData}
theorem SimDs.all : ∀ {xs : List D}, (∀ x ∈ xs, eT x) → SimDs xs
 | [], _ => by simp only [SimDs]
 | x :: xs, h => by
  simp only [SimDs]
  exact ⟨h x (az ..), SimDs.all fun y hy => h y (bh _ hy)⟩
end
section
variable {w w' : W} {P : D → W → Prop} {k : Nd} {q p S N q2 p2 S2 N2 h j n n2 d d2 Q : Nat} {ss ss2 : List D} {cur cur2 : D} {ns ns2 : List (List D)} {g l g2 l2 b : Int} {m : Mo} {xs ys : List D} {x y : D} {u v u2 v2 : PyData} {t : GS} {ts ts2 : List GS} {X : Wx}
theorem M9 {d : D} {p : PyData} (e : d.py w = some p) (hs : SeqAt.shaped p = true) : rA d d w = some true := by
 unfold rA pO
 rw [e]
 simp only [hs, and_self, ah]
 rw [SeqAt.eqv_refl p (Bool.and_eq_true_iff.mp hs).1]
end
mutual
/-- plain things, empty dicts among them -/
def f7 : PyData → Bool
 | .none | .bool _ => true
 | .int i => decide (i.natAbs < 10 ^ 40)
 | .str x => PyData.strOk (reprText x) && PyData.strOk x && PyData.leavesShort 60 (.str x) && decide (x.length ≤ 100)
 | .list xs | .tuple xs => plainXs xs
 | .dict kvs => kvs.isEmpty
def plainXs : List PyData → Bool
 | [] => true
 | x :: xs => f7 x && plainXs xs
end
mutual
theorem CA : ∀ p : PyData, f7 p = true → PyData.strOk p.shown = true
 | .none, _ => jU _
 | .bool b, _ => by cases b <;> exact jU _
 | .int i, _ => jU _
 | .str x, h => by
  simp only [f7, ak] at h
  exact h.1.1.1
 | .list xs, h => by
  rw [f7] at h
  show PyData.strOk (textFrom 0 "[" (PyData.shownAll xs) ++ "]") = true
  rw [mS, pI _ _ _ (jU _) (plainXs_shown xs h), jU]
  rfl
 | .tuple xs, h => by
  rw [f7] at h
  show PyData.strOk (tupleText (PyData.shownAll xs)) = true
  unfold tupleText
  rw [mS, mS, jU, D1 _ (jU _) _ (plainXs_shown xs h)]
  split <;> rw [jU] <;> rfl
 | .dict [], _ => by decide +kernel
 | .dict (_ :: _), h => by simp [f7] at h
theorem plainXs_shown : ∀ ps : List PyData, plainXs ps = true → ∀ t ∈ PyData.shownAll ps, PyData.strOk t = true
 | [], _, t, ht => by simp [PyData.shownAll] at ht
 | p :: ps, h, t, ht => by
  simp only [plainXs, ak] at h
  simp only [PyData.shownAll, br] at ht
  rcases ht with rfl | ht
  ·exact CA p h.1
  ·exact plainXs_shown ps h.2 t ht
end
mutual
theorem IU : ∀ p : PyData, f7 p = true → p.leavesShort 60 = true ∧ p.showable = true
 | .none, _ => by simp [PyData.leavesShort, PyData.showable]
 | .bool b, _ => by simp [PyData.leavesShort, PyData.showable]
 | .int i, h => by
  simp only [f7, au] at h
  exact ⟨BS h, EE h⟩
 | .str x, h => by
  simp only [f7, ak] at h
  exact ⟨h.1.2, by simp [PyData.showable]⟩
 | .list xs, h => by
  rw [f7] at h
  have := plainXs_all xs h
  simp only [PyData.leavesShort, PyData.showable]
  exact this
 | .tuple xs, h => by
  rw [f7] at h
  have := plainXs_all xs h
  simp only [PyData.leavesShort, PyData.showable]
  exact this
 | .dict [], _ => by decide +kernel
 | .dict (_ :: _), h => by simp [f7] at h
theorem plainXs_all : ∀ p : List PyData, plainXs p = true → PyData.leavesShortAll 60 p = true ∧ PyData.showableAll p = true
 | [], _ => by simp [PyData.leavesShortAll, PyData.showableAll]
 | p :: ps, h => by
  simp only [plainXs, ak] at h
  obtain ⟨a1, a2⟩ := IU p h.1
  obtain ⟨b1, b2⟩ := plainXs_all ps h.2
  simp only [PyData.leavesShortAll, PyData.showableAll, a1, a2, b1, b2]
  simp
end
mutual
theorem N9 : ∀ p : PyData, fK p = true → f7 p = true
 | .none, _ => rfl
 | .bool b, _ => rfl
 | .int i, h => by rw [fK] at h; rw [f7]; exact h
 | .str x, h => by rw [fK] at h; rw [f7]; exact h
 | .list xs, h => by rw [fK] at h; rw [f7]; exact plainXs_of xs h
 | .tuple xs, h => by rw [fK] at h; rw [f7]; exact plainXs_of xs h
 | .dict _, h => by simp [fK] at h
theorem plainXs_of : ∀ p : List PyData, plainPs p = true → plainXs p = true
 | [], _ => rfl
 | p :: ps, h => by
  simp only [plainPs, ak] at h
  simp only [plainXs, N9 p h.1, plainXs_of ps h.2, Bool.and_self]
end
mutual
theorem XJ {f g : Nat → Option PyData} (hfg : ∀ i p, f i = some p → g i = some p) : ∀ (d : D) {p : PyData}, d.gN f = some p → d.gN g = some p
 | .non, _, h => by simpa only [D.gN] using h
 | .bl _, _, h => by simpa only [D.gN] using h
 | .int _, _, h => by simpa only [D.gN] using h
 | .str _, _, h => by simpa only [D.gN] using h
 | .ty _, _, h => by simp [D.gN] at h
 | .con _, _, h => by simp [D.gN] at h
 | .G1 _ _, _, h => by simp [D.gN] at h
 | .ref i, _, h => by
  simp only [D.gN] at h ⊢
  exact hfg i _ h
 | .tup xs, _, h => by
  simp only [D.gN, ao] at h ⊢
  obtain ⟨ps, h1, h2⟩ := h
  exact ⟨ps, pysR_le hfg xs h1, h2⟩
 | .kK xs, _, h => by
  simp only [D.gN, ao] at h ⊢
  obtain ⟨ps, h1, h2⟩ := h
  exact ⟨ps, pysR_le hfg xs h1, h2⟩
 | .lst xs, _, h => by
  simp only [D.gN, ao] at h ⊢
  obtain ⟨ps, h1, h2⟩ := h
  exact ⟨ps, pysR_le hfg xs h1, h2⟩
 | .nG xs, _, h => by
  simp only [D.gN, ao] at h ⊢
  obtain ⟨ps, h1, h2⟩ := h
  exact ⟨ps, pysR_le hfg xs h1, h2⟩
theorem pysR_le {f g : Nat → Option PyData} (hfg : ∀ i p, f i = some p → g i = some p) : ∀ (ds : List D) {ps : List PyData}, D.pysR f ds = some ps → D.pysR g ds = some ps
 | [], _, h => by simpa only [D.pysR] using h
 | d :: ds, _, h => by
  simp only [D.pysR] at h ⊢
  split at h
  ·rename_i p ps e1 e2
   rw [XJ hfg d e1, pysR_le hfg ds e2]
   exact h
  ·cases h
end
end Lw
namespace Lw
open PySem PySem.Spec PyProof.Rows L2 Pc Lb
def XC (h : Nat) (s : uL) (a v : Nat) : List Nat := (Q7 h s v).filter fun c => Z5 (LC s a c)
inductive Mark where
 | one (a v : Nat) | two (a v c d : Nat)
def Mark.a : Mark → Nat
 | .one a _ => a
 | .two a _ _ _ => a
def Mark.v : Mark → Nat
 | .one _ v => v
 | .two _ v _ _ => v
def Mark.key : Mark → List Key
 | .one a v => [.inl (a : Nat), .inl (v : Nat)]
 | .two a v c d => [.inl (a : Nat), .inl (v : Nat), .inl (c : Nat), .inl (d : Nat)]
def Mark.hold (h : Nat) (s : uL) : Mark → Prop
 | .one a v => Q7 h s v ≠ [] ∧ XC h s a v = []
 | .two a v c d => c ∈ XC h s a v ∧ d ∈ XC h s a v ∧ c ≠ d
section
variable {m : Mo} {b : Int} {h Q : Nat} {x : Wx} {ts : List GS} {u : GS} {a v c d t : Nat} {mk : Mark} {s1 s2 : uL} {ds : List rB} {ls : List LQ}
def Mark.most (m : Mo) (b : Int) (h : Nat) : Mark → Nat
 | .one _ _ => aAx m b h
 | .two _ _ _ _ => Z2 m
end
def SX : MS :=
 (aI (aP (aE bE (aE aZ (aB 0) (eC (.str ("at" : Str)))) (eC (.int 1))) (dI (aB 0) (eC (.str ("at" : Str)))))
 (aI (aP (aE aZ (aB 0) (eC (.str ("at" : Str)))) (aR 2))
 (aI (aP (aE aZ (aB 0) (eC (.str ("cells" : Str)))) (aR 3))
 (aI (aP (aE bE (aE aZ (aB 0) (eC (.str ("sum" : Str)))) (aB 2)) (aR 4))
 (aI (dE (a8 (aE kJ (aB 3) (cD aD))) (aI (aP (dA "list" uU (aB 3) (aA (eC (.int 0)) aD)) (aR 4))
 (dE (a8 (aE V6 (aB 4) (aE JZ (eC (.int 10)) (eC (.int 18))))) (aI (b6 (dA "list" qR (aB 3) (aA (eC (.int 0)) (aA (aE rC (aB 4) (aB 1)) aD))))
 (a7 (aE iU (aB 4) (aB 1)))) a5)) a5)
 (aI (aP (aE iU (aE bE (aE bE (aE mulM (aE iU (aB 4) (eC (.int 2147483647))) (eC (.int 48271))) (aE mulM (aE mulM (eC (.int 69621)) (aB 2)) (aB 2))) (eC (.int 7919))) (eC (.int 2147483629))) (aR 5))
 (aI (aP (aE iU (aE mulM (aB 5) (aB 5)) (eC (.int 2147483587))) (aR 5))
 (a7 (aE iU (aE rC (aE iU (aE mulM (aB 5) (aE bE (aB 5) (eC (.int 39373)))) (eC (.int 2147483563))) (eC (.int 64))) (aB 1))))))))))
def Q6 : List Str := [("_law_deck_here" : Str), ("_law_bound" : Str), ("_law_at" : Str), ("_law_cells" : Str), ("_law_seed" : Str), ("_law_number" : Str)]
def oK : MF := bM SX Q6
def oN (c : Nat) (a sm : Int) : List (L2.Key × D) := [(.inr ("cells" : Str), .ref c), (.inr ("at" : Str), .int a), (.inr ("sum" : Str), .int sm)]
def cJ (w : W) (r c b : Nat) : Prop := r ≠ c ∧ ∃ (cells : List Int) (sm : Int) (a : Nat), w[r]? = some (.dK (oN c a sm)) ∧ w[c]? = some (.lst (cells.map D.int)) ∧ cells.length ≤ 63 ∧ a + b ≤ 2 ^ 60
section
variable {w w' : W} {P : D → W → Prop} {r c b : Nat} {size : Int}
theorem aB3 (x0 x1 : D) : begin Q6 [x0, x1] = [some x0, some x1, none, none, none, none] := rfl
theorem aAY : T (JZ (.int 10) (.int 18) w) P = P (.int (10 ^ 18)) w := by
 have : JZ (.int 10) (.int 18) w = .ok (.int (10 ^ 18)) w := by unfold JZ; rfl
 rw [this, bZ]
theorem xB {a c : Int} (h : -(2 ^ 64) < a ∧ a < 2 ^ 64) : zM a c = true := by
 unfold zM
 rw [decide_eq_true h.1, decide_eq_true h.2]
 rfl
theorem MK {a c : Int} (h : -(2 ^ 64) < c ∧ c < 2 ^ 64) : zM a c = true := by
 unfold zM
 rw [decide_eq_true h.1, decide_eq_true h.2]
 simp
theorem M8 {cell a : Int} {s3 : Option D} (h0 : 0 < size) (ha : 0 ≤ a ∧ a < 2 ^ 61) (hP : ∀ v, 0 ≤ v → v < size → P (.int v) w) :
  T (aI (aP (aE iU (aE bE (aE bE (aE mulM (aE iU (aB 4) (eC (.int 2147483647))) (eC (.int 48271))) (aE mulM (aE mulM (eC (.int 69621)) (aB 2)) (aB 2))) (eC (.int 7919))) (eC (.int 2147483629))) (aR 5))
 (aI (aP (aE iU (aE mulM (aB 5) (aB 5)) (eC (.int 2147483587))) (aR 5))
 (a7 (aE iU (aE rC (aE iU (aE mulM (aB 5) (aE bE (aB 5) (eC (.int 39373)))) (eC (.int 2147483563))) (eC (.int 64))) (aB 1))))
   [some (.ref r), some (.int size), some (.int a), s3, some (.int cell), none] w) fun f w1 => match f with
   | .nx _ => P .non w1
   | .rt d => P d w1
   | _ => False := by
 rw [bF]
 simp only [rO, sY, fW, nN, zY, ah, aa, reduceCtorEq]
 refine ⟨by omega, MK ⟨by omega, by omega⟩, xB ⟨by omega, by omega⟩, MK ⟨by omega, by omega⟩, by omega, ?_⟩
 obtain ⟨n, en⟩ : ∃ n, n = (cell % 2147483647 * 48271 + 69621 * a * a + 7919) % 2147483629 := ⟨_, rfl⟩
 have n0 : 0 ≤ n ∧ n < 2147483629 := by
  rw [en]
  exact ⟨Int.emod_nonneg _ (by omega), Int.emod_lt_of_pos _ (by omega)⟩
 rw [← en, bF]
 simp only [rO, sY, fW, nN, zY, ah, aa, reduceCtorEq]
 obtain ⟨m, em⟩ : ∃ m, m = n * n % 2147483587 := ⟨_, rfl⟩
 have m0 : 0 ≤ m ∧ m < 2147483587 := by
  rw [em]
  exact ⟨Int.emod_nonneg _ (by omega), Int.emod_lt_of_pos _ (by omega)⟩
 rw [← em]
 refine ⟨xB ⟨by omega, by omega⟩, by omega, ?_⟩
 try simp only [rO, sY, fW, nN, zY, ah, aa, reduceCtorEq]
 refine ⟨xB ⟨by omega, by omega⟩, by omega, ⟨by omega, by omega⟩, h0, hP _ (Int.emod_nonneg _ (by omega)) (Int.emod_lt_of_pos _ h0)⟩
theorem dW (h : cJ w r c (b + 1)) (h0 : 0 < size) (h1 : size < 1073741824) (hP : ∀ v w', 0 ≤ v → v < size → cJ w' r c b → Pc.Kept w w' r c → P (.int v) w') : T (oK [.ref r, .int size] w) P := by
 obtain ⟨ne, cells, sm, a, hr, hc, hl, hb⟩ := h
 have lr := (ai.mp hr).1
 have lc := (ai.mp hc).1
 unfold oK SX
 rw [fH, aB3, bF]
 simp only [LP hr, zY, ah, aa, reduceCtorEq]
 refine ⟨.int a, rfl, ?_⟩
 simp only [fW, zY, ah, aa, reduceCtorEq]
 rw [YB hr]
 have ek : putD (oN c a sm) (.inr ("at" : Str)) (.int ((a : Int) + 1)) = oN c ((a + 1 : Nat) : Int) sm := rfl
 rw [ek]
 refine ⟨by rw [sizeLine_eq]; unfold oN; simp, ?_⟩
 obtain ⟨w1, e1⟩ : ∃ w1, w1 = w.set r (.dK (oN c ((a + 1 : Nat) : Int) sm)) := ⟨_, rfl⟩
 have hr1 : w1[r]? = some (.dK (oN c ((a + 1 : Nat) : Int) sm)) := by rw [e1]; exact av lr
 have hc1 : w1[c]? = some (.lst (cells.map D.int)) := by rw [e1, ax ne]; exact hc
 have k1 : Pc.Kept w w1 r c := ⟨by rw [e1, cf], fun i h2 _ => by rw [e1, ax (Ne.symm h2)]⟩
 rw [← e1, bF]
 simp only [LP hr1, zY, ah, aa, reduceCtorEq]
 refine ⟨.int ((a + 1 : Nat) : Int), rfl, ?_⟩
 try simp only [zY, ah, aa, reduceCtorEq]
 rw [bF]
 simp only [LP hr1, zY, ah, aa, reduceCtorEq]
 refine ⟨.ref c, rfl, ?_⟩
 try simp only [zY, ah, aa, reduceCtorEq]
 rw [bF]
 simp only [LP hr1, zY, ah, aa, reduceCtorEq]
 refine ⟨.int sm, rfl, ?_⟩
 simp only [fW, zY, ah, aa, reduceCtorEq]
 rw [bF]
 have fin : ∀ (cell : Int) (w2 : W), cJ w2 r c b → Pc.Kept w w2 r c → T (aI (aP (aE iU (aE bE (aE bE (aE mulM (aE iU (aB 4) (eC (.int 2147483647))) (eC (.int 48271))) (aE mulM (aE mulM (eC (.int 69621)) (aB 2)) (aB 2))) (eC (.int 7919))) (eC (.int 2147483629))) (aR 5))
 (aI (aP (aE iU (aE mulM (aB 5) (aB 5)) (eC (.int 2147483587))) (aR 5))
 (a7 (aE iU (aE rC (aE iU (aE mulM (aB 5) (aE bE (aB 5) (eC (.int 39373)))) (eC (.int 2147483563))) (eC (.int 64))) (aB 1))))
   [some (.ref r), some (.int size), some (.int ((a + 1 : Nat) : Int)), some (.ref c), some (.int cell), none] w2) fun f w1 => match f with
   | .nx _ => P .non w1
   | .rt d => P d w1
   | _ => False := fun cell w2 d2 k2 => M8 h0 ⟨by omega, by omega⟩ fun v v0 v1 => hP v w2 v0 v1 d2 k2
 have d1 : cJ w1 r c b := ⟨ne, cells, sm, a + 1, hr1, hc1, hl, by omega⟩
 rcases cells with _ | ⟨z, zs⟩
 ·simp only [Pc.ne_nil hc1, bZ, List.isEmpty_nil, Bool.not_true, zY, ah, aa, reduceCtorEq]
  exact fin _ w1 d1 k1
 ·obtain ⟨w2, e2⟩ : ∃ w2, w2 = w1.set c (.lst (zs.map D.int)) := ⟨_, rfl⟩
  have lc1 : c < w1.length := by rw [k1.1]; exact lc
  have hr2 : w2[r]? = some (.dK (oN c ((a + 1 : Nat) : Int) sm)) := by rw [e2, ax (Ne.symm ne)]; exact hr1
  have hc2 : w2[c]? = some (.lst (zs.map D.int)) := by rw [e2]; exact av lc1
  have k2 : Pc.Kept w w2 r c := ⟨by rw [e2, cf]; exact k1.1, fun i h2 h3 => by rw [e2, ax (Ne.symm h3)]; exact k1.2 i h2 h3⟩
  have lz : zs.length + 1 ≤ 63 := by simpa using hl
  have d2 : cJ w2 r c b := ⟨ne, zs, sm, a + 1, hr2, hc2, by omega, by omega⟩
  have ep : uU (.ref c) [.int 0] w1 = .ok (.int z) w2 := by
   unfold uU
   simp only [hc1]
   rw [if_pos (by omega), e2]
   have es : seqIndex? 0 ((z :: zs).map D.int).length = some 0 := by
    unfold seqIndex?
    simp
   rw [es]
   rfl
  simp only [Pc.ne_nil hc1, bZ, List.isEmpty_cons, Bool.not_false, zY, ah, aa, reduceCtorEq]
  rw [bF]
  simp only [tyL hc1, ep, bZ, zY, ah, aa, reduceCtorEq]
  simp only [aAY, M0, zY, ah, aa, reduceCtorEq]
  split
  ·rw [bF]
   simp only [tyL hc2, nN, zY, ah, aa, reduceCtorEq]
   refine ⟨⟨h0, h1⟩, ?_⟩
   obtain ⟨w3, e3⟩ : ∃ w3, w3 = w2.set c (.lst ((z / size :: zs).map D.int)) := ⟨_, rfl⟩
   have lc2 : c < w2.length := by rw [k2.1]; exact lc
   have ei : qR (.ref c) [.int 0, .int (z / size)] w2 = .ok .non w3 := by
    unfold qR
    simp only [hc2]
    rw [if_pos ⟨by rw [sizeLine_eq, bq]; omega, by omega, by omega⟩, e3]
    rfl
   have hr3 : w3[r]? = some (.dK (oN c ((a + 1 : Nat) : Int) sm)) := by rw [e3, ax (Ne.symm ne)]; exact hr2
   have hc3 : w3[c]? = some (.lst ((z / size :: zs).map D.int)) := by rw [e3]; exact av lc2
   have k3 : Pc.Kept w w3 r c := ⟨by rw [e3, cf]; exact k2.1, fun i h2 h3 => by rw [e3, ax (Ne.symm h3)]; exact k2.2 i h2 h3⟩
   simp only [ei, bZ, rO, zY, ah, aa, reduceCtorEq]
   exact ⟨h0, hP _ w3 (Int.emod_nonneg _ (by omega)) (Int.emod_lt_of_pos _ h0) ⟨ne, z / size :: zs, sm, a + 1, hr3, hc3, by simpa using lz, by omega⟩ k3⟩
  ·exact fin _ w2 d2 k2
def RN : List Str := [("_law_deck_here" : Str), ("_law_some" : Str)]
def RH : MS := (a7 (aE aZ (aB 1) (aH oK 2 aL (aA (aB 0) (aA (aW dO (aA (aB 1) aD)) aD)))))
def JR : MF := bM RH RN
theorem DU {xs : List D} (h : cJ w r c (b + 1)) (h0 : xs ≠ []) (h1 : xs.length < 1073741824) (hP : ∀ x w', x ∈ xs → cJ w' r c b → Pc.Kept w w' r c → P x w') : T (JR [.ref r, .lst xs] w) P := by
 have bb : begin RN [.ref r, .lst xs] = [some (.ref r), some (.lst xs)] := rfl
 have l0 : 0 < xs.length := List.length_pos_iff.mpr h0
 unfold JR RH
 rw [fH, bb]
 simp only [aA9, zY, ah, aa, reduceCtorEq]
 refine dW h (by omega) (by omega) fun v w' v0 v1 d' k' => ?_
 obtain ⟨i, x, e1, e2, _⟩ := atI_nat v0 v1
 simp only [rX, m4, zY, ah, aa, reduceCtorEq]
 exact ⟨x, e2, hP x w' (bf e1) d' k'⟩
def PY : List Str := [("_law_script" : Str), ("_law_cells" : Str)]
def QI : MS :=
 (aI (aP (aW yF (aA (nD kH (aB 0) cY (cK (eC (.int 63)))) aD)) (aR 1))
 (a7 (zS (c9 (eC (.str ("cells" : Str))) (aB 1) (c9 (eC (.str ("at" : Str))) (eC (.int 0)) (c9 (eC (.str ("sum" : Str))) (aE bE (aE iU (aW HD (aA (aB 1) aD)) (eC (.int 2147483629))) (aE mulM (eC (.int 17)) (aW dO (aA (aB 1) aD)))) AF))))))
def KI : MF := bM QI PY
theorem aAf (x0 : D) : begin PY [x0] = [some x0, none] := rfl
theorem VZ {ns : List Int} (hn : ns.length ≤ 63) : T (KI [.nG (ns.map D.int)] []) fun d w => d = .ref 1 ∧ w.length = 2 ∧ cJ w 1 0 (2 ^ 59) := by
 obtain ⟨ms, e1, e2⟩ := VD (ns := ns) (lo := none) (hi := some 63)
 have sl : kH (.nG (ns.map D.int)) none (some 63) [] = .ok (.lst (ms.map D.int)) [] := by simp only [kH, e1]
 have ln : yF [.lst (ms.map D.int)] [] = .ok (.ref 0) [.lst (ms.map D.int)] := rfl
 have h0 : ([MO.lst (ms.map D.int)] : W)[0]? = some (.lst (ms.map D.int)) := rfl
 have hl : ms.length ≤ 63 := by omega
 unfold KI QI
 rw [fH, aAf, bF]
 simp only [sl, ln, bZ, zY, ah, aa, reduceCtorEq]
 have sm : HD [.ref 0] [MO.lst (ms.map D.int)] = .ok (.int ms.sum) [MO.lst (ms.map D.int)] := by
  have : rS (.ref 0) [MO.lst (ms.map D.int)] = some (ms.map D.int) := rfl
  simp only [HD, this, Option.bind_some, Pc.qV]
 have lm : dO [.ref 0] [MO.lst (ms.map D.int)] = .ok (.int ms.length) [MO.lst (ms.map D.int)] := by simp [dO, DH]
 simp only [sm, lm, bZ, rO, sY, fW]
 exact ⟨by omega, xB ⟨by omega, by omega⟩, _, rfl, by simp, rfl, rfl, by omega, ms, _, 0, rfl, rfl, hl, by omega⟩
end
end Lw
namespace Lb
open PySem PySem.Spec PyProof.Rows L2 Pc Lw
def g9 : D → List D
 | .tup ys => ys
 | _ => []
def y7 : D → Bool
 | .tup ys => decide (ys.length ≤ 6)
 | _ => false
def b5 : D → Bool
 | .tup xs => (decide (1 ≤ xs.length) && decide (xs.length ≤ 4)) && (xs.all y7 && (!((xs.map g9).headD []).isEmpty && (xs.all (fun r => (g9 r).length == ((xs.map g9).headD []).length) && (xs.flatMap g9).all (aU 1 12))))
 | _ => false
section
variable {w : W} {P : D → W → Prop} (k : bN) {n : Nat} {d : D}
theorem T4 {ys : List D} (h : ∀ y ∈ ys, gH n y = true) (hn : n ≤ 60) : T (fE (.tup ys) (.tup []) w) P = P (.bl ys.isEmpty) w := by
 rw [zA, MU]
 simp
theorem CW (hn : n ≤ 50) (e : gH (n + 2) d = true) (hP : P (.bl (b5 d)) w) : T (eE k [d] w) P := by
 unfold eE jK
 rw [fH, DT, bF]
 simp only [MJ e, zY, ah, aa, reduceCtorEq]
 cases d <;> simp only [yU, b5, zY, ah, aa, reduceCtorEq] at hP ⊢ <;> first | exact hP | skip
 rename_i xs
 obtain ⟨e1, e2⟩ := wX e
 try simp only [D7, zY, ah, aa, reduceCtorEq]
 by_cases c1 : 1 ≤ xs.length ∧ xs.length ≤ 4
 case neg =>
  have hf : (decide (1 ≤ xs.length) && decide (xs.length ≤ 4)) = false := by
   rw [Bool.and_eq_false_iff]
   simp only [decide_eq_false_iff_not]
   omega
  rw [hf, Bool.false_and] at hP
  split
  ·split
   ·exact hP
   ·rename_i h1 h2
    simp at h1 h2
    omega
  ·exact hP
 have i1 : decide ((1 : Int) ≤ (xs.length : Nat)) = true := by simp; omega
 have i2 : decide (((xs.length : Nat) : Int) ≤ 4) = true := by simp; omega
 have j1 : decide (1 ≤ xs.length) = true := by simp [c1.1]
 have j2 : decide (xs.length ≤ 4) = true := by simp [c1.2]
 simp only [i1, i2, j1, j2, Bool.true_and, Bool.not_true, zY, ah, aa, reduceCtorEq] at hP ⊢
 rw [bF]
 simp only [vK, zY, ah, aa, reduceCtorEq]
 refine ⟨QO _ (by omega), ?_⟩
 refine kG (it := ⟨xs, always⟩) xs (fun x => x) (fun x => .bl (y7 x)) (by simp) trivial (fun x hx => ?_) ?_
 ·simp only [dJ, MJ (e1 x hx), zY, ah, aa, reduceCtorEq]
  have ok := e1 x hx
  cases x <;> simp only [yU, y7, zY, ah, aa, reduceCtorEq]
  rename_i ys
  try simp only [D7, zY, ah, aa, reduceCtorEq]
  simp
  omega
 rw [y5 xs y7]
 cases c2 : xs.all y7 with
 | false =>
  rw [c2, Bool.false_and] at hP
  simp only [Bool.not_false, zY, ah, aa, reduceCtorEq]
  exact hP
 | true =>
 rw [c2, Bool.true_and] at hP
 simp only [Bool.not_true, zY, ah, aa, reduceCtorEq]
 rw [ay] at c2
 have rows : ∃ rs : List (List D), xs = rs.map D.tup := by
  refine ⟨xs.map g9, ?_⟩
  rw [List.map_map]
  refine (List.map_id' xs).symm.trans (List.map_congr_left fun x hx => ?_)
  have := c2 x hx
  cases x <;> first | rfl | (simp [y7] at this; done)
 obtain ⟨rs, rfl⟩ := rows
 obtain ⟨r0, rest, rfl⟩ : ∃ r0 rest, rs = r0 :: rest := by
  cases rs with
  | nil => simp at c1
  | cons a b => exact ⟨a, b, rfl⟩
 have f6 : ∀ r ∈ r0 :: rest, r.length ≤ 6 := fun r hr => by
  have := c2 (.tup r) (List.mem_map_of_mem hr)
  simpa [y7] using this
 have o1 : ∀ r ∈ r0 :: rest, ∀ x ∈ r, gH n x = true := fun r hr x hx => (wX (e1 (.tup r) (List.mem_map_of_mem hr))).1 x hx
 rw [bF]
 simp only [List.map_cons, ZX, zY, ah, aa, reduceCtorEq]
 rw [T4 (o1 r0 (az ..)) (by omega)]
 rw [show ((((r0 :: rest).map D.tup).map g9).headD []) = r0 from rfl] at hP
 cases c3 : r0.isEmpty with
 | true =>
  rw [c3] at hP
  simp only [Bool.not_true, Bool.false_and, zY, ah, aa, reduceCtorEq] at hP ⊢
  exact hP
 | false =>
 rw [c3] at hP
 simp only [Bool.not_false, Bool.true_and, zY, ah, aa, reduceCtorEq] at hP ⊢
 refine ⟨by rw [sizeLine_eq]; simp at c1 ⊢; omega, ?_⟩
 refine kG (it := ⟨(r0 :: rest).map D.tup, always⟩) (r0 :: rest) D.tup (fun r => .bl (r.length == r0.length)) rfl trivial (fun r hr => ?_) ?_
 ·simp only [dJ, D7, ZX, zY, ah, aa, reduceCtorEq]
  congr 1
  rw [Bool.eq_iff_iff]
  simp only [beq_iff_eq]
  omega
 rw [y5 (r0 :: rest) fun r => r.length == r0.length]
 have ea : (((r0 :: rest).map D.tup).all fun r => (g9 r).length == r0.length) = (r0 :: rest).all fun r => r.length == r0.length := by
  rw [List.all_map]
  rfl
 rw [ea] at hP
 cases c4 : (r0 :: rest).all fun r => r.length == r0.length with
 | false =>
  rw [c4] at hP
  simp only [Bool.not_false, Bool.false_and, zY, ah, aa, reduceCtorEq] at hP ⊢
  exact hP
 | true =>
 rw [c4] at hP
 simp only [Bool.not_true, Bool.true_and, zY, ah, aa, reduceCtorEq] at hP ⊢
 have ef : (((r0 :: rest).map D.tup).flatMap g9) = (r0 :: rest).flatMap fun r => r := by
  rw [List.flatMap_map]
  rfl
 rw [ef] at hP
 simp only [T5, vK, zY, ah, aa, reduceCtorEq]
 refine RW (it := ⟨(r0 :: rest).map D.tup, always⟩) D.tup (fun r => r) (fun x => x) (fun _ x => .bl (aU 1 12 x)) (r0 :: rest) [] trivial ?_ (fun r hr => ?_) ?_
 ·have : ∀ l : List (List D), (∀ r ∈ l, r.length ≤ 6) → (l.map fun r => r.length).sum ≤ l.length * 6 := by
   intro l
   induction l with
   | nil => simp
   | cons a l ih =>
    intro hl
    have h1 := hl a (az ..)
    have h2 := ih fun r hr => hl r (bh _ hr)
    rw [List.map_cons, List.sum_cons, List.length_cons, Nat.succ_mul]
    omega
  have h1 := this _ f6
  have h2 := c1.2
  rw [bq] at h2
  rw [sizeLine_eq, List.length_nil]
  omega
 ·simp only [dJ, vK, zY, ah, aa, reduceCtorEq]
  exact ⟨⟨trivial, (List.map_id' r).symm⟩, fun z hz => by rw [m3 1 12 (o1 r hr z hz)]; exact ⟨rfl, rfl⟩⟩
 ·rw [List.nil_append]
  have eb : ((r0 :: rest).flatMap fun r => r.map fun x => D.bl (aU 1 12 x)) = ((r0 :: rest).flatMap fun r => r).map fun x => D.bl (aU 1 12 x) := by
   rw [List.map_flatMap]
  rw [eb, y5 ((r0 :: rest).flatMap fun r => r) (aU 1 12)]
  exact hP
def tE (h : Int) (d : D) : Bool := match d with
 | .tup [a, c, l] => aU 0 (h - 1) a && (aU 0 9 c && aU 1 11 l)
 | _ => false
def numsOf : D → Int × Int
 | .tup [.int a, .int c, _] => (a, c)
 | _ => (0, 0)
def sM : List (Int × Int) → Bool
 | p :: q :: r => HT.lexLt [p.1, p.2] [q.1, q.2] && sM (q :: r)
 | _ => true
def j7 (h : Int) (d : D) : Bool := match d with
 | .tup xs => !decide (6 < xs.length) && (xs.all (tE h) && sM (xs.map numsOf))
 | _ => false
theorem Z4 {h : Int} (e : gH (n + 1) d = true) (hP : P (.bl (tE h d)) w) : T (mY k [d, .int h] w) P := by
 unfold mY qE
 rw [fH, N5, bF]
 simp only [MJ e, zY, ah, aa, reduceCtorEq]
 cases d <;> simp only [yU, tE, zY, ah, aa, reduceCtorEq] at hP ⊢ <;> first | exact hP | skip
 rename_i xs
 obtain ⟨e1, e2⟩ := wX e
 try simp only [D7, SH, zY, ah, aa, reduceCtorEq]
 by_cases c : xs.length = 3
 case neg =>
  have i1 : (!(((xs.length : Nat) : Int) == 3)) = true := by
   have : ¬ ((xs.length : Nat) : Int) = 3 := by omega
   simpa using this
  rw [if_pos i1]
  have hf : (match D.tup xs with
   | D.tup [a, c, l] => aU 0 (h - 1) a && (aU 0 9 c && aU 1 11 l)
   | _ => false) = false := by
   split
   ·rename_i a c' l e
    cases e
    exact absurd rfl c
   ·rfl
  rw [hf] at hP
  exact hP
 obtain ⟨a, c', l, rfl⟩ : ∃ a c' l, xs = [a, c', l] := by
  match xs, c with
  | [a, c', l], _ => exact ⟨a, c', l, rfl⟩
 have ha := e1 a (by simp)
 have hc := e1 c' (by simp)
 have hl := e1 l (by simp)
 rw [if_neg (by simp), bF]
 simp only [uN, m3 _ _ ha, m3 _ _ hc, m3 _ _ hl, zY, ah, aa, reduceCtorEq] at hP ⊢
 revert hP
 cases aU 0 (h - 1) a <;> cases aU 0 9 c' <;> simp
theorem ZL {h : Int} (e : tE h d = true) : ∃ t : Int × Int × Int, d = eR t := by
 unfold tE at e
 split at e
 ·rename_i a c l
  simp only [ak] at e
  obtain ⟨e1, e2, e3⟩ := e
  cases a <;> first | (simp [aU] at e1; done) | skip
  cases c <;> first | (simp [aU] at e2; done) | skip
  cases l <;> first | (simp [aU] at e3; done) | skip
  exact ⟨(_, _, _), rfl⟩
 ·cases e
theorem BF : ∀ ts : List (Int × Int), ((ts.dropLast.zip ts.tail).all fun p => HT.lexLt [p.1.1, p.1.2] [p.2.1, p.2.2]) = sM ts
 | [] => rfl
 | [a] => rfl
 | a :: b :: ts => by
  have := BF (b :: ts)
  simp only [List.dropLast_cons₂, List.tail_cons, List.zip_cons_cons, List.all_cons, sM] at this ⊢
  rw [this]
theorem XF {h : Int} (e : gH (n + 2) d = true) (hP : P (.bl (j7 h d)) w) : T (i6 k [d, .int h] w) P := by
 unfold i6 lG
 rw [fH, FA, bF]
 simp only [MJ e, zY, ah, aa, reduceCtorEq]
 cases d <;> simp only [yU, j7, zY, ah, aa, reduceCtorEq] at hP ⊢ <;> first | exact hP | skip
 rename_i xs
 obtain ⟨e1, e2⟩ := wX e
 try simp only [D7, zY, ah, aa, reduceCtorEq]
 by_cases c1 : 6 < xs.length
 ·have i1 : decide (((xs.length : Nat) : Int) > 6) = true := by simp; omega
  have j1 : decide (6 < xs.length) = true := by simp [c1]
  simp only [i1, j1, Bool.not_true, Bool.false_and, zY, ah, aa, reduceCtorEq] at hP ⊢
  exact hP
 have i1 : decide (((xs.length : Nat) : Int) > 6) = false := by simp; omega
 have j1 : decide (6 < xs.length) = false := by simp; omega
 simp only [i1, j1, Bool.not_false, Bool.true_and, vK, zY, ah, aa, reduceCtorEq] at hP ⊢
 refine ⟨QO _ (by omega), ?_⟩
 refine kG (it := ⟨xs, always⟩) xs (fun x => x) (fun x => .bl (tE h x)) (by simp) trivial (fun x hx => ?_) ?_
 ·simp only [dJ, zY, ah, aa, reduceCtorEq]
  refine Z4 k (e1 x hx) ?_
  exact ⟨rfl, rfl⟩
 rw [y5 xs (tE h)]
 cases c2 : xs.all (tE h) with
 | false =>
  rw [c2, Bool.false_and] at hP
  simp only [Bool.not_false, zY, ah, aa, reduceCtorEq]
  exact hP
 | true =>
 rw [c2, Bool.true_and] at hP
 simp only [Bool.not_true, zY, ah, aa, reduceCtorEq]
 rw [ay] at c2
 obtain ⟨ts, rfl⟩ : ∃ ts : List (Int × Int × Int), xs = ts.map eR := by
  clear hP e e1 e2 c1 i1 j1
  induction xs with
  | nil => exact ⟨[], rfl⟩
  | cons x xs ih =>
   obtain ⟨t, rfl⟩ := ZL (c2 x (az ..))
   obtain ⟨ts, rfl⟩ := ih fun y hy => c2 y (bh _ hy)
   exact ⟨t :: ts, rfl⟩
 simp only [TB, U1, aBT, bZ, zY, ah, aa, reduceCtorEq]
 refine ⟨by simp, ?_, ?_⟩
 ·refine QO _ ?_
  simp at c1 ⊢
  omega
 have e5 : (List.zip (ts.map eR).dropLast (ts.map eR).tail).map (fun p => D.tup [p.1, p.2]) = (ts.dropLast.zip ts.tail).map fun p => D.tup [eR p.1, eR p.2] := by
  rw [← List.map_dropLast, ← List.map_tail, List.zip_map, List.map_map]
  rfl
 rw [e5]
 refine kG (it := ⟨_, always⟩) (ts.dropLast.zip ts.tail) (fun p => .tup [eR p.1, eR p.2]) (fun p => .bl (HT.lexLt [p.1.1, p.1.2.1] [p.2.1, p.2.2.1])) rfl trivial (fun p _ => ?_) ?_
 ·simp only [dJ, XZ, UN, bZ, zY, ah, aa, reduceCtorEq]
 rw [y5 (ts.dropLast.zip ts.tail) fun p => HT.lexLt [p.1.1, p.1.2.1] [p.2.1, p.2.2.1]]
 have e6 : ((ts.map eR).map numsOf) = ts.map fun t => (t.1, t.2.1) := by
  rw [List.map_map]
  rfl
 rw [e6, ← BF, ← List.map_dropLast, ← List.map_tail, List.zip_map, List.all_map] at hP
 exact hP
end
end Lb
namespace Lw
open PySem PySem.Spec PyProof.Rows L2 Pc Lb
open PySem.W (dataLe)
section
variable {us : List (Int × Int × Int)}
def apart2 (a b : Int × Int × Int) : Prop := ¬ (a.1 = b.1 ∧ a.2.1 = b.2.1)
theorem YJ {a b : Int × Int × Int} (h : a.1 < b.1 ∨ (a.1 = b.1 ∧ a.2.1 < b.2.1)) : HT.lexLt [a.1, a.2.1] [b.1, b.2.1] = true := by
 simp only [HT.lexLt_cons, HT.lexLt_nil_nil]
 rcases h with h | ⟨h1, h2⟩
 ·rw [if_neg (by omega)]; simpa using h
 ·rw [if_pos h1, if_neg (by omega)]; simpa using h2
theorem D4 : ∀ {us : List (Int × Int × Int)}, (us.Pairwise fun a b => HT.lexLt [a.1, a.2.1] [b.1, b.2.1] = true) → sM (us.map fun t => (t.1, t.2.1)) = true
 | [], _ => rfl
 | [a], _ => rfl
 | a :: b :: us, h => by
  rw [List.pairwise_cons] at h
  have h1 := h.1 b (az ..)
  have h2 := D4 h.2
  simp only [List.map_cons, sM, ak] at h2 ⊢
  exact ⟨h1, h2⟩
theorem IH (nd : us.Pairwise apart2) : sM ((us.mergeSort zF).map fun t => (t.1, t.2.1)) = true := by
 have p := List.mergeSort_perm us zF
 have h2 : (us.mergeSort zF).Pairwise apart2 := (p.pairwise_iff fun {a b} hab => fun e => hab ⟨e.1.symm, e.2.symm⟩).mpr nd
 refine D4 ((GB.and h2).imp fun {a b} ⟨g1, g2⟩ => YJ ?_)
 obtain ⟨a1, a2, a3⟩ := a
 obtain ⟨b1, b2, b3⟩ := b
 unfold apart2 at g2
 simp only [l3, List.cons_le_cons_iff] at g1 ⊢
 simp only [not_and] at g2
 rcases g1 with g | ⟨rfl, g | ⟨rfl, _⟩⟩
 ·exact .inl g
 ·exact .inr ⟨rfl, g⟩
 ·exact absurd rfl (g2 rfl)
theorem EZ {h : Int} (nd : us.Pairwise apart2) (few : us.length ≤ 6) (each : ∀ t ∈ us, (0 ≤ t.1 ∧ t.1 < h) ∧ (0 ≤ t.2.1 ∧ t.2.1 ≤ 9) ∧ (1 ≤ t.2.2 ∧ t.2.2 ≤ 11)) : j7 h (.tup ((us.mergeSort zF).map eR)) = true := by
 have p := List.mergeSort_perm us zF
 have e6 : (((us.mergeSort zF).map eR).map Lb.numsOf) = (us.mergeSort zF).map fun t => (t.1, t.2.1) := by
  rw [List.map_map]
  rfl
 simp only [j7, ak, Bool.not_eq_true', decide_eq_false_iff_not, ay]
 refine ⟨by rw [bq, p.length_eq]; omega, fun d hd => ?_, by rw [e6]; exact IH nd⟩
 obtain ⟨t, ht, rfl⟩ := cc.mp hd
 have e := each t (p.mem_iff.mp ht)
 simp only [eR, tE, aU, ak, au]
 omega
def cA (ps : List (Int × Int × Int)) : List (List Key × D) := ps.map fun t => ([.inl t.1, .inl t.2.1], .int t.2.2)
def rY (t u : Int × Int × Int) : Bool := decide (u.1 = t.1 ∧ u.2.1 = t.2.1)
def AD (us : List (Int × Int × Int)) (t : Int × Int × Int) : List (Int × Int × Int) := if us.any (rY t) = true then us.map fun u => if rY t u = true then (u.1, u.2.1, t.2.2) else u else us ++ [t]
theorem mX {t u : Int × Int × Int} : (([.inl u.1, .inl u.2.1] : List Key) = [.inl t.1, .inl t.2.1]) ↔ rY t u = true := by
 unfold rY
 simp
theorem A9 (t : Int × Int × Int) : ∀ us, (gM (cA us) [.inl t.1, .inl t.2.1]).isSome = us.any (rY t)
 | [] => rfl
 | u :: us => by
  have ih := A9 t us
  have e : cA (u :: us) = ([.inl u.1, .inl u.2.1], .int u.2.2) :: cA us := rfl
  rw [e, List.any_cons, ← ih]
  conv => lhs; unfold gM
  by_cases c : rY t u = true
  ·rw [if_pos (mX.mpr c), c]
   rfl
  ·have n : ¬ (([.inl u.1, .inl u.2.1] : List Key) = [.inl t.1, .inl t.2.1]) := fun e => c (mX.mp e)
   rw [Bool.not_eq_true] at c
   rw [if_neg n, c, Bool.false_or]
theorem TN (t : Int × Int × Int) (us : List (Int × Int × Int)) : putD (cA us) [.inl t.1, .inl t.2.1] (.int t.2.2) = cA (AD us t) := by
 unfold putD AD
 rw [A9]
 split
 ·unfold cA
  rw [List.map_map, List.map_map]
  refine List.map_congr_left fun u _ => ?_
  simp only [Function.comp]
  by_cases c : rY t u = true
  ·rw [if_pos c]
   first | rw [if_pos (mX.mpr c)] | simp [mX.mpr c]
  ·rw [if_neg c]
   have n : ¬ (([.inl u.1, .inl u.2.1] : List Key) = [.inl t.1, .inl t.2.1]) := fun e => c (mX.mp e)
   first | rw [if_neg n] | simp [n]
 ·unfold cA
  rw [List.map_append]
  rfl
theorem PN {t u : Int × Int × Int} {us : List (Int × Int × Int)} (h : u ∈ AD us t) : (u.1 = t.1 ∧ u.2.1 = t.2.1 ∧ u.2.2 = t.2.2) ∨ u ∈ us := by
 unfold AD at h
 split at h
 ·obtain ⟨x, hx, e⟩ := cc.mp h
  split at e
  ·rename_i c
   simp only [rY, au] at c
   subst e
   exact .inl ⟨c.1, c.2, rfl⟩
  ·subst e
   exact .inr hx
 ·rcases List.mem_append.mp h with h | h
  ·exact .inr h
  ·rw [List.mem_singleton.mp h]
   exact .inl ⟨rfl, rfl, rfl⟩
theorem R1 {t : Int × Int × Int} {us : List (Int × Int × Int)} : (AD us t).length ≤ us.length + 1 := by
 unfold AD
 split <;> simp
theorem K1 {t : Int × Int × Int} {us : List (Int × Int × Int)} (h : us.Pairwise apart2) : (AD us t).Pairwise apart2 := by
 unfold AD
 split
 ·refine List.Pairwise.map _ (fun a b hab => ?_) h
  unfold apart2 at hab ⊢
  split <;> split <;> exact hab
 ·rename_i c
  refine List.pairwise_append.mpr ⟨h, by simp, fun a ha b hb => ?_⟩
  rw [List.mem_singleton.mp hb]
  intro e
  refine c (List.any_eq_true.mpr ⟨a, ha, ?_⟩)
  unfold rY
  simpa using e
end
theorem cJ.less {w : W} {r c b b' : Nat} (d : cJ w r c b) (h : b' ≤ b) : cJ w r c b' := by
 obtain ⟨ne, cells, sm, a, h1, h2, h3, h4⟩ := d
 exact ⟨ne, cells, sm, a, h1, h2, h3, by omega⟩
def L3 (H n : Nat) (ds : List D) : Prop := ds.length = n ∧ ∀ d ∈ ds, ∃ ns : List Int, d = .tup (ns.map D.int) ∧ ns.length = H ∧ ∀ x ∈ ns, 1 ≤ x ∧ x ≤ 12
section
variable {w : W} {P : D → W → Prop} {r c b H n : Nat} {low : Int} {ds : List D}
theorem VN (h : L3 H n ds) (n1 : 1 ≤ n) (n4 : n ≤ 4) (H1 : 1 ≤ H) (H6 : H ≤ 6) : b5 (.tup ds) = true ∧ gH 6 (.tup ds) = true ∧ ∃ r0 rest, ds = .tup r0 :: rest ∧ r0.length = H := by
 obtain ⟨hl, he⟩ := h
 have wid : ∀ d ∈ ds, (g9 d).length = H := fun d hd => by
  obtain ⟨ns, rfl, h1, -⟩ := he d hd
  show (ns.map D.int).length = H
  rw [bq, h1]
 have six : ∀ d ∈ ds, y7 d = true := fun d hd => by
  obtain ⟨ns, rfl, h1, -⟩ := he d hd
  simp only [y7, bq, au]
  omega
 have ok : ∀ d ∈ ds, gH 5 d = true := fun d hd => by
  obtain ⟨ns, rfl, h1, h2⟩ := he d hd
  simp only [gH, List.all_map, ak, au, ay, bq]
  refine ⟨fun x hx => ?_, by omega⟩
  have := h2 x hx
  simp only [Function.comp, gH, au]
  omega
 have num : ∀ x ∈ ds.flatMap g9, aU 1 12 x = true := fun x hx => by
  obtain ⟨d, hd, hx⟩ := List.mem_flatMap.mp hx
  obtain ⟨ns, rfl, -, h2⟩ := he d hd
  obtain ⟨y, hy, rfl⟩ := cc.mp (show x ∈ ns.map D.int from hx)
  have := h2 y hy
  simp only [aU, ak, au]
  exact this
 obtain ⟨d0, rest, rfl⟩ : ∃ d0 rest, ds = d0 :: rest := by
  cases ds with
  | nil => simp at hl; omega
  | cons a l => exact ⟨a, l, rfl⟩
 obtain ⟨ns, e0, e1, -⟩ := he d0 (az ..)
 have w0 := wid d0 (az ..)
 refine ⟨?_, ?_, _, rest, by rw [e0], by rw [bq, e1]⟩
 ·simp only [b5, ak, au, ay, Bool.not_eq_true']
  refine ⟨⟨by omega, by omega⟩, six, ?_, fun d hd => ?_, num⟩
  ·show (g9 d0).isEmpty = false
   cases hh : g9 d0 with
   | nil => rw [hh] at w0; simp at w0; omega
   | cons => rfl
  ·show ((g9 d).length == (g9 d0).length) = true
   rw [wid d hd, w0]
   simp
 ·simp only [gH, ak, au, ay]
  exact ⟨ok, by omega⟩
theorem Y2 {e4 e0 eh : ME} {σ : Sg} {v : Nat} {PL : List D → W → Prop} (ZY : 1 ≤ low) (low12 : low ≤ 12) (hd : cJ w r c (b + H)) (H6 : H ≤ 6)
  (h4 : ∀ x (w : W) (P : D → W → Prop), T (e4 ((dJ σ [v]).set v (some x)) w) P = P (.int low) w) (h0 : ∀ x (w : W) (P : D → W → Prop), T (e0 ((dJ σ [v]).set v (some x)) w) P = P (.ref r) w) 
  (hP : ∀ (ns : List Int) (w' : W), cJ w' r c b → ns.length = H → (∀ x ∈ ns, 1 ≤ x ∧ x ≤ 12) → PL (ns.map D.int) w') :
  T (kU (gD 0 H) [v] (aR v) bU (aE bE e4 (aH oK 2 aL (aA e0 (aA (aE iB (eC (.int 13)) e4) aD)))) (gD 0 H).xs σ w) PL := by
 refine tR (it := gD 0 H) (fun i acc w' => cJ w' r c (b + (H - i)) ∧ ∃ ns : List Int, acc = ns.map D.int ∧ ns.length = i ∧ ∀ x ∈ ns, 1 ≤ x ∧ x ≤ 12) (fun _ _ _ _ => trivial) ⟨hd, [], rfl, rfl, fun x hx => nomatch hx⟩ (fun i x acc w1 hx hI => ?_) (fun acc w1 hI => ?_)
 ·obtain ⟨d1, ns, rfl, hn, hr⟩ := hI
  obtain ⟨hz, rfl⟩ := oP hx
  rw [FL, nT, if_pos rfl]
  simp only [h4, h0, uN, zY, ah, aa, reduceCtorEq]
  have eb : b + (H - i) = (b + (H - (i + 1))) + 1 := by omega
  rw [eb] at d1
  refine dW (size := 13 - low) d1 (by omega) (by omega) fun y w2 y0 y1 d2 k2 => ?_
  rw [fW]
  refine ⟨d2, ns ++ [low + y], by rw [List.map_append]; rfl, by rw [cb, hn]; rfl, fun x hx => ?_⟩
  rcases List.mem_append.mp hx with hx | hx
  ·exact hr x hx
  ·rw [List.mem_singleton.mp hx]
   omega
 ·obtain ⟨d1, ns, rfl, hn, hr⟩ := hI
  rw [kM] at d1 hn
  rw [Nat.sub_self] at d1
  exact hP ns w1 d1 hn hr
end
def yA (H : Nat) (us : List (Int × Int × Int)) : Prop := us.Pairwise apart2 ∧ us.length ≤ 6 ∧ ∀ t ∈ us, (0 ≤ t.1 ∧ t.1 < (H : Int)) ∧ (0 ≤ t.2.1 ∧ t.2.1 ≤ 9) ∧ (1 ≤ t.2.2 ∧ t.2.2 ≤ 11)
def RA : MS := (dE (a8 (aE BR (aW zH (aA (aB 6) aD)) (eC (.int 6)))) (aP (aE aZ (cD (aA (eC (.int 1)) (aA (eC (.int 9)) (aA (eC (.int 10)) (aA (eC (.int 11)) (aA (eC (.int 2)) aD)))))) (aH oK 2 aL (aA (aB 0) (aA (eC (.int 5)) aD)))) (dI (aB 6) (aM (aA (aH oK 2 aL (aA (aB 0) (aA (aB 2) aD))) (aA (aH oK 2 aL (aA (aB 0) (aA (eC (.int 10)) aD))) aD))))) a5)
section
variable {w : W} {P : D → W → Prop} {PF : Fl → W → Prop} {r c b H q : Nat} {us : List (Int × Int × Int)} {s1 s3 s4 s5 s7 s8 s9 s10 s11 s12 : Option D}
theorem xP {o : MO} (d : cJ w r c b) (h1 : q ≠ r) (h2 : q ≠ c) : cJ (w.set q o) r c b := by
 obtain ⟨ne, cells, sm, a, g1, g2, g3, g4⟩ := d
 exact ⟨ne, cells, sm, a, by rw [ax h1]; exact g1, by rw [ax h2]; exact g2, g3, g4⟩
theorem Y3 (hd : cJ w r c (b + 3)) (hq : w[q]? = some (.dT (cA us))) (nr : q ≠ r) (nc : q ≠ c) (hc : yA H us) (H1 : 1 ≤ H) (H6 : H ≤ 6)
  (hP : ∀ w' us', cJ w' r c b → w'[q]? = some (.dT (cA us')) → yA H us' → PF (.nx [some (.ref r), s1, some (.int (H : Nat)), s3, s4, s5, some (.ref q), s7, s8, s9, s10, s11, s12]) w') : T (RA [some (.ref r), s1, some (.int (H : Nat)), s3, s4, s5, some (.ref q), s7, s8, s9, s10, s11, s12] w) PF := by
 have lt : ∀ (a c : Int) (w : W) (P : D → W → Prop), T (BR (.int a) (.int c) w) P = P (.bl (decide (a < c))) w := fun a c w P => by unfold T; rfl
 have ln : ∀ (P : D → W → Prop), T (zH [.ref q] w) P = P (.int (us.length : Nat)) w := fun P => by
  have e : zH [.ref q] w = .ok (.int ((cA us).length : Nat)) w := by simp only [zH, hq]
  rw [e, bZ]
  unfold cA
  rw [bq]
 unfold RA
 simp only [ln, lt, zY, ah, aa, reduceCtorEq]
 by_cases c6 : us.length < 6
 case neg =>
  have e : decide (((us.length : Nat) : Int) < 6) = false := by simp; omega
  simp only [e, zY, ah, aa, reduceCtorEq]
  exact hP w us (hd.less (by omega)) hq hc
 have e : decide (((us.length : Nat) : Int) < 6) = true := by simp; omega
 simp only [e, zY, ah, aa, reduceCtorEq]
 refine dW (b := b + 2) hd (by omega) (by omega) fun x w1 x0 x1 d1 k1 => ?_
 obtain ⟨x, rfl⟩ : ∃ n : Nat, x = (n : Int) := ⟨x.toNat, by omega⟩
 have hx : x = 0 ∨ x = 1 ∨ x = 2 ∨ x = 3 ∨ x = 4 := by omega
 obtain ⟨v, hv, v0, v1⟩ : ∃ v : Int, ([D.int 1, .int 9, .int 10, .int 11, .int 2] : List D)[x]? = some (.int v) ∧ 1 ≤ v ∧ v ≤ 11 := by
  rcases hx with rfl | rfl | rfl | rfl | rfl
  ·exact ⟨_, rfl, by omega, by omega⟩
  ·exact ⟨_, rfl, by omega, by omega⟩
  ·exact ⟨_, rfl, by omega, by omega⟩
  ·exact ⟨_, rfl, by omega, by omega⟩
  ·exact ⟨_, rfl, by omega, by omega⟩
 have ea : atI [D.int 1, .int 9, .int 10, .int 11, .int 2] (x : Int) = some (.int v) := gZ hv
 simp only [rX, m4, ea, aj, bu, zY, ah, aa, reduceCtorEq]
 refine dW (b := b + 1) d1 (by omega) (by omega) fun y w2 y0 y1 d2 k2 => ?_
 try simp only [zY, ah, aa, reduceCtorEq]
 refine dW (b := b) d2 (by omega) (by omega) fun z w3 z0 z1 d3 k3 => ?_
 try simp only [zY, ah, aa, reduceCtorEq]
 have q3 : w3[q]? = some (.dT (cA us)) := by rw [k3.2 q nr nc, k2.2 q nr nc, k1.2 q nr nc]; exact hq
 have es : setM (.ref q) (.tup [.int y, .int z]) (.int v) w3 = .ok () (w3.set q (.dT (cA (AD us (y, z, v))))) := by
  have h2 : rT [.int y, .int z] = some [.inl y, .inl z] := rfl
  have h3 : (cA us).length < sizeLine := by
   rw [sizeLine_eq]
   unfold cA
   rw [bq]
   omega
  rw [← TN]
  simp only [setM, q3, h2, h3, ah]
 simp only [es, bZ]
 have ls := R1 (t := (y, z, v)) (us := us)
 refine hP _ (AD us (y, z, v)) (xP d3 nr nc) (av (ai.mp q3).1) ⟨K1 hc.1, by omega, fun t ht => ?_⟩
 rcases PN ht with ⟨e1, e2, e3⟩ | ht
 ·rw [e1, e2, e3]
  exact ⟨⟨y0, y1⟩, ⟨z0, by show z ≤ 9; omega⟩, v0, v1⟩
 ·exact hc.2.2 t ht
end
section
variable {w : W} {P : D → W → Prop} {q v : Nat} {us : List (Int × Int × Int)} {σ : Sg} {e6 : ME}
theorem LN : ∀ {us : List (Int × Int × Int)}, us.Pairwise apart2 → ∀ t ∈ us, gM (cA us) [.inl t.1, .inl t.2.1] = some (.int t.2.2)
 | u :: us, h, t, ht => by
  rw [List.pairwise_cons] at h
  have e : cA (u :: us) = ([.inl u.1, .inl u.2.1], .int u.2.2) :: cA us := rfl
  rw [e]
  unfold gM
  rcases br.mp ht with rfl | ht
  ·rw [if_pos rfl]
  ·have n : ¬ (([.inl u.1, .inl u.2.1] : List Key) = [.inl t.1, .inl t.2.1]) := fun e => by
    have := mX.mp e
    simp only [rY, au] at this
    exact h.1 t ht this
   rw [if_neg n]
   exact LN h.2 t ht
theorem MW (hq : w[q]? = some (.dT (cA us))) (ap : us.Pairwise apart2) (few : us.length ≤ 6)
  (h6 : ∀ (w : W) (P : D → W → Prop), T (e6 σ w) P = P (.ref q) w) (h6' : ∀ x (w : W) (P : D → W → Prop), T (e6 ((dJ σ [v]).set v (some x)) w) P = P (.ref q) w)
  (hv : ∀ x (w : W) (P : D → W → Prop), T (aB v ((dJ σ [v]).set v (some x)) w) P = P x w)
  (hP : P (.tup ((us.mergeSort zF).map eR)) (w.set q (.dG (cA us)))) :
  T (aW fL (aA (aW kB (aA (bT (qU e6) [v] (aR v) bU (aE bE (aB v) (aM (aA (aE aZ e6 (aB v)) aD)))) aD)) aD) σ w) P := by
 have hq1 : (w.set q (.dG (cA us)))[q]? = some (.dG (cA us)) := av (ai.mp hq).1
 obtain ⟨w1, e1⟩ : ∃ w1, w1 = w.set q (.dG (cA us)) := ⟨_, rfl⟩
 rw [← e1] at hq1 hP
 simp only [SM, h6, UG hq, zY, ah, aa, reduceCtorEq]
 rw [← e1]
 have l6 : ((cA us).map fun p => D.tup (p.1.map gF)).length = us.length := by unfold cA; simp
 refine ⟨by rw [sizeLine_eq, l6]; omega, ?_⟩
 refine kG (it := ⟨(cA us).map fun p => D.tup (p.1.map gF), always⟩) us (fun t => .tup [.int t.1, .int t.2.1]) eR (by unfold cA; rw [List.map_map]; rfl) trivial (fun t ht => ?_) ?_
 ·rw [FL, nT]
  refine ⟨rfl, ?_⟩
  have ex : T (aZ (.ref q) (.tup [.int t.1, .int t.2.1]) w1) = fun PP => PP (.int t.2.2) w1 := by
   funext PP
   have e : aZ (.ref q) (.tup [.int t.1, .int t.2.1]) w1 = .ok (.int t.2.2) w1 := by
    have l : m9 (.dG (cA us)) (.tup [.int t.1, .int t.2.1]) = some (gM (cA us) [.inl t.1, .inl t.2.1]) := rfl
    simp only [aZ, hq1, l, LN ap t ht]
   rw [e, bZ]
  simp only [hv, h6', ex, zY, ah, aa, reduceCtorEq]
  first | exact ⟨rfl, rfl⟩ | rfl
 ·simp only [J9 (show us.length ≤ 1000 by omega), QP, zY, ah, aa, reduceCtorEq]
  exact hP
end
end Lw
namespace K05
open PySem PySem.Spec PyProof.Rows L2 Pc
structure Fx (S : aX) where
 k : bN
 BQ : S.mg ("all" : Str) = none
 KU : S.mg ("bool" : Str) = none
 BL : S.mg ("int" : Str) = none
 eD : S.mg ("isinstance" : Str) = none
 n7 : S.mg ("len" : Str) = none
 QX : S.mg ("list" : Str) = none
 kA : S.mg ("range" : Str) = none
 EK : S.mg ("sorted" : Str) = none
 WR : S.mg ("sum" : Str) = none
 iL : S.mg ("tuple" : Str) = none
 WL : S.mg ("zip" : Str) = none
 nA : OG S ("MOST_ADDRESSES" : Str) (.int 4)
 rW : OG S ("MOST_HOUSES" : Str) (.int 6)
 wD : OG S ("MOST_LESS" : Str) (.int 11)
 y6 : OG S ("MOST_TIE" : Str) (.int 9)
 vL : OG S ("MOST_TIES" : Str) (.int 6)
 WQ : OG S ("TOP" : Str) (.int 12)
 u7 : OG S ("NUMBERS" : Str) (.con k.dH)
 uS : KTab S.K S.w k.dH dD
 vV : S.mg ("NetError" : Str) = some (.ref k.lI)
 IY : OG S ("NetError" : Str) (.con k.lI)
 qY : S.mg ("NoPlan" : Str) = some (.ref k.cC)
 RP : OG S ("NoPlan" : Str) (.con k.cC)
 MC : S.mg ("Plan" : Str) = some (.ref k.aN)
 ZG : OG S ("Plan" : Str) (.con k.aN)
 eQ : Cls S.K k.aN
 nX : NoAttr S.K k.aN ("bears" : Str)
 nO : NoAttr S.K k.aN ("every" : Str)
 sE : NoAttr S.K k.aN ("gap" : Str)
 oT : NoAttr S.K k.aN ("hold" : Str)
 nY : NoAttr S.K k.aN ("hosts" : Str)
 oZ : NoAttr S.K k.aN ("lost" : Str)
 nQ : NoAttr S.K k.aN ("ranks" : Str)
 pS : NoAttr S.K k.aN ("slow" : Str)
 nF : NoAttr S.K k.aN ("takes" : Str)
 pE : NoAttr S.K k.aN ("ties" : Str)
 jR : Addr
 lZ : FuncData
 pR : FunD S.K ("_law_draw" : Str) ("_law_draw" : Str) (defArgs (top 26)) (defBody (top 26)) (defScope (top 26)) [] [] jR lZ
 bQ : S.mg ("_law_draw" : Str) = some (.ref jR)
 bJ : PySem.W.keepIn S.K (.ref jR) = true
 gK : Addr
 jE : FuncData
 mK : FunD S.K ("_law_fields" : Str) ("_law_fields" : Str) (defArgs (top 30)) (defBody (top 30)) (defScope (top 30)) [] [] gK jE
 gL : S.mg ("_law_fields" : Str) = some (.ref gK)
 fV : PySem.W.keepIn S.K (.ref gK) = true
 lA : Addr
 nK : FuncData
 sD : FunD S.K ("is_whole" : Str) ("is_whole" : Str) (defArgs (top 16)) (defBody (top 16)) (defScope (top 16)) [] [] lA nK
 zL : S.mg ("is_whole" : Str) = some (.ref lA)
 v7 : PySem.W.keepIn S.K (.ref lA) = true
 jY : Addr
 mE : FuncData
 pY : FunD S.K ("is_within" : Str) ("is_within" : Str) (defArgs (top 17)) (defBody (top 17)) (defScope (top 17)) [] [] jY mE
 hY : S.mg ("is_within" : Str) = some (.ref jY)
 gE : PySem.W.keepIn S.K (.ref jY) = true
 jT : Addr
 lW : FuncData
 pH : FunD S.K ("are_ranks" : Str) ("are_ranks" : Str) (defArgs (top 18)) (defBody (top 18)) (defScope (top 18)) [] [] jT lW
 vI : S.mg ("are_ranks" : Str) = some (.ref jT)
 t5 : PySem.W.keepIn S.K (.ref jT) = true
 m6 : Addr
 t6 : FuncData
 xK : FunD S.K ("is_tie" : Str) ("is_tie" : Str) (defArgs (top 19)) (defBody (top 19)) (defScope (top 19)) [] [] m6 t6
 GY : S.mg ("is_tie" : Str) = some (.ref m6)
 BA : PySem.W.keepIn S.K (.ref m6) = true
 kW : Addr
 nV : FuncData
 sT : FunD S.K ("are_ties" : Str) ("are_ties" : Str) (defArgs (top 20)) (defBody (top 20)) (defScope (top 20)) [] [] kW nV
 zD : S.mg ("are_ties" : Str) = some (.ref kW)
 vM : PySem.W.keepIn S.K (.ref kW) = true
 kQ : Addr
 nM : FuncData
 sG : FunD S.K ("is_field" : Str) ("is_field" : Str) (defArgs (top 21)) (defBody (top 21)) (defScope (top 21)) [] [] kQ nM
 zE : S.mg ("is_field" : Str) = some (.ref kQ)
 v9 : PySem.W.keepIn S.K (.ref kQ) = true
 lV : Addr
 mC : FuncData
 pU : FunD S.K ("__init__" : Str) ("Plan.__init__" : Str) (defArgs (inClass (top 23) 0)) (defBody (inClass (top 23) 0)) (defScope (inClass (top 23) 0)) [] [(("every" : Str), (.int 1)), (("lost" : Str), (.int 1)), (("slow" : Str), (.int 1)), (("bears" : Str), .non), (("gap" : Str), (.int 1)), (("hold" : Str), (.int 0)), (("takes" : Str), (.bl true)), (("ties" : Str), (.ref k.i4)), (("hosts" : Str), (.int 0))] lV mC
 OW : Mk S.K k.aN lV
 jZ : Addr
 l8 : FuncData
 pK : FunD S.K ("_law_made" : Str) ("_law_made" : Str) (defArgs (top 29)) (defBody (top 29)) (defScope (top 29)) [] [] jZ l8
 hV : S.mg ("_law_made" : Str) = some (.ref jZ)
 gG : PySem.W.keepIn S.K (.ref jZ) = true
 fU : Addr
 iD : FuncData
 kY : FunD S.K ("_law_refused" : Str) ("_law_refused" : Str) (defArgs (top 33)) (defBody (top 33)) (defScope (top 33)) [] [] fU iD
 dB : S.mg ("_law_refused" : Str) = some (.ref fU)
 cX : PySem.W.keepIn S.K (.ref fU) = true
 jM : Addr
 mA : FuncData
 pG : FunD S.K ("_law_with" : Str) ("_law_with" : Str) (defArgs (top 32)) (defBody (top 32)) (defScope (top 32)) [] [] jM mA
 cW : S.mg ("_law_with" : Str) = some (.ref jM)
 cF : PySem.W.keepIn S.K (.ref jM) = true
 dS : Addr
 fD : FuncData
 gU : FunD S.K ("_law_cords_right" : Str) ("_law_cords_right" : Str) (defArgs (top 36)) (defBody (top 36)) (defScope (top 36)) [] [] dS fD
 lM : S.mg ("_law_cords_right" : Str) = some (.ref dS)
 j9 : PySem.W.keepIn S.K (.ref dS) = true
 jL : Addr
 lU : FuncData
 qC : FunD S.K ("_law_deck" : Str) ("_law_deck" : Str) (defArgs (top 25)) (defBody (top 25)) (defScope (top 25)) [] [] jL lU
 vX : S.mg ("_law_deck" : Str) = some (.ref jL)
 tJ : PySem.W.keepIn S.K (.ref jL) = true
 dC : Addr
 eI : FuncData
 f9 : FunD S.K ("_law_numbers_right" : Str) ("_law_numbers_right" : Str) (defArgs (top 34)) (defBody (top 34)) (defScope (top 34)) [] [] dC eI
 j0 : S.mg ("_law_numbers_right" : Str) = some (.ref dC)
 iW : PySem.W.keepIn S.K (.ref dC) = true
 eG : Addr
 fQ : FuncData
 iM : FunD S.K ("_law_rows_right" : Str) ("_law_rows_right" : Str) (defArgs (top 35)) (defBody (top 35)) (defScope (top 35)) [] [] eG fQ
 lY : S.mg ("_law_rows_right" : Str) = some (.ref eG)
 lN : PySem.W.keepIn S.K (.ref eG) = true
 jJ : Addr
 lT : FuncData
 pD : FunD S.K ("_law_pick" : Str) ("_law_pick" : Str) (defArgs (top 27)) (defBody (top 27)) (defScope (top 27)) [] [] jJ lT
 lX : S.mg ("_law_pick" : Str) = some (.ref jJ)
 kF : PySem.W.keepIn S.K (.ref jJ) = true
 jS : Addr
 mB : FuncData
 pW : FunD S.K ("_law_told" : Str) ("_law_told" : Str) (defArgs (top 28)) (defBody (top 28)) (defScope (top 28)) [] [] jS mB
 vG : S.mg ("_law_told" : Str) = some (.ref jS)
 tO : PySem.W.keepIn S.K (.ref jS) = true
 BH : Addr
 LO : FuncData
 W7 : FunD S.K ("law" : Str) ("law" : Str) (defArgs (top 37)) (defBody (top 37)) (defScope (top 37)) [] [] BH LO
 WS : S.mg ("law" : Str) = some (.ref BH)
 ZR : PySem.W.keepIn S.K (.ref BH) = true
 jD : Addr
 jB : FuncData
 mV : FunD S.K ("__init__" : Str) ("NoPlan.__init__" : Str) (defArgs (inClass (top 8) 0)) (defBody (inClass (top 8) 0)) (defScope (inClass (top 8) 0)) [] [] jD jB
 qK : ZU S.K k.cC k.lI jD ("field" : Str)
 n5 : PySem.W.exmOne S.K (.ref k.cC) (.ref k.cC) = some true
theorem BI {S : aX} (h : Fx S) : FnOk S.P S.w S.K S.mg S.base Z9 1 h.jD h.jB [("self" : Str), ("field" : Str)] (spX h.k.cC ("field" : Str)) := UJ h.qK h.mV (cN (by decide +kernel)) rfl rfl h.vV rfl (.inl rfl) (.inl rfl) rfl rfl (fun _ => rfl) (fun _ => rfl) (fun _ => rfl)
theorem BB {S : aX} (h : Fx S) : Binds S.K h.jB [("self" : Str), ("field" : Str)] [] := Q8 (L2.FunD.bindsA h.mV fun _ _ _ _ _ _ us hl => match us, hl with
 | [_, _], _ => rfl)
def uP (k : bN) : List (Addr × Bool) := [(k.cC, true)]
theorem JV {S : aX} (h : Fx S) : P7 S.K h.k.cC (uP h.k) := (U3 h.n5 ZF)
def fG (k : bN) : List Addr := [k.cC]
theorem uV {S : aX} (h : Fx S) : SY S.K (fG h.k) ("field" : Str) := (U2 h.qK Y8)
def oM : List Str := [("_law_deck_here" : Str), ("_law_bound" : Str), ("_law_at" : Str), ("_law_cells" : Str), ("_law_seed" : Str), ("_law_number" : Str)]
def oY : List Str := [("_law_deck_here" : Str), ("_law_bound" : Str)]
abbrev vT : Scope := defScope (top 26)
def wG (k : bN) : MS :=
 (aI (aP (aE bE (aE aZ (aB 0) (eC (.str ("at" : Str)))) (eC (.int 1))) (dI (aB 0) (eC (.str ("at" : Str)))))
 (aI (aP (aE aZ (aB 0) (eC (.str ("at" : Str)))) (aR 2))
 (aI (aP (aE aZ (aB 0) (eC (.str ("cells" : Str)))) (aR 3))
 (aI (aP (aE bE (aE aZ (aB 0) (eC (.str ("sum" : Str)))) (aB 2)) (aR 4))
 (aI (dE (a8 (aE kJ (aB 3) (cD aD))) (aI (aP (dA "list" uU (aB 3) (aA (eC (.int 0)) aD)) (aR 4))
 (dE (a8 (aE V6 (aB 4) (aE JZ (eC (.int 10)) (eC (.int 18))))) (aI (b6 (dA "list" qR (aB 3) (aA (eC (.int 0)) (aA (aE rC (aB 4) (aB 1)) aD))))
 (a7 (aE iU (aB 4) (aB 1)))) a5)) a5)
 (aI (aP (aE iU (aE bE (aE bE (aE mulM (aE iU (aB 4) (eC (.int 2147483647))) (eC (.int 48271))) (aE mulM (aE mulM (eC (.int 69621)) (aB 2)) (aB 2))) (eC (.int 7919))) (eC (.int 2147483629))) (aR 5))
 (aI (aP (aE iU (aE mulM (aB 5) (aB 5)) (eC (.int 2147483587))) (aR 5))
 (a7 (aE iU (aE rC (aE iU (aE mulM (aB 5) (aE bE (aB 5) (eC (.int 39373)))) (eC (.int 2147483563))) (eC (.int 64))) (aB 1))))))))))
def aY (k : bN) : MF := bM (wG k) oM
theorem B3 : FnScope oM oY vT := cN (by decide +kernel)
theorem DG {S : aX} (h : Fx S) : tV (S.body 0 oM vT) (defBody (top 26)) (wG h.k) :=
 (aO (CL (bB cU (eB (jv 0) cH) aG) (QS (jv 0) cH))
 (aO (oH 2 (eB (jv 0) cH))
 (aO (oH 3 (eB (jv 0) cH))
 (aO (oH 4 (bB cU (eB (jv 0) cH) (jv 2)))
 (aO (iX (dZ rG (jv 3) (cI aF)) (aO (oH 4 (tM PySem.F.plainAttrs_list PySem.F.slot_list_pop SK (jv 3) (aC aG aF)))
 (bA (iX (dZ aAF (jv 4) (bB ZN aG aG)) (aO (uM (tM PySem.F.plainAttrs_list PySem.F.slot_list_insert MX (jv 3) (aC aG (aC (bB K7 (jv 4) (jv 1)) aF))))
 (bA (cB (bB sO (jv 4) (jv 1))))) dU))) dU)
 (aO (oH 5 (bB sO (bB cU (bB cU (bB sS (bB sO (jv 4) aG) aG) (bB sS (bB sS aG (jv 2)) (jv 2))) aG) aG))
 (aO (oH 5 (bB sO (bB sS (jv 5) (jv 5)) aG))
 (bA (cB (bB sO (bB K7 (bB sO (bB sS (jv 5) (bB cU (jv 5) aG)) aG) aG) (jv 1)))))))))))
theorem bK {S : aX} (h : Fx S) : iV S.P S.w S.K S.mg S.base 1 h.jR h.lZ oY (aY h.k) := iV.of h.pR B3 (DG h) fun _ _ _ => .mZ
theorem bL {S : aX} (h : Fx S) : eW S.K h.lZ oY 2 [] aL := cL h.pR fun _ _ _ _ _ _ us hl => match us, hl with
 | [_, _], _ => rfl
def jA : List Str := [("_law_plan_made" : Str), ("_law_found" : Str)]
def mU : List Str := [("_law_plan_made" : Str)]
abbrev rV : Scope := defScope (top 30)
def mJ (k : bN) : MS :=
 (aI (aP (cD (aA (bY k.aN ("ranks" : Str) (aB 0)) (aA (bY k.aN ("every" : Str) (aB 0)) (aA (bY k.aN ("lost" : Str) (aB 0)) (aA (bY k.aN ("slow" : Str) (aB 0)) (aA (bY k.aN ("bears" : Str) (aB 0)) (aA (bY k.aN ("gap" : Str) (aB 0)) aD))))))) (aR 1))
 (a7 (aW fL (aA (aE bE (aB 1) (cD (aA (bY k.aN ("hold" : Str) (aB 0)) (aA (bY k.aN ("takes" : Str) (aB 0)) (aA (bY k.aN ("ties" : Str) (aB 0)) (aA (bY k.aN ("hosts" : Str) (aB 0)) aD)))))) aD))))
def b0 (k : bN) : MF := bM (mJ k) jA
theorem yL : FnScope jA mU rV := cN (by decide +kernel)
theorem zQ {S : aX} (h : Fx S) : tV (S.body 0 jA rV) (defBody (top 30)) (mJ h.k) :=
 (aO (oH 1 (cI (aC (mR h.eQ h.nQ (jv 0)) (aC (mR h.eQ h.nO (jv 0)) (aC (mR h.eQ h.oZ (jv 0)) (aC (mR h.eQ h.pS (jv 0)) (aC (mR h.eQ h.nX (jv 0)) (aC (mR h.eQ h.sE (jv 0)) aF))))))))
 (bA (cB (fR m2 rfl h.iL rfl (aC (bB cU (jv 1) (cI (aC (mR h.eQ h.oT (jv 0)) (aC (mR h.eQ h.nF (jv 0)) (aC (mR h.eQ h.pE (jv 0)) (aC (mR h.eQ h.nY (jv 0)) aF)))))) aF)))))
theorem iK {S : aX} (h : Fx S) : iV S.P S.w S.K S.mg S.base 1 h.gK h.jE mU (b0 h.k) := iV.of h.mK yL (zQ h) fun _ _ _ => .mZ
theorem iE {S : aX} (h : Fx S) : eW S.K h.jE mU 1 [] aL := cL h.mK fun _ _ _ _ _ _ us hl => match us, hl with
 | [_], _ => rfl
def i7 : List Str := [("thing" : Str)]
def sH : List Str := [("thing" : Str)]
abbrev xX : Scope := defScope (top 16)
def k9 (k : bN) : MS :=
 (a7 (mO (aW (lH lS) (aA (aB 0) (aA (eC (.ty "int")) aD))) (sV notM (aW (lH lS) (aA (aB 0) (aA (eC (.ty "bool")) aD))))))
def gX (k : bN) : MF := bM (k9 k) i7
theorem HE : FnScope i7 sH xX := cN (by decide +kernel)
theorem EU {S : aX} (h : Fx S) : tV (S.body 0 i7 xX) (defBody (top 16)) (k9 h.k) :=
 (bA (cB (y3 (bW (sQ nW) rfl h.eD rfl (aC (jv 0) (aC (sP rfl h.BL rfl) aF))) (DO (XN (bW (sQ nW) rfl h.eD rfl (aC (jv 0) (aC (sP rfl h.KU rfl) aF))))))))
theorem GN {S : aX} (h : Fx S) : iV S.P S.w S.K S.mg S.base 1 h.lA h.nK sH (gX h.k) := iV.of h.sD HE (EU h) fun _ _ _ => .mZ
theorem E9 {S : aX} (h : Fx S) : eW S.K h.nK sH 1 [] aL := cL h.sD fun _ _ _ _ _ _ us hl => match us, hl with
 | [_], _ => rfl
def hR : List Str := [("thing" : Str), ("least" : Str), ("most" : Str)]
def oW : List Str := [("thing" : Str), ("least" : Str), ("most" : Str)]
abbrev vQ : Scope := defScope (top 17)
def j4 (k : bN) : MS :=
 (a7 (mO (aH (gX k) 1 aL (aA (aB 0) aD)) (ON JY JY (aB 1) (aB 0) (aB 2))))
def bG (k : bN) : MF := bM (j4 k) hR
theorem BX : FnScope hR oW vQ := cN (by decide +kernel)
theorem DI {S : aX} (h : Fx S) : tV (S.body 1 hR vQ) (defBody (top 17)) (j4 h.k) :=
 (bA (cB (y3 (aV (ae rfl) (GN h) (E9 h) rfl h.zL h.v7 (aC (jv 0) aF)) (DO (R4 EI EI (jv 1) (jv 0) (jv 2))))))
theorem iI {S : aX} (h : Fx S) : iV S.P S.w S.K S.mg S.base 2 h.jY h.mE oW (bG h.k) := iV.of h.pY BX (DI h) fun _ _ _ => .mZ
theorem iS {S : aX} (h : Fx S) : eW S.K h.mE oW 3 [] aL := cL h.pY fun _ _ _ _ _ _ us hl => match us, hl with
 | [_, _, _], _ => rfl
def hZ : List Str := [("thing" : Str), ("row" : Str), ("rank" : Str)]
def pF : List Str := [("thing" : Str)]
abbrev vS : Scope := defScope (top 18)
def jK (k : bN) : MS :=
 (aI (dE (fT (cG (dY (aW (lH lS) (aA (aB 0) (aA (eC (.ty "tuple")) aD))))) (cG (a8 (ON JY JY (eC (.int 1)) (aW dO (aA (aB 0) aD)) (eC (.int 4)))))) (a7 (eC (.bl false))) a5)
 (aI (dE (cG (dY (aW allM (aA (bT (cZ (aB 0)) [1] (aR 1) bU (mO (aW (lH lS) (aA (aB 1) (aA (eC (.ty "tuple")) aD))) (aE JY (aW dO (aA (aB 1) aD)) (eC (.int 6))))) aD)))) (a7 (eC (.bl false))) a5)
 (aI (dE (fT (a8 (aE fE (aE aZ (aB 0) (eC (.int 0))) (aM aD))) (cG (dY (aW allM (aA (bT (cZ (aB 0)) [1] (aR 1) bU (aE fE (aW dO (aA (aB 1) aD)) (aW dO (aA (aE aZ (aB 0) (eC (.int 0))) aD)))) aD))))) (a7 (eC (.bl false))) a5)
 (a7 (aW allM (aA (yJ (cZ (aB 0)) [1, 2] (aR 1) bU (cZ (aB 1)) [2] (aR 2) bU (aH (bG k) 3 aL (aA (aB 2) (aA (eC (.int 1)) (aA (eC (.int 12)) aD))))) aD))))))
def eE (k : bN) : MF := bM (jK k) hZ
theorem B6 : FnScope hZ pF vS := cN (by decide +kernel)
theorem C3 {S : aX} (h : Fx S) : tV (S.body 2 hZ vS) (defBody (top 18)) (jK h.k) :=
 (aO (iX (AL (rD (i5 (fX (bW (sQ nW) rfl h.eD rfl (aC (jv 0) (aC (sP rfl h.iL rfl) aF))))) (oI (i5 (PZ EI EI aG (bW mM rfl h.n7 rfl (aC (jv 0) aF)) (v8 h.nA)))))) (bA (cB lJ)) dU)
 (aO (iX (i5 (fX (bW xT rfl h.BQ rfl (aC (gR (own := [(("row" : Str), 1)]) (iF (jv 0)) (by kernel_rfl) (HZ 1) gQ (y3 (bW (sQ nW) rfl h.eD rfl (aC (jv 1) (aC (sP rfl h.iL rfl) aF))) (DO (kT EI (bW mM rfl h.n7 rfl (aC (jv 1) aF)) (v8 h.rW))))) aF)))) (bA (cB lJ)) dU)
 (aO (iX (AL (rD (dZ rJ (eB (jv 0) aG) (aS aF)) (oI (i5 (fX (bW xT rfl h.BQ rfl (aC (gR (own := [(("row" : Str), 1)]) (iF (jv 0)) (by kernel_rfl) (HZ 1) gQ (kT rJ (bW mM rfl h.n7 rfl (aC (jv 1) aF)) (bW mM rfl h.n7 rfl (aC (eB (jv 0) aG) aF)))) aF))))))) (bA (cB lJ)) dU)
 (bA (cB (bW xT rfl h.BQ rfl (aC (P1 (own := [(("row" : Str), 1), (("rank" : Str), 2)]) (vs1 := [2]) (iF (jv 0)) (by kernel_rfl) (HZ 1) gQ (iF (jv 1)) (HZ 2) gQ (aV (ae rfl) (iI h) (iS h) rfl h.hY h.gE (aC (jv 2) (aC aG (aC (v8 h.WQ) aF))))) aF)))))))
theorem CN {S : aX} (h : Fx S) : iV S.P S.w S.K S.mg S.base 3 h.jT h.lW pF (eE h.k) := iV.of h.pH B6 (C3 h) fun _ _ _ => .mZ
theorem CU {S : aX} (h : Fx S) : eW S.K h.lW pF 1 [] aL := cL h.pH fun _ _ _ _ _ _ us hl => match us, hl with
 | [_], _ => rfl
def m8 : List Str := [("thing" : Str), ("houses" : Str), ("house" : Str), ("tie" : Str), ("less" : Str)]
def zU : List Str := [("thing" : Str), ("houses" : Str)]
abbrev FZ : Scope := defScope (top 19)
def qE (k : bN) : MS :=
 (aI (dE (fT (cG (dY (aW (lH lS) (aA (aB 0) (aA (eC (.ty "tuple")) aD))))) (a8 (aE kJ (aW dO (aA (aB 0) aD)) (eC (.int 3))))) (a7 (eC (.bl false))) a5)
 (aI (aP (aB 0) (bS 3 (aK (aR 2) (aK (aR 3) (aK (aR 4) bR)))))
 (a7 (mO (aH (bG k) 3 aL (aA (aB 2) (aA (eC (.int 0)) (aA (aE iB (aB 1) (eC (.int 1))) aD)))) (mO (aH (bG k) 3 aL (aA (aB 3) (aA (eC (.int 0)) (aA (eC (.int 9)) aD)))) (aH (bG k) 3 aL (aA (aB 4) (aA (eC (.int 1)) (aA (eC (.int 11)) aD)))))))))
def mY (k : bN) : MF := bM (qE k) m8
theorem NQ : FnScope m8 zU FZ := cN (by decide +kernel)
theorem M3 {S : aX} (h : Fx S) : tV (S.body 2 m8 FZ) (defBody (top 19)) (qE h.k) :=
 (aO (iX (AL (rD (i5 (fX (bW (sQ nW) rfl h.eD rfl (aC (jv 0) (aC (sP rfl h.iL rfl) aF))))) (oI (dZ rG (bW mM rfl h.n7 rfl (aC (jv 0) aF)) aG)))) (bA (cB lJ)) dU)
 (aO (CL (jv 0) (zI (n := 3) (eV (AM 2) (eV (AM 3) (eV (AM 4) uD)))))
 (bA (cB (y3 (aV (ae rfl) (iI h) (iS h) rfl h.hY h.gE (aC (jv 2) (aC aG (aC (bB B9 (jv 1) aG) aF)))) (y3 (aV (ae rfl) (iI h) (iS h) rfl h.hY h.gE (aC (jv 3) (aC aG (aC (v8 h.y6) aF)))) (DO (aV (ae rfl) (iI h) (iS h) rfl h.hY h.gE (aC (jv 4) (aC aG (aC (v8 h.wD) aF)))))))))))
theorem NF {S : aX} (h : Fx S) : iV S.P S.w S.K S.mg S.base 3 h.m6 h.t6 zU (mY h.k) := iV.of h.xK NQ (M3 h) fun _ _ _ => .mZ
theorem N0 {S : aX} (h : Fx S) : eW S.K h.t6 zU 2 [] aL := cL h.xK fun _ _ _ _ _ _ us hl => match us, hl with
 | [_, _], _ => rfl
def i8 : List Str := [("thing" : Str), ("houses" : Str), ("one" : Str), ("other" : Str)]
def sC : List Str := [("thing" : Str), ("houses" : Str)]
abbrev xY : Scope := defScope (top 20)
def lG (k : bN) : MS :=
 (aI (dE (fT (cG (dY (aW (lH lS) (aA (aB 0) (aA (eC (.ty "tuple")) aD))))) (fT (a8 (aE BU (aW dO (aA (aB 0) aD)) (eC (.int 6)))) (cG (dY (aW allM (aA (bT (cZ (aB 0)) [2] (aR 2) bU (aH (mY k) 2 aL (aA (aB 2) (aA (aB 1) aD)))) aD)))))) (a7 (eC (.bl false))) a5)
 (a7 (aW allM (aA (bT (dP W2 (aA (nD kH (aB 0) cY (cK (sV nR (eC (.int 1))))) (aA (nD kH (aB 0) (cK (eC (.int 1))) cY) aD))) [2, 3] (bS 2 (aK (aR 2) (aK (aR 3) bR))) bU (aE BR (nD kH (aB 2) cY (cK (eC (.int 2)))) (nD kH (aB 3) cY (cK (eC (.int 2)))))) aD))))
def i6 (k : bN) : MF := bM (lG k) i8
theorem D5 : FnScope i8 sC xY := cN (by decide +kernel)
theorem G8 {S : aX} (h : Fx S) : tV (S.body 3 i8 xY) (defBody (top 20)) (lG h.k) :=
 (aO (iX (AL (rD (i5 (fX (bW (sQ nW) rfl h.eD rfl (aC (jv 0) (aC (sP rfl h.iL rfl) aF))))) (rD (dZ WT (bW mM rfl h.n7 rfl (aC (jv 0) aF)) (v8 h.vL)) (oI (i5 (fX (bW xT rfl h.BQ rfl (aC (gR (own := [(("one" : Str), 2)]) (iF (jv 0)) (by kernel_rfl) (HZ 2) gQ (aV (ae rfl) (NF h) (N0 h) rfl h.GY h.BA (aC (jv 2) (aC (jv 1) aF)))) aF)))))))) (bA (cB lJ)) dU)
 (bA (cB (bW xT rfl h.BQ rfl (aC (gR (own := [(("one" : Str), 2), (("other" : Str), 3)]) (aAr rfl h.WL (aC (rP rK (jv 0) jG (jH (L4 DQ aG))) (aC (rP rK (jv 0) (jH aG) jG) aF))) (by kernel_rfl) (YH (n := 2) (HA (HZ 2) (HA (HZ 3) UP))) gQ (kT OL (rP rK (jv 2) jG (jH aG)) (rP rK (jv 3) jG (jH aG)))) aF)))))
theorem GH {S : aX} (h : Fx S) : iV S.P S.w S.K S.mg S.base 4 h.kW h.nV sC (i6 h.k) := iV.of h.sT D5 (G8 h) fun _ _ _ => .mZ
theorem GQ {S : aX} (h : Fx S) : eW S.K h.nV sC 2 [] aL := cL h.sT fun _ _ _ _ _ _ us hl => match us, hl with
 | [_, _], _ => rfl
def i3 : List Str := [("name" : Str), ("thing" : Str), ("houses" : Str), ("least" : Str), ("most" : Str)]
def sN : List Str := [("name" : Str), ("thing" : Str), ("houses" : Str)]
abbrev yK : Scope := defScope (top 21)
def gY (k : bN) : MS :=
 (aI (dE (a8 (aE (NN k.dH dD) (aB 0) (eC (.con k.dH)))) (aI (aP (aE (KL k.dH dD) (eC (.con k.dH)) (aB 0)) (bS 2 (aK (aR 3) (aK (aR 4) bR))))
 (a7 (aH (bG k) 3 aL (aA (aB 1) (aA (aB 3) (aA (aB 4) aD)))))) a5)
 (aI (dE (a8 (aE fE (aB 0) (eC (.str ("takes" : Str))))) (a7 (aW (lH lS) (aA (aB 1) (aA (eC (.ty "bool")) aD)))) a5)
 (a7 (aH (i6 k) 2 aL (aA (aB 1) (aA (aB 2) aD))))))
def c8 (k : bN) : MF := bM (gY k) i3
theorem D6 : FnScope i3 sN yK := cN (by decide +kernel)
theorem EN {S : aX} (h : Fx S) : tV (S.body 4 i3 yK) (defBody (top 21)) (gY h.k) :=
 (aO (iX (dZ (X5 h.uS) (jv 0) (v8 h.u7)) (aO (CL (ZI h.uS (v8 h.u7) (jv 0)) (zI (n := 2) (eV (AM 3) (eV (AM 4) uD))))
 (bA (cB (aV (ae rfl) (iI h) (iS h) rfl h.hY h.gE (aC (jv 1) (aC (jv 3) (aC (jv 4) aF))))))) dU)
 (aO (iX (dZ rJ (jv 0) cH) (bA (cB (bW (sQ nW) rfl h.eD rfl (aC (jv 1) (aC (sP rfl h.KU rfl) aF))))) dU)
 (bA (cB (aV (ae rfl) (GH h) (GQ h) rfl h.zD h.vM (aC (jv 1) (aC (jv 2) aF)))))))
theorem D9 {S : aX} (h : Fx S) : iV S.P S.w S.K S.mg S.base 5 h.kQ h.nM sN (c8 h.k) := iV.of h.sG D6 (EN h) fun _ _ _ => .mZ
theorem GL {S : aX} (h : Fx S) : eW S.K h.nM sN 3 [] aL := cL h.sG fun _ _ _ _ _ _ us hl => match us, hl with
 | [_, _, _], _ => rfl
def eY : List Str := [("self" : Str), ("ranks" : Str), ("every" : Str), ("lost" : Str), ("slow" : Str), ("bears" : Str), ("gap" : Str), ("hold" : Str), ("takes" : Str), ("ties" : Str), ("hosts" : Str), ("borne" : Str), ("told" : Str), ("name" : Str), ("thing" : Str)]
def oS : List Str := [("self" : Str), ("ranks" : Str), ("every" : Str), ("lost" : Str), ("slow" : Str), ("bears" : Str), ("gap" : Str), ("hold" : Str), ("takes" : Str), ("ties" : Str), ("hosts" : Str)]
abbrev v3 : Scope := defScope (inClass (top 23) 0)
def jI (k : bN) : MS :=
 (aI (dE (cG (dY (aH (eE k) 1 aL (aA (aB 1) aD)))) (uT k.cC ("field" : Str) (eC (.str ("ranks" : Str)))) a5)
 (aI (aP (VE (a8 (aE TC (aB 5) (eC .non))) (aB 3) (aB 5)) (aR 11))
 (aI (aP (zS (c9 (eC (.str ("every" : Str))) (aB 2) (c9 (eC (.str ("lost" : Str))) (aB 3) (c9 (eC (.str ("slow" : Str))) (aB 4) (c9 (eC (.str ("bears" : Str))) (aB 11) (c9 (eC (.str ("gap" : Str))) (aB 6) (c9 (eC (.str ("hold" : Str))) (aB 7) (c9 (eC (.str ("takes" : Str))) (aB 8) AF)))))))) (aR 12))
 (aI (b6 (dA "dict" II (aB 12) (aA (zS (c9 (eC (.str ("ties" : Str))) (aB 9) (c9 (eC (.str ("hosts" : Str))) (aB 10) AF))) aD)))
 (aI (dR (qZ (aB 12)) (bS 2 (aK (aR 13) (aK (aR 14) bR))) (dE (cG (dY (aH (c8 k) 3 aL (aA (aB 13) (aA (aB 14) (aA (aW dO (aA (aE aZ (aB 1) (eC (.int 0))) aD)) aD)))))) (uT k.cC ("field" : Str) (aB 13)) a5))
 (aI (cM k.aN ("ranks" : Str) (aB 0) (aB 1))
 (aI (cM k.aN ("every" : Str) (aB 0) (aB 2))
 (aI (cM k.aN ("lost" : Str) (aB 0) (aB 3))
 (aI (cM k.aN ("slow" : Str) (aB 0) (aB 4))
 (aI (cM k.aN ("bears" : Str) (aB 0) (aB 11))
 (aI (cM k.aN ("gap" : Str) (aB 0) (aB 6))
 (aI (cM k.aN ("hold" : Str) (aB 0) (aB 7))
 (aI (cM k.aN ("takes" : Str) (aB 0) (aB 8))
 (aI (cM k.aN ("ties" : Str) (aB 0) (aB 9))
 (cM k.aN ("hosts" : Str) (aB 0) (aB 10))))))))))))))))
def hU (k : bN) : MF := bM (jI k) eY
theorem CO : FnScope eY oS v3 := cN (by decide +kernel)
theorem C5 {S : aX} (h : Fx S) : tV (S.body 5 eY v3) (defBody (inClass (top 23) 0)) (jI h.k) :=
 (aO (iX (i5 (fX (aV (ae rfl) (CN h) (CU h) rfl h.vI h.t5 (aC (jv 1) aF)))) (bA (HP (ae rfl) h.qK (BI h) (BB h) rfl h.qY cH)) dU)
 (aO (oH 11 (aAz (dZ W3 (jv 5) kS) (jv 3) (jv 5)))
 (aO (oH 12 (KN (gT cH (jv 2) (gT cH (jv 3) (gT cH (jv 4) (gT cH (jv 11) (gT cH (jv 6) (gT cH (jv 7) (gT cH (jv 8) IK)))))))))
 (aO (uM (tM PySem.F.plainAttrs_dict PySem.F.slot_dict_update NA (jv 12) (aC (KN (gT cH (jv 9) (gT cH (jv 10) IK))) aF)))
 (aO (mT (QY (jv 12)) (zI (n := 2) (eV (AM 13) (eV (AM 14) uD))) (bA (iX (i5 (fX (aV (ae rfl) (D9 h) (GL h) rfl h.zE h.v9 (aC (jv 13) (aC (jv 14) (aC (bW mM rfl h.n7 rfl (aC (eB (jv 1) aG) aF)) aF)))))) (bA (HP (ae rfl) h.qK (BI h) (BB h) rfl h.qY (jv 13))) dU)))
 (aO (fJ h.eQ h.nQ (jv 0) (jv 1))
 (aO (fJ h.eQ h.nO (jv 0) (jv 2))
 (aO (fJ h.eQ h.oZ (jv 0) (jv 3))
 (aO (fJ h.eQ h.pS (jv 0) (jv 4))
 (aO (fJ h.eQ h.nX (jv 0) (jv 11))
 (aO (fJ h.eQ h.sE (jv 0) (jv 6))
 (aO (fJ h.eQ h.oT (jv 0) (jv 7))
 (aO (fJ h.eQ h.nF (jv 0) (jv 8))
 (aO (fJ h.eQ h.pE (jv 0) (jv 9))
 (bA (fJ h.eQ h.nY (jv 0) (jv 10)))))))))))))))))
theorem B4 {S : aX} (h : Fx S) : iV S.P S.w S.K S.mg S.base 6 h.lV h.mC oS (hU h.k) := iV.of h.pU CO (C5 h) fun _ _ _ => .mZ
abbrev aT (k : bN) : List D → List D → List D := fun xs zs => jQ [(0, 0), (0, 1), (1, 8), (1, 7), (1, 6), (1, 5), (1, 4), (1, 3), (1, 2), (1, 1), (1, 0)] xs zs []
theorem cR {S : aX} (h : Fx S) : eW S.K h.mC oS 2 [("hosts" : Str), ("ties" : Str), ("takes" : Str), ("hold" : Str), ("gap" : Str), ("bears" : Str), ("slow" : Str), ("lost" : Str), ("every" : Str)] (aT h.k) := SR h.pU 2 _ [] _ _ (by simp) (by simp) (fun I F => by simp [RepL]) (fun _ _ _ _ _ _ us mv ws h1 h2 h3 => match us, mv, ws, h1, h2, h3 with
 | [_, _], [], [_, _, _, _, _, _, _, _, _], _, _, _ => rfl) fun xs zs h1 h2 => match xs, zs, h1, h2 with
 | [_, _], [_, _, _, _, _, _, _, _, _], _, _ => rfl
def iA : List Str := [("_law_told_here" : Str)]
def pL : List Str := [("_law_told_here" : Str)]
abbrev wH : Scope := defScope (top 29)
def hE (k : bN) : MS :=
 (a7 (sU k.aN (hU k) 1 9 (aT k) (aA (aE aZ (aB 0) (eC (.int 0))) aD) (aA (aE aZ (aB 0) (eC (.int 9))) (aA (aE aZ (aB 0) (eC (.int 8))) (aA (aE aZ (aB 0) (eC (.int 7))) (aA (aE aZ (aB 0) (eC (.int 6))) (aA (aE aZ (aB 0) (eC (.int 5))) (aA (aE aZ (aB 0) (eC (.int 4))) (aA (aE aZ (aB 0) (eC (.int 3))) (aA (aE aZ (aB 0) (eC (.int 2))) (aA (aE aZ (aB 0) (eC (.int 1))) aD)))))))))))
def bX (k : bN) : MF := bM (hE k) iA
theorem CV : FnScope iA pL wH := cN (by decide +kernel)
theorem BY {S : aX} (h : Fx S) : tV (S.body 7 iA wH) (defBody (top 29)) (hE h.k) :=
 (bA (cB (jmk (ae rfl) h.OW (B4 h) (cR h) rfl h.MC (aC (eB (jv 0) aG) aF) (kE (eB (jv 0) aG) (kE (eB (jv 0) aG) (kE (eB (jv 0) aG) (kE (eB (jv 0) aG) (kE (eB (jv 0) aG) (kE (eB (jv 0) aG) (kE (eB (jv 0) aG) (kE (eB (jv 0) aG) (kE (eB (jv 0) aG) ZP))))))))))))
theorem iP {S : aX} (h : Fx S) : iV S.P S.w S.K S.mg S.base 8 h.jZ h.l8 pL (bX h.k) := iV.of h.pK CV (BY h) fun _ _ _ => .mZ
theorem iH {S : aX} (h : Fx S) : eW S.K h.l8 pL 1 [] aL := cL h.pK fun _ _ _ _ _ _ us hl => match us, hl with
 | [_], _ => rfl
def iQ : List Str := [("_law_told_here" : Str), ("_law_found" : Str), ("e" : Str)]
def lB : List Str := [("_law_told_here" : Str)]
abbrev oJ : Scope := defScope (top 33)
def kZ (k : bN) : MS :=
 (aI (aP (eC .non) (aR 1))
 (aI (IC (b6 (aH (bX k) 1 aL (aA (aB 0) aD))) (uP k) 2 (GC (fG k) ("field" : Str) 1))
 (a7 (aB 1))))
def a9 (k : bN) : MF := bM (kZ k) iQ
theorem wW : FnScope iQ lB oJ := cN (by decide +kernel)
theorem wO {S : aX} (h : Fx S) : NI (S.body 8 iQ oJ) (defBody (top 33)) (kZ h.k) :=
 (E8 (JS.t (oH 1 kS))
 (E8 (YQ (i := 2) rfl rfl rfl h.qY (JV h) (bA (uM (aV (ae rfl) (iP h) (iH h) rfl h.hV h.gG (aC (jv 0) aF)))) (YT (i := 2) (j := 1) rfl rfl rfl rfl (uV h)))
 (TJ (JS.t (cB (jv 1))))))
theorem dN {S : aX} (h : Fx S) : iV S.P S.w S.K S.mg S.base 9 h.fU h.iD lB (a9 h.k) := iV.ofT h.kY wW (wO h) fun _ _ _ => .mZ
theorem dM {S : aX} (h : Fx S) : eW S.K h.iD lB 1 [] aL := cL h.kY fun _ _ _ _ _ _ us hl => match us, hl with
 | [_], _ => rfl
def mD : List Str := [("_law_told_here" : Str), ("_law_k" : Str), ("_law_it" : Str)]
def pB : List Str := [("_law_told_here" : Str), ("_law_k" : Str), ("_law_it" : Str)]
abbrev vO : Scope := defScope (top 32)
def qL (k : bN) : MS :=
 (a7 (aE bE (aE bE (nD kH (aB 0) cY (cK (aB 1))) (cD (aA (aB 2) aD))) (nD kH (aB 0) (cK (aE bE (aB 1) (eC (.int 1)))) cY)))
def bC (k : bN) : MF := bM (qL k) mD
theorem CY : FnScope mD pB vO := cN (by decide +kernel)
theorem CJ {S : aX} (h : Fx S) : tV (S.body 0 mD vO) (defBody (top 32)) (qL h.k) :=
 (bA (cB (bB cU (bB cU (rP rK (jv 0) jG (jH (jv 1))) (cI (aC (jv 2) aF))) (rP rK (jv 0) (jH (bB cU (jv 1) aG)) jG))))
theorem cP {S : aX} (h : Fx S) : iV S.P S.w S.K S.mg S.base 1 h.jM h.mA pB (bC h.k) := iV.of h.pG CY (CJ h) fun _ _ _ => .mZ
theorem cS {S : aX} (h : Fx S) : eW S.K h.mA pB 3 [] aL := cL h.pG fun _ _ _ _ _ _ us hl => match us, hl with
 | [_, _, _], _ => rfl
def fF : List Str := [("_law_deck_here" : Str), ("_law_told_here" : Str), ("_law_last" : Str), ("_law_house" : Str), ("_law_six" : Str), ("_law_good" : Str), ("_law_more" : Str), ("_law_bad" : Str), ("_law_seven" : Str), ("_law_it" : Str), ("_law_some" : Str), ("_law_tie_at" : Str)]
def g6 : List Str := [("_law_deck_here" : Str), ("_law_told_here" : Str)]
abbrev lQ : Scope := defScope (top 36)
def hD (k : bN) : MS :=
 (aI (aP (aE iB (aW dO (aA (aE aZ (aE aZ (aB 1) (eC (.int 0))) (eC (.int 0))) aD)) (eC (.int 1))) (aR 2))
 (aI (aP (aH (aY k) 2 aL (aA (aB 0) (aA (aE bE (aB 2) (eC (.int 1))) aD))) (aR 3))
 (aI (aP (aW fL (aA (bT (cZ (aM (aA (eC (.int 0)) (aA (eC (.int 1)) (aA (eC (.int 2)) (aA (eC (.int 4)) (aA (eC (.int 8)) (aA (eC (.int 9)) aD)))))))) [11] (aR 11) bU (aM (aA (aB 3) (aA (aB 11) (aA (aE bE (eC (.int 1)) (aB 11)) aD))))) aD)) (aR 4))
 (aI (aP (cD (aA (aM aD) (aA (aB 4) (aA (nD kH (aB 4) cY (cK (eC (.int 1)))) (aA (aM (aA (aM (aA (eC (.int 0)) (aA (eC (.int 0)) (aA (eC (.int 1)) aD)))) aD)) (aA (aM (aA (aM (aA (aB 2) (aA (eC (.int 9)) (aA (eC (.int 11)) aD)))) aD)) (aA (nD kH (aM (aA (aM (aA (eC (.int 0)) (aA (eC (.int 9)) (aA (eC (.int 1)) aD)))) (aA (aM (aA (aB 2) (aA (eC (.int 9)) (aA (eC (.int 2)) aD)))) aD))) cY (cK (aE bE (eC (.int 1)) (aW oB (aA (aE BU (aB 2) (eC (.int 0))) aD))))) aD))))))) (aR 5))
 (aI (aP (aE bE (aE bE (aB 4) (aE nP (aM (aA (aM (aA (aB 2) (aA (eC (.int 9)) (aA (eC (.int 1)) aD)))) aD)) (aW oB (aA (aE BR (aB 3) (aB 2)) aD)))) (aE nP (aM (aA (aM (aA (aB 3) (aA (eC (.int 9)) (aA (eC (.int 11)) aD)))) aD)) (aW oB (aA (aE fE (aB 3) (aB 2)) aD)))) (aR 6))
 (aI (aP (cD (aA (aB 6) (aA (sV NL (aB 4)) (aA (aE bE (aB 4) (nD kH (aB 4) (cK (sV nR (eC (.int 1)))) cY)) aD)))) (aR 7))
 (aI (aP (aE bE (aB 7) (cD (aA (aM (aA (aM (aA (aE bE (aB 2) (eC (.int 1))) (aA (eC (.int 0)) (aA (eC (.int 1)) aD)))) aD)) (aA (aM (aA (aM (aA (sV nR (eC (.int 1))) (aA (eC (.int 0)) (aA (eC (.int 1)) aD)))) aD)) (aA (aM (aA (aM (aA (eC (.int 0)) (aA (eC (.int 10)) (aA (eC (.int 1)) aD)))) aD)) (aA (aM (aA (aM (aA (eC (.int 0)) (aA (sV nR (eC (.int 1))) (aA (eC (.int 1)) aD)))) aD)) (aA (aM (aA (aM (aA (eC (.int 0)) (aA (eC (.int 0)) (aA (eC (.int 0)) aD)))) aD)) (aA (aM (aA (aM (aA (eC (.int 0)) (aA (eC (.int 0)) (aA (eC (.int 12)) aD)))) aD)) (aA (eC .non) aD))))))))) (aR 7))
 (aI (aP (aE tL (aB 7) (cD (aA (aM (aA (aM (aA (eC (.int 0)) (aA (eC (.int 0)) (aA (eC (.int 1)) aD)))) (aA (aM (aA (eC (.int 0)) (aA (eC (.int 0)) (aA (eC (.int 2)) aD)))) aD))) (aA (aM (aA (aM (aA (eC (.int 0)) (aA (eC (.int 0)) (aA (eC (.int 1)) (aA (eC (.int 1)) aD))))) aD)) (aA (aM (aA (aM (aA (eC (.int 0)) (aA (eC (.int 0)) aD))) aD)) (aA (aM (aA (cD (aA (eC (.int 0)) (aA (eC (.int 0)) (aA (eC (.int 1)) aD)))) aD)) (aA (cD (aA (aM (aA (eC (.int 0)) (aA (eC (.int 0)) (aA (eC (.int 1)) aD)))) aD)) (aA (aM (aA (aM (aA (eC (.bl true)) (aA (eC (.int 0)) (aA (eC (.int 1)) aD)))) aD)) aD)))))))) (aR 7))
 (aI (b6 (dA "list" cO (aB 7) (aA (aM (aA (eC (.int 0)) (aA (eC (.int 0)) (aA (eC (.int 1)) aD)))) aD)))
 (aI (aP (aW fL (aA (bT (dP i0 (aA (eC (.int 7)) aD)) [11] (aR 11) bU (aM (aA (aB 3) (aA (aB 11) (aA (eC (.int 1)) aD))))) aD)) (aR 8))
 (aI (dR (cZ (aB 5)) (aR 9) (aI (aP (aH (bC k) 3 aL (aA (aB 1) (aA (eC (.int 8)) (aA (aB 9) aD)))) (aR 10))
 (dE (fT (a8 (aE mH (aH (a9 k) 1 aL (aA (aB 10) aD)) (eC .non))) (a8 (aE kJ (aE aZ (aH (b0 k) 1 aL (aA (aH (bX k) 1 aL (aA (aB 10) aD)) aD)) (eC (.int 8))) (aB 9)))) (a7 (eC (.bl false))) a5)))
 (a7 (aE fE (bT (cZ (aE zK (aB 7) (cD (aA (aB 8) aD)))) [9] (aR 9) (a8 (aE kJ (aH (a9 k) 1 aL (aA (aH (bC k) 3 aL (aA (aB 1) (aA (eC (.int 8)) (aA (aB 9) aD)))) aD)) (eC (.str ("ties" : Str))))) (aB 9)) (cD aD))))))))))))))
def fC (k : bN) : MF := bM (hD k) fF
theorem q5 : FnScope fF g6 lQ := cN (by decide +kernel)
theorem q6 {S : aX} (h : Fx S) : tV (S.body 9 fF lQ) (defBody (top 36)) (hD h.k) :=
 (aO (oH 2 (bB B9 (bW mM rfl h.n7 rfl (aC (eB (eB (jv 1) aG) aG) aF)) aG))
 (aO (oH 3 (aV (ae rfl) (bK h) (bL h) rfl h.bQ h.bJ (aC (jv 0) (aC (bB cU (jv 2) aG) aF))))
 (aO (oH 4 (fR m2 rfl h.iL rfl (aC (gR (own := [(("_law_tie_at" : Str), 11)]) (iF (aS (aC aG (aC aG (aC aG (aC aG (aC aG (aC aG aF)))))))) (by kernel_rfl) (HZ 11) gQ (aS (aC (jv 3) (aC (jv 11) (aC (bB cU aG (jv 11)) aF))))) aF)))
 (aO (oH 5 (cI (aC (aS aF) (aC (jv 4) (aC (rP rK (jv 4) jG (jH aG)) (aC (aS (aC (aS (aC aG (aC aG (aC aG aF)))) aF)) (aC (aS (aC (aS (aC (jv 2) (aC aG (aC aG aF)))) aF)) (aC (rP rK (aS (aC (aS (aC aG (aC aG (aC aG aF)))) (aC (aS (aC (jv 2) (aC aG (aC aG aF)))) aF))) jG (jH (bB cU aG (fR CT rfl h.BL rfl (aC (kT WT (jv 2) aG) aF))))) aF))))))))
 (aO (oH 6 (bB cU (bB cU (jv 4) (bB qN (aS (aC (aS (aC (jv 2) (aC aG (aC aG aF)))) aF)) (fR CT rfl h.BL rfl (aC (kT OL (jv 3) (jv 2)) aF)))) (bB qN (aS (aC (aS (aC (jv 3) (aC aG (aC aG aF)))) aF)) (fR CT rfl h.BL rfl (aC (kT rJ (jv 3) (jv 2)) aF)))))
 (aO (oH 7 (cI (aC (jv 6) (aC (V4 (jv 4)) (aC (bB cU (jv 4) (rP rK (jv 4) (jH (L4 DQ aG)) jG)) aF)))))
 (aO (oH 7 (bB cU (jv 7) (cI (aC (aS (aC (aS (aC (bB cU (jv 2) aG) (aC aG (aC aG aF)))) aF)) (aC (aS (aC (aS (aC (L4 DQ aG) (aC aG (aC aG aF)))) aF)) (aC (aS (aC (aS (aC aG (aC aG (aC aG aF)))) aF)) (aC (aS (aC (aS (aC aG (aC (L4 DQ aG) (aC aG aF)))) aF)) (aC (aS (aC (aS (aC aG (aC aG (aC aG aF)))) aF)) (aC (aS (aC (aS (aC aG (aC aG (aC aG aF)))) aF)) (aC kS aF))))))))))
 (aO (oH 7 (bB EB (jv 7) (cI (aC (aS (aC (aS (aC aG (aC aG (aC aG aF)))) (aC (aS (aC aG (aC aG (aC aG aF)))) aF))) (aC (aS (aC (aS (aC aG (aC aG (aC aG (aC aG aF))))) aF)) (aC (aS (aC (aS (aC aG (aC aG aF))) aF)) (aC (aS (aC (cI (aC aG (aC aG (aC aG aF)))) aF)) (aC (cI (aC (aS (aC aG (aC aG (aC aG aF)))) aF)) (aC (aS (aC (aS (aC lJ (aC aG (aC aG aF)))) aF)) aF)))))))))
 (aO (uM (tM PySem.F.plainAttrs_list PySem.F.slot_list_append A7 (jv 7) (aC (aS (aC aG (aC aG (aC aG aF)))) aF)))
 (aO (oH 8 (fR m2 rfl h.iL rfl (aC (gR (own := [(("_law_tie_at" : Str), 11)]) (kN rfl h.kA (aC aG aF)) (by kernel_rfl) (HZ 11) gQ (aS (aC (jv 3) (aC (jv 11) (aC aG aF))))) aF)))
 (aO (mT (iF (jv 5)) (AM 9) (aO (oH 10 (aV (ae rfl) (cP h) (cS h) rfl h.cW h.cF (aC (jv 1) (aC aG (aC (jv 9) aF)))))
 (bA (iX (AL (rD (dZ xS (aV (ae rfl) (dN h) (dM h) rfl h.dB h.cX (aC (jv 10) aF)) kS) (oI (dZ rG (eB (aV (ae rfl) (iK h) (iE h) rfl h.gL h.fV (aC (aV (ae rfl) (iP h) (iH h) rfl h.hV h.gG (aC (jv 10) aF)) aF)) aG) (jv 9))))) (bA (cB lJ)) dU))))
 (bA (cB (kT rJ (gR (own := [(("_law_it" : Str), 9)]) (iF (bB LK (jv 7) (cI (aC (jv 8) aF)))) (by kernel_rfl) (HZ 9) (BZ (dZ rG (aV (ae rfl) (dN h) (dM h) rfl h.dB h.cX (aC (aV (ae rfl) (cP h) (cS h) rfl h.cW h.cF (aC (jv 1) (aC aG (aC (jv 9) aF)))) aF)) cH)) (jv 9)) (cI aF)))))))))))))))
theorem q9 {S : aX} (h : Fx S) : iV S.P S.w S.K S.mg S.base 10 h.dS h.fD g6 (fC h.k) := iV.of h.gU q5 (q6 h) fun _ _ _ => .mZ
theorem q7 {S : aX} (h : Fx S) : eW S.K h.fD g6 2 [] aL := cL h.gU fun _ _ _ _ _ _ us hl => match us, hl with
 | [_, _], _ => rfl
def oQ : List Str := [("_law_script" : Str), ("_law_cells" : Str)]
def qA : List Str := [("_law_script" : Str)]
abbrev vY : Scope := defScope (top 25)
def vR (k : bN) : MS :=
 (aI (aP (aW yF (aA (nD kH (aB 0) cY (cK (eC (.int 63)))) aD)) (aR 1))
 (a7 (zS (c9 (eC (.str ("cells" : Str))) (aB 1) (c9 (eC (.str ("at" : Str))) (eC (.int 0)) (c9 (eC (.str ("sum" : Str))) (aE bE (aE iU (aW HD (aA (aB 1) aD)) (eC (.int 2147483629))) (aE mulM (eC (.int 17)) (aW dO (aA (aB 1) aD)))) AF))))))
def qJ (k : bN) : MF := bM (vR k) oQ
theorem B1 : FnScope oQ qA vY := cN (by decide +kernel)
theorem C1 {S : aX} (h : Fx S) : tV (S.body 0 oQ vY) (defBody (top 25)) (vR h.k) :=
 (aO (oH 1 (fR S0 rfl h.QX rfl (aC (rP rK (jv 0) jG (jH aG)) aF)))
 (bA (cB (KN (gT cH (jv 1) (gT cH aG (gT cH (bB cU (bB sO (bW X4 rfl h.WR rfl (aC (jv 1) aF)) aG) (bB sS aG (bW mM rfl h.n7 rfl (aC (jv 1) aF)))) IK)))))))
theorem C8 {S : aX} (h : Fx S) : iV S.P S.w S.K S.mg S.base 1 h.jL h.lU qA (qJ h.k) := iV.of h.qC B1 (C1 h) fun _ _ _ => .mZ
theorem DV {S : aX} (h : Fx S) : eW S.K h.lU qA 1 [] aL := cL h.qC fun _ _ _ _ _ _ us hl => match us, hl with
 | [_], _ => rfl
def eO : List Str := [("_law_told_here" : Str), ("_law_spans" : Str), ("_law_name" : Str), ("_law_k" : Str), ("_law_least" : Str), ("_law_bound" : Str), ("_law_it" : Str), ("_law_some" : Str)]
def gC : List Str := [("_law_told_here" : Str)]
abbrev jX : Scope := defScope (top 34)
def fY (k : bN) : MS :=
 (aI (aP (cD (aA (aM (aA (eC (.str ("every" : Str))) (aA (eC (.int 1)) (aA (eC (.int 1)) (aA (eC (.int 5)) aD))))) (aA (aM (aA (eC (.str ("lost" : Str))) (aA (eC (.int 2)) (aA (eC (.int 0)) (aA (eC (.int 3)) aD))))) (aA (aM (aA (eC (.str ("slow" : Str))) (aA (eC (.int 3)) (aA (eC (.int 1)) (aA (eC (.int 4)) aD))))) (aA (aM (aA (eC (.str ("bears" : Str))) (aA (eC (.int 4)) (aA (eC (.int 0)) (aA (eC (.int 3)) aD))))) (aA (aM (aA (eC (.str ("gap" : Str))) (aA (eC (.int 5)) (aA (eC (.int 0)) (aA (eC (.int 3)) aD))))) aD)))))) (aR 1))
 (aI (dR (cZ (aE bE (aB 1) (cD (aA (aM (aA (eC (.str ("hold" : Str))) (aA (eC (.int 6)) (aA (eC (.int 0)) (aA (eC (.int 20)) aD))))) (aA (aM (aA (eC (.str ("hosts" : Str))) (aA (eC (.int 9)) (aA (eC (.int 0)) (aA (eC (.int 4)) aD))))) aD))))) (bS 4 (aK (aR 2) (aK (aR 3) (aK (aR 4) (aK (aR 5) bR))))) (aI (dR (cZ (aM (aA (aB 4) (aA (aB 5) aD)))) (aR 6) (aI (aP (aH (bC k) 3 aL (aA (aB 0) (aA (aB 3) (aA (aB 6) aD)))) (aR 7))
 (dE (fT (a8 (aE mH (aH (a9 k) 1 aL (aA (aB 7) aD)) (eC .non))) (a8 (aE kJ (aE aZ (aH (b0 k) 1 aL (aA (aH (bX k) 1 aL (aA (aB 7) aD)) aD)) (aB 3)) (aB 6)))) (a7 (eC (.bl false))) a5)))
 (dR (cZ (aM (aA (aE iB (aB 4) (eC (.int 1))) (aA (aE bE (aB 5) (eC (.int 1))) (aA (eC .non) (aA (eC (.bl true)) aD)))))) (aR 6) (dE (fO (a8 (aE kJ (aH (a9 k) 1 aL (aA (aH (bC k) 3 aL (aA (aB 0) (aA (aB 3) (aA (aB 6) aD)))) aD)) (aB 2))) (cG (fO (a8 (aE fE (aB 2) (eC (.str ("bears" : Str))))) (a8 (aE TC (aB 6) (eC .non)))))) (a7 (eC (.bl false))) a5))))
 (aI (dR (dP i0 (aA (eC (.int 4)) aD)) (aR 6) (dE (a8 (aE kJ (aE aZ (aH (b0 k) 1 aL (aA (aH (bX k) 1 aL (aA (aH (bC k) 3 aL (aA (aH (bC k) 3 aL (aA (aB 0) (aA (eC (.int 4)) (aA (eC .non) aD)))) (aA (eC (.int 2)) (aA (aB 6) aD)))) aD)) aD)) (eC (.int 4))) (aB 6))) (a7 (eC (.bl false))) a5))
 (a7 (aE fE (bT (cZ (aM (aA (eC (.int 0)) (aA (eC (.int 1)) (aA (eC .non) (aA (eC (.str ("yes" : Str))) aD)))))) [6] (aR 6) (a8 (aE kJ (aH (a9 k) 1 aL (aA (aH (bC k) 3 aL (aA (aB 0) (aA (eC (.int 7)) (aA (aB 6) aD)))) aD)) (eC (.str ("takes" : Str))))) (aB 6)) (cD aD))))))
def eK (k : bN) : MF := bM (fY k) eO
theorem oE : FnScope eO gC jX := cN (by decide +kernel)
theorem oD {S : aX} (h : Fx S) : tV (S.body 9 eO jX) (defBody (top 34)) (fY h.k) :=
 (aO (oH 1 (cI (aC (aS (aC cH (aC aG (aC aG (aC aG aF))))) (aC (aS (aC cH (aC aG (aC aG (aC aG aF))))) (aC (aS (aC cH (aC aG (aC aG (aC aG aF))))) (aC (aS (aC cH (aC aG (aC aG (aC aG aF))))) (aC (aS (aC cH (aC aG (aC aG (aC aG aF))))) aF)))))))
 (aO (mT (iF (bB cU (jv 1) (cI (aC (aS (aC cH (aC aG (aC aG (aC aG aF))))) (aC (aS (aC cH (aC aG (aC aG (aC aG aF))))) aF))))) (zI (n := 4) (eV (AM 2) (eV (AM 3) (eV (AM 4) (eV (AM 5) uD))))) (aO (mT (iF (aS (aC (jv 4) (aC (jv 5) aF)))) (AM 6) (aO (oH 7 (aV (ae rfl) (cP h) (cS h) rfl h.cW h.cF (aC (jv 0) (aC (jv 3) (aC (jv 6) aF)))))
 (bA (iX (AL (rD (dZ xS (aV (ae rfl) (dN h) (dM h) rfl h.dB h.cX (aC (jv 7) aF)) kS) (oI (dZ rG (eB (aV (ae rfl) (iK h) (iE h) rfl h.gL h.fV (aC (aV (ae rfl) (iP h) (iH h) rfl h.hV h.gG (aC (jv 7) aF)) aF)) (jv 3)) (jv 6))))) (bA (cB lJ)) dU))))
 (bA (mT (iF (aS (aC (bB B9 (jv 4) aG) (aC (bB cU (jv 5) aG) (aC kS (aC lJ aF)))))) (AM 6) (bA (iX (AL (RS (dZ rG (aV (ae rfl) (dN h) (dM h) rfl h.dB h.cX (aC (aV (ae rfl) (cP h) (cS h) rfl h.cW h.cF (aC (jv 0) (aC (jv 3) (aC (jv 6) aF)))) aF)) (jv 2)) (K4 (i5 (AL (RS (dZ rJ (jv 2) cH) (K4 (dZ W3 (jv 6) kS)))))))) (bA (cB lJ)) dU))))))
 (aO (mT (kN rfl h.kA (aC aG aF)) (AM 6) (bA (iX (dZ rG (eB (aV (ae rfl) (iK h) (iE h) rfl h.gL h.fV (aC (aV (ae rfl) (iP h) (iH h) rfl h.hV h.gG (aC (aV (ae rfl) (cP h) (cS h) rfl h.cW h.cF (aC (aV (ae rfl) (cP h) (cS h) rfl h.cW h.cF (aC (jv 0) (aC aG (aC kS aF)))) (aC aG (aC (jv 6) aF)))) aF)) aF)) aG) (jv 6)) (bA (cB lJ)) dU)))
 (bA (cB (kT rJ (gR (own := [(("_law_it" : Str), 6)]) (iF (aS (aC aG (aC aG (aC kS (aC cH aF)))))) (by kernel_rfl) (HZ 6) (BZ (dZ rG (aV (ae rfl) (dN h) (dM h) rfl h.dB h.cX (aC (aV (ae rfl) (cP h) (cS h) rfl h.cW h.cF (aC (jv 0) (aC aG (aC (jv 6) aF)))) aF)) cH)) (jv 6)) (cI aF)))))))
theorem oA {S : aX} (h : Fx S) : iV S.P S.w S.K S.mg S.base 10 h.dC h.eI gC (eK h.k) := iV.of h.f9 oE (oD h) fun _ _ _ => .mZ
theorem oF {S : aX} (h : Fx S) : eW S.K h.eI gC 1 [] aL := cL h.f9 fun _ _ _ _ _ _ us hl => match us, hl with
 | [_], _ => rfl
def fP : List Str := [("_law_deck_here" : Str), ("_law_told_here" : Str), ("_law_rank" : Str), ("_law_bare" : Str), ("_law_good" : Str), ("_law_h" : Str), ("_law_bad" : Str), ("_law_it" : Str), ("_law_a" : Str)]
def iJ : List Str := [("_law_deck_here" : Str), ("_law_told_here" : Str)]
abbrev l7 : Scope := defScope (top 35)
def iO (k : bN) : MS :=
 (aI (aP (aE bE (eC (.int 1)) (aH (aY k) 2 aL (aA (aB 0) (aA (eC (.int 12)) aD)))) (aR 2))
 (aI (aP (aH (bC k) 3 aL (aA (aB 1) (aA (eC (.int 8)) (aA (aM aD) aD)))) (aR 3))
 (aI (aP (cD aD) (aR 4))
 (aI (dR (dP B5 (aA (eC (.int 1)) (aA (eC (.int 7)) aD))) (aR 5) (aP (aE bE (aB 4) (bT (dP B5 (aA (eC (.int 1)) (aA (eC (.int 5)) aD))) [8] (aR 8) bU (aE nP (aM (aA (aE nP (aM (aA (aB 2) aD)) (aB 5)) aD)) (aB 8)))) (aR 4)))
 (aI (aP (cD (aA (aM aD) (aA (aM (aA (aM aD) aD)) (aA (aM (aA (aM aD) (aA (aM aD) aD))) (aA (aM (aA (aE nP (aM (aA (aB 2) aD)) (eC (.int 7))) aD)) (aA (aE nP (aM (aA (aM (aA (aB 2) aD)) aD)) (eC (.int 5))) (aA (aM (aA (aM (aA (aB 2) (aA (aB 2) aD))) (aA (aM (aA (aB 2) aD)) aD))) (aA (aM (aA (aM (aA (aB 2) aD)) (aA (aM (aA (aB 2) (aA (aB 2) aD))) aD))) (aA (aB 2) aD))))))))) (aR 6))
 (aI (aP (aE bE (aB 6) (cD (aA (aM (aA (aM (aA (eC (.int 0)) aD)) aD)) (aA (aM (aA (aM (aA (eC (.int 13)) aD)) aD)) (aA (aM (aA (aM (aA (aB 2) (aA (eC (.int 0)) aD))) aD)) (aA (aM (aA (aM (aA (aB 2) aD)) (aA (aM (aA (eC (.int 13)) aD)) aD))) (aA (aM (aA (aM (aA (eC (.bl true)) aD)) aD)) (aA (aM (aA (cD (aA (aB 2) aD)) aD)) (aA (cD (aA (aM (aA (aB 2) aD)) aD)) (aA (aM (aA (aM (aA (aB 2) aD)) (aA (aM aD) aD))) aD)))))))))) (aR 6))
 (aI (dR (cZ (aB 4)) (aR 7) (dE (fT (a8 (aE mH (aH (a9 k) 1 aL (aA (aH (bC k) 3 aL (aA (aB 3) (aA (eC (.int 0)) (aA (aB 7) aD)))) aD)) (eC .non))) (a8 (aE kJ (aE aZ (aH (b0 k) 1 aL (aA (aH (bX k) 1 aL (aA (aH (bC k) 3 aL (aA (aB 3) (aA (eC (.int 0)) (aA (aB 7) aD)))) aD)) aD)) (eC (.int 0))) (aB 7)))) (a7 (eC (.bl false))) a5))
 (a7 (aE fE (bT (cZ (aB 6)) [7] (aR 7) (a8 (aE kJ (aH (a9 k) 1 aL (aA (aH (bC k) 3 aL (aA (aB 3) (aA (eC (.int 0)) (aA (aB 7) aD)))) aD)) (eC (.str ("ranks" : Str))))) (aB 7)) (cD aD))))))))))
def fN (k : bN) : MF := bM (iO k) fP
theorem r6 : FnScope fP iJ l7 := cN (by decide +kernel)
theorem r5 {S : aX} (h : Fx S) : tV (S.body 9 fP l7) (defBody (top 35)) (iO h.k) :=
 (aO (oH 2 (bB cU aG (aV (ae rfl) (bK h) (bL h) rfl h.bQ h.bJ (aC (jv 0) (aC aG aF)))))
 (aO (oH 3 (aV (ae rfl) (cP h) (cS h) rfl h.cW h.cF (aC (jv 1) (aC aG (aC (aS aF) aF)))))
 (aO (oH 4 (cI aF))
 (aO (mT (BO rfl h.kA (aC aG (aC aG aF))) (AM 5) (bA (oH 4 (bB cU (jv 4) (gR (own := [(("_law_a" : Str), 8)]) (BO rfl h.kA (aC aG (aC aG aF))) (by kernel_rfl) (HZ 8) gQ (bB qN (aS (aC (bB qN (aS (aC (jv 2) aF)) (jv 5)) aF)) (jv 8)))))))
 (aO (oH 6 (cI (aC (aS aF) (aC (aS (aC (aS aF) aF)) (aC (aS (aC (aS aF) (aC (aS aF) aF))) (aC (aS (aC (bB qN (aS (aC (jv 2) aF)) aG) aF)) (aC (bB qN (aS (aC (aS (aC (jv 2) aF)) aF)) aG) (aC (aS (aC (aS (aC (jv 2) (aC (jv 2) aF))) (aC (aS (aC (jv 2) aF)) aF))) (aC (aS (aC (aS (aC (jv 2) aF)) (aC (aS (aC (jv 2) (aC (jv 2) aF))) aF))) (aC (jv 2) aF))))))))))
 (aO (oH 6 (bB cU (jv 6) (cI (aC (aS (aC (aS (aC aG aF)) aF)) (aC (aS (aC (aS (aC aG aF)) aF)) (aC (aS (aC (aS (aC (jv 2) (aC aG aF))) aF)) (aC (aS (aC (aS (aC (jv 2) aF)) (aC (aS (aC aG aF)) aF))) (aC (aS (aC (aS (aC lJ aF)) aF)) (aC (aS (aC (cI (aC (jv 2) aF)) aF)) (aC (cI (aC (aS (aC (jv 2) aF)) aF)) (aC (aS (aC (aS (aC (jv 2) aF)) (aC (aS aF) aF))) aF)))))))))))
 (aO (mT (iF (jv 4)) (AM 7) (bA (iX (AL (rD (dZ xS (aV (ae rfl) (dN h) (dM h) rfl h.dB h.cX (aC (aV (ae rfl) (cP h) (cS h) rfl h.cW h.cF (aC (jv 3) (aC aG (aC (jv 7) aF)))) aF)) kS) (oI (dZ rG (eB (aV (ae rfl) (iK h) (iE h) rfl h.gL h.fV (aC (aV (ae rfl) (iP h) (iH h) rfl h.hV h.gG (aC (aV (ae rfl) (cP h) (cS h) rfl h.cW h.cF (aC (jv 3) (aC aG (aC (jv 7) aF)))) aF)) aF)) aG) (jv 7))))) (bA (cB lJ)) dU)))
 (bA (cB (kT rJ (gR (own := [(("_law_it" : Str), 7)]) (iF (jv 6)) (by kernel_rfl) (HZ 7) (BZ (dZ rG (aV (ae rfl) (dN h) (dM h) rfl h.dB h.cX (aC (aV (ae rfl) (cP h) (cS h) rfl h.cW h.cF (aC (jv 3) (aC aG (aC (jv 7) aF)))) aF)) cH)) (jv 7)) (cI aF)))))))))))
theorem r8 {S : aX} (h : Fx S) : iV S.P S.w S.K S.mg S.base 10 h.eG h.fQ iJ (fN h.k) := iV.of h.iM r6 (r5 h) fun _ _ _ => .mZ
theorem r9 {S : aX} (h : Fx S) : eW S.K h.fQ iJ 2 [] aL := cL h.iM fun _ _ _ _ _ _ us hl => match us, hl with
 | [_, _], _ => rfl
def pM : List Str := [("_law_deck_here" : Str), ("_law_some" : Str)]
def oR : List Str := [("_law_deck_here" : Str), ("_law_some" : Str)]
abbrev v5 : Scope := defScope (top 27)
def vW (k : bN) : MS :=
 (a7 (aE aZ (aB 1) (aH (aY k) 2 aL (aA (aB 0) (aA (aW dO (aA (aB 1) aD)) aD)))))
def eZ (k : bN) : MF := bM (vW k) pM
theorem C4 : FnScope pM oR v5 := cN (by decide +kernel)
theorem DL {S : aX} (h : Fx S) : tV (S.body 1 pM v5) (defBody (top 27)) (vW h.k) :=
 (bA (cB (eB (jv 1) (aV (ae rfl) (bK h) (bL h) rfl h.bQ h.bJ (aC (jv 0) (aC (bW mM rfl h.n7 rfl (aC (jv 1) aF)) aF))))))
theorem nZ {S : aX} (h : Fx S) : iV S.P S.w S.K S.mg S.base 2 h.jJ h.lT oR (eZ h.k) := iV.of h.pD C4 (DL h) fun _ _ _ => .mZ
theorem nE {S : aX} (h : Fx S) : eW S.K h.lT oR 2 [] aL := cL h.pD fun _ _ _ _ _ _ us hl => match us, hl with
 | [_, _], _ => rfl
def hX : List Str := [("_law_deck_here" : Str), ("_law_great" : Str), ("_law_houses" : Str), ("_law_addresses" : Str), ("_law_low" : Str), ("_law_rows" : Str), ("_law_cords" : Str), ("_law_k" : Str), ("_law_some" : Str), ("_law_found" : Str), ("_law_a" : Str), ("_law_h" : Str), ("_law_pair" : Str)]
def pX : List Str := [("_law_deck_here" : Str), ("_law_great" : Str)]
abbrev vH : Scope := defScope (top 28)
def jW (k : bN) : MS :=
 (aI (aP (aM (aA (aE aZ (cD (aA (aE bE (eC (.int 1)) (aH (aY k) 2 aL (aA (aB 0) (aA (eC (.int 6)) aD)))) (aA (eC (.int 6)) aD))) (aB 1)) (aA (aE aZ (cD (aA (aE bE (eC (.int 1)) (aH (aY k) 2 aL (aA (aB 0) (aA (eC (.int 4)) aD)))) (aA (eC (.int 4)) aD))) (aB 1)) aD))) (bS 2 (aK (aR 2) (aK (aR 3) bR))))
 (aI (aP (aH (eZ k) 2 aL (aA (aB 0) (aA (cD (aA (eC (.int 1)) (aA (eC (.int 8)) (aA (eC (.int 9)) (aA (eC (.int 10)) aD))))) aD))) (aR 4))
 (aI (aP (bT (dP i0 (aA (aB 3) aD)) [10] (aR 10) bU (aW fL (aA (bT (dP i0 (aA (aB 2) aD)) [11] (aR 11) bU (aE bE (aB 4) (aH (aY k) 2 aL (aA (aB 0) (aA (aE iB (eC (.int 13)) (aB 4)) aD))))) aD))) (aR 5))
 (aI (aP nL (aR 6))
 (aI (dR (dP i0 (aA (aE aZ (cD (aA (aH (aY k) 2 aL (aA (aB 0) (aA (eC (.int 7)) aD))) (aA (eC (.int 24)) aD))) (aB 1)) aD)) (aR 7) (dE (a8 (aE BR (aW zH (aA (aB 6) aD)) (eC (.int 6)))) (aP (aE aZ (cD (aA (eC (.int 1)) (aA (eC (.int 9)) (aA (eC (.int 10)) (aA (eC (.int 11)) (aA (eC (.int 2)) aD)))))) (aH (aY k) 2 aL (aA (aB 0) (aA (eC (.int 5)) aD)))) (dI (aB 6) (aM (aA (aH (aY k) 2 aL (aA (aB 0) (aA (aB 2) aD))) (aA (aH (aY k) 2 aL (aA (aB 0) (aA (eC (.int 10)) aD))) aD))))) a5))
 (aI (aP (aW fL (aA (aW kB (aA (bT (qU (aB 6)) [12] (aR 12) bU (aE bE (aB 12) (aM (aA (aE aZ (aB 6) (aB 12)) aD)))) aD)) aD)) (aR 8))
 (aI (aP (cD (aA (aW fL (aA (aB 5) aD)) (aA (aE bE (eC (.int 1)) (aH (aY k) 2 aL (aA (aB 0) (aA (eC (.int 5)) aD)))) (aA (aH (aY k) 2 aL (aA (aB 0) (aA (eC (.int 4)) aD))) (aA (aE bE (eC (.int 1)) (aH (aY k) 2 aL (aA (aB 0) (aA (eC (.int 4)) aD)))) aD))))) (aR 9))
 (aI (aP (aE tL (aB 9) (cD (aA (aH (eZ k) 2 aL (aA (aB 0) (aA (cD (aA (eC .non) (aA (eC (.int 0)) (aA (eC (.int 1)) (aA (eC (.int 2)) (aA (eC (.int 3)) aD)))))) aD))) (aA (aH (aY k) 2 aL (aA (aB 0) (aA (eC (.int 4)) aD))) aD)))) (aR 9))
 (aI (b6 (dA "list" cO (aB 9) (aA (aH (eZ k) 2 aL (aA (aB 0) (aA (cD (aA (eC (.int 0)) (aA (eC (.int 9)) (aA (eC (.int 10)) (aA (eC (.int 20)) (aA (aH (aY k) 2 aL (aA (aB 0) (aA (eC (.int 21)) aD))) aD)))))) aD))) aD)))
 (a7 (aE zK (aB 9) (cD (aA (aE fE (aH (aY k) 2 aL (aA (aB 0) (aA (eC (.int 2)) aD))) (eC (.int 1))) (aA (aB 8) (aA (aH (aY k) 2 aL (aA (aB 0) (aA (eC (.int 5)) aD))) aD)))))))))))))))
def j3 (k : bN) : MF := bM (jW k) hX
theorem DD : FnScope hX pX vH := cN (by decide +kernel)
theorem CP {S : aX} (h : Fx S) : tV (S.body 2 hX vH) (defBody (top 28)) (jW h.k) :=
 (aO (QA (aS (aC (eB (cI (aC (bB cU aG (aV (ae rfl) (bK h) (bL h) rfl h.bQ h.bJ (aC (jv 0) (aC aG aF)))) (aC aG aF))) (jv 1)) (aC (eB (cI (aC (bB cU aG (aV (ae rfl) (bK h) (bL h) rfl h.bQ h.bJ (aC (jv 0) (aC aG aF)))) (aC aG aF))) (jv 1)) aF))) (zI (n := 2) (eV (AM 2) (eV (AM 3) uD))))
 (aO (oH 4 (aV (ae rfl) (nZ h) (nE h) rfl h.lX h.kF (aC (jv 0) (aC (cI (aC aG (aC aG (aC aG (aC aG aF))))) aF))))
 (aO (jsc 5 (own := [(("_law_a" : Str), 10)]) (kN rfl h.kA (aC (jv 3) aF)) (by kernel_rfl) (HZ 10) gQ (fR m2 rfl h.iL rfl (aC (gR (own := [(("_law_h" : Str), 11)]) (kN rfl h.kA (aC (jv 2) aF)) (by kernel_rfl) (HZ 11) gQ (bB cU (jv 4) (aV (ae rfl) (bK h) (bL h) rfl h.bQ h.bJ (aC (jv 0) (aC (bB B9 aG (jv 4)) aF))))) aF)))
 (aO (oH 6 Q9)
 (aO (mT (kN rfl h.kA (aC (eB (cI (aC (aV (ae rfl) (bK h) (bL h) rfl h.bQ h.bJ (aC (jv 0) (aC aG aF))) (aC aG aF))) (jv 1)) aF)) (AM 7) (bA (iX (dZ OL (bW Q3 rfl h.n7 rfl (aC (jv 6) aF)) aG) (bA (CL (eB (cI (aC aG (aC aG (aC aG (aC aG (aC aG aF)))))) (aV (ae rfl) (bK h) (bL h) rfl h.bQ h.bJ (aC (jv 0) (aC aG aF)))) (QS (jv 6) (aS (aC (aV (ae rfl) (bK h) (bL h) rfl h.bQ h.bJ (aC (jv 0) (aC (jv 2) aF))) (aC (aV (ae rfl) (bK h) (bL h) rfl h.bQ h.bJ (aC (jv 0) (aC aG aF))) aF)))))) dU)))
 (aO (oH 8 (fR m2 rfl h.iL rfl (aC (bW NV rfl h.EK rfl (aC (gR (own := [(("_law_pair" : Str), 12)]) (UC (jv 6)) (by kernel_rfl) (HZ 12) gQ (bB cU (jv 12) (aS (aC (eB (jv 6) (jv 12)) aF)))) aF)) aF)))
 (aO (oH 9 (cI (aC (fR m2 rfl h.iL rfl (aC (jv 5) aF)) (aC (bB cU aG (aV (ae rfl) (bK h) (bL h) rfl h.bQ h.bJ (aC (jv 0) (aC aG aF)))) (aC (aV (ae rfl) (bK h) (bL h) rfl h.bQ h.bJ (aC (jv 0) (aC aG aF))) (aC (bB cU aG (aV (ae rfl) (bK h) (bL h) rfl h.bQ h.bJ (aC (jv 0) (aC aG aF)))) aF))))))
 (aO (oH 9 (bB EB (jv 9) (cI (aC (aV (ae rfl) (nZ h) (nE h) rfl h.lX h.kF (aC (jv 0) (aC (cI (aC kS (aC aG (aC aG (aC aG (aC aG aF)))))) aF))) (aC (aV (ae rfl) (bK h) (bL h) rfl h.bQ h.bJ (aC (jv 0) (aC aG aF))) aF)))))
 (aO (uM (tM PySem.F.plainAttrs_list PySem.F.slot_list_append A7 (jv 9) (aC (aV (ae rfl) (nZ h) (nE h) rfl h.lX h.kF (aC (jv 0) (aC (cI (aC aG (aC aG (aC aG (aC aG (aC (aV (ae rfl) (bK h) (bL h) rfl h.bQ h.bJ (aC (jv 0) (aC aG aF))) aF)))))) aF))) aF)))
 (bA (cB (bB LK (jv 9) (cI (aC (kT rJ (aV (ae rfl) (bK h) (bL h) rfl h.bQ h.bJ (aC (jv 0) (aC aG aF))) aG) (aC (jv 8) (aC (aV (ae rfl) (bK h) (bL h) rfl h.bQ h.bJ (aC (jv 0) (aC aG aF))) aF))))))))))))))))
theorem DM {S : aX} (h : Fx S) : iV S.P S.w S.K S.mg S.base 3 h.jS h.mB pX (j3 h.k) := iV.of h.pW DD (CP h) fun _ _ _ => .mZ
theorem DW {S : aX} (h : Fx S) : eW S.K h.mB pX 2 [] aL := cL h.pW fun _ _ _ _ _ _ us hl => match us, hl with
 | [_, _], _ => rfl
def LM : List Str := [("_law_script" : Str), ("_law_deck_here" : Str), ("_law_turn" : Str), ("_law_told_here" : Str)]
def WW : List Str := [("_law_script" : Str)]
abbrev XA : Scope := defScope (top 37)
def QT (k : bN) : MS :=
 (aI (aP (aH (qJ k) 1 aL (aA (aB 0) aD)) (aR 1))
 (aI (dR (dP i0 (aA (eC (.int 2)) aD)) (aR 2) (aI (aP (aH (j3 k) 2 aL (aA (aB 1) (aA (aW oB (aA (aE fE (aH (aY k) 2 aL (aA (aB 1) (aA (eC (.int 8)) aD))) (eC (.int 5))) aD)) aD))) (aR 3))
 (dE (fT (cG (dY (aH (eK k) 1 aL (aA (aB 3) aD)))) (fT (cG (dY (aH (fN k) 2 aL (aA (aB 1) (aA (aB 3) aD))))) (cG (dY (aH (fC k) 2 aL (aA (aB 1) (aA (aB 3) aD))))))) (a7 (eC (.bl false))) a5)))
 (a7 (eC (.bl true)))))
def HV (k : bN) : MF := bM (QT k) LM
theorem YR : FnScope LM WW XA := cN (by decide +kernel)
theorem YD {S : aX} (h : Fx S) : tV (S.body 10 LM XA) (defBody (top 37)) (QT h.k) :=
 (aO (oH 1 (aV (ae rfl) (C8 h) (DV h) rfl h.vX h.tJ (aC (jv 0) aF)))
 (aO (mT (kN rfl h.kA (aC aG aF)) (AM 2) (aO (oH 3 (aV (ae rfl) (DM h) (DW h) rfl h.vG h.tO (aC (jv 1) (aC (fR CT rfl h.BL rfl (aC (kT rJ (aV (ae rfl) (bK h) (bL h) rfl h.bQ h.bJ (aC (jv 1) (aC aG aF))) aG) aF)) aF))))
 (bA (iX (AL (rD (i5 (fX (aV (ae rfl) (oA h) (oF h) rfl h.j0 h.iW (aC (jv 3) aF)))) (rD (i5 (fX (aV (ae rfl) (r8 h) (r9 h) rfl h.lY h.lN (aC (jv 1) (aC (jv 3) aF))))) (oI (i5 (fX (aV (ae rfl) (q9 h) (q7 h) rfl h.lM h.j9 (aC (jv 1) (aC (jv 3) aF))))))))) (bA (cB lJ)) dU))))
 (bA (cB lJ))))
theorem ZE {S : aX} (h : Fx S) : iV S.P S.w S.K S.mg S.base 11 h.BH h.LO WW (HV h.k) := iV.of h.W7 YR (YD h) fun _ _ _ => .mZ
end K05
namespace K05
open PySem PySem.Spec PyProof.Rows L2 Pc Lb Lw
abbrev lk (k : K05.bN) : Lb.bN := ⟨k.aN, k.dH⟩
section
variable (k : K05.bN)
theorem X3 : K05.qJ k = KI := rfl
theorem u3 : K05.aY k = oK := rfl
theorem R8 : K05.eZ k = JR := rfl
theorem CZ : K05.eE k = Lb.eE (lk k) := rfl
theorem V2 : K05.c8 k = Lb.c8 (lk k) := rfl
theorem aA0 (x0 : D) : begin iA [x0] = [some x0] := rfl
theorem aB1 (x0 : D) : begin jA [x0] = [some x0, none] := rfl
theorem aB6 (x0 x1 x2 : D) : begin mD [x0, x1, x2] = [some x0, some x1, some x2] := rfl
theorem aCa (x0 : D) : begin iQ [x0] = [some x0, none, none] := rfl
theorem aBA (x0 : D) : begin eO [x0] = [some x0, none, none, none, none, none, none, none] := rfl
theorem aBy (x0 x1 : D) : begin fP [x0, x1] = [some x0, some x1, none, none, none, none, none, none, none] := rfl
theorem aBv (x0 x1 : D) : begin fF [x0, x1] = [some x0, some x1, none, none, none, none, none, none, none, none, none, none] := rfl
theorem aB0 (x0 x1 : D) : begin hX [x0, x1] = [some x0, some x1, none, none, none, none, none, none, none, none, none, none, none] := rfl
theorem bel (x0 : D) : begin LM [x0] = [some x0, none, none, none] := rfl
structure Fd where
 r : D
 ev : D
 lo : D
 sl : D
 be : D
 ga : D
 ho : D
 ta : D
 ti : D
 hs : D
def bP (f : Fd) : List D := [f.r, f.ev, f.lo, f.sl, f.be, f.ga, f.ho, f.ta, f.ti, f.hs]
def BM : D → Bool
 | .bl _ => true
 | _ => false
def dX (f : Fd) : D := if f.be.isNon = true then f.lo else f.be
def items (f : Fd) : List (Str × D) := [("every", f.ev), ("lost", f.lo), ("slow", f.sl), ("bears", dX f), ("gap", f.ga), ("hold", f.ho), ("takes", f.ta), ("ties", f.ti), ("hosts", f.hs)]
def fM (h : Int) (z : Str) (d : D) : Bool := match Lb.dD.lookup z with
 | some (some (.kK [.int lo, .int hi])) => aU lo hi d
 | _ => if z = "takes" then BM d else j7 h d
def iT : D → Int
 | .tup (.tup r :: _) => r.length
 | _ => 0
def bH (f : Fd) : Option Str := if b5 f.r = true then ((items f).find? fun p => !fM (iT f.r) p.1 p.2).map Prod.fst else some "ranks"
def wN (f : Fd) : Prop := ∀ d ∈ bP f, gH 6 d = true
variable {w w' : W} {P : D → W → Prop} {PF : Fl → W → Prop} {PX : XD → W → Prop} {f : Fd} {p n : Nat} {d : D}
theorem U6 {h : Int} {z : Str} (hz : z ∈ (["every", "lost", "slow", "bears", "gap", "hold", "takes", "ties", "hosts"] : List Str)) (e : gH 6 d = true) (hP : P (.bl (fM h z d)) w) : T (K05.c8 k [.str z, d, .int h] w) P := by
 rw [V2]
 have num : ∀ (z : Str) (lo hi : Int), Lb.dD.lookup z = some (some (.kK [.int lo, .int hi])) → P (.bl (fM h z d)) w → T (Lb.c8 (lk k) [.str z, d, .int h] w) P := fun z lo hi hz hP => by
  unfold fM at hP
  rw [hz] at hP
  simp only [Lb.c8, Lb.gY, pJ, Q0 hz, aAX hz, Option.isSome_some, fH, bF, c5, sX, HQ, xU, uE, yB, A6, FL, yI, uY, x8, tT, yX, tP, T_C, ZW, FF, OJ, G9, SQ, Q5, z4, tZ, HJ, E5, ER, HL, zJ, xV, uB, u9, EC, QW, EL, FJ, j5, uW, G6, nT, fW, uN, sY, rO, nN, EJ, OR, Q4, NG, M0, yT, D8, pN, pA, HR, yQ, x9, y9, bZ, List.getElem?_cons_zero, List.getElem?_cons_succ, List.set_cons_zero, List.set_cons_succ, List.length_cons, List.length_nil, aL, true_and, and_true, x5, yM, yR, QK, tD, uK, BC, zV, lF, GX, HS, wB, rX, GZ, m4, ah, bj, aa, Bool.not_true, Bool.not_false, Bool.true_eq_false, ite_true, ite_false, reduceCtorEq]
  have aw := fun PP => m3 (k := lk k) (w := w) (P := PP) lo hi e
  simp only [aw, fH, bF, c5, sX, HQ, xU, uE, yB, A6, FL, yI, uY, x8, tT, yX, tP, T_C, ZW, FF, OJ, G9, SQ, Q5, z4, tZ, HJ, E5, ER, HL, zJ, xV, uB, u9, EC, QW, EL, FJ, j5, uW, G6, nT, fW, uN, sY, rO, nN, EJ, OR, Q4, NG, M0, yT, D8, pN, pA, HR, yQ, x9, y9, bZ, List.getElem?_cons_zero, List.getElem?_cons_succ, List.set_cons_zero, List.set_cons_succ, List.length_cons, List.length_nil, aL, true_and, and_true, x5, yM, yR, QK, tD, uK, BC, zV, lF, GX, HS, wB, rX, GZ, m4, ah, bj, aa, Bool.not_true, Bool.not_false, Bool.true_eq_false, ite_true, ite_false, reduceCtorEq]
  exact hP
 simp only [br, bx, or_false] at hz
 rcases hz with rfl | rfl | rfl | rfl | rfl | rfl | rfl | rfl | rfl
 ·exact num _ _ _ rfl hP
 ·exact num _ _ _ rfl hP
 ·exact num _ _ _ rfl hP
 ·exact num _ _ _ rfl hP
 ·exact num _ _ _ rfl hP
 ·exact num _ _ _ rfl hP
 ·have hz : Lb.dD.lookup ("takes" : Str) = some none := rfl
  have he : rA (.str ("takes" : Str)) (.str ("takes" : Str)) w = some true := by rw [DS (by decide +kernel) (by decide +kernel)]; decide +kernel
  have hB : P (.bl (BM d)) w := hP
  simp only [Lb.c8, Lb.gY, pJ, Q0 hz, DR he, Option.isSome_none, Q2 e, fH, bF, c5, sX, HQ, xU, uE, yB, A6, FL, yI, uY, x8, tT, yX, tP, T_C, ZW, FF, OJ, G9, SQ, Q5, z4, tZ, HJ, E5, ER, HL, zJ, xV, uB, u9, EC, QW, EL, FJ, j5, uW, G6, nT, fW, uN, sY, rO, nN, EJ, OR, Q4, NG, M0, yT, D8, pN, pA, HR, yQ, x9, y9, bZ, List.getElem?_cons_zero, List.getElem?_cons_succ, List.set_cons_zero, List.set_cons_succ, List.length_cons, List.length_nil, aL, true_and, and_true, x5, yM, yR, QK, tD, uK, BC, zV, lF, GX, HS, wB, rX, GZ, m4, ah, bj, aa, Bool.not_true, Bool.not_false, Bool.true_eq_false, ite_true, ite_false, reduceCtorEq]
  cases d <;> exact hB
 ·have hz : Lb.dD.lookup ("ties" : Str) = some none := rfl
  have he : rA (.str ("ties" : Str)) (.str ("takes" : Str)) w = some false := by rw [DS (by decide +kernel) (by decide +kernel)]; decide +kernel
  simp only [Lb.c8, Lb.gY, pJ, Q0 hz, DR he, Option.isSome_none, fH, bF, c5, sX, HQ, xU, uE, yB, A6, FL, yI, uY, x8, tT, yX, tP, T_C, ZW, FF, OJ, G9, SQ, Q5, z4, tZ, HJ, E5, ER, HL, zJ, xV, uB, u9, EC, QW, EL, FJ, j5, uW, G6, nT, fW, uN, sY, rO, nN, EJ, OR, Q4, NG, M0, yT, D8, pN, pA, HR, yQ, x9, y9, bZ, List.getElem?_cons_zero, List.getElem?_cons_succ, List.set_cons_zero, List.set_cons_succ, List.length_cons, List.length_nil, aL, true_and, and_true, x5, yM, yR, QK, tD, uK, BC, zV, lF, GX, HS, wB, rX, GZ, m4, ah, bj, aa, Bool.not_true, Bool.not_false, Bool.true_eq_false, ite_true, ite_false, reduceCtorEq]
  exact XF (n := 4) (lk k) e hP
 ·exact num _ _ _ rfl hP
theorem seq_eq {a b : MS} {σ σ1 : Sg} {w w1 : W} (h : T (a σ w) fun f u => f = .nx σ1 ∧ u = w1) : aI a b σ w = b σ1 w1 := by
 obtain ⟨g, u, e, e1, e2⟩ := h.ex
 subst e1
 subst e2
 unfold aI
 rw [e]
 rfl
theorem HU {d : D} (h : b5 d = true) : ∃ r0 rest, d = .tup (.tup r0 :: rest) ∧ 1 ≤ r0.length ∧ r0.length ≤ 6 ∧ rest.length ≤ 3 := by
 cases d <;> first | (simp [b5] at h; done) | skip
 rename_i xs
 simp only [b5, ak, au, ay, Bool.not_eq_true'] at h
 obtain ⟨⟨h1, h2⟩, h3, h4, -⟩ := h
 cases xs with
 | nil => simp at h1
 | cons x xs =>
  have h5 := h3 x (az ..)
  cases x <;> first | (simp [y7] at h5; done) | skip
  rename_i ys
  simp [y7] at h5
  simp [g9] at h4
  refine ⟨ys, xs, rfl, ?_, h5, by simp at h2; omega⟩
  cases ys with
  | nil => exact absurd rfl h4
  | cons => simp
def OF (f : Fd) : List (Key × D) := (items f).map fun p => (.inr p.1, p.2)
def vP (f : Fd) : List (Key × D) := [(.inr "ties", f.ti), (.inr "hosts", f.hs)]
def G2 (f : Fd) (p q : Nat) (s13 s14 : Option D) : Sg := [some (.ref p), some f.r, some f.ev, some f.lo, some f.sl, some f.be, some f.ga, some f.ho, some f.ta, some f.ti, some f.hs, some (dX f), some (.ref q), s13, s14]
def MH : MS := (dE (cG (dY (aH (c8 k) 3 aL (aA (aB 13) (aA (aB 14) (aA (aW dO (aA (aE aZ (aB 1) (eC (.int 0))) aD)) aD)))))) (uT k.cC ("field" : Str) (aB 13)) a5)
def ED : MS := (dR (qZ (aB 12)) (bS 2 (aK (aR 13) (aK (aR 14) bR))) (MH k))
def R6 : MS := (aI (cM k.aN ("ranks" : Str) (aB 0) (aB 1))
 (aI (cM k.aN ("every" : Str) (aB 0) (aB 2))
 (aI (cM k.aN ("lost" : Str) (aB 0) (aB 3))
 (aI (cM k.aN ("slow" : Str) (aB 0) (aB 4))
 (aI (cM k.aN ("bears" : Str) (aB 0) (aB 11))
 (aI (cM k.aN ("gap" : Str) (aB 0) (aB 6))
 (aI (cM k.aN ("hold" : Str) (aB 0) (aB 7))
 (aI (cM k.aN ("takes" : Str) (aB 0) (aB 8))
 (aI (cM k.aN ("ties" : Str) (aB 0) (aB 9))
 (cM k.aN ("hosts" : Str) (aB 0) (aB 10)))))))))))
def LH : MS := (dE (cG (dY (aH (eE k) 1 aL (aA (aB 1) aD)))) (uT k.cC ("field" : Str) (eC (.str ("ranks" : Str)))) a5)
def Y0 (rest : MS) : MS := (aI (aP (VE (a8 (aE TC (aB 5) (eC .non))) (aB 3) (aB 5)) (aR 11))
 (aI (aP (zS (c9 (eC (.str ("every" : Str))) (aB 2) (c9 (eC (.str ("lost" : Str))) (aB 3) (c9 (eC (.str ("slow" : Str))) (aB 4) (c9 (eC (.str ("bears" : Str))) (aB 11) (c9 (eC (.str ("gap" : Str))) (aB 6) (c9 (eC (.str ("hold" : Str))) (aB 7) (c9 (eC (.str ("takes" : Str))) (aB 8) AF)))))))) (aR 12))
 (aI (b6 (dA "dict" II (aB 12) (aA (zS (c9 (eC (.str ("ties" : Str))) (aB 9) (c9 (eC (.str ("hosts" : Str))) (aB 10) AF))) aD))) rest)))
theorem LZ : jI k = aI (LH k) (Y0 (aI (ED k) (R6 k))) := rfl
def wI (w : W) (f : Fd) : W := w ++ [.dK (OF f), .dK (vP f)]
theorem P6 {rest : MS} : Y0 rest [some (.ref p), some f.r, some f.ev, some f.lo, some f.sl, some f.be, some f.ga, some f.ho, some f.ta, some f.ti, some f.hs, none, none, none, none] w = rest (G2 f p w.length none none) (wI w f) := by
 unfold Y0
 refine (seq_eq (σ1 := [some (.ref p), some f.r, some f.ev, some f.lo, some f.sl, some f.be, some f.ga, some f.ho, some f.ta, some f.ti, some f.hs, some (dX f), none, none, none]) (w1 := w) ?_).trans ?_
 ·simp only [yT, zY, ah, aa, reduceCtorEq]
  unfold dX
  cases f.be.isNon <;> first | rfl | exact ⟨rfl, rfl⟩
 refine (seq_eq (σ1 := G2 f p w.length none none) (w1 := w ++ [.dK [(.inr "every", f.ev), (.inr "lost", f.lo), (.inr "slow", f.sl), (.inr "bears", dX f), (.inr "gap", f.ga), (.inr "hold", f.ho), (.inr "takes", f.ta)]]) ?_).trans ?_
 ·simp only [OP, C6, IT, zY, ah, aa, reduceCtorEq]
  exact ⟨_, rfl, ae rfl, rfl, rfl⟩
 refine seq_eq (σ1 := G2 f p w.length none none) (w1 := wI w f) ?_
 obtain ⟨w1, e1⟩ : ∃ w1, w1 = w ++ [MO.dK [((.inr "every" : Key), f.ev), (.inr "lost", f.lo), (.inr "slow", f.sl), (.inr "bears", dX f), (.inr "gap", f.ga), (.inr "hold", f.ho), (.inr "takes", f.ta)]] := ⟨_, rfl⟩
 have l1 : w1.length = w.length + 1 := by rw [e1]; simp
 have h1 : w1[w.length]? = some (.dK [(.inr "every", f.ev), (.inr "lost", f.lo), (.inr "slow", f.sl), (.inr "bears", dX f), (.inr "gap", f.ga), (.inr "hold", f.ho), (.inr "takes", f.ta)]) := by rw [e1, bc (bp _)]; simp
 have ty1 : VL (.ref w.length) w1 = some "dict" := by simp only [VL, h1]
 rw [← e1]
 simp only [G2, OP, C6, IT, ty1, zY, ah, aa, reduceCtorEq]
 refine ⟨vP f, rfl, ae rfl, ?_⟩
 have mg2 : qD [] (vP f) = vP f := rfl
 rw [mg2]
 have h2 : (w1 ++ [MO.dK (vP f)])[w.length]? = some (.dK [(.inr "every", f.ev), (.inr "lost", f.lo), (.inr "slow", f.sl), (.inr "bears", dX f), (.inr "gap", f.ga), (.inr "hold", f.ho), (.inr "takes", f.ta)]) := by rw [aq (by omega)]; exact h1
 have h3 : (w1 ++ [MO.dK (vP f)])[w1.length]? = some (.dK (vP f)) := by rw [bc (bp _)]; simp
 rw [YL h2 h3]
 refine ⟨⟨by omega, by rw [sizeLine_eq]; simp [vP]⟩, ?_⟩
 try simp only [zY, ah, aa, reduceCtorEq]
 show _ = _
 rw [e1, wI, bz, List.set_append_right _ _ (bp _), Nat.sub_self]
 rfl
def OV : List Str := ["every", "lost", "slow", "bears", "gap", "hold", "takes", "ties", "hosts"]
theorem OX {z : Str} {i : Nat} (h : (items f)[i]? = some (z, d)) : z ∈ OV := by
 have m := bf h
 simp only [items, br, bx, or_false, Prod.mk.injEq] at m
 unfold OV
 rcases m with m | m | m | m | m | m | m | m | m <;> (rw [m.1]; decide)
theorem OI (ok : wN f) {z : Str} {i : Nat} (h : (items f)[i]? = some (z, d)) : gH 6 d = true := by
 have m := bf h
 have bo : gH 6 (dX f) = true := by
  unfold dX
  split
  ·exact ok _ (by simp [bP])
  ·exact ok _ (by simp [bP])
 simp only [items, br, bx, or_false, Prod.mk.injEq] at m
 rcases m with m | m | m | m | m | m | m | m | m <;> (rw [m.2]; first | exact bo | exact ok _ (by simp [bP]))
theorem xsI : ((OF f).map fun p => D.tup [gF p.1, p.2]) = (items f).map fun p => D.tup [.str p.1, p.2] := by
 unfold OF
 rw [List.map_map]
 rfl
theorem D0 {q i : Nat} {z : Str} (ok : wN f) (hr : b5 f.r = true) (hx : (items f)[i]? = some (z, d)) {Q : Bool → W → Prop} (hQ : Q (fM (iT f.r) z d) w) :
  T (dY (aH (c8 k) 3 aL (aA (aB 13) (aA (aB 14) (aA (aW dO (aA (aE aZ (aB 1) (eC (.int 0))) aD)) aD)))) (G2 f p q (some (.str z)) (some d)) w) Q := by
 obtain ⟨r0, rest, er, -⟩ := HU hr
 have ew : iT f.r = r0.length := by rw [er]; rfl
 rw [ew] at hQ
 have af := fun (P : D → W → Prop) (hP : P (.bl (fM r0.length z d)) w) => U6 k (P := P) (OX hx) (OI ok hx) hP
 simp only [G2, er, D7, ZX, aj, bu, zY, ah, aa, reduceCtorEq]
 refine af _ ?_
 simp only [zY, ah, aa, reduceCtorEq]
 exact hQ
def wL (w : W) (f : Fd) : W := (wI w f).set w.length (.dF (OF f))
theorem WG (ok : wN f) (hr : b5 f.r = true) (hb : ∀ q ∈ items f, fM (iT f.r) q.1 q.2 = true) (hP : ∀ s13 s14, PF (.nx (G2 f p w.length s13 s14)) (wL w f)) : T (ED k (G2 f p w.length none none) (wI w f)) PF := by
 have hq : (wI w f)[w.length]? = some (.dK (OF f)) := by unfold wI; rw [bc (bp _)]; simp
 unfold ED
 have v12 : T (aB 12 (G2 f p w.length none none) (wI w f)) = fun PP => PP (.ref w.length) (wI w f) := by
  funext PP
  unfold T
  rfl
 rw [BC, zW, v12]
 simp only [K5 hq, xsI]
 refine Lb.mN (it := ⟨(items f).map fun p => D.tup [.str p.1, p.2], always⟩) (fun i σ w' => w' = wL w f ∧ ∃ s13 s14, σ = G2 f p w.length s13 s14) (fun _ _ _ _ => trivial) ⟨rfl, _, _, rfl⟩ (fun i x σ w' hx hI => ?_) (fun σ w' hI => ?_)
 ·obtain ⟨rfl, s13, s14, rfl⟩ := hI
  rw [bw] at hx
  obtain ⟨⟨z, d⟩, h1, rfl⟩ := ao.mp hx
  have hg := hb _ (bf h1)
  simp only [G2, zY, ah, aa, reduceCtorEq]
  unfold MH
  rw [uE, j5]
  refine D0 k ok hr h1 ?_
  rw [hg]
  simp only [Bool.not_true, zY, ah, aa, reduceCtorEq]
  exact ⟨rfl, _, _, rfl⟩
 ·obtain ⟨rfl, s13, s14, rfl⟩ := hI
  exact hP _ _
theorem P9 (ok : wN f) (hr : b5 f.r = true) {z : Str} (hb : ((items f).find? fun q => !fM (iT f.r) q.1 q.2).map Prod.fst = some z) (hP : PX ⟨.ref k.cC, some [(("field" : Str), .str z)]⟩ (wL w f)) : TX (ED k (G2 f p w.length none none) (wI w f)) PX := by
 have hq : (wI w f)[w.length]? = some (.dK (OF f)) := by unfold wI; rw [bc (bp _)]; simp
 obtain ⟨⟨z', d⟩, hb2, rfl⟩ := ao.mp hb
 obtain ⟨h1, n, hn, h2, h3⟩ := List.find?_eq_some_iff_getElem.mp hb2
 have v12 : T (aB 12 (G2 f p w.length none none) (wI w f)) = fun PP => PP (.ref w.length) (wI w f) := by
  funext PP
  unfold T
  rfl
 unfold ED
 refine YZ ?_
 rw [zW, v12]
 simp only [K5 hq, xsI]
 refine UK (it := ⟨(items f).map fun p => D.tup [.str p.1, p.2], always⟩) (fun i σ w' => w' = wL w f ∧ ∃ s13 s14, σ = G2 f p w.length s13 s14) n (by simpa using hn) (fun _ _ _ _ => trivial) ⟨rfl, _, _, rfl⟩ (fun i x σ w' hi hx hI => ?_) (fun x σ w' hx hI => ?_)
 ·obtain ⟨rfl, s13, s14, rfl⟩ := hI
  rw [bw] at hx
  obtain ⟨⟨z, d⟩, h1, rfl⟩ := ao.mp hx
  have hg := h3 i hi
  have e1 := (ai.mp h1).2
  rw [e1] at hg
  simp only [Bool.not_not] at hg
  simp only [G2, zY, ah, aa, reduceCtorEq]
  unfold MH
  rw [uE, j5]
  refine D0 k ok hr h1 ?_
  rw [hg]
  simp only [Bool.not_true, zY, ah, aa, reduceCtorEq]
  exact ⟨rfl, _, _, rfl⟩
 ·obtain ⟨rfl, s13, s14, rfl⟩ := hI
  rw [bw] at hx
  obtain ⟨⟨z, d⟩, h4, rfl⟩ := ao.mp hx
  have e1 := (ai.mp h4).2
  rw [h2] at e1
  cases e1
  simp only [G2, zY, ah, aa, reduceCtorEq]
  unfold MH
  refine WY ?_
  rw [j5]
  refine D0 k ok hr h4 ?_
  rw [h1]
  simp only [ah]
  refine E4 ?_
  simp only [zY, ah, aa, reduceCtorEq]
  exact hP
def uZ (f : Fd) : List (Str × D) := [("ranks", f.r), ("every", f.ev), ("lost", f.lo), ("slow", f.sl), ("bears", dX f), ("gap", f.ga), ("hold", f.ho), ("takes", f.ta), ("ties", f.ti), ("hosts", f.hs)]
theorem TK {q : Nat} {s13 s14 : Option D} (hp : w[p]? = some (.ins k.aN [])) (hP : ∀ s, PF (.nx s) (w.set p (.ins k.aN (uZ f)))) : T (R6 k (G2 f p q s13 s14) w) PF := by
 have lp4 : p < w.length := (ai.mp hp).1
 unfold R6
 rw [bF]
 refine mG hp rfl rfl (ae rfl) ?_
 rw [c5]
 rw [bF]
 refine mG (av lp4) rfl rfl (ae rfl) ?_
 rw [c5, List.set_set]
 rw [bF]
 refine mG (av lp4) rfl rfl (ae rfl) ?_
 rw [c5, List.set_set]
 rw [bF]
 refine mG (av lp4) rfl rfl (ae rfl) ?_
 rw [c5, List.set_set]
 rw [bF]
 refine mG (av lp4) rfl rfl (ae rfl) ?_
 rw [c5, List.set_set]
 rw [bF]
 refine mG (av lp4) rfl rfl (ae rfl) ?_
 rw [c5, List.set_set]
 rw [bF]
 refine mG (av lp4) rfl rfl (ae rfl) ?_
 rw [c5, List.set_set]
 rw [bF]
 refine mG (av lp4) rfl rfl (ae rfl) ?_
 rw [c5, List.set_set]
 rw [bF]
 refine mG (av lp4) rfl rfl (ae rfl) ?_
 rw [c5, List.set_set]
 refine mG (av lp4) rfl rfl (ae rfl) ?_
 rw [List.set_set]
 exact hP _
theorem find_none (h : bH f = none) : b5 f.r = true ∧ ∀ q ∈ items f, fM (iT f.r) q.1 q.2 = true := by
 unfold bH at h
 split at h
 ·rename_i hr
  refine ⟨hr, fun q hq => ?_⟩
  rw [Option.map_eq_none_iff, List.find?_eq_none] at h
  simpa using h q hq
 ·cases h
theorem ZM : atI (bP f) 0 = some f.r := gZ (j := 0) rfl
theorem Z0 : atI (bP f) 1 = some f.ev := gZ (j := 1) rfl
theorem Z3 : atI (bP f) 2 = some f.lo := gZ (j := 2) rfl
theorem aAq : atI (bP f) 3 = some f.sl := gZ (j := 3) rfl
theorem aAb : atI (bP f) 4 = some f.be := gZ (j := 4) rfl
theorem aA7 : atI (bP f) 5 = some f.ga := gZ (j := 5) rfl
theorem aAo : atI (bP f) 6 = some f.ho := gZ (j := 6) rfl
theorem aAa : atI (bP f) 7 = some f.ta := gZ (j := 7) rfl
theorem aAT : atI (bP f) 8 = some f.ti := gZ (j := 8) rfl
theorem aA2 : atI (bP f) 9 = some f.hs := gZ (j := 9) rfl
theorem aAK : begin eY (aT k ([D.ref p] ++ [f.r]) [f.hs, f.ti, f.ta, f.ho, f.ga, f.be, f.sl, f.lo, f.ev]) = [some (.ref p), some f.r, some f.ev, some f.lo, some f.sl, some f.be, some f.ga, some f.ho, some f.ta, some f.ti, some f.hs, none, none, none, none] := rfl
theorem CQ (ok : wN f) (hg : bH f = none) (hP : ∀ w', cQ w w' → w'[w.length]? = some (.ins k.aN (uZ f)) → P (.ref w.length) w') : T (K05.bX k [.lst (bP f)] w) P := by
 obtain ⟨hr, hb⟩ := find_none hg
 unfold K05.bX K05.hE
 rw [fH, aA0]
 simp only [u9, aj, bu, ZM, Z0, Z3, aAq, aAb, aA7, aAo, aAa, aAT, aA2, zY, ah, aa, reduceCtorEq]
 rw [WD]
 have hp : (w ++ [MO.ins k.aN []])[w.length]? = some (.ins k.aN []) := by rw [bc (bp _)]; simp
 obtain ⟨w0, e0⟩ : ∃ w0, w0 = w ++ [MO.ins k.aN []] := ⟨_, rfl⟩
 have l0 : w0.length = w.length + 1 := by rw [e0]; simp
 rw [← e0] at hp ⊢
 unfold hU
 rw [LZ, fH]
 have bI : begin eY (aT k ([D.ref w.length] ++ [f.r]) [f.hs, f.ti, f.ta, f.ho, f.ga, f.be, f.sl, f.lo, f.ev]) = _ := aAK k
 simp only [jQ] at bI ⊢
 rw [bI, bF]
 unfold LH
 rw [uE, j5]
 simp only [CZ, zY, ah, aa, reduceCtorEq]
 refine CW (n := 4) (lk k) (by omega) (ok _ (by simp [bP])) ?_
 rw [hr]
 simp only [Bool.not_true, zY, ah, aa, reduceCtorEq]
 rw [P6, bF]
 refine WG k ok hr hb fun s13 s14 => ?_
 rw [c5]
 have hp4 : (wL w0 f)[w.length]? = some (.ins k.aN []) := by
  unfold wL wI
  rw [ax (by omega), aq (by omega)]
  exact hp
 refine TK k hp4 fun s => ?_
 have l4 : (wL w0 f).length = w.length + 3 := by unfold wL wI; rw [cf, cb, l0]; rfl
 refine hP _ ⟨by rw [cf]; omega, fun i hi => ?_⟩ (av (by omega))
 rw [ax (by omega)]
 unfold wL wI
 rw [ax (by omega), aq (by omega), e0, aq hi]
theorem V8 {m : MF} {C : Addr} {n j : Nat} {gd : List D → List D → List D} {ma mk : MA} {σ : Sg} (h : T (ma σ w) fun xs w1 => T (mk σ w1) fun zs w2 => (xs.length = n ∧ zs.length = j) ∧ TX (m (gd ([.ref w2.length] ++ xs) zs) (w2 ++ [.ins C []])) PX) : TX (sU C m n j gd ma mk σ w) PX :=
 TX.bind (h.mono fun xs w1 _ q => TX.bind (q.mono fun zs w2 _ ⟨e, q2⟩ => by
  rw [if_pos e]
  exact TX.j8 q2))
theorem YA (ok : wN f) {z : Str} (hg : bH f = some z) (hP : ∀ w', cQ w w' → PX ⟨.ref k.cC, some [(("field" : Str), .str z)]⟩ w') : TX (K05.bX k [.lst (bP f)] w) PX := by
 unfold K05.bX K05.hE
 refine SO (V3 (V8 ?_))
 rw [aA0]
 simp only [aj, bu, ZM, Z0, Z3, aAq, aAb, aA7, aAo, aAa, aAT, aA2, zY, ah, aa, reduceCtorEq]
 obtain ⟨w0, e0⟩ : ∃ w0, w0 = w ++ [MO.ins k.aN []] := ⟨_, rfl⟩
 have l0 : w0.length = w.length + 1 := by rw [e0]; simp
 have x0 : cQ w w0 := by rw [e0]; exact cQ.refl.app _
 rw [← e0]
 unfold hU
 rw [LZ]
 refine SO ?_
 have bI : begin eY (aT k ([D.ref w.length] ++ [f.r]) [f.hs, f.ti, f.ta, f.ho, f.ga, f.be, f.sl, f.lo, f.ev]) = _ := aAK k
 simp only [jQ] at bI ⊢
 rw [bI]
 unfold bH at hg
 split at hg
 case isFalse hr =>
  cases hg
  refine K8 ?_
  unfold LH
  refine WY ?_
  rw [j5]
  simp only [CZ, zY, ah, aa, reduceCtorEq]
  refine CW (n := 4) (lk k) (by omega) (ok _ (by simp [bP])) ?_
  rw [Bool.not_eq_true] at hr
  rw [hr]
  simp only [Bool.not_false, zY, ah, aa, reduceCtorEq]
  refine E4 ?_
  simp only [zY, ah, aa, reduceCtorEq]
  exact hP _ x0
 case isTrue hr =>
 refine XW ?_
 unfold LH
 rw [uE, j5]
 simp only [CZ, zY, ah, aa, reduceCtorEq]
 refine CW (n := 4) (lk k) (by omega) (ok _ (by simp [bP])) ?_
 rw [hr]
 simp only [Bool.not_true, Fl.nx.injEq, bu, zY, ah, aa, reduceCtorEq]
 rw [P6]
 refine K8 (P9 k ok hr hg (hP _ ⟨?_, fun i hi => ?_⟩))
 ·unfold wL wI
  rw [cf, cb]
  omega
 ·unfold wL wI
  rw [ax (by omega), aq (by omega)]
  exact x0.at_ i hi
def OS : Option Str → D
 | some z => .str z
 | none => .non
theorem u4 (ok : wN f) (hP : ∀ w', cQ w w' → P (OS (bH f)) w') : T (K05.a9 k [.lst (bP f)] w) P := by
 unfold K05.a9 K05.kZ
 rw [fH, aCa, bF]
 simp only [zY, ah, aa, reduceCtorEq]
 rw [bF]
 cases hg : bH f with
 | none =>
  rw [hg] at hP
  refine R5 ?_
  simp only [zY, ah, aa, reduceCtorEq]
  refine CQ k ok hg fun w' x' _ => ?_
  try simp only [zY, ah, aa, reduceCtorEq]
  exact hP _ x'
 | some z =>
  rw [hg] at hP
  refine SD (PM (TR ?_))
  simp only [zY, ah, aa, reduceCtorEq]
  refine YA k ok hg fun w' x' => ?_
  refine ⟨by simp [kmL, uP], ?_⟩
  have e1 : ∀ σ : Sg, GC (fG k) ("field" : Str) 1 ⟨.ref k.cC, some [(("field" : Str), .str z)]⟩ σ w' = .ok (.nx (σ.set 1 (some (.str z)))) w' := fun σ => by
   have e2 : uR (fG k) ("field" : Str) ⟨.ref k.cC, some [(("field" : Str), .str z)]⟩ = some (.str z) := by
    unfold uR fG
    show (if [k.cC].contains k.cC = true then _ else _) = _
    rw [if_pos (by simp)]
    rfl
   unfold GC
   rw [e2]
  rw [e1]
  simp only [bZ, Pc.unI, Pc.forget, List.replicate, List.length_cons, List.length_nil, List.set_cons_zero, List.set_cons_succ, zY, ah, aa, reduceCtorEq]
  exact hP _ x'
def b7 (f : Fd) : Nat → D → Fd
 | 0, d => { f with r := d }
 | 1, d => { f with ev := d }
 | 2, d => { f with lo := d }
 | 3, d => { f with sl := d }
 | 4, d => { f with be := d }
 | 5, d => { f with ga := d }
 | 6, d => { f with ho := d }
 | 7, d => { f with ta := d }
 | 8, d => { f with ti := d }
 | 9, d => { f with hs := d }
 | _, _ => f
theorem lt10 {j : Nat} (hj : j < 10) : j = 0 ∨ j = 1 ∨ j = 2 ∨ j = 3 ∨ j = 4 ∨ j = 5 ∨ j = 6 ∨ j = 7 ∨ j = 8 ∨ j = 9 := by omega
theorem lK {j : Nat} {z : Int} (hj : j < 10) (e : z = ((j : Nat) : Int)) (hP : P (.lst (bP (b7 f j d))) w) : T (K05.bC k [.lst (bP f), .int z, d] w) P := by
 subst e
 unfold K05.bC K05.qL
 rw [fH, aB6]
 rcases lt10 hj with rfl | rfl | rfl | rfl | rfl | rfl | rfl | rfl | rfl | rfl <;> (simp only [slL, lF, fW, bZ, zY, ah, aa, reduceCtorEq]; exact ⟨by rw [sizeLine_eq]; exact ae rfl, by rw [sizeLine_eq]; exact ae rfl, hP⟩)
theorem fZ {j : Nat} (ok : wN f) (e : gH 6 d = true) : wN (b7 f j d) := by
 have o : ∀ x ∈ bP f, gH 6 x = true := ok
 simp only [bP, br, bx, or_false, forall_eq_or_imp, forall_eq] at o
 obtain ⟨o0, o1, o2, o3, o4, o5, o6, o7, o8, o9⟩ := o
 intro x hx
 by_cases hj : j < 10
 ·rcases lt10 hj with rfl | rfl | rfl | rfl | rfl | rfl | rfl | rfl | rfl | rfl <;> (simp only [b7, bP, br, bx, or_false] at hx; rcases hx with rfl | rfl | rfl | rfl | rfl | rfl | rfl | rfl | rfl | rfl <;> assumption)
 ·have : b7 f j d = f := by
   unfold b7
   split <;> first | rfl | omega
  rw [this] at hx
  exact ok x hx
theorem gJ {h : Int} : fM h ("every" : Str) d = aU 1 5 d := rfl
theorem kD {h : Int} : fM h ("lost" : Str) d = aU 0 3 d := rfl
theorem mF {h : Int} : fM h ("slow" : Str) d = aU 1 4 d := rfl
theorem kO {h : Int} : fM h ("bears" : Str) d = aU 0 3 d := rfl
theorem uX {h : Int} : fM h ("gap" : Str) d = aU 0 3 d := rfl
theorem t9 {h : Int} : fM h ("hold" : Str) d = aU 0 20 d := rfl
theorem uA {h : Int} : fM h ("takes" : Str) d = BM d := rfl
theorem B2 {h : Int} : fM h ("ties" : Str) d = j7 h d := rfl
theorem FY {h : Int} : fM h ("hosts" : Str) d = aU 0 4 d := rfl
structure Gd (f : Fd) : Prop where
 ok : wN f
 r : b5 f.r = true
 ev : aU 1 5 f.ev = true
 lo : aU 0 3 f.lo = true
 sl : aU 1 4 f.sl = true
 be : aU 0 3 (dX f) = true
 ga : aU 0 3 f.ga = true
 ho : aU 0 20 f.ho = true
 ta : BM f.ta = true
 ti : j7 (iT f.r) f.ti = true
 hs : aU 0 4 f.hs = true
theorem Gd.first (g : Gd f) : bH f = none := by
 unfold bH
 rw [if_pos g.r, Option.map_eq_none_iff, List.find?_eq_none]
 intro q hq
 simp only [items, br, bx, or_false] at hq
 rcases hq with rfl | rfl | rfl | rfl | rfl | rfl | rfl | rfl | rfl
 ·simp only [gJ, g.ev, Bool.not_true, bj, not_false_eq_true]
 ·simp only [kD, g.lo, Bool.not_true, bj, not_false_eq_true]
 ·simp only [mF, g.sl, Bool.not_true, bj, not_false_eq_true]
 ·simp only [kO, g.be, Bool.not_true, bj, not_false_eq_true]
 ·simp only [uX, g.ga, Bool.not_true, bj, not_false_eq_true]
 ·simp only [t9, g.ho, Bool.not_true, bj, not_false_eq_true]
 ·simp only [uA, g.ta, Bool.not_true, bj, not_false_eq_true]
 ·simp only [B2, g.ti, Bool.not_true, bj, not_false_eq_true]
 ·simp only [FY, g.hs, Bool.not_true, bj, not_false_eq_true]
theorem Gd.Z1 (g : Gd f) (e : gH 6 d = true) (h : aU 1 5 d = true) : Gd (b7 f 1 d) := ⟨fZ g.ok e, g.r, h, g.lo, g.sl, g.be, g.ga, g.ho, g.ta, g.ti, g.hs⟩
theorem Gd.aCe (g : Gd f) (h : aU 1 5 d = false) : bH (b7 f 1 d) = some ("every" : Str) := by
 have hr : b5 (b7 f 1 d).r = true := g.r
 unfold bH
 rw [if_pos hr]
 unfold items
 simp only [b7, List.find?_cons, gJ, h, h, Bool.not_true, Bool.not_false, Option.map_some]
theorem Gd.aAs (g : Gd f) (e : gH 6 d = true) (h : aU 0 3 d = true) : Gd (b7 f 2 d) := by
 refine ⟨fZ g.ok e, g.r, g.ev, h, g.sl, ?_, g.ga, g.ho, g.ta, g.ti, g.hs⟩
 have b := g.be
 unfold dX b7 at *
 cases hn : f.be.isNon with
 | true => exact h
 | false => rw [hn] at b; exact b
theorem Gd.aBY (g : Gd f) (h : aU 0 3 d = false) : bH (b7 f 2 d) = some ("lost" : Str) := by
 have hr : b5 (b7 f 2 d).r = true := g.r
 unfold bH
 rw [if_pos hr]
 unfold items
 simp only [b7, List.find?_cons, gJ, kD, g.ev, h, Bool.not_true, Bool.not_false, Option.map_some]
theorem Gd.aCk (g : Gd f) (e : gH 6 d = true) (h : aU 1 4 d = true) : Gd (b7 f 3 d) := ⟨fZ g.ok e, g.r, g.ev, g.lo, h, g.be, g.ga, g.ho, g.ta, g.ti, g.hs⟩
theorem Gd.aB4 (g : Gd f) (h : aU 1 4 d = false) : bH (b7 f 3 d) = some ("slow" : Str) := by
 have hr : b5 (b7 f 3 d).r = true := g.r
 unfold bH
 rw [if_pos hr]
 unfold items
 simp only [b7, List.find?_cons, gJ, kD, mF, g.ev, g.lo, h, Bool.not_true, Bool.not_false, Option.map_some]
theorem Gd.X2 (g : Gd f) (e : gH 6 d = true) (h : d = .non ∨ aU 0 3 d = true) : Gd (b7 f 4 d) := by
 refine ⟨fZ g.ok e, g.r, g.ev, g.lo, g.sl, ?_, g.ga, g.ho, g.ta, g.ti, g.hs⟩
 unfold dX b7
 rcases h with rfl | h
 ·exact g.lo
 ·cases d <;> first | exact h | (simp [aU] at h; done)
theorem Gd.aBV (g : Gd f) (n : d.isNon = false) (h : aU 0 3 d = false) : bH (b7 f 4 d) = some ("bears" : Str) := by
 have hr : b5 (b7 f 4 d).r = true := g.r
 have e4 : dX (b7 f 4 d) = d := by unfold dX b7; simp only [n]; rfl
 unfold bH
 rw [if_pos hr]
 unfold items
 rw [e4]
 simp only [b7, List.find?_cons, gJ, kD, mF, kO, g.ev, g.lo, g.sl, h, Bool.not_true, Bool.not_false, Option.map_some]
theorem Gd.aBs (g : Gd f) (e : gH 6 d = true) (h : aU 0 3 d = true) : Gd (b7 f 5 d) := ⟨fZ g.ok e, g.r, g.ev, g.lo, g.sl, g.be, h, g.ho, g.ta, g.ti, g.hs⟩
theorem Gd.aBU (g : Gd f) (h : aU 0 3 d = false) : bH (b7 f 5 d) = some ("gap" : Str) := by
 have hr : b5 (b7 f 5 d).r = true := g.r
 have e4 : dX (b7 f 5 d) = dX f := rfl
 unfold bH
 rw [if_pos hr]
 unfold items
 rw [e4]
 simp only [b7, List.find?_cons, gJ, kD, mF, kO, uX, g.ev, g.lo, g.sl, g.be, h, Bool.not_true, Bool.not_false, Option.map_some]
theorem Gd.aBM (g : Gd f) (e : gH 6 d = true) (h : aU 0 20 d = true) : Gd (b7 f 6 d) := ⟨fZ g.ok e, g.r, g.ev, g.lo, g.sl, g.be, g.ga, h, g.ta, g.ti, g.hs⟩
theorem Gd.aBu (g : Gd f) (h : aU 0 20 d = false) : bH (b7 f 6 d) = some ("hold" : Str) := by
 have hr : b5 (b7 f 6 d).r = true := g.r
 have e4 : dX (b7 f 6 d) = dX f := rfl
 unfold bH
 rw [if_pos hr]
 unfold items
 rw [e4]
 simp only [b7, List.find?_cons, gJ, kD, mF, kO, uX, t9, g.ev, g.lo, g.sl, g.be, g.ga, h, Bool.not_true, Bool.not_false, Option.map_some]
theorem Gd.aBt (g : Gd f) (h : BM d = false) : bH (b7 f 7 d) = some ("takes" : Str) := by
 have hr : b5 (b7 f 7 d).r = true := g.r
 have e4 : dX (b7 f 7 d) = dX f := rfl
 unfold bH
 rw [if_pos hr]
 unfold items
 rw [e4]
 simp only [b7, List.find?_cons, gJ, kD, mF, kO, uX, t9, uA, g.ev, g.lo, g.sl, g.be, g.ga, g.ho, h, Bool.not_true, Bool.not_false, Option.map_some]
theorem Gd.aBI (g : Gd f) (e : gH 6 d = true) (h : j7 (iT f.r) d = true) : Gd (b7 f 8 d) := ⟨fZ g.ok e, g.r, g.ev, g.lo, g.sl, g.be, g.ga, g.ho, g.ta, h, g.hs⟩
theorem Gd.aBr (g : Gd f) (h : j7 (iT f.r) d = false) : bH (b7 f 8 d) = some ("ties" : Str) := by
 have hr : b5 (b7 f 8 d).r = true := g.r
 have e4 : dX (b7 f 8 d) = dX f := rfl
 unfold bH
 rw [if_pos hr]
 unfold items
 rw [e4]
 simp only [b7, List.find?_cons, gJ, kD, mF, kO, uX, t9, uA, B2, g.ev, g.lo, g.sl, g.be, g.ga, g.ho, g.ta, h, Bool.not_true, Bool.not_false, Option.map_some]
theorem Gd.aBS (g : Gd f) (e : gH 6 d = true) (h : aU 0 4 d = true) : Gd (b7 f 9 d) := ⟨fZ g.ok e, g.r, g.ev, g.lo, g.sl, g.be, g.ga, g.ho, g.ta, g.ti, h⟩
theorem Gd.aBz (g : Gd f) (h : aU 0 4 d = false) : bH (b7 f 9 d) = some ("hosts" : Str) := by
 have hr : b5 (b7 f 9 d).r = true := g.r
 have e4 : dX (b7 f 9 d) = dX f := rfl
 unfold bH
 rw [if_pos hr]
 unfold items
 rw [e4]
 simp only [b7, List.find?_cons, gJ, kD, mF, kO, uX, t9, uA, B2, FY, g.ev, g.lo, g.sl, g.be, g.ga, g.ho, g.ta, g.ti, h, Bool.not_true, Bool.not_false, Option.map_some]
theorem Gd.aBO (g : Gd f) (e : gH 6 d = true) (h : b5 d = true) : Gd (b7 (b7 f 8 (.tup [])) 0 d) := ⟨fZ (fZ g.ok rfl) e, h, g.ev, g.lo, g.sl, g.be, g.ga, g.ho, g.ta, rfl, g.hs⟩
theorem aBZ (h : b5 d = false) : bH (b7 f 0 d) = some ("ranks" : Str) := by
 have hr : ¬ b5 (b7 f 0 d).r = true := by
  show ¬ b5 d = true
  rw [h]
  decide
 unfold bH
 rw [if_neg hr]
def yW (f : Fd) : List D := [f.r, f.ev, f.lo, f.sl, dX f, f.ga, f.ho, f.ta, f.ti, f.hs]
theorem aAW {z : Str} {d : D} (h : w[p]? = some (.ins k.aN (uZ f))) (hz : (uZ f).lookup z = some d) : T (nJ k.aN z (.ref p) w) P = P d w := by
 rw [QE h, hz]
 simp
theorem t4 (h : w[p]? = some (.ins k.aN (uZ f))) (hP : P (.tup (yW f)) w) : T (K05.b0 k [.ref p] w) P := by
 unfold K05.b0 K05.mJ
 rw [fH, aB1, bF]
 have o := fun (z : Str) (d : D) (hz : (uZ f).lookup z = some d) (P : D → W → Prop) => aAW k (P := P) h hz
 simp only [o "ranks" f.r rfl, o "every" f.ev rfl, o "lost" f.lo rfl, o "slow" f.sl rfl, o "bears" (dX f) rfl, o "gap" f.ga rfl, o "hold" f.ho rfl, o "takes" f.ta rfl, o "ties" f.ti rfl, o "hosts" f.hs rfl, lF, zY, ah, aa, reduceCtorEq]
 have e : fL [D.lst ([f.r, f.ev, f.lo, f.sl, dX f, f.ga] ++ [f.ho, f.ta, f.ti, f.hs])] w = .ok (.tup (yW f)) w := rfl
 rw [e, bZ]
 exact hP
theorem xD (e : sZ n d = true) (hn : n ≤ 60) : rA d d w = some true := by
 obtain ⟨p, e1, e2, e3⟩ := KW (w := w) e
 refine M9 e1 ?_
 unfold SeqAt.shaped
 rw [ak, au]
 exact ⟨e2, by omega⟩
theorem ne_self (e : sZ n d = true) (hn : n ≤ 60) : T (kJ d d w) P = P (.bl false) w := by
 rw [RE, xD e hn]
 simp
theorem V9 {a b : Str} (ha : PyData.strOk a = true) (hb : PyData.strOk b = true) : T (kJ (.str a) (.str b) w) P = P (.bl (!decide (a = b))) w := by
 rw [RE, HG ha hb]
 simp
theorem NJ {a : Str} (ha : PyData.strOk a = true) : T (kJ .non (.str a) w) P = P (.bl true) w := by
 have e : rA .non (.str a) w = some false := by
  simp [rA, pO, D.py, D.gN, SeqAt.shaped, PyData.canLay0, PyData.depth, PyData.eqv, ha]
 rw [RE, e]
 simp
theorem xZ {g : Fd} {j : Nat} {z : Int} {Q : D → W → Prop} {A : D → W → Prop} (hg : Gd g) (ez : z = ((j : Nat) : Int)) (el : (yW g)[j]? = some d) (e : sZ 6 d = true) (hQ : ∀ w', cQ w w' → Q (.bl false) w') :
  T (a9 k [.lst (bP g)] w) fun x w1 => if (!x.isNon) = true then A x w1 else T (bX k [.lst (bP g)] w1) fun x w1 => T (b0 k [x] w1) fun x w1 => T (aZ x (.int z) w1) fun x w1 => T (kJ x d w1) Q := by
 subst ez
 refine u4 k hg.ok fun w2 x2 => ?_
 rw [hg.first]
 simp only [OS, D.isNon, Bool.not_true, zY, ah, aa, reduceCtorEq]
 refine CQ k hg.ok hg.first fun w4 x4 hp => ?_
 refine t4 k hp ?_
 have ea : atI (yW g) (j : Nat) = some d := gZ el
 simp only [wB, m4, ea, aj, bu, ne_self e (show 6 ≤ 60 by omega)]
 exact hQ _ (x2.trans x4)
theorem xC {g : Fd} {z : Str} {o : Option Str} {Q : D → W → Prop} (hz : PyData.strOk z = true) (ho : ∀ y, o = some y → PyData.strOk y = true) (hg : wN g) (hb : bH g = o) (hQ : ∀ w', cQ w w' → Q (.bl (!decide (o = some z))) w') :
  T (a9 k [.lst (bP g)] w) fun x w1 => T (kJ x (.str z) w1) Q := by
 refine u4 k hg fun w2 x2 => ?_
 rw [hb]
 have q := hQ w2 x2
 cases o with
 | none =>
  simp only [OS, NJ hz]
  simpa using q
 | some y =>
  simp only [OS, V9 (ho y rfl) hz]
  simpa using q
structure Span (f : Fd) (z : Str) (j : Nat) (lo hi : Int) : Prop where
 j10 : j < 10
 zok : PyData.strOk z = true
 lo0 : -10 ≤ lo
 hi0 : lo ≤ hi
 ZV : hi ≤ 30
 good : ∀ v : Int, lo ≤ v → v ≤ hi → Gd (b7 f j (.int v)) ∧ (yW (b7 f j (.int v)))[j]? = some (.int v)
 bad : ∀ d, gH 6 d = true → aU lo hi d = false → (z = "bears" ∧ d = .non ∧ bH (b7 f j d) = none) ∨ ((z ≠ "bears" ∨ d ≠ .non) ∧ bH (b7 f j d) = some z)
theorem L7 {v : Int} (h : v ≤ 1000) : sZ 6 (.int v) = true := by
 simp only [sZ, au]
 omega
theorem mQ {v : Int} (h : v ≤ 1000) : gH 6 (.int v) = true := by
 simp only [gH, au]
 omega
def spans : List (Str × Nat × Int × Int) := [("every", 1, 1, 5), ("lost", 2, 0, 3), ("slow", 3, 1, 4), ("bears", 4, 0, 3), ("gap", 5, 0, 3), ("hold", 6, 0, 20), ("hosts", 9, 0, 4)]
theorem RD (g : Gd f) : ∀ q ∈ spans, Span f q.1 q.2.1 q.2.2.1 q.2.2.2 := by
 intro q hq
 have wi : ∀ {lo hi v : Int}, lo ≤ v → v ≤ hi → aU lo hi (.int v) = true := fun a b => by simp [aU, a, b]
 have oi : ∀ {v : Int}, v ≤ 30 → gH 6 (.int v) = true := fun h => mQ (by omega)
 simp only [spans, br, bx, or_false] at hq
 rcases hq with rfl | rfl | rfl | rfl | rfl | rfl | rfl
 ·exact ⟨by decide, by decide +kernel, by decide, by decide, by decide, fun v a b => ⟨g.Z1 (oi (Int.le_trans b (by decide))) (wi a b), rfl⟩, fun d _ h => .inr ⟨.inl (by decide), g.aCe h⟩⟩
 ·exact ⟨by decide, by decide +kernel, by decide, by decide, by decide, fun v a b => ⟨g.aAs (oi (Int.le_trans b (by decide))) (wi a b), rfl⟩, fun d _ h => .inr ⟨.inl (by decide), g.aBY h⟩⟩
 ·exact ⟨by decide, by decide +kernel, by decide, by decide, by decide, fun v a b => ⟨g.aCk (oi (Int.le_trans b (by decide))) (wi a b), rfl⟩, fun d _ h => .inr ⟨.inl (by decide), g.aB4 h⟩⟩
 ·refine ⟨by decide, by decide +kernel, by decide, by decide, by decide, fun v a b => ⟨g.X2 (oi (Int.le_trans b (by decide))) (.inr (wi a b)), rfl⟩, fun d e h => ?_⟩
  cases hn : d.isNon with
  | true =>
   have : d = .non := by cases d <;> first | rfl | (simp [D.isNon] at hn; done)
   subst this
   exact .inl ⟨rfl, rfl, (g.X2 e (.inl rfl)).first⟩
  | false => exact .inr ⟨.inr (fun z => by rw [z] at hn; simp [D.isNon] at hn), g.aBV hn h⟩
 ·exact ⟨by decide, by decide +kernel, by decide, by decide, by decide, fun v a b => ⟨g.aBs (oi (Int.le_trans b (by decide))) (wi a b), rfl⟩, fun d _ h => .inr ⟨.inl (by decide), g.aBU h⟩⟩
 ·exact ⟨by decide, by decide +kernel, by decide, by decide, by decide, fun v a b => ⟨g.aBM (oi (Int.le_trans b (by decide))) (wi a b), rfl⟩, fun d _ h => .inr ⟨.inl (by decide), g.aBu h⟩⟩
 ·exact ⟨by decide, by decide +kernel, by decide, by decide, by decide, fun v a b => ⟨g.aBS (oi (Int.le_trans b (by decide))) (wi a b), rfl⟩, fun d _ h => .inr ⟨.inl (by decide), g.aBz h⟩⟩
def W8 (q : Str × Nat × Int × Int) : D := .tup [.str q.1, .int (q.2.1 : Nat), .int q.2.2.1, .int q.2.2.2]
def S9 (f : Fd) (sp : D) (q : Str × Nat × Int × Int) (s6 s7 : Option D) : Sg := [some (.lst (bP f)), some sp, some (.str q.1), some (.int (q.2.1 : Nat)), some (.int q.2.2.1), some (.int q.2.2.2), s6, s7]
def ZC : MS := (dR (cZ (aM (aA (aB 4) (aA (aB 5) aD)))) (aR 6) (aI (aP (aH (bC k) 3 aL (aA (aB 0) (aA (aB 3) (aA (aB 6) aD)))) (aR 7))
 (dE (fT (a8 (aE mH (aH (a9 k) 1 aL (aA (aB 7) aD)) (eC .non))) (a8 (aE kJ (aE aZ (aH (b0 k) 1 aL (aA (aH (bX k) 1 aL (aA (aB 7) aD)) aD)) (aB 3)) (aB 6)))) (a7 (eC (.bl false))) a5)))
def Y4 : MS := (dR (cZ (aM (aA (aE iB (aB 4) (eC (.int 1))) (aA (aE bE (aB 5) (eC (.int 1))) (aA (eC .non) (aA (eC (.bl true)) aD)))))) (aR 6) (dE (fO (a8 (aE kJ (aH (a9 k) 1 aL (aA (aH (bC k) 3 aL (aA (aB 0) (aA (aB 3) (aA (aB 6) aD)))) aD)) (aB 2))) (cG (fO (a8 (aE fE (aB 2) (eC (.str ("bears" : Str))))) (a8 (aE TC (aB 6) (eC .non)))))) (a7 (eC (.bl false))) a5))
theorem in1 {sp : D} {q : Str × Nat × Int × Int} {s6 s7 : Option D} (hs : Span f q.1 q.2.1 q.2.2.1 q.2.2.2) (hP : ∀ w' s6 s7, cQ w w' → PF (.nx (S9 f sp q s6 s7)) w') : T (ZC k (S9 f sp q s6 s7) w) PF := by
 obtain ⟨z, j, lo, hi⟩ := q
 unfold ZC S9
 simp only [vK, zY, ah, aa, reduceCtorEq]
 refine Lb.mN (it := ⟨[D.int lo, .int hi], always⟩) (fun i σ w' => cQ w w' ∧ ∃ s6 s7, σ = S9 f sp (z, j, lo, hi) s6 s7) (fun _ _ _ _ => trivial) ⟨cQ.refl, _, _, rfl⟩ (fun i x σ w1 hx hI => ?_) (fun σ w1 hI => ?_)
 ·obtain ⟨x1, s6, s7, rfl⟩ := hI
  have hv : ∃ v : Int, x = .int v ∧ lo ≤ v ∧ v ≤ hi := by
   have m := bf hx
   simp only [br, bx, or_false] at m
   have := hs.hi0
   rcases m with rfl | rfl
   ·exact ⟨_, rfl, Int.le_refl _, this⟩
   ·exact ⟨_, rfl, this, Int.le_refl _⟩
  obtain ⟨v, rfl, v0, v1⟩ := hv
  obtain ⟨g1, g2⟩ := hs.good v v0 v1
  simp only [S9, zY, ah, aa, reduceCtorEq]
  rw [bF]
  simp only [zY, ah, aa, reduceCtorEq]
  refine lK k hs.j10 rfl ?_
  try simp only [zY, ah, aa, reduceCtorEq]
  have ZV : hi ≤ 30 := hs.ZV
  refine xZ k (j := j) g1 rfl g2 (L7 (by omega)) fun w' x' => ?_
  simp only [zY, ah, aa, reduceCtorEq]
  exact ⟨x1.trans x', _, _, rfl⟩
 ·obtain ⟨x1, s6, s7, rfl⟩ := hI
  exact hP _ _ _ x1
theorem in2 {sp : D} {q : Str × Nat × Int × Int} {s6 s7 : Option D} (hs : Span f q.1 q.2.1 q.2.2.1 q.2.2.2) (hg : wN f) (hP : ∀ w' s6 s7, cQ w w' → PF (.nx (S9 f sp q s6 s7)) w') : T (Y4 k (S9 f sp q s6 s7) w) PF := by
 obtain ⟨z, j, lo, hi⟩ := q
 unfold Y4 S9
 simp only [uN, fW, vK, zY, ah, aa, reduceCtorEq]
 refine Lb.mN (it := ⟨[D.int (lo - 1), .int (hi + 1), .non, .bl true], always⟩) (fun i σ w' => cQ w w' ∧ ∃ s6 s7, σ = S9 f sp (z, j, lo, hi) s6 s7) (fun _ _ _ _ => trivial) ⟨cQ.refl, _, _, rfl⟩ (fun i x σ w1 hx hI => ?_) (fun σ w1 hI => ?_)
 ·obtain ⟨x1, s6, s7, rfl⟩ := hI
  have ZV : hi ≤ 30 := hs.ZV
  have lo1 : lo ≤ hi := hs.hi0
  have hv : gH 6 x = true ∧ aU lo hi x = false := by
   have m := bf hx
   simp only [br, bx, or_false] at m
   rcases m with rfl | rfl | rfl | rfl
   ·refine ⟨mQ (by omega), ?_⟩
    have : ¬ lo ≤ lo - 1 := by omega
    simp [aU, this]
   ·refine ⟨mQ (by omega), ?_⟩
    have : ¬ hi + 1 ≤ hi := by omega
    simp [aU, this]
   ·exact ⟨rfl, rfl⟩
   ·exact ⟨rfl, rfl⟩
  simp only [S9, zY, ah, aa, reduceCtorEq]
  have sb : PyData.strOk ("bears" : Str) = true := by decide +kernel
  refine lK k hs.j10 rfl ?_
  try simp only [zY, ah, aa, reduceCtorEq]
  refine xC k (z := z) (o := bH (b7 f j x)) hs.zok (fun y hy => ?_) (fZ hg hv.1) rfl fun w' x' => ?_
  ·rcases hs.bad x hv.1 hv.2 with ⟨-, -, h⟩ | ⟨-, h⟩
   ·rw [h] at hy; cases hy
   ·rw [h] at hy; cases hy; exact hs.zok
  ·rcases hs.bad x hv.1 hv.2 with ⟨h1, h2, h⟩ | ⟨-, h⟩
   ·simp only at h1
    subst h1
    subst h2
    rw [h]
    have e1 : rA (.str ("bears" : Str)) (.str ("bears" : Str)) w' = some true := by rw [HG sb sb]; simp
    simp only [j5, uW, DR e1, yT, D.isNon, reduceCtorEq, decide_false, Bool.not_false, Bool.not_true, zY, ah, aa, reduceCtorEq]
    exact ⟨x1.trans x', _, _, rfl⟩
   ·rw [h]
    simp only [decide_true, Bool.not_true, zY, ah, aa, reduceCtorEq]
    exact ⟨x1.trans x', _, _, rfl⟩
 ·obtain ⟨x1, s6, s7, rfl⟩ := hI
  exact hP _ _ _ x1
def aAd : MS := (aI (ZC k) (Y4 k))
def bN3 : MS := (dR (dP i0 (aA (eC (.int 4)) aD)) (aR 6) (dE (a8 (aE kJ (aE aZ (aH (b0 k) 1 aL (aA (aH (bX k) 1 aL (aA (aH (bC k) 3 aL (aA (aH (bC k) 3 aL (aA (aB 0) (aA (eC (.int 4)) (aA (eC .non) aD)))) (aA (eC (.int 2)) (aA (aB 6) aD)))) aD)) aD)) (eC (.int 4))) (aB 6))) (a7 (eC (.bl false))) a5))
def bN4 : MS := (a7 (aE fE (bT (cZ (aM (aA (eC (.int 0)) (aA (eC (.int 1)) (aA (eC .non) (aA (eC (.str ("yes" : Str))) aD)))))) [6] (aR 6) (a8 (aE kJ (aH (a9 k) 1 aL (aA (aH (bC k) 3 aL (aA (aB 0) (aA (eC (.int 7)) (aA (aB 6) aD)))) aD)) (eC (.str ("takes" : Str))))) (aB 6)) (cD aD)))
theorem YF : fY k = aI (aP (cD (aA (aM (aA (eC (.str ("every" : Str))) (aA (eC (.int 1)) (aA (eC (.int 1)) (aA (eC (.int 5)) aD))))) (aA (aM (aA (eC (.str ("lost" : Str))) (aA (eC (.int 2)) (aA (eC (.int 0)) (aA (eC (.int 3)) aD))))) (aA (aM (aA (eC (.str ("slow" : Str))) (aA (eC (.int 3)) (aA (eC (.int 1)) (aA (eC (.int 4)) aD))))) (aA (aM (aA (eC (.str ("bears" : Str))) (aA (eC (.int 4)) (aA (eC (.int 0)) (aA (eC (.int 3)) aD))))) (aA (aM (aA (eC (.str ("gap" : Str))) (aA (eC (.int 5)) (aA (eC (.int 0)) (aA (eC (.int 3)) aD))))) aD)))))) (aR 1)) (aI (dR (cZ (aE bE (aB 1) (cD (aA (aM (aA (eC (.str ("hold" : Str))) (aA (eC (.int 6)) (aA (eC (.int 0)) (aA (eC (.int 20)) aD))))) (aA (aM (aA (eC (.str ("hosts" : Str))) (aA (eC (.int 9)) (aA (eC (.int 0)) (aA (eC (.int 4)) aD))))) aD))))) (bS 4 (aK (aR 2) (aK (aR 3) (aK (aR 4) (aK (aR 5) bR))))) (aAd k)) (aI (bN3 k) (bN4 k))) := rfl
theorem aBN {sp : D} {s2 s3 s4 s5 s6 s7 : Option D} (g : Gd f) (hP : ∀ w' s6, cQ w w' → PF (.nx [some (.lst (bP f)), some sp, s2, s3, s4, s5, s6, s7]) w') : T (bN3 k [some (.lst (bP f)), some sp, s2, s3, s4, s5, s6, s7] w) PF := by
 unfold bN3
 simp only [vD (n := 4) (by omega) (by omega), zY, ah, aa, reduceCtorEq]
 refine Lb.mN (it := gD 0 (4 : Int).toNat) (fun i σ w' => cQ w w' ∧ ∃ s6, σ = [some (.lst (bP f)), some sp, s2, s3, s4, s5, s6, s7]) (fun _ _ _ _ => trivial) ⟨cQ.refl, _, rfl⟩ (fun i x σ w1 hx hI => ?_) (fun σ w1 hI => ?_)
 ·obtain ⟨x1, s6, rfl⟩ := hI
  obtain ⟨hz, rfl⟩ := oP hx
  have hz4 : i < 4 := hz
  have hw : aU 0 3 (.int (0 + (i : Int))) = true := by
   simp only [aU, ak, au]
   omega
  have g2 : Gd (b7 (b7 f 4 .non) 2 (.int (0 + (i : Int)))) := (g.X2 rfl (.inl rfl)).aAs (mQ (by omega)) hw
  simp only [zY, ah, aa, reduceCtorEq]
  refine lK k (by omega) (j := 4) rfl ?_
  try simp only [zY, ah, aa, reduceCtorEq]
  refine lK k (by omega) (j := 2) rfl ?_
  try simp only [zY, ah, aa, reduceCtorEq]
  refine CQ k g2.ok g2.first fun w2 x2 hp => ?_
  try simp only [zY, ah, aa, reduceCtorEq]
  refine t4 k hp ?_
  have ea : atI (yW (b7 (b7 f 4 .non) 2 (.int (0 + (i : Int))))) 4 = some (.int (0 + (i : Int))) := gZ (j := 4) rfl
  simp only [wB, m4, ea, aj, bu, ne_self (L7 (show 0 + (i : Int) ≤ 1000 by omega)) (show 6 ≤ 60 by omega), zY, ah, aa, reduceCtorEq]
  exact ⟨x1.trans x2, _, rfl⟩
 ·obtain ⟨x1, s6, rfl⟩ := hI
  exact hP _ _ x1
theorem aB8 {sp : D} {s2 s3 s4 s5 s6 s7 : Option D} (g : Gd f) (hP : ∀ w', cQ w w' → PF (.rt (.bl true)) w') : T (bN4 k [some (.lst (bP f)), some sp, s2, s3, s4, s5, s6, s7] w) PF := by
 have st : PyData.strOk ("takes" : Str) = true := by decide +kernel
 unfold bN4
 simp only [vK, zY, ah, aa, reduceCtorEq]
 refine tR (it := ⟨[D.int 0, .int 1, .non, .str ("yes" : Str)], always⟩) (fun i acc w' => cQ w w' ∧ acc = []) (fun _ _ _ _ => trivial) ⟨cQ.refl, rfl⟩ (fun i x acc w1 hx hI => ?_) (fun acc w1 hI => ?_)
 ·obtain ⟨x1, rfl⟩ := hI
  have hv : gH 6 x = true ∧ BM x = false := by
   have m := bf hx
   simp only [br, bx, or_false] at m
   rcases m with rfl | rfl | rfl | rfl
   ·exact ⟨rfl, rfl⟩
   ·exact ⟨rfl, rfl⟩
   ·exact ⟨rfl, rfl⟩
   ·exact ⟨(by decide +kernel : PyData.strOk ("yes" : Str) = true), rfl⟩
  simp only [dJ, zY, ah, aa, reduceCtorEq]
  refine lK k (by omega) (j := 7) rfl ?_
  try simp only [zY, ah, aa, reduceCtorEq]
  refine xC k (o := some ("takes" : Str)) st (fun y hy => by cases hy; exact st) (fZ g.ok hv.1) (g.aBt hv.2) fun w' x' => ?_
  simp only [decide_true, Bool.not_true, zY, ah, aa, reduceCtorEq]
  first | exact ⟨x1.trans x', rfl⟩ | exact x1.trans x'
 ·obtain ⟨x1, rfl⟩ := hI
  have e : rA (.lst []) (.lst []) w1 = some true := xD (n := 2) rfl (by omega)
  simp only [zA, e, aj, bu, zY, ah, aa, reduceCtorEq]
  exact hP _ x1
theorem M4 (g : Gd f) (hP : ∀ w', cQ w w' → P (.bl true) w') : T (K05.eK k [.lst (bP f)] w) P := by
 unfold K05.eK
 rw [fH, aBA, YF, bF]
 simp only [zY, ah, aa, reduceCtorEq]
 rw [bF]
 simp only [lF, GW, zY, ah, aa, reduceCtorEq]
 obtain ⟨sp, esp⟩ : ∃ sp, sp = D.lst [.tup [.str ("every" : Str), .int 1, .int 1, .int 5], .tup [.str ("lost" : Str), .int 2, .int 0, .int 3], .tup [.str ("slow" : Str), .int 3, .int 1, .int 4], .tup [.str ("bears" : Str), .int 4, .int 0, .int 3], .tup [.str ("gap" : Str), .int 5, .int 0, .int 3]] := ⟨_, rfl⟩
 rw [← esp]
 refine Lb.mN (it := ⟨spans.map W8, always⟩) (fun i σ w' => cQ w w' ∧ ∃ s2 s3 s4 s5 s6 s7, σ = [some (.lst (bP f)), some sp, s2, s3, s4, s5, s6, s7]) (fun _ _ _ _ => trivial) ⟨cQ.refl, _, _, _, _, _, _, rfl⟩ (fun i x σ w1 hx hI => ?_) (fun σ w1 hI => ?_)
 ·obtain ⟨x1, s2, s3, s4, s5, s6, s7, rfl⟩ := hI
  rw [bw] at hx
  obtain ⟨q, hq, rfl⟩ := ao.mp hx
  have hs := RD g q (bf hq)
  simp only [W8, zY, ah, aa, reduceCtorEq]
  unfold aAd
  rw [bF]
  refine in1 k (q := q) hs fun w2 s6 s7 x2 => ?_
  rw [c5]
  refine in2 k (q := q) hs g.ok fun w3 s6 s7 x3 => ?_
  exact ⟨x1.trans (x2.trans x3), _, _, _, _, _, _, rfl⟩
 ·obtain ⟨x1, s2, s3, s4, s5, s6, s7, rfl⟩ := hI
  rw [c5, bF]
  refine aBN k g fun w2 s6 x2 => ?_
  rw [c5]
  refine aB8 k g fun w3 x3 => ?_
  exact hP _ (x1.trans (x2.trans x3))
def bR4 : MS := (dR (dP B5 (aA (eC (.int 1)) (aA (eC (.int 7)) aD))) (aR 5) (aP (aE bE (aB 4) (bT (dP B5 (aA (eC (.int 1)) (aA (eC (.int 5)) aD))) [8] (aR 8) bU (aE nP (aM (aA (aE nP (aM (aA (aB 2) aD)) (aB 5)) aD)) (aB 8)))) (aR 4)))
def bR7 : MS := (dR (cZ (aB 4)) (aR 7) (dE (fT (a8 (aE mH (aH (a9 k) 1 aL (aA (aH (bC k) 3 aL (aA (aB 3) (aA (eC (.int 0)) (aA (aB 7) aD)))) aD)) (eC .non))) (a8 (aE kJ (aE aZ (aH (b0 k) 1 aL (aA (aH (bX k) 1 aL (aA (aH (bC k) 3 aL (aA (aB 3) (aA (eC (.int 0)) (aA (aB 7) aD)))) aD)) aD)) (eC (.int 0))) (aB 7)))) (a7 (eC (.bl false))) a5))
def bR8 : MS := (a7 (aE fE (bT (cZ (aB 6)) [7] (aR 7) (a8 (aE kJ (aH (a9 k) 1 aL (aA (aH (bC k) 3 aL (aA (aB 3) (aA (eC (.int 0)) (aA (aB 7) aD)))) aD)) (eC (.str ("ranks" : Str))))) (aB 7)) (cD aD)))
theorem LS : iO k = aI (aP (aE bE (eC (.int 1)) (aH (aY k) 2 aL (aA (aB 0) (aA (eC (.int 12)) aD)))) (aR 2)) (aI (aP (aH (bC k) 3 aL (aA (aB 1) (aA (eC (.int 8)) (aA (aM aD) aD)))) (aR 3)) (aI (aP (cD aD) (aR 4)) (aI bR4 (aI (aP (cD (aA (aM aD) (aA (aM (aA (aM aD) aD)) (aA (aM (aA (aM aD) (aA (aM aD) aD))) (aA (aM (aA (aE nP (aM (aA (aB 2) aD)) (eC (.int 7))) aD)) (aA (aE nP (aM (aA (aM (aA (aB 2) aD)) aD)) (eC (.int 5))) (aA (aM (aA (aM (aA (aB 2) (aA (aB 2) aD))) (aA (aM (aA (aB 2) aD)) aD))) (aA (aM (aA (aM (aA (aB 2) aD)) (aA (aM (aA (aB 2) (aA (aB 2) aD))) aD))) (aA (aB 2) aD))))))))) (aR 6)) (aI (aP (aE bE (aB 6) (cD (aA (aM (aA (aM (aA (eC (.int 0)) aD)) aD)) (aA (aM (aA (aM (aA (eC (.int 13)) aD)) aD)) (aA (aM (aA (aM (aA (aB 2) (aA (eC (.int 0)) aD))) aD)) (aA (aM (aA (aM (aA (aB 2) aD)) (aA (aM (aA (eC (.int 13)) aD)) aD))) (aA (aM (aA (aM (aA (eC (.bl true)) aD)) aD)) (aA (aM (aA (cD (aA (aB 2) aD)) aD)) (aA (cD (aA (aM (aA (aB 2) aD)) aD)) (aA (aM (aA (aM (aA (aB 2) aD)) (aA (aM aD) aD))) aD)))))))))) (aR 6)) (aI (bR7 k) (bR8 k))))))) := rfl
def SW (y : Int) (i a : Nat) : D := .tup (List.replicate (a + 1) (.tup (List.replicate (i + 1) (.int y))))
def rR (y : Int) (n : Nat) : List D := (List.range n).flatMap fun i => (List.range 4).map fun a => SW y i a
def NW (y : Int) : List D := [.tup [], .tup [.tup []], .tup [.tup [], .tup []], .tup [.tup (List.replicate 7 (.int y))], .tup (List.replicate 5 (.tup [.int y])), .tup [.tup [.int y, .int y], .tup [.int y]], .tup [.tup [.int y], .tup [.int y, .int y]], .int y] ++ [.tup [.tup [.int 0]], .tup [.tup [.int 13]], .tup [.tup [.int y, .int 0]], .tup [.tup [.int y], .tup [.int 13]], .tup [.tup [.bl true]], .tup [.lst [.int y]], .lst [.tup [.int y]], .tup [.tup [.int y], .tup []]]
theorem NK : ((List.range 12).all fun y => (rR (1 + (y : Int)) 6).all fun x => sZ 6 x && b5 x) = true := by decide +kernel
theorem QD : ((List.range 12).all fun y => (NW (1 + (y : Int))).all fun x => gH 6 x && !b5 x) = true := by decide +kernel
theorem QB {y : Nat} (h : y < 12) {x : D} (hx : x ∈ rR (1 + (y : Int)) 6) : sZ 6 x = true ∧ b5 x = true := by
 have a := NK
 rw [ay] at a
 have b := a y (List.mem_range.mpr h)
 rw [ay] at b
 have c := b x hx
 rwa [ak] at c
theorem UT {y : Nat} (h : y < 12) {x : D} (hx : x ∈ NW (1 + (y : Int))) : gH 6 x = true ∧ b5 x = false := by
 have a := QD
 rw [ay] at a
 have b := a y (List.mem_range.mpr h)
 rw [ay] at b
 have c := b x hx
 rwa [ak, Bool.not_eq_true'] at c
theorem cJ.ext {r c b : Nat} (d : cJ w r c b) (x : cQ w w') : cJ w' r c b := by
 obtain ⟨ne, cells, sm, a, h1, h2, h3, h4⟩ := d
 refine ⟨ne, cells, sm, a, ?_, ?_, h3, h4⟩
 ·rw [x.at_ _ (ai.mp h1).1]; exact h1
 ·rw [x.at_ _ (ai.mp h2).1]; exact h2
theorem aBH {dk : D} {y : Int} {bare s5 s6 s7 s8 : Option D} (hP : ∀ s5 s8, PF (.nx [some dk, some (.lst (bP f)), some (.int y), bare, some (.lst (rR y 6)), s5, s6, s7, s8]) w) : T (bR4 [some dk, some (.lst (bP f)), some (.int y), bare, some (.lst []), s5, s6, s7, s8] w) PF := by
 unfold bR4
 simp only [R0 (a := 1) (b := 7) ⟨by omega, by omega⟩ ⟨by omega, by omega⟩, zY, ah, aa, reduceCtorEq]
 refine Lb.mN (it := gD 1 ((7 : Int) - 1).toNat) (fun i σ w' => w' = w ∧ ∃ s5 s8, σ = [some dk, some (.lst (bP f)), some (.int y), bare, some (.lst (rR y i)), s5, s6, s7, s8]) (fun _ _ _ _ => trivial) ⟨rfl, _, _, rfl⟩ (fun i x σ w1 hx hI => ?_) (fun σ w1 hI => ?_)
 ·obtain ⟨rfl, s5, s8, rfl⟩ := hI
  obtain ⟨hz, rfl⟩ := oP hx
  have hi : i < 6 := hz
  simp only [R0 (a := 1) (b := 5) ⟨by omega, by omega⟩ ⟨by omega, by omega⟩, lF, zY, ah, aa, reduceCtorEq]
  refine ⟨QO _ (by rw [kM]; omega), ?_⟩
  refine kG (it := gD 1 ((5 : Int) - 1).toNat) (List.range 4) (fun c => D.int (1 + (c : Int))) (fun c => SW y i c) rfl trivial (fun c hc => ?_) ?_
  ·have c4 := List.mem_range.mp hc
   have e1 : (1 + (i : Int)).toNat = i + 1 := by omega
   have e2 : (1 + (c : Int)).toNat = c + 1 := by omega
   simp only [dJ, zY, ah, aa, reduceCtorEq]
   rw [qW (by omega) (by omega), e1]
   try simp only [zY, ah, aa, reduceCtorEq]
   rw [qW (by omega) (by omega), e2]
   exact ⟨rfl, rfl⟩
  ·have l : ∀ n, (rR y n).length = n * 4 := by
    intro n
    induction n with
    | zero => rfl
    | succ n ih =>
     unfold rR at ih ⊢
     rw [List.range_succ (n := n), List.flatMap_append, cb, ih]
     simp only [List.flatMap_cons, List.flatMap_nil, List.append_nil, bq, List.length_range]
     omega
   refine ⟨?_, rfl, some (.int (1 + (i : Int))), s8, ?_⟩
   ·rw [sizeLine_eq, l]
    simp only [bq, List.length_range]
    omega
   ·have eg : rR y (i + 1) = rR y i ++ (List.range 4).map fun c => SW y i c := by
     unfold rR
     rw [List.range_succ (n := i), List.flatMap_append]
     simp only [List.flatMap_cons, List.flatMap_nil, List.append_nil]
    rw [eg]
 ·obtain ⟨rfl, s5, s8, rfl⟩ := hI
  exact hP _ _
theorem aBJ {dk : D} {gl bl : List D} {rk s4 s5 s7 s8 : Option D} (g : Gd f) (hb : ∀ x ∈ bl, gH 6 x = true ∧ b5 x = false) (hl : bl.length ≤ 1000) (hP : ∀ w', cQ w w' → PF (.rt (.bl true)) w') : T (bR8 k [some dk, some (.lst (bP f)), rk, some (.lst (bP (b7 f 8 (.tup [])))), s4, s5, some (.lst bl), s7, s8] w) PF := by
 have st : PyData.strOk ("ranks" : Str) = true := by decide +kernel
 unfold bR8
 simp only [GW, zY, ah, aa, reduceCtorEq]
 refine ⟨QO _ (by omega), ?_⟩
 refine tR (it := ⟨bl, always⟩) (fun i acc w' => cQ w w' ∧ acc = []) (fun _ _ _ _ => trivial) ⟨cQ.refl, rfl⟩ (fun i x acc w1 hx hI => ?_) (fun acc w1 hI => ?_)
 ·obtain ⟨x1, rfl⟩ := hI
  have hv := hb x (bf hx)
  simp only [dJ, zY, ah, aa, reduceCtorEq]
  refine lK k (by omega) (j := 0) rfl ?_
  try simp only [zY, ah, aa, reduceCtorEq]
  refine xC k (o := some ("ranks" : Str)) st (fun y hy => by cases hy; exact st) (fZ (fZ g.ok rfl) hv.1) (aBZ hv.2) fun w' x' => ?_
  simp only [decide_true, Bool.not_true, zY, ah, aa, reduceCtorEq]
  first | exact ⟨x1.trans x', rfl⟩ | exact x1.trans x'
 ·obtain ⟨x1, rfl⟩ := hI
  have e : rA (.lst []) (.lst []) w1 = some true := xD (n := 2) rfl (by omega)
  simp only [zA, e, aj, bu, zY, ah, aa, reduceCtorEq]
  exact hP _ x1
theorem aB9 {dk : D} {gl : List D} {rk s5 s6 s7 s8 : Option D} (g : Gd f) (hb : ∀ x ∈ gl, sZ 6 x = true ∧ b5 x = true) (hP : ∀ w' s7, cQ w w' → PF (.nx [some dk, some (.lst (bP f)), rk, some (.lst (bP (b7 f 8 (.tup [])))), some (.lst gl), s5, s6, s7, s8]) w') : T (bR7 k [some dk, some (.lst (bP f)), rk, some (.lst (bP (b7 f 8 (.tup [])))), some (.lst gl), s5, s6, s7, s8] w) PF := by
 unfold bR7
 simp only [GW, zY, ah, aa, reduceCtorEq]
 refine Lb.mN (it := ⟨gl, always⟩) (fun i σ w' => cQ w w' ∧ ∃ s7, σ = [some dk, some (.lst (bP f)), rk, some (.lst (bP (b7 f 8 (.tup [])))), some (.lst gl), s5, s6, s7, s8]) (fun _ _ _ _ => trivial) ⟨cQ.refl, _, rfl⟩ (fun i x σ w1 hx hI => ?_) (fun σ w1 hI => ?_)
 ·obtain ⟨x1, s7, rfl⟩ := hI
  have hv := hb x (bf hx)
  have g1 := g.aBO (DA hv.1) hv.2
  simp only [zY, ah, aa, reduceCtorEq]
  refine lK k (by omega) (j := 0) rfl ?_
  try simp only [zY, ah, aa, reduceCtorEq]
  refine u4 k g1.ok fun w2 x2 => ?_
  rw [g1.first]
  simp only [OS, D.isNon, Bool.not_true, zY, ah, aa, reduceCtorEq]
  refine lK k (by omega) (j := 0) rfl ?_
  try simp only [zY, ah, aa, reduceCtorEq]
  refine CQ k g1.ok g1.first fun w4 x4 hp => ?_
  try simp only [zY, ah, aa, reduceCtorEq]
  refine t4 k hp ?_
  have ea : atI (yW (b7 (b7 f 8 (.tup [])) 0 x)) 0 = some x := gZ (j := 0) rfl
  simp only [wB, m4, ea, aj, bu, ne_self hv.1 (show 6 ≤ 60 by omega), zY, ah, aa, reduceCtorEq]
  exact ⟨x1.trans (x2.trans x4), _, rfl⟩
 ·obtain ⟨x1, s7, rfl⟩ := hI
  exact hP _ _ x1
theorem Y7 {r c b : Nat} (dk : cJ w r c (b + 1)) (g : Gd f) (hP : ∀ w', cJ w' r c b → P (.bl true) w') : T (K05.fN k [.ref r, .lst (bP f)] w) P := by
 unfold K05.fN
 rw [fH, aBy, LS, bF]
 simp only [u3, zY, ah, aa, reduceCtorEq]
 refine dW dk (by omega) (by omega) fun y w1 y0 y1 d1 k1 => ?_
 obtain ⟨y, rfl⟩ : ∃ n : Nat, y = (n : Int) := ⟨y.toNat, by omega⟩
 have y12 : y < 12 := by omega
 simp only [fW, zY, ah, aa, reduceCtorEq]
 rw [bF]
 simp only [zY, ah, aa, reduceCtorEq]
 refine lK k (by omega) (j := 8) rfl ?_
 try simp only [zY, ah, aa, reduceCtorEq]
 rw [bF]
 simp only [zY, ah, aa, reduceCtorEq]
 rw [bF]
 refine aBH fun s5 s8 => ?_
 rw [c5]
 rw [bF]
 have m7 : ∀ (d : D) (w : W) (P : D → W → Prop), T (nP (.tup [d]) (.int 7) w) P = P (.tup (List.replicate 7 d)) w := fun d w P => by rw [qW (by omega) (by omega)]; rfl
 have m5 : ∀ (d : D) (w : W) (P : D → W → Prop), T (nP (.tup [d]) (.int 5) w) P = P (.tup (List.replicate 5 d)) w := fun d w P => by rw [qW (by omega) (by omega)]; rfl
 simp only [m7, m5, zY, ah, aa, reduceCtorEq]
 rw [bF]
 simp only [lF, zY, ah, aa, reduceCtorEq]
 have fold : ∀ xs, xs = NW (1 + (y : Int)) → (D.lst xs) = .lst (NW (1 + (y : Int))) := fun xs e => by rw [e]
 obtain ⟨gl, egl⟩ : ∃ gl, gl = rR (1 + (y : Int)) 6 := ⟨_, rfl⟩
 have hgl : ∀ x ∈ gl, sZ 6 x = true ∧ b5 x = true := fun x hx => QB y12 (by rw [← egl]; exact hx)
 rw [← egl]
 obtain ⟨bl, ebl⟩ : ∃ bl, bl = NW (1 + (y : Int)) := ⟨_, rfl⟩
 have hbl : ∀ x ∈ bl, gH 6 x = true ∧ b5 x = false := fun x hx => UT y12 (by rw [← ebl]; exact hx)
 have fb : ∀ (xs : List D), xs = NW (1 + (y : Int)) → ∀ (σ0 σ1 σ2 σ3 σ4 σ5 σ7 σ8 : Option D) (PP : Sg → Prop), PP [σ0, σ1, σ2, σ3, σ4, σ5, some (.lst bl), σ7, σ8] → PP [σ0, σ1, σ2, σ3, σ4, σ5, some (.lst xs), σ7, σ8] := fun xs e σ0 σ1 σ2 σ3 σ4 σ5 σ7 σ8 PP h => by rw [e, ← ebl]; exact h
 have lb : bl.length ≤ 1000 := by rw [ebl]; exact ae rfl
 rw [bF]
 refine ⟨by rw [sizeLine_eq]; omega, ?_⟩
 refine aB9 k g hgl fun w2 s7 x2 => ?_
 rw [c5]
 refine fb _ rfl _ _ _ _ _ _ _ _ (fun s => T (bR8 k s w2) _) ?_
 refine aBJ k (gl := gl) g hbl lb fun w3 x3 => ?_
 exact hP _ (cJ.ext d1 (x2.trans x3))
def YC : MS := (dR (cZ (aB 5)) (aR 9) (aI (aP (aH (bC k) 3 aL (aA (aB 1) (aA (eC (.int 8)) (aA (aB 9) aD)))) (aR 10))
 (dE (fT (a8 (aE mH (aH (a9 k) 1 aL (aA (aB 10) aD)) (eC .non))) (a8 (aE kJ (aE aZ (aH (b0 k) 1 aL (aA (aH (bX k) 1 aL (aA (aB 10) aD)) aD)) (eC (.int 8))) (aB 9)))) (a7 (eC (.bl false))) a5)))
def XQ : MS := (a7 (aE fE (bT (cZ (aE zK (aB 7) (cD (aA (aB 8) aD)))) [9] (aR 9) (a8 (aE kJ (aH (a9 k) 1 aL (aA (aH (bC k) 3 aL (aA (aB 1) (aA (eC (.int 8)) (aA (aB 9) aD)))) aD)) (eC (.str ("ties" : Str))))) (aB 9)) (cD aD)))
def bC7 (rest : MS) : MS := (aI (aP (aE tL (aB 7) (cD (aA (aM (aA (aM (aA (eC (.int 0)) (aA (eC (.int 0)) (aA (eC (.int 1)) aD)))) (aA (aM (aA (eC (.int 0)) (aA (eC (.int 0)) (aA (eC (.int 2)) aD)))) aD))) (aA (aM (aA (aM (aA (eC (.int 0)) (aA (eC (.int 0)) (aA (eC (.int 1)) (aA (eC (.int 1)) aD))))) aD)) (aA (aM (aA (aM (aA (eC (.int 0)) (aA (eC (.int 0)) aD))) aD)) (aA (aM (aA (cD (aA (eC (.int 0)) (aA (eC (.int 0)) (aA (eC (.int 1)) aD)))) aD)) (aA (cD (aA (aM (aA (eC (.int 0)) (aA (eC (.int 0)) (aA (eC (.int 1)) aD)))) aD)) (aA (aM (aA (aM (aA (eC (.bl true)) (aA (eC (.int 0)) (aA (eC (.int 1)) aD)))) aD)) aD)))))))) (aR 7)) (aI (b6 (dA "list" cO (aB 7) (aA (aM (aA (eC (.int 0)) (aA (eC (.int 0)) (aA (eC (.int 1)) aD)))) aD))) (aI (aP (aW fL (aA (bT (dP i0 (aA (eC (.int 7)) aD)) [11] (aR 11) bU (aM (aA (aB 3) (aA (aB 11) (aA (eC (.int 1)) aD))))) aD)) (aR 8)) rest)))
def bC3 (rest : MS) : MS := (aI (aP (cD (aA (aM aD) (aA (aB 4) (aA (nD kH (aB 4) cY (cK (eC (.int 1)))) (aA (aM (aA (aM (aA (eC (.int 0)) (aA (eC (.int 0)) (aA (eC (.int 1)) aD)))) aD)) (aA (aM (aA (aM (aA (aB 2) (aA (eC (.int 9)) (aA (eC (.int 11)) aD)))) aD)) (aA (nD kH (aM (aA (aM (aA (eC (.int 0)) (aA (eC (.int 9)) (aA (eC (.int 1)) aD)))) (aA (aM (aA (aB 2) (aA (eC (.int 9)) (aA (eC (.int 2)) aD)))) aD))) cY (cK (aE bE (eC (.int 1)) (aW oB (aA (aE BU (aB 2) (eC (.int 0))) aD))))) aD))))))) (aR 5)) (aI (aP (aE bE (aE bE (aB 4) (aE nP (aM (aA (aM (aA (aB 2) (aA (eC (.int 9)) (aA (eC (.int 1)) aD)))) aD)) (aW oB (aA (aE BR (aB 3) (aB 2)) aD)))) (aE nP (aM (aA (aM (aA (aB 3) (aA (eC (.int 9)) (aA (eC (.int 11)) aD)))) aD)) (aW oB (aA (aE fE (aB 3) (aB 2)) aD)))) (aR 6)) (aI (aP (cD (aA (aB 6) (aA (sV NL (aB 4)) (aA (aE bE (aB 4) (nD kH (aB 4) (cK (sV nR (eC (.int 1)))) cY)) aD)))) (aR 7)) (aI (aP (aE bE (aB 7) (cD (aA (aM (aA (aM (aA (aE bE (aB 2) (eC (.int 1))) (aA (eC (.int 0)) (aA (eC (.int 1)) aD)))) aD)) (aA (aM (aA (aM (aA (sV nR (eC (.int 1))) (aA (eC (.int 0)) (aA (eC (.int 1)) aD)))) aD)) (aA (aM (aA (aM (aA (eC (.int 0)) (aA (eC (.int 10)) (aA (eC (.int 1)) aD)))) aD)) (aA (aM (aA (aM (aA (eC (.int 0)) (aA (sV nR (eC (.int 1))) (aA (eC (.int 1)) aD)))) aD)) (aA (aM (aA (aM (aA (eC (.int 0)) (aA (eC (.int 0)) (aA (eC (.int 0)) aD)))) aD)) (aA (aM (aA (aM (aA (eC (.int 0)) (aA (eC (.int 0)) (aA (eC (.int 12)) aD)))) aD)) (aA (eC .non) aD))))))))) (aR 7)) rest))))
theorem OO : hD k = aI (aP (aE iB (aW dO (aA (aE aZ (aE aZ (aB 1) (eC (.int 0))) (eC (.int 0))) aD)) (eC (.int 1))) (aR 2)) (aI (aP (aH (aY k) 2 aL (aA (aB 0) (aA (aE bE (aB 2) (eC (.int 1))) aD))) (aR 3)) (aI (aP (aW fL (aA (bT (cZ (aM (aA (eC (.int 0)) (aA (eC (.int 1)) (aA (eC (.int 2)) (aA (eC (.int 4)) (aA (eC (.int 8)) (aA (eC (.int 9)) aD)))))))) [11] (aR 11) bU (aM (aA (aB 3) (aA (aB 11) (aA (aE bE (eC (.int 1)) (aB 11)) aD))))) aD)) (aR 4)) (bC3 (bC7 (aI (YC k) (XQ k)))))) := rfl
theorem aAN {dk sv : D} {q : Nat} {bl : List D} {s2 s3 s4 s5 s6 s9 s10 s11 : Option D} (g : Gd f) (hq : w[q]? = some (.lst bl)) (hb : ∀ x ∈ bl ++ [sv], gH 6 x = true ∧ j7 (iT f.r) x = false) (hl : bl.length ≤ 1000) (hP : ∀ w', cQ w w' → PF (.rt (.bl true)) w') : T (XQ k [some dk, some (.lst (bP f)), s2, s3, s4, s5, s6, some (.ref q), some sv, s9, s10, s11] w) PF := by
 have st : PyData.strOk ("ties" : Str) = true := by decide +kernel
 have ea : zK (.ref q) (.lst [sv]) w = .ok (.lst (bl ++ [sv])) w := by
  have e1 : r4 (.ref q) w = some bl := by simp only [r4, hq]
  have e2 : r4 (.lst [sv]) w = some [sv] := rfl
  unfold zK
  simp only [e1, e2]
  rw [if_pos (by rw [sizeLine_eq, List.length_singleton]; omega)]
 unfold XQ
 simp only [ea, bZ, GW, zY, ah, aa, reduceCtorEq]
 refine ⟨QO _ (by rw [cb, List.length_singleton]; omega), ?_⟩
 refine tR (it := ⟨bl ++ [sv], always⟩) (fun i acc w' => cQ w w' ∧ acc = []) (fun _ _ _ _ => trivial) ⟨cQ.refl, rfl⟩ (fun i x acc w1 hx hI => ?_) (fun acc w1 hI => ?_)
 ·obtain ⟨x1, rfl⟩ := hI
  have hv := hb x (bf hx)
  simp only [dJ, zY, ah, aa, reduceCtorEq]
  refine lK k (by omega) (j := 8) rfl ?_
  try simp only [zY, ah, aa, reduceCtorEq]
  refine xC k (o := some ("ties" : Str)) st (fun y hy => by cases hy; exact st) (fZ g.ok hv.1) (g.aBr hv.2) fun w' x' => ?_
  simp only [decide_true, Bool.not_true, zY, ah, aa, reduceCtorEq]
  first | exact ⟨x1.trans x', rfl⟩ | exact x1.trans x'
 ·obtain ⟨x1, rfl⟩ := hI
  have e : rA (.lst []) (.lst []) w1 = some true := xD (n := 2) rfl (by omega)
  simp only [zA, e, aj, bu, zY, ah, aa, reduceCtorEq]
  exact hP _ x1
theorem aAu {dk : D} {gl : List D} {s2 s3 s4 s6 s7 s8 s9 s10 s11 : Option D} (g : Gd f) (hb : ∀ x ∈ gl, sZ 6 x = true ∧ j7 (iT f.r) x = true) (hP : ∀ w' s9 s10, cQ w w' → PF (.nx [some dk, some (.lst (bP f)), s2, s3, s4, some (.lst gl), s6, s7, s8, s9, s10, s11]) w') : T (YC k [some dk, some (.lst (bP f)), s2, s3, s4, some (.lst gl), s6, s7, s8, s9, s10, s11] w) PF := by
 unfold YC
 simp only [GW, zY, ah, aa, reduceCtorEq]
 refine Lb.mN (it := ⟨gl, always⟩) (fun i σ w' => cQ w w' ∧ ∃ s9 s10, σ = [some dk, some (.lst (bP f)), s2, s3, s4, some (.lst gl), s6, s7, s8, s9, s10, s11]) (fun _ _ _ _ => trivial) ⟨cQ.refl, _, _, rfl⟩ (fun i x σ w1 hx hI => ?_) (fun σ w1 hI => ?_)
 ·obtain ⟨x1, s9, s10, rfl⟩ := hI
  have hv := hb x (bf hx)
  have g1 := g.aBI (DA hv.1) hv.2
  simp only [zY, ah, aa, reduceCtorEq]
  rw [bF]
  simp only [zY, ah, aa, reduceCtorEq]
  refine lK k (by omega) (j := 8) rfl ?_
  try simp only [zY, ah, aa, reduceCtorEq]
  refine xZ k (j := 8) g1 rfl rfl hv.1 fun w' x' => ?_
  simp only [zY, ah, aa, reduceCtorEq]
  exact ⟨x1.trans x', _, _, rfl⟩
 ·obtain ⟨x1, s9, s10, rfl⟩ := hI
  exact hP _ _ _ x1
def fB (a c d : Int) : D := .tup [.int a, .int c, .int d]
def wQ (v : Int) : List D := [(0 : Int), 1, 2, 4, 8, 9].map fun a => fB v a (1 + a)
def aBp (l : Int) : List D := Pc.cutD [fB 0 9 1, fB l 9 2] none (some (1 + if decide (l > 0) = true then 1 else 0))
def QV (l v : Int) : List D := [.tup [], .tup (wQ v), .tup (Pc.cutD (wQ v) none (some 1)), .tup [fB 0 0 1], .tup [fB l 9 11], .tup (aBp l)]
def one (b : Bool) (d : D) : List D := List.replicate (if b = true then 1 else 0) d
def SV (l v : Int) : D := .tup (wQ v ++ one (decide (v < l)) (fB l 9 1) ++ one (v == l) (fB v 9 11))
def aAn (l v : Int) : List D := [SV l v, .tup (wQ v).reverse, .tup (wQ v ++ Pc.cutD (wQ v) (some (-1)) none)] ++ [.tup [fB (l + 1) 0 1], .tup [fB (-1) 0 1], .tup [fB 0 10 1], .tup [fB 0 (-1) 1], .tup [fB 0 0 0], .tup [fB 0 0 12], .non] ++ [.tup [fB 0 0 1, fB 0 0 2], .tup [.tup [.int 0, .int 0, .int 1, .int 1]], .tup [.tup [.int 0, .int 0]], .tup [.lst [.int 0, .int 0, .int 1]], .lst [fB 0 0 1], .tup [.tup [.bl true, .int 0, .int 1]]]
def VG (l v : Int) : List D := aAn l v ++ [fB 0 0 1]
def KH (v : Int) : D := .tup ((List.range 7).map fun a : Nat => fB v (0 + (a : Int)) 1)
theorem OC : ((List.range 6).all fun l => (List.range (l + 1)).all fun v => (QV l v).all fun x => sZ 6 x && j7 ((l : Int) + 1) x) = true := by decide +kernel
theorem O7 : ((List.range 6).all fun l => (List.range (l + 1)).all fun v => (VG l v ++ [KH v]).all fun x => gH 6 x && !j7 ((l : Int) + 1) x) = true := by decide +kernel
theorem OZ {l v : Nat} (h : l < 6) (hv : v < l + 1) {x : D} (hx : x ∈ QV l v) : sZ 6 x = true ∧ j7 ((l : Int) + 1) x = true := by
 have a := OC
 rw [ay] at a
 have b := a l (List.mem_range.mpr h)
 rw [ay] at b
 have b2 := b v (List.mem_range.mpr hv)
 rw [ay] at b2
 have c := b2 x hx
 rwa [ak] at c
theorem VM {l v : Nat} (h : l < 6) (hv : v < l + 1) {x : D} (hx : x ∈ VG l v ++ [KH v]) : gH 6 x = true ∧ j7 ((l : Int) + 1) x = false := by
 have a := O7
 rw [ay] at a
 have b := a l (List.mem_range.mpr h)
 rw [ay] at b
 have b2 := b v (List.mem_range.mpr hv)
 rw [ay] at b2
 have c := b2 x hx
 rwa [ak, Bool.not_eq_true'] at c
theorem aAE {xs : List D} {lo hi : Option Int} : kH (.tup xs) lo hi w = .ok (.tup (Pc.cutD xs lo hi)) w := rfl
theorem UM {xs : List D} : NL (.tup xs) w = .ok (.tup xs.reverse) w := rfl
theorem VB {b : Bool} : T (oB [.bl b] w) P = P (.int (if b = true then 1 else 0)) w := by unfold T; cases b <;> rfl
theorem aCg {b : Bool} : T (nP (.tup [d]) (.int (if b = true then 1 else 0)) w) P = P (.tup (one b d)) w := by
 cases b
 ·exact qW (n := 0) (by omega) (by omega)
 ·exact qW (n := 1) (by omega) (by omega)
theorem ltI {a c : Int} : T (BR (.int a) (.int c) w) P = P (.bl (decide (a < c))) w := by unfold T; rfl
theorem W4 {xs ys : List D} : T (bE (.tup xs) (.tup ys) w) P = (xs.length + ys.length ≤ sizeLine ∧ P (.tup (xs ++ ys)) w) := by unfold bE; simp only [c7, bZ]
theorem aBQ {rest : MS} {dk : D} {l v : Int} {s5 s6 s7 s8 s9 s10 s11 : Option D} (hP : T (rest [some dk, some (.lst (bP f)), some (.int l), some (.int v), some (.tup (wQ v)), some (.lst (QV l v)), some (SV l v), some (.lst ([SV l v, .tup (wQ v).reverse, .tup (wQ v ++ Pc.cutD (wQ v) (some (-1)) none)] ++ [.tup [fB (l + 1) 0 1], .tup [fB (-1) 0 1], .tup [fB 0 10 1], .tup [fB 0 (-1) 1], .tup [fB 0 0 0], .tup [fB 0 0 12], .non])), s8, s9, s10, s11] w) PF) : T (bC3 rest [some dk, some (.lst (bP f)), some (.int l), some (.int v), some (.tup (wQ v)), s5, s6, s7, s8, s9, s10, s11] w) PF := by
 unfold bC3
 rw [bF]
 simp only [aAE, bZ, NG, VB, fW, zY, ah, aa, reduceCtorEq]
 rw [bF]
 simp only [ltI, zA, tF, aj, bu, VB, aCg, W4, zY, ah, aa, reduceCtorEq]
 have n1 : ∀ (b : Bool) (d : D), (one b d).length ≤ 1 := fun b d => by unfold one; cases b <;> simp
 have n6 : (wQ v).length = 6 := rfl
 refine ⟨?_, ?_, ?_⟩
 ·have := n1 (decide (v < l)) (D.tup [D.int l, D.int 9, D.int 1])
  rw [sizeLine_eq, n6]
  omega
 ·have h1 := n1 (decide (v < l)) (D.tup [D.int l, D.int 9, D.int 1])
  have h2 := n1 (v == l) (D.tup [D.int v, D.int 9, D.int 11])
  rw [sizeLine_eq, cb, n6]
  omega
 rw [bF]
 simp only [aAE, UM, bZ, W4, zY, ah, aa, reduceCtorEq]
 refine ⟨by rw [sizeLine_eq]; exact ae rfl, ?_⟩
 rw [bF]
 simp only [fW, lF, zY, ah, aa, reduceCtorEq]
 exact hP
theorem aBL {rest : MS} {dk : D} {v : Int} {xs : List D} {s2 s4 s5 s6 s8 s9 s10 s11 : Option D} (hl : xs.length ≤ 100) (hP : ∀ w', cQ w w' → w'[w.length]? = some (.lst (xs ++ [.tup [fB 0 0 1, fB 0 0 2], .tup [.tup [.int 0, .int 0, .int 1, .int 1]], .tup [.tup [.int 0, .int 0]], .tup [.lst [.int 0, .int 0, .int 1]], .lst [fB 0 0 1], .tup [.tup [.bl true, .int 0, .int 1]]] ++ [fB 0 0 1])) → T (rest [some dk, some (.lst (bP f)), s2, some (.int v), s4, s5, s6, some (.ref w.length), some (KH v), s9, s10, s11] w') PF) : T (bC7 rest [some dk, some (.lst (bP f)), s2, some (.int v), s4, s5, s6, some (.lst xs), s8, s9, s10, s11] w) PF := by
 unfold bC7
 rw [bF]
 simp only [zY, ah, aa, reduceCtorEq]
 rw [L6 (xs := xs) (zs := _) rfl rfl]
 refine ⟨by rw [sizeLine_eq]; simp; omega, ?_⟩
 obtain ⟨ys, ey⟩ : ∃ ys, ys = xs ++ [.tup [fB 0 0 1, fB 0 0 2], .tup [.tup [.int 0, .int 0, .int 1, .int 1]], .tup [.tup [.int 0, .int 0]], .tup [.lst [.int 0, .int 0, .int 1]], .lst [fB 0 0 1], .tup [.tup [.bl true, .int 0, .int 1]]] := ⟨_, rfl⟩
 have hq : (w ++ [MO.lst ys])[w.length]? = some (.lst ys) := by rw [bc (bp _)]; simp
 have ly : ys.length ≤ 200 := by rw [ey]; simp; omega
 try simp only [zY, ah, aa, reduceCtorEq]
 show T (aI _ _ _ (w ++ [MO.lst (xs ++ [.tup [fB 0 0 1, fB 0 0 2], .tup [.tup [.int 0, .int 0, .int 1, .int 1]], .tup [.tup [.int 0, .int 0]], .tup [.lst [.int 0, .int 0, .int 1]], .lst [fB 0 0 1], .tup [.tup [.bl true, .int 0, .int 1]]])])) _
 rw [← ey] at hP ⊢
 rw [bF]
 simp only [tyL hq, FV hq, zY, ah, aa, reduceCtorEq]
 refine ⟨by rw [sizeLine_eq]; omega, ?_⟩
 obtain ⟨w2, e2⟩ : ∃ w2, w2 = (w ++ [MO.lst ys]).set w.length (.lst (ys ++ [fB 0 0 1])) := ⟨_, rfl⟩
 have x2 : cQ w w2 := ⟨by rw [e2]; simp, fun i hi => by rw [e2, ax (by omega), aq hi]⟩
 have h2 : w2[w.length]? = some (.lst (ys ++ [fB 0 0 1])) := by rw [e2]; exact av (by simp)
 show T (aI _ _ _ ((w ++ [MO.lst ys]).set w.length (.lst (ys ++ [fB 0 0 1])))) _
 rw [← e2, bF]
 simp only [vD (n := 7) (by omega) (by omega), zY, ah, aa, reduceCtorEq]
 refine ⟨QO _ (by rw [kM]; omega), ?_⟩
 refine kG (it := gD 0 (7 : Int).toNat) (List.range 7) (fun a => D.int (0 + (a : Int))) (fun a => fB v (0 + (a : Int)) 1) rfl trivial (fun a _ => ?_) ?_
 ·simp only [dJ, zY, ah, aa, reduceCtorEq]
  first | exact ⟨rfl, rfl⟩ | rfl
 simp only [QP, zY, ah, aa, reduceCtorEq]
 exact hP w2 x2 h2
theorem TH {r c b : Nat} (dk : cJ w r c (b + 1)) (g : Gd f) (hP : ∀ w', cJ w' r c b → P (.bl true) w') : T (K05.fC k [.ref r, .lst (bP f)] w) P := by
 obtain ⟨r0, rest, er, h1, h6, -⟩ := HU g.r
 obtain ⟨l, el⟩ : ∃ l : Nat, r0.length = l + 1 := ⟨r0.length - 1, by omega⟩
 have l6 : l < 6 := by omega
 have ew : iT f.r = (l : Int) + 1 := by rw [er]; show ((r0.length : Nat) : Int) = _; omega
 unfold K05.fC
 rw [fH, aBv, OO, bF]
 have sub1 : (((r0.length : Nat) : Int) - 1) = (l : Int) := by omega
 simp only [ZM, er, ZX, D7, uN, sub1, aj, bu, zY, ah, aa, reduceCtorEq]
 rw [bF]
 simp only [u3, fW, zY, ah, aa, reduceCtorEq]
 refine dW dk (by omega) (by omega) fun v w1 v0 v1 d1 k1 => ?_
 obtain ⟨v, rfl⟩ : ∃ n : Nat, v = (n : Int) := ⟨v.toNat, by omega⟩
 have vl : v < l + 1 := by omega
 try simp only [zY, ah, aa, reduceCtorEq]
 rw [bF]
 simp only [vK, zY, ah, aa, reduceCtorEq]
 refine kG (it := ⟨[D.int 0, .int 1, .int 2, .int 4, .int 8, .int 9], always⟩) [(0 : Int), 1, 2, 4, 8, 9] D.int (fun a => fB v a (1 + a)) rfl trivial (fun a _ => ?_) ?_
 ·simp only [dJ, fW, zY, ah, aa, reduceCtorEq]
  first | exact ⟨rfl, rfl⟩ | rfl
 simp only [QP, zY, ah, aa, reduceCtorEq]
 refine aBQ ?_
 refine aBL (by simp) fun w2 x2 h2 => ?_
 rw [bF]
 refine aAu k g (fun x hx => ?_) fun w3 s9 s10 x3 => ?_
 ·rw [ew]
  exact OZ l6 vl hx
 rw [c5]
 have h3 : w3[w1.length]? = some (.lst (VG l v)) := by
  rw [x3.at_ _ (ai.mp h2).1]
  exact h2
 refine aAN k g h3 (fun x hx => ?_) (by rw [show (VG (l : Int) (v : Int)).length = 17 from rfl]; omega) fun w4 x4 => ?_
 ·rw [ew]
  exact VM l6 vl hx
 exact hP _ (cJ.ext d1 (x2.trans (x3.trans x4)))
def KC : MS := (aI (aP (cD (aA (aW fL (aA (aB 5) aD)) (aA (aE bE (eC (.int 1)) (aH (aY k) 2 aL (aA (aB 0) (aA (eC (.int 5)) aD)))) (aA (aH (aY k) 2 aL (aA (aB 0) (aA (eC (.int 4)) aD))) (aA (aE bE (eC (.int 1)) (aH (aY k) 2 aL (aA (aB 0) (aA (eC (.int 4)) aD)))) aD))))) (aR 9))
 (aI (aP (aE tL (aB 9) (cD (aA (aH (eZ k) 2 aL (aA (aB 0) (aA (cD (aA (eC .non) (aA (eC (.int 0)) (aA (eC (.int 1)) (aA (eC (.int 2)) (aA (eC (.int 3)) aD)))))) aD))) (aA (aH (aY k) 2 aL (aA (aB 0) (aA (eC (.int 4)) aD))) aD)))) (aR 9))
 (aI (b6 (dA "list" cO (aB 9) (aA (aH (eZ k) 2 aL (aA (aB 0) (aA (cD (aA (eC (.int 0)) (aA (eC (.int 9)) (aA (eC (.int 10)) (aA (eC (.int 20)) (aA (aH (aY k) 2 aL (aA (aB 0) (aA (eC (.int 21)) aD))) aD)))))) aD))) aD)))
 (a7 (aE zK (aB 9) (cD (aA (aE fE (aH (aY k) 2 aL (aA (aB 0) (aA (eC (.int 2)) aD))) (eC (.int 1))) (aA (aB 8) (aA (aH (aY k) 2 aL (aA (aB 0) (aA (eC (.int 5)) aD))) aD)))))))))
def RU (rest : MS) : MS := (aI (aP nL (aR 6)) (aI (dR (dP i0 (aA (aE aZ (cD (aA (aH (aY k) 2 aL (aA (aB 0) (aA (eC (.int 7)) aD))) (aA (eC (.int 24)) aD))) (aB 1)) aD)) (aR 7) RA) (aI (aP (aW fL (aA (aW kB (aA (bT (qU (aB 6)) [12] (aR 12) bU (aE bE (aB 12) (aM (aA (aE aZ (aB 6) (aB 12)) aD)))) aD)) aD)) (aR 8)) rest)))
theorem TZ : jW k = aI (aP (aM (aA (aE aZ (cD (aA (aE bE (eC (.int 1)) (aH (aY k) 2 aL (aA (aB 0) (aA (eC (.int 6)) aD)))) (aA (eC (.int 6)) aD))) (aB 1)) (aA (aE aZ (cD (aA (aE bE (eC (.int 1)) (aH (aY k) 2 aL (aA (aB 0) (aA (eC (.int 4)) aD)))) (aA (eC (.int 4)) aD))) (aB 1)) aD))) (bS 2 (aK (aR 2) (aK (aR 3) bR)))) (aI (aP (aH (eZ k) 2 aL (aA (aB 0) (aA (cD (aA (eC (.int 1)) (aA (eC (.int 8)) (aA (eC (.int 9)) (aA (eC (.int 10)) aD))))) aD))) (aR 4)) (aI (aP (bT (dP i0 (aA (aB 3) aD)) [10] (aR 10) bU (aW fL (aA (bT (dP i0 (aA (aB 2) aD)) [11] (aR 11) bU (aE bE (aB 4) (aH (aY k) 2 aL (aA (aB 0) (aA (aE iB (eC (.int 13)) (aB 4)) aD))))) aD))) (aR 5)) (RU k (KC k)))) := rfl
theorem S4 {gi : Int} (hg : gi = 0 ∨ gi = 1) {x m : Int} (x0 : 0 ≤ x) (x1 : x < m) : ∃ H : Nat, atI [D.int (1 + x), .int m] gi = some (.int (H : Nat)) ∧ 1 ≤ H ∧ (H : Int) ≤ m := by
 rcases hg with rfl | rfl
 ·exact ⟨(1 + x).toNat, by rw [ZX, show ((1 + x).toNat : Int) = 1 + x by omega], by omega, by omega⟩
 ·refine ⟨m.toNat, ?_, by omega, by omega⟩
  rw [show ((m.toNat : Nat) : Int) = m by omega]
  exact gZ (j := 1) rfl
theorem ZD {t : Int × Int × Int} (h : t.1 ≤ 1000 ∧ t.2.1 ≤ 1000 ∧ t.2.2 ≤ 1000) : gH 5 (eR t) = true := by
 obtain ⟨a, c, d⟩ := t
 simp only [eR, gH, List.all_cons, List.all_nil, List.length_cons, List.length_nil, Bool.and_true, ak, au]
 simp only at h
 omega
theorem TY {H N : Nat} {ds : List D} {us : List (Int × Int × Int)} {e l s g hs x : Int} {be ho : D} {bt : Bool} (hr : L3 H N ds) (n1 : 1 ≤ N) (n4 : N ≤ 4) (H1 : 1 ≤ H) (H6 : H ≤ 6) (hc : yA H us) (e0 : 0 ≤ e) (e1 : e < 5) (l0 : 0 ≤ l) (l1 : l < 4) (s0 : 0 ≤ s) (s1 : s < 4) (hb : be ∈ ([.non, .int 0, .int 1, .int 2, .int 3] : List D)) (g0 : 0 ≤ g) (g1 : g < 4) (x0 : 0 ≤ x) (x1 : x < 21) (hh : ho ∈ ([.int 0, .int 9, .int 10, .int 20, .int x] : List D)) (h0 : 0 ≤ hs) (h1 : hs < 5) :
  Gd ⟨.tup ds, .int (1 + e), .int l, .int (1 + s), be, .int g, ho, .bl bt, .tup ((us.mergeSort zF).map eR), .int hs⟩ := by
 obtain ⟨r1, r2, r0, rest, er, el⟩ := VN hr n1 n4 H1 H6
 obtain ⟨c1, c2, c3⟩ := hc
 have ew : iT (.tup ds) = (H : Int) := by rw [er]; show ((r0.length : Nat) : Int) = _; omega
 have ob : gH 6 be = true ∧ (be = .non ∨ aU 0 3 be = true) := by
  simp only [br, bx, or_false] at hb
  rcases hb with rfl | rfl | rfl | rfl | rfl
  ·exact ⟨rfl, .inl rfl⟩
  ·exact ⟨rfl, .inr rfl⟩
  ·exact ⟨rfl, .inr rfl⟩
  ·exact ⟨rfl, .inr rfl⟩
  ·exact ⟨rfl, .inr rfl⟩
 have wi : ∀ {lo hi v : Int}, lo ≤ v → v ≤ hi → aU lo hi (.int v) = true := fun a b => by simp [aU, a, b]
 have oh : gH 6 ho = true ∧ aU 0 20 ho = true := by
  simp only [br, bx, or_false] at hh
  rcases hh with rfl | rfl | rfl | rfl | rfl
  ·exact ⟨rfl, rfl⟩
  ·exact ⟨rfl, rfl⟩
  ·exact ⟨rfl, rfl⟩
  ·exact ⟨rfl, rfl⟩
  ·exact ⟨mQ (by omega), wi (by omega) (by omega)⟩
 have ot : gH 6 (.tup ((us.mergeSort zF).map eR)) = true := by
  have e5 : (us.mergeSort zF).length = us.length := List.length_mergeSort ..
  simp only [gH, ak, ay, au, bq, e5]
  refine ⟨fun y hy => ?_, by omega⟩
  obtain ⟨t, ht, rfl⟩ := cc.mp hy
  have ht := c3 t (List.mem_mergeSort.mp ht)
  exact ZD ⟨by omega, by omega, by omega⟩
 refine ⟨fun d hd => ?_, r1, wi (by omega) (by omega), wi (by omega) (by omega), wi (by omega) (by omega), ?_, wi (by omega) (by omega), oh.2, rfl, ?_, wi (by omega) (by omega)⟩
 ·simp only [bP, br, bx, or_false] at hd
  rcases hd with rfl | rfl | rfl | rfl | rfl | rfl | rfl | rfl | rfl | rfl
  ·exact r2
  ·exact mQ (by omega)
  ·exact mQ (by omega)
  ·exact mQ (by omega)
  ·exact ob.1
  ·exact mQ (by omega)
  ·exact oh.1
  ·rfl
  ·exact ot
  ·exact mQ (by omega)
 ·unfold dX
  rcases ob.2 with rfl | h
  ·exact wi (by omega) (by omega)
  ·cases be <;> first | exact h | (simp [aU] at h; done)
 ·show j7 (iT (.tup ds)) _ = true
  rw [ew]
  exact EZ c1 c2 c3
theorem V1 {r c b H N : Nat} {ds : List D} {us : List (Int × Int × Int)} {s1 s2 s3 s4 s6 s7 s9 s10 s11 s12 : Option D} (dk : cJ w r c (b + 20)) (hr : L3 H N ds) (n1 : 1 ≤ N) (n4 : N ≤ 4) (H1 : 1 ≤ H) (H6 : H ≤ 6) (hc : yA H us) (hP : ∀ f w', Gd f → cJ w' r c b → PF (.rt (.lst (bP f))) w') : T (KC k [some (.ref r), s1, s2, s3, s4, some (.lst ds), s6, s7, some (.tup ((us.mergeSort zF).map eR)), s9, s10, s11, s12] w) PF := by
 obtain ⟨ti, eti⟩ : ∃ ti, ti = D.tup ((us.mergeSort zF).map eR) := ⟨_, rfl⟩
 rw [← eti]
 unfold KC
 rw [bF]
 simp only [u3, R8, QP, zY, ah, aa, reduceCtorEq]
 refine dW (b := b + 19) dk (by omega) (by omega) fun e w1 e0 e1 d1 k1 => ?_
 simp only [fW, zY, ah, aa, reduceCtorEq]
 refine dW (b := b + 18) d1 (by omega) (by omega) fun l w2 l0 l1 d2 k2 => ?_
 try simp only [zY, ah, aa, reduceCtorEq]
 refine dW (b := b + 17) d2 (by omega) (by omega) fun s w3 z0 z1 d3 k3 => ?_
 simp only [fW, zY, ah, aa, reduceCtorEq]
 rw [bF]
 simp only [zY, ah, aa, reduceCtorEq]
 refine DU (b := b + 16) d3 (by simp) (by simp) fun be w4 hb d4 k4 => ?_
 try simp only [zY, ah, aa, reduceCtorEq]
 refine dW (b := b + 15) d4 (by omega) (by omega) fun g w5 g0 g1 d5 k5 => ?_
 try simp only [zY, ah, aa, reduceCtorEq]
 rw [L6 (xs := _) (zs := _) rfl rfl]
 refine ⟨by rw [sizeLine_eq]; simp, ?_⟩
 obtain ⟨L, eL⟩ : ∃ L, L = ([D.tup ds, .int (1 + e), .int l, .int (1 + s)] ++ [be, .int g] : List D) := ⟨_, rfl⟩
 have lL : L.length = 6 := by rw [eL]; rfl
 obtain ⟨q, eq⟩ : ∃ q, q = w5.length := ⟨_, rfl⟩
 rw [← eL, ← eq]
 obtain ⟨w6, e6⟩ : ∃ w6, w6 = w5 ++ [MO.lst L] := ⟨_, rfl⟩
 rw [← e6]
 have hq : w6[q]? = some (.lst L) := by rw [e6, eq, bc (bp _)]; simp
 have d6 : cJ w6 r c (b + 15) := cJ.ext d5 (by rw [e6]; exact cQ.refl.app _)
 obtain ⟨nr, nc⟩ : q ≠ r ∧ q ≠ c := by
  obtain ⟨_, cells, sm, a, h1, h2, _⟩ := d5
  have a1 := (ai.mp h1).1
  have a2 := (ai.mp h2).1
  omega
 clear e6 eq
 rw [bF]
 simp only [tyL hq, zY, ah, aa, reduceCtorEq]
 refine dW (b := b + 14) d6 (by omega) (by omega) fun x w7 x0 x1 d7 k7 => ?_
 try simp only [zY, ah, aa, reduceCtorEq]
 refine DU (b := b + 13) d7 (by simp) (by simp) fun ho w8 hh d8 k8 => ?_
 have hq8 : w8[q]? = some (.lst L) := by rw [k8.2 q nr nc, k7.2 q nr nc]; exact hq
 simp only [tyL hq8, FV hq8, zY, ah, aa, reduceCtorEq]
 refine ⟨by rw [sizeLine_eq]; omega, ?_⟩
 obtain ⟨w9, e9⟩ : ∃ w9, w9 = w8.set q (.lst (L ++ [ho])) := ⟨_, rfl⟩
 rw [← e9]
 have hq9 : w9[q]? = some (.lst (L ++ [ho])) := by rw [e9]; exact av (ai.mp hq8).1
 have d9 : cJ w9 r c (b + 13) := by rw [e9]; exact xP d8 nr nc
 clear e9
 refine dW (b := b + 12) d9 (by omega) (by omega) fun bt w10 bt0 bt1 d10 k10 => ?_
 simp only [zA, tF, aj, bu, zY, ah, aa, reduceCtorEq]
 refine dW (b := b + 11) d10 (by omega) (by omega) fun hs w11 h0 h1 d11 k11 => ?_
 have hq11 : w11[q]? = some (.lst (L ++ [ho])) := by rw [k11.2 q nr nc, k10.2 q nr nc]; exact hq9
 have ar : ∀ (ys : List D) (P : D → W → Prop), ys.length ≤ 10 → T (Pc.zK (.ref q) (.lst ys) w11) P = P (.lst (L ++ [ho] ++ ys)) w11 := fun ys P hy => by
  have e1 : r4 (.ref q) w11 = some (L ++ [ho]) := by simp only [r4, hq11]
  have e2 : r4 (.lst ys) w11 = some ys := rfl
  have : Pc.zK (.ref q) (.lst ys) w11 = .ok (.lst (L ++ [ho] ++ ys)) w11 := by
   simp only [Pc.zK, e1, e2, if_pos (show (L ++ [ho]).length + ys.length ≤ sizeLine by rw [sizeLine_eq, cb]; simp; omega)]
  rw [this, bZ]
 try simp only [zY, ah, aa, reduceCtorEq]
 rw [ar _ _ (by simp)]
 rw [eL, eti]
 exact hP ⟨.tup ds, .int (1 + e), .int l, .int (1 + s), be, .int g, ho, .bl (bt == 1), .tup ((us.mergeSort zF).map eR), .int hs⟩ w11 (TY hr n1 n4 H1 H6 hc e0 e1 l0 l1 z0 z1 hb g0 g1 x0 x1 hh h0 h1) (d11.less (by omega))
theorem XS {r c b : Nat} {gi : Int} (dk : cJ w r c (b + 300)) (hg : gi = 0 ∨ gi = 1) (hP : ∀ f w', Gd f → cJ w' r c b → P (.lst (bP f)) w') : T (K05.j3 k [.ref r, .int gi] w) P := by
 unfold K05.j3
 rw [fH, aB0, TZ, bF]
 simp only [u3, zY, ah, aa, reduceCtorEq]
 refine dW (b := b + 299) dk (by omega) (by omega) fun x w1 x0 x1 d1 k1 => ?_
 obtain ⟨H, eH, H1, H6⟩ := S4 hg x0 x1
 simp only [fW, rX, m4, eH, aj, bu, zY, ah, aa, reduceCtorEq]
 refine dW (b := b + 298) d1 (by omega) (by omega) fun y w2 y0 y1 d2 k2 => ?_
 obtain ⟨N, eN, N1, N4⟩ := S4 hg y0 y1
 simp only [fW, rX, m4, eN, aj, bu, zY, ah, aa, reduceCtorEq]
 rw [bF]
 simp only [R8, zY, ah, aa, reduceCtorEq]
 refine DU (b := b + 297) d2 (by simp) (by simp) fun lo w3 hlo d3 k3 => ?_
 obtain ⟨low, rfl, l1, l12⟩ : ∃ low : Int, lo = .int low ∧ 1 ≤ low ∧ low ≤ 10 := by
  simp only [br, bx, or_false] at hlo
  rcases hlo with rfl | rfl | rfl | rfl
  ·exact ⟨_, rfl, by omega, by omega⟩
  ·exact ⟨_, rfl, by omega, by omega⟩
  ·exact ⟨_, rfl, by omega, by omega⟩
  ·exact ⟨_, rfl, by omega, by omega⟩
 try simp only [zY, ah, aa, reduceCtorEq]
 rw [bF]
 simp only [vD (n := (N : Int)) (by omega) (by omega), zY, ah, aa, reduceCtorEq]
 refine ⟨QO _ (by rw [kM]; omega), ?_⟩
 have eN : ((N : Nat) : Int).toNat = N := by omega
 have eH0 : ((H : Nat) : Int).toNat = H := by omega
 rw [eN]
 refine tR (it := gD 0 N) (fun i acc w' => cJ w' r c (b + 200 + 6 * (4 - i)) ∧ L3 H i acc) (fun _ _ _ _ => trivial) ⟨d3.less (by omega), rfl, fun d hd => nomatch hd⟩ (fun i x acc w4 hx hI => ?_) (fun acc w4 hI => ?_)
 ·obtain ⟨d4, hl, hr⟩ := hI
  obtain ⟨hz, rfl⟩ := oP hx
  simp only [dJ, vD (n := (H : Int)) (by omega) (by omega), zY, ah, aa, reduceCtorEq]
  refine ⟨QO _ (by rw [kM]; omega), ?_⟩
  rw [eH0]
  refine Y2 (eh := aB 0) (b := b + 200 + 6 * (4 - (i + 1))) l1 (by omega) (d4.less (by omega)) (by omega) (fun x w P => by simp only [dJ, zY, ah, aa, reduceCtorEq]) (fun x w P => by simp only [dJ, zY, ah, aa, reduceCtorEq]) fun ns w5 d5 hn hns => ?_
  simp only [QP]
  refine ⟨d5, by simp [hl], fun d hd => ?_⟩
  rcases List.mem_append.mp hd with h | h
  ·exact hr d h
  ·rw [List.mem_singleton.mp h]
   exact ⟨ns, rfl, hn, hns⟩
 ·obtain ⟨d4, hr⟩ := hI
  rw [kM] at hr
  unfold RU
  try simp only [zY, ah, aa, reduceCtorEq]
  rw [bF]
  simp only [XT, zY, ah, aa, reduceCtorEq]
  obtain ⟨q, eq⟩ : ∃ q, q = w4.length := ⟨_, rfl⟩
  obtain ⟨w5, e5⟩ : ∃ w5, w5 = w4 ++ [MO.dT []] := ⟨_, rfl⟩
  rw [← e5, ← eq]
  have hq : w5[q]? = some (.dT (cA [])) := by rw [e5, eq, bc (bp _)]; simp [cA]
  have d5 : cJ w5 r c (b + 200) := cJ.ext (d4.less (by omega)) (by rw [e5]; exact cQ.refl.app _)
  obtain ⟨nr, nc⟩ : q ≠ r ∧ q ≠ c := by
   obtain ⟨_, cells, sm, a, h1, h2, _⟩ := d4
   have a1 := (ai.mp h1).1
   have a2 := (ai.mp h2).1
   omega
  clear e5 eq
  rw [bF]
  simp only [u3, zY, ah, aa, reduceCtorEq]
  refine dW (b := b + 199) d5 (by omega) (by omega) fun m w6 m0 m1 d6 k6 => ?_
  obtain ⟨M, eM, M24⟩ : ∃ M : Nat, atI [D.int m, .int 24] gi = some (.int (M : Nat)) ∧ M ≤ 24 := by
   rcases hg with rfl | rfl
   ·exact ⟨m.toNat, by rw [ZX, show ((m.toNat : Nat) : Int) = m by omega], by omega⟩
   ·exact ⟨24, rfl, by omega⟩
  have hq6 : w6[q]? = some (.dT (cA [])) := by rw [k6.2 q nr nc]; exact hq
  simp only [rX, m4, eM, aj, bu, vD (n := (M : Int)) (by omega) (by omega), zY, ah, aa, reduceCtorEq]
  have eM0 : ((M : Nat) : Int).toNat = M := by omega
  rw [eM0]
  refine Lb.mN (it := gD 0 M) (fun i σ w' => cJ w' r c (b + 100 + 3 * (24 - i)) ∧ (∃ us, w'[q]? = some (.dT (cA us)) ∧ yA H us) ∧ ∃ s7, σ = [some (.ref r), some (.int gi), some (.int (H : Nat)), some (.int (N : Nat)), some (.int low), some (.lst acc), some (.ref q), s7, none, none, none, none, none]) (fun _ _ _ _ => trivial)
   ⟨d6.less (by omega), ⟨[], hq6, List.Pairwise.nil, by simp, fun t ht => nomatch ht⟩, _, rfl⟩ (fun i x σ w7 hx hI => ?_) (fun σ w7 hI => ?_)
  ·obtain ⟨d7, ⟨us, hq7, hc⟩, s7, rfl⟩ := hI
   obtain ⟨hz, rfl⟩ := oP hx
   have hz : i < M := hz
   simp only [zY, ah, aa, reduceCtorEq]
   refine Y3 (b := b + 100 + 3 * (24 - (i + 1))) (d7.less (by omega)) hq7 nr nc hc H1 (by omega) fun w8 us' d8 hq8 hc8 => ?_
   exact ⟨d8, ⟨us', hq8, hc8⟩, _, rfl⟩
  ·obtain ⟨d7, ⟨us, hq7, hc⟩, s7, rfl⟩ := hI
   try simp only [c5, zY, ah, aa, reduceCtorEq]
   rw [bF, A6]
   refine MW (e6 := aB 6) (v := 12) hq7 hc.1 hc.2.1 (fun w P => by unfold T; rfl) (fun x w P => by unfold T; rfl) (fun x w P => by unfold T; rfl) ?_
   try simp only [zY, ah, aa, reduceCtorEq]
   refine V1 k (b := b) ((xP d7 nr nc).less (by omega)) hr N1 (by omega) H1 (by omega) hc fun f w' gf df => ?_
   exact hP f w' gf df
theorem good (ns : List Int) (hl : ns.length ≤ 63) (hP : ∀ w', P (.bl true) w') : T (K05.HV k [.nG (ns.map D.int)] []) P := by
 unfold K05.HV K05.QT
 rw [fH, bel, bF]
 simp only [X3, zY, ah, aa, reduceCtorEq]
 refine (VZ hl).mono fun r w0 _ ⟨er, l0, d0⟩ => ?_
 subst er
 try simp only [zY, ah, aa, reduceCtorEq]
 rw [bF]
 simp only [vD (n := 2) (by omega) (by omega), zY, ah, aa, reduceCtorEq]
 have d00 : cJ w0 1 0 (10000 - 1000 * 0) := d0.less (by decide)
 refine Lb.mN (it := gD 0 (2 : Int).toNat) (fun z σ w' => cJ w' 1 0 (10000 - 1000 * z) ∧ ∃ s2 s3, σ = [some (.nG (ns.map D.int)), some (.ref 1), s2, s3]) (fun _ _ _ _ => trivial) ⟨d00, _, _, rfl⟩ (fun z dz σ w1 hz hI => ?_) fun σ w1 hI => ?_
 ·obtain ⟨d1, s2, s3, rfl⟩ := hI
  have hz2 : z < 2 := (ai.mp hz).1
  rw [FL, bF]
  simp only [u3, zY, ah, aa, reduceCtorEq]
  refine dW (b := 9999 - 1000 * z) (d1.less (by omega)) (by omega) (by omega) fun a w2 a0 a1 d2 k2 => ?_
  simp only [zA, tF, VB, aj, bu, zY, ah, aa, reduceCtorEq]
  refine XS k (b := 9600 - 1000 * z) (d2.less (by omega)) (by cases (a == 5) <;> simp) fun f w3 gf d3 => ?_
  try simp only [zY, ah, aa, reduceCtorEq]
  refine M4 k gf fun w4 x4 => ?_
  have d4 := cJ.ext d3 x4
  simp only [Bool.not_true, zY, ah, aa, reduceCtorEq]
  refine Y7 k (b := 9599 - 1000 * z) (d4.less (by omega)) gf fun w5 d5 => ?_
  simp only [Bool.not_true, zY, ah, aa, reduceCtorEq]
  refine TH k (b := 9598 - 1000 * z) (d5.less (by omega)) gf fun w6 d6 => ?_
  simp only [Bool.not_true, zY, ah, aa, reduceCtorEq]
  exact ⟨d6.less (by omega), _, _, rfl⟩
 ·obtain ⟨d1, s2, s3, rfl⟩ := hI
  try simp only [zY, ah, aa, reduceCtorEq]
  exact hP _
end
theorem PR (k : K05.bN) (ns : List Int) (h : ns.length ≤ 63) : ∃ w', K05.HV k [.nG (ns.map Pc.D.int)] [] = .ok (.bl true) w' := by
 obtain ⟨a, w, e, p⟩ := (good k (P := fun d _ => d = .bl true) ns h fun _ => rfl).ex
 exact ⟨w, by rw [e, p]⟩
end K05
namespace K05H
open PySem PySem.Spec PyProof.Rows L2 Pc K05
open PySem PySem.W PySem.Calls PyProof.Rows HandSHeadRun in
open PySem PySem.W PySem.Calls PyProof.Rows in
open PySem PySem.W PySem.Calls PyProof.Rows in
open PySem PySem.W PySem.Calls PyProof.Rows in
open PySem PySem.W PySem.Calls PyProof.Rows in
abbrev St (w : World) (K : PySem.W.Frag) (mg : Str → Option Value) (base : Heap) : aX := ⟨PySem.Challenge.pw_onemaster_k05_each_bound_of_plans, w, K, mg, base, 0, [], defScope (top 37), fun _ => true⟩
theorem facts {w : World} {K : PySem.W.Frag} {h : Heap} {mg : Str → Option Value} (X : K.In h) (G : h.Ns mainGlobals mg) (c : He.SaysX fa fn ts [] ex w h K) :
  ∃ (d : FuncData) (kk : bN), (FunD K ("law" : Str) ("law" : Str) (defArgs (top 37)) (defBody (top 37)) (defScope (top 37)) [] [] (He.ga K "law") d) ∧ ∀ base, ∃ x : Fx (St w K mg base), x.k = kk ∧ x.BH = He.ga K "law" ∧ x.LO = d := by
 obtain ⟨d0, F0⟩ := c.t.d.def_ 0 (d := pC) rfl
 obtain ⟨d1, F1⟩ := c.t.d.def_ 1 (d := mP) rfl
 obtain ⟨d2, F2⟩ := c.t.d.def_ 2 (d := sL) rfl
 obtain ⟨d3, F3⟩ := c.t.d.def_ 3 (d := qB) rfl
 obtain ⟨d4, F4⟩ := c.t.d.def_ 4 (d := qH) rfl
 obtain ⟨d5, F5⟩ := c.t.d.def_ 5 (d := yV) rfl
 obtain ⟨d6, F6⟩ := c.t.d.def_ 6 (d := sR) rfl
 obtain ⟨d7, F7⟩ := c.t.d.def_ 7 (d := rZ) rfl
 obtain ⟨d8, F8⟩ := c.t.d.def_ 8 (d := oV) rfl
 obtain ⟨d9, F9⟩ := c.t.d.def_ 9 (d := qI) rfl
 obtain ⟨d10, F10⟩ := c.t.d.def_ 10 (d := kP) rfl
 obtain ⟨d11, F11⟩ := c.t.d.def_ 11 (d := pT) rfl
 obtain ⟨d12, F12⟩ := c.t.d.def_ 12 (d := gW) rfl
 obtain ⟨d13, F13⟩ := c.t.d.def_ 13 (d := pP) rfl
 obtain ⟨d14, F14⟩ := c.t.d.def_ 14 (d := gB) rfl
 obtain ⟨d15, F15⟩ := c.t.d.def_ 15 (d := iG) rfl
 obtain ⟨d16, F16⟩ := c.t.d.def_ 16 (d := oO) rfl
 obtain ⟨d17, F17⟩ := c.t.d.def_ 17 (d := pV) rfl
 obtain ⟨d18, F18⟩ := c.t.d.def_ 18 (d := S5) rfl
 obtain ⟨d19, F19⟩ := c.t.d.def_ 19 (d := jC) rfl
 refine ⟨d18, { lI := He.ga K "NetError", cC := He.ga K "NoPlan", aN := He.ga K "Plan", dH := He.ga K "NUMBERS", i4 := kwAt ("Plan", some "__init__") "ties" K }, F18, fun base => ⟨{
  k := { lI := He.ga K "NetError", cC := He.ga K "NoPlan", aN := He.ga K "Plan", dH := He.ga K "NUMBERS", i4 := kwAt ("Plan", some "__init__") "ties" K },
  BQ := He.free_ok X G (c.t.d.fact 0 (f := .free "all") rfl),
  KU := He.free_ok X G (c.t.d.fact 1 (f := .free "bool") rfl),
  BL := He.free_ok X G (c.t.d.fact 2 (f := .free "int") rfl),
  eD := He.free_ok X G (c.t.d.fact 3 (f := .free "isinstance") rfl),
  n7 := He.free_ok X G (c.t.d.fact 4 (f := .free "len") rfl),
  QX := He.free_ok X G (c.t.d.fact 5 (f := .free "list") rfl),
  kA := He.free_ok X G (c.t.d.fact 6 (f := .free "range") rfl),
  EK := He.free_ok X G (c.t.d.fact 7 (f := .free "sorted") rfl),
  WR := He.free_ok X G (c.t.d.fact 8 (f := .free "sum") rfl),
  iL := He.free_ok X G (c.t.d.fact 9 (f := .free "tuple") rfl),
  WL := He.free_ok X G (c.t.d.fact 10 (f := .free "zip") rfl),
  nA := qX X G (tW c.more 0 rfl),
  rW := qX X G (tW c.more 1 rfl),
  wD := qX X G (tW c.more 2 rfl),
  y6 := qX X G (tW c.more 3 rfl),
  vL := qX X G (tW c.more 4 rfl),
  WQ := qX X G (tW c.more 5 rfl),
  u7 := ⟨.ref _, .ref _, He.glo_ok X G (c.t.d.fact 29 (f := .glo "NUMBERS") rfl), rfl, fun _ _ => by simp [aJ]⟩,
  uS := SE (c.t.tab 0 rfl) (tW c.more 6 rfl),
  vV := He.glo_ok X G (c.t.d.fact 30 (f := .glo "NetError") rfl),
  IY := ⟨.ref _, .ref _, He.glo_ok X G (c.t.d.fact 30 (f := .glo "NetError") rfl), rfl, fun _ _ => by simp [aJ]⟩,
  qY := He.glo_ok X G (c.t.d.fact 31 (f := .glo "NoPlan") rfl),
  RP := ⟨.ref _, .ref _, He.glo_ok X G (c.t.d.fact 31 (f := .glo "NoPlan") rfl), rfl, fun _ _ => by simp [aJ]⟩,
  MC := He.glo_ok X G (c.t.d.fact 32 (f := .glo "Plan") rfl),
  ZG := ⟨.ref _, .ref _, He.glo_ok X G (c.t.d.fact 32 (f := .glo "Plan") rfl), rfl, fun _ _ => by simp [aJ]⟩,
  eQ := He.cls_ok (c.t.d.fact 33 (f := .cls "Plan") rfl),
  nX := He.noat_ok (c.t.d.fact 34 (f := .noat "Plan" "bears") rfl),
  nO := He.noat_ok (c.t.d.fact 35 (f := .noat "Plan" "every") rfl),
  sE := He.noat_ok (c.t.d.fact 36 (f := .noat "Plan" "gap") rfl),
  oT := He.noat_ok (c.t.d.fact 37 (f := .noat "Plan" "hold") rfl),
  nY := He.noat_ok (c.t.d.fact 38 (f := .noat "Plan" "hosts") rfl),
  oZ := He.noat_ok (c.t.d.fact 39 (f := .noat "Plan" "lost") rfl),
  nQ := He.noat_ok (c.t.d.fact 40 (f := .noat "Plan" "ranks") rfl),
  pS := He.noat_ok (c.t.d.fact 41 (f := .noat "Plan" "slow") rfl),
  nF := He.noat_ok (c.t.d.fact 42 (f := .noat "Plan" "takes") rfl),
  pE := He.noat_ok (c.t.d.fact 43 (f := .noat "Plan" "ties") rfl),
  jR := He.fAd K pC.at_,
  lZ := d0,
  pR := F0,
  bQ := He.glo_ok X G (c.t.d.fact 11 (f := .glo "_law_draw") rfl),
  bJ := F0.kp,
  gK := He.fAd K mP.at_,
  jE := d1,
  mK := F1,
  gL := He.glo_ok X G (c.t.d.fact 12 (f := .glo "_law_fields") rfl),
  fV := F1.kp,
  lA := He.fAd K sL.at_,
  nK := d2,
  sD := F2,
  zL := He.glo_ok X G (c.t.d.fact 13 (f := .glo "is_whole") rfl),
  v7 := F2.kp,
  jY := He.fAd K qB.at_,
  mE := d3,
  pY := F3,
  hY := He.glo_ok X G (c.t.d.fact 14 (f := .glo "is_within") rfl),
  gE := F3.kp,
  jT := He.fAd K qH.at_,
  lW := d4,
  pH := F4,
  vI := He.glo_ok X G (c.t.d.fact 15 (f := .glo "are_ranks") rfl),
  t5 := F4.kp,
  m6 := He.fAd K yV.at_,
  t6 := d5,
  xK := F5,
  GY := He.glo_ok X G (c.t.d.fact 16 (f := .glo "is_tie") rfl),
  BA := F5.kp,
  kW := He.fAd K sR.at_,
  nV := d6,
  sT := F6,
  zD := He.glo_ok X G (c.t.d.fact 17 (f := .glo "are_ties") rfl),
  vM := F6.kp,
  kQ := He.fAd K rZ.at_,
  nM := d7,
  sG := F7,
  zE := He.glo_ok X G (c.t.d.fact 18 (f := .glo "is_field") rfl),
  v9 := F7.kp,
  lV := He.fAd K oV.at_,
  mC := d8,
  pU := F8,
  OW := He.mkr_ok (c.t.d.fact 44 (f := .mkr "Plan") rfl),
  jZ := He.fAd K qI.at_,
  l8 := d9,
  pK := F9,
  hV := He.glo_ok X G (c.t.d.fact 19 (f := .glo "_law_made") rfl),
  gG := F9.kp,
  fU := He.fAd K kP.at_,
  iD := d10,
  kY := F10,
  dB := He.glo_ok X G (c.t.d.fact 20 (f := .glo "_law_refused") rfl),
  cX := F10.kp,
  jM := He.fAd K pT.at_,
  mA := d11,
  pG := F11,
  cW := He.glo_ok X G (c.t.d.fact 21 (f := .glo "_law_with") rfl),
  cF := F11.kp,
  dS := He.fAd K gW.at_,
  fD := d12,
  gU := F12,
  lM := He.glo_ok X G (c.t.d.fact 22 (f := .glo "_law_cords_right") rfl),
  j9 := F12.kp,
  jL := He.fAd K pP.at_,
  lU := d13,
  qC := F13,
  vX := He.glo_ok X G (c.t.d.fact 23 (f := .glo "_law_deck") rfl),
  tJ := F13.kp,
  dC := He.fAd K gB.at_,
  eI := d14,
  f9 := F14,
  j0 := He.glo_ok X G (c.t.d.fact 24 (f := .glo "_law_numbers_right") rfl),
  iW := F14.kp,
  eG := He.fAd K iG.at_,
  fQ := d15,
  iM := F15,
  lY := He.glo_ok X G (c.t.d.fact 25 (f := .glo "_law_rows_right") rfl),
  lN := F15.kp,
  jJ := He.fAd K oO.at_,
  lT := d16,
  pD := F16,
  lX := He.glo_ok X G (c.t.d.fact 26 (f := .glo "_law_pick") rfl),
  kF := F16.kp,
  jS := He.fAd K pV.at_,
  mB := d17,
  pW := F17,
  vG := He.glo_ok X G (c.t.d.fact 27 (f := .glo "_law_told") rfl),
  tO := F17.kp,
  BH := He.fAd K S5.at_,
  LO := d18,
  W7 := F18,
  WS := He.glo_ok X G (c.t.d.fact 28 (f := .glo "law") rfl),
  ZR := F18.kp,
  jD := He.fAd K jC.at_,
  jB := d19,
  mV := F19,
  qK := VY (tW c.more 7 rfl),
  n5 := UA (tW c.more 8 rfl) }, rfl, rfl, rfl⟩⟩
end K05H
set_option maxHeartbeats 0
open PySem PySem.W PySem.Calls PyProof.Rows
theorem PySem.Challenge.cw_onemaster_k05_each_bound_of_plans_holds : PySem.Challenge.rw_onemaster_k05_each_bound_of_plans.Holds := by
 refine K05H.early.2 ?_
 ·refine Pc.RC (l := PySem.Challenge.rw_onemaster_k05_each_bound_of_plans) (n := 63) (k := 11) (x := "_law_script") rfl (by decide) (by kernel_rfl) ⟨rfl, by decide, by decide⟩ ?F
  intro w mg fa h Y G hmg0
  obtain ⟨K, KX, c⟩ := Y
  have hmg : mg ("law" : PySem.Str) = some (.ref fa) := by
   have e : (HandSHeadRun.topDef (OpenLaw.row PySem.Challenge.rw_onemaster_k05_each_bound_of_plans).prog 37).name = ("law" : PySem.Str) := by kernel_rfl
   rw [← e]
   exact hmg0
  obtain ⟨d, kk, F, fx⟩ := K05H.facts KX G c
  have hx : fa = He.ga K "law" := by
   obtain ⟨x0, _, e1, _⟩ := fx {}
   have z := x0.WS
   rw [e1] at z
   have z2 := hmg.symm.trans z
   cases z2
   rfl
  have bd := L2.FunD.bindsA (ps := ["_law_script"]) F fun _ _ _ _ _ _ us hl => match us, hl with | [_], _ => rfl
  refine ⟨K, d, K05.HV kk, KX, fun s v => bd s [v] rfl, fun ns hl => K05.PR kk ns hl, fun base _ _ => ?_⟩
  obtain ⟨x, e0, e1, e2⟩ := fx base
  have z := K05.ZE x
  rw [e0, e1, e2] at z
  rw [hx]
  exact z
end
