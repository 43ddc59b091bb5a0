import PyProof.Rows.All
import Wide.All
import OpenK.AllK
import Wide.FinOn
import HandS.ForMost
import HandS.ForExc
import HandS.TupAny
import HandS.Style
import HandS.Flow
import HandS.Deep
import PyProof.NeKinds
import HandS.Defaults
import HandS.WordsDict
import HandS.IsInst
import HandS.Conv
import KE.SortKeyHeap
import HandS.MakeKwOnly
import HandS.More
import HandS.ListItems
import HandS.Zip
import KE.GoesEnumKw
import HandS.Head0
import HandS.Head1
import HandS.Head2
import HandS.HeadEnd
import HandS.HeadHook1
import HandS.HeadHook2
import HandS.HeadHook3
import HandS.HeadHook4
import HandS.NamedTupGet
import PyProof.FactsLen
import HandS.TupMul
import KE.GoesEnum
import HandS.Zip0
import HandS.SetFor
import HandS.Strs
import KE.DataAny
import KE.KDictPairs
import HandS.DictComp
import HandS.NoneIn
import KE.KEqDict
import HandS.TupLe
import KE.KAssignIn
import HandS.Finally
import HandS.SlotsOwn
import PyProof.InstNe
import HandS.Dict
import HandS.Iter
import KE.KDictCopyH
import KE.DataMinMax
import KE.SortData
import PyProof.Rows.RowBridgeK
import HandS.Exc
import HandS.ExcInit
import HandS.ExcField
import HandS.ClsMeth
import HandS.Text
import HandS.TryMany
import HandS.ExcIs
import HandS.RaiseMore
import HandS.DictTup
import PyProof.ExcBaseAll.IndexError
import HandS.ExcBuiltin
import KE.KExcInit
import KE.SortUse
import HandS.SortKw
import HandS.TupLen
import HandS.FStr
import KE.KCallOwn
import PyProof.Walks
import HandS.Ends
import PySem.Challenge.RW_onemaster_k06_great_plans
import KE.KStateDown
import PyProof.Rows.ReprOcc
noncomputable section
set_option linter.all false
def aa := @Nat.le_of_ble_eq_true
def ae := @if_false
def ah := @if_true
def ai := @Option.some.injEq
def aj := @List.getElem?_eq_some_iff
def ak := @List.length_map
def ao := @Option.map_eq_some_iff
def aq := @decide_eq_true_eq
def ar := @Bool.and_eq_true
def au := @List.getElem?_append_left
def av := @Nat.le_refl
def az := @List.getElem?_set_self
def bb := @exists_eq_left'
def bc := @List.getElem?_set_ne
def bf := @List.mem_cons_self
def bg := @List.getElem?_append_right
def bh := @List.mem_cons
def bj := @Bool.false_eq_true
def bp := @List.mem_cons_of_mem
def bq := @List.getElem?_eq_getElem
def br := @List.all_eq_true
def bt := @List.getElem?_map
def bu := @List.mem_of_getElem?
def bw := @List.length_append
def bx := @List.not_mem_nil
def bz := @List.mem_map
def cb := @List.append_assoc
def cc := @List.mem_singleton
def cf := @List.mem_append
def cg := @List.map_append
def cj := @List.length_take
def ck := @List.length_set
def cq := @Nat.le_trans
def cu := @Option.bind_eq_some_iff
set_option Elab.async false
set_option linter.all false
set_option maxRecDepth 100000
set_option maxHeartbeats 4000000
set_option autoImplicit false
namespace Pc
open PySem PySem.Spec PyProof.Rows L2
inductive D where
 | non | bl (b : Bool) | int (i : Int) | str (x : Str) | ty (n : String) | con (a : Addr)
 | tup (xs : List D) | lst (xs : List D) | qF (xs : List D) | jL (xs : List D) | GX (ks vs : List D) | ref (i : Nat)
inductive MO where
 | lst (xs : List D) | dK (kvs : List (Key × D)) | dT (kvs : List (List Key × D)) | dF (kvs : List (Key × D)) | dG (kvs : List (List Key × D)) | ins (C : Addr) (fs : List (Str × D))
def MO.fz : MO → Bool
 | .dF _ => true
 | .dG _ => true
 | _ => false
abbrev W := List MO
structure XD where
 cls : Value
 fs : Option (List (Str × D))
inductive Res (α : Type) where
 | ok (a : α) (w : W)
 | yE (x : XD) (w : W)
 | bad
def Res.bind {α β : Type} (r : Res α) (f : α → W → Res β) : Res β := match r with
 | .ok a w => f a w
 | .yE x w => .yE x w
 | .bad => .bad
@[simp] theorem Res.aFG {α β : Type} (a : α) (w : W) (f : α → W → Res β) : (Res.ok a w).bind f = f a w := rfl
@[simp] theorem Res.aEZ {α β : Type} (x : XD) (w : W) (f : α → W → Res β) : (Res.yE x w : Res α).bind f = .yE x w := rfl
@[simp] theorem Res.aFt {α β : Type} (f : α → W → Res β) : (Res.bad : Res α).bind f = .bad := rfl
theorem Res.bind_assoc {α β γ : Type} (r : Res α) (f : α → W → Res β) (g : β → W → Res γ) : (r.bind f).bind g = r.bind fun a w => (f a w).bind g := by
 cases r <;> rfl
mutual
def aF (K : PySem.W.Frag) (I : List Addr) (F : Hp) : D → V → Prop
 | .non, v => v = .non
 | .bl b, v => v = .bl b
 | .int i, v => v = .int i
 | .str x, v => v = .str x
 | .ty n, v => v = .ty n
 | .con a, v => v = .ref a
 | .tup xs, v => ∃ a vs, v = .ref a ∧ F a = some (.tup vs) ∧ RepL K I F xs vs
 | .lst xs, v => ∃ a vs, v = .ref a ∧ F a = some (.lst vs) ∧ RepL K I F xs vs
 | .qF xs, v => ∃ a vs, v = .ref a ∧ SqL K F a vs ∧ RepL K I F xs vs
 | .jL xs, v => ∃ a vs, v = .ref a ∧ SqT K F a vs ∧ RepL K I F xs vs
 | .GX ks xs, v => ∃ a kvs, v = .ref a ∧ Rd F a (.dK kvs) ∧ RepL K I F ks (kvs.map fun p => kV p.1) ∧ RepL K I F xs (kvs.map fun p => p.2)
 | .ref i, v => ∃ a, v = .ref a ∧ I[i]? = some a
def RepL (K : PySem.W.Frag) (I : List Addr) (F : Hp) : List D → List V → Prop
 | [], vs => vs = []
 | d :: ds, vs => ∃ v r, vs = v :: r ∧ aF K I F d v ∧ RepL K I F ds r
end
def aS {κ : Type} (K : PySem.W.Frag) (I : List Addr) (F : Hp) : List (κ × D) → List (κ × V) → Prop
 | [], vs => vs = []
 | (k, d) :: ds, vs => ∃ v r, vs = (k, v) :: r ∧ aF K I F d v ∧ aS K I F ds r
def m3 (K : PySem.W.Frag) (I : List Addr) (F : Hp) : MO → HO → Prop
 | .lst xs, u => ∃ vs, u = .lst vs ∧ RepL K I F xs vs
 | .dK kvs, u => ∃ r, u = .dK r ∧ aS K I F kvs r
 | .dT kvs, u => ∃ r, u = .dT r ∧ aS K I F kvs r
 | .dF kvs, u => ∃ o r, u = .frz o (.dK r) ∧ aS K I F kvs r
 | .dG kvs, u => ∃ o r, u = .frz o (.dT r) ∧ aS K I F kvs r
 | .ins C fs, u => ∃ dx r, u = .ins C dx r ∧ aS K I F fs r
structure Rel (K : PySem.W.Frag) (I : List Addr) (F : Hp) (G : Hp) (w : W) (H : Hp) : Prop where
 len : I.length = w.length
 nd : I.Nodup
 ob : ∀ (i : Nat) (a : Addr) (o : MO), I[i]? = some a → w[i]? = some o → ∃ u, H a = some u ∧ m3 K I F o u
 fz : ∀ a u, F a = some u → H a = some u
 ap : ∀ (i : Nat) (a : Addr) (o : MO), I[i]? = some a → w[i]? = some o → o.fz = false → F a = none
 gz : ∀ a u, G a = some u → H a = some u
 gf : ∀ a u, G a = some u → F a = none ∧ a ∉ I
 gt : ∀ a xs, ¬ G a = some (.tup xs)
structure Ext (I : List Addr) (F : Hp) (I' : List Addr) (F' : Hp) : Prop where
 i : I <+: I'
 f : ∀ a u, F a = some u → F' a = some u
theorem Ext.refl {I : List Addr} {F : Hp} : Ext I F I F := ⟨List.prefix_refl _, fun _ _ h => h⟩
theorem Ext.trans {I I1 I2 : List Addr} {F F1 F2 : Hp} (a : Ext I F I1 F1) (b : Ext I1 F1 I2 F2) : Ext I F I2 F2 := ⟨a.i.trans b.i, fun x u h => b.f x u (a.f x u h)⟩
theorem Ext.get {I I1 : List Addr} {F F1 : Hp} (e : Ext I F I1 F1) {i : Nat} {a : Addr} (h : I[i]? = some a) : I1[i]? = some a := by
 obtain ⟨t, rfl⟩ := e.i
 have hi : i < I.length := (aj.mp h).1
 rw [au hi]; exact h
section
variable {K : PySem.W.Frag} {I I1 I2 : List Addr} {F F1 F2 : Hp}
theorem QZ (e : Ext I F I1 F1) {a : Addr} {u : HO} (h : Rd F a u) : Rd F1 a u := by
 rcases h with h | ⟨o, h⟩
 ·exact .inl (e.f _ _ h)
 ·exact .inr ⟨o, e.f _ _ h⟩
theorem C8 (e : Ext I F I1 F1) {a : Addr} {vs : List V} (h : SqT K F a vs) : SqT K F1 a vs := by
 rcases h with h | h
 ·exact .inl (QZ e h)
 ·exact .inr h
theorem UK (e : Ext I F I1 F1) {a : Addr} {vs : List V} (h : SqL K F a vs) : SqL K F1 a vs := by
 rcases h with h | h
 ·exact .inl (QZ e h)
 ·exact .inr h
mutual
theorem aF.ext (e : Ext I F I1 F1) : ∀ (d : D) (v : V), aF K I F d v → aF K I1 F1 d v
 | .non, _, h => h
 | .bl _, _, h => h
 | .int _, _, h => h
 | .str _, _, h => h
 | .ty _, _, h => h
 | .con _, _, h => h
 | .tup xs, v, h => by
  simp only [aF] at h ⊢
  obtain ⟨a, vs, h1, h2, h3⟩ := h
  exact ⟨a, vs, h1, e.f _ _ h2, RepL.ext e xs vs h3⟩
 | .jL xs, v, h => by
  simp only [aF] at h ⊢
  obtain ⟨a, vs, h1, h2, h3⟩ := h
  exact ⟨a, vs, h1, C8 e h2, RepL.ext e xs vs h3⟩
 | .lst xs, v, h => by
  simp only [aF] at h ⊢
  obtain ⟨a, vs, h1, h2, h3⟩ := h
  exact ⟨a, vs, h1, e.f _ _ h2, RepL.ext e xs vs h3⟩
 | .qF xs, v, h => by
  simp only [aF] at h ⊢
  obtain ⟨a, vs, h1, h2, h3⟩ := h
  exact ⟨a, vs, h1, UK e h2, RepL.ext e xs vs h3⟩
 | .GX ks xs, v, h => by
  simp only [aF] at h ⊢
  obtain ⟨a, kvs, h1, h2, h3, h4⟩ := h
  exact ⟨a, kvs, h1, QZ e h2, RepL.ext e ks _ h3, RepL.ext e xs _ h4⟩
 | .ref i, v, h => by
  simp only [aF] at h ⊢
  obtain ⟨a, h1, h2⟩ := h
  exact ⟨a, h1, e.get h2⟩
theorem RepL.ext (e : Ext I F I1 F1) : ∀ (ds : List D) (vs : List V), RepL K I F ds vs → RepL K I1 F1 ds vs
 | [], _, h => h
 | d :: ds, vs, h => by
  simp only [RepL] at h ⊢
  obtain ⟨v, r, h1, h2, h3⟩ := h
  exact ⟨v, r, h1, aF.ext e d v h2, RepL.ext e ds r h3⟩
end
theorem aS.ext {κ : Type} (e : Ext I F I1 F1) : ∀ (ds : List (κ × D)) (vs : List (κ × V)), aS K I F ds vs → aS K I1 F1 ds vs
 | [], _, h => h
 | (k, d) :: ds, vs, h => by
  simp only [aS] at h ⊢
  obtain ⟨v, r, h1, h2, h3⟩ := h
  exact ⟨v, r, h1, aF.ext e d v h2, aS.ext e ds r h3⟩
theorem m3.ext (e : Ext I F I1 F1) {o : MO} {u : HO} (h : m3 K I F o u) : m3 K I1 F1 o u := by
 cases o with
 | lst xs => obtain ⟨vs, h1, h2⟩ := h; exact ⟨vs, h1, RepL.ext e _ _ h2⟩
 | dK xs => obtain ⟨vs, h1, h2⟩ := h; exact ⟨vs, h1, aS.ext e _ _ h2⟩
 | dT xs => obtain ⟨vs, h1, h2⟩ := h; exact ⟨vs, h1, aS.ext e _ _ h2⟩
 | dF xs => obtain ⟨o, vs, h1, h2⟩ := h; exact ⟨o, vs, h1, aS.ext e _ _ h2⟩
 | dG xs => obtain ⟨o, vs, h1, h2⟩ := h; exact ⟨o, vs, h1, aS.ext e _ _ h2⟩
 | ins C xs => obtain ⟨dx, vs, h1, h2⟩ := h; exact ⟨dx, vs, h1, aS.ext e _ _ h2⟩
theorem RepL.length : ∀ {ds : List D} {vs : List V}, RepL K I F ds vs → ds.length = vs.length
 | [], vs, h => by simp only [RepL] at h; subst h; rfl
 | d :: ds, vs, h => by
  simp only [RepL] at h
  obtain ⟨v, r, rfl, _, h3⟩ := h
  simp [RepL.length h3]
theorem RepL.cons {d : D} {ds : List D} {v : V} {vs : List V} (h : aF K I F d v) (t : RepL K I F ds vs) : RepL K I F (d :: ds) (v :: vs) := by
 simp only [RepL]; exact ⟨v, vs, rfl, h, t⟩
theorem RepL.append : ∀ {ds es : List D} {vs us : List V}, RepL K I F ds vs → RepL K I F es us → RepL K I F (ds ++ es) (vs ++ us)
 | [], _, _, _, h, t => by simp only [RepL] at h; subst h; exact t
 | d :: ds, es, vs, us, h, t => by
  simp only [RepL] at h
  obtain ⟨v, r, rfl, h2, h3⟩ := h
  exact RepL.cons h2 (RepL.append h3 t)
theorem RepL.get : ∀ {ds : List D} {vs : List V} {i : Nat} {d : D}, RepL K I F ds vs → ds[i]? = some d → ∃ v, vs[i]? = some v ∧ aF K I F d v
 | [], _, _, _, _, e => by simp at e
 | d :: ds, vs, 0, x, h, e => by
  simp only [RepL] at h
  obtain ⟨v, r, rfl, h2, _⟩ := h
  simp at e; subst e
  exact ⟨v, rfl, h2⟩
 | d :: ds, vs, i + 1, x, h, e => by
  simp only [RepL] at h
  obtain ⟨v, r, rfl, _, h3⟩ := h
  obtain ⟨u, h4, h5⟩ := RepL.get (i := i) h3 (by simpa using e)
  exact ⟨u, by simpa using h4, h5⟩
theorem RepL.set : ∀ {ds : List D} {vs : List V} (i : Nat) {d : D} {v : V}, RepL K I F ds vs → aF K I F d v → RepL K I F (ds.set i d) (vs.set i v)
 | [], vs, _, _, _, h, _ => by simp only [RepL] at h; subst h; simp [RepL]
 | d :: ds, vs, 0, x, u, h, hv => by
  simp only [RepL] at h
  obtain ⟨v, r, rfl, _, h3⟩ := h
  exact RepL.cons hv h3
 | d :: ds, vs, i + 1, x, u, h, hv => by
  simp only [RepL] at h
  obtain ⟨v, r, rfl, h2, h3⟩ := h
  exact RepL.cons h2 (RepL.set i h3 hv)
theorem RepL.take : ∀ {ds : List D} {vs : List V} (n : Nat), RepL K I F ds vs → RepL K I F (ds.take n) (vs.take n)
 | _, _, 0, _ => by simp [RepL]
 | [], vs, n + 1, h => by simp only [RepL] at h; subst h; simp [RepL]
 | d :: ds, vs, n + 1, h => by
  simp only [RepL] at h
  obtain ⟨v, r, rfl, h2, h3⟩ := h
  exact RepL.cons h2 (RepL.take n h3)
theorem RepL.drop : ∀ {ds : List D} {vs : List V} (n : Nat), RepL K I F ds vs → RepL K I F (ds.drop n) (vs.drop n)
 | _, _, 0, h => h
 | [], vs, n + 1, h => by simp only [RepL] at h; subst h; simp [RepL]
 | d :: ds, vs, n + 1, h => by
  simp only [RepL] at h
  obtain ⟨v, r, rfl, h2, h3⟩ := h
  exact RepL.drop n h3
theorem RepL.ints (ns : List Int) : RepL K I F (ns.map D.int) (ns.map V.int) := by
 induction ns with
 | nil => simp [RepL]
 | cons n ns ih => exact RepL.cons (by simp [aF]) ih
end
abbrev Sg := List (Option D)
def fL (K : PySem.W.Frag) (I : List Addr) (F : Hp) (ds : Sg) (s : L2.St) : Prop := ds.length = s.length ∧ ∀ (i : Nat) (d : D), ds[i]? = some (some d) → ∃ v, s[i]? = some (some v) ∧ aF K I F d v
theorem fL.ext {K : PySem.W.Frag} {I I1 : List Addr} {F F1 : Hp} {ds : Sg} {s : L2.St} (h : fL K I F ds s) (e : Ext I F I1 F1) : fL K I1 F1 ds s :=
 ⟨h.1, fun i d q => let ⟨v, h1, h2⟩ := h.2 i d q; ⟨v, h1, aF.ext e d v h2⟩⟩
theorem fL.set {K : PySem.W.Frag} {I : List Addr} {F : Hp} {ds : Sg} {s : L2.St} (h : fL K I F ds s) (i : Nat) {d : D} {v : V} (hv : aF K I F d v) : fL K I F (ds.set i (some d)) (s.set i (some v)) := by
 refine ⟨by simp [h.1], fun j e q => ?_⟩
 by_cases hj : i = j
 ·subst hj
  by_cases hl : i < ds.length
  ·rw [az hl] at q
   cases q
   exact ⟨v, az (by rw [← h.1]; exact hl), hv⟩
  ·rw [List.getElem?_eq_none (by simpa using hl)] at q; cases q
 ·rw [bc hj] at q
  rw [bc hj]
  exact h.2 j e q
theorem fL.unset {K : PySem.W.Frag} {I : List Addr} {F : Hp} {ds : Sg} {s : L2.St} (h : fL K I F ds s) (i : Nat) (x : Option V) : fL K I F (ds.set i none) (s.set i x) := by
 refine ⟨by simp [h.1], fun j e q => ?_⟩
 by_cases hj : i = j
 ·subst hj
  by_cases hl : i < ds.length
  ·rw [az hl] at q; cases q
  ·rw [List.getElem?_eq_none (by simpa using hl)] at q; cases q
 ·rw [bc hj] at q
  rw [bc hj]
  exact h.2 j e q
def AY (K : PySem.W.Frag) (I : List Addr) (F H : Hp) (x : XD) (c : Value) (d : Option Addr) : Prop :=
 c = x.cls ∧ match x.fs with
  | none => d = none
  | some fs => ∃ a r, d = some a ∧ H a = some (.xd r) ∧ aS K I F fs r
def aY {α : Type} (K : PySem.W.Frag) (I : List Addr) (F G : Hp) (E : XK) (R : List Addr → Hp → Hp → α → W → Prop) : Res α → Prop
 | .ok a w => ∀ I' F' H', Ext I F I' F' → Rel K I' F' G w H' → R I' F' H' a w
 | .yE x w => ∀ I' F' H' c d, Ext I F I' F' → Rel K I' F' G w H' → AY K I' F' H' x c d → E c d H'
 | .bad => False
section
variable {α β : Type} {K : PySem.W.Frag} {I I1 : List Addr} {F F1 G : Hp} {E : XK} {R R' : List Addr → Hp → Hp → α → W → Prop} {r : Res α}
theorem aY.ext (h : aY K I F G E R r) (e : Ext I F I1 F1) : aY K I1 F1 G E R r := by
 cases r with
 | ok a w => exact fun I' F' H' e' q => h I' F' H' (e.trans e') q
 | yE x w => exact fun I' F' H' c d e' q y => h I' F' H' c d (e.trans e') q y
 | bad => exact h
theorem aY.mono (h : aY K I F G E R r) (k : ∀ I' F' H' a w, r = .ok a w → Ext I F I' F' → Rel K I' F' G w H' → R I' F' H' a w → R' I' F' H' a w) : aY K I F G E R' r := by
 cases r with
 | ok a w => exact fun I' F' H' e' q => k I' F' H' a w rfl e' q (h I' F' H' e' q)
 | yE x w => exact h
 | bad => exact h
theorem aY.bind {f : α → W → Res β} {R2 : List Addr → Hp → Hp → β → W → Prop} (h : aY K I F G E R2 (r.bind f)) : aY K I F G E (fun I' F' _ a w => aY K I' F' G E R2 (f a w)) r := by
 cases r with
 | ok a w => exact fun I' F' H' e' q => aY.ext (K := K) (R := R2) h e'
 | yE x w => exact h
 | bad => exact h
end
def RV (K : PySem.W.Frag) (Q : VK) : List Addr → Hp → Hp → D → W → Prop := fun I' F' H' d _ => ∀ v, aF K I' F' d v → Q v H'
structure aR where
 P : Program
 w : World
 K : PySem.W.Frag
 mg : Str → Option Value
 base : Heap
 k : Nat
 N : List Str
 sc : Scope
 fn : Str → Bool
structure Ctx (S : aR) (X : Cx) : Prop where
 P : X.prog = S.P
 w : X.w = S.w
 K : X.K = S.K
 mg : X.mg = S.mg
 base : X.base = S.base
 N : X.N = S.N
 sc : X.env.scope = S.sc
 fn : ∀ x, S.fn x = true → X.fn x = true
 calm : X.calm = true
 room : Room S.k X.A
 WC : X.A.guards = some []
 nd : X.N.Nodup
structure q8 (X : Cx) (E : XK) : Prop where
 tk : Takes X (fun cls d _ H => E cls d H)
 own : PassesOwn (model X.prog X.w) X.A X.env X.xe
abbrev ME := Sg → W → Res D
abbrev MT := Sg → W → Res Bool
abbrev MA := Sg → W → Res (List D)
inductive Fl where
 | nx (s : Sg) | rt (d : D) | bk (s : Sg) | ct (s : Sg)
abbrev MS := Sg → W → Res Fl
def RL (K : PySem.W.Frag) (Q : List V → Hp → Prop) : List Addr → Hp → Hp → List D → W → Prop := fun I' F' H' ds _ => ∀ vs, RepL K I' F' ds vs → Q vs H'
def RB (Q : Bool → Hp → Prop) : List Addr → Hp → Hp → Bool → W → Prop := fun _ _ H' b _ => Q b H'
def RFl (K : PySem.W.Frag) (Z : Ends) : List Addr → Hp → Hp → Fl → W → Prop := fun I' F' H' f _ => match f with
 | .nx s => ∀ s', fL K I' F' s s' → Z.nx s' H'
 | .rt d => ∀ v, aF K I' F' d v → Z.rt v H'
 | .bk s => ∀ s', fL K I' F' s s' → Z.bk s' H'
 | .ct s => ∀ s', fL K I' F' s s' → Z.ct s' H'
def sP (K : PySem.W.Frag) (E : XK) (m : ME) : TE := fun σ H Q => ∃ I F G ds w, Rel K I F G w H ∧ fL K I F ds σ ∧ aY K I F G E (RV K Q) (m ds w)
def RX (K : PySem.W.Frag) (E : XK) (m : MT) : TT := fun σ H Q => ∃ I F G ds w, Rel K I F G w H ∧ fL K I F ds σ ∧ aY K I F G E (RB Q) (m ds w)
def aAH (K : PySem.W.Frag) (E : XK) (m : MA) : TA := fun σ H Q => ∃ I F G ds w, Rel K I F G w H ∧ fL K I F ds σ ∧ aY K I F G E (RL K Q) (m ds w)
def FU (K : PySem.W.Frag) (E : XK) (m : MS) : TS := fun Z σ H => ∃ I F G ds w, Rel K I F G w H ∧ fL K I F ds σ ∧ aY K I F G E (RFl K Z) (m ds w)
def JE (S : aR) (e : Expr) (m : ME) : Prop := ∀ X E, Ctx S X → q8 X E → PE X e (sP X.K E m)
def JT (S : aR) (e : Expr) (m : MT) : Prop := ∀ X E, Ctx S X → q8 X E → PT X e (RX X.K E m)
def JW (S : aR) (e : Expr) (m : MT) : Prop := ∀ X E, Ctx S X → q8 X E → PW X e (RX X.K E m)
def JA (S : aR) (es : List Expr) (m : MA) : Prop := ∀ X E, Ctx S X → q8 X E → PA X es (aAH X.K E m)
def JS (S : aR) (st : Stmt) (m : MS) : Prop := ∀ X E, Ctx S X → q8 X E → PS X st (FU X.K E m)
def rN (S : aR) (st : List Stmt) (m : MS) : Prop := ∀ X E, Ctx S X → q8 X E → PSs X st (FU X.K E m)
section
variable {X : Cx} {e : Expr} {es : List Expr} {st : Stmt} {sts : List Stmt}
theorem cV {t t' : TE} (h : PE X e t) (k : ∀ σ H Q, t' σ H Q → t σ H Q) : PE X e t' := ⟨fun pins s σ H Q I q => h.run pins s σ H Q I (k σ H Q q)⟩
theorem DB {t t' : TT} (h : PT X e t) (k : ∀ σ H Q, t' σ H Q → t σ H Q) : PT X e t' := ⟨fun pins s σ H Q I q => h.run pins s σ H Q I (k σ H Q q)⟩
theorem UU {t t' : TT} (h : PW X e t) (k : ∀ σ H Q, t' σ H Q → t σ H Q) : PW X e t' := ⟨fun wh pins s σ H Q I q => h.run wh pins s σ H Q I (k σ H Q q)⟩
theorem UA {t t' : TA} (h : PA X es t) (k : ∀ σ H Q, t' σ H Q → t σ H Q) : PA X es t' := ⟨fun pos pins s σ H Q I q => h.run pos pins s σ H Q I (k σ H Q q)⟩
theorem jQ {t t' : TS} (h : PS X st t) (k : ∀ D σ H, t' D σ H → t D σ H) : PS X st t' := ⟨fun pins s σ H D I q => h.run pins s σ H D I (k D σ H q)⟩
theorem D5 {t t' : TS} (h : PSs X sts t) (k : ∀ D σ H, t' D σ H → t D σ H) : PSs X sts t' := ⟨fun pins s σ H D I q => h.run pins s σ H D I (k D σ H q)⟩
end
def aB (i : Nat) : ME := fun σ w => match σ[i]? with
 | some (some d) => .ok d w
 | _ => .bad
def eC (d : D) : ME := fun _ w => .ok d w
section
variable {S : aR} {pos : Pos}
theorem aDl (i : Nat) {x : Str} (hN : S.N[i]? = some x) (hv : Vis S.sc x) (hd : (x == ("__debug__" : Str)) = false := by decide) (hcd : (x == ("__classdict__" : Str)) = false := by decide) : JE S (.Name x pos) (aB i) := by
 intro X E c xo
 refine cV (pe_var (i := i) (by rw [c.N]; exact hN) (by rw [c.sc]; exact hv) hd hcd) fun σ H Q h => ?_
 obtain ⟨I, F, G, ds, w, rel, rs, p⟩ := h
 unfold aB at p
 split at p
 ·rename_i d hi
  obtain ⟨v, hv, hr⟩ := rs.2 i d hi
  exact ⟨v, hv, p I F H .refl rel v hr⟩
 ·exact p.elim
theorem aBg {e : Expr} {d : D} {v : V} (h : ∀ X, PE X e (tC v)) (hr : ∀ K I F, aF K I F d v) : JE S e (eC d) := by
 intro X E c xo
 refine cV (h X) fun σ H Q h => ?_
 obtain ⟨I, F, G, ds, w, rel, rs, p⟩ := h
 exact p I F H .refl rel v (hr _ _ _)
theorem aL {i : Int} {j : Nat} : JE S (.Constant (.int i) j pos) (eC (.int i)) := aBg (fun _ => pe_int) fun _ _ _ => by simp [aF]
theorem mF {b : Bool} {j : Nat} : JE S (.Constant (.bool b) j pos) (eC (.bl b)) := aBg (fun _ => pe_bl) fun _ _ _ => by simp [aF]
theorem qE {j : Nat} : JE S (.Constant .none j pos) (eC .non) := aBg (fun _ => pe_non) fun _ _ _ => by simp [aF]
theorem bE {x : Str} {j : Nat} : JE S (.Constant (.str x) j pos) (eC (.str x)) := aBg (fun _ => pe_str) fun _ _ _ => by simp [aF]
theorem aBQ {x : Str} {d : D} {v : V} {u : Value} (hg : S.sc.names.lookup x = some .globalImplicit) (hm : S.mg x = some u) (r : RelV v u) (hr : ∀ I F, aF S.K I F d v) (hd : (x == ("__debug__" : Str)) = false := by decide) : JE S (.Name x pos) (eC d) := by
 intro X E c xo
 refine cV (pe_glob (x := x) (v := v) (u := u) (by show X.env.scope.names.lookup x = _; rw [c.sc]; exact hg) (by rw [c.mg]; exact hm) r hd) fun σ H Q h => ?_
 obtain ⟨I, F, G, ds, w, rel, rs, p⟩ := h
 exact p I F H .refl rel v (by rw [c.K]; exact hr _ _)
end
def aC (f : D → D → W → Res D) (a b : ME) : ME := fun σ w => (a σ w).bind fun x w1 => (b σ w1).bind fun y w2 => f x y w2
def AF (f : D → W → Res D) (a : ME) : ME := fun σ w => (a σ w).bind fun x w1 => f x w1
def ZT (K : PySem.W.Frag) (E : XK) (f : D → D → W → Res D) : R2 := fun x y H Q => ∃ I F G d e w, Rel K I F G w H ∧ aF K I F d x ∧ aF K I F e y ∧ aY K I F G E (RV K Q) (f d e w)
def aFP (K : PySem.W.Frag) (E : XK) (f : D → W → Res D) : V → Hp → VK → Prop := fun x H Q => ∃ I F G d w, Rel K I F G w H ∧ aF K I F d x ∧ aY K I F G E (RV K Q) (f d w)
def O2 (S : aR) (o : Value → Value → Sem Value) (f : D → D → W → Res D) : Prop := ∀ X E, Ctx S X → q8 X E → OpR X o (ZT X.K E f)
def O1 (S : aR) (o : Value → Sem Value) (f : D → W → Res D) : Prop := ∀ X E, Ctx S X → q8 X E → UnR X o (aFP X.K E f)
section
variable {S : aR} {pos : Pos} {a b : Expr} {ma mb : ME}
theorem yJ {K : PySem.W.Frag} {E : XK} {f : D → D → W → Res D} {σ : L2.St} {H : Hp} {Q : VK} (h : sP K E (aC f ma mb) σ H Q) : tOp (ZT K E f) (sP K E ma) (sP K E mb) σ H Q := by
 obtain ⟨I, F, G, ds, w, rel, rs, p⟩ := h
 refine ⟨I, F, G, ds, w, rel, rs, (aY.bind p).mono fun I1 F1 H1 x w1 _ e1 rel1 p1 v rv => ?_⟩
 refine ⟨I1, F1, G, ds, w1, rel1, rs.ext e1, (aY.bind p1).mono fun I2 F2 H2 y w2 _ e2 rel2 p2 u ru => ?_⟩
 exact ⟨I2, F2, G, x, y, w2, rel2, aF.ext e2 _ _ rv, ru, p2⟩
theorem bK {op : Operator} {f : D → D → W → Res D} (ho : O2 S (binaryOp op) f) (ha : JE S a ma) (hb : JE S b mb) : JE S (.BinOp a op b pos) (aC f ma mb) := fun X E c xo =>
 cV (pe_op (ho X E c xo) (ha X E c xo) (hb X E c xo)) fun _ _ _ h => yJ h
theorem nZ {op : CmpOp} {f : D → D → W → Res D} (ho : O2 S (compareOp op) f) (ha : JE S a ma) (hb : JE S b mb) (hm : behindInMarks op b = false := by first | exact nobehind _ (by decide) (by decide) | rfl) : JE S (.Compare a [op] [b] pos) (aC f ma mb) := fun X E c xo =>
 cV (pe_cmpR (ho X E c xo) (ha X E c xo) (hb X E c xo) hm) fun _ _ _ h => yJ h
theorem IU {op : UnaryOp} {f : D → W → Res D} (ho : O1 S (unaryOp op) f) (ha : JE S a ma) : JE S (.UnaryOp op a pos) (AF f ma) := fun X E c xo =>
 cV (pe_un (ho X E c xo) (ha X E c xo)) fun σ H Q h => by
  obtain ⟨I, F, G, ds, w, rel, rs, p⟩ := h
  refine ⟨I, F, G, ds, w, rel, rs, (aY.bind p).mono fun I1 F1 H1 x w1 _ e1 rel1 p1 v rv => ?_⟩
  exact ⟨I1, F1, G, x, w1, rel1, rv, p1⟩
def aEW (d : D) (w : W) : Res Bool := match d with
 | .bl b => .ok b w
 | _ => .bad
def bA (m : ME) : MT := fun σ w => (m σ w).bind aEW
theorem cX {op : CmpOp} {f : D → D → W → Res D} (ho : O2 S (compareOp op) f) (ha : JE S a ma) (hb : JE S b mb) (hm : behindInMarks op b = false := by first | exact nobehind _ (by decide) (by decide) | rfl) : JT S (.Compare a [op] [b] pos) (bA (aC f ma mb)) := fun X E c xo =>
 DB (pt_cmpR (ho X E c xo) (ha X E c xo) (hb X E c xo) hm) fun σ H Q h => by
  obtain ⟨I, F, G, ds, w, rel, rs, p⟩ := h
  show tOp _ _ _ σ H fun x H' => ∃ k, x = .bl k ∧ Q k H'
  refine yJ ⟨I, F, G, ds, w, rel, rs, (aY.bind p).mono fun I1 F1 H1 x w1 _ e1 rel1 p1 v rv => ?_⟩
  cases x <;> first | exact p1.elim | skip
  simp only [aF] at rv
  exact ⟨_, rv, p1 I1 F1 H1 .refl rel1⟩
end
mutual
def D.gD (f : Nat → Option PyData) : D → Option PyData
 | .non => some .none
 | .bl b => some (.bool b)
 | .int i => some (.int i)
 | .str x => some (.str x)
 | .ty _ => none
 | .con _ => none
 | .tup xs => (D.pysR f xs).map .tuple
 | .lst xs => (D.pysR f xs).map .list
 | .qF xs => (D.pysR f xs).map .list
 | .jL xs => (D.pysR f xs).map .tuple
 | .GX _ _ => none
 | .ref i => f i
def D.pysR (f : Nat → Option PyData) : List D → Option (List PyData)
 | [] => some []
 | d :: ds => match D.gD f d, D.pysR f ds with
  | some p, some ps => some (p :: ps)
  | _, _ => none
end
def ML : Nat → W → Nat → Option PyData
 | 0, _, _ => none
 | n + 1, w, i => match w[i]? with
  | some (.lst xs) => (D.pysR (ML n w) xs).map .list
  | _ => none
def D.py (w : W) (d : D) : Option PyData := d.gD (ML 8 w)
section
variable {K : PySem.W.Frag} {I : List Addr} {F G H : Hp} {w : W}
theorem Rel.U5 (rel : Rel K I F G w H) {a : Addr} {vs : List V} (h : SqL K F a vs) : SqL K H a vs := by
 rcases h with (h | ⟨o, h⟩) | h
 ·exact .inl (.inl (rel.fz _ _ h))
 ·exact .inl (.inr ⟨o, rel.fz _ _ h⟩)
 ·exact .inr h
theorem Rel.LW (rel : Rel K I F G w H) {a : Addr} {vs : List V} (h : SqT K F a vs) : SqT K H a vs := by
 rcases h with (h | ⟨o, h⟩) | h
 ·exact .inl (.inl (rel.fz _ _ h))
 ·exact .inl (.inr ⟨o, rel.fz _ _ h⟩)
 ·exact .inr h
mutual
theorem X3 (rel : Rel K I F G w H) {f : Nat → Option PyData} (hf : ∀ i a p, I[i]? = some a → f i = some p → Dp K H (.ref a) p) : ∀ (d : D) (v : V) (p : PyData), aF K I F d v → d.gD f = some p → Dp K H v p
 | .non, v, p, h, e => by simp only [aF] at h; simp only [D.gD, ai] at e; subst h; subst e; exact .non
 | .bl b, v, p, h, e => by simp only [aF] at h; simp only [D.gD, ai] at e; subst h; subst e; exact .bl b
 | .int i, v, p, h, e => by simp only [aF] at h; simp only [D.gD, ai] at e; subst h; subst e; exact .int i
 | .str x, v, p, h, e => by simp only [aF] at h; simp only [D.gD, ai] at e; subst h; subst e; exact .str x
 | .ty _, v, p, h, e => by simp [D.gD] at e
 | .con _, v, p, h, e => by simp [D.gD] at e
 | .GX _ _, v, p, h, e => by simp [D.gD] at e
 | .tup xs, v, p, h, e => by
  simp only [aF] at h
  obtain ⟨a, vs, rfl, h2, h3⟩ := h
  simp only [D.gD, ao] at e
  obtain ⟨ps, e1, rfl⟩ := e
  exact .tup (.of (rel.fz _ _ h2)) (dp_pysR rel hf xs vs ps h3 e1)
 | .jL xs, v, p, h, e => by
  simp only [aF] at h
  obtain ⟨a, vs, rfl, h2, h3⟩ := h
  simp only [D.gD, ao] at e
  obtain ⟨ps, e1, rfl⟩ := e
  exact .tup (rel.LW h2) (dp_pysR rel hf xs vs ps h3 e1)
 | .lst xs, v, p, h, e => by
  simp only [aF] at h
  obtain ⟨a, vs, rfl, h2, h3⟩ := h
  simp only [D.gD, ao] at e
  obtain ⟨ps, e1, rfl⟩ := e
  exact .lst (.of (rel.fz _ _ h2)) (dp_pysR rel hf xs vs ps h3 e1)
 | .qF xs, v, p, h, e => by
  simp only [aF] at h
  obtain ⟨a, vs, rfl, h2, h3⟩ := h
  simp only [D.gD, ao] at e
  obtain ⟨ps, e1, rfl⟩ := e
  exact .lst (rel.U5 h2) (dp_pysR rel hf xs vs ps h3 e1)
 | .ref i, v, p, h, e => by
  simp only [aF] at h
  obtain ⟨a, rfl, h2⟩ := h
  simp only [D.gD] at e
  exact hf i a p h2 e
theorem dp_pysR (rel : Rel K I F G w H) {f : Nat → Option PyData} (hf : ∀ i a p, I[i]? = some a → f i = some p → Dp K H (.ref a) p) : ∀ (ds : List D) (vs : List V) (ps : List PyData), RepL K I F ds vs → D.pysR f ds = some ps → DpAll K H vs ps
 | [], vs, ps, h, e => by simp only [RepL] at h; simp only [D.pysR, ai] at e; subst h; subst e; exact .nil
 | d :: ds, vs, ps, h, e => by
  simp only [RepL] at h
  obtain ⟨v, r, rfl, h2, h3⟩ := h
  simp only [D.pysR] at e
  split at e
  ·rename_i p ps' e1 e2
   cases e
   exact .cons (X3 rel hf d v p h2 e1) (dp_pysR rel hf ds r ps' h3 e2)
  ·cases e
end
theorem aCp (rel : Rel K I F G w H) : ∀ (n : Nat) (i : Nat) (a : Addr) (p : PyData), I[i]? = some a → ML n w i = some p → Dp K H (.ref a) p
 | 0, i, a, p, _, e => by simp [ML] at e
 | n + 1, i, a, p, h, e => by
  simp only [ML] at e
  split at e
  ·rename_i xs hw
   simp only [ao] at e
   obtain ⟨ps, e1, rfl⟩ := e
   obtain ⟨u, hu, ho⟩ := rel.ob i a _ h hw
   obtain ⟨vs, rfl, h3⟩ := ho
   exact .lst (.of hu) (dp_pysR rel (fun i a p => aCp rel n i a p) xs vs ps h3 e1)
  ·cases e
theorem yG (rel : Rel K I F G w H) {d : D} {v : V} {p : PyData} (h : aF K I F d v) (e : d.py w = some p) : Dp K H v p :=
 X3 rel (fun i a p => aCp rel 8 i a p) d v p h e
end
def bQ (x y : D) (w : W) : Res D := match x, y with
 | .int a, .int b => .ok (.int (a + b)) w
 | .str a, .str b => if a.length + b.length ≤ sizeLine then .ok (.str (a ++ b)) w else .bad
 | .tup a, .tup b => if a.length + b.length ≤ sizeLine then .ok (.tup (a ++ b)) w else .bad
 | .lst a, .lst b => if a.length + b.length ≤ sizeLine then .ok (.lst (a ++ b)) w else .bad
 | _, _ => .bad
def mU (x y : D) (w : W) : Res D := match x, y with
 | .int a, .int b => .ok (.int (a - b)) w
 | _, _ => .bad
def DZ (a b : Int) : Bool := (decide (-(2 ^ 64) < a) && decide (a < 2 ^ 64)) || (decide (-(2 ^ 64) < b) && decide (b < 2 ^ 64))
def mulM (x y : D) (w : W) : Res D := match x, y with
 | .int a, .int b => if DZ a b then .ok (.int (a * b)) w else .bad
 | .lst a, .int k => if -(2 ^ 63) ≤ k ∧ k < 2 ^ 63 ∧ a.length * k.toNat ≤ sizeLine then .ok (.lst (List.replicate k.toNat a).flatten) w else .bad
 | _, _ => .bad
def wM (x y : D) (w : W) : Res D := match x, y with
 | .int a, .int b => if 0 < b ∧ b < 1073741824 then .ok (.int (a / b)) w else .bad
 | _, _ => .bad
def kL (x y : D) (w : W) : Res D := match x, y with
 | .int a, .int b => if 0 < b then .ok (.int (a % b)) w else .bad
 | _, _ => .bad
def QW (x y : D) (w : W) : Res D := match x, y with
 | .int a, .int b => if 0 ≤ b ∧ b ≤ 1000000 ∧ a.natAbs < 2 ^ 64 then .ok (.int (a ^ b.toNat)) w else .bad
 | _, _ => .bad
def tX (x : D) (w : W) : Res D := match x with
 | .int a => .ok (.int (-a)) w
 | _ => .bad
def vT (x y : D) (w : W) : Option Bool := match x.py w, y.py w with
 | some p, some q => if SeqAt.shaped p = true ∧ SeqAt.shaped q = true then some (PyData.eqv p q) else none
 | _, _ => none
def aC1 (x y : D) (w : W) : Res D := match vT x y w with
 | some b => .ok (.bl b) w
 | none => .bad
def aC4 (x y : D) (w : W) : Res D := match vT x y w with
 | some b => .ok (.bl (!b)) w
 | none => .bad
def W5 : D → D → Option Bool
 | .tup xs, .tup [] => some xs.isEmpty
 | .lst xs, .lst [] => some xs.isEmpty
 | _, _ => none
def vR (x y : D) (w : W) : Option Bool := match vT x y w with
 | some b => some b
 | none => W5 x y
def fG (x y : D) (w : W) : Res D := match vR x y w with
 | some b => .ok (.bl b) w
 | none => .bad
def mQ (x y : D) (w : W) : Res D := match vR x y w with
 | some b => .ok (.bl (!b)) w
 | none => .bad
def G5 (x y : D) (w : W) : Res D := match x, y with
 | .int a, .int b => .ok (.bl (decide (a ≤ b))) w
 | _, _ => .bad
def II (x y : D) (w : W) : Res D := match x, y with
 | .int a, .int b => .ok (.bl (decide (b < a))) w
 | _, _ => .bad
def geM (x y : D) (w : W) : Res D := match x, y with
 | .int a, .int b => .ok (.bl (decide (b ≤ a))) w
 | _, _ => .bad
def D.isNon : D → Bool
 | .non => true
 | _ => false
def isM (x y : D) (w : W) : Res D := match x, y with
 | x, .non => .ok (.bl x.isNon) w
 | .bl a, .bl b => .ok (.bl (decide (a = b))) w
 | _, _ => .bad
def WL (x y : D) (w : W) : Res D := match x, y with
 | x, .non => .ok (.bl (!x.isNon)) w
 | .bl a, .bl b => .ok (.bl (!decide (a = b))) w
 | _, _ => .bad
def D.items (w : W) : D → Option (List D)
 | .tup xs => some xs
 | .lst xs => some xs
 | .qF xs => some xs
 | .jL xs => some xs
 | .ref i => match w[i]? with
  | some (.lst xs) => some xs
  | _ => none
 | _ => none
section
variable {S : aR}
theorem hV {o : Value → Value → Sem Value} {f : D → D → W → Res D}
  (h : ∀ (X : Cx) (E : XK), Ctx S X → q8 X E → ∀ (I : List Addr) (F G : Hp) (d e : D) (w : W) (H : Hp) (x y : V) (Q : VK), Rel X.K I F G w H → aF X.K I F d x → aF X.K I F e y → aY X.K I F G E (RV X.K Q) (f d e w) →
   ∃ r : R2, OpR X o r ∧ r x y H Q) : O2 S o f := fun X E c xo pins s σ H x y v u Q I rx ry ⟨J, F, G, d, e, w, rel, rd, re, p⟩ => by
 obtain ⟨r, ho, hr⟩ := h X E c xo J F G d e w H x y Q rel rd re p
 exact ho pins s σ H x y v u Q I rx ry hr
theorem xA {o : Value → Value → Sem Value} {f : D → D → W → Res D} {C : Int → Int → Prop} {g : Int → Int → V} {gd : Int → Int → D} (ho : ∀ X : Cx, OpR X o (rI C g))
  (hg : ∀ K I F a b, aF K I F (gd a b) (g a b)) (hf : ∀ d e w r, f d e w = r → r = .bad ∨ ∃ a b, d = .int a ∧ e = .int b ∧ C a b ∧ r = .ok (gd a b) w) : O2 S o f :=
 hV fun X E c xo I F G d e w H x y Q rel rd re p => by
  rcases hf d e w _ rfl with h | ⟨a, b, rfl, rfl, hc, h⟩
  ·rw [h] at p; exact p.elim
  ·rw [h] at p
   simp only [aF] at rd re
   exact ⟨_, ho X, a, b, rd, re, hc, p I F H .refl rel _ (hg _ _ _ _ _)⟩
theorem NL {o : Value → Value → Sem Value} {X : Cx} {g : Int → Int → V} (h : OpR X o (rI0 g)) : OpR X o (rI (fun _ _ => True) g) := fun pins s σ H x y v u Q I rx ry ⟨i, j, e1, e2, _, q⟩ => h pins s σ H x y v u Q I rx ry ⟨i, j, e1, e2, q⟩
theorem ZO : O2 S (binaryOp .Sub) mU := xA (gd := fun a b => .int (a - b)) (fun _ => NL op_sub) (fun _ _ _ _ _ => by simp [aF]) fun d e w r h => by
 subst h; cases d <;> cases e <;> simp [mU]
theorem sW : O2 S (compareOp .LtE) G5 := xA (gd := fun a b => .bl (decide (a ≤ b))) (fun _ => NL op_le) (fun _ _ _ _ _ => by simp [aF]) fun d e w r h => by
 subst h; cases d <;> cases e <;> simp [G5]
theorem aCE : O2 S (compareOp .Gt) II := xA (gd := fun a b => .bl (decide (b < a))) (fun _ => NL op_gt) (fun _ _ _ _ _ => by simp [aF]) fun d e w r h => by
 subst h; cases d <;> cases e <;> simp [II]
theorem aEs : O2 S (compareOp .GtE) geM := xA (gd := fun a b => .bl (decide (b ≤ a))) (fun _ => NL op_ge) (fun _ _ _ _ _ => by simp [aF]) fun d e w r h => by
 subst h; cases d <;> cases e <;> simp [geM]
theorem UJ : O2 S (binaryOp .FloorDiv) wM := xA (gd := fun a b => .int (a / b)) (fun _ => op_fdiv) (fun _ _ _ _ _ => by simp [aF]) fun d e w r h => by
 subst h; cases d <;> cases e <;> simp only [wM, true_or, reduceCtorEq, false_and, and_false, exists_const, or_false]
 rename_i a b
 by_cases hc : 0 < b ∧ b < 1073741824
 ·rw [if_pos hc]; exact .inr ⟨a, b, rfl, rfl, hc, rfl⟩
 ·rw [if_neg hc]; exact .inl rfl
theorem xM : O2 S (binaryOp .Mod) kL := xA (gd := fun a b => .int (a % b)) (fun _ => op_mod) (fun _ _ _ _ _ => by simp [aF]) fun d e w r h => by
 subst h; cases d <;> cases e <;> simp only [kL, true_or, reduceCtorEq, false_and, and_false, exists_const, or_false]
 rename_i a b
 by_cases hc : 0 < b
 ·rw [if_pos hc]; exact .inr ⟨a, b, rfl, rfl, hc, rfl⟩
 ·rw [if_neg hc]; exact .inl rfl
theorem aCQ : O2 S (binaryOp .Pow) QW := xA (gd := fun a b => .int (a ^ b.toNat)) (fun _ => op_pow) (fun _ _ _ _ _ => by simp [aF]) fun d e w r h => by
 subst h; cases d <;> cases e <;> simp only [QW, true_or, reduceCtorEq, false_and, and_false, exists_const, or_false]
 rename_i a b
 by_cases hc : 0 ≤ b ∧ b ≤ 1000000 ∧ a.natAbs < 2 ^ 64
 ·rw [if_pos hc]; exact .inr ⟨a, b, rfl, rfl, hc, rfl⟩
 ·rw [if_neg hc]; exact .inl rfl
theorem nA {K : PySem.W.Frag} {I : List Addr} {F G H : Hp} {E : XK} {w : W} {ds : List D} {vs : List V} {Q : VK} (rel : Rel K I F G w H) (r : RepL K I F ds vs) (p : aY K I F G E (RV K Q) (.ok (.lst ds) w)) : ∀ q, H q = none → Q (.ref q) (upd H q (.lst vs)) := fun q hq => by
 have hF : F q = none := by
  cases h : F q with
  | none => rfl
  | some u => rw [rel.fz _ _ h] at hq; cases hq
 have e : Ext I F I (upd F q (.lst vs)) := ⟨List.prefix_refl _, fun a u h => by rw [upd_ne (ne_of_none h hF)]; exact h⟩
 refine p I (upd F q (.lst vs)) (upd H q (.lst vs)) e ⟨rel.len, rel.nd, fun i a o h1 h2 => ?_, fun a u h => ?_, fun i a o h h0 hf => ?_, fun a u h => ?_, fun a u h => ?_, rel.gt⟩ _ ?_
 ·obtain ⟨u, h3, h4⟩ := rel.ob i a o h1 h2
  exact ⟨u, by rw [upd_ne (ne_of_none h3 hq)]; exact h3, m3.ext e h4⟩
 ·by_cases ha : a = q
  ·subst ha; rw [upd_same] at h ⊢; exact h
  ·rw [upd_ne ha] at h ⊢; exact rel.fz a u h
 ·obtain ⟨u, h3, _⟩ := rel.ob i a o h h0
  rw [upd_ne (ne_of_none h3 hq)]; exact rel.ap i a o h h0 hf
 ·rw [upd_ne (ne_of_none (rel.gz a u h) hq)]; exact rel.gz a u h
 ·rw [upd_ne (ne_of_none (rel.gz a u h) hq)]; exact rel.gf a u h
 ·simp only [aF]
  exact ⟨q, vs, rfl, upd_same, RepL.ext e _ _ r⟩
theorem y4 {K : PySem.W.Frag} {I : List Addr} {F G H : Hp} {E : XK} {w : W} {ds : List D} {vs : List V} {Q : VK} (rel : Rel K I F G w H) (r : RepL K I F ds vs) (p : aY K I F G E (RV K Q) (.ok (.tup ds) w)) : ∀ q, H q = none → Q (.ref q) (upd H q (.tup vs)) := fun q hq => by
 have hF : F q = none := by
  cases h : F q with
  | none => rfl
  | some u => rw [rel.fz _ _ h] at hq; cases hq
 have e : Ext I F I (upd F q (.tup vs)) := ⟨List.prefix_refl _, fun a u h => by rw [upd_ne (ne_of_none h hF)]; exact h⟩
 refine p I (upd F q (.tup vs)) (upd H q (.tup vs)) e ⟨rel.len, rel.nd, fun i a o h1 h2 => ?_, fun a u h => ?_, fun i a o h h0 hf => ?_, fun a u h => ?_, fun a u h => ?_, rel.gt⟩ _ ?_
 ·obtain ⟨u, h3, h4⟩ := rel.ob i a o h1 h2
  exact ⟨u, by rw [upd_ne (ne_of_none h3 hq)]; exact h3, m3.ext e h4⟩
 ·by_cases ha : a = q
  ·subst ha; rw [upd_same] at h ⊢; exact h
  ·rw [upd_ne ha] at h ⊢; exact rel.fz a u h
 ·obtain ⟨u, h3, _⟩ := rel.ob i a o h h0
  rw [upd_ne (ne_of_none h3 hq)]; exact rel.ap i a o h h0 hf
 ·rw [upd_ne (ne_of_none (rel.gz a u h) hq)]; exact rel.gz a u h
 ·rw [upd_ne (ne_of_none (rel.gz a u h) hq)]; exact rel.gf a u h
 ·simp only [aF]
  exact ⟨q, vs, rfl, upd_same, RepL.ext e _ _ r⟩
theorem RepL.eq_nil {K : PySem.W.Frag} {I : List Addr} {F : Hp} {ds : List D} (r : RepL K I F ds []) : ds = [] := by
 have := r.length
 exact List.eq_nil_of_length_eq_zero (by simpa using this)
theorem dA : O2 S (binaryOp .Add) bQ := hV fun X E c xo I F G d e w H x y Q rel rd re p => by
 cases d <;> cases e <;> first | exact p.elim | skip
 ·simp only [aF] at rd re
  exact ⟨_, op_add, _, _, rd, re, p I F H .refl rel _ (by simp [aF])⟩
 ·rename_i a b
  simp only [aF] at rd re
  simp only [bQ] at p
  split at p
  ·rename_i hl
   exact ⟨_, op_add_str, _, _, rd, re, hl, p I F H .refl rel _ (by simp [aF])⟩
  ·exact p.elim
 ·rename_i a b
  simp only [aF] at rd re
  obtain ⟨q, vs, rfl, h1, h2⟩ := rd
  obtain ⟨q', vs', rfl, h1', h2'⟩ := re
  simp only [bQ] at p
  split at p
  ·rename_i hl
   refine ⟨_, op_catA, q, q', vs, vs', rfl, rfl, .of (rel.fz _ _ h1), .of (rel.fz _ _ h1'), by rw [← h2.length, ← h2'.length]; exact hl, fun hn => ?_, fun _ hn => ?_, fun _ _ => ?_⟩
   ·subst hn
    obtain rfl := h2.eq_nil
    exact p I F H .refl rel _ (by simp only [aF, List.nil_append]; exact ⟨_, _, rfl, h1', h2'⟩)
   ·subst hn
    obtain rfl := h2'.eq_nil
    exact p I F H .refl rel _ (by simp only [aF, List.append_nil]; exact ⟨_, _, rfl, h1, h2⟩)
   ·exact y4 rel (h2.append h2') p
  ·exact p.elim
 ·rename_i a b
  simp only [aF] at rd re
  obtain ⟨q, vs, rfl, h1, h2⟩ := rd
  obtain ⟨q', vs', rfl, h1', h2'⟩ := re
  simp only [bQ] at p
  split at p
  ·rename_i hl
   exact ⟨_, op_cat, q, q', vs, vs', rfl, rfl, rel.fz _ _ h1, rel.fz _ _ h1', by rw [← h2.length, ← h2'.length]; exact hl, nA rel (h2.append h2') p⟩
  ·exact p.elim
theorem RepL.rep {K : PySem.W.Frag} {I : List Addr} {F : Hp} {ds : List D} {vs : List V} (r : RepL K I F ds vs) : ∀ n : Nat, RepL K I F (List.replicate n ds).flatten (List.replicate n vs).flatten
 | 0 => by simp [RepL]
 | n + 1 => by
  rw [List.replicate_succ, List.replicate_succ, List.flatten_cons, List.flatten_cons]
  exact r.append (r.rep n)
theorem A9 : O2 S (binaryOp .Mult) mulM := hV fun X E c xo I F G d e w H x y Q rel rd re p => by
 cases d <;> cases e <;> first | exact p.elim | skip
 ·rename_i a b
  simp only [aF] at rd re
  simp only [mulM] at p
  split at p
  ·rename_i hl
   refine ⟨_, op_mul, _, _, rd, re, ?_, p I F H .refl rel _ (by simp [aF])⟩
   simpa [DZ, CMul] using hl
  ·exact p.elim
 ·rename_i a b
  simp only [aF] at rd re
  obtain ⟨q, vs, rfl, h1, h2⟩ := rd
  simp only [mulM] at p
  split at p
  ·rename_i hl
   exact ⟨_, op_rep, q, b, vs, rfl, re, rel.fz _ _ h1, hl.1, hl.2.1, by rw [← h2.length]; exact hl.2.2, nA rel (h2.rep _) p⟩
  ·exact p.elim
theorem aDf : O2 S (compareOp .Eq) aC1 := hV fun X E c xo I F G d e w H x y Q rel rd re p => by
 unfold aC1 vT at p
 split at p
 ·rename_i b hb
  split at hb
  ·rename_i p1 q1 e1 e2
   split at hb
   ·rename_i hs
    cases hb
    exact ⟨_, op_eqD c.room.units, p1, q1, yG rel rd e1, yG rel re e2, hs.1, hs.2, p I F H .refl rel _ (by simp [aF])⟩
   ·cases hb
  ·cases hb
 ·exact p.elim
theorem aDC : O2 S (compareOp .NotEq) aC4 := hV fun X E c xo I F G d e w H x y Q rel rd re p => by
 unfold aC4 vT at p
 split at p
 ·rename_i b hb
  split at hb
  ·rename_i p1 q1 e1 e2
   split at hb
   ·rename_i hs
    cases hb
    exact ⟨_, op_neD c.room.units, p1, q1, yG rel rd e1, yG rel re e2, hs.1, hs.2, p I F H .refl rel _ (by simp [aF])⟩
   ·cases hb
  ·cases hb
 ·exact p.elim
theorem U8 {K : PySem.W.Frag} {I : List Addr} {F : Hp} {d : D} {v : V} (h : aF K I F d v) : decide (v = .non) = d.isNon := by
 cases d <;> simp only [aF] at h
 case non => subst h; rfl
 case bl => subst h; rfl
 case int => subst h; rfl
 case str => subst h; rfl
 case ty => subst h; rfl
 case con => subst h; rfl
 case tup => obtain ⟨a, vs, rfl, _⟩ := h; rfl
 case lst => obtain ⟨a, vs, rfl, _⟩ := h; rfl
 case qF => obtain ⟨a, vs, rfl, _⟩ := h; rfl
 case jL => obtain ⟨a, vs, rfl, _⟩ := h; rfl
 case GX => obtain ⟨a, vs, rfl, _⟩ := h; rfl
 case ref => obtain ⟨a, rfl, _⟩ := h; rfl
theorem aBV {x : D} {w : W} : isM x .non w = .ok (.bl x.isNon) w := by cases x <;> rfl
theorem EL {n : Nat} {xs : List D} (h : n = xs.length) : ((List.range (min n 0)).all (fun _ => true) && n == 0) = xs.isEmpty := by
 subst h
 cases xs <;> simp
theorem C2 {X : Cx} {pins : List (Addr × Obj)} {σ : L2.St} {H : Hp} {s : Shared} (J : Inv X pins σ H s) {a : Addr} {vs : List V} (h : H a = some (.tup vs)) : ∃ its : Array Value, s.heap.IsTuple a its ∧ its.size = vs.length := by
 obtain ⟨its, rv, ht, _⟩ := J.tuple (show SqT X.K H a vs from .of h)
 refine ⟨its.toArray, ht, ?_⟩
 rw [List.size_toArray]
 exact (Vals.length rv).symm
theorem DD {X : Cx} {pins : List (Addr × Obj)} {σ : L2.St} {H : Hp} {s : Shared} (J : Inv X pins σ H s) {a : Addr} {vs : List V} (h : H a = some (.lst vs)) : ∃ its : Array Value, s.heap.IsList a its ∧ its.size = vs.length := by
 obtain ⟨its, rv, ⟨o, n, ho, hc, _, hd⟩, _⟩ := J.list (show SqL X.K H a vs from .of h)
 refine ⟨its.toArray, ⟨o, ho, hc, n, hd⟩, ?_⟩
 rw [List.size_toArray]
 exact (Vals.length rv).symm
theorem m2 : O2 S (compareOp .Eq) fG := fun X E c xo pins s σ H x y v u Q J rx ry ⟨I, F, G, d, e, w, rel, rd, re, p⟩ => by
 unfold fG vR at p
 cases h0 : vT d e w with
 | some b =>
  rw [h0] at p
  exact aDf X E c xo pins s σ H x y v u Q J rx ry ⟨I, F, G, d, e, w, rel, rd, re, by unfold aC1; rw [h0]; exact p⟩
 | none =>
  rw [h0] at p
  simp only at p
  have hu : X.A.units < cLine := by have := c.room.units; omega
  unfold W5 at p
  split at p
  ·rename_i b hb
   split at hb
   ·rename_i xs
    cases hb
    simp only [aF, RepL] at rd re
    obtain ⟨a, vs, rfl, h2, h3⟩ := rd
    obtain ⟨b, us, rfl, h4, rfl⟩ := re
    obtain rfl : v = Value.ref a := rx
    obtain rfl : u = Value.ref b := ry
    obtain ⟨i1, t1, l1⟩ := C2 J (rel.fz _ _ h2)
    obtain ⟨i2, t2, l2⟩ := C2 J (rel.fz _ _ h4)
    have z : i2.size = 0 := l2
    refine SeqAt.eq_tupleAt (e := fun _ => true) t1 t2 hu (fun j h1 h2 => absurd h2 (by omega)) ?_
    rw [z, EL (l1.trans h3.length.symm)]
    exact ⟨.bl xs.isEmpty, H, J, rfl, p I F H .refl rel _ (by simp [aF])⟩
   ·rename_i xs
    cases hb
    simp only [aF, RepL] at rd re
    obtain ⟨a, vs, rfl, h2, h3⟩ := rd
    obtain ⟨b, us, rfl, h4, rfl⟩ := re
    obtain rfl : v = Value.ref a := rx
    obtain rfl : u = Value.ref b := ry
    obtain ⟨i1, t1, l1⟩ := DD J (rel.fz _ _ h2)
    obtain ⟨i2, t2, l2⟩ := DD J (rel.fz _ _ h4)
    have z : i2.size = 0 := l2
    have lx : i1.size = xs.length := l1.trans h3.length.symm
    cases xs with
    | nil =>
     refine SeqAt.eq_listAt (e := fun _ => true) t1 t2 (lx.trans z.symm) hu (fun j h1 h2 => absurd h2 (by omega)) ?_
     have : (List.range i1.size).all (fun _ => true) = true := by simp
     rw [this]
     exact ⟨.bl true, H, J, rfl, p I F H .refl rel _ (by simp [aF])⟩
    | cons x xs =>
     refine SeqAt.eq_list_lengthsAt t1 t2 (by rw [lx, z]; rfl) hu ?_
     exact ⟨.bl false, H, J, rfl, p I F H .refl rel _ (by simp [aF])⟩
   ·cases hb
  ·exact p.elim
theorem qO : O2 S (compareOp .NotEq) mQ := fun X E c xo pins s σ H x y v u Q J rx ry ⟨I, F, G, d, e, w, rel, rd, re, p⟩ => by
 unfold mQ vR at p
 cases h0 : vT d e w with
 | some b =>
  rw [h0] at p
  exact aDC X E c xo pins s σ H x y v u Q J rx ry ⟨I, F, G, d, e, w, rel, rd, re, by unfold aC4; rw [h0]; exact p⟩
 | none =>
  rw [h0] at p
  simp only at p
  have hu : X.A.units < cLine := by have := c.room.units; omega
  unfold W5 at p
  split at p
  ·rename_i b hb
   split at hb
   ·rename_i xs
    cases hb
    simp only [aF, RepL] at rd re
    obtain ⟨a, vs, rfl, h2, h3⟩ := rd
    obtain ⟨b, us, rfl, h4, rfl⟩ := re
    obtain rfl : v = Value.ref a := rx
    obtain rfl : u = Value.ref b := ry
    obtain ⟨i1, t1, l1⟩ := C2 J (rel.fz _ _ h2)
    obtain ⟨i2, t2, l2⟩ := C2 J (rel.fz _ _ h4)
    have z : i2.size = 0 := l2
    refine SeqAt.RcNeAt.tuples (e := fun _ => true) t1 t2 hu (fun j h1 h2 => absurd h2 (by omega)) _ _ _ _ ?_
    rw [z, EL (l1.trans h3.length.symm)]
    exact ⟨.bl (!xs.isEmpty), H, J, rfl, p I F H .refl rel _ (by simp [aF])⟩
   ·rename_i xs
    cases hb
    simp only [aF, RepL] at rd re
    obtain ⟨a, vs, rfl, h2, h3⟩ := rd
    obtain ⟨b, us, rfl, h4, rfl⟩ := re
    obtain rfl : v = Value.ref a := rx
    obtain rfl : u = Value.ref b := ry
    obtain ⟨i1, t1, l1⟩ := DD J (rel.fz _ _ h2)
    obtain ⟨i2, t2, l2⟩ := DD J (rel.fz _ _ h4)
    have z : i2.size = 0 := l2
    have lx : i1.size = xs.length := l1.trans h3.length.symm
    cases xs with
    | nil =>
     refine SeqAt.RcNeAt.lists (e := fun _ => true) t1 t2 (lx.trans z.symm) hu (fun j h1 h2 => absurd h2 (by omega)) _ _ _ _ ?_
     have : (List.range i1.size).all (fun _ => true) = true := by simp
     rw [this]
     exact ⟨.bl false, H, J, rfl, p I F H .refl rel _ (by simp [aF])⟩
    | cons x xs =>
     refine SeqAt.RcNeAt.lists_lengths t1 t2 (by rw [lx, z]; rfl) hu _ _ _ _ ?_
     exact ⟨.bl true, H, J, rfl, p I F H .refl rel _ (by simp [aF])⟩
   ·cases hb
  ·exact p.elim
theorem ZE : O2 S (compareOp .Is) isM := hV fun X E c xo I F G d e w H x y Q rel rd re p => by
 cases e
 case non =>
  simp only [aBV] at p
  simp only [aF] at re
  exact ⟨_, op_isN, re, p I F H .refl rel _ (by simp [aF, U8 rd])⟩
 case bl b =>
  cases d <;> first | exact p.elim | skip
  simp only [aF] at rd re
  exact ⟨_, op_isBl, _, _, rd, re, p I F H .refl rel _ (by simp [aF])⟩
 all_goals (cases d <;> exact p.elim)
theorem AA : O1 S (unaryOp .USub) tX := fun X E c xo pins s σ H x v Q I rx ⟨J, F, G, d, w, rel, rd, p⟩ => by
 cases d <;> first | exact p.elim | skip
 simp only [aF] at rd
 exact un_neg pins s σ H x v Q I rx ⟨_, rd, p J F H .refl rel _ (by simp [aF])⟩
end
def oK (d : D) (w : W) : Option Bool := match d with
 | .non => some false
 | .bl b => some b
 | .int i => some (i != 0)
 | .str x => if x.length ≤ sizeLine then some ((x.length : Int) != 0) else none
 | .tup xs => some (!xs.isEmpty)
 | .lst xs => some (!xs.isEmpty)
 | .qF xs => some (!xs.isEmpty)
 | .jL xs => some (!xs.isEmpty)
 | .ref i => (match w[i]? with
  | some (.lst xs) => some (!xs.isEmpty)
  | some (.dK kvs) => some (!kvs.isEmpty)
  | _ => none)
 | _ => none
theorem RepL.isEmpty {K : PySem.W.Frag} {I : List Addr} {F : Hp} {ds : List D} {vs : List V} (r : RepL K I F ds vs) : vs.isEmpty = ds.isEmpty := by
 cases ds with
 | nil => simp only [RepL] at r; subst r; rfl
 | cons d ds => simp only [RepL] at r; obtain ⟨v, t, rfl, _⟩ := r; rfl
theorem aS.isEmpty {κ : Type} {K : PySem.W.Frag} {I : List Addr} {F : Hp} {ds : List (κ × D)} {vs : List (κ × V)} (r : aS K I F ds vs) : vs.isEmpty = ds.isEmpty := by
 cases ds with
 | nil => simp only [aS] at r; subst r; rfl
 | cons d ds => obtain ⟨k, d⟩ := d; simp only [aS] at r; obtain ⟨v, t, rfl, _⟩ := r; rfl
theorem aB9 {K : PySem.W.Frag} {I : List Addr} {F G H : Hp} {w : W} (rel : Rel K I F G w H) {d : D} {v : V} (h : aF K I F d v) {b : Bool} (e : oK d w = some b) : TruV K v H b := by
 cases d <;> simp only [aF] at h
 case non => subst h; simp only [oK, ai] at e; exact e.symm
 case bl => subst h; simp only [oK, ai] at e; exact e.symm
 case int => subst h; simp only [oK, ai] at e; exact e.symm
 case str x =>
  subst h
  simp only [oK] at e
  split at e
  ·rename_i hl
   cases e; exact ⟨hl, rfl⟩
  ·cases e
 case ty => cases e
 case con => cases e
 case GX => cases e
 case tup xs =>
  obtain ⟨a, vs, rfl, h1, h2⟩ := h
  simp only [oK, ai] at e
  exact .inr (.inl ⟨vs, .of (rel.fz _ _ h1), by rw [h2.isEmpty]; exact e.symm⟩)
 case jL xs =>
  obtain ⟨a, vs, rfl, h1, h2⟩ := h
  simp only [oK, ai] at e
  exact .inr (.inl ⟨vs, rel.LW h1, by rw [h2.isEmpty]; exact e.symm⟩)
 case lst xs =>
  obtain ⟨a, vs, rfl, h1, h2⟩ := h
  simp only [oK, ai] at e
  exact .inl ⟨vs, .of (rel.fz _ _ h1), by rw [h2.isEmpty]; exact e.symm⟩
 case qF xs =>
  obtain ⟨a, vs, rfl, h1, h2⟩ := h
  simp only [oK, ai] at e
  exact .inl ⟨vs, rel.U5 h1, by rw [h2.isEmpty]; exact e.symm⟩
 case ref i =>
  obtain ⟨a, rfl, h1⟩ := h
  simp only [oK] at e
  split at e
  ·rename_i xs hw
   cases e
   obtain ⟨u, hu, vs, rfl, h2⟩ := rel.ob i a _ h1 hw
   exact .inl ⟨vs, .of hu, by rw [h2.isEmpty]⟩
  ·rename_i kvs hw
   cases e
   obtain ⟨u, hu, vs, rfl, h2⟩ := rel.ob i a _ h1 hw
   exact .inr (.inr ⟨vs, hu, by rw [h2.isEmpty]⟩)
  ·cases e
def gX (d : D) (w : W) : Res Bool := match oK d w with
 | some b => .ok b w
 | none => .bad
def eP (m : ME) : MT := fun σ w => (m σ w).bind gX
def gI (a b : MT) : MT := fun σ w => (a σ w).bind fun c w1 => if c = true then b σ w1 else .ok false w1
def gH (a b : MT) : MT := fun σ w => (a σ w).bind fun c w1 => if c = true then .ok true w1 else b σ w1
def cQ (a : MT) : MT := fun σ w => (a σ w).bind fun c w1 => .ok (!c) w1
def jM (a b : ME) : ME := fun σ w => (a σ w).bind fun x w1 => (gX x w1).bind fun c _ => if c = true then b σ w1 else .ok x w1
def eOr (a b : ME) : ME := fun σ w => (a σ w).bind fun x w1 => (gX x w1).bind fun c _ => if c = true then .ok x w1 else b σ w1
def notM (x : D) (w : W) : Res D := (gX x w).bind fun c _ => .ok (.bl (!c)) w
def T3 (t : MT) (a b : ME) : ME := fun σ w => (t σ w).bind fun c w1 => if c = true then a σ w1 else b σ w1
section
variable {S : aR} {pos : Pos} {a b c : Expr} {ma mb : ME} {ta tb : MT} {rest : List Expr}
theorem bO {α : Type} {K : PySem.W.Frag} {E : XK} {m : ME} {f : Sg → D → W → Res α} {I : List Addr} {F G H : Hp} {ds : Sg} {w : W} {σ : L2.St} {R : List Addr → Hp → Hp → α → W → Prop} (rel : Rel K I F G w H) (rs : fL K I F ds σ)
  (p : aY K I F G E R ((m ds w).bind (f ds))) {Q : VK} (k : ∀ I1 F1 H1 x w1 v, Ext I F I1 F1 → Rel K I1 F1 G w1 H1 → fL K I1 F1 ds σ → aF K I1 F1 x v → aY K I1 F1 G E R (f ds x w1) → Q v H1) : sP K E m σ H Q :=
 ⟨I, F, G, ds, w, rel, rs, (aY.bind p).mono fun I1 F1 H1 x w1 _ e1 rel1 p1 v rv => k I1 F1 H1 x w1 v e1 rel1 (rs.ext e1) rv p1⟩
theorem qX {α : Type} {K : PySem.W.Frag} {E : XK} {m : MT} {f : Sg → Bool → W → Res α} {I : List Addr} {F G H : Hp} {ds : Sg} {w : W} {σ : L2.St} {R : List Addr → Hp → Hp → α → W → Prop} (rel : Rel K I F G w H) (rs : fL K I F ds σ)
  (p : aY K I F G E R ((m ds w).bind (f ds))) {Q : Bool → Hp → Prop} (k : ∀ I1 F1 H1 c w1, Ext I F I1 F1 → Rel K I1 F1 G w1 H1 → fL K I1 F1 ds σ → aY K I1 F1 G E R (f ds c w1) → Q c H1) : RX K E m σ H Q :=
 ⟨I, F, G, ds, w, rel, rs, (aY.bind p).mono fun I1 F1 H1 x w1 _ e1 rel1 p1 => k I1 F1 H1 x w1 e1 rel1 (rs.ext e1) p1⟩
theorem dR {α : Type} {K : PySem.W.Frag} {E : XK} {m : MA} {f : Sg → List D → W → Res α} {I : List Addr} {F G H : Hp} {ds : Sg} {w : W} {σ : L2.St} {R : List Addr → Hp → Hp → α → W → Prop} (rel : Rel K I F G w H) (rs : fL K I F ds σ)
  (p : aY K I F G E R ((m ds w).bind (f ds))) {Q : List V → Hp → Prop} (k : ∀ I1 F1 H1 xs w1 vs, Ext I F I1 F1 → Rel K I1 F1 G w1 H1 → fL K I1 F1 ds σ → RepL K I1 F1 xs vs → aY K I1 F1 G E R (f ds xs w1) → Q vs H1) : aAH K E m σ H Q :=
 ⟨I, F, G, ds, w, rel, rs, (aY.bind p).mono fun I1 F1 H1 x w1 _ e1 rel1 p1 v rv => k I1 F1 H1 x w1 v e1 rel1 (rs.ext e1) rv p1⟩
theorem aY.mM {K : PySem.W.Frag} {I : List Addr} {F G H : Hp} {E : XK} {Q : VK} {d : D} {w : W} (p : aY K I F G E (RV K Q) (.ok d w)) (rel : Rel K I F G w H) {v : V} (h : aF K I F d v) : Q v H := p I F H .refl rel v h
theorem aY.okB {K : PySem.W.Frag} {I : List Addr} {F G H : Hp} {E : XK} {Q : Bool → Hp → Prop} {b : Bool} {w : W} (p : aY K I F G E (RB Q) (.ok b w)) (rel : Rel K I F G w H) : Q b H := p I F H .refl rel
theorem aY.truth {α : Type} {K : PySem.W.Frag} {I : List Addr} {F G H : Hp} {E : XK} {R : List Addr → Hp → Hp → α → W → Prop} {d : D} {w : W} {v : V} {f : Bool → W → Res α} (p : aY K I F G E R ((gX d w).bind f)) (rel : Rel K I F G w H) (h : aF K I F d v) :
  ∃ b, TruV K v H b ∧ aY K I F G E R (f b w) := by
 unfold gX at p
 split at p
 ·rename_i b e
  exact ⟨b, aB9 rel h e, p⟩
 ·exact p.elim
theorem fP (ha : JE S a ma) (he : ∀ (env : Env) (whole : Sem Value), isTrue a env whole = (do let v ← whole; standAt a.pos; holding [v] (truthy v)) := by intro _ _; rfl) : JT S a (eP ma) := fun X E cx xo =>
 DB (pt_truth (ha X E cx xo) (he X.env)) fun σ H Q ⟨I, F, G, ds, w, rel, rs, p⟩ => bO (f := fun _ => gX) rel rs p fun I1 F1 H1 x w1 v e1 rel1 rs1 rv p1 => by
  have p2 : aY X.K I1 F1 G E (RB Q) ((gX x w1).bind fun b w => .ok b w) := by
   cases h : gX x w1 <;> rw [h] at p1 <;> exact p1
  obtain ⟨b, hb, p3⟩ := p2.truth rel1 rv
  exact ⟨b, hb, p3.okB rel1⟩
theorem yQ (h : JW S a ta) : JT S a ta := fun X E cx xo => (h X E cx xo).pt
theorem C5 (ha : JT S a ta) : JW S (.BoolOp .And [a] pos) ta := fun X E cx xo => pw_and1 (ha X E cx xo)
theorem pY (ha : JT S a ta) : JW S (.BoolOp .Or [a] pos) ta := fun X E cx xo => pw_or1 (ha X E cx xo)
theorem KP (ha : JT S a ta) (hb : JW S (.BoolOp .And (b :: rest) pos) tb) : JW S (.BoolOp .And (a :: b :: rest) pos) (gI ta tb) := fun X E cx xo =>
 UU (pw_and (ha X E cx xo) (hb X E cx xo)) fun σ H Q ⟨I, F, G, ds, w, rel, rs, p⟩ => qX (f := fun ds c w1 => if c = true then tb ds w1 else .ok false w1) rel rs p fun I1 F1 H1 c w1 e1 rel1 rs1 p1 => by
  cases c with
  | true => exact ⟨I1, F1, G, ds, w1, rel1, rs1, p1⟩
  | false => exact p1.okB rel1
theorem qU (ha : JT S a ta) (hb : JW S (.BoolOp .Or (b :: rest) pos) tb) : JW S (.BoolOp .Or (a :: b :: rest) pos) (gH ta tb) := fun X E cx xo =>
 UU (pw_or (ha X E cx xo) (hb X E cx xo)) fun σ H Q ⟨I, F, G, ds, w, rel, rs, p⟩ => qX (f := fun ds c w1 => if c = true then .ok true w1 else tb ds w1) rel rs p fun I1 F1 H1 c w1 e1 rel1 rs1 p1 => by
  cases c with
  | true => exact p1.okB rel1
  | false => exact ⟨I1, F1, G, ds, w1, rel1, rs1, p1⟩
theorem iH (ha : JT S a ta) : JT S (.UnaryOp .Not a pos) (cQ ta) := fun X E cx xo =>
 DB (pt_not (ha X E cx xo)) fun σ H Q ⟨I, F, G, ds, w, rel, rs, p⟩ => qX (f := fun _ c w1 => .ok (!c) w1) rel rs p fun I1 F1 H1 c w1 e1 rel1 rs1 p1 => p1.okB rel1
theorem wZ {op : BoolOp} (h : JE S a ma) : JE S (.BoolOp op [a] pos) ma := fun X E cx xo => pe_one (h X E cx xo)
theorem r6 (ha : JE S a ma) (hb : JE S (.BoolOp .And (b :: rest) pos) mb) : JE S (.BoolOp .And (a :: b :: rest) pos) (jM ma mb) := fun X E cx xo =>
 cV (pe_andT (ha X E cx xo) (hb X E cx xo)) fun σ H Q ⟨I, F, G, ds, w, rel, rs, p⟩ => bO (f := fun ds x w1 => (gX x w1).bind fun c _ => if c = true then mb ds w1 else .ok x w1) rel rs p fun I1 F1 H1 x w1 v e1 rel1 rs1 rv p1 => by
  obtain ⟨k, hk, p2⟩ := p1.truth rel1 rv
  refine ⟨k, hk, ?_⟩
  cases k with
  | true => exact ⟨I1, F1, G, ds, w1, rel1, rs1, p2⟩
  | false => exact p2.mM rel1 rv
theorem aCZ (ha : JE S a ma) : JE S (.UnaryOp .Not a pos) (AF notM ma) := fun X E cx xo =>
 cV (pe_notT (ha X E cx xo)) fun σ H Q ⟨I, F, G, ds, w, rel, rs, p⟩ => bO (f := fun _ => notM) rel rs p fun I1 F1 H1 x w1 v e1 rel1 rs1 rv p1 => by
  obtain ⟨k, hk, p2⟩ := aY.truth p1 rel1 rv
  exact ⟨k, hk, p2.mM rel1 (by simp [aF])⟩
theorem NF (ht : JT S c ta) (ha : JE S a ma) (hb : JE S b mb) : JE S (.IfExp c a b pos) (T3 ta ma mb) := fun X E cx xo =>
 cV (pe_ifExp (ht X E cx xo) (ha X E cx xo) (hb X E cx xo)) fun σ H Q ⟨I, F, G, ds, w, rel, rs, p⟩ => qX (f := fun ds c w1 => if c = true then ma ds w1 else mb ds w1) rel rs p fun I1 F1 H1 c w1 e1 rel1 rs1 p1 => by
  cases c with
  | true => exact ⟨I1, F1, G, ds, w1, rel1, rs1, p1⟩
  | false => exact ⟨I1, F1, G, ds, w1, rel1, rs1, p1⟩
end
def aD : MA := fun _ w => .ok [] w
def aA (a : ME) (r : MA) : MA := fun σ w => (a σ w).bind fun x w1 => (r σ w1).bind fun xs w2 => .ok (x :: xs) w2
def bW (a : MA) : ME := fun σ w => (a σ w).bind fun xs w1 => if xs.length ≤ sizeLine then .ok (.tup xs) w1 else .bad
def gT (a : MA) : ME := fun σ w => (a σ w).bind fun xs w1 => if xs.length ≤ sizeLine then .ok (.lst xs) w1 else .bad
def eNew (a : MA) : ME := fun σ w => (a σ w).bind fun xs w1 => if xs.length ≤ sizeLine then .ok (.ref w1.length) (w1 ++ [.lst xs]) else .bad
theorem C1 {K : PySem.W.Frag} {I : List Addr} {F G H : Hp} {E : XK} {w : W} {o : MO} {u : HO} {Q : VK} (rel : Rel K I F G w H) (r : m3 K I F o u) (p : aY K I F G E (RV K Q) (.ok (.ref w.length) (w ++ [o]))) : ∀ q, H q = none → Q (.ref q) (upd H q u) := fun q hq => by
 have hF : F q = none := by
  cases h : F q with
  | none => rfl
  | some u => rw [rel.fz _ _ h] at hq; cases hq
 have hI : q ∉ I := fun z => by
  obtain ⟨i, hi⟩ := List.mem_iff_getElem?.mp z
  have hl : i < w.length := by rw [← rel.len]; exact (aj.mp hi).1
  obtain ⟨u, h3, _⟩ := rel.ob i q _ hi (bq hl)
  rw [h3] at hq; cases hq
 have e : Ext I F (I ++ [q]) F := ⟨List.prefix_append _ _, fun _ _ h => h⟩
 refine p (I ++ [q]) F (upd H q u) e ⟨by simp [rel.len], ?_, fun i a o' h1 h2 => ?_, fun a u' h => ?_, fun i a o' h h0 hf => ?_, fun a u' h => ?_, fun a u' h => ?_, rel.gt⟩ _ ?_
 ·rw [List.nodup_append]
  exact ⟨rel.nd, by simp, fun a ha b hb => by simp at hb; subst hb; exact fun z => hI (z ▸ ha)⟩
 ·by_cases hi : i < I.length
  ·rw [au hi] at h1
   rw [au (by rw [← rel.len]; exact hi)] at h2
   obtain ⟨u', h3, h4⟩ := rel.ob i a o' h1 h2
   exact ⟨u', by rw [upd_ne (ne_of_none h3 hq)]; exact h3, m3.ext e h4⟩
  ·have hi2 : i = I.length := by
    have := (aj.mp h1).1
    simp at this; omega
   subst hi2
   rw [bg (av _)] at h1
   simp at h1
   rw [rel.len, bg (av _)] at h2
   simp at h2
   subst h1 h2
   exact ⟨u, upd_same, m3.ext e r⟩
 ·rw [upd_ne (ne_of_none h hF)]; exact rel.fz a u' h
 ·by_cases hi : i < I.length
  ·rw [au hi] at h
   rw [au (by rw [← rel.len]; exact hi)] at h0
   exact rel.ap i a o' h h0 hf
  ·have hi2 : i = I.length := by
    have := (aj.mp h).1
    simp at this; omega
   subst hi2
   rw [bg (av _)] at h
   simp at h
   subst h; exact hF
 ·rw [upd_ne (ne_of_none (rel.gz a u' h) hq)]; exact rel.gz a u' h
 ·refine ⟨(rel.gf a u' h).1, fun z => ?_⟩
  rcases cf.mp z with z | z
  ·exact (rel.gf a u' h).2 z
  ·simp at z; subst z; rw [rel.gz a u' h] at hq; cases hq
 ·simp only [aF]
  refine ⟨q, rfl, ?_⟩
  rw [← rel.len, bg (av _)]
  simp
section
variable {S : aR} {pos : Pos} {e : Expr} {es : List Expr} {m : ME} {ma : MA}
theorem aG : JA S [] aD := fun X E cx xo => UA pa_nil fun σ H Q ⟨I, F, G, ds, w, rel, rs, p⟩ => p I F H .refl rel [] (by simp [RepL])
theorem aE (he : JE S e m) (hr : JA S es ma) (hs : ∀ env : Env, starEach (e :: es) env = (false, eval e env) :: starEach es env := by intro _; rfl) : JA S (e :: es) (aA m ma) := fun X E cx xo =>
 UA (pa_cons (he X E cx xo) (hr X E cx xo) (hs X.env)) fun σ H Q ⟨I, F, G, ds, w, rel, rs, p⟩ =>
  bO (f := fun ds x w1 => (ma ds w1).bind fun xs w2 => .ok (x :: xs) w2) rel rs p fun I1 F1 H1 x w1 v e1 rel1 rs1 rv p1 =>
   dR (f := fun _ xs w2 => .ok (x :: xs) w2) rel1 rs1 p1 fun I2 F2 H2 xs w2 vs e2 rel2 rs2 rvs p2 => p2 I2 F2 H2 .refl rel2 _ (RepL.cons (aF.ext e2 _ _ rv) rvs)
theorem jT {k : Nat} (h : JA S es ma) : JE S (.Tuple es k pos) (bW ma) := fun X E cx xo =>
 cV (pe_tup (h X E cx xo)) fun σ H Q ⟨I, F, G, ds, w, rel, rs, p⟩ =>
  dR (f := fun _ xs w1 => if xs.length ≤ sizeLine then Res.ok (D.tup xs) w1 else .bad) rel rs p fun I1 F1 H1 xs w1 vs e1 rel1 rs1 rvs p1 => by
   split at p1
   ·rename_i hl
    exact ⟨by rw [← rvs.length]; exact hl, y4 rel1 rvs p1⟩
   ·exact p1.elim
theorem dY (h : JA S es ma) : JE S (.List es pos) (gT ma) := fun X E cx xo =>
 cV (pe_lst (h X E cx xo)) fun σ H Q ⟨I, F, G, ds, w, rel, rs, p⟩ =>
  dR (f := fun _ xs w1 => if xs.length ≤ sizeLine then Res.ok (D.lst xs) w1 else .bad) rel rs p fun I1 F1 H1 xs w1 vs e1 rel1 rs1 rvs p1 => by
   split at p1
   ·rename_i hl
    exact ⟨by rw [← rvs.length]; exact hl, nA rel1 rvs p1⟩
   ·exact p1.elim
theorem aC9 (h : JA S es ma) : JE S (.List es pos) (eNew ma) := fun X E cx xo =>
 cV (pe_lst (h X E cx xo)) fun σ H Q ⟨I, F, G, ds, w, rel, rs, p⟩ =>
  dR (f := fun _ xs w1 => if xs.length ≤ sizeLine then Res.ok (D.ref w1.length) (w1 ++ [.lst xs]) else .bad) rel rs p fun I1 F1 H1 xs w1 vs e1 rel1 rs1 rvs p1 => by
   split at p1
   ·rename_i hl
    exact ⟨by rw [← rvs.length]; exact hl, C1 (o := .lst xs) rel1 ⟨vs, rfl, rvs⟩ p1⟩
   ·exact p1.elim
end
def aW : MS := fun σ w => .ok (.nx σ) w
def aH (a b : MS) : MS := fun σ w => (a σ w).bind fun f w1 => match f with
 | .nx σ1 => b σ1 w1
 | f => .ok f w1
def aZ (e : ME) : MS := fun σ w => (e σ w).bind fun d w1 => .ok (.rt d) w1
def dE (e : ME) : MS := fun σ w => (e σ w).bind fun _ w1 => .ok (.nx σ) w1
def dW (t : MT) (a b : MS) : MS := fun σ w => (t σ w).bind fun c w1 => if c = true then a σ w1 else b σ w1
abbrev MG := D → Sg → W → Res Sg
def aU (i : Nat) : MG := fun d σ w => .ok (σ.set i (some d)) w
def aT (e : ME) (g : MG) : MS := fun σ w => (e σ w).bind fun d w1 => (g d σ w1).bind fun σ2 w2 => .ok (.nx σ2) w2
def KS : MS := fun _ _ => .bad
def RSg (K : PySem.W.Frag) (Q : L2.St → Hp → Prop) : List Addr → Hp → Hp → Sg → W → Prop := fun I' F' H' s _ => ∀ s', fL K I' F' s s' → Q s' H'
def lowG (K : PySem.W.Frag) (E : XK) (g : MG) : TG := fun v σ H Q => ∃ I F G d ds w, Rel K I F G w H ∧ fL K I F ds σ ∧ aF K I F d v ∧ aY K I F G E (RSg K Q) (g d ds w)
def JG (S : aR) (t : Expr) (g : MG) : Prop := ∀ X E, Ctx S X → q8 X E → PG X t (lowG X.K E g)
theorem vI {X : Cx} {e : Expr} {t t' : TG} (h : PG X e t) (k : ∀ v σ H Q, t' v σ H Q → t v σ H Q) : PG X e t' := ⟨fun pins s σ H v u Q I r q => h.run pins s σ H v u Q I r (k v σ H Q q)⟩
section
variable {S : aR} {pos pos' : Pos} {e : Expr} {st : Stmt} {sts : List Stmt} {m : ME} {a b : MS} {g : MG} {t : MT}
theorem cP : rN S [] aW := fun X E cx xo => D5 pss_nil fun Z σ H ⟨I, F, G, ds, w, rel, rs, p⟩ => p I F H .refl rel _ rs
theorem N5 {K : PySem.W.Frag} {E : XK} {Z : Ends} {σ : L2.St} {H : Hp} (h : FU K E (aH a b) Z σ H) : FU K E a { Z with nx := FU K E b Z } σ H := by
 obtain ⟨I, F, G, ds, w, rel, rs, p⟩ := h
 refine ⟨I, F, G, ds, w, rel, rs, (aY.bind p).mono fun I1 F1 H1 f w1 _ e1 rel1 p1 => ?_⟩
 cases f with
 | nx s => exact fun s' rs' => ⟨I1, F1, G, s, w1, rel1, rs', p1⟩
 | rt d => exact fun v rv => p1 I1 F1 H1 .refl rel1 v rv
 | bk s => exact fun s' rs' => p1 I1 F1 H1 .refl rel1 s' rs'
 | ct s => exact fun s' rs' => p1 I1 F1 H1 .refl rel1 s' rs'
theorem aN (h1 : JS S st a) (h2 : rN S sts b) : rN S (st :: sts) (aH a b) := fun X E cx xo =>
 D5 (pss_cons (h1 X E cx xo) (h2 X E cx xo)) fun Z σ H h => N5 h
theorem a7 (h1 : JS S st a) : rN S [st] a := fun X E cx xo => pss_one (h1 X E cx xo)
theorem bT (he : JE S e m) : JS S (.Return (some e) pos) (aZ m) := fun X E cx xo =>
 jQ (ps_ret (he X E cx xo)) fun Z σ H ⟨I, F, G, ds, w, rel, rs, p⟩ => bO (f := fun _ d w1 => Res.ok (Fl.rt d) w1) rel rs p fun I1 F1 H1 x w1 v e1 rel1 rs1 rv p1 => p1 I1 F1 H1 .refl rel1 v rv
theorem y5 (he : JE S e m) (hs : ∀ env : Env, swapsWith e none pos.line env = pure false := by intro _; rfl) : JS S (.Expr e pos) (dE m) := fun X E cx xo =>
 jQ (ps_expr (he X E cx xo) (hs X.env)) fun Z σ H ⟨I, F, G, ds, w, rel, rs, p⟩ => bO (f := fun ds _ w1 => Res.ok (Fl.nx ds) w1) rel rs p fun I1 F1 H1 x w1 v e1 rel1 rs1 rv p1 => p1 I1 F1 H1 .refl rel1 σ rs1
theorem gC {x : Expr} {sa sb : List Stmt} (ht : JT S x t) (ha : rN S sa a) (hb : rN S sb b) : JS S (.If x sa sb pos) (dW t a b) := fun X E cx xo =>
 jQ (ps_if (ht X E cx xo) (ha X E cx xo) (hb X E cx xo)) fun Z σ H ⟨I, F, G, ds, w, rel, rs, p⟩ => qX (f := fun ds c w1 => if c = true then a ds w1 else b ds w1) rel rs p fun I1 F1 H1 c w1 e1 rel1 rs1 p1 => by
  cases c with
  | true => exact ⟨I1, F1, G, ds, w1, rel1, rs1, p1⟩
  | false => exact ⟨I1, F1, G, ds, w1, rel1, rs1, p1⟩
theorem aAe : JS S st KS := fun X E cx xo => jQ ps_never fun Z σ H ⟨I, F, G, ds, w, rel, rs, p⟩ => p.elim
def Sto (S : aR) (x : Str) : Prop := Loc S.sc x ∧ (S.fn x = true ∨ S.sc.names.lookup x = some .local)
theorem aAF {i : Nat} {x : Str} (hi : S.N[i]? = some x) (hx : Sto S x) : JG S (.Name x pos) (aU i) := fun X E cx xo =>
 vI (pg_name (i := i) (x := x) cx.nd (by rw [cx.N]; exact hi) (by rw [cx.sc]; exact hx.1) (by rw [cx.sc]; exact hx.2.imp (cx.fn x) id)) fun v σ H Q ⟨I, F, G, d, ds, w, rel, rs, rv, p⟩ => p I F H .refl rel _ (rs.set i rv)
theorem aBB {K : PySem.W.Frag} {E : XK} {Z : Ends} {σ : L2.St} {H : Hp} (h : FU K E (aT m g) Z σ H) : sP K E m σ H fun v H1 => lowG K E g v σ H1 Z.nx := by
 obtain ⟨I, F, G, ds, w, rel, rs, p⟩ := h
 exact bO (f := fun ds d w1 => (g d ds w1).bind fun σ2 w2 => Res.ok (Fl.nx σ2) w2) rel rs p fun I1 F1 H1 x w1 v e1 rel1 rs1 rv p1 =>
  ⟨I1, F1, G, x, ds, w1, rel1, rs1, rv, (aY.bind p1).mono fun I2 F2 H2 s w2 _ e2 rel2 p2 s' rs2 => p2 I2 F2 H2 .refl rel2 s' rs2⟩
theorem aDQ {i : Nat} {x : Str} (hi : S.N[i]? = some x) (hx : Sto S x) (he : JE S e m) (hs : ∀ env : Env, swapsWith e (some (.Name x pos')) pos.line env = pure false := by intro _; rfl) : JS S (.Assign [.Name x pos'] e pos) (aT m (aU i)) := fun X E cx xo =>
 jQ (ps_set (i := i) (x := x) cx.nd (by rw [cx.N]; exact hi) (by rw [cx.sc]; exact hx.1) (he X E cx xo) (hs X.env) (by rw [cx.sc]; exact hx.2.imp (cx.fn x) id)) fun Z σ H ⟨I, F, G, ds, w, rel, rs, p⟩ =>
  bO (f := fun ds d w1 => (aU i d ds w1).bind fun σ2 w2 => Res.ok (Fl.nx σ2) w2) rel rs p fun I1 F1 H1 x w1 v e1 rel1 rs1 rv p1 => p1 I1 F1 H1 .refl rel1 _ (rs1.set i rv)
theorem xP {tg : Expr} (he : JE S e m) (hg : JG S tg g) (hs : ∀ env : Env, swapsWithSole [tg] e pos.line env = pure false := by intro _; rfl) (hw : ∀ env : Env, swappedStores [tg] e env = pure none := by intro _; rfl)
  (h1 : ∀ env : Env, (assignEach [tg] env).map (·.2) = [assign tg env] := by intro _; rfl) : JS S (.Assign [tg] e pos) (aT m g) := fun X E cx xo =>
 jQ (ps_asg (he X E cx xo) (hg X E cx xo) (hs X.env) (hw X.env) (h1 X.env)) fun Z σ H h => aBB h
end
abbrev NA := List D → Sg → W → Res Sg
def bS : NA := fun ds σ w => match ds with
 | [] => .ok σ w
 | _ => .bad
def aI (g : MG) (r : NA) : NA := fun ds σ w => match ds with
 | d :: ds => (g d σ w).bind fun σ1 w1 => r ds σ1 w1
 | [] => .bad
def bY (n : Nat) (r : NA) : MG := fun d σ w => match d with
 | .tup xs => if xs.length = n then r xs σ w else .bad
 | .jL xs => if xs.length = n then r xs σ w else .bad
 | _ => .bad
def aEx (K : PySem.W.Frag) (E : XK) (g : NA) : TGs := fun vs σ H Q => ∃ I F G xs ds w, Rel K I F G w H ∧ fL K I F ds σ ∧ RepL K I F xs vs ∧ aY K I F G E (RSg K Q) (g xs ds w)
def JGs (S : aR) (ts : List Expr) (g : NA) : Prop := ∀ X E, Ctx S X → q8 X E → PGs X ts (aEx X.K E g)
theorem uA {X : Cx} {e : List Expr} {t t' : TGs} (h : PGs X e t) (k : ∀ v σ H Q, t' v σ H Q → t v σ H Q) : PGs X e t' := ⟨fun pins s σ H v u Q I r q => h.run pins s σ H v u Q I r (k v σ H Q q)⟩
section
variable {S : aR} {pos pos' : Pos} {e : Expr} {es : List Expr} {g : MG} {r : NA}
theorem vE : JGs S [] bS := fun X E cx xo => uA pgs_nil fun vs σ H Q ⟨I, F, G, xs, ds, w, rel, rs, rv, p⟩ => by
 cases xs with
 | nil =>
  simp only [RepL] at rv
  exact ⟨rv, p I F H .refl rel _ rs⟩
 | cons => exact p.elim
theorem fN (h1 : JG S e g) (h2 : JGs S es r) (hs : ∀ env : Env, (assignEach (e :: es) env).map (·.2) = assign e env :: (assignEach es env).map (·.2) := by intro _; rfl) : JGs S (e :: es) (aI g r) := fun X E cx xo =>
 uA (pgs_cons (h1 X E cx xo) (h2 X E cx xo) (hs X.env)) fun vs σ H Q ⟨I, F, G, xs, ds, w, rel, rs, rv, p⟩ => by
  cases xs with
  | nil => exact p.elim
  | cons x xs =>
   simp only [RepL] at rv
   obtain ⟨v, t, rfl, rv1, rvs⟩ := rv
   exact ⟨v, t, rfl, I, F, G, x, ds, w, rel, rs, rv1, (aY.bind p).mono fun I1 F1 H1 s w1 _ e1 rel1 p1 s' rs1 => ⟨I1, F1, G, xs, s, w1, rel1, rs1, RepL.ext e1 _ _ rvs, p1⟩⟩
theorem AG {k n : Nat} (h : JGs S es r) (hn : ∀ env : Env, (assignEach es env).length = n := by intro _; rfl) (hst : ∀ env : Env, (assignEach es env).findIdx? (·.1) = none := by intro _; rfl) : JG S (.Tuple es k pos) (bY n r) := fun X E cx xo =>
 vI (pg_tup cx.calm (h X E cx xo) (hn X.env) (hst X.env)) fun v σ H Q ⟨I, F, G, d, ds, w, rel, rs, rv, p⟩ => by
  cases d <;> first | exact p.elim | skip
  all_goals
   rename_i xs
   simp only [aF] at rv
   obtain ⟨a, vs, rfl, h1, h2⟩ := rv
   simp only [bY] at p
   split at p
   ·rename_i hl
    exact ⟨a, vs, rfl, (by first | exact .of (rel.fz _ _ h1) | exact rel.LW h1), by rw [← h2.length]; exact hl, I, F, G, xs, ds, w, rel, rs, h2, p⟩
   ·exact p.elim
end
mutual
def D.cl (n : Nat) : D → Bool
 | .tup xs => D.cls n xs
 | .lst xs => D.cls n xs
 | .qF xs => D.cls n xs
 | .jL xs => D.cls n xs
 | .GX ks xs => D.cls n ks && D.cls n xs
 | .ref i => decide (i < n)
 | .non => true
 | .bl _ => true
 | .int _ => true
 | .str _ => true
 | .ty _ => true
 | .con _ => true
def D.cls (n : Nat) : List D → Bool
 | [] => true
 | d :: ds => D.cl n d && D.cls n ds
end
def MO.cl (n : Nat) : MO → Bool
 | .lst xs => D.cls n xs
 | .dK kvs => D.cls n (kvs.map (·.2))
 | .dT kvs => D.cls n (kvs.map (·.2))
 | .dF kvs => D.cls n (kvs.map (·.2))
 | .dG kvs => D.cls n (kvs.map (·.2))
 | .ins _ fs => D.cls n (fs.map (·.2))
section
variable {K : PySem.W.Frag} {I : List Addr} {F : Hp} {n : Nat}
theorem WM {n i : Nat} {a : Addr} (h : I[i]? = some a) (hi : i < n) : (I.take n)[i]? = some a := by
 rw [List.getElem?_take_of_lt hi]; exact h
mutual
theorem aF.cut : ∀ (d : D) (v : V), aF K I F d v → d.cl n = true → aF K (I.take n) F d v
 | .non, _, h, _ => by simpa only [aF] using h
 | .bl _, _, h, _ => by simpa only [aF] using h
 | .int _, _, h, _ => by simpa only [aF] using h
 | .str _, _, h, _ => by simpa only [aF] using h
 | .ty _, _, h, _ => by simpa only [aF] using h
 | .con _, _, h, _ => by simpa only [aF] using h
 | .tup xs, v, h, c => by
  simp only [aF, D.cl] at h c ⊢
  obtain ⟨a, vs, h1, h2, h3⟩ := h
  exact ⟨a, vs, h1, h2, RepL.cut xs vs h3 c⟩
 | .lst xs, v, h, c => by
  simp only [aF, D.cl] at h c ⊢
  obtain ⟨a, vs, h1, h2, h3⟩ := h
  exact ⟨a, vs, h1, h2, RepL.cut xs vs h3 c⟩
 | .qF xs, v, h, c => by
  simp only [aF, D.cl] at h c ⊢
  obtain ⟨a, vs, h1, h2, h3⟩ := h
  exact ⟨a, vs, h1, h2, RepL.cut xs vs h3 c⟩
 | .jL xs, v, h, c => by
  simp only [aF, D.cl] at h c ⊢
  obtain ⟨a, vs, h1, h2, h3⟩ := h
  exact ⟨a, vs, h1, h2, RepL.cut xs vs h3 c⟩
 | .GX ks xs, v, h, c => by
  simp only [aF, D.cl, ar] at h c ⊢
  obtain ⟨a, kvs, h1, h2, h3, h4⟩ := h
  exact ⟨a, kvs, h1, h2, RepL.cut ks _ h3 c.1, RepL.cut xs _ h4 c.2⟩
 | .ref i, v, h, c => by
  simp only [aF, D.cl, aq] at h c ⊢
  obtain ⟨a, h1, h2⟩ := h
  exact ⟨a, h1, WM h2 c⟩
theorem RepL.cut : ∀ (ds : List D) (vs : List V), RepL K I F ds vs → D.cls n ds = true → RepL K (I.take n) F ds vs
 | [], _, h, _ => by simpa only [RepL] using h
 | d :: ds, vs, h, c => by
  simp only [RepL, D.cls, ar] at h c ⊢
  obtain ⟨v, r, h1, h2, h3⟩ := h
  exact ⟨v, r, h1, aF.cut d v h2 c.1, RepL.cut ds r h3 c.2⟩
end
theorem aS.cut {κ : Type} : ∀ (ds : List (κ × D)) (vs : List (κ × V)), aS K I F ds vs → D.cls n (ds.map (·.2)) = true → aS K (I.take n) F ds vs
 | [], _, h, _ => by simpa only [aS] using h
 | (k, d) :: ds, vs, h, c => by
  simp only [aS, List.map_cons, D.cls, ar] at h c ⊢
  obtain ⟨v, r, h1, h2, h3⟩ := h
  exact ⟨v, r, h1, aF.cut d v h2 c.1, aS.cut ds r h3 c.2⟩
theorem m3.cut {o : MO} {u : HO} (h : m3 K I F o u) (c : o.cl n = true) : m3 K (I.take n) F o u := by
 cases o with
 | lst xs => obtain ⟨vs, h1, h2⟩ := h; exact ⟨vs, h1, RepL.cut _ _ h2 c⟩
 | dK xs => obtain ⟨vs, h1, h2⟩ := h; exact ⟨vs, h1, aS.cut _ _ h2 c⟩
 | dT xs => obtain ⟨vs, h1, h2⟩ := h; exact ⟨vs, h1, aS.cut _ _ h2 c⟩
 | dF xs => obtain ⟨o, vs, h1, h2⟩ := h; exact ⟨o, vs, h1, aS.cut _ _ h2 c⟩
 | dG xs => obtain ⟨o, vs, h1, h2⟩ := h; exact ⟨o, vs, h1, aS.cut _ _ h2 c⟩
 | ins C xs => obtain ⟨dx, vs, h1, h2⟩ := h; exact ⟨dx, vs, h1, aS.cut _ _ h2 c⟩
mutual
theorem aF.cl : ∀ (d : D) (v : V), aF K I F d v → I.length ≤ n → d.cl n = true
 | .non, _, _, _ => by simp [D.cl]
 | .bl _, _, _, _ => by simp [D.cl]
 | .int _, _, _, _ => by simp [D.cl]
 | .str _, _, _, _ => by simp [D.cl]
 | .ty _, _, _, _ => by simp [D.cl]
 | .con _, _, _, _ => by simp [D.cl]
 | .tup xs, v, h, l => by
  simp only [aF, D.cl] at h ⊢
  obtain ⟨a, vs, h1, h2, h3⟩ := h
  exact RepL.cl xs vs h3 l
 | .lst xs, v, h, l => by
  simp only [aF, D.cl] at h ⊢
  obtain ⟨a, vs, h1, h2, h3⟩ := h
  exact RepL.cl xs vs h3 l
 | .qF xs, v, h, l => by
  simp only [aF, D.cl] at h ⊢
  obtain ⟨a, vs, h1, h2, h3⟩ := h
  exact RepL.cl xs vs h3 l
 | .jL xs, v, h, l => by
  simp only [aF, D.cl] at h ⊢
  obtain ⟨a, vs, h1, h2, h3⟩ := h
  exact RepL.cl xs vs h3 l
 | .GX ks xs, v, h, l => by
  simp only [aF, D.cl, ar] at h ⊢
  obtain ⟨a, kvs, h1, h2, h3, h4⟩ := h
  exact ⟨RepL.cl ks _ h3 l, RepL.cl xs _ h4 l⟩
 | .ref i, v, h, l => by
  simp only [aF, D.cl, aq] at h ⊢
  obtain ⟨a, h1, h2⟩ := h
  have := (aj.mp h2).1
  omega
theorem RepL.cl : ∀ (ds : List D) (vs : List V), RepL K I F ds vs → I.length ≤ n → D.cls n ds = true
 | [], _, _, _ => by simp [D.cls]
 | d :: ds, vs, h, l => by
  simp only [RepL, D.cls, ar] at h ⊢
  obtain ⟨v, r, h1, h2, h3⟩ := h
  exact ⟨aF.cl d v h2 l, RepL.cl ds r h3 l⟩
end
theorem aS.cl {κ : Type} : ∀ (ds : List (κ × D)) (vs : List (κ × V)), aS K I F ds vs → I.length ≤ n → D.cls n (ds.map (·.2)) = true
 | [], _, _, _ => by simp [D.cls]
 | (k, d) :: ds, vs, h, l => by
  simp only [aS, List.map_cons, D.cls, ar] at h ⊢
  obtain ⟨v, r, h1, h2, h3⟩ := h
  exact ⟨aF.cl d v h2 l, aS.cl ds r h3 l⟩
theorem m3.cl {o : MO} {u : HO} (h : m3 K I F o u) (l : I.length ≤ n) : o.cl n = true := by
 cases o with
 | lst xs => obtain ⟨vs, h1, h2⟩ := h; exact RepL.cl _ _ h2 l
 | dK xs => obtain ⟨vs, h1, h2⟩ := h; exact aS.cl _ _ h2 l
 | dT xs => obtain ⟨vs, h1, h2⟩ := h; exact aS.cl _ _ h2 l
 | dF xs => obtain ⟨o, vs, h1, h2⟩ := h; exact aS.cl _ _ h2 l
 | dG xs => obtain ⟨o, vs, h1, h2⟩ := h; exact aS.cl _ _ h2 l
 | ins C xs => obtain ⟨dx, vs, h1, h2⟩ := h; exact aS.cl _ _ h2 l
end
def aCN (w0 w : W) : Prop := w0.length ≤ w.length ∧ ∀ (i : Nat) (o : MO), w[i]? = some o → w0[i]? = some o ∨ o.cl w.length = true
def XD.cl (n : Nat) (x : XD) : Bool := match x.fs with
 | none => true
 | some fs => D.cls n (fs.map (·.2))
def Fits (w0 : W) (r r' : Res D) : Prop := match r with
 | .bad => True
 | .ok d w => ∃ g, r' = .ok d (w ++ g) ∧ (g = [] ∨ (d.cl w.length = true ∧ aCN w0 w))
 | .yE x w => ∃ g, r' = .yE x (w ++ g) ∧ (g = [] ∨ (x.cl w.length = true ∧ aCN w0 w))
theorem Fits.kM {w0 : W} {r : Res D} : Fits w0 r r := by
 cases r with
 | ok d w => exact ⟨[], by simp, .inl rfl⟩
 | yE x w => exact ⟨[], by simp, .inl rfl⟩
 | bad => trivial
theorem Fits.of_eq {w0 : W} {r r' : Res D} (h : r' = r) : Fits w0 r r' := h ▸ Fits.kM
theorem UM {K : PySem.W.Frag} {I I' : List Addr} {F F' G H H' : Hp} {w0 w g : W} (rel0 : Rel K I F G w0 H) (e : Ext I F I' F') (rel : Rel K I' F' G (w ++ g) H') (s : aCN w0 w) : Ext I F (I'.take w.length) F' ∧ Rel K (I'.take w.length) F' G w H' := by
 have hl : I'.length = w.length + g.length := by rw [rel.len, bw]
 have e2 : Ext I F (I'.take w.length) F' := ⟨by
  obtain ⟨t, rfl⟩ := e.i
  rw [List.take_append, List.take_of_length_le (by rw [rel0.len]; exact s.1)]
  exact List.prefix_append _ _, e.f⟩
 refine ⟨e2, ⟨by simp [hl], rel.nd.sublist (List.take_sublist _ _), fun i a o h1 h2 => ?_, rel.fz, fun i a o h h0 hf => rel.ap i a o (List.getElem?_take_of_lt (aj.mp h0).1 ▸ h) (by rw [au (aj.mp h0).1]; exact h0) hf, rel.gz, fun a u h => ⟨(rel.gf a u h).1, fun z => (rel.gf a u h).2 (List.mem_of_mem_take z)⟩, rel.gt⟩⟩
 have hi : i < w.length := (aj.mp h2).1
 rw [List.getElem?_take_of_lt hi] at h1
 obtain ⟨u, h3, h4⟩ := rel.ob i a o h1 (by rw [au hi]; exact h2)
 refine ⟨u, h3, ?_⟩
 rcases s.2 i o h2 with q | q
 ·refine m3.cut h4 ?_
  have hi0 : i < w0.length := (aj.mp q).1
  obtain ⟨u0, _, h6⟩ := rel0.ob i _ o (bq (by rw [rel0.len]; exact hi0)) q
  exact h6.cl (by rw [rel0.len]; exact s.1)
 ·exact m3.cut h4 q
theorem AY.cut {K : PySem.W.Frag} {I : List Addr} {F H : Hp} {x : XD} {c : Value} {d : Option Addr} {n : Nat} (h : AY K (I.take n) F H x c d) (hn : n ≤ I.length) : AY K I F H x c d := by
 have e : Ext (I.take n) F I F := ⟨List.take_prefix _ _, fun _ _ h => h⟩
 obtain ⟨h1, h2⟩ := h
 refine ⟨h1, ?_⟩
 cases hf : x.fs with
 | none => rw [hf] at h2; exact h2
 | some fs =>
  rw [hf] at h2
  obtain ⟨a, r, q1, q2, q3⟩ := h2
  exact ⟨a, r, q1, q2, aS.ext e _ _ q3⟩
theorem AY.aGm {K : PySem.W.Frag} {I : List Addr} {F H : Hp} {x : XD} {c : Value} {d : Option Addr} {n : Nat} (h : AY K I F H x c d) (hx : x.cl n = true) : AY K (I.take n) F H x c d := by
 obtain ⟨h1, h2⟩ := h
 refine ⟨h1, ?_⟩
 unfold XD.cl at hx
 cases hf : x.fs with
 | none => rw [hf] at h2; exact h2
 | some fs =>
  rw [hf] at h2 hx
  obtain ⟨a, r, q1, q2, q3⟩ := h2
  exact ⟨a, r, q1, q2, aS.cut _ _ q3 hx⟩
theorem aY.fits {K : PySem.W.Frag} {I : List Addr} {F G H : Hp} {E : XK} {Q : VK} {w0 : W} {r r' : Res D} (rel0 : Rel K I F G w0 H) (p : aY K I F G E (RV K Q) r) (f : Fits w0 r r') : aY K I F G E (RV K Q) r' := by
 cases r with
 | bad => exact p.elim
 | ok d w =>
  obtain ⟨g, rfl, hg⟩ := f
  rcases hg with rfl | ⟨hd, hs⟩
  ·rw [List.append_nil]; exact p
  ·intro I' F' H' e rel v rv
   obtain ⟨e2, rel2⟩ := UM rel0 e rel hs
   exact p _ F' H' e2 rel2 v (aF.cut d v rv hd)
 | yE x w =>
  obtain ⟨g, rfl, hg⟩ := f
  rcases hg with rfl | ⟨hd, hs⟩
  ·rw [List.append_nil]; exact p
  ·intro I' F' H' c d e rel rx
   obtain ⟨e2, rel2⟩ := UM rel0 e rel hs
   exact p _ F' H' c d e2 rel2 (AY.aGm rx hd)
abbrev MF := List D → W → Res D
def spM (K : PySem.W.Frag) (m : MF) : Sp := fun vs H Q E => ∃ I F G ds w, Rel K I F G w H ∧ RepL K I F ds vs ∧ aY K I F G E (RV K Q) (m ds w)
structure fV (P : Program) (w : World) (K : PySem.W.Frag) (mg : Str → Option Value) (base : Heap) (k : Nat) (f : Addr) (fd : FuncData) (ps : List Str) (m : MF) : Prop where
 run : ∀ (A : Around) (outer : List Env) (s : Shared) (H : Hp) (args : Args) (us : List Value) (vs : List V) (Q : VK) (E : XK), Room k A → A.guards = some [] → Env0 P w K mg base A outer s H → BindsTo s fd args (ps.zip us) → Vals vs us →
  vs.length = ps.length → spM K m vs H Q E → codeAny (model P w) A (.call (.ref f) args) (CR (L2.CX P w) outer P w H s Q E) s
theorem fV.mono {P : Program} {w : World} {K : PySem.W.Frag} {mg : Str → Option Value} {base : Heap} {j k : Nat} {f : Addr} {fd : FuncData} {ps : List Str} {m : MF} (G : fV P w K mg base j f fd ps m) (h : j ≤ k) : fV P w K mg base k f fd ps m :=
 ⟨fun A outer s H args us vs Q E hr => G.run A outer s H args us vs Q E (hr.mono h)⟩
def begin (N : List Str) (ds : List D) : Sg := ds.map some ++ List.replicate (N.length - ds.length) none
def bL (mb : MS) (N : List Str) (ds : List D) (w : W) : Res D := (mb (begin N ds) w).bind fun f w1 => match f with
 | .nx _ => .ok .non w1
 | .rt d => .ok d w1
 | _ => .bad
theorem RepL.Z8 {K : PySem.W.Frag} {I : List Addr} {F : Hp} {ds : List D} {vs : List V} (r : RepL K I F ds vs) (N : List Str) : fL K I F (begin N ds) (L2.start N vs) := by
 unfold begin L2.start
 refine ⟨by simp [r.length], fun i d h => ?_⟩
 by_cases hi : i < ds.length
 ·rw [au (by simpa using hi), bt] at h
  cases q : ds[i]? with
  | none => rw [q] at h; cases h
  | some x =>
   rw [q] at h; cases h
   obtain ⟨v, h1, h2⟩ := r.get q
   exact ⟨v, by rw [au (by simpa [← r.length] using hi), bt, h1]; rfl, h2⟩
 ·rw [bg (by simpa using hi), List.getElem?_replicate] at h
  split at h <;> cases h
abbrev aR.body (S : aR) (k : Nat) (N : List Str) (sc : Scope) : aR := { S with k := k, N := N, sc := sc, fn := fun _ => true }
theorem fV.of {S : aR} {x qual : Str} {params : Arguments} {body : List Stmt} {scope : Scope} {dvs : List V} {kws : List (Str × V)} {f : Addr} {fd : FuncData} {N ps : List Str} {k : Nat} {mb : MS} {m : MF}
  (F : FunD S.K x qual params body scope dvs kws f fd) (Sc : FnScope N ps scope) (hb : rN (S.body k N scope) body mb) (hm : ∀ ds w, ds.length = ps.length → Fits w (m ds w) (bL mb N ds w)) : fV S.P S.w S.K S.mg S.base (k + 1) f fd ps m := by
 refine ⟨fun A outer s H args us vs Q E hr hg e0 hbt r hl hsp => ?_⟩
 obtain ⟨oc, od, dV, kV, doc, pm, an, cdv, ct, osl, rfl, lk, hcd, _, _⟩ := F.ex
 have KX : S.K.In s.heap := e0.mod.kin.keeps fun b o e => (e0.bs b o e).1
 have lim : s.heap.NoLimit := e0.mod.nolimit.keeps fun b o e => (e0.bs b o e).1
 have kinds : ∀ y ∈ ps.zip us, scope.names.lookup y.1 = some .local ∨ (scope.names.lookup y.1 = some .cell ∧ ((cellsFrom (s.heap.objs.size + 1) scope.names []).lookup y.1).isSome = true) := by
  rintro ⟨n, v⟩ hy
  have hn : n ∈ ps := (List.of_mem_zip hy).1
  rcases Sc.par n hn with q | q
  ·exact Or.inl q
  ·exact Or.inr ⟨q, PySem.W.cellsFrom_some _ _ _ (.inl q)⟩
 refine codeAny_call_function hr.depth (KX _ _ lk) rfl Sc.co Sc.gen rfl (PySem.W.codeRec_of KX hcd) (hbt _ _ _ _ ?_)
 refine wpAny_newFunctionEnv_cells Sc.kind kinds fun env he s1 y => ?_
 subst he
 refine ⟨lim.keeps y.toInCall.keep, codeAny_func ?_⟩
 obtain ⟨I, F0, G, ds, w, rel, rl, p⟩ := hsp
 have J : Inv (cxOf (L2.CX S.P S.w) S.P S.w S.K S.mg S.base N qual scope f cdv A outer s H E) [] (start N vs) H s1 := inv_start Sc hr.hd e0 hl r y
 have cx : Ctx (S.body k N scope) (cxOf (L2.CX S.P S.w) S.P S.w S.K S.mg S.base N qual scope f cdv A outer s H E) := ⟨rfl, rfl, rfl, rfl, rfl, rfl, rfl, fun _ _ => rfl, rfl, hr.deeper _, hg, Sc.nd⟩
 have xo : q8 (cxOf (L2.CX S.P S.w) S.P S.w S.K S.mg S.base N qual scope f cdv A outer s H E) E := ⟨takes_of rfl rfl rfl rfl, passes_of rfl⟩
 have p' : aY S.K I F0 G E (RV S.K Q) (bL mb N ds w) := p.fits rel (hm ds w (by rw [rl.length]; exact hl))
 have go := (hb _ E cx xo).run [] s1 (start N vs) H { nx := fun _ H' => Q .non H', rt := Q } J ⟨I, F0, G, begin N ds, w, rel, rl.Z8 N, (aY.bind p').mono fun I1 F1 H1 fl w1 _ e1 rel1 p1 => ?_⟩
 ·refine wpAny_mono go (fun fl s' hs => ?_) fun e s' hs => hs
  cases fl with
  | ret u =>
   obtain ⟨v, σ', H', J', rv, q⟩ := hs
   exact ⟨v, H', J'.os, J'.bare, J'.base, J'.hok, rv, q⟩
  | next =>
   obtain ⟨σ', H', J', q⟩ := hs
   exact ⟨V.non, H', J'.os, J'.bare, J'.base, J'.hok, rfl, q⟩
  | brk =>
   obtain ⟨_, _, _, q⟩ := hs
   exact q.elim
  | cont =>
   obtain ⟨_, _, _, q⟩ := hs
   exact q.elim
 ·cases fl with
  | nx z => exact fun s' _ => p1.mM rel1 (by simp [aF])
  | rt d => exact fun v rv => p1.mM rel1 rv
  | bk z => exact p1.elim
  | ct z => exact p1.elim
structure cO (K : PySem.W.Frag) (fd : FuncData) (ps : List Str) (n : Nat) (ks : List Str) (gd : List D → List D → List D) : Prop where
 ex : ∃ (g : List Value → List Value → List Value) (gV : List V → List V → List V), KBn K fd ps n ks g gV ∧
  ∀ I F xs vs zs us, RepL K I F xs vs → RepL K I F zs us → RepL K I F (gd xs zs) (gV vs us)
 len : ∀ xs zs, xs.length = n → zs.length = ks.length → (gd xs zs).length = ps.length
def aM (m : MF) (n : Nat) (gd : List D → List D → List D) (ma : MA) : ME := fun σ w => (ma σ w).bind fun xs w1 => if xs.length = n then m (gd xs []) w1 else .bad
def SA (m : MF) (n j : Nat) (gd : List D → List D → List D) (ma mk : MA) : ME := fun σ w => (ma σ w).bind fun xs w1 => (mk σ w1).bind fun zs w2 => if xs.length = n ∧ zs.length = j then m (gd xs zs) w2 else .bad
def JK (S : aR) (kws : List Keyword) (m : MA) : Prop := ∀ X E, Ctx S X → q8 X E → PK X kws (aAH X.K E m)
theorem YV {X : Cx} {pins : List (Addr × Obj)} {σ : L2.St} {H : Hp} {s : Shared} {Q : VK} {E : XK} {k : Nat} {f : Addr} {fd : FuncData} {ps ks : List Str} {m : MF} {n : Nat} {gd : List D → List D → List D} {I : List Addr} {F G : Hp} {xs zs : List D} {w : W} {us ws : List Value} {vs ys : List V}
  (xo : q8 X E) (Gf : fV X.prog X.w X.K X.mg X.base k f fd ps m) (B : cO X.K fd ps n ks gd) (hr : Room k X.A) (hg : X.A.guards = some []) (J : Inv X pins σ H s) (rel : Rel X.K I F G w H) (rx : RepL X.K I F xs vs) (rz : RepL X.K I F zs ys)
  (r : Vals vs us) (q : Vals ys ws) (h1 : xs.length = n) (h2 : zs.length = ks.length) (p : aY X.K I F G E (RV X.K Q) (m (gd xs zs) w)) : wpAny (model X.prog X.w) X.A (call (.ref f) us (ks.zip ws)) (EP X pins σ Q) X.xe s := by
 obtain ⟨g, gV, kb, rep⟩ := B.ex
 have r2 := kb.rel r q
 have r3 := rep I F xs vs zs ys rx rz
 have hl : (gV vs ys).length = ps.length := by rw [← r3.length]; exact B.len xs zs h1 h2
 refine wpAny_call (codeAny_mono (Gf.run X.A X.stack s H ⟨us, ks.zip ws⟩ (g us ws) (gV vs ys) Q E hr hg J.env0 (kb.to s us ws J.kIn (by rw [← r.length, ← rx.length]; exact h1) (by rw [← q.length, ← rz.length]; exact h2)) r2 hl ⟨I, F, G, _, w, rel, r3, p⟩) fun fl s' hq => ?_)
 cases fl with
 | error e => exact passes_call xo.tk (fun _ _ _ _ h => h) pins σ H s e s' J hq
 | ok fl =>
  cases fl with
  | ret u => exact J.after hq
  | next => exact hq.elim
  | brk => exact hq.elim
  | cont => exact hq.elim
section
variable {S : aR} {k n : Nat} {f : Addr} {fd : FuncData} {ps ks : List Str} {m : MF} {gd : List D → List D → List D} {x : Str} {p pos kpos : Pos} {e : Expr} {es : List Expr} {kws : List Keyword} {ma mk : MA} {me : ME} {nm : Option Str}
theorem ZD : JK S [] aD := fun X E cx xo => ⟨fun pos pins s σ H Q J ⟨I, F, G, ds, w, rel, rs, p⟩ => pk_nil.run pos pins s σ H Q J (p I F H .refl rel [] (by simp [RepL]))⟩
theorem fF (he : JE S e me) (hr : JK S kws mk) : JK S (⟨nm, e, kpos⟩ :: kws) (aA me mk) := fun X E cx xo =>
 ⟨fun pos pins s σ H Q J ⟨I, F, G, ds, w, rel, rs, p⟩ => (pk_cons (he X E cx xo) (hr X E cx xo)).run pos pins s σ H Q J
  (bO (f := fun ds x w1 => (mk ds w1).bind fun xs w2 => Res.ok (x :: xs) w2) rel rs p fun I1 F1 H1 x w1 v e1 rel1 rs1 rv p1 =>
   dR (f := fun _ xs w2 => Res.ok (x :: xs) w2) rel1 rs1 p1 fun I2 F2 H2 xs w2 vs e2 rel2 rs2 rvs p2 => p2 I2 F2 H2 .refl rel2 _ (RepL.cons (aF.ext e2 _ _ rv) rvs))⟩
theorem bF (hk : k ≤ S.k) (Gf : fV S.P S.w S.K S.mg S.base k f fd ps m) (B : cO S.K fd ps n [] gd) (hg : S.sc.names.lookup x = some .globalImplicit) (hm : S.mg x = some (.ref f)) (kp : PySem.W.keepIn S.K (.ref f) = true) (ha : JA S (e :: es) ma)
  (hdb : (x == ("__debug__" : Str)) = false := by decide) (he : ∀ env : Env, starEach (e :: es) env = (false, eval e env) :: starEach es env := by intro _; rfl) (hpl : ∀ env : Env, (backTo pos (starEach es env)).any (·.1) = false := by intro _; rfl) :
  JE S (.Call (.Name x p) (e :: es) [] pos) (aM m n gd ma) := fun X E cx xo => by
 refine ⟨fun pins s σ H Q J ⟨I, F, G, ds, w, rel, rs, p⟩ => ?_⟩
 refine wpAny_Call_Name_kw (ld_glob J (by show X.env.scope.names.lookup x = _; rw [cx.sc]; exact hg) (by rw [cx.mg]; exact hm) ?_ hdb)
 refine PySem.W.callWith_K (h₀ := X.base) J.ok.mod.kin (by rw [cx.K]; exact kp) (thn ((ha X E cx xo).run pos pins s σ H _ J (dR (f := fun _ xs w1 => if xs.length = n then m (gd xs []) w1 else .bad) (Q := fun vs H1 => ∃ I1 F1 xs w1, Rel X.K I1 F1 G w1 H1 ∧ RepL X.K I1 F1 xs vs ∧ xs.length = n ∧ aY X.K I1 F1 G E (RV X.K Q) (m (gd xs []) w1)) rel rs p fun I1 F1 H1 xs w1 vs e1 rel1 rs1 rvs p1 => ?_)) fun us s1 hq => ?_) (he X.env) (hpl X.env)
 ·split at p1
  ·rename_i hl
   exact ⟨I1, F1, xs, w1, rel1, rvs, hl, p1⟩
  ·exact p1.elim
 ·obtain ⟨vs, H1, J1, r, I1, F1, xs, w1, rel1, rvs, hl, p1⟩ := hq
  refine ⟨J1.kIn, ?_⟩
  have Gf' : fV X.prog X.w X.K X.mg X.base k f fd ps m := by rw [cx.P, cx.w, cx.K, cx.mg, cx.base]; exact Gf
  have B' : cO X.K fd ps n [] gd := by rw [cx.K]; exact B
  exact YV (ks := []) (ws := []) (zs := []) (ys := []) xo Gf' B' (cx.room.mono hk) cx.WC J1 rel1 rvs (by simp [RepL]) r .nil hl rfl p1
end
theorem bV {K : PySem.W.Frag} {x qual : Str} {params : Arguments} {body : List Stmt} {scope : Scope} {kws : List (Str × V)} {f : Addr} {fd : FuncData} {ps : List Str} (F : FunD K x qual params body scope [] kws f fd)
  (h : ∀ (kV doc pm : Value) (an : Option Addr) (cdv ct : Value) (us : List Value), us.length = ps.length → bindArgs (PySem.W.fnOf x qual params body scope .none kV doc pm an cdv ct) ⟨us, []⟩ = pure (ps.zip us)) : cO K fd ps ps.length [] fun xs _ => xs := by
 refine ⟨⟨fun us _ => us, fun vs _ => vs, ⟨fun s us ws KX h1 h2 => ?_, fun r _ => r⟩, fun _ _ _ _ _ _ r _ => r⟩, fun xs zs h1 _ => h1⟩
 have e : ws = [] := List.eq_nil_of_length_eq_zero (by simpa using h2)
 subst e
 exact F.bindsA h s us h1
structure mG where
 xs : List D
 okp : W → Prop
def mG.ok (it : mG) (w : W) : Prop := it.okp w
def always : W → Prop := fun _ => True
def holds (i : Nat) (o : MO) : W → Prop := fun w => w[i]? = some o
def AZ (K : PySem.W.Frag) (I : List Addr) (F : Hp) (J : It) (it : mG) : Prop :=
 ∀ I' F' G w H j, Ext I F I' F' → Rel K I' F' G w H → it.ok w →
  (∀ x, it.xs[j]? = some x → J.go j H ∧ ∀ v H', J.yld j H v H' → ∃ F2, Ext I' F' I' F2 ∧ Rel K I' F2 G w H' ∧ aF K I' F2 x v) ∧ (it.xs.length = j → J.stop j H)
abbrev MI := Sg → W → Res mG
def RI (K : PySem.W.Frag) (R : It → Hp → Prop) : List Addr → Hp → Hp → mG → W → Prop := fun I' F' H' it w' => it.ok w' → ∀ J, AZ K I' F' J it → R J H'
def aBZ (K : PySem.W.Frag) (E : XK) (m : MI) : TI := fun σ H R => ∃ I F G ds w, Rel K I F G w H ∧ fL K I F ds σ ∧ aY K I F G E (RI K R) (m ds w)
def JI (S : aR) (tg iter : Expr) (m : MI) : Prop := ∀ X E, Ctx S X → q8 X E → PI X tg iter (aBZ X.K E m)
theorem rL {X : Cx} {tg e : Expr} {t t' : TI} (h : PI X tg e t) (k : ∀ σ H R, t' σ H R → t σ H R) : PI X tg e t' := ⟨fun pins s σ H R I q => h.run pins s σ H R I (k σ H R q)⟩
def aEu (K : PySem.W.Frag) (tl : TE) : TI := fun σ H R => tl σ H fun x H1 => ∃ a, x = .ref a ∧ (((∃ xs, SqL K H1 a xs) ∧ R (Itl K a) H1) ∨ ((∃ xs, SqT K H1 a xs) ∧ R (Itt K a) H1))
theorem aBW {X : Cx} {tg l : Expr} {tl : TE} (hl : PE X l tl) : PI X tg l (aEu X.K tl) := by
 constructor
 intro pins s σ H R J h
 apply thn (hl.run pins s σ H _ J h)
 rintro v s1 ⟨x, H1, J1, r1, a, ex, q⟩
 subst ex
 cases r1
 have fp : ∀ b ∈ [s1.heap.objs.size], FpOk X pins H1 b := fun b hb => by
  rw [cc.mp hb]
  exact J1.fpOk (av _) (J1.hok.fresh (av _))
 rcases q with ⟨⟨xs, hq⟩, q⟩ | ⟨⟨xs, hq⟩, q⟩
 ·obtain ⟨its, rv, p, hz⟩ := J1.list hq
  apply wpAny_pyIter_list p.isList
  exact ⟨s1.heap.objs.size, [s1.heap.objs.size], _, _, H1, rfl, J1.kept (t' := s1.toks) fun b o e => Heap.get?_push_of_some _ e, turn_list a _, ⟨_, Heap.get?_push_size _ rfl, rfl, rfl⟩, fp, q⟩
 ·obtain ⟨its, rv, p, hz⟩ := J1.tuple hq
  apply wpAny_pyIter_tuple (show s1.heap.IsTuple a its.toArray from p)
  exact ⟨s1.heap.objs.size, [s1.heap.objs.size], _, _, H1, rfl, J1.kept (t' := s1.toks) fun b o e => Heap.get?_push_of_some _ e, turn_tuple a _, ⟨_, Heap.get?_push_size _ rfl, rfl, rfl⟩, fp, q⟩
def iterM (d : D) (w : W) : Res mG := match d with
 | .tup xs => .ok ⟨xs, always⟩ w
 | .jL xs => .ok ⟨xs, always⟩ w
 | .lst xs => .ok ⟨xs, always⟩ w
 | .qF xs => .ok ⟨xs, always⟩ w
 | .ref i => (match w[i]? with
  | some (.lst xs) => .ok ⟨xs, holds i (.lst xs)⟩ w
  | _ => .bad)
 | _ => .bad
def eD (m : ME) : MI := fun σ w => (m σ w).bind iterM
section
variable {K : PySem.W.Frag} {I : List Addr} {F : Hp} {a : Addr} {it : mG}
theorem Q7 (h : ∀ I' F' G w H, Ext I F I' F' → Rel K I' F' G w H → it.ok w → ∃ vs, SqL K H a vs ∧ RepL K I' F' it.xs vs) : AZ K I F (Itl K a) it := fun I' F' G w H j e rel ok => by
 obtain ⟨vs, hq, r⟩ := h I' F' G w H e rel ok
 refine ⟨fun x hx => ?_, fun hl => ⟨vs, hq, by rw [← r.length, hl]; exact av _⟩⟩
 obtain ⟨v, hv, rv⟩ := r.get hx
 refine ⟨⟨vs, v, hq, hv⟩, fun u H' y => ?_⟩
 obtain ⟨rfl, y⟩ := y
 have := y vs hq
 rw [hv] at this; cases this
 exact ⟨F', .refl, rel, rv⟩
theorem WK (h : ∀ I' F' G w H, Ext I F I' F' → Rel K I' F' G w H → it.ok w → ∃ vs, SqT K H a vs ∧ RepL K I' F' it.xs vs) : AZ K I F (Itt K a) it := fun I' F' G w H j e rel ok => by
 obtain ⟨vs, hq, r⟩ := h I' F' G w H e rel ok
 refine ⟨fun x hx => ?_, fun hl => ⟨vs, hq, by rw [← r.length, hl]; exact av _⟩⟩
 obtain ⟨v, hv, rv⟩ := r.get hx
 refine ⟨⟨vs, v, hq, hv⟩, fun u H' y => ?_⟩
 obtain ⟨rfl, y⟩ := y
 have := y vs hq
 rw [hv] at this; cases this
 exact ⟨F', .refl, rel, rv⟩
theorem aDt {lo : Int} {n : Nat} (hx : it.xs = (List.range n).map fun k : Nat => D.int (lo + (k : Int))) : AZ K I F (Itr lo n) it := fun I' F' G w H j e rel ok => by
 refine ⟨fun x h => ?_, fun hl => ?_⟩
 ·rw [hx, bt] at h
  by_cases hj : j < n
  ·rw [List.getElem?_range hj] at h
   cases h
   refine ⟨hj, fun v H' y => ?_⟩
   obtain ⟨rfl, rfl⟩ := y
   exact ⟨F', .refl, rel, by simp [aF]⟩
  ·rw [List.getElem?_eq_none (by simpa using hj)] at h; cases h
 ·rw [hx] at hl
  simp at hl
  show n ≤ j
  omega
end
section
variable {S : aR} {pos p : Pos} {tg l e e2 : Expr} {m : ME} {ma : MA} {x : Str}
theorem iE (hl : JE S l m) : JI S tg l (eD m) := fun X E cx xo =>
 rL (aBW (hl X E cx xo)) fun σ H R ⟨I, F, G, ds, w, rel, rs, p⟩ => bO (f := fun _ => iterM) rel rs p fun I1 F1 H1 d w1 v e1 rel1 rs1 rv p1 => by
  cases d <;> first | exact p1.elim | skip
  case tup xs =>
   simp only [aF] at rv
   obtain ⟨a, vs, rfl, h1, h2⟩ := rv
   exact ⟨a, rfl, .inr ⟨⟨vs, .of (rel1.fz _ _ h1)⟩, p1 I1 F1 H1 .refl rel1 trivial _ (WK fun I' F' G w H e rel ok => ⟨vs, .of (rel.fz _ _ (e.f _ _ h1)), RepL.ext e _ _ h2⟩)⟩⟩
  case jL xs =>
   simp only [aF] at rv
   obtain ⟨a, vs, rfl, h1, h2⟩ := rv
   exact ⟨a, rfl, .inr ⟨⟨vs, rel1.LW h1⟩, p1 I1 F1 H1 .refl rel1 trivial _ (WK fun I' F' G w H e rel ok => ⟨vs, rel.LW (C8 e h1), RepL.ext e _ _ h2⟩)⟩⟩
  case lst xs =>
   simp only [aF] at rv
   obtain ⟨a, vs, rfl, h1, h2⟩ := rv
   exact ⟨a, rfl, .inl ⟨⟨vs, .of (rel1.fz _ _ h1)⟩, p1 I1 F1 H1 .refl rel1 trivial _ (Q7 fun I' F' G w H e rel ok => ⟨vs, .of (rel.fz _ _ (e.f _ _ h1)), RepL.ext e _ _ h2⟩)⟩⟩
  case qF xs =>
   simp only [aF] at rv
   obtain ⟨a, vs, rfl, h1, h2⟩ := rv
   exact ⟨a, rfl, .inl ⟨⟨vs, rel1.U5 h1⟩, p1 I1 F1 H1 .refl rel1 trivial _ (Q7 fun I' F' G w H e rel ok => ⟨vs, rel.U5 (UK e h1), RepL.ext e _ _ h2⟩)⟩⟩
  case ref i =>
   simp only [aF] at rv
   obtain ⟨a, rfl, h1⟩ := rv
   simp only [iterM] at p1
   split at p1
   ·rename_i xs hw
    obtain ⟨u, hu, vs, rfl, h2⟩ := rel1.ob i a _ h1 hw
    refine ⟨a, rfl, .inl ⟨⟨vs, .of hu⟩, p1 I1 F1 H1 .refl rel1 hw _ (Q7 fun I' F' G w H e rel ok => ?_)⟩⟩
    obtain ⟨u', hu', vs', rfl, h2'⟩ := rel.ob i a _ (e.get h1) ok
    exact ⟨vs', .of hu', h2'⟩
   ·exact p1.elim
def pX (lo : Int) (n : Nat) : mG := ⟨(List.range n).map fun k : Nat => D.int (lo + (k : Int)), always⟩
def mN (ds : List D) (w : W) : Res mG := match ds with
 | [.int n] => if -(2 ^ 62) ≤ n ∧ n < 2 ^ 62 then .ok (pX 0 n.toNat) w else .bad
 | _ => .bad
def eY (f : List D → W → Res mG) (ma : MA) : MI := fun σ w => (ma σ w).bind f
theorem q7 (hg : S.sc.names.lookup ("range" : Str) = some .globalImplicit) (hm : S.mg "range" = none) (ha : JA S [e] ma) (hs : ∀ env : Env, starEach [e] env = [(false, eval e env)] := by intro _; rfl) : JI S tg (.Call (.Name "range" p) [e] [] pos) (eY mN ma) := fun X E cx xo =>
 rL (pi_range1 (by show X.env.scope.names.lookup _ = _; rw [cx.sc]; exact hg) (by rw [cx.mg]; exact hm) (ha X E cx xo) (hs X.env)) fun σ H R ⟨I, F, G, ds, w, rel, rs, p⟩ => dR (f := fun _ => mN) rel rs p fun I1 F1 H1 xs w1 vs e1 rel1 rs1 rv p1 => by
  unfold mN at p1
  split at p1
  ·rename_i n
   split at p1
   ·rename_i hn
    simp only [RepL, aF] at rv
    obtain ⟨v, r, rfl, rfl, rfl⟩ := rv
    exact ⟨n, rfl, hn.1, hn.2, p1 I1 F1 H1 .refl rel1 trivial _ (aDt rfl)⟩
   ·exact p1.elim
  ·exact p1.elim
end
open Classical in
def forL (it : mG) (g : MG) (body : MS) : List D → Sg → W → Res Fl
 | [], σ, w => if it.ok w then .ok (.nx σ) w else .bad
 | x :: xs, σ, w => if it.ok w then (g x σ w).bind fun σ1 w1 => (body σ1 w1).bind fun f w2 => match f with
   | .nx s => forL it g body xs s w2
   | .ct s => forL it g body xs s w2
   | .bk s => .ok (.nx s) w2
   | .rt d => .ok (.rt d) w2
  else .bad
def gM (m : MI) (g : MG) (body : MS) : MS := fun σ w => (m σ w).bind fun it w1 => forL it g body it.xs σ w1
section
variable {S : aR} {pos : Pos} {tg iter : Expr} {body : List Stmt} {m : MI} {g : MG} {b : MS}
theorem LN (hi : JI S tg iter m) (hg : JG S tg g) (hb : rN S body b) (hs : ∀ (env : Env) x, foldedSetIterable iter env x = pure x := by intro _ _; rfl) : JS S (.For tg iter body [] pos) (gM m g b) := fun X E cx xo =>
 jQ (ps_for xo.own cx.calm (hi X E cx xo) (hg X E cx xo) (hb X E cx xo) (hs X.env)) fun Z σ H ⟨I, F, G, ds, w, rel, rs, p⟩ => by
  refine ⟨I, F, G, ds, w, rel, rs, (aY.bind p).mono fun I1 F1 H1 it w1 _ e1 rel1 p1 hok J hJ => ?_⟩
  refine ⟨fun i n σ' H' => n = it.xs.length - i ∧ i ≤ it.xs.length ∧ ∃ I' F' ds' w', Ext I1 F1 I' F' ∧ Rel X.K I' F' G w' H' ∧ fL X.K I' F' ds' σ' ∧ aY X.K I' F' G E (RFl X.K Z) (forL it g b (it.xs.drop i) ds' w'),
   ⟨it.xs.length, by simp, Nat.zero_le _, I1, F1, ds, w1, .refl, rel1, rs.ext e1, p1⟩, ?_⟩
  rintro i n σ' H' ⟨rfl, hi, I', F', ds', w', e', rel', rs', p'⟩
  by_cases hlt : i < it.xs.length
  ·rw [List.drop_eq_getElem_cons hlt] at p'
   unfold forL at p'
   split at p'
   ·rename_i hw
    obtain ⟨h1, _⟩ := hJ I' F' G w' H' i e' rel' hw
    obtain ⟨hgo, hy⟩ := h1 _ (bq hlt)
    refine .inr ⟨hgo, fun σ2 H2 => ∃ I2 F2 ds2 w2, Ext I1 F1 I2 F2 ∧ Rel X.K I2 F2 G w2 H2 ∧ fL X.K I2 F2 ds2 σ2 ∧ aY X.K I2 F2 G E (RFl X.K Z) (forL it g b (it.xs.drop (i + 1)) ds2 w2), fun σ2 H2 q => ⟨it.xs.length - (i + 1), by omega, rfl, hlt, q⟩, fun v H2 y => ?_⟩
    obtain ⟨F2, e2, rel2, rv⟩ := hy v H2 y
    refine ⟨I', F2, G, _, ds', w', rel2, rs'.ext e2, rv, (aY.bind (p'.ext e2)).mono fun I3 F3 H3 s3 w3 _ e3 rel3 p3 σ3 rs3 => ?_⟩
    refine ⟨I3, F3, G, s3, w3, rel3, rs3, (aY.bind p3).mono fun I4 F4 H4 f w4 _ e4 rel4 p4 => ?_⟩
    have ee : Ext I1 F1 I4 F4 := ((e'.trans e2).trans e3).trans e4
    cases f with
    | nx s => exact fun s' rs4 => ⟨I4, F4, s, w4, ee, rel4, rs4, p4⟩
    | ct s => exact fun s' rs4 => ⟨I4, F4, s, w4, ee, rel4, rs4, p4⟩
    | bk s => exact fun s' rs4 => p4 I4 F4 H4 .refl rel4 s' rs4
    | rt d => exact fun v rv => p4 I4 F4 H4 .refl rel4 v rv
   ·exact p'.elim
  ·have hl : i = it.xs.length := by omega
   subst hl
   rw [List.drop_length] at p'
   unfold forL at p'
   split at p'
   ·rename_i hw
    exact .inl ⟨(hJ I' F' G w' H' _ e' rel' hw).2 rfl, p' I' F' H' .refl rel' σ' rs'⟩
   ·exact p'.elim
end
def Res.L0 {α : Type} (r : Res α) : Res α := match r with
 | .yE _ _ => .bad
 | r => r
@[simp] theorem Res.aFQ {α : Type} (a : α) (w : W) : (Res.ok a w).L0 = .ok a w := rfl
@[simp] theorem Res.aFC {α : Type} (x : XD) (w : W) : (Res.yE x w : Res α).L0 = .bad := rfl
@[simp] theorem Res.aFJ {α : Type} : (Res.bad : Res α).L0 = .bad := rfl
abbrev E0 : XK := fun _ _ _ => False
theorem aY.oZ {α β : Type} {K : PySem.W.Frag} {I : List Addr} {F G : Hp} {E : XK} {r : Res α} {f : α → W → Res β} {R2 : List Addr → Hp → Hp → β → W → Prop} (h : aY K I F G E R2 (r.L0.bind f)) :
  aY K I F G E0 (fun I' F' _ a w => aY K I' F' G E R2 (f a w)) r := by
 cases r with
 | ok a w => exact fun I' F' H' e' q => aY.ext (K := K) (R := R2) h e'
 | yE x w => exact h.elim
 | bad => exact h
theorem Rel.keep {K : PySem.W.Frag} {I : List Addr} {F G H : Hp} {w : W} (rel : Rel K I F G w H) {q : Addr} {u : HO} (hq : H q = none) (hu : ∀ xs, u ≠ .tup xs := by intro _ h; cases h) : Rel K I F (upd G q u) w (upd H q u) := by
 have hI : q ∉ I := fun z => by
  obtain ⟨i, hi⟩ := List.mem_iff_getElem?.mp z
  have hl : i < w.length := by rw [← rel.len]; exact (aj.mp hi).1
  obtain ⟨u, h3, _⟩ := rel.ob i q _ hi (bq hl)
  rw [h3] at hq; cases hq
 have hF : F q = none := by
  cases h : F q with
  | none => rfl
  | some u => rw [rel.fz _ _ h] at hq; cases hq
 refine ⟨rel.len, rel.nd, fun i a o h1 h2 => ?_, fun a u' h => ?_, rel.ap, fun a u' h => ?_, fun a u' h => ?_, fun a xs h => ?_⟩
 ·obtain ⟨u', h3, h4⟩ := rel.ob i a o h1 h2
  exact ⟨u', by rw [upd_ne (ne_of_none h3 hq)]; exact h3, h4⟩
 ·rw [upd_ne (ne_of_none h hF)]; exact rel.fz a u' h
 ·by_cases ha : a = q
  ·subst ha; rw [upd_same] at h ⊢; exact h
  ·rw [upd_ne ha] at h ⊢; exact rel.gz a u' h
 ·by_cases ha : a = q
  ·subst ha; exact ⟨hF, hI⟩
  ·rw [upd_ne ha] at h; exact rel.gf a u' h
 ·by_cases ha : a = q
  ·subst ha; rw [upd_same] at h; exact hu xs (Option.some.inj h)
  ·rw [upd_ne ha] at h; exact rel.gt a xs h
theorem Rel.SW {K : PySem.W.Frag} {I : List Addr} {F G H : Hp} {w : W} {q : Addr} {u u' : HO} (rel : Rel K I F (upd G q u) w H) (hu : ∀ xs, u' ≠ .tup xs := by intro _ h; cases h) : Rel K I F (upd G q u') w (upd H q u') := by
 obtain ⟨hF, hI⟩ := rel.gf q u upd_same
 refine ⟨rel.len, rel.nd, fun i a o h1 h2 => ?_, fun a v h => ?_, rel.ap, fun a v h => ?_, fun a v h => ?_, fun a xs h => ?_⟩
 ·obtain ⟨v, h3, h4⟩ := rel.ob i a o h1 h2
  have ha : a ≠ q := fun z => hI (by rw [← z]; exact bu h1)
  exact ⟨v, by rw [upd_ne ha]; exact h3, h4⟩
 ·rw [upd_ne (ne_of_none h hF)]; exact rel.fz a v h
 ·by_cases ha : a = q
  ·subst ha; rw [upd_same] at h ⊢; exact h
  ·rw [upd_ne ha] at h ⊢; exact rel.gz a v (by rw [upd_ne ha]; exact h)
 ·by_cases ha : a = q
  ·subst ha; exact ⟨hF, hI⟩
  ·rw [upd_ne ha] at h; exact rel.gf a v (by rw [upd_ne ha]; exact h)
 ·by_cases ha : a = q
  ·subst ha; rw [upd_same] at h; exact hu xs (Option.some.inj h)
  ·rw [upd_ne ha] at h; exact rel.gt a xs (by rw [upd_ne ha]; exact h)
theorem Rel.aEQ {K : PySem.W.Frag} {I : List Addr} {F G H : Hp} {w : W} {q : Addr} {u : HO} (rel : Rel K I F (upd G q u) w H) (hG : G q = none) : Ext I F I (upd F q u) ∧ Rel K I (upd F q u) G w H := by
 obtain ⟨hF, hI⟩ := rel.gf q u upd_same
 have e : Ext I F I (upd F q u) := ⟨List.prefix_refl _, fun a v h => by rw [upd_ne (ne_of_none h hF)]; exact h⟩
 refine ⟨e, rel.len, rel.nd, fun i a o h1 h2 => ?_, fun a v h => ?_, fun i a o h h0 hf => ?_, fun a v h => ?_, fun a v h => ?_, fun a xs h => rel.gt a xs (by rw [upd_ne (ne_of_none h hG)]; exact h)⟩
 ·obtain ⟨v, h3, h4⟩ := rel.ob i a o h1 h2
  exact ⟨v, h3, m3.ext e h4⟩
 ·by_cases ha : a = q
  ·subst ha; rw [upd_same] at h; cases h; exact rel.gz a u upd_same
  ·rw [upd_ne ha] at h; exact rel.fz a v h
 ·have ha : a ≠ q := fun z => hI (by rw [← z]; exact bu h)
  rw [upd_ne ha]; exact rel.ap i a o h h0 hf
 ·have ha : a ≠ q := ne_of_none h hG
  exact rel.gz a v (by rw [upd_ne ha]; exact h)
 ·have ha : a ≠ q := ne_of_none h hG
  rw [upd_ne ha]
  exact rel.gf a v (by rw [upd_ne ha]; exact h)
theorem Rel.owned {K : PySem.W.Frag} {I : List Addr} {F G H : Hp} {w : W} {q : Addr} {u : HO} {o : MO} (rel : Rel K I F (upd G q u) w H) (hG : G q = none) (r : m3 K I F o u) : Ext I F (I ++ [q]) F ∧ Rel K (I ++ [q]) F G (w ++ [o]) H := by
 obtain ⟨hF, hI⟩ := rel.gf q u upd_same
 have e : Ext I F (I ++ [q]) F := ⟨List.prefix_append _ _, fun _ _ h => h⟩
 refine ⟨e, by simp [rel.len], ?_, fun i a o' h1 h2 => ?_, rel.fz, fun i a o' h h0 hf => ?_, fun a v h => ?_, fun a v h => ?_, fun a xs h => rel.gt a xs (by rw [upd_ne (ne_of_none h hG)]; exact h)⟩
 ·rw [List.nodup_append]
  exact ⟨rel.nd, by simp, fun a ha b hb => by simp at hb; subst hb; exact fun z => hI (z ▸ ha)⟩
 ·by_cases hi : i < I.length
  ·rw [au hi] at h1
   rw [au (by rw [← rel.len]; exact hi)] at h2
   obtain ⟨v, h3, h4⟩ := rel.ob i a o' h1 h2
   exact ⟨v, h3, m3.ext e h4⟩
  ·have hi2 : i = I.length := by
    have := (aj.mp h1).1
    simp at this; omega
   subst hi2
   rw [bg (av _)] at h1
   simp at h1
   rw [rel.len, bg (av _)] at h2
   simp at h2
   subst h1 h2
   exact ⟨u, rel.gz _ _ upd_same, m3.ext e r⟩
 ·by_cases hi : i < I.length
  ·rw [au hi] at h
   rw [au (by rw [← rel.len]; exact hi)] at h0
   exact rel.ap i a o' h h0 hf
  ·have hi2 : i = I.length := by
    have := (aj.mp h).1
    simp at this; omega
   subst hi2
   rw [bg (av _)] at h
   simp at h
   subst h; exact hF
 ·have ha : a ≠ q := ne_of_none h hG
  exact rel.gz a v (by rw [upd_ne ha]; exact h)
 ·have ha : a ≠ q := ne_of_none h hG
  have := rel.gf a v (by rw [upd_ne ha]; exact h)
  refine ⟨this.1, fun z => ?_⟩
  rcases cf.mp z with z | z
  ·exact this.2 z
  ·simp at z; exact ha z
def dP (σ : Sg) : List Nat → Sg
 | [] => σ
 | v :: vs => (dP σ vs).set v none
theorem fL.wipe {K : PySem.W.Frag} {I : List Addr} {F : Hp} {ds : Sg} {s : L2.St} (h : fL K I F ds s) : ∀ vs : List Nat, fL K I F (dP ds vs) (L2.wipe s vs)
 | [] => h
 | v :: vs => (h.wipe vs).unset v none
theorem DJ {s : L2.St} {i : Nat} {x : Option V} : ∀ {vs : List Nat}, i ∈ vs → L2.wipe (s.set i x) vs = L2.wipe s vs
 | [], h => by cases h
 | v :: vs, h => by
  show (L2.wipe (s.set i x) vs).set v none = (L2.wipe s vs).set v none
  by_cases hi : i ∈ vs
  ·rw [DJ hi]
  ·have hv : i = v := by
    rcases bh.mp h with e | e
    ·exact e
    ·exact absurd e hi
   subst hv
   have key : ∀ ws : List Nat, i ∉ ws → L2.wipe (s.set i x) ws = (L2.wipe s ws).set i x := by
    intro ws
    induction ws with
    | nil => intro _; rfl
    | cons b bs ih =>
     intro hn
     show (L2.wipe (s.set i x) bs).set b none = ((L2.wipe s bs).set b none).set i x
     rw [ih (fun z => hn (bp _ z))]
     rw [List.set_comm _ _ (fun z => hn (by rw [z]; exact bf ..))]
   rw [key vs hi, List.set_set]
theorem AB {s : L2.St} : ∀ {vs : List Nat}, L2.wipe (L2.wipe s vs) vs = L2.wipe s vs := by
 intro vs
 have key : ∀ ws : List Nat, (∀ v ∈ ws, v ∈ vs) → L2.wipe (L2.wipe s ws) vs = L2.wipe s vs := by
  intro ws
  induction ws with
  | nil => intro _; rfl
  | cons b bs ih =>
   intro h
   show L2.wipe ((L2.wipe s bs).set b none) vs = _
   rw [DJ (h b (bf ..)), ih fun v hv => h v (bp _ hv)]
 exact key vs fun _ h => h
def RSw (K : PySem.W.Frag) (vs : List Nat) (σ : L2.St) (Q : L2.St → Hp → Prop) : List Addr → Hp → Hp → Sg → W → Prop := fun I' F' H' s _ => ∀ s', fL K I' F' s s' → L2.wipe s' vs = L2.wipe σ vs → Q s' H'
def aBM (K : PySem.W.Frag) (E : XK) (vs : List Nat) (g : MG) : TG := fun v σ H Q => ∃ I F G d ds w, Rel K I F G w H ∧ fL K I F ds σ ∧ aF K I F d v ∧ aY K I F G E (RSw K vs σ Q) (g d ds w)
def aFv (K : PySem.W.Frag) (E : XK) (vs : List Nat) (g : NA) : TGs := fun v σ H Q => ∃ I F G d ds w, Rel K I F G w H ∧ fL K I F ds σ ∧ RepL K I F d v ∧ aY K I F G E (RSw K vs σ Q) (g d ds w)
def JC (S : aR) (vs : List Nat) (t : Expr) (g : MG) : Prop := ∀ X E, Ctx S X → q8 X E → PG X t (aBM X.K E vs g)
def JCs (S : aR) (vs : List Nat) (t : List Expr) (g : NA) : Prop := ∀ X E, Ctx S X → q8 X E → PGs X t (aFv X.K E vs g)
section
variable {S : aR} {pos : Pos} {vs : List Nat} {e : Expr} {es : List Expr} {g : MG} {r : NA}
theorem aA8 {i : Nat} {x : Str} (hi : S.N[i]? = some x) (hx : Sto S x) (hv : i ∈ vs) : JC S vs (.Name x pos) (aU i) := fun X E cx xo =>
 vI (pg_name (i := i) (x := x) cx.nd (by rw [cx.N]; exact hi) (by rw [cx.sc]; exact hx.1) (by rw [cx.sc]; exact hx.2.imp (cx.fn x) id)) fun v σ H Q ⟨I, F, G, d, ds, w, rel, rs, rv, p⟩ => p I F H .refl rel _ (rs.set i rv) (DJ hv)
theorem aBN : JCs S vs [] bS := fun X E cx xo => uA pgs_nil fun v σ H Q ⟨I, F, G, xs, ds, w, rel, rs, rv, p⟩ => by
 cases xs with
 | nil =>
  simp only [RepL] at rv
  exact ⟨rv, p I F H .refl rel _ rs rfl⟩
 | cons => exact p.elim
theorem P2 (h1 : JC S vs e g) (h2 : JCs S vs es r) (hs : ∀ env : Env, (assignEach (e :: es) env).map (·.2) = assign e env :: (assignEach es env).map (·.2) := by intro _; rfl) : JCs S vs (e :: es) (aI g r) := fun X E cx xo =>
 uA (pgs_cons (h1 X E cx xo) (h2 X E cx xo) (hs X.env)) fun v σ H Q ⟨I, F, G, xs, ds, w, rel, rs, rv, p⟩ => by
  cases xs with
  | nil => exact p.elim
  | cons x xs =>
   simp only [RepL] at rv
   obtain ⟨v, t, rfl, rv1, rvs⟩ := rv
   refine ⟨v, t, rfl, I, F, G, x, ds, w, rel, rs, rv1, (aY.bind p).mono fun I1 F1 H1 s w1 _ e1 rel1 p1 s' rs1 ew => ⟨I1, F1, G, xs, s, w1, rel1, rs1, RepL.ext e1 _ _ rvs, p1.mono fun I2 F2 H2 s2 w2 _ e2 rel2 p2 s3 rs3 ew3 => p2 s3 rs3 (ew3.trans ew)⟩⟩
theorem aDg {k n : Nat} (h : JCs S vs es r) (hn : ∀ env : Env, (assignEach es env).length = n := by intro _; rfl) (hst : ∀ env : Env, (assignEach es env).findIdx? (·.1) = none := by intro _; rfl) : JC S vs (.Tuple es k pos) (bY n r) := fun X E cx xo =>
 vI (pg_tup cx.calm (h X E cx xo) (hn X.env) (hst X.env)) fun v σ H Q ⟨I, F, G, d, ds, w, rel, rs, rv, p⟩ => by
  cases d <;> first | exact p.elim | skip
  all_goals
   rename_i xs
   simp only [aF] at rv
   obtain ⟨a, us, rfl, h1, h2⟩ := rv
   simp only [bY] at p
   split at p
   ·rename_i hl
    exact ⟨a, us, rfl, (by first | exact .of (rel.fz _ _ h1) | exact rel.LW h1), by rw [← h2.length]; exact hl, I, F, G, xs, ds, w, rel, rs, h2, p⟩
   ·exact p.elim
end
open Classical in
def pH (it : mG) (vs : List Nat) (g : MG) (t : MT) (e : ME) : List D → Sg → W → Res (List D)
 | [], σ, w => if it.ok w then .ok [] w else .bad
 | x :: xs, σ, w => if it.ok w then (g x (dP σ vs) w).L0.bind fun σ1 w1 => (t σ1 w1).L0.bind fun b w2 =>
   if b = true then (e σ1 w2).L0.bind fun y w3 => (pH it vs g t e xs σ w3).bind fun ys w4 => .ok (y :: ys) w4 else pH it vs g t e xs σ w2
  else .bad
def TU (m : MI) (vs : List Nat) (g : MG) (t : MT) (e : ME) : MA := fun σ w => (m σ w).bind fun it w1 => if it.xs.length ≤ sizeLine then pH it vs g t e it.xs σ w1 else .bad
def bR (m : MI) (vs : List Nat) (g : MG) (t : MT) (e : ME) : ME := fun σ w => (TU m vs g t e σ w).bind fun ys w1 => .ok (.lst ys) w1
def RW (m : MI) (vs : List Nat) (g : MG) (t : MT) (e : ME) : ME := fun σ w => (TU m vs g t e σ w).bind fun ys w1 => .ok (.ref w1.length) (w1 ++ [.lst ys])
def JTs (S : aR) (ifs : List Expr) (t : MT) : Prop := ∀ X E, Ctx S X → q8 X E → PTs X ifs (RX X.K E t)
def bU : MT := fun _ w => .ok true w
abbrev aR.blk (S : aR) (scope : Scope) : aR := { S with sc := relS scope S.sc, fn := fun x => scope.names.lookup x == some .cell }
theorem iV {S : aR} {X : Cx} (c : Ctx S X) (s : Shared) (H : Hp) (scope : Scope) (C : Addr) (cl : List (Str × Addr)) (fp : List Addr) : Ctx (S.blk scope) (X.blk s H scope (compEnvC scope cl C X.env) fp) :=
 ⟨c.P, c.w, c.K, c.mg, c.base, c.N, by show relS scope X.env.scope = relS scope S.sc; rw [c.sc], fun _ h => h, c.calm, c.room, c.WC, c.nd⟩
theorem iX {X : Cx} (s : Shared) (H : Hp) (scope : Scope) (cenv : Env) (fp : List Addr) : q8 (X.blk s H scope cenv fp) E0 :=
 ⟨fun _ _ ⟨_, _, _, _, _, _, _, _, _, _, _, _, _, _, _, _, h⟩ => h.elim, PassesOwn.never⟩
section
variable {S : aR} {pos : Pos} {elt tg iter c : Expr} {ifs : List Expr} {scope : Scope} {own : List (Str × Nat)} {mi : MI} {g : MG} {t : MT} {me : ME}
theorem eG : JTs S [] bU := fun X E cx xo => ⟨fun pins s σ H Q J ⟨I, F, G, ds, w, rel, rs, p⟩ => pts_nil.run pins s σ H Q J (p I F H .refl rel)⟩
theorem aAw (h : JT S c t) : JTs S [c] t := fun X E cx xo => pts_one (h X E cx xo)
theorem NJ {K : PySem.W.Frag} {E : XK} {vs : List Nat} {f : List D → W → Res D} {σ : L2.St} {H : Hp} {Q : VK} (h : sP K E (fun σ w => (TU mi vs g t me σ w).bind f) σ H Q)
  (fin : ∀ I F G w H q xs us, Rel K I F (upd G q (.lst us)) w H → G q = none → RepL K I F xs us → aY K I F G E (RV K Q) (f xs w) → Q (.ref q) H) :
  tLc (aBZ K E mi) (aBM K E0 vs g) (RX K E0 t) (sP K E0 me) vs σ H Q := by
 obtain ⟨I, F, G, ds, w, rel, rs, p⟩ := h
 have p0 : aY K I F G E (RV K Q) ((mi ds w).bind fun it w1 => (if it.xs.length ≤ sizeLine then pH it vs g t me it.xs ds w1 else .bad).bind f) := by
  rw [← Res.bind_assoc]; exact p
 refine ⟨I, F, G, ds, w, rel, rs, (aY.bind p0).mono fun I1 F1 H1 it w1 _ e1 rel1 p1 hok J hJ q hq => ?_⟩
 have hG : G q = none := by
  cases h : G q with
  | none => rfl
  | some u => rw [rel1.gz _ _ h] at hq; cases hq
 split at p1
 ·rename_i hz
  refine ⟨fun i n H' => n = it.xs.length - i ∧ i ≤ it.xs.length ∧ ∃ I' F' w' xs us, Ext I1 F1 I' F' ∧ Rel K I' F' (upd G q (.lst us)) w' H' ∧ RepL K I' F' xs us ∧ xs.length ≤ i ∧
    aY K I' F' G E (RV K Q) ((pH it vs g t me (it.xs.drop i) ds w').bind fun ys w2 => f (xs ++ ys) w2),
   ⟨it.xs.length, by simp, Nat.zero_le _, I1, F1, w1, [], [], .refl, rel1.keep hq, by simp [RepL], av _, by simpa using p1⟩, ?_⟩
  rintro i n H' ⟨rfl, hi, I', F', w', xs, us, e', rel', rx, hxi, p'⟩
  by_cases hlt : i < it.xs.length
  ·rw [List.drop_eq_getElem_cons hlt] at p'
   unfold pH at p'
   split at p'
   ·rename_i hw
    obtain ⟨h1, _⟩ := hJ I' F' _ w' H' i e' rel' hw
    obtain ⟨hgo, hy⟩ := h1 _ (bq hlt)
    refine .inr ⟨hgo, fun H2 => ∃ I2 F2 w2 xs2 us2, Ext I1 F1 I2 F2 ∧ Rel K I2 F2 (upd G q (.lst us2)) w2 H2 ∧ RepL K I2 F2 xs2 us2 ∧ xs2.length ≤ i + 1 ∧ aY K I2 F2 G E (RV K Q) ((pH it vs g t me (it.xs.drop (i + 1)) ds w2).bind fun ys w2 => f (xs2 ++ ys) w2),
     fun H2 q => ⟨it.xs.length - (i + 1), by omega, rfl, hlt, q⟩, fun v H2 y => ?_⟩
    obtain ⟨F2, e2, rel2, rv⟩ := hy v H2 y
    have p2 := p'.ext e2
    rw [Res.bind_assoc] at p2
    -- from here on the list at q lies still
    have still : ∀ {α : Type} {R : List Addr → Hp → Hp → α → W → Prop} {r : Res α} {I3 : List Addr} {F3 : Hp}, aY K I3 F3 G E0 R r → aY K I3 F3 (upd G q (.lst us)) E0 (fun I' F' H' a w => Rel K I' F' (upd G q (.lst us)) w H' ∧ ∀ H'', Rel K I' F' G w H'' → R I' F' H'' a w) r := by
     intro α R r I3 F3 hp
     cases r with
     | ok a w => exact fun I' F' H' e q => ⟨q, fun H'' q' => hp I' F' H'' e q'⟩
     | yE x w =>
      intro I' F' H' c d e q rx
      exact hp I' F' H' c d e ⟨q.len, q.nd, q.ob, q.fz, q.ap, fun a u h => q.gz a u (by rw [upd_ne (ne_of_none h hG)]; exact h), fun a u h => q.gf a u (by rw [upd_ne (ne_of_none h hG)]; exact h), fun a xs h => q.gt a xs (by rw [upd_ne (ne_of_none h hG)]; exact h)⟩ rx
     | bad => exact hp
    have less : ∀ {I3 : List Addr} {F3 : Hp} {w3 : W} {H3 : Hp}, Rel K I3 F3 (upd G q (.lst us)) w3 H3 → Rel K I3 F3 G w3 H3 := fun {I3 F3 w3 H3} q => ⟨q.len, q.nd, q.ob, q.fz, q.ap, fun a u h => q.gz a u (by rw [upd_ne (ne_of_none h hG)]; exact h), fun a u h => q.gf a u (by rw [upd_ne (ne_of_none h hG)]; exact h), fun a xs h => q.gt a xs (by rw [upd_ne (ne_of_none h hG)]; exact h)⟩
    refine ⟨I', F2, upd G q (.lst us), _, dP ds vs, w', rel2, (((rs.ext e1).ext e').ext e2).wipe vs, rv, (still (aY.oZ p2)).mono fun I3 F3 H3 s3 w3 _ e3 rel3 p3 σ3 rs3 ew => ⟨ew.trans AB, ?_⟩⟩
    have p3' := p3.2 H3 (less rel3)
    rw [Res.bind_assoc] at p3'
    refine ⟨I3, F3, upd G q (.lst us), s3, w3, rel3, rs3, (still (aY.oZ p3')).mono fun I4 F4 H4 b w4 _ e4 rel4 p4 => ?_⟩
    have p4' := p4.2 H4 (less rel4)
    cases b with
    | true =>
     simp only [ah] at p4' ⊢
     rw [Res.bind_assoc] at p4'
     refine ⟨I4, F4, upd G q (.lst us), s3, w4, rel4, rs3.ext e4, (still (aY.oZ p4')).mono fun I5 F5 H5 y w5 _ e5 rel5 p5 u ru => ?_⟩
     have p5' := p5.2 H5 (less rel5)
     rw [Res.bind_assoc] at p5'
     have ee : Ext I' F' I5 F5 := ((e2.trans e3).trans e4).trans e5
     refine ⟨us, rel5.gz _ _ upd_same, by rw [← rx.length]; omega, I5, F5, w5, xs ++ [y], us ++ [u], e'.trans ee, rel5.SW, (RepL.ext ee _ _ rx).append (RepL.cons ru (by simp [RepL])), by simp; omega, ?_⟩
     simpa using p5'
    | false =>
     simp only [bj, ae] at p4' ⊢
     exact ⟨I4, F4, w4, xs, us, (e'.trans e2).trans (e3.trans e4), rel4, RepL.ext ((e2.trans e3).trans e4) _ _ rx, by omega, p4'⟩
   ·exact p'.elim
  ·have hl : i = it.xs.length := by omega
   subst hl
   rw [List.drop_length] at p'
   unfold pH at p'
   split at p'
   ·rename_i hw
    refine .inl ⟨(hJ I' F' _ w' H' _ e' rel' hw).2 rfl, fin I' F' G w' H' q xs us rel' hG rx ?_⟩
    simpa using p'
   ·exact p'.elim
 ·exact p1.elim
theorem LP {K : PySem.W.Frag} {E : XK} {Q : VK} (I : List Addr) (F G : Hp) (w : W) (H : Hp) (q : Addr) (xs : List D) (us : List V) (rel : Rel K I F (upd G q (.lst us)) w H) (hG : G q = none) (rx : RepL K I F xs us)
  (p : aY K I F G E (RV K Q) (.ok (.lst xs) w)) : Q (.ref q) H := by
 obtain ⟨e, rel2⟩ := rel.aEQ hG
 exact p _ _ H e rel2 _ (by simp only [aF]; exact ⟨q, us, rfl, upd_same, RepL.ext e _ _ rx⟩)
theorem eQ (hi : JI S tg iter mi) (hb : blkC S.N S.sc scope own = true) (hg : JC (S.blk scope) (own.map (·.2)) tg g) (ht : JTs (S.blk scope) ifs t) (he : JE (S.blk scope) elt me)
  (hs : ∀ (env : Env) x, foldedSetIterable iter env x = pure x := by intro _ _; rfl) : JE S (.ListComp elt [⟨tg, iter, ifs, 0⟩] scope pos) (bR mi (own.map (·.2)) g t me) := fun X E cx xo =>
 cV (pe_lc (own := own) cx.calm cx.nd (hi X E cx xo) (blkOk_by (by rw [cx.N, cx.sc]; exact hb)) (fun s H C cl fp => hg _ E0 (iV cx s H scope C cl fp) (iX ..)) (fun s H C cl fp => ht _ E0 (iV cx s H scope C cl fp) (iX ..))
  (fun s H C cl fp => he _ E0 (iV cx s H scope C cl fp) (iX ..)) (hs X.env)) fun σ H Q h => NJ h LP
theorem SJ {i : Nat} {y : Str} {py spos : Pos} (hy : S.N[i]? = some y) (hyl : S.sc.names.lookup y = some .local) (hsw : ∀ env : Env, env.scope = S.sc → env.scope.kind = .function → swapsWith (.ListComp elt [⟨tg, iter, ifs, 0⟩] scope pos) (some (.Name y py)) spos.line env = pure true)
  (hi : JI S tg iter mi) (hb : blkC S.N S.sc scope own = true) (hg : JC (S.blk scope) (own.map (·.2)) tg g) (ht : JTs (S.blk scope) ifs t) (he : JE (S.blk scope) elt me)
  (hk : S.sc.kind = .function) (hs : ∀ (env : Env) x, foldedSetIterable iter env x = pure x := by intro _ _; rfl) : JS S (.Assign [.Name y py] (.ListComp elt [⟨tg, iter, ifs, 0⟩] scope pos) spos) (aT (bR mi (own.map (·.2)) g t me) (aU i)) := fun X E cx xo =>
 jQ (ps_setLc (i := i) (own := own) cx.calm cx.nd (by rw [cx.N]; exact hy) (by rw [cx.sc]; exact hyl) (hsw X.env cx.sc (by rw [cx.sc]; exact hk)) (hi X E cx xo) (blkOk_by (by rw [cx.N, cx.sc]; exact hb)) (fun s H C cl fp => hg _ E0 (iV cx s H scope C cl fp) (iX ..)) (fun s H C cl fp => ht _ E0 (iV cx s H scope C cl fp) (iX ..))
  (fun s H C cl fp => he _ E0 (iV cx s H scope C cl fp) (iX ..)) (hs X.env)) fun Z σ H ⟨I, F, G, ds, w, rel, rs, p⟩ => by
  obtain ⟨I, F, G, ds, w, rel, rs, q⟩ : sP X.K E (bR mi (own.map (·.2)) g t me) σ H (fun x H1 => gName i x σ H1 Z.nx) := bO (f := fun ds d w1 => (aU i d ds w1).bind fun σ2 w2 => Res.ok (Fl.nx σ2) w2) rel rs p fun I1 F1 H1 x w1 v e1 rel1 rs1 rv p1 => p1 I1 F1 H1 .refl rel1 _ (rs1.set i rv)
  exact NJ (f := fun ys w1 => Res.ok (D.lst ys) w1) ⟨I, F, G, ds, w, rel, rs, q⟩ LP
end
def keyD : D → Option Key
 | .int i => some (.inl i)
 | .str x => some (.inr x)
 | _ => none
def zM : List D → Option (List Key)
 | [] => some []
 | d :: ds => match keyD d, zM ds with
  | some k, some ks => some (k :: ks)
  | _, _ => none
def pD {κ : Type} [DecidableEq κ] : List (κ × D) → κ → Option D
 | [], _ => none
 | (j, d) :: r, k => if j = k then some d else pD r k
def putD {κ : Type} [DecidableEq κ] (kvs : List (κ × D)) (k : κ) (d : D) : List (κ × D) :=
 if (pD kvs k).isSome then kvs.map (fun p => if p.1 = k then (p.1, d) else p) else kvs ++ [(k, d)]
section
variable {K : PySem.W.Frag} {I : List Addr} {F G H : Hp} {w : W} {κ : Type} [DecidableEq κ]
def OS (K : PySem.W.Frag) (I : List Addr) (F : Hp) : Option D → Option V → Prop
 | some d, q => ∃ v, q = some v ∧ aF K I F d v
 | none, q => q = none
theorem aS.look : ∀ {kvs : List (κ × D)} {r : List (κ × V)} (k : κ), aS K I F kvs r → OS K I F (pD kvs k) (valV r k)
 | [], r, k, h => by simp only [aS] at h; subst h; rfl
 | (j, d) :: kvs, r, k, h => by
  simp only [aS] at h
  obtain ⟨v, t, rfl, h1, h2⟩ := h
  simp only [pD]
  by_cases e : j = k
  ·rw [if_pos e]; exact ⟨v, by rw [valV_pos e], h1⟩
  ·rw [if_neg e]
   have := aS.look k h2
   rw [valV_neg (by exact e)]
   exact this
theorem aS.length : ∀ {kvs : List (κ × D)} {r : List (κ × V)}, aS K I F kvs r → kvs.length = r.length
 | [], r, h => by simp only [aS] at h; subst h; rfl
 | (j, d) :: kvs, r, h => by
  simp only [aS] at h
  obtain ⟨v, t, rfl, h1, h2⟩ := h
  simp [aS.length h2]
theorem aS.repl {d : D} {v : V} (k : κ) (hv : aF K I F d v) : ∀ {kvs : List (κ × D)} {r : List (κ × V)}, aS K I F kvs r → aS K I F (kvs.map (fun p => if p.1 = k then (p.1, d) else p)) (r.map (fun p => if p.1 = k then (p.1, v) else p))
 | [], r, h => by simp only [aS] at h; subst h; simp [aS]
 | (j, x) :: kvs, r, h => by
  simp only [aS] at h
  obtain ⟨u, t, rfl, h1, h2⟩ := h
  simp only [List.map_cons]
  by_cases e : j = k
  ·rw [if_pos e, if_pos e]; simp only [aS]; exact ⟨v, _, rfl, hv, aS.repl k hv h2⟩
  ·rw [if_neg e, if_neg e]; simp only [aS]; exact ⟨u, _, rfl, h1, aS.repl k hv h2⟩
theorem aS.snoc {d : D} {v : V} (k : κ) (hv : aF K I F d v) : ∀ {kvs : List (κ × D)} {r : List (κ × V)}, aS K I F kvs r → aS K I F (kvs ++ [(k, d)]) (r ++ [(k, v)])
 | [], r, h => by simp only [aS] at h; subst h; simp only [List.nil_append, aS]; exact ⟨v, [], rfl, hv, rfl⟩
 | (j, x) :: kvs, r, h => by
  simp only [aS] at h
  obtain ⟨u, t, rfl, h1, h2⟩ := h
  simp only [List.cons_append, aS]
  exact ⟨u, _, rfl, h1, aS.snoc k hv h2⟩
theorem aAI (r : List (κ × V)) (k : κ) (v : V) : putK r k v = if (valV r k).isSome then r.map (fun p => if p.1 = k then (p.1, v) else p) else r ++ [(k, v)] := by
 unfold putK
 rw [valV_any]
theorem aS.put {d : D} {v : V} (k : κ) (hv : aF K I F d v) {kvs : List (κ × D)} {r : List (κ × V)} (h : aS K I F kvs r) : aS K I F (putD kvs k d) (putK r k v) := by
 rw [aAI]
 unfold putD
 have hl := h.look k
 cases e : pD kvs k with
 | some x =>
  rw [e] at hl
  obtain ⟨u, hu, _⟩ := hl
  rw [hu]
  exact h.repl k hv
 | none =>
  rw [e] at hl
  rw [hl]
  exact h.snoc k hv
theorem uT {d : D} {v : V} {k : Key} (h : aF K I F d v) (e : keyD d = some k) : v = kV k := by
 cases d <;> simp only [keyD, ai, reduceCtorEq] at e
 ·subst e; simp only [aF] at h; exact h
 ·subst e; simp only [aF] at h; exact h
theorem vM : ∀ {ds : List D} {vs : List V} {ks : List Key}, RepL K I F ds vs → zM ds = some ks → vs = ks.map kV
 | [], vs, ks, h, e => by simp only [zM, ai] at e; subst e; simp only [RepL] at h; exact h
 | d :: ds, vs, ks, h, e => by
  simp only [RepL] at h
  obtain ⟨v, r, rfl, h1, h2⟩ := h
  simp only [zM] at e
  split at e
  ·rename_i k ks' e1 e2
   cases e
   rw [uT h1 e1, vM h2 e2]
   rfl
  ·cases e
theorem Rel.upd {i : Nat} {a : Addr} {o o' : MO} {u' : HO} (rel : Rel K I F G w H) (hi : I[i]? = some a) (ho : w[i]? = some o) (r : m3 K I F o' u') (hf : o.fz = false := by rfl) : Rel K I F G (w.set i o') (upd H a u') := by
 have hF : F a = none := rel.ap i a o hi ho hf
 have hil : i < w.length := (aj.mp ho).1
 refine ⟨by simp [rel.len], rel.nd, fun j b q h1 h2 => ?_, fun b u h => ?_, fun j b q h1 h2 h3 => ?_, fun b u h => ?_, rel.gf, rel.gt⟩
 ·by_cases hj : i = j
  ·subst hj
   rw [az hil] at h2
   cases h2
   rw [hi] at h1; cases h1
   exact ⟨u', upd_same, r⟩
  ·rw [bc hj] at h2
   obtain ⟨u, h3, h4⟩ := rel.ob j b q h1 h2
   have hb : b ≠ a := fun z => by
    subst z
    obtain ⟨l1, e1⟩ := aj.mp hi
    obtain ⟨l2, e2⟩ := aj.mp h1
    exact hj ((List.getElem_inj rel.nd).mp (e1.trans e2.symm))
   exact ⟨u, by rw [upd_ne hb]; exact h3, h4⟩
 ·rw [upd_ne (ne_of_none h hF)]; exact rel.fz b u h
 ·by_cases hj : i = j
  ·subst hj
   rw [hi] at h1; cases h1; exact hF
  ·rw [bc hj] at h2
   exact rel.ap j b q h1 h2 h3
 ·have hb : b ≠ a := fun z => (rel.gf b u h).2 (z ▸ bu hi)
  rw [upd_ne hb]; exact rel.gz b u h
end
theorem RepL.at' {K : PySem.W.Frag} {I : List Addr} {F : Hp} {ds : List D} {vs : List V} (r : RepL K I F ds vs) {i : Int} {d : D} (h : atI ds i = some d) : ∃ v, atI vs i = some v ∧ aF K I F d v := by
 unfold atI at h ⊢
 rw [← r.length]
 cases e : ixN ds.length i with
 | none => rw [e] at h; cases h
 | some j => rw [e] at h; exact r.get h
def sO (o : MO) (y : D) : Option (Option D) := match o, y with
 | .dK kvs, y => (keyD y).map (pD kvs)
 | .dF kvs, y => (keyD y).map (pD kvs)
 | .dT kvs, .tup ys => (zM ys).map (pD kvs)
 | .dG kvs, .tup ys => (zM ys).map (pD kvs)
 | _, _ => none
def YS (xs : List D) (y : D) (w : W) : Res D := match y with
 | .int i => (match atI xs i with
  | some d => .ok d w
  | none => .bad)
 | _ => .bad
def atS (z : Str) (y : D) (w : W) : Res D := match y with
 | .int i => if z.length ≤ sizeLine then (match atI z.cps.toList i with
   | some c => .ok (.str ⟨#[c]⟩) w
   | none => .bad) else .bad
 | _ => .bad
def aV (x y : D) (w : W) : Res D := match x with
 | .tup xs => YS xs y w
 | .jL xs => YS xs y w
 | .lst xs => YS xs y w
 | .qF xs => YS xs y w
 | .str z => atS z y w
 | .ref r => (match w[r]? with
  | some (.lst xs) => YS xs y w
  | some o => (match sO o y with
   | some (some d) => .ok d w
   | _ => .bad)
  | none => .bad)
 | _ => .bad
theorem aAD {X : Cx} (hu : X.A.units + 1 < cLine) : IxR X (fun x y H Q => ∃ a v, x = .ref a ∧ DGet H a y (some v) ∧ Q v H) := by
 intro value slice pins s σ H x y ov iv Q J rx ry h hs
 obtain ⟨a, v, ex, g, q⟩ := h
 subst ex
 cases rx
 have hT : s.TypeIs (.ref a) "dict" := dict_typeIs J g
 unfold subscriptTail
 apply wpAny_bind
 rw [getitemInPython_of_ne hT.not_modules]
 apply wpAny_bind
 apply wpAny_specialOf hT PySem.F.slot_dict_getitem.lookup
 have fin : wpAny (model X.prog X.w) X.A (subscripted slice false (.ref a) iv) (fun r s₃ => wpAny (model X.prog X.w) X.A (letTemporaryGo value (.ref a) r >>= fun _ => pure r) (EP X pins σ Q) X.xe s₃) X.xe s := by
  rw [hs]
  apply wpAny_operating
  exact d_getItem hu J g ry fun w' s3 J3 rw' => wpAny_bind (wpAny_letTemporaryGo (wpAny_pure ⟨v, H, J3, rw', q⟩))
 first
  | exact wpAny_pure (wpAny_bind fin)
  | exact wpAny_bind (wpAny_pure (wpAny_bind fin))
  | exact wpAny_bind fin
theorem JR {K : PySem.W.Frag} {I : List Addr} {F G H : Hp} {w : W} (rel : Rel K I F G w H) {i : Nat} {a : Addr} {o : MO} {y : D} {v : V} {r : Option D} (hi : I[i]? = some a) (ho : w[i]? = some o) (ry : aF K I F y v) (e : sO o y = some r) :
  ∃ q, DGet H a v q ∧ OS K I F r q := by
 obtain ⟨u, hu, ro⟩ := rel.ob i a o hi ho
 cases o with
 | lst => simp [sO] at e
 | ins => simp [sO] at e
 | dK kvs =>
  obtain ⟨t, rfl, rk⟩ := ro
  simp only [sO, ao] at e
  obtain ⟨k, ek, rfl⟩ := e
  exact ⟨valV t k, .inl ⟨t, k, .inl hu, uT ry ek, rfl⟩, rk.look k⟩
 | dF kvs =>
  obtain ⟨ob, t, rfl, rk⟩ := ro
  simp only [sO, ao] at e
  obtain ⟨k, ek, rfl⟩ := e
  exact ⟨valV t k, .inl ⟨t, k, .inr ⟨ob, hu⟩, uT ry ek, rfl⟩, rk.look k⟩
 | dT kvs =>
  obtain ⟨t, rfl, rk⟩ := ro
  cases y <;> simp only [sO, ao, reduceCtorEq] at e
  obtain ⟨k, ek, rfl⟩ := e
  simp only [aF] at ry
  obtain ⟨b, us, rfl, hb, rl⟩ := ry
  obtain rfl := vM rl ek
  exact ⟨valV t k, .inr ⟨t, k, b, .inl hu, rfl, rel.fz _ _ hb, rfl⟩, rk.look k⟩
 | dG kvs =>
  obtain ⟨ob, t, rfl, rk⟩ := ro
  cases y <;> simp only [sO, ao, reduceCtorEq] at e
  obtain ⟨k, ek, rfl⟩ := e
  simp only [aF] at ry
  obtain ⟨b, us, rfl, hb, rl⟩ := ry
  obtain rfl := vM rl ek
  exact ⟨valV t k, .inr ⟨t, k, b, .inr ⟨ob, hu⟩, rfl, rel.fz _ _ hb, rfl⟩, rk.look k⟩
def ZQ (S : aR) (f : D → D → W → Res D) : Prop := ∀ X E, Ctx S X → q8 X E → IxR X (ZT X.K E f)
section
variable {S : aR} {pos : Pos} {a b : Expr} {ma mb : ME}
theorem ND {f : D → D → W → Res D}
  (h : ∀ (X : Cx) (E : XK), Ctx S X → q8 X E → ∀ (I : List Addr) (F G : Hp) (d e : D) (w : W) (H : Hp) (x y : V) (Q : VK), Rel X.K I F G w H → aF X.K I F d x → aF X.K I F e y → aY X.K I F G E (RV X.K Q) (f d e w) →
   ∃ r : R2, IxR X r ∧ r x y H Q) : ZQ S f := fun X E c xo value slice pins s σ H x y v u Q J rx ry ⟨I, F, G, d, e, w, rel, rd, re, p⟩ hs => by
 obtain ⟨r, ho, hr⟩ := h X E c xo I F G d e w H x y Q rel rd re p
 exact ho value slice pins s σ H x y v u Q J rx ry hr hs
theorem DE {X : Cx} {E : XK} {I : List Addr} {F G : Hp} {e : D} {w : W} {H : Hp} {x y : V} {Q : VK} (rel : Rel X.K I F G w H) (re : aF X.K I F e y) {xs : List D} {vs : List V} {q : Addr} (h1 : SqL X.K H q vs ∨ SqT X.K H q vs) (h2 : RepL X.K I F xs vs) (ex : x = .ref q)
  (p : aY X.K I F G E (RV X.K Q) (YS xs e w)) : ∃ r : R2, IxR X r ∧ r x y H Q := by
 cases e <;> first | exact p.elim | skip
 rename_i i
 simp only [aF] at re
 simp only [YS] at p
 cases ha : atI xs i with
 | none => rw [ha] at p; exact p.elim
 | some d =>
  rw [ha] at p
  obtain ⟨v, hv, rv⟩ := h2.at' ha
  rcases h1 with h1 | h1
  ·exact ⟨_, ix_list, q, vs, i, v, ex, re, h1, hv, p.mM rel rv⟩
  ·exact ⟨_, ix_tup, q, vs, i, v, ex, re, h1, hv, p.mM rel rv⟩
theorem aE5 : ZQ S aV := ND fun X E c xo I F G d e w H x y Q rel rd re p => by
 cases d <;> first | exact p.elim | skip
 case str z =>
  cases e <;> first | exact p.elim | skip
  rename_i i
  simp only [aF] at rd re
  simp only [aV, atS] at p
  split at p
  ·rename_i hz
   split at p
   ·rename_i c hc
    exact ⟨_, ix_str, z, i, c, rd, re, hz, hc, p.mM rel (by simp [aF])⟩
   ·exact p.elim
  ·exact p.elim
 case tup xs =>
  simp only [aF] at rd
  obtain ⟨q, vs, ex, h1, h2⟩ := rd
  exact DE rel re (.inr (.of (rel.fz _ _ h1))) h2 ex p
 case jL xs =>
  simp only [aF] at rd
  obtain ⟨q, vs, ex, h1, h2⟩ := rd
  exact DE rel re (.inr (rel.LW h1)) h2 ex p
 case lst xs =>
  simp only [aF] at rd
  obtain ⟨q, vs, ex, h1, h2⟩ := rd
  exact DE rel re (.inl (.of (rel.fz _ _ h1))) h2 ex p
 case qF xs =>
  simp only [aF] at rd
  obtain ⟨q, vs, ex, h1, h2⟩ := rd
  exact DE rel re (.inl (rel.U5 h1)) h2 ex p
 case ref i =>
  simp only [aF] at rd
  obtain ⟨q, ex, h1⟩ := rd
  simp only [aV] at p
  split at p
  ·rename_i xs hw
   obtain ⟨u, hu, vs, rfl, h2⟩ := rel.ob i q _ h1 hw
   exact DE rel re (.inl (.of hu)) h2 ex p
  ·rename_i o hn hw
   split at p
   ·rename_i d hd
    obtain ⟨r, hr, u, rfl, ru⟩ := JR rel h1 hw re hd
    exact ⟨_, aAD (by have := c.room.units; omega), q, u, ex, hr, p.mM rel ru⟩
   ·exact p.elim
  ·exact p.elim
theorem cE (ha : JE S a ma) (hb : JE S b mb) (hs : PlainIx b := by intro _ _; rfl) : JE S (.Subscript a b pos) (aC aV ma mb) := fun X E c xo =>
 cV (pe_ix (aE5 X E c xo) (ha X E c xo) (hb X E c xo) hs) fun _ _ _ h => yJ h
end
abbrev MO' := Sg → W → Res (Option Int)
def cJ : MO' := fun _ w => .ok none w
def bX (m : ME) : MO' := fun σ w => (m σ w).bind fun d w1 => match d with
 | .int i => .ok (some i) w1
 | _ => .bad
def RO (Q : Option Int → Hp → Prop) : List Addr → Hp → Hp → Option Int → W → Prop := fun _ _ H' o _ => Q o H'
def aFX (K : PySem.W.Frag) (E : XK) (m : MO') : TO := fun σ H Q => ∃ I F G ds w, Rel K I F G w H ∧ fL K I F ds σ ∧ aY K I F G E (RO Q) (m ds w)
def JO (S : aR) (e : Option Expr) (m : MO') : Prop := ∀ X E, Ctx S X → q8 X E → PO X e (aFX X.K E m)
def cutD (xs : List D) (lo hi : Option Int) : List D := (xs.drop (HT.sIx xs.length 0 lo)).take (HT.sIx xs.length xs.length hi - HT.sIx xs.length 0 lo)
def iU (x : D) (lo hi : Option Int) (w : W) : Res D := match x with
 | .tup xs => .ok (.tup (cutD xs lo hi)) w
 | .str z => if z.length ≤ sizeLine then .ok (.str (cutS z lo hi)) w else .bad
 | .lst xs => .ok (.lst (cutD xs lo hi)) w
 | .qF xs => .ok (.lst (cutD xs lo hi)) w
 | .ref i => (match w[i]? with
  | some (.lst xs) => .ok (.lst (cutD xs lo hi)) w
  | _ => .bad)
 | _ => .bad
def lE (f : D → Option Int → Option Int → W → Res D) (a : ME) (lo hi : MO') : ME := fun σ w => (a σ w).bind fun x w1 => (lo σ w1).bind fun l w2 => (hi σ w2).bind fun u w3 => f x l u w3
theorem RepL.cutV {K : PySem.W.Frag} {I : List Addr} {F : Hp} {ds : List D} {vs : List V} (r : RepL K I F ds vs) (lo hi : Option Int) : RepL K I F (cutD ds lo hi) (L2.cutV vs lo hi) := by
 unfold cutD L2.cutV
 rw [← r.length]
 exact (r.drop _).take _
theorem V5 {xs : List D} {lo hi : Option Int} (h : HT.sIx xs.length 0 lo = 0 ∧ HT.sIx xs.length xs.length hi = xs.length) : cutD xs lo hi = xs := by
 unfold cutD
 rw [h.1, h.2]
 simp
def SlM (S : aR) (f : D → Option Int → Option Int → W → Res D) : Prop := ∀ X E, Ctx S X → q8 X E → ∀ (I : List Addr) (F G : Hp) (d : D) (w : W) (H : Hp) (x : V) (lo hi : Option Int) (Q : VK), Rel X.K I F G w H → aF X.K I F d x → aY X.K I F G E (RV X.K Q) (f d lo hi w) →
   ∃ r, SlR X r ∧ r x lo hi H Q
def aE9 (K : PySem.W.Frag) (E : XK) (f : D → Option Int → Option Int → W → Res D) : V → Option Int → Option Int → Hp → VK → Prop := fun x lo hi H Q => ∃ I F G d w, Rel K I F G w H ∧ aF K I F d x ∧ aY K I F G E (RV K Q) (f d lo hi w)
section
variable {S : aR} {pos p2 : Pos} {a e : Expr} {ma m : ME} {lo hi : Option Expr} {ml mh : MO'} {f : D → Option Int → Option Int → W → Res D}
theorem fA : JO S none cJ := fun X E c xo => ⟨fun pins s σ H Q J ⟨I, F, G, ds, w, rel, rs, p⟩ => po_none.run pins s σ H Q J (p I F H .refl rel)⟩
theorem dZ (h : JE S e m) : JO S (some e) (bX m) := fun X E c xo => ⟨fun pins s σ H Q J ⟨I, F, G, ds, w, rel, rs, p⟩ => (po_some (h X E c xo)).run pins s σ H Q J
 (bO (f := fun _ d w1 => match d with
  | .int i => Res.ok (some i) w1
  | _ => .bad) rel rs p fun I1 F1 H1 x w1 v e1 rel1 rs1 rv p1 => by
  cases x <;> first | exact p1.elim | skip
  simp only [aF] at rv
  exact ⟨_, rv, p1 I1 F1 H1 .refl rel1⟩)⟩
theorem jI : SlM S iU := fun X E c xo I F G d w H x lo hi Q rel rd p => by
 cases d <;> first | exact p.elim | skip
 case tup xs =>
  simp only [aF] at rd
  obtain ⟨q, vs, ex, h1, h2⟩ := rd
  refine ⟨_, sl_tupA, q, vs, ex, .of (rel.fz _ _ h1), fun hw => ?_, fun hw => ?_⟩
  ·rw [← h2.length] at hw
   refine p.mM rel ?_
   rw [V5 hw]
   simp only [aF]
   exact ⟨q, vs, ex ▸ rfl, h1, h2⟩
  ·exact y4 rel (h2.cutV lo hi) p
 case str z =>
  simp only [aF] at rd
  simp only [iU] at p
  split at p
  ·rename_i hz
   exact ⟨_, sl_str, z, rd, hz, p.mM rel (by simp [aF])⟩
  ·exact p.elim
 case lst xs =>
  simp only [aF] at rd
  obtain ⟨q, vs, ex, h1, h2⟩ := rd
  exact ⟨_, sl_list, q, vs, ex, .of (rel.fz _ _ h1), nA rel (h2.cutV lo hi) p⟩
 case qF xs =>
  simp only [aF] at rd
  obtain ⟨q, vs, ex, h1, h2⟩ := rd
  exact ⟨_, sl_list, q, vs, ex, rel.U5 h1, nA rel (h2.cutV lo hi) p⟩
 case ref i =>
  simp only [aF] at rd
  obtain ⟨q, ex, h1⟩ := rd
  simp only [iU] at p
  split at p
  ·rename_i xs hw
   obtain ⟨u, hu, vs, rfl, h2⟩ := rel.ob i q _ h1 hw
   exact ⟨_, sl_list, q, vs, ex, .of hu, nA rel (h2.cutV lo hi) p⟩
  ·exact p.elim
theorem jE (hf : SlM S f) (ha : JE S a ma) (hl : JO S lo ml) (hh : JO S hi mh) : JE S (.Subscript a (.Slice lo hi none p2) pos) (lE f ma ml mh) := fun X E c xo => by
 have hr : SlR X (aE9 X.K E f) := fun pins s σ H x v vl vu l u sl Q J rx hs pl pu ⟨I, F, G, d, w, rel, rd, p⟩ => by
  obtain ⟨r, h1, h2⟩ := hf X E c xo I F G d w H x l u Q rel rd p
  exact h1 pins s σ H x v vl vu l u sl Q J rx hs pl pu h2
 refine cV (pe_slice hr (ha X E c xo) (hl X E c xo) (hh X E c xo)) fun σ H Q ⟨I, F, G, ds, w, rel, rs, p⟩ => ?_
 refine bO (f := fun ds x w1 => (ml ds w1).bind fun l w2 => (mh ds w2).bind fun u w3 => f x l u w3) rel rs p fun I1 F1 H1 x w1 v e1 rel1 rs1 rv p1 => ?_
 refine ⟨I1, F1, G, ds, w1, rel1, rs1, (aY.bind p1).mono fun I2 F2 H2 l w2 _ e2 rel2 p2 => ?_⟩
 refine ⟨I2, F2, G, ds, w2, rel2, rs1.ext e2, (aY.bind p2).mono fun I3 F3 H3 u w3 _ e3 rel3 p3 => ?_⟩
 exact ⟨I3, F3, G, x, w3, rel3, aF.ext (e2.trans e3) _ _ rv, p3⟩
end
def setM (o i d : D) (w : W) : Res Unit := match o with
 | .ref r => (match w[r]? with
  | some (.lst xs) => (match i with
   | .int k => (match ixN xs.length k with
    | some j => .ok () (w.set r (.lst (xs.set j d)))
    | none => .bad)
   | _ => .bad)
  | some (.dK kvs) => (match keyD i with
   | some k => if kvs.length < sizeLine then .ok () (w.set r (.dK (putD kvs k d))) else .bad
   | none => .bad)
  | some (.dT kvs) => (match i with
   | .tup ys => (match zM ys with
    | some k => if kvs.length < sizeLine then .ok () (w.set r (.dT (putD kvs k d))) else .bad
    | none => .bad)
   | _ => .bad)
  | _ => .bad)
 | _ => .bad
def eO (mo mi : ME) : MG := fun d σ w => (mo σ w).bind fun o w1 => (mi σ w1).bind fun i w2 => (setM o i d w2).bind fun _ w3 => .ok σ w3
def aC3 (K : PySem.W.Frag) (E : XK) : TSet := fun o i v H Q => ∃ I F G x y d w, Rel K I F G w H ∧ aF K I F x o ∧ aF K I F y i ∧ aF K I F d v ∧ aY K I F G E (fun _ _ H' _ _ => Q H') (setM x y d w)
theorem aD5 {X : Cx} {E : XK} (hu : X.A.units + 1 < cLine) : PSet X (aC3 X.K E) := by
 intro pins s σ H o i v ov iv u Q J ro ri rv ⟨I, F, G, x, y, d, w, rel, rx, ry, rd, p⟩
 cases x <;> first | exact p.elim | skip
 rename_i r
 simp only [aF] at rx
 obtain ⟨a, rfl, h1⟩ := rx
 simp only [setM] at p
 split at p
 ·rename_i xs hw
  obtain ⟨t, hu', vs, rfl, h2⟩ := rel.ob r a _ h1 hw
  cases y <;> first | exact p.elim | skip
  rename_i k
  simp only [aF] at ry
  subst ry
  dsimp only at p
  split at p
  ·rename_i j hj
   exact set_list pins s σ H _ _ v ov iv u Q J ro ri rv ⟨a, vs, k, j, rfl, rfl, hu', by rw [← h2.length]; exact hj, p I F _ .refl (rel.upd h1 hw ⟨_, rfl, h2.set j rd⟩)⟩
  ·exact p.elim
 ·rename_i kvs hw
  obtain ⟨t, hu', vs, rfl, h2⟩ := rel.ob r a _ h1 hw
  split at p
  ·rename_i k hk
   split at p
   ·rename_i hl
    obtain rfl := uT ry hk
    cases ro
    exact d_setItem hu J (.inl ⟨vs, k, hu', rfl, by rw [← h2.length]; exact hl, rfl⟩) ri rv fun s' J' => ⟨_, J', p I F _ .refl (rel.upd h1 hw ⟨_, rfl, h2.put k rd⟩)⟩
   ·exact p.elim
  ·exact p.elim
 ·rename_i kvs hw
  obtain ⟨t, hu', vs, rfl, h2⟩ := rel.ob r a _ h1 hw
  cases y <;> first | exact p.elim | skip
  rename_i ys
  dsimp only at p
  split at p
  ·rename_i k hk
   split at p
   ·rename_i hl
    simp only [aF] at ry
    obtain ⟨b, us, rfl, hb, rl⟩ := ry
    obtain rfl := vM rl hk
    cases ro
    exact d_setItem hu J (.inr ⟨vs, k, b, hu', rfl, rel.fz _ _ hb, by rw [← h2.length]; exact hl, rfl⟩) ri rv fun s' J' => ⟨_, J', p I F _ .refl (rel.upd h1 hw ⟨_, rfl, h2.put k rd⟩)⟩
   ·exact p.elim
  ·exact p.elim
 ·exact p.elim
section
variable {S : aR} {pos : Pos} {o i : Expr} {mo mi : ME}
theorem QS (ho : JE S o mo) (hi : JE S i mi)
  (ha : ∀ (env : Env) v, assign (.Subscript o i pos) env v = (do
   let ov ← holding [v] (eval o env)
   let iv ← holding [v, ov] (eval i env)
   standAt pos
   holding [v, ov, iv] (setItem ov iv v)
   release [v, ov, iv] []) := by intro _ _; rfl) : JG S (.Subscript o i pos) (eO mo mi) := fun X E c xo =>
 vI (pg_sub (ho X E c xo) (hi X E c xo) (aD5 (E := E) (by have := c.room.units; omega)) (ha X.env)) fun v σ H Q ⟨I, F, G, d, ds, w, rel, rs, rv, p⟩ => by
  refine bO (f := fun ds x w1 => (mi ds w1).bind fun y w2 => (setM x y d w2).bind fun _ w3 => Res.ok ds w3) rel rs p fun I1 F1 H1 x w1 u e1 rel1 rs1 ru p1 => ?_
  refine bO (f := fun ds y w2 => (setM x y d w2).bind fun _ w3 => Res.ok ds w3) rel1 rs1 p1 fun I2 F2 H2 y w2 t e2 rel2 rs2 rt p2 => ?_
  exact ⟨I2, F2, G, x, y, d, w2, rel2, aF.ext e2 _ _ ru, rt, aF.ext (e1.trans e2) _ _ rv, (aY.bind p2).mono fun I3 F3 H3 z w3 _ e3 rel3 p3 => p3 I3 F3 H3 .refl rel3 σ (rs2.ext e3)⟩
end
def aFq (K : PySem.W.Frag) (E : XK) (m : MF) : List V → Hp → VK → Prop := fun vs H Q => ∃ I F G ds w, Rel K I F G w H ∧ RepL K I F ds vs ∧ aY K I F G E (RV K Q) (m ds w)
def CB (S : aR) (f : Value) (m : MF) : Prop := ∀ X E, Ctx S X → q8 X E → CallR X f (aFq X.K E m)
def aQ (m : MF) (ma : MA) : ME := fun σ w => (ma σ w).bind fun xs w1 => m xs w1
section
variable {S : aR} {m : MF} {x : Str} {p pos : Pos} {e : Expr} {es : List Expr} {ma : MA} {f : Value}
theorem wK (h : ∀ (X : Cx) (E : XK), Ctx S X → q8 X E → ∀ (I : List Addr) (F G : Hp) (ds : List D) (w : W) (H : Hp) (vs : List V) (Q : VK), Rel X.K I F G w H → RepL X.K I F ds vs → aY X.K I F G E (RV X.K Q) (m ds w) → ∃ r, CallR X f r ∧ r vs H Q) : CB S f m :=
 fun X E c xo pins s σ H vs us Q J r ⟨I, F, G, ds, w, rel, rl, p⟩ => by
  obtain ⟨r', h1, h2⟩ := h X E c xo I F G ds w H vs Q rel rl p
  exact h1 pins s σ H vs us Q J r h2
theorem S5 {K : PySem.W.Frag} {E : XK} {σ : L2.St} {H : Hp} {Q : VK} (h : sP K E (aQ m ma) σ H Q) : tCB (aFq K E m) (aAH K E ma) σ H Q := by
 obtain ⟨I, F, G, ds, w, rel, rs, p⟩ := h
 exact dR (f := fun _ xs w1 => m xs w1) rel rs p fun I1 F1 H1 xs w1 vs e1 rel1 rs1 rvs p1 => ⟨I1, F1, G, xs, w1, rel1, rvs, p1⟩
theorem bD {id : String} (hc : CB S (.builtin id) m) (hg : S.sc.names.lookup x = some .globalImplicit) (hm : S.mg x = none) (hv : bootBuiltins x = some (.builtin id)) (ha : JA S (e :: es) ma) (hn : x ≠ "__name__" := by decide) (hdb : (x == ("__debug__" : Str)) = false := by decide)
  (he : ∀ env : Env, starEach (e :: es) env = (false, eval e env) :: starEach es env := by intro _; rfl) (hpl : ∀ env : Env, (backTo pos (starEach es env)).any (·.1) = false := by intro _; rfl) : JE S (.Call (.Name x p) (e :: es) [] pos) (aQ m ma) := fun X E c xo =>
 cV (pe_callB (hc X E c xo) (by show X.env.scope.names.lookup x = _; rw [c.sc]; exact hg) (by rw [c.mg]; exact hm) hv (ha X E c xo) hn hdb (he X.env) (hpl X.env)) fun _ _ _ h => S5 h
theorem eK {id : String} (hc : CB S (.type id) m) (hg : S.sc.names.lookup x = some .globalImplicit) (hm : S.mg x = none) (hv : bootBuiltins x = some (.type id)) (ha : JA S (e :: es) ma) (hn : x ≠ "__name__" := by decide) (hdb : (x == ("__debug__" : Str)) = false := by decide)
  (he : ∀ env : Env, starEach (e :: es) env = (false, eval e env) :: starEach es env := by intro _; rfl) (hpl : ∀ env : Env, (backTo pos (starEach es env)).any (·.1) = false := by intro _; rfl) : JE S (.Call (.Name x p) (e :: es) [] pos) (aQ m ma) := fun X E c xo =>
 cV (pe_callTy (hc X E c xo) (by show X.env.scope.names.lookup x = _; rw [c.sc]; exact hg) (by rw [c.mg]; exact hm) hv (ha X E c xo) hn hdb (he X.env) (hpl X.env)) fun _ _ _ h => S5 h
end
theorem RepL.one {K : PySem.W.Frag} {I : List Addr} {F : Hp} {d : D} {vs : List V} (h : RepL K I F [d] vs) : ∃ v, vs = [v] ∧ aF K I F d v := by
 simp only [RepL] at h
 obtain ⟨v, r, rfl, h1, rfl⟩ := h
 exact ⟨v, rfl, h1⟩
theorem RepL.two {K : PySem.W.Frag} {I : List Addr} {F : Hp} {d e : D} {vs : List V} (h : RepL K I F [d, e] vs) : ∃ v u, vs = [v, u] ∧ aF K I F d v ∧ aF K I F e u := by
 simp only [RepL] at h
 obtain ⟨v, r, rfl, h1, u, r2, rfl, h2, rfl⟩ := h
 exact ⟨v, u, rfl, h1, h2⟩
theorem EO {K : PySem.W.Frag} {I : List Addr} {F G H : Hp} {w : W} (rel : Rel K I F G w H) {d : D} {v : V} {xs : List D} (h : aF K I F d v) (e : d.items w = some xs) : ∃ a vs, v = .ref a ∧ (SqL K H a vs ∨ SqT K H a vs) ∧ RepL K I F xs vs := by
 cases d <;> simp only [D.items, ai, reduceCtorEq] at e <;> simp only [aF] at h
 case tup => subst e; obtain ⟨a, vs, h0, h1, h2⟩ := h; exact ⟨a, vs, h0, .inr (.of (rel.fz _ _ h1)), h2⟩
 case jL => subst e; obtain ⟨a, vs, h0, h1, h2⟩ := h; exact ⟨a, vs, h0, .inr (rel.LW h1), h2⟩
 case lst => subst e; obtain ⟨a, vs, h0, h1, h2⟩ := h; exact ⟨a, vs, h0, .inl (.of (rel.fz _ _ h1)), h2⟩
 case qF => subst e; obtain ⟨a, vs, h0, h1, h2⟩ := h; exact ⟨a, vs, h0, .inl (rel.U5 h1), h2⟩
 case ref i =>
  split at e
  ·rename_i ys hw
   cases e
   obtain ⟨a, h0, h1⟩ := h
   obtain ⟨u, hu, vs, rfl, h2⟩ := rel.ob i a _ h1 hw
   exact ⟨a, vs, h0, .inl (.of hu), h2⟩
  ·cases e
def FZ (d : D) (w : W) : Option Nat := match d with
 | .str z => if z.length ≤ sizeLine then some z.length else none
 | .ref i => (match w[i]? with
  | some (.lst xs) => some xs.length
  | some (.dK kvs) => some kvs.length
  | _ => none)
 | d => (d.items w).map List.length
def cY : MF := fun ds w => match ds with
 | [d] => (match FZ d w with
  | some n => .ok (.int n) w
  | none => .bad)
 | _ => .bad
def lS : List D → Option (List Int)
 | [] => some []
 | .int i :: r => (lS r).map (i :: ·)
 | _ :: _ => none
theorem nH {K : PySem.W.Frag} {I : List Addr} {F : Hp} : ∀ {ds : List D} {vs : List V} {ns : List Int}, RepL K I F ds vs → lS ds = some ns → vs = ns.map V.int
 | [], vs, ns, h, e => by simp only [lS, ai] at e; subst e; simp only [RepL] at h; exact h
 | d :: ds, vs, ns, h, e => by
  cases d <;> simp only [lS, ao, reduceCtorEq] at e
  obtain ⟨r, e1, rfl⟩ := e
  simp only [RepL, aF] at h
  obtain ⟨v, t, rfl, rfl, h2⟩ := h
  rw [nH h2 e1]
  rfl
def y7 (d : D) (w : W) : Option (List D) := match d with
 | .lst xs => some xs
 | .qF xs => some xs
 | .ref i => (match w[i]? with
  | some (.lst xs) => some xs
  | _ => none)
 | _ => none
def vS (d : D) : Option (List D) := match d with
 | .tup xs => some xs
 | .jL xs => some xs
 | _ => none
theorem KA {K : PySem.W.Frag} {I : List Addr} {F G H : Hp} {w : W} (rel : Rel K I F G w H) {d : D} {v : V} {xs : List D} (h : aF K I F d v) (e : y7 d w = some xs) : ∃ a vs, v = .ref a ∧ SqL K H a vs ∧ RepL K I F xs vs := by
 cases d <;> simp only [y7, ai, reduceCtorEq] at e <;> simp only [aF] at h
 case lst => subst e; obtain ⟨a, vs, h0, h1, h2⟩ := h; exact ⟨a, vs, h0, .of (rel.fz _ _ h1), h2⟩
 case qF => subst e; obtain ⟨a, vs, h0, h1, h2⟩ := h; exact ⟨a, vs, h0, rel.U5 h1, h2⟩
 case ref i =>
  split at e
  ·rename_i ys hw
   cases e
   obtain ⟨a, h0, h1⟩ := h
   obtain ⟨u, hu, vs, rfl, h2⟩ := rel.ob i a _ h1 hw
   exact ⟨a, vs, h0, .of hu, h2⟩
  ·cases e
theorem K1 {K : PySem.W.Frag} {I : List Addr} {F G H : Hp} {w : W} (rel : Rel K I F G w H) {d : D} {v : V} {xs : List D} (h : aF K I F d v) (e : vS d = some xs) : ∃ a vs, v = .ref a ∧ SqT K H a vs ∧ RepL K I F xs vs := by
 cases d <;> simp only [vS, ai, reduceCtorEq] at e <;> simp only [aF] at h
 case tup => subst e; obtain ⟨a, vs, h0, h1, h2⟩ := h; exact ⟨a, vs, h0, .of (rel.fz _ _ h1), h2⟩
 case jL => subst e; obtain ⟨a, vs, h0, h1, h2⟩ := h; exact ⟨a, vs, h0, rel.LW h1, h2⟩
def MK : MF := fun ds w => match ds with
 | [d] => (match (y7 d w).bind lS with
  | some ns => .ok (.int ns.sum) w
  | none => .bad)
 | _ => .bad
def aCG : MF := fun ds w => match ds with
 | [d] => (match d.items w with
  | some xs => .ok (.lst xs) w
  | none => .bad)
 | _ => .bad
def D3 : MF := fun ds w => match ds with
 | [d] => (match d.items w with
  | some xs => .ok (.ref w.length) (w ++ [.lst xs])
  | none => .bad)
 | _ => .bad
def eU : MF := fun ds w => match ds with
 | [.tup xs] => .ok (.tup xs) w
 | [d] => (match y7 d w with
  | some xs => .ok (.tup xs) w
  | none => .bad)
 | _ => .bad
def EC (d : D) (w : W) : Option Str := match d.py w with
 | some p => if p.showable = true ∧ p.hasDict = false ∧ p.depth ≤ 60 ∧ p.shown.length ≤ sizeLine then some p.shown else none
 | none => none
def sM : MF := fun ds w => match ds with
 | [d] => (match EC d w with
  | some z => .ok (.str z) w
  | none => .bad)
 | _ => .bad
def CL : MF := fun ds w => match ds with
 | [.int i] => .ok (.int i) w
 | [.bl b] => .ok (.int (if b then 1 else 0)) w
 | _ => .bad
def max2 : MF := fun ds w => match ds with
 | [.int i, .int j] => .ok (.int (if j > i then j else i)) w
 | _ => .bad
def min2 : MF := fun ds w => match ds with
 | [.int i, .int j] => .ok (.int (if j < i then j else i)) w
 | _ => .bad
section
variable {S : aR}
theorem fT : CB S (.builtin "len") cY := wK fun X E c xo I F G ds w H vs Q rel rl p => by
 unfold cY at p
 split at p
 ·rename_i d
  obtain ⟨v, rfl, rv⟩ := rl.one
  split at p
  ·rename_i n hn
   have go : ∀ {xs : List D}, d.items w = some xs → n = xs.length → ∃ r, CallR X (.builtin "len") r ∧ r [v] H Q := fun {xs} h1 h2 => by
    obtain ⟨a, us, rfl, hq, hr⟩ := EO rel rv h1
    refine ⟨_, call_len, .ref a, n, rfl, ?_, p.mM rel (by simp [aF])⟩
    rw [h2, hr.length]
    rcases hq with hq | hq
    ·exact .inl ⟨us, hq, rfl⟩
    ·exact .inr ⟨us, hq, rfl⟩
   cases d <;> simp only [FZ, D.items, Option.map_some, Option.map_none, ai, reduceCtorEq] at hn
   case str z =>
    split at hn
    ·rename_i hz
     cases hn
     simp only [aF] at rv
     subst rv
     exact ⟨_, call_len, .str z, z.length, rfl, ⟨hz, rfl⟩, p.mM rel (by simp [aF])⟩
    ·cases hn
   case tup => exact go (by simp [D.items]) hn.symm
   case jL => exact go (by simp [D.items]) hn.symm
   case lst => exact go (by simp [D.items]) hn.symm
   case qF => exact go (by simp [D.items]) hn.symm
   case ref i =>
    split at hn
    ·rename_i xs hw
     exact go (by simp [D.items, hw]) (Option.some.inj hn).symm
    ·rename_i kvs hw
     cases hn
     simp only [aF] at rv
     obtain ⟨a, rfl, h1⟩ := rv
     obtain ⟨u, hu, us, rfl, h2⟩ := rel.ob i a _ h1 hw
     exact ⟨_, call_lenD, a, us, rfl, hu, p.mM rel (by simp [aF, h2.length])⟩
    ·cases hn
  ·exact p.elim
 ·exact p.elim
theorem aEi : CB S (.builtin "sum") MK := wK fun X E c xo I F G ds w H vs Q rel rl p => by
 unfold MK at p
 split at p
 ·rename_i d
  obtain ⟨v, rfl, rv⟩ := rl.one
  split at p
  ·rename_i ns hn
   obtain ⟨xs, h1, h2⟩ := cu.mp hn
   obtain ⟨a, us, rfl, hq, hr⟩ := KA rel rv h1
   obtain rfl := nH hr h2
   exact ⟨_, cr_sum c.calm, a, ns, rfl, hq, p.mM rel (by simp [aF])⟩
  ·exact p.elim
 ·exact p.elim
theorem Y8 : CB S (.type "list") D3 := wK fun X E c xo I F G ds w H vs Q rel rl p => by
 unfold D3 at p
 split at p
 ·rename_i d
  obtain ⟨v, rfl, rv⟩ := rl.one
  split at p
  ·rename_i xs hn
   obtain ⟨a, us, rfl, hq, hr⟩ := EO rel rv hn
   exact ⟨_, call_list_of, a, us, rfl, hq, C1 (o := .lst xs) rel ⟨us, rfl, hr⟩ p⟩
  ·exact p.elim
 ·exact p.elim
theorem oG : CB S (.type "tuple") eU := wK fun X E c xo I F G ds w H vs Q rel rl p => by
 unfold eU at p
 split at p
 ·rename_i xs
  obtain ⟨v, rfl, rv⟩ := rl.one
  have rv' := rv
  simp only [aF] at rv'
  obtain ⟨a, us, rfl, h1, h2⟩ := rv'
  exact ⟨_, call_tuple_of, a, us, rfl, .inr ⟨.of (rel.fz _ _ h1), p.mM rel rv⟩⟩
 ·rename_i d _
  obtain ⟨v, rfl, rv⟩ := rl.one
  split at p
  ·rename_i xs hn
   obtain ⟨a, us, rfl, hq, hr⟩ := KA rel rv hn
   exact ⟨_, call_tuple_of, a, us, rfl, .inl ⟨hq, y4 rel hr p⟩⟩
  ·exact p.elim
 ·exact p.elim
theorem aCK : CB S (.type "int") CL := wK fun X E c xo I F G ds w H vs Q rel rl p => by
 unfold CL at p
 split at p
 ·rename_i i
  obtain ⟨v, rfl, rv⟩ := rl.one
  simp only [aF] at rv
  subst rv
  exact ⟨_, call_int1, .inl ⟨i, rfl, p.mM rel (by simp [aF])⟩⟩
 ·rename_i b
  obtain ⟨v, rfl, rv⟩ := rl.one
  simp only [aF] at rv
  subst rv
  exact ⟨_, call_int1, .inr ⟨b, rfl, p.mM rel (by simp [aF])⟩⟩
 ·exact p.elim
theorem aBK : CB S (.builtin "max") max2 := wK fun X E c xo I F G ds w H vs Q rel rl p => by
 unfold max2 at p
 split at p
 ·rename_i i j
  obtain ⟨v, u, rfl, rv, ru⟩ := rl.two
  simp only [aF] at rv ru
  subst rv ru
  exact ⟨_, call_max2 c.calm, i, j, rfl, p.mM rel (by simp [aF])⟩
 ·exact p.elim
theorem S9 : CB S (.builtin "repr") sM := fun X E c xo pins s σ H vs us Q J r ⟨I, F, G, ds, w, rel, rl, p⟩ => by
 unfold sM at p
 split at p
 ·rename_i d
  obtain ⟨v, rfl, rv⟩ := rl.one
  obtain ⟨u, rfl, ru⟩ := vals1 r
  split at p
  ·rename_i z hz
   unfold EC at hz
   split at hz
   ·rename_i q hq
    split at hz
    ·rename_i hc
     cases hz
     obtain ⟨c1, c2, c3, c4⟩ := hc
     obtain ⟨as, rd⟩ := Dp.reads J q v u (yG rel rv hq) ru
     have fin : ∀ (h' : Heap) (t tk : Nat), (∀ b o, s.heap.get? b = some o → h'.get? b = some o) → EP X pins σ Q (.str q.shown t) { s with heap := h', toks := tk } := fun h' t tk hk => ⟨.str q.shown, H, J.kept hk, ⟨_, rfl⟩, p.mM rel (by simp [aF])⟩
     cases u with
     | ref a => exact repr_of_reads' rd c1 (fun z => by rw [c2] at z; cases z) c.WC (by have := c.room.units; omega) (fun _ _ h => h) (fun h' t tk hk => fin h' t tk hk) c4
     | none => cases rd; exact PySem.P.repr_of_none (by have := fin s.heap s.toks (s.toks + 1) fun _ _ h => h; simpa [PyData.shown] using this)
     | bool b => cases rd; exact PySem.P.repr_of_bool (by have := fin s.heap s.toks (s.toks + 1) fun _ _ h => h; simpa [PyData.shown] using this)
     | int i t => cases rd; exact PySem.P.repr_of_int (by simpa [PyData.showable] using c1) (by have := fin s.heap s.toks (s.toks + 1) fun _ _ h => h; simpa [PyData.shown] using this)
     | str x t => cases rd; exact PySem.P.repr_of_str (by have := fin s.heap s.toks (s.toks + 1) fun _ _ h => h; simpa [PyData.shown] using this) (by simpa [PyData.shown] using c4)
     | _ => cases rd
    ·cases hz
   ·cases hz
  ·exact p.elim
 ·exact p.elim
end
abbrev TC := D → List D → W → Res D
def aFZ (K : PySem.W.Frag) (E : XK) (m : TC) : V → List V → Hp → VK → Prop := fun x vs H Q => ∃ I F G d ds w, Rel K I F G w H ∧ aF K I F d x ∧ RepL K I F ds vs ∧ aY K I F G E (RV K Q) (m d ds w)
def MB (S : aR) (id : String) (m : TC) : Prop := ∀ X E, Ctx S X → q8 X E → MtR X id (aFZ X.K E m)
def LZ (d : D) (w : W) : Option String := match d with
 | .str _ => some "str"
 | .lst _ => some "list"
 | .qF _ => some "list"
 | .ref i => (match w[i]? with
  | some (.lst _) => some "list"
  | some (.dK _) => some "dict"
  | some (.dT _) => some "dict"
  | some (.dG _) => some "dict"
  | _ => none)
 | _ => none
def aCO (K : PySem.W.Frag) (T : String) (x : V) (H : Hp) : Prop := tyV K T x H ∨ (T = "dict" ∧ ∃ p o kvs, x = .ref p ∧ H p = some (.frz o (.dT kvs)))
theorem aA5 {X : Cx} {pins : List (Addr × Obj)} {σ : L2.St} {H : Hp} {s : Shared} {T : String} {x : V} {v : Value} (I : Inv X pins σ H s) (r : RelV x v) (ty : aCO X.K T x H) :
  s.TypeIs v T ∧ ∀ a, v = .ref a → ∃ ob, s.heap.get? a = some ob ∧ ob.dict = none := by
 rcases ty with ty | ⟨rfl, p, o, kvs, rfl, hp⟩
 ·exact tyV_is I r ty
 ·cases r
  obtain ⟨_, hgd, ex, _⟩ := I.frzT hp
  exact ⟨⟨o, hgd, ex.1⟩, fun a e => by cases e; exact ⟨o, hgd, ex.2.1⟩⟩
def aF5 (K : PySem.W.Frag) (T : String) (r : V → List V → Hp → VK → Prop) (to : TE) (t : TA) : TE := fun σ H Q => to σ H fun x H1 => aCO K T x H1 ∧ t σ H1 fun xs H2 => r x xs H2 Q
section
variable {X : Cx} {o e : Expr} {es : List Expr} {to : TE} {t : TA} {name : Str} {apos cpos : Pos} {T id : String} {r : V → List V → Hp → VK → Prop}
theorem aEj (pa : PlainAttrs T) (slot : Slot T name id) (hty : typeOf (.builtin id) = pure (.type "method_descriptor")) (hm : MtR X id r) (ho : PE X o to) (ha : PA X (e :: es) t)
  (hbase : attributeBase o name X.env (eval o X.env) = eval o X.env := by rfl)
  (hfew : ((backTo cpos (starEach (e :: es) X.env)).all (fun x => !x.1) && (backToKw cpos (keywordEach [] X.env)).all (fun x => x.1.isSome)
   && decide ((e :: es).length + ([] : List Keyword).length + (if ([] : List Keyword).isEmpty then 0 else 1) < 30)) = true := by rfl)
  (hline : (apos.endLine == cpos.line) = true := by rfl) (hs : starEach (e :: es) X.env = (false, eval e X.env) :: starEach es X.env := by rfl) (hplain : (backTo cpos (starEach es X.env)).any (·.1) = false := by rfl) :
  PE X (.Call (.Attribute o name apos) (e :: es) [] cpos) (aF5 X.K T r to t) := by
 refine ⟨fun pins s σ H Q I h => ?_⟩
 refine wpAny_Call_method_late hbase hfew hline rfl (thn (ho.run pins s σ H _ I h) fun v s1 ⟨x, H1, I1, r1, ty, q1⟩ => ?_)
 obtain ⟨h1, h2⟩ := aA5 I1 r1 ty
 refine ⟨T, id, pa, slot, hty, h1, h2, ?_⟩
 have hA := ha.run cpos pins s1 σ H1 _ I1 q1
 rw [hs] at hA ⊢
 refine Calls.callWith_builtin (by show (false || (backTo cpos (starEach es X.env)).any (·.1)) = false; rw [hplain] <;> rfl) (Calls.evalArgs_plain ?_)
 exact thn hA fun us s2 ⟨vs, H2, I2, r2, q2⟩ => hm pins s2 σ H2 x vs v us Q I2 r1 r2 q2
end
theorem aDq {K : PySem.W.Frag} {I : List Addr} {F G H : Hp} {w : W} (rel : Rel K I F G w H) {d : D} {v : V} (h : aF K I F d v) {T : String} (e : LZ d w = some T) : aCO K T v H := by
 cases d <;> simp only [LZ, ai, reduceCtorEq] at e <;> simp only [aF] at h
 case str => subst h; exact .inl e.symm
 case lst => obtain ⟨a, vs, rfl, h1, h2⟩ := h; exact .inl (.inl ⟨e.symm, vs, .of (rel.fz _ _ h1)⟩)
 case qF => obtain ⟨a, vs, rfl, h1, h2⟩ := h; exact .inl (.inl ⟨e.symm, vs, rel.U5 h1⟩)
 case ref i =>
  obtain ⟨a, rfl, h1⟩ := h
  split at e
  ·rename_i xs hw
   cases e
   obtain ⟨u, hu, vs, rfl, _⟩ := rel.ob i a _ h1 hw
   exact .inl (.inl ⟨rfl, vs, .of hu⟩)
  ·rename_i xs hw
   cases e
   obtain ⟨u, hu, vs, rfl, _⟩ := rel.ob i a _ h1 hw
   exact .inl (.inr (.inr (.inl ⟨rfl, .inl ⟨vs, hu⟩⟩)))
  ·rename_i xs hw
   cases e
   obtain ⟨u, hu, vs, rfl, _⟩ := rel.ob i a _ h1 hw
   exact .inl (.inr (.inr (.inl ⟨rfl, .inr ⟨vs, hu⟩⟩)))
  ·rename_i xs hw
   cases e
   obtain ⟨u, hu, ob, vs, rfl, _⟩ := rel.ob i a _ h1 hw
   exact .inr ⟨rfl, a, ob, vs, rfl, hu⟩
  ·cases e
def b7 (T : String) (m : TC) (mo : ME) (ma : MA) : ME := fun σ w => (mo σ w).bind fun d w1 => if LZ d w1 = some T then (ma σ w1).bind fun xs w2 => m d xs w2 else .bad
section
variable {S : aR} {m : TC} {o e : Expr} {es : List Expr} {mo : ME} {ma : MA} {name : Str} {apos cpos : Pos} {T id : String}
theorem eR (pa : PlainAttrs T) (slot : Slot T name id) (hm : MB S id m) (ho : JE S o mo) (ha : JA S (e :: es) ma) (hty : typeOf (.builtin id) = pure (.type "method_descriptor") := by rfl)
  (hbase : ∀ env : Env, attributeBase o name env (eval o env) = eval o env := by intro _; rfl)
  (hfew : ∀ env : Env, ((backTo cpos (starEach (e :: es) env)).all (fun x => !x.1) && (backToKw cpos (keywordEach [] env)).all (fun x => x.1.isSome)
   && decide ((e :: es).length + ([] : List Keyword).length + (if ([] : List Keyword).isEmpty then 0 else 1) < 30)) = true := by intro _; rfl)
  (hline : (apos.endLine == cpos.line) = true := by rfl) (hs : ∀ env : Env, starEach (e :: es) env = (false, eval e env) :: starEach es env := by intro _; rfl) (hplain : ∀ env : Env, (backTo cpos (starEach es env)).any (·.1) = false := by intro _; rfl) :
  JE S (.Call (.Attribute o name apos) (e :: es) [] cpos) (b7 T m mo ma) := fun X E c xo =>
 cV (aEj pa slot hty (hm X E c xo) (ho X E c xo) (ha X E c xo) (hbase X.env) (hfew X.env) hline (hs X.env) (hplain X.env)) fun σ H Q ⟨I, F, G, ds, w, rel, rs, p⟩ =>
  bO (f := fun ds d w1 => if LZ d w1 = some T then (ma ds w1).bind fun xs w2 => m d xs w2 else .bad) rel rs p fun I1 F1 H1 d w1 v e1 rel1 rs1 rv p1 => by
   split at p1
   ·rename_i ht
    refine ⟨aDq rel1 rv ht, ?_⟩
    exact dR (f := fun _ xs w2 => m d xs w2) rel1 rs1 p1 fun I2 F2 H2 xs w2 vs e2 rel2 rs2 rvs p2 => ⟨I2, F2, G, d, xs, w2, rel2, aF.ext e2 _ _ rv, rvs, p2⟩
   ·exact p1.elim
theorem IB {id : String} (h : ∀ (X : Cx) (E : XK), Ctx S X → q8 X E → ∀ (I : List Addr) (F G : Hp) (d : D) (ds : List D) (w : W) (H : Hp) (x : V) (vs : List V) (Q : VK), Rel X.K I F G w H → aF X.K I F d x → RepL X.K I F ds vs → aY X.K I F G E (RV X.K Q) (m d ds w) →
  ∃ r, MtR X id r ∧ r x vs H Q) : MB S id m := fun X E c xo pins s σ H x vs v us Q J rx rv ⟨I, F, G, d, ds, w, rel, rd, rl, p⟩ => by
 obtain ⟨r', h1, h2⟩ := h X E c xo I F G d ds w H x vs Q rel rd rl p
 exact h1 pins s σ H x vs v us Q J rx rv h2
end
def gG : TC := fun d ds w => match d, ds with
 | .ref i, [y] => (match w[i]? with
  | some (.lst xs) => if xs.length < sizeLine then .ok .non (w.set i (.lst (xs ++ [y]))) else .bad
  | _ => .bad)
 | _, _ => .bad
def AQ : TC := fun d ds w => match d, ds with
 | .ref i, [.int n] => (match w[i]? with
  | some (.lst xs) => if -(2 ^ 63) ≤ n ∧ n < 2 ^ 63 then (match seqIndex? n xs.length with
   | some k => (match xs[k]? with
    | some y => .ok y (w.set i (.lst (xs.eraseIdx k)))
    | none => .bad)
   | none => .bad) else .bad
  | _ => .bad)
 | _, _ => .bad
def vJ : TC := fun d ds w => match d, ds with
 | .ref i, [.lst zs] => (match w[i]? with
  | some (.lst xs) => if xs.length + zs.length ≤ sizeLine then .ok .non (w.set i (.lst (xs ++ zs))) else .bad
  | _ => .bad)
 | .ref i, [.ref j] => (match w[i]?, w[j]? with
  | some (.lst xs), some (.lst zs) => if xs.length + zs.length ≤ sizeLine then .ok .non (w.set i (.lst (xs ++ zs))) else .bad
  | _, _ => .bad)
 | _, _ => .bad
section
variable {K : PySem.W.Frag} {I : List Addr} {F : Hp}
theorem RepL.dropLast {ds : List D} {vs : List V} (r : RepL K I F ds vs) : RepL K I F ds.dropLast vs.dropLast := by
 rw [List.dropLast_eq_take, List.dropLast_eq_take, ← r.length]
 exact r.take _
theorem RepL.eraseIdx {ds : List D} {vs : List V} (r : RepL K I F ds vs) (i : Nat) : RepL K I F (ds.eraseIdx i) (vs.eraseIdx i) := by
 rw [List.eraseIdx_eq_take_drop_succ, List.eraseIdx_eq_take_drop_succ]
 exact (r.take _).append (r.drop _)
end
section
variable {S : aR}
theorem XQ : MB S "list.pop" AQ := IB fun X E c xo I F G d ds w H x vs Q rel rd rl p => by
 unfold AQ at p
 split at p
 ·rename_i i n
  simp only [aF] at rd
  obtain ⟨a, rfl, hi⟩ := rd
  obtain ⟨t, rfl, rt⟩ := rl.one
  simp only [aF] at rt
  subst rt
  split at p
  ·rename_i xs hw
   obtain ⟨u, hu, us, rfl, hr⟩ := rel.ob i a _ hi hw
   split at p
   ·rename_i hn
    split at p
    ·rename_i k hk
     split at p
     ·rename_i y hy
      obtain ⟨v, hv, rv⟩ := hr.get hy
      exact ⟨_, mt_popAt, a, us, n, k, v, rfl, rfl, hu, hn.1, hn.2, by rw [← hr.length]; exact hk, hv, p.mM (rel.upd hi hw ⟨_, rfl, hr.eraseIdx k⟩) rv⟩
     ·exact p.elim
    ·exact p.elim
   ·exact p.elim
  ·exact p.elim
 ·exact p.elim
theorem HQ : MB S "list.extend" vJ := IB fun X E c xo I F G d ds w H x vs Q rel rd rl p => by
 unfold vJ at p
 split at p
 ·rename_i i zs
  simp only [aF] at rd
  obtain ⟨a, rfl, hi⟩ := rd
  obtain ⟨t, rfl, rt⟩ := rl.one
  simp only [aF] at rt
  obtain ⟨b, ts, rfl, hb, rt⟩ := rt
  split at p
  ·rename_i xs hw
   obtain ⟨u, hu, us, rfl, hr⟩ := rel.ob i a _ hi hw
   split at p
   ·rename_i hl
    exact ⟨_, mt_extend, a, b, us, ts, rfl, rfl, hu, rel.fz _ _ hb, by rw [← hr.length, ← rt.length]; exact hl, p.mM (rel.upd hi hw ⟨_, rfl, hr.append rt⟩) (by simp [aF])⟩
   ·exact p.elim
  ·exact p.elim
 ·rename_i i j
  simp only [aF] at rd
  obtain ⟨a, rfl, hi⟩ := rd
  obtain ⟨t, rfl, rt⟩ := rl.one
  simp only [aF] at rt
  obtain ⟨b, rfl, hj⟩ := rt
  split at p
  ·rename_i xs zs hw hz
   obtain ⟨u, hu, us, rfl, hr⟩ := rel.ob i a _ hi hw
   obtain ⟨u2, hu2, ts, rfl, rt⟩ := rel.ob j b _ hj hz
   split at p
   ·rename_i hl
    exact ⟨_, mt_extend, a, b, us, ts, rfl, rfl, hu, hu2, by rw [← hr.length, ← rt.length]; exact hl, p.mM (rel.upd hi hw ⟨_, rfl, hr.append rt⟩) (by simp [aF])⟩
   ·exact p.elim
  ·exact p.elim
 ·exact p.elim
end
def oB (x y : D) (w : W) : Option Bool := match x.py w, y.py w with
 | some p, some (.list qs) => if SeqAt.shaped p = true ∧ SeqAt.shaped (.list qs) = true then some (qs.any fun z => PyData.eqv z p) else none
 | some p, some (.tuple qs) => if SeqAt.shaped p = true ∧ SeqAt.shaped (.tuple qs) = true then some (qs.any fun z => PyData.eqv z p) else none
 | _, _ => none
def inD (x y : D) (w : W) : Option Bool := match y with
 | .ref i => (match w[i]? with
  | some (.dK kvs) => (sO (.dK kvs) x).map Option.isSome
  | some (.dT kvs) => (sO (.dT kvs) x).map Option.isSome
  | _ => oB x y w)
 | y => oB x y w
def M5 (x y : D) (w : W) : Res D := match inD x y w with
 | some b => .ok (.bl b) w
 | none => .bad
def ZA (x y : D) (w : W) : Res D := match inD x y w with
 | some b => .ok (.bl (!b)) w
 | none => .bad
def aEY (K : PySem.W.Frag) : R2 := fun x y H Q => ∃ d ds, Dp K H x d ∧ Dp K H y (.tuple ds) ∧ SeqAt.shaped d = true ∧ SeqAt.shaped (.tuple ds) = true ∧ Q (.bl (ds.any fun z => PyData.eqv z d)) H
theorem aAT {X : Cx} (hu : X.A.units + 65 < cLine) : OpR X (compareOp .In) (aEY X.K) := by
 intro pins s σ H x y v u Q I rx ry h
 obtain ⟨d, ds, hd, he, sd, se, q⟩ := h
 obtain ⟨as, r1⟩ := Dp.reads I d x v hd rx
 obtain ⟨bs, r2⟩ := Dp.reads I (.tuple ds) y u he ry
 exact SeqAt.in_tuple_reads r2 r1 (SeqAt.canLay_of_shaped se) (SeqAt.canLay_of_shaped sd) (room_in_shaped sd hu) ⟨.bl _, H, I, rfl, q⟩
theorem VB {X : Cx} (hu : X.A.units + 1 < cLine) : OpR X (compareOp .In) (fun x y H Q => ∃ a q, y = .ref a ∧ DGet H a x q ∧ Q (.bl q.isSome) H) := by
 intro pins s σ H x y v u Q J rx ry h
 obtain ⟨a, q, ey, g, hq⟩ := h
 subst ey
 cases ry
 exact d_in hu J g rx fun s' J' => ⟨.bl _, H, J', rfl, hq⟩
theorem OS.isSome {K : PySem.W.Frag} {I : List Addr} {F : Hp} {d : Option D} {q : Option V} (h : OS K I F d q) : q.isSome = d.isSome := by
 cases d with
 | none => rw [show q = none from h]; rfl
 | some d => obtain ⟨v, rfl, _⟩ := h; rfl
section
variable {S : aR}
theorem Z6 {X : Cx} {I : List Addr} {F G : Hp} {d e : D} {w : W} {H : Hp} {x y : V} (rel : Rel X.K I F G w H) (rd : aF X.K I F d x) (re : aF X.K I F e y) {b : Bool} (h : oB d e w = some b) :
  ∃ p qs, Dp X.K H x p ∧ SeqAt.shaped p = true ∧ b = (qs.any fun z => PyData.eqv z p) ∧ ((Dp X.K H y (.list qs) ∧ SeqAt.shaped (.list qs) = true) ∨ (Dp X.K H y (.tuple qs) ∧ SeqAt.shaped (.tuple qs) = true)) := by
 unfold oB at h
 split at h
 ·rename_i p qs h1 h2
  split at h
  ·rename_i hs
   cases h
   exact ⟨p, qs, yG rel rd h1, hs.1, rfl, .inl ⟨yG rel re h2, hs.2⟩⟩
  ·cases h
 ·rename_i p qs h1 h2
  split at h
  ·rename_i hs
   cases h
   exact ⟨p, qs, yG rel rd h1, hs.1, rfl, .inr ⟨yG rel re h2, hs.2⟩⟩
  ·cases h
 ·cases h
theorem aEb {X : Cx} {I : List Addr} {F G : Hp} {d e : D} {w : W} {H : Hp} {x y : V} (rel : Rel X.K I F G w H) (rd : aF X.K I F d x) (re : aF X.K I F e y) {b : Bool} (h : inD d e w = some b) :
  oB d e w = some b ∨ ∃ a q, y = .ref a ∧ DGet H a x q ∧ q.isSome = b := by
 unfold inD at h
 split at h
 ·rename_i i
  simp only [aF] at re
  obtain ⟨a, rfl, hi⟩ := re
  split at h
  ·rename_i kvs hw
   simp only [ao] at h
   obtain ⟨r, h1, rfl⟩ := h
   obtain ⟨q, g, hr⟩ := JR rel hi hw rd h1
   exact .inr ⟨a, q, rfl, g, hr.isSome⟩
  ·rename_i kvs hw
   simp only [ao] at h
   obtain ⟨r, h1, rfl⟩ := h
   obtain ⟨q, g, hr⟩ := JR rel hi hw rd h1
   exact .inr ⟨a, q, rfl, g, hr.isSome⟩
  ·exact .inl h
 ·exact .inl h
theorem aCD : O2 S (compareOp .In) M5 := hV fun X E c xo I F G d e w H x y Q rel rd re p => by
 unfold M5 at p
 split at p
 ·rename_i b hb
  have hu := c.room.un
  rcases aEb rel rd re hb with h | ⟨a, q, rfl, g, rfl⟩
  ·obtain ⟨pp, qs, h1, h2, rfl, h3 | h3⟩ := Z6 rel rd re h
   ·exact ⟨_, op_inD (by omega), pp, qs, h1, h3.1, h2, h3.2, p.mM rel (by simp [aF])⟩
   ·exact ⟨_, aAT (by omega), pp, qs, h1, h3.1, h2, h3.2, p.mM rel (by simp [aF])⟩
  ·exact ⟨_, VB (by omega), a, q, rfl, g, p.mM rel (by simp [aF])⟩
 ·exact p.elim
end
open PySem.W (EachIs AllAlike Sortable alike dataLe)
def aFm (w : W) (d : D) : PyData := (d.py w).getD .none
def aAi : PyData → Bool
 | .tuple (_ :: _) => true
 | _ => false
def T9 : PyData → Bool
 | .none => false
 | .tuple _ => false
 | _ => true
def pS (ps : List PyData) : Bool := (ps.all fun p => ps.all fun q => alike p q) && (ps.all aAi || ps.all T9) && ps.all fun p => decide (p.depth ≤ 60)
theorem pS.h1 {ps : List PyData} (h : pS ps = true) : AllAlike ps := by
 simp only [pS, ar, br] at h
 exact fun d hd e he => h.1.1 d hd e he
theorem pS.h2 {ps : List PyData} (h : pS ps = true) : Sortable ps := by
 simp only [pS, ar, Bool.or_eq_true, br] at h
 rcases h.1.2 with h | h
 ·refine .inl fun d hd => ?_
  have := h d hd
  unfold aAi at this
  split at this
  ·exact ⟨_, _, rfl⟩
  ·cases this
 ·refine .inr fun d hd => ?_
  have := h d hd
  unfold T9 at this
  split at this
  ·cases this
  ·cases this
  ·rename_i n1 n2
   exact ⟨n1, fun xs z => n2 xs z⟩
theorem pS.h3 {ps : List PyData} (h : pS ps = true) : ∀ p ∈ ps, p.depth ≤ 60 := by
 simp only [pS, ar, br, aq] at h
 exact h.2
def aFe (xs : List D) (w : W) : Option (List D) := if xs.all (fun d => (d.py w).isSome) = true ∧ pS (xs.map (aFm w)) = true ∧ xs.length ≤ sizeLine then some (xs.mergeSort (dataLe false (aFm w))) else none
def TY : MF := fun ds w => match ds with
 | [d] => (match (y7 d w).bind fun xs => aFe xs w with
  | some ys => .ok (.lst ys) w
  | none => .bad)
 | _ => .bad
def uJ (f : Str) (v : D) : List (Str × D) → List (Str × D)
 | [] => [(f, v)]
 | (g, x) :: r => if g = f then (g, v) :: r else (g, x) :: uJ f v r
theorem aS.lookup {K : PySem.W.Frag} {I : List Addr} {F : Hp} {κ : Type} [BEq κ] (k : κ) : ∀ {kvs : List (κ × D)} {r : List (κ × V)}, aS K I F kvs r → OS K I F (kvs.lookup k) (r.lookup k)
 | [], r, h => by simp only [aS] at h; subst h; rfl
 | (j, d) :: kvs, r, h => by
  simp only [aS] at h
  obtain ⟨v, t, rfl, h1, h2⟩ := h
  simp only [List.lookup]
  cases e : (k == j) with
  | true => exact ⟨v, rfl, h1⟩
  | false => exact aS.lookup k h2
theorem aS.uJ {K : PySem.W.Frag} {I : List Addr} {F : Hp} (f : Str) {d : D} {v : V} (hv : aF K I F d v) : ∀ {kvs : List (Str × D)} {r : List (Str × V)}, aS K I F kvs r → aS K I F (Pc.uJ f d kvs) (putF f v r)
 | [], r, h => by simp only [aS] at h; subst h; simp only [Pc.uJ, putF, aS]; exact ⟨v, [], rfl, hv, rfl⟩
 | (j, x) :: kvs, r, h => by
  simp only [aS] at h
  obtain ⟨u, t, rfl, h1, h2⟩ := h
  simp only [Pc.uJ, putF]
  by_cases e : j = f
  ·rw [if_pos e, if_pos e]; simp only [aS]; exact ⟨v, t, rfl, hv, h2⟩
  ·rw [if_neg e, if_neg e]; simp only [aS]; exact ⟨u, _, rfl, h1, aS.uJ f hv h2⟩
def oQ (C : Addr) (f : Str) (d : D) (w : W) : Res D := match d with
 | .ref i => (match w[i]? with
  | some (.ins C' fs) => if C' = C then (match fs.lookup f with
   | some x => .ok x w
   | none => .bad) else .bad
  | _ => .bad)
 | _ => .bad
def sL (C : Addr) (f : Str) (d x : D) (w : W) : Res Unit := match d with
 | .ref i => (match w[i]? with
  | some (.ins C' fs) => if C' = C ∧ fs.length < 1000 then .ok () (w.set i (.ins C (uJ f x fs))) else .bad
  | _ => .bad)
 | _ => .bad
def bG (C : Addr) (f : Str) (m : ME) : ME := AF (oQ C f) m
def cI (C : Addr) (f : Str) (mo mv : ME) : MS := fun σ w => (mv σ w).bind fun x w1 => (mo σ w1).bind fun d w2 => (sL C f d x w2).bind fun _ w3 => .ok (.nx σ) w3
section
variable {S : aR} {C : Addr} {f : Str} {o e : Expr} {mo mv : ME} {pos pos' : Pos}
theorem cF (hc : Cls S.K C) (hn : NoAttr S.K C f) (ho : JE S o mo) (hb : ∀ env : Env, attributeBase o f env (eval o env) = eval o env := by intro _; rfl) : JE S (.Attribute o f pos) (bG C f mo) := fun X E cx xo =>
 cV (pe_fld (ho X E cx xo) (hb X.env)) fun σ H Q ⟨I, F, G, ds, w, rel, rs, p⟩ => bO (f := fun _ d w1 => oQ C f d w1) rel rs p fun I1 F1 H1 d w1 v e1 rel1 rs1 rv pp => by
  unfold oQ at pp
  split at pp
  ·rename_i i
   simp only [aF] at rv
   obtain ⟨a, rfl, hi⟩ := rv
   split at pp
   ·rename_i C' fs hw
    obtain ⟨u, hu, dx, r, rfl, hr⟩ := rel1.ob i a _ hi hw
    split at pp
    ·rename_i hC
     subst hC
     have hl := hr.lookup f
     split at pp
     ·rename_i x hx
      rw [hx] at hl
      obtain ⟨t, ht, rt⟩ := hl
      exact ⟨a, C', dx, r, t, rfl, hu, by rw [cx.K]; exact hc, by rw [cx.K]; exact hn, ht, pp.mM rel1 rt⟩
     ·exact pp.elim
    ·exact pp.elim
   ·exact pp.elim
  ·exact pp.elim
theorem dQ (hc : Cls S.K C) (hn : NoAttr S.K C f) (ho : JE S o mo) (hv : JE S e mv) (hs : ∀ env : Env, swapsWith e (some (.Attribute o f pos')) pos.line env = pure false := by intro _; rfl) : JS S (.Assign [.Attribute o f pos'] e pos) (cI C f mo mv) := fun X E cx xo =>
 jQ (ps_fld (ho X E cx xo) (hv X E cx xo) (hs X.env)) fun Z σ H ⟨I, F, G, ds, w, rel, rs, p⟩ => bO (f := fun ds x w1 => (mo ds w1).bind fun d w2 => (sL C f d x w2).bind fun _ w3 => Res.ok (Fl.nx ds) w3) rel rs p fun I1 F1 H1 x w1 v e1 rel1 rs1 rv p1 =>
  bO (f := fun ds d w2 => (sL C f d x w2).bind fun _ w3 => Res.ok (Fl.nx ds) w3) rel1 rs1 p1 fun I2 F2 H2 d w2 u e2 rel2 rs2 ru pp => by
   unfold sL at pp
   split at pp
   ·rename_i i
    simp only [aF] at ru
    obtain ⟨a, rfl, hi⟩ := ru
    split at pp
    ·rename_i C' fs hw
     obtain ⟨t, hu, dx, r, rfl, hr⟩ := rel2.ob i a _ hi hw
     split at pp
     ·rename_i hC
      obtain ⟨rfl, hl⟩ := hC
      have e0 : fs.length = r.length := hr.length
      exact ⟨a, C', dx, r, rfl, hu, by rw [cx.K]; exact hc, by rw [cx.K]; exact hn, by rw [← e0]; exact hl,
       pp I2 F2 _ .refl (rel2.upd (o' := .ins C' (uJ f x fs)) hi hw ⟨dx, _, rfl, hr.uJ f (aF.ext e2 _ _ rv)⟩) σ rs2⟩
     ·exact pp.elim
    ·exact pp.elim
   ·exact pp.elim
end
theorem DV {K : PySem.W.Frag} {I : List Addr} {F G H : Hp} {w : W} (rel : Rel K I F G w H) {q : Addr} (hq : H q = none) (u : HO) : Rel K I F G w (upd H q u) := by
 refine ⟨rel.len, rel.nd, fun i a o h1 h2 => ?_, fun a t h => ?_, rel.ap, fun a t h => ?_, rel.gf, rel.gt⟩
 ·obtain ⟨t, h3, h4⟩ := rel.ob i a o h1 h2
  exact ⟨t, by rw [upd_ne (ne_of_none h3 hq)]; exact h3, h4⟩
 ·rw [upd_ne (ne_of_none (rel.fz a t h) hq)]; exact rel.fz a t h
 ·rw [upd_ne (ne_of_none (rel.gz a t h) hq)]; exact rel.gz a t h
theorem VE {K : PySem.W.Frag} {I : List Addr} {F G H : Hp} {E : XK} {w : W} {o : MO} {u : HO} (rel : Rel K I F G w H) (r : m3 K I F o u) {q : Addr} (hq : H q = none) : ∃ I' F', Ext I F I' F' ∧ Rel K I' F' G (w ++ [o]) (upd H q u) ∧ aF K I' F' (.ref w.length) (.ref q) :=
 C1 (E := E) (Q := fun v H1 => ∃ I' F', Ext I F I' F' ∧ Rel K I' F' G (w ++ [o]) H1 ∧ aF K I' F' (.ref w.length) v) rel r (fun I' F' H' e rel' v rv => ⟨I', F', e, rel', rv⟩) q hq
def qG (m : MF) (C : Addr) (xs : List D → List D) (w : W) : Res D := (m (xs [.ref w.length]) (w ++ [.ins C []])).bind fun r w1 => match r with
 | .non => .ok (.ref w.length) w1
 | _ => .bad
def OM (C : Addr) (m : MF) (n : Nat) (gd : List D → List D → List D) (ma : MA) : ME := fun σ w => (ma σ w).bind fun xs w1 => if xs.length = n then qG m C (fun s => gd (s ++ xs) []) w1 else .bad
def xW (C : Addr) (m : MF) (n j : Nat) (gd : List D → List D → List D) (ma mk : MA) : ME := fun σ w => (ma σ w).bind fun xs w1 => (mk σ w1).bind fun zs w2 => if xs.length = n ∧ zs.length = j then qG m C (fun s => gd (s ++ xs) zs) w2 else .bad
theorem run_mk {X : Cx} {pins : List (Addr × Obj)} {σ : L2.St} {H : Hp} {s : Shared} {Q : VK} {E : XK} {k : Nat} {f C : Addr} {fd : FuncData} {ps ks : List Str} {m : MF} {n : Nat} {gd : List D → List D → List D} {I : List Addr} {F G : Hp} {xs zs : List D} {w : W} {us ws : List Value} {vs ys : List V}
  (M : Mk X.K C f) (xo : q8 X E) (Gf : fV X.prog X.w X.K X.mg X.base k f fd ps m) (B : cO X.K fd ps (n + 1) ks gd) (hr : Room (k + 1) X.A) (hg : X.A.guards = some []) (J : Inv X pins σ H s) (rel : Rel X.K I F G w H) (rx : RepL X.K I F xs vs) (rz : RepL X.K I F zs ys)
  (r : Vals vs us) (q : Vals ys ws) (h1 : xs.length = n) (h2 : zs.length = ks.length) (p : aY X.K I F G E (RV X.K Q) (qG m C (fun s => gd (s ++ xs) zs) w)) : wpAny (model X.prog X.w) X.A (call (.ref C) us (ks.zip ws)) (EP X pins σ Q) X.xe s := by
 obtain ⟨g, gV, kb, rep⟩ := B.ex
 have f1 : H (s.heap.objs.size + 1) = none := J.hok.fresh (Nat.le_succ _)
 have f2 : H s.heap.objs.size = none := J.hok.fresh (av _)
 have J2 := Inv.made (C := C) J
 have r1 : Vals (V.ref (s.heap.objs.size + 1) :: vs) (Value.ref (s.heap.objs.size + 1) :: us) := .cons rfl r
 have r2 := kb.rel r1 q
 have n1 : (Value.ref (s.heap.objs.size + 1) :: us).length = n + 1 := by
  rw [List.length_cons, ← r.length, ← rx.length, h1]
 have f3 : (upd H s.heap.objs.size (.own (s.heap.objs.size + 1))) (s.heap.objs.size + 1) = none := by
  rw [upd_ne (Nat.succ_ne_self _)]; exact f1
 obtain ⟨I', F', ee, rel', rn⟩ := VE (E := E) (DV rel f2 (.own (s.heap.objs.size + 1))) (o := .ins C []) (u := .ins C s.heap.objs.size []) ⟨_, [], rfl, by simp [aS]⟩ f3
 have rxs : RepL X.K I' F' ([.ref w.length] ++ xs) (V.ref (s.heap.objs.size + 1) :: vs) := RepL.cons rn (RepL.ext ee _ _ rx)
 have r3 := rep I' F' _ _ zs ys rxs (RepL.ext ee _ _ rz)
 have hl : (gV (V.ref (s.heap.objs.size + 1) :: vs) ys).length = ps.length := by rw [← r3.length]; exact B.len _ zs (by simp [h1]) h2
 have pp : aY X.K I' F' G E (RV X.K fun v H2 => v = .non ∧ Q (.ref (s.heap.objs.size + 1)) H2) (m (gd ([.ref w.length] ++ xs) zs) (w ++ [.ins C []])) := by
  refine (aY.bind (p.ext ee)).mono fun I1 F1 H1 d w1 _ e1 rel1 p1 v rv => ?_
  cases d <;> first | exact p1.elim | skip
  simp only [aF] at rv
  exact ⟨rv, p1.mM rel1 (aF.ext e1 _ _ rn)⟩
 refine wpAny_call (make_map (f := f) J.kIn M.makes M.init (beq_iff_eq.mp M.fn) (codeAny_mono (Gf.run _ X.stack _ _ ⟨Value.ref (s.heap.objs.size + 1) :: us, ks.zip ws⟩ (g (Value.ref (s.heap.objs.size + 1) :: us) ws) _ _ E (hr.make C us (ks.zip ws)) hg
  (J2.env0.make C us (ks.zip ws)) (kb.to _ (Value.ref (s.heap.objs.size + 1) :: us) ws J2.kIn n1 (by rw [← q.length, ← rz.length]; exact h2)) r2 hl ⟨I', F', G, _, _, rel', r3, pp⟩) fun r s' hq' => ?_))
 cases r with
 | error e => exact passes_call xo.tk (fun _ _ _ _ h => h) pins σ _ _ e s' J2 hq'
 | ok fl =>
  cases fl with
  | ret u =>
   obtain ⟨v, H', I3, rv, ev, q3⟩ := J2.after hq'
   subst ev
   exact ⟨rv, ⟨V.ref (s.heap.objs.size + 1), H', I3, rfl, q3⟩⟩
  | next => exact False.elim hq'
  | brk => exact False.elim hq'
  | cont => exact False.elim hq'
section
variable {S : aR} {k n : Nat} {f C : Addr} {fd : FuncData} {ps ks : List Str} {m : MF} {gd : List D → List D → List D} {x : Str} {p pos kpos : Pos} {e : Expr} {es : List Expr} {kws : List Keyword} {ma mk : MA} {me : ME} {nm : Option Str}
theorem X2 (hk : k + 1 ≤ S.k) (M : Mk S.K C f) (Gf : fV S.P S.w S.K S.mg S.base k f fd ps m) (B : cO S.K fd ps (n + 1) ks gd) (hg : S.sc.names.lookup x = some .globalImplicit) (hm : S.mg x = some (.ref C)) (ha : JA S (e :: es) ma) (hkw : JK S kws mk)
  (hall : ∀ env : Env, (backToKw pos (keywordEach kws env)).all (·.1.isSome) = true := by intro _; rfl) (hks : ∀ env : Env, (backToKw pos (keywordEach kws env)).filterMap (·.1) = ks := by intro _; rfl)
  (hdb : (x == ("__debug__" : Str)) = false := by decide) (he : ∀ env : Env, starEach (e :: es) env = (false, eval e env) :: starEach es env := by intro _; rfl)
  (hpl : ∀ env : Env, ((backTo pos (starEach (e :: es) env)).any (·.1) || (backToKw pos (keywordEach kws env)).any (·.1.isNone)) = false := by intro _; rfl) :
  JE S (.Call (.Name x p) (e :: es) kws pos) (xW C m n ks.length gd ma mk) := fun X E cx xo => by
 refine ⟨fun pins s σ H Q J ⟨I, F, G, ds, w, rel, rs, p⟩ => ?_⟩
 refine wpAny_Call_Name_kw (ld_glob J (by show X.env.scope.names.lookup x = _; rw [cx.sc]; exact hg) (by rw [cx.mg]; exact hm) ?_ hdb)
 refine PySem.W.callWith_KW (h₀ := X.base) J.ok.mod.kin (by rw [cx.K]; exact M.kp) (hall X.env) (thn ((ha X E cx xo).run pos pins s σ H _ J (dR (f := fun ds xs w1 => (mk ds w1).bind fun zs w2 => if xs.length = n ∧ zs.length = ks.length then qG m C (fun s => gd (s ++ xs) zs) w2 else .bad)
  (Q := fun vs H1 => ∃ I1 F1 xs w1, Rel X.K I1 F1 G w1 H1 ∧ fL X.K I1 F1 ds σ ∧ RepL X.K I1 F1 xs vs ∧ aY X.K I1 F1 G E (RV X.K Q) ((mk ds w1).bind fun zs w2 => if xs.length = n ∧ zs.length = ks.length then qG m C (fun s => gd (s ++ xs) zs) w2 else .bad)) rel rs p fun I1 F1 H1 xs w1 vs e1 rel1 rs1 rvs p1 => ⟨I1, F1, xs, w1, rel1, rs1, rvs, p1⟩)) fun us s1 hq => ?_) (hpl X.env) (he X.env)
 obtain ⟨vs, H1, J1, r, I1, F1, xs, w1, rel1, rs1, rvs, p1⟩ := hq
 refine thn ((hkw X E cx xo).run pos pins s1 σ H1 _ J1 (dR (f := fun _ zs w2 => if xs.length = n ∧ zs.length = ks.length then qG m C (fun s => gd (s ++ xs) zs) w2 else .bad)
  (Q := fun ys H2 => ∃ I2 F2 zs w2, Rel X.K I2 F2 G w2 H2 ∧ RepL X.K I2 F2 xs vs ∧ RepL X.K I2 F2 zs ys ∧ (xs.length = n ∧ zs.length = ks.length) ∧ aY X.K I2 F2 G E (RV X.K Q) (qG m C (fun s => gd (s ++ xs) zs) w2)) rel1 rs1 p1 fun I2 F2 H2 zs w2 ys e2 rel2 rs2 rvs2 p2 => ?_)) fun ws s2 hq2 => ?_
 ·split at p2
  ·rename_i hl
   exact ⟨I2, F2, zs, w2, rel2, RepL.ext e2 _ _ rvs, rvs2, hl, p2⟩
  ·exact p2.elim
 ·obtain ⟨ys, H2, J2, r2, I2, F2, zs, w2, rel2, rvs', rvs2, hl, p2⟩ := hq2
  refine ⟨J2.kIn, ?_⟩
  have Gf' : fV X.prog X.w X.K X.mg X.base k f fd ps m := by rw [cx.P, cx.w, cx.K, cx.mg, cx.base]; exact Gf
  have B' : cO X.K fd ps (n + 1) ks gd := by rw [cx.K]; exact B
  have M' : Mk X.K C f := by rw [cx.K]; exact M
  rw [hks X.env]
  exact run_mk (ks := ks) M' xo Gf' B' (cx.room.mono hk) cx.WC J2 rel2 rvs' rvs2 r r2 hl.1 hl.2 p2
end
section
variable {S : aR} {pos pos' : Pos} {e : Expr} {m : ME}
theorem jv (i : Nat) {x : Str} (hN : S.N[i]? = some x := by rfl) (hv : Vis S.sc x := by first | exact Or.inl rfl | exact Or.inr (Or.inl rfl) | exact Or.inr (Or.inr rfl)) (hd : (x == ("__debug__" : Str)) = false := by decide) (hcd : (x == ("__classdict__" : Str)) = false := by decide) : JE S (.Name x pos) (aB i) :=
 aDl i hN hv hd hcd
theorem QI (i : Nat) {x : Str} (hN : S.N[i]? = some x := by rfl) (h1 : Loc S.sc x := by first | exact Or.inl rfl | exact Or.inr rfl) (h2 : S.fn x = true ∨ S.sc.names.lookup x = some .local := by first | exact Or.inl rfl | exact Or.inr rfl) : JG S (.Name x pos) (aU i) := aAF hN ⟨h1, h2⟩
theorem EH {vs : List Nat} (i : Nat) {x : Str} (hN : S.N[i]? = some x := by rfl) (h1 : Loc S.sc x := by first | exact Or.inl rfl | exact Or.inr rfl) (h2 : S.fn x = true ∨ S.sc.names.lookup x = some .local := by first | exact Or.inl rfl | exact Or.inr rfl) (hv : i ∈ vs := by decide) : JC S vs (.Name x pos) (aU i) := aA8 hN ⟨h1, h2⟩ hv
theorem wF (i : Nat) {x : Str} (he : JE S e m) (hN : S.N[i]? = some x := by rfl) (h1 : Loc S.sc x := by first | exact Or.inl rfl | exact Or.inr rfl) (h2 : S.fn x = true ∨ S.sc.names.lookup x = some .local := by first | exact Or.inl rfl | exact Or.inr rfl) (hs : ∀ env : Env, swapsWith e (some (.Name x pos')) pos.line env = pure false := by intro _; rfl) :
  JS S (.Assign [.Name x pos'] e pos) (aT m (aU i)) := aDQ hN ⟨h1, h2⟩ he hs
end
def aP : List D → List D → List D := fun xs _ => xs
def pick {α : Type} (is : List (Bool × Nat)) (us ws : List α) : List α := is.filterMap fun p => if p.1 = true then ws[p.2]? else us[p.2]?
theorem Vals.at? {vs : List V} {us : List Value} (r : Vals vs us) (i : Nat) : (vs[i]? = none ∧ us[i]? = none) ∨ ∃ v u, vs[i]? = some v ∧ us[i]? = some u ∧ RelV v u := by
 induction r generalizing i with
 | nil => exact .inl ⟨by simp, by simp⟩
 | cons h _ ih =>
  cases i with
  | zero => exact .inr ⟨_, _, rfl, rfl, h⟩
  | succ i => simpa using ih i
theorem RepL.at? {K : PySem.W.Frag} {I : List Addr} {F : Hp} {ds : List D} {vs : List V} (r : RepL K I F ds vs) (i : Nat) : (ds[i]? = none ∧ vs[i]? = none) ∨ ∃ d v, ds[i]? = some d ∧ vs[i]? = some v ∧ aF K I F d v := by
 cases h : ds[i]? with
 | none => exact .inl ⟨rfl, by rw [List.getElem?_eq_none_iff] at h ⊢; rw [← r.length]; exact h⟩
 | some d => obtain ⟨v, h1, h2⟩ := r.get h; exact .inr ⟨d, v, rfl, h1, h2⟩
def W3 (N ps : List Str) (sc : Scope) : Bool := (match sc.kind with
 | .function => true
 | _ => false) && !sc.isCoroutine && !sc.isGenerator && decide N.Nodup && decide (N.take ps.length = ps) && (ps.all fun x => decide (sc.names.lookup x = some .local) || decide (sc.names.lookup x = some .cell)) && sc.names.all fun y => decide (y.2 ≠ .free)
theorem bZ {N ps : List Str} {sc : Scope} (h : W3 N ps sc = true) : FnScope N ps sc := by
 unfold W3 at h
 simp only [ar, aq, br, Bool.or_eq_true, Bool.not_eq_true'] at h
 obtain ⟨⟨⟨⟨⟨⟨h1, h2⟩, h3⟩, h4⟩, h5⟩, h6⟩, h7⟩ := h
 refine ⟨?_, h2, h3, h4, h5, h6, h7⟩
 split at h1
 ·assumption
 ·cases h1
def UO (f g : D → D → W → Res D) (ma mb mc : ME) : ME := fun σ w => (ma σ w).bind fun x w1 => (mb σ w1).bind fun y w2 => (f x y w2).bind fun r w3 => match r with
 | .bl b => if b = true then (mc σ w3).bind fun z w4 => g y z w4 else .ok (.bl false) w3
 | _ => .bad
section
variable {S : aR} {pos : Pos} {a b c : Expr} {ma mb mc : ME} {f g : D → D → W → Res D}
theorem XF {K : PySem.W.Frag} {E : XK} {σ : L2.St} {H : Hp} {Q : VK} (h : sP K E (UO f g ma mb mc) σ H Q) : tChain (ZT K E f) (ZT K E g) (sP K E ma) (sP K E mb) (sP K E mc) σ H Q := by
 obtain ⟨I, F, G, ds, w, rel, rs, p⟩ := h
 refine ⟨I, F, G, ds, w, rel, rs, (aY.bind p).mono fun I1 F1 H1 x w1 _ e1 rel1 p1 v rv => ?_⟩
 refine ⟨I1, F1, G, ds, w1, rel1, rs.ext e1, (aY.bind p1).mono fun I2 F2 H2 y w2 _ e2 rel2 p2 u ru => ?_⟩
 refine ⟨I2, F2, G, x, y, w2, rel2, aF.ext e2 _ _ rv, ru, (aY.bind p2).mono fun I3 F3 H3 r w3 _ e3 rel3 p3 t rt => ?_⟩
 cases r <;> first | exact p3.elim | skip
 rename_i k _
 simp only [aF] at rt
 refine ⟨k, rt, ?_⟩
 cases k with
 | false => exact p3.mM rel3 (by simp [aF])
 | true =>
  refine ⟨I3, F3, G, ds, w3, rel3, (rs.ext e1).ext (e2.trans e3), (aY.bind p3).mono fun I4 F4 H4 z w4 _ e4 rel4 p4 q rq => ?_⟩
  exact ⟨I4, F4, G, y, z, w4, rel4, aF.ext (e3.trans e4) _ _ ru, rq, p4⟩
theorem YR {op op' : CmpOp} (ho : O2 S (compareOp op) f) (ho' : O2 S (compareOp op') g) (ha : JE S a ma) (hb : JE S b mb) (hc : JE S c mc) (hm : lastMarks [op, op'] [b, c] = false := by with_unfolding_all rfl) :
  JE S (.Compare a [op, op'] [b, c] pos) (UO f g ma mb mc) := fun X E cx xo => cV (pe_chain (ho X E cx xo) (ho' X E cx xo) (ha X E cx xo) (hb X E cx xo) (hc X E cx xo) hm) fun _ _ _ h => XF h
end
theorem uL {S : aR} {x : Str} {n : String} {pos : Pos} (hg : S.sc.names.lookup x = some .globalImplicit) (hm : S.mg x = none) (hv : bootBuiltins x = some (.type n)) (hn : x ≠ "__name__" := by decide) (hd : (x == ("__debug__" : Str)) = false := by decide) : JE S (.Name x pos) (eC (.ty n)) := fun X E cx xo =>
 cV (pe_bltn (v := .ty n) (by show X.env.scope.names.lookup x = _; rw [cx.sc]; exact hg) (by rw [cx.mg]; exact hm) hv rfl hn hd) fun σ H Q ⟨I, F, G, ds, w, rel, rs, p⟩ => p I F H .refl rel _ (by simp [aF])
inductive CZ where
 | b (n : String) | o (C : Addr)
 deriving DecidableEq
def CZ.v : CZ → Value
 | .b n => .type n
 | .o C => .ref C
def aAk (d : D) (w : W) : Option CZ := match d with
 | .non => some (.b "NoneType")
 | .bl _ => some (.b "bool")
 | .int _ => some (.b "int")
 | .str _ => some (.b "str")
 | .tup _ => some (.b "tuple")
 | .jL _ => some (.b "tuple")
 | .lst _ => some (.b "list")
 | .qF _ => some (.b "list")
 | .ref i => (match w[i]? with
  | some (.lst _) => some (.b "list")
  | some (.dK _) => some (.b "dict")
  | some (.dT _) => some (.b "dict")
  | some (.dF _) => some (.b "dict")
  | some (.dG _) => none
  | some (.ins C _) => some (.o C)
  | none => none)
 | .GX _ _ => some (.b "dict")
 | _ => none
def names7 : List String := ["NoneType", "bool", "int", "str", "tuple", "list", "dict"]
def YY (t n : String) : Bool := t == n || (t == "bool" && n == "int")
theorem TB : ∀ t ∈ names7, ∀ n ∈ ["bool", "int", "str", "tuple", "list", "dict"], kitB t n = some (YY t n) := by decide +kernel
structure aCv (K : PySem.W.Frag) (C : Addr) : Prop where
 cl : Cls K C
 ha : PySem.W.findIn K (.ref C) "__class__" = some (some (.builtin "object.__class__"))
 hn : PySem.W.specialIn K (.builtin "object.__class__") "__get__" = some (some (.builtin "getset_descriptor.__get__"))
 tk : PySem.W.takesIn K (.builtin "object.__class__") = some true
 hm : PySem.W.mroIn K C (.type "object") = some true
def Y6 : List D → Option (List String)
 | [] => some []
 | .ty n :: ds => (Y6 ds).map fun ns => n :: ns
 | _ :: _ => none
def mV (kc : CZ → CZ → Option Bool) : MF := fun ds w => match ds with
 | [d, .ty n] => (match aAk d w with
  | some (.b t) => if t ∈ names7 ∧ n ∈ ["bool", "int", "str", "tuple", "list", "dict"] then .ok (.bl (YY t n)) w else .bad
  | some (.o C) => (match kc (.o C) (.b n) with
   | some r => .ok (.bl r) w
   | none => .bad)
  | none => .bad)
 | [d, .con C] => (match aAk d w with
  | some t => (match kc t (.o C) with
   | some r => .ok (.bl r) w
   | none => .bad)
  | none => .bad)
 | [d, .tup cs] => (match aAk d w, Y6 cs with
  | some (.b t), some ns => if t ∈ names7 ∧ ∀ n ∈ ns, n ∈ ["bool", "int", "str", "tuple", "list", "dict"] then .ok (.bl (ns.any (YY t))) w else .bad
  | _, _ => .bad)
 | _ => .bad
structure aEO (K : PySem.W.Frag) (kc : CZ → CZ → Option Bool) : Prop where
 one : ∀ t c r, kc t c = some r → PySem.W.kitOne K t.v c.v = some r
 ins : ∀ C c r, kc (.o C) c = some r → aCv K C
def m7 : CZ → CZ → Option Bool := fun _ _ => none
theorem pC {K : PySem.W.Frag} : aEO K m7 := ⟨fun _ _ _ h => (by cases h), fun _ _ _ h => (by cases h)⟩
theorem JY {K : PySem.W.Frag} {I : List Addr} {F G H : Hp} {w : W} (rel : Rel K I F G w H) {d : D} {v : V} (h : aF K I F d v) {t : CZ} (e : aAk d w = some t) (hi : ∀ C, t = .o C → aCv K C) : TyX K H v t.v := by
 have hT : ∀ {a : Addr} {vs : List V}, SqT K H a vs → TyX K H (.ref a) (.type "tuple") := fun {a vs} q => by
  rcases q with (q | ⟨o, q⟩) | q
  ·exact .base (.tup q)
  ·exact .fTuple q
  ·obtain ⟨o, its, n, q1, q2, _⟩ := q
   exact .kTuple q1 q2
 have hL : ∀ {a : Addr} {vs : List V}, SqL K H a vs → TyX K H (.ref a) (.type "list") := fun {a vs} q => by
  rcases q with (q | ⟨o, q⟩) | q
  ·exact .base (.lst q)
  ·exact .base (.frz q)
  ·obtain ⟨o, its, n, q1, q2, _⟩ := q
   exact .kList q1 q2
 cases d <;> simp only [aAk, ai, reduceCtorEq] at e <;> simp only [aF] at h
 case non => subst h; subst e; exact .base .non
 case bl => subst h; subst e; exact .base (.bl _)
 case int => subst h; subst e; exact .base (.int _)
 case str => subst h; subst e; exact .base (.str _)
 case tup => obtain ⟨a, vs, rfl, h1, _⟩ := h; subst e; exact hT (.of (rel.fz _ _ h1))
 case jL => obtain ⟨a, vs, rfl, h1, _⟩ := h; subst e; exact hT (rel.LW h1)
 case lst => obtain ⟨a, vs, rfl, h1, _⟩ := h; subst e; exact hL (.of (rel.fz _ _ h1))
 case qF => obtain ⟨a, vs, rfl, h1, _⟩ := h; subst e; exact hL (rel.U5 h1)
 case ref i =>
  obtain ⟨a, rfl, hi'⟩ := h
  split at e
  ·rename_i hw; cases e; obtain ⟨u, hu, vs, rfl, _⟩ := rel.ob i a _ hi' hw; exact .base (.lst hu)
  ·rename_i hw; cases e; obtain ⟨u, hu, vs, rfl, _⟩ := rel.ob i a _ hi' hw; exact .base (.dK hu)
  ·rename_i hw; cases e; obtain ⟨u, hu, vs, rfl, _⟩ := rel.ob i a _ hi' hw; exact .base (.dT hu)
  ·rename_i hw; cases e; obtain ⟨u, hu, o, vs, rfl, _⟩ := rel.ob i a _ hi' hw; exact .fDict hu
  ·cases e
  ·rename_i C fs hw
   cases e
   obtain ⟨u, hu, dx, r, rfl, _⟩ := rel.ob i a _ hi' hw
   have z := hi C rfl
   exact .base (.ins hu z.cl z.ha z.hn z.tk z.hm)
  ·cases e
 case GX =>
  obtain ⟨a, kvs, rfl, h1, _⟩ := h
  subst e
  rcases h1 with h1 | ⟨o, h1⟩
  ·exact .base (.dK (rel.fz _ _ h1))
  ·exact .fDict (rel.fz _ _ h1)
theorem O8 {K : PySem.W.Frag} {I : List Addr} {F : Hp} {t : String} (ht : t ∈ names7) : ∀ {cs : List D} {ns : List String} {vs : List V}, Y6 cs = some ns → RepL K I F cs vs → (∀ n ∈ ns, n ∈ ["bool", "int", "str", "tuple", "list", "dict"]) → ∃ ws, Paired ClsV vs ws ∧ PySem.W.kitAny K (.type t) ws = some (ns.any (YY t))
 | [], ns, vs, e, r, _ => by
  simp only [Y6, ai] at e
  subst e
  simp only [RepL] at r
  subst r
  exact ⟨[], .nil, kitAny_nil⟩
 | d :: ds, ns, vs, e, r, hn => by
  cases d <;> simp only [Y6, ao, reduceCtorEq] at e
  rename_i n
  obtain ⟨ns', e1, rfl⟩ := e
  simp only [RepL, aF] at r
  obtain ⟨v, r', rfl, rfl, r2⟩ := r
  obtain ⟨ws, p, q⟩ := O8 ht e1 r2 fun m hm => hn m (bp _ hm)
  refine ⟨.type n :: ws, .cons (.ty n) p, ?_⟩
  have k1 : PySem.W.kitOne K (.type t) (.type n) = some (YY t n) := kit_ty (TB t ht n (hn n (bf ..)))
  rw [List.any_cons]
  refine kitAny_cons k1 (fun hb => ?_) fun hb => ?_
  ·rw [hb, Bool.false_or]; exact q
  ·rw [hb, Bool.true_or]
theorem tK {S : aR} {kc : CZ → CZ → Option Bool} (hk : aEO S.K kc) : CB S (.builtin "isinstance") (mV kc) := wK fun X E c xo I F G ds w H vs Q rel rl p => by
 unfold mV at p
 split at p
 ·rename_i d n
  obtain ⟨v, u, rfl, rv, ru⟩ := rl.two
  simp only [aF] at ru
  subst ru
  split at p
  ·rename_i t ht
   split at p
   ·rename_i hc
    exact ⟨_, call_isi, v, .ty n, _, .type n, _, rfl, .ty n, JY rel rv ht (fun C z => by cases z), kit_ty (TB t hc.1 n hc.2), p.mM rel (by simp [aF])⟩
   ·exact p.elim
  ·rename_i C hC
   split at p
   ·rename_i r hr
    exact ⟨_, call_isi, v, .ty n, _, .type n, _, rfl, .ty n, JY rel rv hC (fun C' z => by cases z; rw [c.K]; exact hk.ins _ _ _ hr), by rw [c.K]; exact hk.one _ _ _ hr, p.mM rel (by simp [aF])⟩
   ·exact p.elim
  ·exact p.elim
 ·rename_i d C
  obtain ⟨v, u, rfl, rv, ru⟩ := rl.two
  simp only [aF] at ru
  subst ru
  split at p
  ·rename_i t ht
   split at p
   ·rename_i r hr
    exact ⟨_, call_isi, v, .ref C, _, .ref C, _, rfl, .own C, JY rel rv ht (fun C' z => by subst z; rw [c.K]; exact hk.ins _ _ _ hr), by rw [c.K]; exact hk.one _ _ _ hr, p.mM rel (by simp [aF])⟩
   ·exact p.elim
  ·exact p.elim
 ·rename_i d cs
  obtain ⟨v, u, rfl, rv, ru⟩ := rl.two
  simp only [aF] at ru
  obtain ⟨tp, vs, rfl, h2, h3⟩ := ru
  split at p
  ·rename_i t ns ht hn
   split at p
   ·rename_i hc
    obtain ⟨ws, hp, hk2⟩ := O8 (K := X.K) hc.1 hn h3 hc.2
    exact ⟨_, call_isiT, v, tp, vs, _, ws, _, rfl, rel.fz _ _ h2, hp, JY rel rv ht (fun C z => by cases z), hk2, p.mM rel (by simp [aF])⟩
   ·exact p.elim
  ·exact p.elim
 ·exact p.elim
def uC : List D → Option (List Bool)
 | [] => some []
 | .bl b :: r => (uC r).map (b :: ·)
 | _ :: _ => none
theorem GL {K : PySem.W.Frag} {I : List Addr} {F : Hp} : ∀ {ds : List D} {vs : List V} {ns : List Bool}, RepL K I F ds vs → uC ds = some ns → vs = ns.map V.bl
 | [], vs, ns, h, e => by simp only [uC, ai] at e; subst e; simp only [RepL] at h; exact h
 | d :: ds, vs, ns, h, e => by
  cases d <;> simp only [uC, ao, reduceCtorEq] at e
  obtain ⟨r, e1, rfl⟩ := e
  simp only [RepL, aF] at h
  obtain ⟨v, t, rfl, rfl, h2⟩ := h
  rw [GL h2 e1]
  rfl
def allM : MF := fun ds w => match ds with
 | [d] => (match (y7 d w).bind uC with
  | some bs => .ok (.bl (bs.all id)) w
  | none => .bad)
 | _ => .bad
theorem AS {S : aR} : CB S (.builtin "all") allM := wK fun X E c xo I F G ds w H vs Q rel rl p => by
 unfold allM at p
 split at p
 ·rename_i d
  obtain ⟨v, rfl, rv⟩ := rl.one
  split at p
  ·rename_i bs hn
   obtain ⟨xs, h1, h2⟩ := cu.mp hn
   obtain ⟨a, us, rfl, hq, hr⟩ := KA rel rv h1
   obtain rfl := GL hr h2
   exact ⟨_, cr_all c.calm, a, bs, rfl, hq, p.mM rel (by simp [aF])⟩
  ·exact p.elim
 ·exact p.elim
def TJ (x y : D) (w : W) : Res D := match x, y with
 | .int a, .int b => .ok (.bl (decide (a < b))) w
 | x, y => match (vS x).bind lS, (vS y).bind lS with
  | some ns, some ms => .ok (.bl (HT.lexLt ns ms)) w
  | _, _ => .bad
theorem aFp {S : aR} : O2 S (compareOp .Lt) TJ := hV fun X E c xo I F G d e w H x y Q rel rd re p => by
 unfold TJ at p
 split at p
 ·simp only [aF] at rd re
  exact ⟨_, op_lt, _, _, rd, re, p.mM rel (by simp [aF])⟩
 ·split at p
  ·rename_i ns ms h1 h2
   obtain ⟨xs, q1, q2⟩ := cu.mp h1
   obtain ⟨ys, q3, q4⟩ := cu.mp h2
   obtain ⟨a, us, rfl, g1, g2⟩ := K1 rel rd q1
   obtain ⟨b, ts, rfl, g3, g4⟩ := K1 rel re q3
   obtain rfl := nH g2 q2
   obtain rfl := nH g4 q4
   exact ⟨_, op_ltT (by have := c.room.un; omega), a, b, ns, ms, rfl, rfl, g1, g3, p.mM rel (by simp [aF])⟩
  ·exact p.elim
theorem j6 {K : PySem.W.Frag} {I : List Addr} {F G H : Hp} {w : W} {q : Addr} {u : HO} (rel : Rel K I F (upd G q u) w H) (hG : G q = none) : Rel K I F G w H :=
 ⟨rel.len, rel.nd, rel.ob, rel.fz, rel.ap, fun a v h => rel.gz a v (by rw [upd_ne (ne_of_none h hG)]; exact h), fun a v h => rel.gf a v (by rw [upd_ne (ne_of_none h hG)]; exact h), fun a xs h => rel.gt a xs (by rw [upd_ne (ne_of_none h hG)]; exact h)⟩
theorem aY.more {α : Type} {K : PySem.W.Frag} {I : List Addr} {F G : Hp} {E : XK} {R R' : List Addr → Hp → Hp → α → W → Prop} {r : Res α} {q : Addr} {u : HO} (p : aY K I F G E R r) (hG : G q = none)
  (k : ∀ I' F' H' a w, r = .ok a w → Ext I F I' F' → Rel K I' F' (upd G q u) w H' → R I' F' H' a w → R' I' F' H' a w) : aY K I F (upd G q u) E R' r := by
 cases r with
 | ok a w => exact fun I' F' H' e rel => k I' F' H' a w rfl e rel (p I' F' H' e (j6 rel hG))
 | yE x w => exact fun I' F' H' c d e rel rx => p I' F' H' c d e (j6 rel hG) rx
 | bad => exact p
abbrev MP := Sg → W → Res (List (D × D))
def GR : MP := fun _ w => .ok [] w
def eE (mk mv : ME) (r : MP) : MP := fun σ w => (mk σ w).bind fun k w1 => (mv σ w1).bind fun v w2 => (r σ w2).bind fun ps w3 => .ok ((k, v) :: ps) w3
def keyed : List (D × D) → Option (List (Key × D))
 | [] => some []
 | (k, v) :: r => match keyD k, keyed r with
  | some j, some t => some ((j, v) :: t)
  | _, _ => none
def u6 {κ : Type} [DecidableEq κ] (kvs more : List (κ × D)) : List (κ × D) := more.foldl (fun acc kv => putD acc kv.1 kv.2) kvs
def E7 (m : MP) : ME := fun σ w => (m σ w).bind fun ps w1 => match keyed ps with
 | some kvs => if kvs.length ≤ 15 then .ok (.ref w1.length) (w1 ++ [.dK (u6 [] kvs)]) else .bad
 | none => .bad
def S7 : ME := fun _ w => .ok (.ref w.length) (w ++ [.dK []])
def LO : ME := fun _ w => .ok (.ref w.length) (w ++ [.dT []])
def aEB (K : PySem.W.Frag) (I : List Addr) (F : Hp) (ps : List (D × D)) (vs : List (V × V)) : Prop := RepL K I F (ps.map (·.1)) (vs.map (·.1)) ∧ RepL K I F (ps.map (·.2)) (vs.map (·.2))
def RPs (K : PySem.W.Frag) (Q : List (V × V) → Hp → Prop) : List Addr → Hp → Hp → List (D × D) → W → Prop := fun I' F' H' ps _ => ∀ vs, aEB K I' F' ps vs → Q vs H'
def lowP (K : PySem.W.Frag) (E : XK) (m : MP) : L2.St → Hp → (List (V × V) → Hp → Prop) → Prop := fun σ H Q => ∃ I F G ds w, Rel K I F G w H ∧ fL K I F ds σ ∧ aY K I F G E (RPs K Q) (m ds w)
def JD (S : aR) (pos : Pos) (ks : List (Option Expr)) (vs : List Expr) (m : MP) : Prop := ∀ X E, Ctx S X → q8 X E → ∃ trs, PPs X pos ks vs trs ∧ ∀ σ H Q, lowP X.K E m σ H Q → tPairs trs σ H Q
theorem aS.merge {K : PySem.W.Frag} {I : List Addr} {F : Hp} {κ : Type} [DecidableEq κ] : ∀ {more : List (κ × D)} {rs : List (κ × V)} {kvs : List (κ × D)} {vs : List (κ × V)}, aS K I F more rs → aS K I F kvs vs → aS K I F (u6 kvs more) (rs.foldl (fun acc kv => putK acc kv.1 kv.2) vs)
 | [], rs, kvs, vs, h, g => by simp only [aS] at h; subst h; exact g
 | (k, d) :: more, rs, kvs, vs, h, g => by
  simp only [aS] at h
  obtain ⟨v, r, rfl, h1, h2⟩ := h
  exact aS.merge (more := more) (rs := r) h2 (g.put k h1)
theorem IG {K : PySem.W.Frag} {I : List Addr} {F : Hp} : ∀ {ps : List (D × D)} {vs : List (V × V)} {kvs : List (Key × D)}, aEB K I F ps vs → keyed ps = some kvs → ∃ r : List (Key × V), vs = r.map (fun kv => (kV kv.1, kv.2)) ∧ aS K I F kvs r
 | [], vs, kvs, h, e => by
  simp only [keyed, ai] at e
  subst e
  have := h.1
  simp only [List.map_nil, RepL, List.map_eq_nil_iff] at this
  subst this
  exact ⟨[], rfl, by simp [aS]⟩
 | (k, d) :: ps, vs, kvs, h, e => by
  obtain ⟨h1, h2⟩ := h
  cases vs with
  | nil => simp only [List.map_cons, List.map_nil, RepL] at h1; obtain ⟨_, _, z, _⟩ := h1; cases z
  | cons x vs =>
   obtain ⟨x1, x2⟩ := x
   simp only [List.map_cons, RepL] at h1 h2
   obtain ⟨v, r, z1, g1, g2⟩ := h1
   obtain ⟨u, t, z2, g3, g4⟩ := h2
   cases z1
   cases z2
   simp only [keyed] at e
   split at e
   ·rename_i j tt e1 e2
    cases e
    obtain ⟨rr, e3, e4⟩ := IG ⟨g2, g4⟩ e2
    refine ⟨(j, x2) :: rr, ?_, ?_⟩
    ·rw [List.map_cons, ← e3, uT g1 e1]
    ·simp only [aS]; exact ⟨x2, rr, rfl, g3, e4⟩
   ·cases e
section
variable {S : aR} {pos : Pos} {k v : Expr} {ks : List (Option Expr)} {vs : List Expr} {mk mv : ME} {m : MP}
theorem SE : JD S pos [] [] GR := fun X E cx xo => ⟨[], pps_nil, fun σ H Q ⟨I, F, G, ds, w, rel, rs, p⟩ => p I F H .refl rel [] ⟨by simp [RepL], by simp [RepL]⟩⟩
theorem iR (hk : JE S k mk) (hv : JE S v mv) (hr : JD S pos ks vs m) : JD S pos (some k :: ks) (v :: vs) (eE mk mv m) := fun X E cx xo => by
 obtain ⟨trs, h1, h2⟩ := hr X E cx xo
 refine ⟨(sP X.K E mk, sP X.K E mv) :: trs, pps_cons (hk X E cx xo) (hv X E cx xo) h1, fun σ H Q ⟨I, F, G, ds, w, rel, rs, p⟩ => ?_⟩
 refine bO (f := fun ds x w1 => (mv ds w1).bind fun y w2 => (m ds w2).bind fun ps w3 => .ok ((x, y) :: ps) w3) rel rs p fun I1 F1 H1 x w1 a e1 rel1 rs1 ra p1 => ?_
 refine bO (f := fun ds y w2 => (m ds w2).bind fun ps w3 => .ok ((x, y) :: ps) w3) rel1 rs1 p1 fun I2 F2 H2 y w2 b e2 rel2 rs2 rb p2 => ?_
 refine h2 σ H2 _ ⟨I2, F2, G, ds, w2, rel2, rs2, (aY.bind p2).mono fun I3 F3 H3 ps w3 _ e3 rel3 p3 us ru => ?_⟩
 refine p3 I3 F3 H3 .refl rel3 ((a, b) :: us) ⟨?_, ?_⟩
 ·exact RepL.cons (aF.ext (e2.trans e3) _ _ ra) ru.1
 ·exact RepL.cons (aF.ext e3 _ _ rb) ru.2
theorem SI (h : JD S pos ks vs m) (hall : ks.all (·.isSome) = true := by rfl) (hl : ks.length = vs.length := by rfl) (h0 : ks ≠ [] := by simp) (h15 : ks.length ≤ 15 := by exact aa rfl) : JE S (.Dict ks vs pos) (E7 m) := fun X E cx xo => by
 obtain ⟨trs, g1, g2⟩ := h X E cx xo
 refine cV (pe_disp g1 hall hl h0 h15) fun σ H Q ⟨I, F, G, ds, w, rel, rs, p⟩ q hq => ?_
 have hG : G q = none := by
  cases z : G q with
  | none => rfl
  | some u => rw [rel.gz _ _ z] at hq; cases hq
 refine g2 σ _ _ ⟨I, F, upd G q (.dK []), ds, w, rel.keep hq, rs, (aY.bind p).more hG fun I1 F1 H1 ps w1 _ e1 rel1 p1 us ru => ?_⟩
 refine ⟨rel1.gz q _ upd_same, ?_⟩
 split at p1
 ·rename_i kvs hk
  split at p1
  ·rename_i hl'
   obtain ⟨r, e2, e3⟩ := IG ru hk
   refine ⟨r, e2, by rw [← e3.length]; exact hl', ?_⟩
   obtain ⟨ee, rel2⟩ := (rel1.SW (u' := .dK (mergeK [] r))).owned hG (o := .dK (u6 [] kvs)) ⟨_, rfl, aS.merge e3 (by simp [aS])⟩
   refine p1 _ _ _ ee rel2 _ ?_
   simp only [aF]
   refine ⟨q, rfl, ?_⟩
   rw [← rel1.len, bg (av _)]
   simp
  ·exact p1.elim
 ·exact p1.elim
theorem aBz : JE S (.Dict [] [] pos) S7 := fun X E cx xo => cV pe_dnewK fun σ H Q ⟨I, F, G, ds, w, rel, rs, p⟩ => C1 (o := .dK []) rel ⟨[], rfl, by simp [aS]⟩ p
end
def getM : TC := fun d ds w => match d, ds with
 | .ref i, [k, z] => (match w[i]? with
  | some o => (match sO o k with
   | some r => .ok (r.getD z) w
   | none => .bad)
  | none => .bad)
 | _, _ => .bad
def RC : TC := fun d ds w => match d, ds with
 | .ref i, [.ref j] => (match w[i]?, w[j]? with
  | some (.dK kvs), some (.dK more) => if i ≠ j ∧ kvs.length + more.length ≤ sizeLine then .ok .non (w.set i (.dK (u6 kvs more))) else .bad
  | _, _ => .bad)
 | _, _ => .bad
theorem aBG {X : Cx} : MtR X "dict.update" (fun x xs H Q => ∃ a b kvs more, x = V.ref a ∧ xs = [V.ref b] ∧ H a = some (.dK kvs) ∧ H b = some (.dK more) ∧ a ≠ b ∧ kvs.length + more.length ≤ sizeLine ∧ Q .non (upd H a (.dK (mergeK kvs more)))) := by
 intro pins s σ H x xs v us Q J rx rxs h
 obtain ⟨a, b, kvs, more, rfl, rfl, ha, hb, ne, hz, q⟩ := h
 cases rx
 obtain ⟨u, rfl, ru⟩ := rxs.one
 cases ru
 obtain ⟨z1, d1, vs1, r1, dd1⟩ := dk_of J.hok ha
 obtain ⟨z2, d2, vs2, r2, dd2⟩ := dk_of J.hok hb
 refine PySem.call_meetsIn PySem.F.slot_dict_update dd1.typeIs PySem.F.entry_dict_update (PySem.F.args_dict_update_2 _ _) (meets_dict_update (mixKind X.prog X.w) a b ne d2) ⟨vs1, vs2, dd1, dd2, by rw [← r1.length, ← r2.length]; exact hz, fun h' g1 _ hs => ?_⟩
 have he : ∃ q, h'.get? a = some q := by
  obtain ⟨q, _, _, hq, _⟩ := g1
  exact ⟨q, hq⟩
 refine ⟨.non, _, d_write J (t' := s.toks) (by rw [ha]; exact True.intro) hs he (dk_new ?_ d1 (KV.merge r2 r1) g1), rfl, q⟩
 exact cq (length_mergeK more kvs) hz
theorem VJ {S : aR} : MB S "dict.update" RC := IB fun X E c xo I F G d ds w H x vs Q rel rd rl p => by
 unfold RC at p
 split at p
 ·rename_i i j
  simp only [aF] at rd
  obtain ⟨a, rfl, hi⟩ := rd
  obtain ⟨t, rfl, rt⟩ := rl.one
  simp only [aF] at rt
  obtain ⟨b, rfl, hj⟩ := rt
  split at p
  ·rename_i kvs more hw1 hw2
   obtain ⟨u, hu, r, rfl, hr⟩ := rel.ob i a _ hi hw1
   obtain ⟨u2, hu2, r2, rfl, hr2⟩ := rel.ob j b _ hj hw2
   split at p
   ·rename_i hc
    refine ⟨_, aBG, a, b, r, r2, rfl, rfl, hu, hu2, fun z => hc.1 ?_, by rw [← hr.length, ← hr2.length]; exact hc.2, p.mM (rel.upd hi hw1 ⟨_, rfl, aS.merge hr2 hr⟩) (by simp [aF])⟩
    subst z
    obtain ⟨l1, e1⟩ := aj.mp hi
    obtain ⟨l2, e2⟩ := aj.mp hj
    exact (List.getElem_inj rel.nd).mp (e1.trans e2.symm)
   ·exact p.elim
  ·exact p.elim
 ·exact p.elim
def zB : Key → D
 | .inl i => .int i
 | .inr x => .str x
theorem ON {K : PySem.W.Frag} {I : List Addr} {F : Hp} (k : Key) : aF K I F (zB k) (kV k) := by
 cases k <;> simp [zB, aF, kV]
def AN (d : D) (w : W) : Res mG := match d with
 | .ref i => (match w[i]? with
  | some (.dK kvs) => .ok ⟨kvs.map fun p => .tup [zB p.1, p.2], always⟩ (w.set i (.dF kvs))
  | _ => .bad)
 | _ => .bad
def vG (m : ME) : MI := fun σ w => (m σ w).bind AN
def tLock (te : TE) : TE := fun σ H Q => te σ H fun x H1 => ∃ d kvs, x = V.ref d ∧ H1 d = some (.dK kvs) ∧ ∀ o, Q x (upd H1 d (.frz o (.dK kvs)))
theorem pe_lock {X : Cx} {e : Expr} {te : TE} (h : PE X e te) : PE X e (tLock te) := ⟨fun pins s σ H Q J q => thn (h.run pins s σ H _ J q) fun u s1 ⟨x, H1, J1, r, d, kvs, ex, hd, k⟩ => by
 obtain ⟨o, J2⟩ := J1.lock hd trivial
 exact ⟨x, _, J2, r, k o⟩⟩
theorem aS.get {K : PySem.W.Frag} {I : List Addr} {F : Hp} {κ : Type} : ∀ {kvs : List (κ × D)} {r : List (κ × V)} {i : Nat} {k : κ} {v : V}, aS K I F kvs r → r[i]? = some (k, v) → ∃ d, kvs[i]? = some (k, d) ∧ aF K I F d v
 | [], r, i, k, v, h, e => by simp only [aS] at h; subst h; simp at e
 | (j, d) :: kvs, r, 0, k, v, h, e => by
  simp only [aS] at h
  obtain ⟨u, t, rfl, h1, h2⟩ := h
  simp at e
  obtain ⟨rfl, rfl⟩ := e
  exact ⟨d, rfl, h1⟩
 | (j, d) :: kvs, r, i + 1, k, v, h, e => by
  simp only [aS] at h
  obtain ⟨u, t, rfl, h1, h2⟩ := h
  obtain ⟨d', h3, h4⟩ := aS.get (i := i) h2 (by simpa using e)
  exact ⟨d', by simpa using h3, h4⟩
theorem vK {K : PySem.W.Frag} {I : List Addr} {F G H : Hp} {w : W} {ds : List D} {vs : List V} (rel : Rel K I F G w H) (r : RepL K I F ds vs) {q : Addr} (hq : H q = none) : ∃ F2, Ext I F I F2 ∧ Rel K I F2 G w (upd H q (.tup vs)) ∧ aF K I F2 (.tup ds) (.ref q) := by
 have hF : F q = none := by
  cases h : F q with
  | none => rfl
  | some u => rw [rel.fz _ _ h] at hq; cases hq
 have e : Ext I F I (upd F q (.tup vs)) := ⟨List.prefix_refl _, fun a u h => by rw [upd_ne (ne_of_none h hF)]; exact h⟩
 refine ⟨_, e, ⟨rel.len, rel.nd, fun i a o h1 h2 => ?_, fun a u h => ?_, fun i a o h h0 hf => ?_, fun a u h => ?_, fun a u h => ?_, rel.gt⟩, ?_⟩
 ·obtain ⟨u, h3, h4⟩ := rel.ob i a o h1 h2
  exact ⟨u, by rw [upd_ne (ne_of_none h3 hq)]; exact h3, m3.ext e h4⟩
 ·by_cases ha : a = q
  ·subst ha; rw [upd_same] at h ⊢; exact h
  ·rw [upd_ne ha] at h ⊢; exact rel.fz a u h
 ·obtain ⟨u, h3, _⟩ := rel.ob i a o h h0
  rw [upd_ne (ne_of_none h3 hq)]; exact rel.ap i a o h h0 hf
 ·rw [upd_ne (ne_of_none (rel.gz a u h) hq)]; exact rel.gz a u h
 ·rw [upd_ne (ne_of_none (rel.gz a u h) hq)]; exact rel.gf a u h
 ·simp only [aF]
  exact ⟨q, vs, rfl, upd_same, RepL.ext e _ _ r⟩
theorem YZ {K : PySem.W.Frag} {I : List Addr} {F G H : Hp} {w : W} {i : Nat} {a : Addr} {kvs : List (Key × D)} {r : List (Key × V)} (o : Obj) (rel : Rel K I F G w H) (hi : I[i]? = some a) (hw : w[i]? = some (.dK kvs)) (hr : aS K I F kvs r) :
  Ext I F I (upd F a (.frz o (.dK r))) ∧ Rel K I (upd F a (.frz o (.dK r))) G (w.set i (.dF kvs)) (upd H a (.frz o (.dK r))) := by
 have hF : F a = none := rel.ap i a _ hi hw rfl
 have rel' := rel.upd (u' := .frz o (.dK r)) (o' := .dF kvs) hi hw ⟨o, r, rfl, hr⟩
 have e : Ext I F I (upd F a (.frz o (.dK r))) := ⟨List.prefix_refl _, fun b u h => by rw [upd_ne (ne_of_none h hF)]; exact h⟩
 refine ⟨e, rel'.len, rel'.nd, fun j b q h1 h2 => ?_, fun b u h => ?_, fun j b q h1 h2 h3 => ?_, rel'.gz, fun b u h => ?_, rel.gt⟩
 ·obtain ⟨u, h3, h4⟩ := rel'.ob j b q h1 h2
  exact ⟨u, h3, m3.ext e h4⟩
 ·by_cases hb : b = a
  ·subst hb; rw [upd_same] at h ⊢; exact h
  ·rw [upd_ne hb] at h; exact rel'.fz b u h
 ·have hb : b ≠ a := fun z => by
   subst z
   obtain ⟨l1, e1⟩ := aj.mp hi
   obtain ⟨l2, e2⟩ := aj.mp h1
   have hij : i = j := (List.getElem_inj rel.nd).mp (e1.trans e2.symm)
   subst hij
   rw [az (aj.mp hw).1] at h2
   cases h2
   cases h3
  rw [upd_ne hb]; exact rel'.ap j b q h1 h2 h3
 ·obtain ⟨g1, g2⟩ := rel.gf b u h
  have hb : b ≠ a := fun z => g2 (by rw [z]; exact bu hi)
  exact ⟨by rw [upd_ne hb]; exact g1, g2⟩
theorem ZK {S : aR} {e : Expr} {m : ME} {apos cpos tpos : Pos} {elts : List Expr} {kk : Nat} (he : JE S e m) (hbase : ∀ env : Env, attributeBase e "items" env (eval e env) = eval e env := by intro _; rfl) (hline : (apos.endLine == cpos.line) = true := by rfl) :
  JI S (.Tuple elts kk tpos) (.Call (.Attribute e "items" apos) [] [] cpos) (vG m) := fun X E cx xo =>
 rL (pi_items (pe_lock (he X E cx xo)) (hbase X.env) hline) fun σ H R ⟨I, F, G, ds, w, rel, rs, p⟩ => bO (f := fun _ => AN) rel rs p fun I1 F1 H1 d w1 v e1 rel1 rs1 rv p1 => by
  unfold AN at p1
  split at p1
  ·rename_i i
   simp only [aF] at rv
   obtain ⟨a, rfl, hi⟩ := rv
   split at p1
   ·rename_i kvs hw
    obtain ⟨u, hu, r, rfl, hr⟩ := rel1.ob i a _ hi hw
    refine ⟨a, r, rfl, hu, fun o => ⟨a, o, r, rfl, upd_same, ?_⟩⟩
    have hl : i < w1.length := (aj.mp hw).1
    obtain ⟨e2, rel2⟩ := YZ o rel1 hi hw hr
    refine p1 I1 _ _ e2 rel2 trivial _ fun I' F' G' w' H' j e' rel' _ => ?_
    have hH : H' a = some (.frz o (.dK r)) := rel'.fz _ _ (e'.f _ _ upd_same)
    have hr' := aS.ext (e2.trans e') _ _ hr
    have hlen : kvs.length = r.length := hr.length
    refine ⟨fun x hx => ?_, fun hl' => ⟨hH, by rw [ak] at hl'; omega⟩⟩
    rw [bt] at hx
    cases hk : kvs[j]? with
    | none => rw [hk] at hx; cases hx
    | some kd =>
     rw [hk] at hx
     cases hx
     refine ⟨⟨hH, by rw [← hlen]; exact (aj.mp hk).1⟩, fun v H'' y => ?_⟩
     obtain ⟨T, k, v', g1, rfl, g2, rfl⟩ := y
     obtain ⟨d', g3, g4⟩ := hr'.get g1
     rw [hk] at g3
     cases g3
     exact vK rel' (RepL.cons (ON k) (RepL.cons g4 (by simp [RepL]))) g2
   ·exact p1.elim
  ·exact p1.elim
open Classical in
def inL (it : mG) (vs : List Nat) (g : MG) (t : MT) (e : ME) : List D → List D → Sg → W → Res (List D)
 | acc, [], σ, w => if it.ok w then .ok acc w else .bad
 | acc, x :: xs, σ, w => if it.ok w then (g x (dP σ vs) w).L0.bind fun σ1 w1 => (t σ1 w1).L0.bind fun b w2 =>
   if b = true then (e σ1 w2).L0.bind fun y w3 => if acc.length < sizeLine then inL it vs g t e (acc ++ [y]) xs σ w3 else .bad else inL it vs g t e acc xs σ w2
  else .bad
open Classical in
def zQ (it : mG) (vs : List Nat) (g : MG) (t : MT) (mi1 : MI) (vs1 : List Nat) (g1 : MG) (t1 : MT) (e : ME) : List D → List D → Sg → W → Res (List D)
 | acc, [], σ, w => if it.ok w then .ok acc w else .bad
 | acc, x :: xs, σ, w => if it.ok w then (g x (dP σ vs) w).L0.bind fun σ1 w1 => (t σ1 w1).L0.bind fun b w2 =>
   if b = true then (mi1 σ1 w2).L0.bind fun it1 w3 => (inL it1 vs1 g1 t1 e acc it1.xs σ1 w3).bind fun acc' w4 => zQ it vs g t mi1 vs1 g1 t1 e acc' xs σ w4
   else zQ it vs g t mi1 vs1 g1 t1 e acc xs σ w2
  else .bad
def XA (m : MI) (vs : List Nat) (g : MG) (t : MT) (mi1 : MI) (vs1 : List Nat) (g1 : MG) (t1 : MT) (e : ME) : MA := fun σ w => (m σ w).bind fun it w1 => zQ it vs g t mi1 vs1 g1 t1 e [] it.xs σ w1
def FQ (m : MI) (vs : List Nat) (g : MG) (t : MT) (mi1 : MI) (vs1 : List Nat) (g1 : MG) (t1 : MT) (e : ME) : ME := fun σ w => (XA m vs g t mi1 vs1 g1 t1 e σ w).bind fun ys w1 => .ok (.lst ys) w1
theorem still {α : Type} {K : PySem.W.Frag} {R : List Addr → Hp → Hp → α → W → Prop} {r : Res α} {I : List Addr} {F G : Hp} {q : Addr} {u : HO} (hG : G q = none) (p : aY K I F G E0 R r) :
  aY K I F (upd G q u) E0 (fun I' F' H' a w => Rel K I' F' (upd G q u) w H' ∧ ∀ H'', Rel K I' F' G w H'' → R I' F' H'' a w) r := by
 cases r with
 | ok a w => exact fun I' F' H' e q => ⟨q, fun H'' q' => p I' F' H'' e q'⟩
 | yE x w => exact fun I' F' H' c d e q rx => p I' F' H' c d e (j6 q hG) rx
 | bad => exact p
theorem U6 {mi : MI} {g : MG} {t : MT} {mi1 : MI} {g1 : MG} {t1 : MT} {me : ME} {K : PySem.W.Frag} {E : XK} {vs vs1 : List Nat} {f : List D → W → Res D} {σ : L2.St} {H : Hp} {Q : VK} (h : sP K E (fun σ w => (XA mi vs g t mi1 vs1 g1 t1 me σ w).bind f) σ H Q)
  (fin : ∀ I F G w H q xs us, Rel K I F (upd G q (.lst us)) w H → G q = none → RepL K I F xs us → aY K I F G E (RV K Q) (f xs w) → Q (.ref q) H) :
  tLc2 (aBZ K E mi) (aBM K E0 vs g) (RX K E0 t) (aBZ K E0 mi1) (aBM K E0 vs1 g1) (RX K E0 t1) (sP K E0 me) vs vs1 σ H Q := by
 obtain ⟨I, F, G, ds, w, rel, rs, p⟩ := h
 have p0 : aY K I F G E (RV K Q) ((mi ds w).bind fun it w1 => (zQ it vs g t mi1 vs1 g1 t1 me [] it.xs ds w1).bind f) := by
  rw [← Res.bind_assoc]; exact p
 refine ⟨I, F, G, ds, w, rel, rs, (aY.bind p0).mono fun I1 F1 H1 it w1 _ e1 rel1 p1 hok J hJ q hq => ?_⟩
 have hG : G q = none := by
  cases h : G q with
  | none => rfl
  | some u => rw [rel1.gz _ _ h] at hq; cases hq
 refine ⟨fun i n H' => n = it.xs.length - i ∧ i ≤ it.xs.length ∧ ∃ I' F' w' xs us, Ext I1 F1 I' F' ∧ Rel K I' F' (upd G q (.lst us)) w' H' ∧ RepL K I' F' xs us ∧
   aY K I' F' G E (RV K Q) ((zQ it vs g t mi1 vs1 g1 t1 me xs (it.xs.drop i) ds w').bind f),
  ⟨it.xs.length, by simp, Nat.zero_le _, I1, F1, w1, [], [], .refl, rel1.keep hq, by simp [RepL], by simpa using p1⟩, ?_⟩
 rintro i n H' ⟨rfl, hi, I', F', w', xs, us, e', rel', rx, p'⟩
 by_cases hlt : i < it.xs.length
 ·rw [List.drop_eq_getElem_cons hlt] at p'
  unfold zQ at p'
  split at p'
  ·rename_i hw
   obtain ⟨h1, _⟩ := hJ I' F' _ w' H' i e' rel' hw
   obtain ⟨hgo, hy⟩ := h1 _ (bq hlt)
   refine .inr ⟨hgo, fun H2 => ∃ I2 F2 w2 xs2 us2, Ext I1 F1 I2 F2 ∧ Rel K I2 F2 (upd G q (.lst us2)) w2 H2 ∧ RepL K I2 F2 xs2 us2 ∧ aY K I2 F2 G E (RV K Q) ((zQ it vs g t mi1 vs1 g1 t1 me xs2 (it.xs.drop (i + 1)) ds w2).bind f),
    fun H2 q => ⟨it.xs.length - (i + 1), by omega, rfl, hlt, q⟩, fun v H2 y => ?_⟩
   obtain ⟨F2, e2, rel2, rv⟩ := hy v H2 y
   have p2 := p'.ext e2
   rw [Res.bind_assoc] at p2
   refine ⟨I', F2, upd G q (.lst us), _, dP ds vs, w', rel2, (((rs.ext e1).ext e').ext e2).wipe vs, rv, (still hG (aY.oZ p2)).mono fun I3 F3 H3 s3 w3 _ e3 rel3 p3 σ3 rs3 ew => ⟨ew.trans AB, ?_⟩⟩
   have p3' := p3.2 H3 (j6 rel3 hG)
   rw [Res.bind_assoc] at p3'
   refine ⟨I3, F3, upd G q (.lst us), s3, w3, rel3, rs3, (still hG (aY.oZ p3')).mono fun I4 F4 H4 b w4 _ e4 rel4 p4 => ?_⟩
   have p4' := p4.2 H4 (j6 rel4 hG)
   cases b with
   | false =>
    simp only [bj, ae] at p4' ⊢
    exact ⟨I4, F4, w4, xs, us, (e'.trans e2).trans (e3.trans e4), rel4, RepL.ext ((e2.trans e3).trans e4) _ _ rx, p4'⟩
   | true =>
    simp only [ah] at p4' ⊢
    rw [Res.bind_assoc] at p4'
    refine ⟨I4, F4, upd G q (.lst us), s3, w4, rel4, rs3.ext e4, (still hG (aY.oZ p4')).mono fun I5 F5 H5 it1 w5 _ e5 rel5 p5 hok1 J1 hJ1 => ?_⟩
    have p5' := p5.2 H5 (j6 rel5 hG)
    rw [Res.bind_assoc] at p5'
    have ee : Ext I' F' I5 F5 := ((e2.trans e3).trans e4).trans e5
    refine ⟨fun j k H' => k = it1.xs.length - j ∧ j ≤ it1.xs.length ∧ ∃ I' F' w' xs us, Ext I5 F5 I' F' ∧ Rel K I' F' (upd G q (.lst us)) w' H' ∧ RepL K I' F' xs us ∧
      aY K I' F' G E (RV K Q) ((inL it1 vs1 g1 t1 me xs (it1.xs.drop j) s3 w').bind fun xs2 w2 => (zQ it vs g t mi1 vs1 g1 t1 me xs2 (it.xs.drop (i + 1)) ds w2).bind f),
     ⟨it1.xs.length, by simp, Nat.zero_le _, I5, F5, w5, xs, us, .refl, rel5, RepL.ext ee _ _ rx, by simpa using p5'⟩, ?_⟩
    rintro j k H6 ⟨rfl, hj, I6, F6, w6, xs6, us6, e6, rel6, rx6, p6⟩
    by_cases hlt1 : j < it1.xs.length
    ·rw [List.drop_eq_getElem_cons hlt1] at p6
     unfold inL at p6
     split at p6
     ·rename_i hw1
      obtain ⟨k1, _⟩ := hJ1 I6 F6 _ w6 H6 j e6 rel6 hw1
      obtain ⟨kgo, ky⟩ := k1 _ (bq hlt1)
      refine .inr ⟨kgo, fun H2 => ∃ I' F' w' xs us, Ext I5 F5 I' F' ∧ Rel K I' F' (upd G q (.lst us)) w' H2 ∧ RepL K I' F' xs us ∧
        aY K I' F' G E (RV K Q) ((inL it1 vs1 g1 t1 me xs (it1.xs.drop (j + 1)) s3 w').bind fun xs2 w2 => (zQ it vs g t mi1 vs1 g1 t1 me xs2 (it.xs.drop (i + 1)) ds w2).bind f),
       fun H2 q => ⟨it1.xs.length - (j + 1), by omega, rfl, hlt1, q⟩, fun v1 H7 y1 => ?_⟩
      obtain ⟨F7, e7, rel7, rv7⟩ := ky v1 H7 y1
      have p7 := p6.ext e7
      rw [Res.bind_assoc] at p7
      have e47 : Ext I3 F3 I6 F7 := ((e4.trans e5).trans e6).trans e7
      refine ⟨I6, F7, upd G q (.lst us6), _, dP s3 vs1, w6, rel7, (rs3.ext e47).wipe vs1, rv7, (still hG (aY.oZ p7)).mono fun I8 F8 H8 s8 w8 _ e8 rel8 p8 σ8 rs8 ew8 => ⟨ew8.trans AB, ?_⟩⟩
      have p8' := p8.2 H8 (j6 rel8 hG)
      rw [Res.bind_assoc] at p8'
      refine ⟨I8, F8, upd G q (.lst us6), s8, w8, rel8, rs8, (still hG (aY.oZ p8')).mono fun I9 F9 H9 b9 w9 _ e9 rel9 p9 => ?_⟩
      have p9' := p9.2 H9 (j6 rel9 hG)
      cases b9 with
      | false =>
       simp only [bj, ae] at p9' ⊢
       exact ⟨I9, F9, w9, xs6, us6, e6.trans ((e7.trans e8).trans e9), rel9, RepL.ext ((e7.trans e8).trans e9) _ _ rx6, p9'⟩
      | true =>
       simp only [ah] at p9' ⊢
       rw [Res.bind_assoc] at p9'
       refine ⟨I9, F9, upd G q (.lst us6), s8, w9, rel9, rs8.ext e9, (still hG (aY.oZ p9')).mono fun Ia Fa Ha ya wa _ ea rela pa ua rua => ?_⟩
       have pa' := pa.2 Ha (j6 rela hG)
       split at pa'
       ·rename_i hz
        have eee : Ext I6 F6 Ia Fa := ((e7.trans e8).trans e9).trans ea
        exact ⟨us6, rela.gz _ _ upd_same, by rw [← rx6.length]; exact hz, Ia, Fa, wa, xs6 ++ [ya], us6 ++ [ua], e6.trans eee, rela.SW, (RepL.ext eee _ _ rx6).append (RepL.cons rua (by simp [RepL])), pa'⟩
       ·exact pa'.elim
     ·exact p6.elim
    ·have hl : j = it1.xs.length := by omega
     subst hl
     rw [List.drop_length] at p6
     unfold inL at p6
     split at p6
     ·rename_i hw1
      exact .inl ⟨(hJ1 I6 F6 _ w6 H6 _ e6 rel6 hw1).2 rfl, I6, F6, w6, xs6, us6, (e'.trans ee).trans e6, rel6, rx6, p6⟩
     ·exact p6.elim
  ·exact p'.elim
 ·have hl : i = it.xs.length := by omega
  subst hl
  rw [List.drop_length] at p'
  unfold zQ at p'
  split at p'
  ·rename_i hw
   exact .inl ⟨(hJ I' F' _ w' H' _ e' rel' hw).2 rfl, fin I' F' G w' H' q xs us rel' hG rx p'⟩
  ·exact p'.elim
section
variable {S : aR} {pos : Pos} {elt tg iter tg1 iter1 : Expr} {ifs ifs1 : List Expr} {scope : Scope} {own : List (Str × Nat)} {vs1 : List Nat} {mi mi1 : MI} {g g1 : MG} {t t1 : MT} {me : ME}
theorem YB (hi : JI S tg iter mi) (hb : blkC S.N S.sc scope own = true) (hg : JC (S.blk scope) (own.map (·.2)) tg g) (ht : JTs (S.blk scope) ifs t) (hi1 : JI (S.blk scope) tg1 iter1 mi1) (hg1 : JC (S.blk scope) vs1 tg1 g1) (ht1 : JTs (S.blk scope) ifs1 t1) (he : JE (S.blk scope) elt me)
  (hv : ∀ i ∈ vs1, i ∈ own.map (·.2) := by decide) (hs : ∀ (env : Env) x, foldedSetIterable iter env x = pure x := by intro _ _; rfl) (hs1 : ∀ (env : Env) x, foldedSetIterable iter1 env x = pure x := by intro _ _; rfl) :
  JE S (.ListComp elt [⟨tg, iter, ifs, 0⟩, ⟨tg1, iter1, ifs1, 0⟩] scope pos) (FQ mi (own.map (·.2)) g t mi1 vs1 g1 t1 me) := fun X E cx xo =>
 cV (pe_lc2 (own := own) (vs1 := vs1) cx.calm cx.nd (hi X E cx xo) (blkOk_by (by rw [cx.N, cx.sc]; exact hb)) hv (fun s H C cl fp => hg _ E0 (iV cx s H scope C cl fp) (iX ..)) (fun s H C cl fp => ht _ E0 (iV cx s H scope C cl fp) (iX ..))
  (fun s H C cl fp => hi1 _ E0 (iV cx s H scope C cl fp) (iX ..)) (fun s H C cl fp => hg1 _ E0 (iV cx s H scope C cl fp) (iX ..)) (fun s H C cl fp => ht1 _ E0 (iV cx s H scope C cl fp) (iX ..))
  (fun s H C cl fp => he _ E0 (iV cx s H scope C cl fp) (iX ..)) (hs X.env) hs1) fun σ H Q h => U6 h LP
end
structure KTab (K : PySem.W.Frag) (w : World) (d : Addr) (tab : List (Str × Option D)) : Prop where
 ex : ∃ es n, KDict K w d es n
 hit : ∀ z x, tab.lookup z = some (some x) → ∃ u v, PySem.W.nsIn K d z = some (some u) ∧ RelV v u ∧ ∀ I F, aF K I F x v
 miss : ∀ z, tab.lookup z = some none → PySem.W.nsIn K d z = some none
def VH (d : Addr) (tab : List (Str × Option D)) (x y : D) (w : W) : Res D := match x, y with
 | .str z, .con a => if a = d then (match tab.lookup z with
  | some o => .ok (.bl o.isSome) w
  | none => .bad) else .bad
 | _, _ => .bad
def LX (d : Addr) (tab : List (Str × Option D)) (x y : D) (w : W) : Res D := match x, y with
 | .con a, .str z => if a = d then (match tab.lookup z with
  | some (some v) => .ok v w
  | _ => .bad) else .bad
 | _, _ => .bad
theorem aEg {S : aR} {d : Addr} {tab : List (Str × Option D)} (T : KTab S.K S.w d tab) : O2 S (compareOp .In) (VH d tab) := hV fun X E c xo I F G a b w H x y Q rel rd re p => by
 unfold VH at p
 split at p
 ·rename_i z a'
  simp only [aF] at rd re
  subst rd re
  split at p
  ·rename_i hd
   subst hd
   obtain ⟨es, n, T1⟩ := T.ex
   rw [← c.K, ← c.w] at T1
   cases h : tab.lookup z with
   | none => rw [h] at p; exact p.elim
   | some o =>
    rw [h] at p
    cases o with
    | none => exact ⟨_, op_in_kd T1, z, none, rfl, rfl, by rw [c.K]; exact T.miss z h, p.mM rel (by simp [aF])⟩
    | some v =>
     obtain ⟨u, v', h1, h2, h3⟩ := T.hit z v h
     exact ⟨_, op_in_kd T1, z, some u, rfl, rfl, by rw [c.K]; exact h1, p.mM rel (by simp [aF])⟩
  ·exact p.elim
 ·exact p.elim
theorem aDv {S : aR} {d : Addr} {tab : List (Str × Option D)} (T : KTab S.K S.w d tab) : ZQ S (LX d tab) := ND fun X E c xo I F G a b w H x y Q rel rd re p => by
 unfold LX at p
 split at p
 ·rename_i a' z
  simp only [aF] at rd re
  subst rd re
  split at p
  ·rename_i hd
   subst hd
   obtain ⟨es, n, T1⟩ := T.ex
   rw [← c.K, ← c.w] at T1
   cases h : tab.lookup z with
   | none => rw [h] at p; exact p.elim
   | some o =>
    cases o with
    | none => rw [h] at p; exact p.elim
    | some v =>
    rw [h] at p
    obtain ⟨u, v', h1, h2, h3⟩ := T.hit z v h
    exact ⟨_, ix_kdict, a', z, v', rfl, rfl, ⟨es, n, u, T1.at_, T1.lit, by rw [c.K]; exact h1, h2⟩, p.mM rel (by rw [c.K]; exact h3 _ _)⟩
  ·exact p.elim
 ·exact p.elim
theorem QU {S : aR} {d : Addr} {tab : List (Str × Option D)} {a b : Expr} {ma mb : ME} {pos : Pos} (T : KTab S.K S.w d tab) (ha : JE S a ma) (hb : JE S b mb) (hs : PlainIx b := by intro _ _; rfl) : JE S (.Subscript a b pos) (aC (LX d tab) ma mb) := fun X E c xo =>
 cV (pe_ix (aDv T X E c xo) (ha X E c xo) (hb X E c xo) hs) fun _ _ _ h => yJ h
open RZ (nextOf_tuple_item nextOf_tuple_end zipTH1 zipTH2 zipTH3 zipTH4)
abbrev iK (h : Heap) (z TI TO : Addr) (f0 : Value) : Prop :=
 h.get? z = some { cls := .type "zip", dict := none, data := .fields #[f0, .bool false, .bool true, .ref TI, .ref TO], slots := #[] }
abbrev zsH (h : Heap) (l1 l2 : Addr) : Heap := (zipTH4 h l1 l2).push { cls := .type "zip", data := .fields #[.none, .bool false, .bool true, .ref (zipTH2 h l1 l2).objs.size, .ref (zipTH3 h l1 l2).objs.size] }
theorem CC (a b c : Value) : checkTypeCall "zip" ⟨[a, b], [(Str.ofString "strict", c)]⟩ = pure () := by kernel_rfl
theorem GA (a b c : Value) : checkBuiltinCall "zip.__new__" ⟨[.type "zip", a, b], [(Str.ofString "strict", c)]⟩ = pure () := by kernel_rfl
theorem TZ (x a b c : Value) : argsOk "object.__init__" ⟨[x, a, b], [(Str.ofString "strict", c)]⟩ := by unfold argsOk; kernel_rfl
theorem aD3 (l1 l2 : Addr) (xs ys : Array Value) : Meets (Builtin.«zip.__new__» ⟨[.type "zip", .ref l1, .ref l2], [(Str.ofString "strict", .bool true)]⟩) (fun _ R s => s.heap.IsTuple l1 xs ∧ s.heap.IsTuple l2 ys ∧
   R (.ok (.ret (.ref (zipTH4 s.heap l1 l2).objs.size))) { s with heap := zsH s.heap l1 l2 }) :=
 .of_wp fun prog w A R s ⟨t1, t2, fin⟩ => by
  obtain ⟨hp, gs, dr, tk, os⟩ := s
  have sub0 := sub_zip
  have T1 : Heap.IsTuple (Shared.heap ⟨hp, gs, dr, tk, os⟩) l1 xs := t1
  have T2 : Heap.IsTuple (Shared.heap ⟨hp.push { cls := .type "tuple_iterator", data := .fields #[.ref l1, .int 0 0] }, gs, dr, tk, os⟩) l2 ys := Heap.IsTuple.push t2 _
  have s1 : (Str.ofString "strict" == ("strict" : Str)) = true := by decide +kernel
  have s2 : (Str.ofString "strict" != ("strict" : Str)) = false := by decide +kernel
  wp_walk using wpAny_pyIter_tuple T1, wpAny_pyIter_tuple T2
  exact ⟨_, rfl, fin⟩
open RZ (nextOf_tuple_item nextOf_tuple_end zipTH1 zipTH2 zipTH3 zipTH4)
section
variable {prog : Program} {w : World} {A : Around} {E : Value → Shared → Prop} {s : Shared}
theorem aBv {l1 l2 : Addr} {xs ys : Array Value} {Q : Value → Shared → Prop} (t1 : s.heap.IsTuple l1 xs) (t2 : s.heap.IsTuple l2 ys)
  (fin : ∀ g, iK g (s.heap.objs.size + 4) (s.heap.objs.size + 2) (s.heap.objs.size + 3) .none → IsPair g (s.heap.objs.size + 2) (.ref s.heap.objs.size) (.ref (s.heap.objs.size + 1)) → IsPair g (s.heap.objs.size + 3) .none .none →
   g.IsTupleIter s.heap.objs.size l1 0 → g.IsTupleIter (s.heap.objs.size + 1) l2 0 → (∀ c o, s.heap.get? c = some o → g.get? c = some o) → Q (.ref (s.heap.objs.size + 4)) { s with heap := g }) :
  wpAny (model prog w) A (call (.type "zip") [.ref l1, .ref l2] [(Str.ofString "strict", .bool true)]) Q E s := by
 refine callType_newKw F.called_zip (by decide) (CC _ _ _) (GA _ _ _) (fun x => TZ x _ _ _) F.entry_zip_new (aD3 l1 l2 xs ys) ⟨t1, t2, ?_⟩
 have n1 : (zipTH1 s.heap l1).objs.size = s.heap.objs.size + 1 := Heap.size_push ..
 have n2 : (zipTH2 s.heap l1 l2).objs.size = s.heap.objs.size + 2 := by rw [Heap.size_push, n1]
 have n3 : (zipTH3 s.heap l1 l2).objs.size = s.heap.objs.size + 3 := by rw [Heap.size_push, n2]
 have n4 : (zipTH4 s.heap l1 l2).objs.size = s.heap.objs.size + 4 := by rw [Heap.size_push, n3]
 have up1 : ∀ {c o}, (zipTH4 s.heap l1 l2).get? c = some o → (zsH s.heap l1 l2).get? c = some o := fun h => Heap.get?_push_of_some _ h
 have up2 : ∀ {c o}, (zipTH3 s.heap l1 l2).get? c = some o → (zsH s.heap l1 l2).get? c = some o := fun h => up1 (Heap.get?_push_of_some _ h)
 have up3 : ∀ {c o}, (zipTH2 s.heap l1 l2).get? c = some o → (zsH s.heap l1 l2).get? c = some o := fun h => up2 (Heap.get?_push_of_some _ h)
 have up4 : ∀ {c o}, (zipTH1 s.heap l1).get? c = some o → (zsH s.heap l1 l2).get? c = some o := fun h => up3 (Heap.get?_push_of_some _ h)
 have k5 : (zsH s.heap l1 l2).get? (zipTH4 s.heap l1 l2).objs.size = some _ := Heap.get?_push_size _ rfl
 have k4 : (zsH s.heap l1 l2).get? (zipTH3 s.heap l1 l2).objs.size = some _ := up1 (Heap.get?_push_size _ rfl)
 have k3 : (zsH s.heap l1 l2).get? (zipTH2 s.heap l1 l2).objs.size = some _ := up2 (Heap.get?_push_size _ rfl)
 have k2 : (zsH s.heap l1 l2).get? (zipTH1 s.heap l1).objs.size = some _ := up3 (Heap.get?_push_size _ rfl)
 have k1 : (zsH s.heap l1 l2).get? s.heap.objs.size = some _ := up4 (Heap.get?_push_size _ rfl)
 show _ ∧ _
 rw [n2, n3, n4] at k5
 rw [n1, n2] at k3
 rw [n3] at k4
 rw [n1] at k2
 rw [n4]
 exact ⟨⟨_, k5, rfl⟩, fin _ k5 k3 k4 ⟨_, k1, rfl, rfl⟩ ⟨_, k2, rfl, rfl⟩ fun c o h => up4 (Heap.get?_push_of_some _ h)⟩
theorem FY {it l : Addr} {i : Nat} {items : Array Value} {x : Value} {Q : Option Value → Shared → Prop} (a : s.heap.IsTupleIter it l i) (b : s.heap.IsTuple l items) (c : items[i]? = some x)
  (q : ∀ g, g.IsTupleIter it l (i + 1) → Heap.SameBut it s.heap g → Q (some x) { s with heap := g }) : wpAny (model prog w) A (Builtin.SmallTypes.nextOrEnd (.ref it)) Q E s := by
 unfold Builtin.SmallTypes.nextOrEnd
 exact wpAny_bind (wpAny_attempt (nextOf_tuple_item a b c fun g g1 g2 => wpAny_pure (q g g1 g2)))
theorem J4 {it l : Addr} {i : Nat} {items : Array Value} {Q : Option Value → Shared → Prop} (hh : A.handled = none) (a : s.heap.IsTupleIter it l i) (b : s.heap.IsTuple l items) (c : items[i]? = none)
  (q : ∀ g, Heap.ExtBut it s.heap g → Q none { s with heap := g }) : wpAny (model prog w) A (Builtin.SmallTypes.nextOrEnd (.ref it)) Q E s := by
 unfold Builtin.SmallTypes.nextOrEnd
 refine wpAny_bind (wpAny_attempt (nextOf_tuple_end hh a b c fun g e g1 ⟨o, g2, g3⟩ => ?_))
 refine wpAny_bind (wpAny_isInstance (T := "StopIteration") (b := true) ⟨o, g2, g3⟩ isSubtype_stop ?_)
 exact wpAny_pure (q g g1)
theorem rR {T : Addr} {a b x : Value} {k : Nat} {Q : Unit → Shared → Prop} (h : IsPair s.heap T a b) (q : ∀ g, g.get? T = some { cls := .type "tuple", data := .seq ((#[a, b] : Array Value).setIfInBounds k x) } → Heap.SameBut T s.heap g → Q () { s with heap := g }) :
  wpAny (model prog w) A (updateSeq T (·.setIfInBounds k x)) Q E s := wpAny_updateSeq_pair h q
theorem aBS {z TI TO i1 i2 l1 l2 : Addr} {k : Nat} {xs ys : Array Value} {x y a b : Value} {Q : Value → Shared → Prop} (D : ZipApart z TI TO i1 i2 l1 l2)
  (hz : iK s.heap z TI TO .none) (hI : IsPair s.heap TI (.ref i1) (.ref i2)) (hO : IsPair s.heap TO a b) (a1 : s.heap.IsTupleIter i1 l1 k) (a2 : s.heap.IsTupleIter i2 l2 k) (b1 : s.heap.IsTuple l1 xs) (b2 : s.heap.IsTuple l2 ys) (c1 : xs[k]? = some x) (c2 : ys[k]? = some y)
  (fin : ∀ g, iK g z TI TO (rawInt s.heap.objs.size) → IsPair g TO x y → g.IsTupleIter i1 l1 (k + 1) → g.IsTupleIter i2 l2 (k + 1) → IsPair g s.heap.objs.size x y → (∀ c o, c ≠ z → c ≠ TO → c ≠ i1 → c ≠ i2 → s.heap.get? c = some o → g.get? c = some o) → Q (.ref s.heap.objs.size) { s with heap := g }) :
  wpAny (model prog w) A (Builtin.«zip.__next__» ⟨[.ref z], []⟩) (fun f t => ∃ v, f = .done (.ret v) ∧ Q v t) E s := by
 show wpAny _ _ (field (.ref z) 2 >>= _) _ _ _
 refine wpAny_bind (wpAny_field hz rfl (x := .bool true) rfl ?_)
 show wpAny _ _ (field (.ref z) 3 >>= _) _ _ _
 refine wpAny_bind (wpAny_field hz rfl (x := .ref TI) rfl ?_)
 refine wpAny_bind (wpAny_seqItems hI rfl ?_)
 show wpAny _ _ (Builtin.SmallTypes.ownedTupleIsFree (.ref z) >>= _) _ _ _
 refine wpAny_bind ?_
 unfold Builtin.SmallTypes.ownedTupleIsFree
 refine wpAny_bind (wpAny_field hz rfl (x := .none) rfl (wpAny_pure ?_))
 simp only [ah]
 refine wpAny_bind (wpAny_rule ?_)
 refine wpAny_bind (wpAny_field hz rfl (x := .ref TO) rfl ?_)
 refine wpAny_bind (wpAny_setField_rec hz (by simp) fun g1 z1 s1 => ?_)
 have z1' : iK g1 z TI TO .ellipsis := z1
 refine wpAny_bind ?_
 simp only [List.zipIdx_cons, List.zipIdx_nil, List.forIn_cons, List.forIn_nil]
 refine wpAny_bind (wpAny_bind (wpAny_onRaise ?_))
 show wpAny _ _ (Builtin.SmallTypes.nextOrEnd (.ref i1)) _ _ _
 refine FY (a1.extBut s1.extBut D.i1z) (b1.extBut s1.extBut D.l1z) c1 fun g2 d1 s2 => ?_
 have O2 : IsPair g2 TO a b := s2.extBut _ _ D.TOi1 (s1.extBut _ _ D.TOz hO)
 refine wpAny_bind (wpAny_seqItems O2 rfl ?_)
 refine wpAny_bind (rR O2 fun g3 O3 s3 => ?_)
 have O3' : IsPair g3 TO x b := O3
 refine wpAny_bind (wpAny_letGo (wpAny_pure ?_))
 refine wpAny_bind (wpAny_bind (wpAny_onRaise ?_))
 show wpAny _ _ (Builtin.SmallTypes.nextOrEnd (.ref i2)) _ _ _
 refine FY (((a2.extBut s1.extBut D.i2z).extBut s2.extBut D.i12.symm).extBut s3.extBut D.TOi2.symm) (((b2.extBut s1.extBut D.l2z).extBut s2.extBut D.l2i1).extBut s3.extBut D.l2TO) c2 fun g4 d2 s4 => ?_
 have O4 : IsPair g4 TO x b := s4.extBut _ _ D.TOi2 O3'
 refine wpAny_bind (wpAny_seqItems O4 rfl ?_)
 refine wpAny_bind (rR O4 fun g5 O5 s5 => ?_)
 have O5' : IsPair g5 TO x y := O5
 refine wpAny_bind (wpAny_letGo (wpAny_pure (wpAny_pure ?_)))
 refine wpAny_bind (wpAny_seqItems O5' rfl ?_)
 refine wpAny_bind (wpAny_newTuple ?_)
 have size5 : g5.objs.size = s.heap.objs.size := by rw [s5.1, s4.1, s3.1, s2.1, s1.1]
 have z5 : iK g5 z TI TO .ellipsis := s5.extBut _ _ D.TOz.symm (s4.extBut _ _ D.i2z.symm (s3.extBut _ _ D.TOz.symm (s2.extBut _ _ D.i1z.symm z1')))
 have kp : ∀ c o, c ≠ z → c ≠ TO → c ≠ i1 → c ≠ i2 → s.heap.get? c = some o → g5.get? c = some o := fun c o n1 n2 n3 n4 e =>
  s5.extBut _ _ n2 (s4.extBut _ _ n4 (s3.extBut _ _ n2 (s2.extBut _ _ n3 (s1.extBut _ _ n1 e))))
 have d1' : g5.IsTupleIter i1 l1 (k + 1) := ((d1.extBut s3.extBut D.TOi1.symm).extBut s4.extBut D.i12).extBut s5.extBut D.TOi1.symm
 have d2' : g5.IsTupleIter i2 l2 (k + 1) := d2.extBut s5.extBut D.TOi2.symm
 have zl : z < g5.objs.size := Heap.lt_size z5
 show wpAny _ _ (Builtin.SmallTypes.ownedTupleHandOut (.ref z) (.ref g5.objs.size) >>= _) _ _ _
 refine wpAny_bind ?_
 unfold Builtin.SmallTypes.ownedTupleHandOut
 have z6 : iK (g5.push { cls := .type "tuple", data := .seq #[x, y] }) z TI TO .ellipsis := Heap.get?_push_of_some _ z5
 refine wpAny_bind (wpAny_setField_rec z6 (by simp) fun g7 z7 s7 => ?_)
 have z7' : iK g7 z TI TO (rawInt g5.objs.size) := z7
 refine wpAny_setField_rec z7' (by simp) fun g8 z8 s8 => ?_
 have z8' : iK g8 z TI TO (rawInt g5.objs.size) := z8
 have up : ∀ c o, c ≠ z → g5.get? c = some o → g8.get? c = some o := fun c o n e => s8.extBut _ _ n (s7.extBut _ _ n (Heap.get?_push_of_some _ e))
 have T8 : IsPair g8 g5.objs.size x y := s8.extBut _ _ (Nat.ne_of_gt zl) (s7.extBut _ _ (Nat.ne_of_gt zl) (Heap.get?_push_size _ rfl))
 rw [size5] at z8' T8
 refine wpAny_pure ⟨_, rfl, ?_⟩
 show Q (.ref g5.objs.size) _
 rw [size5]
 exact fin g8 z8' (up _ _ D.TOz O5') (d1'.at fun o e => up _ o D.i1z e) (d2'.at fun o e => up _ o D.i2z e) T8 fun c o n1 n2 n3 n4 e => up c o n1 (kp c o n1 n2 n3 n4 e)
theorem aDF {z TI TO i1 i2 l1 l2 : Addr} {k : Nat} {xs ys : Array Value} {a b : Value} {Q : Fin → Shared → Prop} (hh : A.handled = none) (D : ZipApart z TI TO i1 i2 l1 l2)
  (hz : iK s.heap z TI TO .none) (hI : IsPair s.heap TI (.ref i1) (.ref i2)) (hO : IsPair s.heap TO a b) (a1 : s.heap.IsTupleIter i1 l1 k) (a2 : s.heap.IsTupleIter i2 l2 k) (b1 : s.heap.IsTuple l1 xs) (b2 : s.heap.IsTuple l2 ys) (c1 : xs[k]? = none) (c2 : ys[k]? = none)
  (fin : ∀ g e, (∀ c o, c ≠ z → c ≠ TO → c ≠ i1 → c ≠ i2 → s.heap.get? c = some o → g.get? c = some o) → (∃ o, g.get? e = some o ∧ o.cls = .type "StopIteration") → E (.ref e) { s with heap := g }) :
  wpAny (model prog w) A (Builtin.«zip.__next__» ⟨[.ref z], []⟩) Q E s := by
 show wpAny _ _ (field (.ref z) 2 >>= _) _ _ _
 refine wpAny_bind (wpAny_field hz rfl (x := .bool true) rfl ?_)
 show wpAny _ _ (field (.ref z) 3 >>= _) _ _ _
 refine wpAny_bind (wpAny_field hz rfl (x := .ref TI) rfl ?_)
 refine wpAny_bind (wpAny_seqItems hI rfl ?_)
 show wpAny _ _ (Builtin.SmallTypes.ownedTupleIsFree (.ref z) >>= _) _ _ _
 refine wpAny_bind ?_
 unfold Builtin.SmallTypes.ownedTupleIsFree
 refine wpAny_bind (wpAny_field hz rfl (x := .none) rfl (wpAny_pure ?_))
 simp only [ah]
 refine wpAny_bind (wpAny_rule ?_)
 refine wpAny_bind (wpAny_field hz rfl (x := .ref TO) rfl ?_)
 refine wpAny_bind (wpAny_setField_rec hz (by simp) fun g1 z1 s1 => ?_)
 have z1' : iK g1 z TI TO .ellipsis := z1
 refine wpAny_bind ?_
 simp only [List.zipIdx_cons, List.zipIdx_nil, List.forIn_cons, List.forIn_nil]
 refine wpAny_bind (wpAny_bind (wpAny_onRaise ?_))
 show wpAny _ _ (Builtin.SmallTypes.nextOrEnd (.ref i1)) _ _ _
 refine J4 hh (a1.extBut s1.extBut D.i1z) (b1.extBut s1.extBut D.l1z) c1 fun g2 s2 => ?_
 have z2 : iK g2 z TI TO .ellipsis := s2 _ _ D.i1z.symm z1'
 refine wpAny_bind (wpAny_setField_rec z2 (by simp) fun g3 _ s3 => ?_)
 refine wpAny_bind (wpAny_bind ?_)
 show wpAny _ _ (forIn ((List.drop 1 [Value.ref i1, Value.ref i2]).zipIdx 1) PUnit.unit _) _ _ _
 simp only [List.drop_succ_cons, List.drop_zero, List.zipIdx_cons, List.zipIdx_nil, List.forIn_cons, List.forIn_nil]
 refine wpAny_bind (wpAny_bind (J4 hh (((a2.extBut s1.extBut D.i2z).extBut s2 D.i12.symm).extBut s3.extBut D.i2z) (((b2.extBut s1.extBut D.l2z).extBut s2 D.l2i1).extBut s3.extBut D.l2z) c2 fun g4 s4 => ?_))
 show wpAny _ _ (pure (ForInStep.yield PUnit.unit)) _ _ _
 refine wpAny_pure ?_
 refine wpAny_pure ?_
 refine wpAny_bind (wpAny_rule ?_)
 unfold Builtin.SmallTypes.stopIteration
 refine wpAny_bind ?_
 simp only [newExc, newTuple]
 refine wpAny_bind (wpAny_newObj_type ?_ (by size_fits))
 refine wpAny_bind (m := firstArgMember _ _) (wpAny_of_eq (a := Value.none) (by first | rfl | (simp only [firstArgMember]; rfl)) ?_)
 refine wpAny_newObj_type ?_ (by size_fits)
 simp only [raiseNew]
 refine wpAny_bind (wpAny_handled ?_)
 rw [hh]
 refine wpAny_bind (wpAny_pure (wpAny_throw ?_))
 refine fin _ _ (fun c o n1 _ n3 n4 e => ?_) ⟨_, Heap.get?_push_size _ rfl, rfl⟩
 exact Heap.get?_push_of_some _ (Heap.get?_push_of_some _ (s4 _ _ n4 (s3.extBut _ _ n1 (s2 _ _ n3 (s1.extBut _ _ n1 e)))))
theorem L5 {z TI TO i1 i2 l1 l2 : Addr} {k : Nat} {xs ys : Array Value} {x y a b : Value} {Q : Option Value → Shared → Prop} (D : ZipApart z TI TO i1 i2 l1 l2)
  (hz : iK s.heap z TI TO .none) (hI : IsPair s.heap TI (.ref i1) (.ref i2)) (hO : IsPair s.heap TO a b) (a1 : s.heap.IsTupleIter i1 l1 k) (a2 : s.heap.IsTupleIter i2 l2 k) (b1 : s.heap.IsTuple l1 xs) (b2 : s.heap.IsTuple l2 ys) (c1 : xs[k]? = some x) (c2 : ys[k]? = some y)
  (fin : ∀ g, iK g z TI TO (rawInt s.heap.objs.size) → IsPair g TO x y → g.IsTupleIter i1 l1 (k + 1) → g.IsTupleIter i2 l2 (k + 1) → IsPair g s.heap.objs.size x y → (∀ c o, c ≠ z → c ≠ TO → c ≠ i1 → c ≠ i2 → s.heap.get? c = some o → g.get? c = some o) → Q (some (.ref s.heap.objs.size)) { s with heap := g }) :
  wpAny (model prog w) A (pyNext (.ref z)) Q E s := by
 have ty : s.TypeIs (.ref z) "zip" := ⟨_, hz, rfl⟩
 unfold pyNext
 exact wpAny_bind (wpAny_attempt (wpAny_callSpecial?_slot (name := Str.ofString "__next__") ty F.slot_zip_next (wpAny_call_entry F.slot_zip_next ty F.entry_zip_next (aBS D hz hI hO a1 a2 b1 b2 c1 c2 fun g e1 e2 e3 e4 e5 e6 => wpAny_pure (fin g e1 e2 e3 e4 e5 e6)) (F.args_zip_next_1 _))))
theorem R9 {z TI TO i1 i2 l1 l2 : Addr} {k : Nat} {xs ys : Array Value} {a b : Value} {Q : Option Value → Shared → Prop} (hh : A.handled = none) (D : ZipApart z TI TO i1 i2 l1 l2)
  (hz : iK s.heap z TI TO .none) (hI : IsPair s.heap TI (.ref i1) (.ref i2)) (hO : IsPair s.heap TO a b) (a1 : s.heap.IsTupleIter i1 l1 k) (a2 : s.heap.IsTupleIter i2 l2 k) (b1 : s.heap.IsTuple l1 xs) (b2 : s.heap.IsTuple l2 ys) (c1 : xs[k]? = none) (c2 : ys[k]? = none)
  (fin : ∀ g, (∀ c o, c ≠ z → c ≠ TO → c ≠ i1 → c ≠ i2 → s.heap.get? c = some o → g.get? c = some o) → Q none { s with heap := g }) : wpAny (model prog w) A (pyNext (.ref z)) Q E s := by
 have ty : s.TypeIs (.ref z) "zip" := ⟨_, hz, rfl⟩
 unfold pyNext
 refine wpAny_bind (wpAny_attempt (wpAny_callSpecial?_slot (name := Str.ofString "__next__") ty F.slot_zip_next (wpAny_call_entry F.slot_zip_next ty F.entry_zip_next (aDF hh D hz hI hO a1 a2 b1 b2 c1 c2 fun g e kp he => ?_) (F.args_zip_next_1 _))))
 obtain ⟨o, h1, h2⟩ := he
 refine wpAny_bind (wpAny_isInstance (T := "StopIteration") (b := true) ⟨o, h1, h2⟩ isSubtype_stop ?_)
 exact wpAny_pure (fin _ kp)
theorem C9 {z TI TO : Addr} {f0 : Value} {Q : Value → Shared → Prop} (hz : iK s.heap z TI TO f0) (h : Q (.ref z) s) : wpAny (model prog w) A (pyIter (.ref z)) Q E s := by
 have ty : s.TypeIs (.ref z) "zip" := ⟨_, hz, rfl⟩
 refine wpAny_pyIter_slot ty F.slot_zip_iter (wpAny_call_entry F.slot_zip_iter ty F.entry_zip_iter ?_ (F.args_zip_iter_1 _))
 show wpAny _ _ (ret (.ref z)) _ _ s
 exact wpAny_pure ⟨_, rfl, "zip", _, ty, F.slot_zip_next.lookup, h⟩
theorem PV {elts : List Expr} {x1 : Nat} {pos : Pos} {z TI TO T : Addr} {Q : Unit → Shared → Prop} (hz : iK s.heap z TI TO (rawInt T))
  (fin : ∀ g, iK g z TI TO .none → Heap.SameBut z s.heap g → Q () { s with heap := g }) : wpAny (model prog w) A (letOwnedTupleGo (.Tuple elts x1 pos) (.ref z) (.ref T)) Q E s := by
 unfold letOwnedTupleGo
 refine wpAny_bind (wpAny_load hz ?_)
 show wpAny _ _ (if (["enumerate", "zip", "dict_itemiterator", "dict_reverseitemiterator", "odict_iterator", "itertools.zip_longest", "itertools.pairwise"].contains "zip" &&
   (#[rawInt T, .bool false, .bool true, .ref TI, .ref TO] : Array Value)[0]? == some (rawInt T)) = true then _ else _) Q E s
 rw [if_pos (by simp)]
 refine wpAny_bind (wpAny_rule ?_)
 show wpAny _ _ (setField (.ref z) 0 .none) Q E s
 exact wpAny_setField_rec hz (by simp) fun g h1 h2 => fin g h1 h2
end
def aEK (K : PySem.W.Frag) (a b : Addr) : It :=
 ⟨fun i H => ∃ (xs ys : List V) (x y : V), SqT K H a xs ∧ SqT K H b ys ∧ xs[i]? = some x ∧ ys[i]? = some y,
  fun i H v H' => ∃ T x y, v = .ref T ∧ H T = none ∧ H' = upd H T (.tup [x, y]) ∧ (∀ xs, SqT K H a xs → xs[i]? = some x) ∧ ∀ ys, SqT K H b ys → ys[i]? = some y,
  fun i H => ∃ xs ys : List V, SqT K H a xs ∧ SqT K H b ys ∧ xs.length ≤ i ∧ ys.length ≤ i⟩
theorem aAN {P : Program} {w : World} {K : PySem.W.Frag} {elts : List Expr} {kk : Nat} {tpos : Pos} {a b z TI TO i1 i2 : Addr} (D : ZipApart z TI TO i1 i2 a b) :
  Turn P w K (.Tuple elts kk tpos) (aEK K a b) [z, TI, TO, i1, i2] z (fun i h => iK h z TI TO .none ∧ IsPair h TI (.ref i1) (.ref i2) ∧ (∃ x y, IsPair h TO x y) ∧ h.IsTupleIter i1 a i ∧ h.IsTupleIter i2 b i) where
 mem := by simp
 obj := fun i h st c hc => by
  obtain ⟨f1, f2, ⟨x, y, f3⟩, ⟨o1, e1, _, d1⟩, ⟨o2, e2, _, d2⟩⟩ := st
  have cs : c = z ∨ c = TI ∨ c = TO ∨ c = i1 ∨ c = i2 := by simpa using hc
  rcases cs with rfl | rfl | rfl | rfl | rfl
  ·exact ⟨_, f1, fun v q => nomatch q⟩
  ·exact ⟨_, f2, fun v q => nomatch q⟩
  ·exact ⟨_, f3, fun v q => nomatch q⟩
  ·exact ⟨o1, e1, fun v q => by rw [d1] at q; cases q⟩
  ·exact ⟨o2, e2, fun v q => by rw [d2] at q; cases q⟩
 keep := fun i h h' st k => by
  obtain ⟨f1, f2, ⟨x, y, f3⟩, f4, f5⟩ := st
  exact ⟨k z (by simp) _ f1, k TI (by simp) _ f2, ⟨x, y, k TO (by simp) _ f3⟩, f4.at fun o q => k i1 (by simp) o q, f5.at fun o q => k i2 (by simp) o q⟩
 item := by
  intro X hP hw hK hc i pins s σ H E I fp st go
  subst hP hw hK
  obtain ⟨f1, f2, ⟨x0, y0, f3⟩, f4, f5⟩ := st
  obtain ⟨xs, ys, x, y, qx, qy, gx, gy⟩ := go
  obtain ⟨us, rv, p, _⟩ := I.tuple qx
  obtain ⟨us2, rv2, p2, _⟩ := I.tuple qy
  obtain ⟨u, hu, ru⟩ := rv.get gx
  obtain ⟨u2, hu2, ru2⟩ := rv2.get gy
  have zl : z < s.heap.objs.size := Heap.lt_size f1
  refine L5 D f1 f2 f3 f4 f5 p p2 (x := u) (y := u2) (by simpa using hu) (by simpa using hu2) fun g z' TO' h1' h2' hT hk => ?_
  refine ⟨_, rfl, PV (s := { s with heap := g }) z' fun g2 z'' sb => ?_⟩
  have hT2 : g2.get? s.heap.objs.size = some { cls := .type "tuple", data := .seq #[u, u2] } := (sb.2 _ (Nat.ne_of_gt zl)).trans hT
  have new : ObjOk X.prog X.w (upd H s.heap.objs.size (.tup [x, y])) g2 s.heap.objs.size (.tup [x, y]) := ⟨by show 2 ≤ sizeLine; decide, [u, u2], .cons ru (.cons ru2 .nil), ⟨_, hT2, rfl, _, rfl⟩⟩
  have I1 : Inv X pins σ (upd H s.heap.objs.size (.tup [x, y])) { s with heap := g2 } :=
   I.turnedNew (t' := s.toks) (ch := [z, TI, TO, i1, i2]) (fun c o hb q => by
    simp only [bh, bx, or_false, not_or] at hb
    exact (sb.2 c hb.1).trans (hk c o hb.1 hb.2.2.1 hb.2.2.2.1 hb.2.2.2.2 q)) fp (av _) new
  refine ⟨.ref s.heap.objs.size, _, I1, rfl, ⟨_, x, y, rfl, I.hok.fresh (av _), rfl, fun l hl => by rw [I.tuple_inj hl qx]; exact gx, fun l hl => by rw [I.tuple_inj hl qy]; exact gy⟩, ⟨z'', ?_, ⟨u, u2, ?_⟩, ?_, ?_⟩, fun c hcm => ?_⟩
  ·exact (sb.2 _ D.TIz).trans (hk _ _ D.TIz D.TITO D.TIi1 D.TIi2 f2)
  ·exact (sb.2 _ D.TOz).trans TO'
  ·exact h1'.at fun o q => (sb.2 _ D.i1z).trans q
  ·exact h2'.at fun o q => (sb.2 _ D.i2z).trans q
  ·have hlt : c < s.heap.objs.size := by
    have cs : c = z ∨ c = TI ∨ c = TO ∨ c = i1 ∨ c = i2 := by simpa using hcm
    rcases cs with rfl | rfl | rfl | rfl | rfl
    ·exact zl
    ·exact Heap.lt_size f2
    ·exact Heap.lt_size f3
    ·obtain ⟨_, e1, _⟩ := f4; exact Heap.lt_size e1
    ·obtain ⟨_, e2, _⟩ := f5; exact Heap.lt_size e2
   rw [upd_ne (Nat.ne_of_lt hlt)]
   exact (fp c hcm).1
 done := by
  intro X hP hw hK hc i pins s σ H E I fp st go
  subst hP hw hK
  obtain ⟨f1, f2, ⟨x0, y0, f3⟩, f4, f5⟩ := st
  obtain ⟨xs, ys, qx, qy, e1, e2⟩ := go
  obtain ⟨us, rv, p, _⟩ := I.tuple qx
  obtain ⟨us2, rv2, p2, _⟩ := I.tuple qy
  have l1 := rv.length
  have l2 := rv2.length
  refine R9 (I.ok.hd hc) D f1 f2 f3 f4 f5 p p2 (by simp; omega) (by simp; omega) fun g hk => ⟨rfl, I.turnedL (t' := s.toks) (ch := [z, TI, TO, i1, i2]) (fun c o hb q => ?_) fp⟩
  simp only [bh, bx, or_false, not_or] at hb
  exact hk c o hb.1 hb.2.2.1 hb.2.2.2.1 hb.2.2.2.2 q
 self := fun A i s Q E st h => C9 st.1 h
section
variable {M : Model} {A : Around} {E : Value → Shared → Prop} {s : Shared} {env : Env}
theorem wC {pos : Pos} {T : String} {first : List Value} {args : List (Bool × Sem Value)} {kws : List (Option Str × Sem Value)} {Q : Value → Shared → Prop} (p1 : args.any (·.1) = false) (p2 : kws.any (·.1.isNone) = false)
  (h : wpAny M A (evalArgs (.type T) true args kws) (fun a t => wpAny M A (call (.type T) (first ++ a.pos) a.kw) Q E t) E s) : wpAny M A (callWith pos (.type T) first args kws) Q E s := by
 unfold callWith
 refine wpAny_bind (wpAny_holding (wpAny_mono h (fun a t g => wpAny_bind (wpAny_standAt ?_)) fun _ _ z => z))
 simp only [p1, p2, Bool.or_false]
 refine wpAny_bind (wpAny_pure ?_)
 exact wpAny_bind (wpAny_mono g (fun r t2 hr => wpAny_bind (wpAny_holding (wpAny_point (wpAny_pure hr)))) fun _ _ z => z)
end
section
variable {X : Cx} {e e2 : Expr} {ta : TA} {p pos tpos cp kp : Pos} {elts : List Expr} {kk k : Nat}
def iZs (K : PySem.W.Frag) (ta : TA) : TI := fun σ H R => ta σ H fun vs H1 => ∃ a b xs ys, vs = [V.ref a, V.ref b] ∧ SqT K H1 a xs ∧ SqT K H1 b ys ∧ R (aEK K a b) H1
theorem aFk (hg : Gl X "zip") (hm : X.mg "zip" = none) (ha : PA X [e, e2] ta) (hs : starEach [e, e2] X.env = (false, eval e X.env) :: starEach [e2] X.env := by rfl) (hpl : (backTo pos (starEach [e, e2] X.env)).any (·.1) = false := by rfl)
  (hk1 : (backToKw pos (keywordEach [⟨some "strict", .Constant (.bool true) k cp, kp⟩] X.env)).any (·.1.isNone) = false := by rfl) (hk2 : (backToKw pos (keywordEach [⟨some "strict", .Constant (.bool true) k cp, kp⟩] X.env)).all (·.1.isSome) = true := by rfl)
  (hk3 : (backToKw pos (keywordEach [⟨some "strict", .Constant (.bool true) k cp, kp⟩] X.env)).filterMap (·.1) = [Str.ofString "strict"] := by rfl) :
  PI X (.Tuple elts kk tpos) (.Call (.Name "zip" p) [e, e2] [⟨some "strict", .Constant (.bool true) k cp, kp⟩] pos) (iZs X.K ta) := by
 refine ⟨fun pins s σ H R I h => ?_⟩
 refine wpAny_Call_Name_kw (ld_blt I hg hm PyProof.Rows.boot_zip (wC hpl hk1 ?_))
 have hA := ha.run pos pins s σ H _ I h
 rw [hs] at hA ⊢
 refine evalArgs_kwB hk2 (thn hA fun us s1 ⟨vs, H1, I1, r1, a, b, xs, ys, ex, qx, qy, q⟩ => ?_)
 subst ex
 rw [hk3]
 refine thn ((pk_cons (nm := some "strict") (kpos := kp) (pe_bl (b := true) (j := k) (pos := cp)) pk_nil).run pos pins s1 σ H1 (fun zs H2 => zs = [V.bl true] ∧ H2 = H1) I1 ⟨rfl, rfl⟩) fun ws s2 ⟨zs, H2, I2, rz, ez, eH⟩ => ?_
 subst ez eH
 obtain ⟨w1, rfl, rw1⟩ := rz.one
 cases rw1
 obtain ⟨u1, u2, rfl, ra, rb⟩ := r1.two
 cases ra
 cases rb
 obtain ⟨us1, rv, p1, _⟩ := I2.tuple qx
 obtain ⟨us2, rv2, p2, _⟩ := I2.tuple qy
 obtain ⟨o1, ho1, _⟩ := id p1
 obtain ⟨o2, ho2, _⟩ := id p2
 refine aBv (show s2.heap.IsTuple a us1.toArray from p1) (show s2.heap.IsTuple b us2.toArray from p2) fun g hz hI hO h1 h2 hk => C9 hz ?_
 have I3 : Inv X pins σ H2 { s2 with heap := g } := I2.kept (t' := s2.toks) hk
 refine ⟨s2.heap.objs.size + 4, [s2.heap.objs.size + 4, s2.heap.objs.size + 2, s2.heap.objs.size + 3, s2.heap.objs.size, s2.heap.objs.size + 1], _, _, H2, rfl, I3, aAN (PySem.W.ktu_apart s2.heap.objs.size a b (Heap.lt_size ho1) (Heap.lt_size ho2)), ⟨hz, hI, ⟨_, _, hO⟩, h1, h2⟩, fun c hc => ?_, q⟩
 have le : s2.heap.objs.size ≤ c := by
  simp only [bh, bx, or_false] at hc
  rcases hc with rfl | rfl | rfl | rfl | rfl <;> omega
 exact I2.fpOk le (I2.hok.fresh le)
end
def zsM (ds : List D) (w : W) : Res mG := match ds with
 | [x, y] => (match vS x, vS y with
  | some xs, some ys => if xs.length = ys.length then .ok ⟨(xs.zip ys).map fun p => .tup [p.1, p.2], always⟩ w else .bad
  | _, _ => .bad)
 | _ => .bad
theorem zL {K : PySem.W.Frag} {I : List Addr} {F : Hp} {d : D} {v : V} {xs : List D} (h : aF K I F d v) (e : vS d = some xs) : ∃ a vs, v = .ref a ∧ SqT K F a vs ∧ RepL K I F xs vs := by
 cases d <;> simp only [vS, ai, reduceCtorEq] at e <;> simp only [aF] at h
 case tup => subst e; obtain ⟨a, vs, h0, h1, h2⟩ := h; exact ⟨a, vs, h0, .of h1, h2⟩
 case jL => subst e; obtain ⟨a, vs, h0, h1, h2⟩ := h; exact ⟨a, vs, h0, h1, h2⟩
theorem aE2 {S : aR} {e e2 : Expr} {ma : MA} {p pos tpos cp kp : Pos} {elts : List Expr} {kk k : Nat} (hg : S.sc.names.lookup ("zip" : Str) = some .globalImplicit) (hm : S.mg "zip" = none) (ha : JA S [e, e2] ma)
  (hs : ∀ env : Env, starEach [e, e2] env = (false, eval e env) :: starEach [e2] env := by intro _; rfl) (hpl : ∀ env : Env, (backTo pos (starEach [e, e2] env)).any (·.1) = false := by intro _; rfl) :
  JI S (.Tuple elts kk tpos) (.Call (.Name "zip" p) [e, e2] [⟨some "strict", .Constant (.bool true) k cp, kp⟩] pos) (eY zsM ma) := fun X E cx xo =>
 rL (aFk (by show X.env.scope.names.lookup _ = _; rw [cx.sc]; exact hg) (by rw [cx.mg]; exact hm) (ha X E cx xo) (hs X.env) (hpl X.env)) fun σ H R ⟨I, F, G, ds, w, rel, rs, p⟩ => dR (f := fun _ => zsM) rel rs p fun I1 F1 H1 xs w1 vs e1 rel1 rs1 rv p1 => by
  unfold zsM at p1
  split at p1
  ·rename_i x y
   obtain ⟨v, u, rfl, rx, ry⟩ := rv.two
   split at p1
   ·rename_i xs ys hx hy
    split at p1
    ·rename_i hl
     obtain ⟨a, us, rfl, q1, q2⟩ := zL rx hx
     obtain ⟨b, ts, rfl, q3, q4⟩ := zL ry hy
     refine ⟨a, b, us, ts, rfl, rel1.LW q1, rel1.LW q3, p1 I1 F1 H1 .refl rel1 trivial _ fun I' F' G' w' H' j e' rel' _ => ?_⟩
     have t1 := rel'.LW (C8 e' q1)
     have t2 := rel'.LW (C8 e' q3)
     have r1 := RepL.ext e' _ _ q2
     have r2 := RepL.ext e' _ _ q4
     have l1 : xs.length = us.length := r1.length
     have l2 : ys.length = ts.length := r2.length
     refine ⟨fun x hx => ?_, fun hj => ⟨us, ts, t1, t2, ?_, ?_⟩⟩
     ·rw [bt] at hx
      cases hz : (xs.zip ys)[j]? with
      | none => rw [hz] at hx; cases hx
      | some pr =>
       rw [hz] at hx
       cases hx
       obtain ⟨pa, pb⟩ := pr
       rw [List.getElem?_zip_eq_some] at hz
       obtain ⟨v1, g1, g2⟩ := r1.get hz.1
       obtain ⟨v2, g3, g4⟩ := r2.get hz.2
       refine ⟨⟨us, ts, v1, v2, t1, t2, g1, g3⟩, fun v H'' y => ?_⟩
       obtain ⟨T, x', y', rfl, k1, rfl, k2, k3⟩ := y
       have z1 := k2 us t1
       have z2 := k3 ts t2
       rw [g1] at z1
       rw [g3] at z2
       cases z1
       cases z2
       exact vK rel' (RepL.cons g2 (RepL.cons g4 (by simp [RepL]))) k1
     ·simp only [ak, List.length_zip] at hj; omega
     ·simp only [ak, List.length_zip] at hj; omega
    ·exact p1.elim
   ·exact p1.elim
  ·exact p1.elim
def UC : D → Value → Bool
 | .non, .none => true
 | .bl b, .bool c => b == c
 | .int i, .int j _ => decide (i = j)
 | .str x, .str y _ => decide (x = y)
 | _, _ => false
def BE : D → V
 | .bl b => .bl b
 | .int i => .int i
 | .str x => .str x
 | _ => .non
theorem M0 {d : D} {u : Value} (h : UC d u = true) : RelV (BE d) u ∧ ∀ K I F, aF K I F d (BE d) := by
 cases d <;> cases u <;> simp only [UC, bj, beq_iff_eq, aq] at h
 ·exact ⟨rfl, fun _ _ _ => by simp [aF, BE]⟩
 ·subst h; exact ⟨rfl, fun _ _ _ => by simp [aF, BE]⟩
 ·subst h; exact ⟨⟨_, rfl⟩, fun _ _ _ => by simp [aF, BE]⟩
 ·subst h; exact ⟨⟨_, rfl⟩, fun _ _ _ => by simp [aF, BE]⟩
def A3 : List D → List Value → Bool
 | [], [] => true
 | d :: ds, u :: us => UC d u && A3 ds us
 | _, _ => false
theorem H0 : ∀ {ds : List D} {us : List Value}, A3 ds us = true → Vals (ds.map BE) us ∧ ∀ K I F, RepL K I F ds (ds.map BE)
 | [], [], _ => ⟨.nil, fun _ _ _ => by simp [RepL]⟩
 | d :: ds, u :: us, h => by
  simp only [A3, ar] at h
  obtain ⟨h1, h2⟩ := M0 h.1
  obtain ⟨h3, h4⟩ := H0 h.2
  exact ⟨.cons h1 h3, fun K I F => RepL.cons (h2 K I F) (h4 K I F)⟩
 | [], _ :: _, h => by simp [A3] at h
 | _ :: _, [], h => by simp [A3] at h
def LL (K : PySem.W.Frag) (d : D) (u : Value) : Bool := match d, u with
 | .jL ds, .ref a => (match K.lookup a with
  | some ⟨.type c, _, .seq its _, _⟩ => decide (c = "tuple") && (decide (its.size ≤ sizeLine) && A3 ds its.toList)
  | _ => false)
 | .con a, .ref b => decide (a = b)
 | d, u => UC d u
theorem HP {K : PySem.W.Frag} {d : D} {u : Value} (h : LL K d u = true) : ∃ v, RelV v u ∧ ∀ I F, aF K I F d v := by
 unfold LL at h
 split at h
 ·rename_i ds a
  split at h
  ·rename_i c od its n sl hl
   simp only [ar, aq] at h
   obtain ⟨rfl, h2, h3⟩ := h
   obtain ⟨h4, h5⟩ := H0 h3
   refine ⟨.ref a, rfl, fun I F => ?_⟩
   simp only [aF]
   exact ⟨a, _, rfl, .inr ⟨_, its, n, hl, rfl, rfl, h2, h4⟩, h5 K I F⟩
  ·cases h
 ·rename_i a b
  simp only [aq] at h
  subst h
  exact ⟨.ref a, rfl, fun I F => by simp [aF]⟩
 ·obtain ⟨h1, h2⟩ := M0 h
  exact ⟨_, h1, h2 K⟩
def OF (S : aR) (x : Str) (d : D) : Prop := ∃ v u, S.mg x = some u ∧ RelV v u ∧ ∀ I F, aF S.K I F d v
theorem jG {S : aR} {x : Str} {d : D} {pos : Pos} (G : OF S x d) (hg : S.sc.names.lookup x = some .globalImplicit := by rfl) (hd : (x == ("__debug__" : Str)) = false := by decide) : JE S (.Name x pos) (eC d) := by
 obtain ⟨v, u, h1, h2, h3⟩ := G
 exact aBQ hg h1 h2 h3 hd
def GD (K : PySem.W.Frag) (x : Str) (d : D) : Bool := match PySem.W.nsIn K mainGlobals x with
 | some (some u) => LL K d u
 | _ => false
theorem m9 {S : aR} {h : Heap} {x : Str} {d : D} (kin : S.K.In h) (ns : h.Ns mainGlobals S.mg) (c : GD S.K x d = true) : OF S x d := by
 unfold GD at c
 split at c
 ·rename_i u hu
  obtain ⟨v, h1, h2⟩ := HP c
  exact ⟨v, u, PySem.W.mg_of kin ns hu, h1, h2⟩
 ·cases c
def TV (K : PySem.W.Frag) (a : Addr) (tab : List (Str × Option D)) : Bool := tab.all fun p => match p.2 with
 | some d => (match PySem.W.nsIn K a p.1 with
  | some (some u) => LL K d u
  | _ => false)
 | none => He.eqO (PySem.W.nsIn K a p.1) (some none)
theorem lookup_mem {α : Type} {k : Str} {x : α} : ∀ {l : List (Str × α)}, l.lookup k = some x → (k, x) ∈ l
 | [], h => by simp at h
 | (j, y) :: r, h => by
  simp only [List.lookup] at h
  split at h
  ·rename_i e
   cases h
   rw [beq_iff_eq] at e
   subst e
   exact bf ..
  ·exact bp _ (lookup_mem h)
theorem MM {K : PySem.W.Frag} {w : World} {a : Addr} {tab : List (Str × Option D)} (ex : ∃ es n, KDict K w a es n) (c : TV K a tab = true) : KTab K w a tab := by
 unfold TV at c
 rw [br] at c
 refine ⟨ex, fun z x h => ?_, fun z h => ?_⟩
 ·have := c _ (lookup_mem h)
  dsimp only at this
  split at this
  ·rename_i u hu
   obtain ⟨v, h1, h2⟩ := HP this
   exact ⟨u, v, hu, h1, h2⟩
  ·cases this
 ·exact He.eqO_ok (c _ (lookup_mem h))
def mE {α : Type} (is : List (Nat × Nat)) (us ws mv : List α) : List α := is.filterMap fun p => match p.1 with
 | 0 => us[p.2]?
 | 1 => ws[p.2]?
 | _ => mv[p.2]?
theorem SU (is : List (Nat × Nat)) {vs zs ms : List V} {us ws mv : List Value} (h1 : Vals vs us) (h2 : Vals zs ws) (h3 : Vals ms mv) : Vals (mE is vs zs ms) (mE is us ws mv) := by
 induction is with
 | nil => exact .nil
 | cons p is ih =>
  obtain ⟨b, i⟩ := p
  unfold mE at ih ⊢
  match b with
  | 0 =>
   rcases Vals.at? h1 i with ⟨e1, e2⟩ | ⟨v, u, e1, e2, r⟩
   ·simpa [List.filterMap_cons, e1, e2] using ih
   ·simpa [List.filterMap_cons, e1, e2] using (show Vals (v :: _) (u :: _) from .cons r ih)
  | 1 =>
   rcases Vals.at? h2 i with ⟨e1, e2⟩ | ⟨v, u, e1, e2, r⟩
   ·simpa [List.filterMap_cons, e1, e2] using ih
   ·simpa [List.filterMap_cons, e1, e2] using (show Vals (v :: _) (u :: _) from .cons r ih)
  | n + 2 =>
   rcases Vals.at? h3 i with ⟨e1, e2⟩ | ⟨v, u, e1, e2, r⟩
   ·simpa [List.filterMap_cons, e1, e2] using ih
   ·simpa [List.filterMap_cons, e1, e2] using (show Vals (v :: _) (u :: _) from .cons r ih)
theorem VQ (is : List (Nat × Nat)) {K : PySem.W.Frag} {I : List Addr} {F : Hp} {xs zs ms : List D} {vs us mv : List V} (h1 : RepL K I F xs vs) (h2 : RepL K I F zs us) (h3 : RepL K I F ms mv) : RepL K I F (mE is xs zs ms) (mE is vs us mv) := by
 induction is with
 | nil => simp [mE, RepL]
 | cons p is ih =>
  obtain ⟨b, i⟩ := p
  unfold mE at ih ⊢
  match b with
  | 0 =>
   rcases RepL.at? h1 i with ⟨e1, e2⟩ | ⟨v, u, e1, e2, r⟩
   ·simpa [List.filterMap_cons, e1, e2] using ih
   ·simpa [List.filterMap_cons, e1, e2] using RepL.cons r ih
  | 1 =>
   rcases RepL.at? h2 i with ⟨e1, e2⟩ | ⟨v, u, e1, e2, r⟩
   ·simpa [List.filterMap_cons, e1, e2] using ih
   ·simpa [List.filterMap_cons, e1, e2] using RepL.cons r ih
  | n + 2 =>
   rcases RepL.at? h3 i with ⟨e1, e2⟩ | ⟨v, u, e1, e2, r⟩
   ·simpa [List.filterMap_cons, e1, e2] using ih
   ·simpa [List.filterMap_cons, e1, e2] using RepL.cons r ih
theorem NV {K : PySem.W.Frag} {x qual : Str} {params : Arguments} {body : List Stmt} {scope : Scope} {kws : List (Str × V)} {f : Addr} {fd : FuncData} {ps : List Str} (F : FunD K x qual params body scope [] kws f fd) (n : Nat) (ks : List Str) (ms : List (Str × V)) (mds : List D) (is : List (Nat × Nat))
  (hk : kws ≠ []) (hms : ∀ q ∈ ms, q ∈ kws) (hmd : ∀ I F', RepL K I F' mds (ms.map (·.2)))
  (h : ∀ (D : Addr) (doc pm : Value) (an : Option Addr) (cdv ct : Value) (us mv ws : List Value), us.length = n → mv.length = ms.length → ws.length = ks.length →
   KwChain D ((ms.map (·.1)).zip mv) (bindArgs (PySem.W.fnOf x qual params body scope .none (.ref D) doc pm an cdv ct) ⟨us, ks.zip ws⟩) (ps.zip (mE is us ws mv)))
  (hlen : ∀ xs zs : List D, xs.length = n → zs.length = ks.length → (mE is xs zs mds).length = ps.length) : cO K fd ps n ks fun xs zs => mE is xs zs mds := by
 obtain ⟨mv, kb⟩ := F.kbinds0 n ks ms (fun us mv ws => mE is us ws mv) hk hms (fun h1 h2 h3 => SU is h1 h3 h2) h
 exact ⟨⟨_, _, kb, fun I F' xs vs zs us h1 h2 => VQ is h1 h2 (hmd I F')⟩, hlen⟩
def kwAt (f : Str × Option Str) (x : Str) (K : PySem.W.Frag) : Addr := match K.lookup (He.fAd K f) with
 | some ⟨_, _, .func fd, _⟩ => (match fd.kwdefaults with
  | .ref d => (match PySem.W.nsIn K d x with
   | some (some (.ref a)) => a
   | _ => 0)
  | _ => 0)
 | _ => 0
section
variable {S : aR} {k n j : Nat} {f C : Addr} {fd : FuncData} {ps ks : List Str} {m : MF} {gd : List D → List D → List D} {x : Str} {p pos kpos : Pos} {e : Expr} {es : List Expr} {kws : List Keyword} {ma mk : MA}
theorem jmk (hk : k + 1 ≤ S.k) (M : Mk S.K C f) (Gf : fV S.P S.w S.K S.mg S.base k f fd ps m) (B : cO S.K fd ps (n + 1) ks gd) (hg : S.sc.names.lookup x = some .globalImplicit) (hm : S.mg x = some (.ref C)) (ha : JA S (e :: es) ma) (hkw : JK S kws mk) (hj : ks.length = j := by rfl)
  (hall : ∀ env : Env, (backToKw pos (keywordEach kws env)).all (·.1.isSome) = true := by intro _; rfl) (hks : ∀ env : Env, (backToKw pos (keywordEach kws env)).filterMap (·.1) = ks := by intro _; rfl)
  (hdb : (x == ("__debug__" : Str)) = false := by decide) (he : ∀ env : Env, starEach (e :: es) env = (false, eval e env) :: starEach es env := by intro _; rfl)
  (hpl : ∀ env : Env, ((backTo pos (starEach (e :: es) env)).any (·.1) || (backToKw pos (keywordEach kws env)).any (·.1.isNone)) = false := by intro _; rfl) :
  JE S (.Call (.Name x p) (e :: es) kws pos) (xW C m n j gd ma mk) := by subst hj; exact X2 hk M Gf B hg hm ha hkw hall hks hdb he hpl
end
theorem yP {S : aR} {pos : Pos} {a b c : Expr} {ma mb mc : ME} {f g : D → D → W → Res D} {op op' : CmpOp} (ho : O2 S (compareOp op) f) (ho' : O2 S (compareOp op') g) (ha : JE S a ma) (hb : JE S b mb) (hc : JE S c mc) (hm : lastMarks [op, op'] [b, c] = false := by with_unfolding_all rfl) :
  JT S (.Compare a [op, op'] [b, c] pos) (bA (UO f g ma mb mc)) := fun X E cx xo => DB (pt_chain (ho X E cx xo) (ho' X E cx xo) (ha X E cx xo) (hb X E cx xo) (hc X E cx xo) hm) fun σ H Q ⟨I, F, G, ds, w, rel, rs, p⟩ => by
  show tChain _ _ _ _ _ σ H fun x H' => ∃ k, x = .bl k ∧ Q k H'
  refine XF ⟨I, F, G, ds, w, rel, rs, (aY.bind p).mono fun I1 F1 H1 x w1 _ e1 rel1 p1 v rv => ?_⟩
  cases x <;> first | exact p1.elim | skip
  simp only [aF] at rv
  exact ⟨_, rv, p1 I1 F1 H1 .refl rel1⟩
theorem aDS {x y : Str} {a b : Expr} {px py pt pt2 : Pos} {kt k2 : Nat} {env : Env} (hk : env.scope.kind = .function) (hx : env.scope.names.lookup x = some .local) (hy : env.scope.names.lookup y = some .local) (hl : (py.line == px.line) = true) (hxy : x ≠ y)
  (h1 : ∀ v p, a ≠ .Starred v p) (h2 : ∀ v p, b ≠ .Starred v p) (hf : ([a, b].all (foldedForSure 8)) = false) (hc : ([a, b].all (constantsAlone 8)) = false) : swappedStores [.Tuple [.Name x px, .Name y py] kt pt] (.Tuple [a, b] k2 pt2) env = pure (some [x, y]) := by
 have kx : env.kindOf x = some .local := hx
 have ky : env.kindOf y = some .local := hy
 have hb : env.blockKind = .function := by unfold Env.blockKind; rw [hk]; rfl
 have st : ∀ f : Expr → Bool, (∀ e, f e = true → ∃ v p, e = .Starred v p) → ([a, b].any f) = false := fun f h => by
  rw [List.any_eq_false]
  intro e he z
  obtain ⟨v, p, rfl⟩ := h e z
  simp only [bh, bx, or_false] at he
  rcases he with rfl | rfl
  ·exact h1 _ _ rfl
  ·exact h2 _ _ rfl
 unfold swappedStores
 have lx : (px.line == px.line) = true := beq_self_eq_true _
 have nxy : (y == x) = false := beq_eq_false_iff_ne.mpr (Ne.symm hxy)
 have dup : ([x, y].eraseDups).length = 2 := by
  rw [List.eraseDups_cons, List.filter_cons, nxy]
  rfl
 simp only [hb, List.length_cons, List.length_nil, Nat.zero_add, Nat.reduceAdd, beq_self_eq_true, Bool.true_or, Bool.not_true, bne_self_eq_false, Bool.false_or, bj, ae, List.filterMap_cons, kx, ky, List.head?_cons, Option.map_some, Option.getD_some, Expr.pos, lx, hl, Bool.and_self, ah, List.filterMap_nil, hf, hc, dup]
 split
 ·rename_i z
  rw [st] at z
  ·cases z
  ·intro e he
   split at he
   ·exact ⟨_, _, rfl⟩
   ·cases he
 ·rfl
def HD (i j : Nat) (ma : MA) : MS := fun σ w => (ma σ w).bind fun xs w1 => match xs with
 | [u, v] => .ok (.nx ((σ.set i (some u)).set j (some v))) w1
 | _ => .bad
theorem aDi {S : aR} (i j : Nat) {x y : Str} {a b : Expr} {ma : MA} {px py pt pt2 pos : Pos} {kt k2 : Nat} (ha : JA S [a, b] ma) (hi : S.N[i]? = some x := by rfl) (hj : S.N[j]? = some y := by rfl) (hij : i ≠ j := by decide) (hx : S.sc.names.lookup x = some .local := by rfl) (hy : S.sc.names.lookup y = some .local := by rfl)
  (hk : S.sc.kind = .function := by rfl) (hl : (py.line == px.line) = true := by rfl) (hxy : x ≠ y := by decide) (h1 : ∀ v p, a ≠ .Starred v p := by intro _ _ h; cases h) (h2 : ∀ v p, b ≠ .Starred v p := by intro _ _ h; cases h) (hf : ([a, b].all (foldedForSure 8)) = false := by rfl) (hc : ([a, b].all (constantsAlone 8)) = false := by rfl)
  (hs : ∀ env : Env, swapsWithSole [.Tuple [.Name x px, .Name y py] kt pt] (.Tuple [a, b] k2 pt2) pos.line env = pure false := by intro _; rfl) : JS S (.Assign [.Tuple [.Name x px, .Name y py] kt pt] (.Tuple [a, b] k2 pt2) pos) (HD i j ma) := fun X E cx xo =>
 jQ (ps_par (i := i) (j := j) cx.calm cx.nd (by rw [cx.N]; exact hi) (by rw [cx.N]; exact hj) hij (by rw [cx.sc]; exact hx) (by rw [cx.sc]; exact hy) (ha X E cx xo) (aDS (by rw [cx.sc]; exact hk) (by rw [cx.sc]; exact hx) (by rw [cx.sc]; exact hy) hl hxy h1 h2 hf hc) (hs X.env)) fun Z σ H ⟨I, F, G, ds, w, rel, rs, p⟩ =>
  dR (f := fun ds xs w1 => match xs with
   | [u, v] => Res.ok (Fl.nx ((ds.set i (some u)).set j (some v))) w1
   | _ => .bad) rel rs p fun I1 F1 H1 xs w1 vs e1 rel1 rs1 rv p1 => by
   split at p1
   ·obtain ⟨v, u, rfl, r1, r2⟩ := rv.two
    exact ⟨v, u, rfl, p1 I1 F1 H1 .refl rel1 _ ((rs1.set i r1).set j r2)⟩
   ·exact p1.elim
section
variable {S : aR} {elt tg iter : Expr} {ifs : List Expr} {scope : Scope} {pos py spos : Pos} {y : Str} {mi : MI} {g : MG} {t : MT} {me : ME} {own : List (Str × Nat)}
theorem jsc (i : Nat) (hi : JI S tg iter mi) (hb : blkC S.N S.sc scope own = true) (hg : JC (S.blk scope) (own.map (·.2)) tg g) (ht : JTs (S.blk scope) ifs t) (he : JE (S.blk scope) elt me)
  (hy : S.N[i]? = some y := by rfl) (hyl : S.sc.names.lookup y = some .local := by rfl) (hl : (py.line == pos.line) = true := by rfl) (ha : (scope.names.any fun (n, k) => n == y && (k == .local || k == .cell)) = false := by rfl)
  (hk : S.sc.kind = .function := by rfl) (hs : ∀ (env : Env) x, foldedSetIterable iter env x = pure x := by intro _ _; rfl) : JS S (.Assign [.Name y py] (.ListComp elt [⟨tg, iter, ifs, 0⟩] scope pos) spos) (aT (bR mi (own.map (·.2)) g t me) (aU i)) :=
 SJ hy hyl (fun env e k => sw_true k (by rw [e]; exact hyl) hl ha) hi hb hg ht he hk hs
end
def wX (C : Addr) (m : MF) : MF := fun ds w => match ds with
 | [.ref i] => (match w[i]? with
  | some (.ins C' _) => if C' = C then (m [.ref i] w).bind fun d w1 => (match d with
    | .int n => if 0 ≤ n ∧ n < 2 ^ 62 then .ok (.int n) w1 else .bad
    | _ => .bad) else .bad
  | _ => cY [.ref i] w)
 | _ => cY ds w
section
variable {S : aR} {k n : Nat} {f C : Addr} {fd : FuncData} {ps ks : List Str} {m : MF} {gd : List D → List D → List D}
theorem aAJ (hk : k + 1 ≤ S.k) (cl : Cls S.K C) (hs : Meth S.K C "__len__" f) (Gf : fV S.P S.w S.K S.mg S.base k f fd ps m) (B : cO S.K fd ps 1 [] aP) : CB S (.builtin "len") (wX C m) :=
 fun X E cx xo pins s σ H vs us Q J r ⟨I, F, G, ds, w, rel, rl, p⟩ => by
  have old : ∀ {ds : List D}, RepL X.K I F ds vs → aY X.K I F G E (RV X.K Q) (cY ds w) → wpAny (model X.prog X.w) X.A (call (.builtin "len") us) (EP X pins σ Q) X.xe s := fun rl p => (fT (S := S)) X E cx xo pins s σ H vs us Q J r ⟨I, F, G, _, w, rel, rl, p⟩
  unfold wX at p
  split at p
  ·rename_i i
   split at p
   ·rename_i C' fs hw
    split at p
    ·rename_i hC
     subst hC
     obtain ⟨v, rfl, rv⟩ := rl.one
     obtain ⟨u, rfl, ru⟩ := vals1 r
     have rv0 := rv
     simp only [aF] at rv
     obtain ⟨a, rfl, hi⟩ := rv
     obtain rfl : u = Value.ref a := ru
     obtain ⟨ob, hu, dx, rr, rfl, hr⟩ := rel.ob i a _ hi hw
     obtain ⟨mA, O, _, _, _, _⟩ := ins_get J.hok hu
     obtain ⟨od, IA, _⟩ := O.look
     have Gf' : fV X.prog X.w X.K X.mg X.base k f fd ps m := by rw [cx.P, cx.w, cx.K, cx.mg, cx.base]; exact Gf
     have hs' : Meth X.K C' "__len__" f := by rw [cx.K]; exact hs
     obtain ⟨⟨g, gV, kb, rep⟩, _⟩ : cO X.K fd ps 1 [] aP := by rw [cx.K]; exact B
     have r1 : Vals [V.ref a] [Value.ref a] := .cons rfl .nil
     have r2 := kb.rel r1 (.nil : Vals [] [])
     have r3 := rep I F [.ref i] [.ref a] [] [] rl (by simp [RepL])
     have hl : (gV [V.ref a] []).length = ps.length := by
      rw [← r3.length]
      exact B.len [.ref i] [] rfl rfl
     have room : Room k X.A.in1 := (cx.room.mono hk).in1
     have pp : aY X.K I F G E (RV X.K fun v H2 => ∃ n : Int, v = .int n ∧ 0 ≤ n ∧ n < 2 ^ 62 ∧ Q (.int n) H2) (m (aP [.ref i] []) w) := by
      refine (aY.bind p).mono fun I1 F1 H1 d w1 _ e1 rel1 p1 v rv => ?_
      cases d <;> first | exact p1.elim | skip
      rename_i n hh
      simp only [aF] at rv
      subst rv
      simp only [] at p1
      split at p1
      ·rename_i hb
       exact ⟨n, rfl, hb.1, hb.2, p1.mM rel1 (by simp [aF])⟩
      ·exact p1.elim
     have run : wpAny (model X.prog X.w) X.A.in1 (call (.ref f) [.ref a]) (EP X pins σ fun v H2 => ∃ n : Int, v = .int n ∧ 0 ≤ n ∧ n < 2 ^ 62 ∧ Q (.int n) H2) X.xe s := by
      refine wpAny_call (codeAny_mono (Gf'.run X.A.in1 X.stack s H ⟨[.ref a], []⟩ (g [.ref a] []) (gV [.ref a] []) _ E room cx.WC J.env0.in1 (kb.to s [.ref a] [] J.kIn rfl rfl) r2 hl ⟨I, F, G, _, w, rel, r3, pp⟩) fun fl s' hq => ?_)
      cases fl with
      | error e => exact passes_call xo.tk (fun _ _ _ _ h => h) pins σ H s e s' J hq
      | ok fl =>
       cases fl with
       | ret u => exact J.after hq
       | next => exact hq.elim
       | brk => exact hq.elim
       | cont => exact hq.elim
     refine Calls.call_function_entry PySem.kind_len PySem.plain_len PySem.entry_len (PySem.args_len1 _) ?_
     unfold Builtin.«len»
     refine wpAny_bind (m := oneArg "len" _) (wpAny_pure ?_)
     refine wpAny_bind (m := callSpecial? (.ref a) (PySem.Str.ofString "__len__")) (PySem.W.special_fn J.kIn IA hs'.at_ (beq_iff_eq.mp hs'.fn) (wpAny_mono run (fun u s1 hq => ?_) fun _ _ y => y))
     obtain ⟨v, H2, J2, rv2, n, rfl, n0, n1, q⟩ := hq
     obtain ⟨t, rfl⟩ : ∃ t, u = Value.int n t := rv2
     refine wpAny_bind (wpAny_holding (wpAny_pure ?_))
     refine wpAny_bind (wpAny_letGo ?_)
     show wpAny _ _ (if n < 0 then _ else _) _ _ _
     rw [if_neg (by omega)]
     show wpAny _ _ (if n ≥ 2 ^ 63 then _ else _) _ _ _
     rw [if_neg (by omega)]
     exact wpAny_bind (wpAny_mkInt (wpAny_pure ⟨_, rfl, .int n, H2, J2.tok _, ⟨_, rfl⟩, q⟩))
    ·exact p.elim
   ·exact old rl p
  ·exact old rl p
end
open AutoSeq1 (wpAny_loadPart')
open RZ (nextOf_tuple_item nextOf_tuple_end)
def EE (ds : List D) (w : W) : Res mG := match ds with
 | [x] => (match vS x with
  | some xs => .ok ⟨(List.range xs.length).zipWith (fun i x => D.tup [.int (i : Nat), x]) xs, always⟩ w
  | none => .bad)
 | _ => .bad
def aDV (d : D) (w : W) : Option (List D) := match d with
 | .lst xs => some xs
 | .ref i => (match w[i]? with
  | some (.lst xs) => some xs
  | _ => none)
 | _ => none
theorem Rel.less {K : PySem.W.Frag} {I : List Addr} {F G H : Hp} {w : W} {q : Addr} {u : HO} (rel : Rel K I F (L2.upd G q u) w H) (hG : G q = none) : Rel K I F G w H :=
 ⟨rel.len, rel.nd, rel.ob, rel.fz, rel.ap, fun a v h => rel.gz a v (by rw [upd_ne (ne_of_none h hG)]; exact h), fun a v h => rel.gf a v (by rw [upd_ne (ne_of_none h hG)]; exact h), fun a xs h => rel.gt a xs (by rw [upd_ne (ne_of_none h hG)]; exact h)⟩
theorem Rel.aCd {K : PySem.W.Frag} {I : List Addr} {F G H : Hp} {w : W} (rel : Rel K I F G w H) {q : Addr} {u : HO} (hq : H q = none) : Rel K I F G w (L2.upd H q u) := DV rel hq u
def noM : MF := fun _ _ => .bad
theorem fV.bad {P : Program} {w : World} {K : PySem.W.Frag} {mg : Str → Option Value} {base : Heap} {k : Nat} {f : Addr} {fd : FuncData} {ps : List Str} : fV P w K mg base k f fd ps noM :=
 ⟨fun A outer s H args us vs Q E hr hg e0 hb r hl ⟨_, _, _, _, _, _, _, p⟩ => p.elim⟩
end Pc
namespace L2
open PySem PySem.Spec PyProof.Rows
section
variable {X : Cx} {pos : Pos}
theorem ZW {e : Expr} {p : Pos} {t : TG} (h1 : PG X e t) : PGs X [.Starred e p] (gCons t gNil) := by
 refine ⟨fun pins s σ H vs us Q I r h => ?_⟩
 obtain ⟨v, vr, e1, h⟩ := h
 subst e1
 cases r with
 | cons r rr =>
  have e : (assignEach [.Starred e p] X.env).map (·.2) = [assign e X.env] := rfl
  rw [e]
  refine assignInOrder_cons (thn (h1.run pins s σ H _ _ _ I r h) fun _ s1 ⟨σ1, H1, I1, q1⟩ => ?_)
  exact pgs_nil.run pins s1 σ1 H1 _ _ Q I1 rr q1
end
end L2
namespace Pc
open PySem PySem.Spec PyProof.Rows L2
def S8 (n : Nat) (r : NA) : MG := fun d σ w => match vS d with
 | some xs => if n ≤ xs.length ∧ xs.length ≤ sizeLine then r (xs.take n ++ [.lst (xs.drop n)]) σ w else .bad
 | none => .bad
section
variable {S : aR} {pos pos' : Pos} {e : Expr} {es : List Expr} {g : MG} {r : NA}
theorem YA (h1 : JG S e g) : JGs S [.Starred e pos] (aI g bS) := fun X E cx xo =>
 uA (ZW (h1 X E cx xo)) fun vs σ H Q ⟨I, F, G, xs, ds, w, rel, rs, rv, p⟩ => by
  cases xs with
  | nil => exact p.elim
  | cons d ds' =>
   simp only [RepL] at rv
   obtain ⟨v, u, rfl, h2, h3⟩ := rv
   simp only [aI] at p
   refine ⟨v, u, rfl, I, F, G, d, ds, w, rel, rs, h2, aY.mono (aY.bind p) fun I1 F1 H1 s1 w1 _ e1 rel1 q => ?_⟩
   intro s' rs'
   cases ds' with
   | cons _ _ => exact q.elim
   | nil =>
    simp only [RepL] at h3
    subst h3
    exact ⟨rfl, q I1 F1 H1 .refl rel1 s' rs'⟩
end
def anyM : MF := fun ds w => match ds with
 | [d] => (match (vS d).bind lS with
  | some ns => .ok (.bl (ns.any fun n => n != 0)) w
  | none => match (y7 d w).bind uC with
   | some bs => .ok (.bl (bs.any id)) w
   | none => .bad)
 | _ => .bad
def kY (xs : List D) : List D := (List.range xs.length).zipWith (fun i x => D.tup [.int (i : Nat), x]) xs
theorem rT (xs : List D) : (kY xs).length = xs.length := by simp [kY]
theorem nK {xs : List D} {j : Nat} {x : D} (h : (kY xs)[j]? = some x) : ∃ d, xs[j]? = some d ∧ x = .tup [.int (j : Nat), d] := by
 have hl : j < (kY xs).length := (aj.mp h).1
 rw [rT] at hl
 refine ⟨xs[j], bq hl, ?_⟩
 simp only [kY, List.getElem?_zipWith, List.getElem?_range hl, bq hl] at h
 cases h
 rfl
def pK (ds : List D) (w : W) : Res mG := match ds with
 | [.lst xs] => .ok ⟨kY xs, always⟩ w
 | [.ref i] => (match w[i]? with
  | some (.lst xs) => .ok ⟨kY xs, holds i (.lst xs)⟩ w
  | _ => .bad)
 | _ => .bad
theorem XB {K : PySem.W.Frag} {I : List Addr} {F : Hp} {a : Addr} {it : mG} {xs : List D} (hx : it.xs = kY xs) (h : ∀ I' F' G w H, Ext I F I' F' → Rel K I' F' G w H → it.ok w → ∃ vs, SqL K H a vs ∧ RepL K I' F' xs vs) : AZ K I F (Ite K a) it := fun I' F' G w H j e rel ok => by
 obtain ⟨vs, hq, r⟩ := h I' F' G w H e rel ok
 refine ⟨fun x hx' => ?_, fun hl => ⟨vs, hq, by rw [hx, rT] at hl; rw [← r.length, hl]; exact av _⟩⟩
 rw [hx] at hx'
 obtain ⟨d, hd, rfl⟩ := nK hx'
 obtain ⟨v, hv, rv⟩ := r.get hd
 refine ⟨⟨vs, v, hq, hv⟩, fun u H' y => ?_⟩
 obtain ⟨T, x', rfl, k1, rfl, k2⟩ := y
 have := k2 vs hq
 rw [hv] at this; cases this
 exact vK rel (RepL.cons (by simp [aF]) (RepL.cons rv (by simp [RepL]))) k1
theorem Y2 {S : aR} {e : Expr} {ma : MA} {p pos tpos : Pos} {elts : List Expr} {kk : Nat} (hg : S.sc.names.lookup ("enumerate" : Str) = some .globalImplicit) (hm : S.mg "enumerate" = none) (ha : JA S [e] ma)
  (hs : ∀ env : Env, starEach [e] env = [(false, eval e env)] := by intro _; rfl) : JI S (.Tuple elts kk tpos) (.Call (.Name "enumerate" p) [e] [] pos) (eY pK ma) := fun X E cx xo =>
 rL (pi_enum (by show X.env.scope.names.lookup _ = _; rw [cx.sc]; exact hg) (by rw [cx.mg]; exact hm) (ha X E cx xo) (hs X.env)) fun σ H R ⟨I, F, G, ds, w, rel, rs, p⟩ => dR (f := fun _ => pK) rel rs p fun I1 F1 H1 xs w1 vs e1 rel1 rs1 rv p1 => by
  unfold pK at p1
  split at p1
  ·rename_i xs
   obtain ⟨v, rfl, rx⟩ := rv.one
   simp only [aF] at rx
   obtain ⟨a, us, rfl, h1, h2⟩ := rx
   exact ⟨a, us, rfl, .of (rel1.fz _ _ h1), p1 I1 F1 H1 .refl rel1 trivial _ (XB rfl fun I' F' G w H e rel ok => ⟨us, .of (rel.fz _ _ (e.f _ _ h1)), RepL.ext e _ _ h2⟩)⟩
  ·rename_i i
   obtain ⟨v, rfl, rx⟩ := rv.one
   simp only [aF] at rx
   obtain ⟨a, rfl, ha⟩ := rx
   split at p1
   ·rename_i xs hw
    obtain ⟨u, g1, g2⟩ := rel1.ob i a _ ha hw
    obtain ⟨us, rfl, g3⟩ := g2
    refine ⟨a, us, rfl, .of g1, p1 I1 F1 H1 .refl rel1 hw _ (XB rfl fun I' F' G w H e rel ok => ?_)⟩
    obtain ⟨u', k1, k2⟩ := rel.ob i a _ (e.get ha) ok
    obtain ⟨us', rfl, k3⟩ := k2
    exact ⟨us', .of k1, k3⟩
   ·exact p1.elim
  ·exact p1.elim
end Pc
namespace L2
open PySem PySem.Spec PyProof.Rows
def smallKey : List Key → Bool
 | [.inl a, .inl s, .inl r] => (decide (0 ≤ a) && decide (a < 4)) && ((decide (0 ≤ s) && decide (s < 6)) && (decide (0 ≤ r) && decide (r < 10)))
 | _ => false
end L2
namespace Pc
open PySem PySem.Spec PyProof.Rows L2
open Classical in
def dcL (it : mG) (vs : List Nat) (g : MG) (t : MT) (ek ev : ME) : List D → List (List Key × D) → Sg → W → Res (List (List Key × D))
 | [], acc, σ, w => if it.ok w then .ok acc w else .bad
 | x :: xs, acc, σ, w => if it.ok w then (g x (dP σ vs) w).L0.bind fun σ1 w1 => (t σ1 w1).L0.bind fun b w2 =>
   if b = true then (ek σ1 w2).L0.bind fun k w3 => (ev σ1 w3).L0.bind fun v w4 => match k with
    | .tup ks => (match zM ks with
     | some kk => if acc.length < sizeLine then dcL it vs g t ek ev xs (putD acc kk v) σ w4 else .bad
     | none => .bad)
    | _ => .bad
   else dcL it vs g t ek ev xs acc σ w2
  else .bad
def aFT (m : MI) (vs : List Nat) (g : MG) (t : MT) (ek ev : ME) : ME := fun σ w => (m σ w).bind fun it w1 => (dcL it vs g t ek ev it.xs [] σ w1).bind fun kvs w2 => .ok (.ref w2.length) (w2 ++ [.dT kvs])
theorem aS.len {κ : Type} {K : PySem.W.Frag} {I : List Addr} {F : Hp} : ∀ {ds : List (κ × D)} {vs : List (κ × V)}, aS K I F ds vs → ds.length = vs.length
 | [], vs, h => by simp only [aS] at h; subst h; rfl
 | (k, d) :: ds, vs, h => by
  simp only [aS] at h
  obtain ⟨v, r, rfl, _, h3⟩ := h
  simp [aS.len h3]
def pairOf : D → Option (List Key × D)
 | .tup [.tup ks, v] => (zM ks).map fun k => (k, v)
 | _ => none
def pairsOf : List D → Option (List (List Key × D))
 | [] => some []
 | d :: ds => match pairOf d, pairsOf ds with
  | some p, some ps => some (p :: ps)
  | _, _ => none
def aFw : MF := fun ds w => match ds with
 | [.ref i] => (match w[i]? with
  | some (.dK kvs) => .ok (.ref w.length) (w ++ [.dK kvs])
  | some (.dT kvs) => if (kvs.all fun p => smallKey p.1) = true then .ok (.ref w.length) (w ++ [.dT kvs]) else .bad
  | _ => .bad)
 | [.lst ps] => (match pairsOf ps with
  | some kvs => .ok (.ref w.length) (w ++ [.dT (u6 [] kvs)])
  | none => .bad)
 | _ => .bad
def aEI (tab : List (Str × Option D)) (ys : List D) (w : W) : Res D := match ys with
 | [.str z, y] => (match tab.lookup z with
  | some o => .ok (o.getD y) w
  | none => .bad)
 | _ => .bad
def aE4 (d : Addr) (tab : List (Str × Option D)) (mo : ME) (ma : MA) : ME := fun σ w => (mo σ w).bind fun x w1 => match x with
 | .con a => if a = d then (ma σ w1).bind fun ys w2 => aEI tab ys w2 else .bad
 | _ => .bad
end Pc
namespace L2
open PySem PySem.Spec PyProof.Rows
open PySem.W (EachIs AllAlike Sortable dataLe)
def leI (a b : Int) : Bool := decide (a ≤ b)
end L2
namespace Pc
open PySem PySem.Spec PyProof.Rows L2
def aAx : MF := fun ds w => match ds with
 | [.tup xs] => (match lS xs with
  | some ns => .ok (.lst ((ns.mergeSort leI).map D.int)) w
  | none => .bad)
 | ds => TY ds w
def aCw (n : Nat) (r : NA) : MG := fun d σ w => match aDV d w with
 | some xs => if xs.length = n then r xs σ w else .bad
 | none => .bad
open RZ (nextOf_tuple_item nextOf_tuple_end)
abbrev YJ (h : Heap) (l1 : Addr) : Heap := h.push { cls := .type "tuple_iterator", data := .fields #[.ref l1, .int 0 0] }
abbrev WO (h : Heap) (l1 l2 : Addr) : Heap := (YJ h l1).push { cls := .type "list_iterator", data := .fields #[.ref l2, .int 0 0] }
abbrev XC (h : Heap) (l1 l2 : Addr) : Heap := (WO h l1 l2).push { cls := .type "tuple", data := .seq #[.ref h.objs.size, .ref (YJ h l1).objs.size] }
abbrev Z3 (h : Heap) (l1 l2 : Addr) : Heap := (XC h l1 l2).push { cls := .type "tuple", data := .seq #[.none, .none] }
abbrev zmH (h : Heap) (l1 l2 : Addr) : Heap := (Z3 h l1 l2).push { cls := .type "zip", data := .fields #[.none, .bool false, .bool true, .ref (WO h l1 l2).objs.size, .ref (XC h l1 l2).objs.size] }
theorem aCV (l1 l2 : Addr) (xs ys : Array Value) : Meets (Builtin.«zip.__new__» ⟨[.type "zip", .ref l1, .ref l2], [(Str.ofString "strict", .bool true)]⟩) (fun _ R s => s.heap.IsTuple l1 xs ∧ s.heap.IsList l2 ys ∧
   R (.ok (.ret (.ref (Z3 s.heap l1 l2).objs.size))) { s with heap := zmH s.heap l1 l2 }) :=
 .of_wp fun prog w A R s ⟨t1, t2, fin⟩ => by
  obtain ⟨hp, gs, dr, tk, os⟩ := s
  have sub0 := sub_zip
  have T1 : Heap.IsTuple (Shared.heap ⟨hp, gs, dr, tk, os⟩) l1 xs := t1
  have T2 : Heap.IsList (Shared.heap ⟨hp.push { cls := .type "tuple_iterator", data := .fields #[.ref l1, .int 0 0] }, gs, dr, tk, os⟩) l2 ys := Heap.IsList.push t2 _
  have s1 : (Str.ofString "strict" == ("strict" : Str)) = true := by decide +kernel
  have s2 : (Str.ofString "strict" != ("strict" : Str)) = false := by decide +kernel
  wp_walk using wpAny_pyIter_tuple T1, wpAny_pyIter_list T2
  exact ⟨_, rfl, fin⟩
section
variable {prog : Program} {w : World} {A : Around} {E : Value → Shared → Prop} {s : Shared}
theorem aBf {l1 l2 : Addr} {xs ys : Array Value} {Q : Value → Shared → Prop} (t1 : s.heap.IsTuple l1 xs) (t2 : s.heap.IsList l2 ys)
  (fin : ∀ g, iK g (s.heap.objs.size + 4) (s.heap.objs.size + 2) (s.heap.objs.size + 3) .none → IsPair g (s.heap.objs.size + 2) (.ref s.heap.objs.size) (.ref (s.heap.objs.size + 1)) → IsPair g (s.heap.objs.size + 3) .none .none →
   g.IsTupleIter s.heap.objs.size l1 0 → g.IsListIter (s.heap.objs.size + 1) l2 0 → (∀ c o, s.heap.get? c = some o → g.get? c = some o) → Q (.ref (s.heap.objs.size + 4)) { s with heap := g }) :
  wpAny (model prog w) A (call (.type "zip") [.ref l1, .ref l2] [(Str.ofString "strict", .bool true)]) Q E s := by
 refine callType_newKw F.called_zip (by decide) (CC _ _ _) (GA _ _ _) (fun x => TZ x _ _ _) F.entry_zip_new (aCV l1 l2 xs ys) ⟨t1, t2, ?_⟩
 have n1 : (YJ s.heap l1).objs.size = s.heap.objs.size + 1 := Heap.size_push ..
 have n2 : (WO s.heap l1 l2).objs.size = s.heap.objs.size + 2 := by rw [Heap.size_push, n1]
 have n3 : (XC s.heap l1 l2).objs.size = s.heap.objs.size + 3 := by rw [Heap.size_push, n2]
 have n4 : (Z3 s.heap l1 l2).objs.size = s.heap.objs.size + 4 := by rw [Heap.size_push, n3]
 have up1 : ∀ {c o}, (Z3 s.heap l1 l2).get? c = some o → (zmH s.heap l1 l2).get? c = some o := fun h => Heap.get?_push_of_some _ h
 have up2 : ∀ {c o}, (XC s.heap l1 l2).get? c = some o → (zmH s.heap l1 l2).get? c = some o := fun h => up1 (Heap.get?_push_of_some _ h)
 have up3 : ∀ {c o}, (WO s.heap l1 l2).get? c = some o → (zmH s.heap l1 l2).get? c = some o := fun h => up2 (Heap.get?_push_of_some _ h)
 have up4 : ∀ {c o}, (YJ s.heap l1).get? c = some o → (zmH s.heap l1 l2).get? c = some o := fun h => up3 (Heap.get?_push_of_some _ h)
 have k5 : (zmH s.heap l1 l2).get? (Z3 s.heap l1 l2).objs.size = some _ := Heap.get?_push_size _ rfl
 have k4 : (zmH s.heap l1 l2).get? (XC s.heap l1 l2).objs.size = some _ := up1 (Heap.get?_push_size _ rfl)
 have k3 : (zmH s.heap l1 l2).get? (WO s.heap l1 l2).objs.size = some _ := up2 (Heap.get?_push_size _ rfl)
 have k2 : (zmH s.heap l1 l2).get? (YJ s.heap l1).objs.size = some _ := up3 (Heap.get?_push_size _ rfl)
 have k1 : (zmH s.heap l1 l2).get? s.heap.objs.size = some _ := up4 (Heap.get?_push_size _ rfl)
 show _ ∧ _
 rw [n2, n3, n4] at k5
 rw [n1, n2] at k3
 rw [n3] at k4
 rw [n1] at k2
 rw [n4]
 exact ⟨⟨_, k5, rfl⟩, fin _ k5 k3 k4 ⟨_, k1, rfl, rfl⟩ ⟨_, k2, rfl, rfl⟩ fun c o h => up4 (Heap.get?_push_of_some _ h)⟩
theorem X4 {it l : Addr} {i : Nat} {items : Array Value} {x : Value} {Q : Option Value → Shared → Prop} (a : s.heap.IsListIter it l i) (b : s.heap.IsList l items) (c : items[i]? = some x)
  (q : ∀ g, g.IsListIter it l (i + 1) → Heap.SameBut it s.heap g → Q (some x) { s with heap := g }) : wpAny (model prog w) A (Builtin.SmallTypes.nextOrEnd (.ref it)) Q E s := by
 unfold Builtin.SmallTypes.nextOrEnd
 exact wpAny_bind (wpAny_attempt (wpAny_nextOf_list_item a b c fun g g1 g2 => wpAny_pure (q g g1 g2)))
theorem aBi {it l : Addr} {i : Nat} {items : Array Value} {Q : Option Value → Shared → Prop} (hh : A.handled = none) (a : s.heap.IsListIter it l i) (b : s.heap.IsList l items) (c : items[i]? = none)
  (q : ∀ g, Heap.ExtBut it s.heap g → Q none { s with heap := g }) : wpAny (model prog w) A (Builtin.SmallTypes.nextOrEnd (.ref it)) Q E s := by
 unfold Builtin.SmallTypes.nextOrEnd
 refine wpAny_bind (wpAny_attempt (wpAny_nextOf_list_end hh a b c fun g e g1 ⟨o, g2, g3⟩ => ?_))
 refine wpAny_bind (wpAny_isInstance (T := "StopIteration") (b := true) ⟨o, g2, g3⟩ isSubtype_stop ?_)
 exact wpAny_pure (q g g1)
theorem aBm {z TI TO i1 i2 l1 l2 : Addr} {k : Nat} {xs ys : Array Value} {x y a b : Value} {Q : Value → Shared → Prop} (D : ZipApart z TI TO i1 i2 l1 l2)
  (hz : iK s.heap z TI TO .none) (hI : IsPair s.heap TI (.ref i1) (.ref i2)) (hO : IsPair s.heap TO a b) (a1 : s.heap.IsTupleIter i1 l1 k) (a2 : s.heap.IsListIter i2 l2 k) (b1 : s.heap.IsTuple l1 xs) (b2 : s.heap.IsList l2 ys) (c1 : xs[k]? = some x) (c2 : ys[k]? = some y)
  (fin : ∀ g, iK g z TI TO (rawInt s.heap.objs.size) → IsPair g TO x y → g.IsTupleIter i1 l1 (k + 1) → g.IsListIter i2 l2 (k + 1) → IsPair g s.heap.objs.size x y → (∀ c o, c ≠ z → c ≠ TO → c ≠ i1 → c ≠ i2 → s.heap.get? c = some o → g.get? c = some o) → Q (.ref s.heap.objs.size) { s with heap := g }) :
  wpAny (model prog w) A (Builtin.«zip.__next__» ⟨[.ref z], []⟩) (fun f t => ∃ v, f = .done (.ret v) ∧ Q v t) E s := by
 show wpAny _ _ (field (.ref z) 2 >>= _) _ _ _
 refine wpAny_bind (wpAny_field hz rfl (x := .bool true) rfl ?_)
 show wpAny _ _ (field (.ref z) 3 >>= _) _ _ _
 refine wpAny_bind (wpAny_field hz rfl (x := .ref TI) rfl ?_)
 refine wpAny_bind (wpAny_seqItems hI rfl ?_)
 show wpAny _ _ (Builtin.SmallTypes.ownedTupleIsFree (.ref z) >>= _) _ _ _
 refine wpAny_bind ?_
 unfold Builtin.SmallTypes.ownedTupleIsFree
 refine wpAny_bind (wpAny_field hz rfl (x := .none) rfl (wpAny_pure ?_))
 simp only [ah]
 refine wpAny_bind (wpAny_rule ?_)
 refine wpAny_bind (wpAny_field hz rfl (x := .ref TO) rfl ?_)
 refine wpAny_bind (wpAny_setField_rec hz (by simp) fun g1 z1 s1 => ?_)
 have z1' : iK g1 z TI TO .ellipsis := z1
 refine wpAny_bind ?_
 simp only [List.zipIdx_cons, List.zipIdx_nil, List.forIn_cons, List.forIn_nil]
 refine wpAny_bind (wpAny_bind (wpAny_onRaise ?_))
 show wpAny _ _ (Builtin.SmallTypes.nextOrEnd (.ref i1)) _ _ _
 refine FY (a1.extBut s1.extBut D.i1z) (b1.extBut s1.extBut D.l1z) c1 fun g2 d1 s2 => ?_
 have O2 : IsPair g2 TO a b := s2.extBut _ _ D.TOi1 (s1.extBut _ _ D.TOz hO)
 refine wpAny_bind (wpAny_seqItems O2 rfl ?_)
 refine wpAny_bind (rR O2 fun g3 O3 s3 => ?_)
 have O3' : IsPair g3 TO x b := O3
 refine wpAny_bind (wpAny_letGo (wpAny_pure ?_))
 refine wpAny_bind (wpAny_bind (wpAny_onRaise ?_))
 show wpAny _ _ (Builtin.SmallTypes.nextOrEnd (.ref i2)) _ _ _
 refine X4 (((a2.extBut s1.extBut D.i2z).extBut s2.extBut D.i12.symm).extBut s3.extBut D.TOi2.symm) (((b2.extBut s1.extBut D.l2z).extBut s2.extBut D.l2i1).extBut s3.extBut D.l2TO) c2 fun g4 d2 s4 => ?_
 have O4 : IsPair g4 TO x b := s4.extBut _ _ D.TOi2 O3'
 refine wpAny_bind (wpAny_seqItems O4 rfl ?_)
 refine wpAny_bind (rR O4 fun g5 O5 s5 => ?_)
 have O5' : IsPair g5 TO x y := O5
 refine wpAny_bind (wpAny_letGo (wpAny_pure (wpAny_pure ?_)))
 refine wpAny_bind (wpAny_seqItems O5' rfl ?_)
 refine wpAny_bind (wpAny_newTuple ?_)
 have size5 : g5.objs.size = s.heap.objs.size := by rw [s5.1, s4.1, s3.1, s2.1, s1.1]
 have z5 : iK g5 z TI TO .ellipsis := s5.extBut _ _ D.TOz.symm (s4.extBut _ _ D.i2z.symm (s3.extBut _ _ D.TOz.symm (s2.extBut _ _ D.i1z.symm z1')))
 have kp : ∀ c o, c ≠ z → c ≠ TO → c ≠ i1 → c ≠ i2 → s.heap.get? c = some o → g5.get? c = some o := fun c o n1 n2 n3 n4 e =>
  s5.extBut _ _ n2 (s4.extBut _ _ n4 (s3.extBut _ _ n2 (s2.extBut _ _ n3 (s1.extBut _ _ n1 e))))
 have d1' : g5.IsTupleIter i1 l1 (k + 1) := ((d1.extBut s3.extBut D.TOi1.symm).extBut s4.extBut D.i12).extBut s5.extBut D.TOi1.symm
 have d2' : g5.IsListIter i2 l2 (k + 1) := d2.extBut s5.extBut D.TOi2.symm
 have zl : z < g5.objs.size := Heap.lt_size z5
 show wpAny _ _ (Builtin.SmallTypes.ownedTupleHandOut (.ref z) (.ref g5.objs.size) >>= _) _ _ _
 refine wpAny_bind ?_
 unfold Builtin.SmallTypes.ownedTupleHandOut
 have z6 : iK (g5.push { cls := .type "tuple", data := .seq #[x, y] }) z TI TO .ellipsis := Heap.get?_push_of_some _ z5
 refine wpAny_bind (wpAny_setField_rec z6 (by simp) fun g7 z7 s7 => ?_)
 have z7' : iK g7 z TI TO (rawInt g5.objs.size) := z7
 refine wpAny_setField_rec z7' (by simp) fun g8 z8 s8 => ?_
 have z8' : iK g8 z TI TO (rawInt g5.objs.size) := z8
 have up : ∀ c o, c ≠ z → g5.get? c = some o → g8.get? c = some o := fun c o n e => s8.extBut _ _ n (s7.extBut _ _ n (Heap.get?_push_of_some _ e))
 have T8 : IsPair g8 g5.objs.size x y := s8.extBut _ _ (Nat.ne_of_gt zl) (s7.extBut _ _ (Nat.ne_of_gt zl) (Heap.get?_push_size _ rfl))
 rw [size5] at z8' T8
 refine wpAny_pure ⟨_, rfl, ?_⟩
 show Q (.ref g5.objs.size) _
 rw [size5]
 exact fin g8 z8' (up _ _ D.TOz O5') (d1'.at fun o e => up _ o D.i1z e) (d2'.at fun o e => up _ o D.i2z e) T8 fun c o n1 n2 n3 n4 e => up c o n1 (kp c o n1 n2 n3 n4 e)
theorem aDj {z TI TO i1 i2 l1 l2 : Addr} {k : Nat} {xs ys : Array Value} {a b : Value} {Q : Fin → Shared → Prop} (hh : A.handled = none) (D : ZipApart z TI TO i1 i2 l1 l2)
  (hz : iK s.heap z TI TO .none) (hI : IsPair s.heap TI (.ref i1) (.ref i2)) (hO : IsPair s.heap TO a b) (a1 : s.heap.IsTupleIter i1 l1 k) (a2 : s.heap.IsListIter i2 l2 k) (b1 : s.heap.IsTuple l1 xs) (b2 : s.heap.IsList l2 ys) (c1 : xs[k]? = none) (c2 : ys[k]? = none)
  (fin : ∀ g e, (∀ c o, c ≠ z → c ≠ TO → c ≠ i1 → c ≠ i2 → s.heap.get? c = some o → g.get? c = some o) → (∃ o, g.get? e = some o ∧ o.cls = .type "StopIteration") → E (.ref e) { s with heap := g }) :
  wpAny (model prog w) A (Builtin.«zip.__next__» ⟨[.ref z], []⟩) Q E s := by
 show wpAny _ _ (field (.ref z) 2 >>= _) _ _ _
 refine wpAny_bind (wpAny_field hz rfl (x := .bool true) rfl ?_)
 show wpAny _ _ (field (.ref z) 3 >>= _) _ _ _
 refine wpAny_bind (wpAny_field hz rfl (x := .ref TI) rfl ?_)
 refine wpAny_bind (wpAny_seqItems hI rfl ?_)
 show wpAny _ _ (Builtin.SmallTypes.ownedTupleIsFree (.ref z) >>= _) _ _ _
 refine wpAny_bind ?_
 unfold Builtin.SmallTypes.ownedTupleIsFree
 refine wpAny_bind (wpAny_field hz rfl (x := .none) rfl (wpAny_pure ?_))
 simp only [ah]
 refine wpAny_bind (wpAny_rule ?_)
 refine wpAny_bind (wpAny_field hz rfl (x := .ref TO) rfl ?_)
 refine wpAny_bind (wpAny_setField_rec hz (by simp) fun g1 z1 s1 => ?_)
 have z1' : iK g1 z TI TO .ellipsis := z1
 refine wpAny_bind ?_
 simp only [List.zipIdx_cons, List.zipIdx_nil, List.forIn_cons, List.forIn_nil]
 refine wpAny_bind (wpAny_bind (wpAny_onRaise ?_))
 show wpAny _ _ (Builtin.SmallTypes.nextOrEnd (.ref i1)) _ _ _
 refine J4 hh (a1.extBut s1.extBut D.i1z) (b1.extBut s1.extBut D.l1z) c1 fun g2 s2 => ?_
 have z2 : iK g2 z TI TO .ellipsis := s2 _ _ D.i1z.symm z1'
 refine wpAny_bind (wpAny_setField_rec z2 (by simp) fun g3 _ s3 => ?_)
 refine wpAny_bind (wpAny_bind ?_)
 show wpAny _ _ (forIn ((List.drop 1 [Value.ref i1, Value.ref i2]).zipIdx 1) PUnit.unit _) _ _ _
 simp only [List.drop_succ_cons, List.drop_zero, List.zipIdx_cons, List.zipIdx_nil, List.forIn_cons, List.forIn_nil]
 refine wpAny_bind (wpAny_bind (aBi hh (((a2.extBut s1.extBut D.i2z).extBut s2 D.i12.symm).extBut s3.extBut D.i2z) (((b2.extBut s1.extBut D.l2z).extBut s2 D.l2i1).extBut s3.extBut D.l2z) c2 fun g4 s4 => ?_))
 show wpAny _ _ (pure (ForInStep.yield PUnit.unit)) _ _ _
 refine wpAny_pure ?_
 refine wpAny_pure ?_
 refine wpAny_bind (wpAny_rule ?_)
 unfold Builtin.SmallTypes.stopIteration
 refine wpAny_bind ?_
 simp only [newExc, newTuple]
 refine wpAny_bind (wpAny_newObj_type ?_ (by size_fits))
 refine wpAny_bind (m := firstArgMember _ _) (wpAny_of_eq (a := Value.none) (by first | rfl | (simp only [firstArgMember]; rfl)) ?_)
 refine wpAny_newObj_type ?_ (by size_fits)
 simp only [raiseNew]
 refine wpAny_bind (wpAny_handled ?_)
 rw [hh]
 refine wpAny_bind (wpAny_pure (wpAny_throw ?_))
 refine fin _ _ (fun c o n1 _ n3 n4 e => ?_) ⟨_, Heap.get?_push_size _ rfl, rfl⟩
 exact Heap.get?_push_of_some _ (Heap.get?_push_of_some _ (s4 _ _ n4 (s3.extBut _ _ n1 (s2 _ _ n3 (s1.extBut _ _ n1 e)))))
theorem P9 {z TI TO i1 i2 l1 l2 : Addr} {k : Nat} {xs ys : Array Value} {x y a b : Value} {Q : Option Value → Shared → Prop} (D : ZipApart z TI TO i1 i2 l1 l2)
  (hz : iK s.heap z TI TO .none) (hI : IsPair s.heap TI (.ref i1) (.ref i2)) (hO : IsPair s.heap TO a b) (a1 : s.heap.IsTupleIter i1 l1 k) (a2 : s.heap.IsListIter i2 l2 k) (b1 : s.heap.IsTuple l1 xs) (b2 : s.heap.IsList l2 ys) (c1 : xs[k]? = some x) (c2 : ys[k]? = some y)
  (fin : ∀ g, iK g z TI TO (rawInt s.heap.objs.size) → IsPair g TO x y → g.IsTupleIter i1 l1 (k + 1) → g.IsListIter i2 l2 (k + 1) → IsPair g s.heap.objs.size x y → (∀ c o, c ≠ z → c ≠ TO → c ≠ i1 → c ≠ i2 → s.heap.get? c = some o → g.get? c = some o) → Q (some (.ref s.heap.objs.size)) { s with heap := g }) :
  wpAny (model prog w) A (pyNext (.ref z)) Q E s := by
 have ty : s.TypeIs (.ref z) "zip" := ⟨_, hz, rfl⟩
 unfold pyNext
 exact wpAny_bind (wpAny_attempt (wpAny_callSpecial?_slot (name := Str.ofString "__next__") ty F.slot_zip_next (wpAny_call_entry F.slot_zip_next ty F.entry_zip_next (aBm D hz hI hO a1 a2 b1 b2 c1 c2 fun g e1 e2 e3 e4 e5 e6 => wpAny_pure (fin g e1 e2 e3 e4 e5 e6)) (F.args_zip_next_1 _))))
theorem R3 {z TI TO i1 i2 l1 l2 : Addr} {k : Nat} {xs ys : Array Value} {a b : Value} {Q : Option Value → Shared → Prop} (hh : A.handled = none) (D : ZipApart z TI TO i1 i2 l1 l2)
  (hz : iK s.heap z TI TO .none) (hI : IsPair s.heap TI (.ref i1) (.ref i2)) (hO : IsPair s.heap TO a b) (a1 : s.heap.IsTupleIter i1 l1 k) (a2 : s.heap.IsListIter i2 l2 k) (b1 : s.heap.IsTuple l1 xs) (b2 : s.heap.IsList l2 ys) (c1 : xs[k]? = none) (c2 : ys[k]? = none)
  (fin : ∀ g, (∀ c o, c ≠ z → c ≠ TO → c ≠ i1 → c ≠ i2 → s.heap.get? c = some o → g.get? c = some o) → Q none { s with heap := g }) : wpAny (model prog w) A (pyNext (.ref z)) Q E s := by
 have ty : s.TypeIs (.ref z) "zip" := ⟨_, hz, rfl⟩
 unfold pyNext
 refine wpAny_bind (wpAny_attempt (wpAny_callSpecial?_slot (name := Str.ofString "__next__") ty F.slot_zip_next (wpAny_call_entry F.slot_zip_next ty F.entry_zip_next (aDj hh D hz hI hO a1 a2 b1 b2 c1 c2 fun g e kp he => ?_) (F.args_zip_next_1 _))))
 obtain ⟨o, h1, h2⟩ := he
 refine wpAny_bind (wpAny_isInstance (T := "StopIteration") (b := true) ⟨o, h1, h2⟩ isSubtype_stop ?_)
 exact wpAny_pure (fin _ kp)
end
def aE3 (K : PySem.W.Frag) (a b : Addr) : It :=
 ⟨fun i H => ∃ (xs ys : List V) (x y : V), SqT K H a xs ∧ SqL K H b ys ∧ xs[i]? = some x ∧ ys[i]? = some y,
  fun i H v H' => ∃ T x y, v = .ref T ∧ H T = none ∧ H' = upd H T (.tup [x, y]) ∧ (∀ xs, SqT K H a xs → xs[i]? = some x) ∧ ∀ ys, SqL K H b ys → ys[i]? = some y,
  fun i H => ∃ xs ys : List V, SqT K H a xs ∧ SqL K H b ys ∧ xs.length ≤ i ∧ ys.length ≤ i⟩
theorem aAC {P : Program} {w : World} {K : PySem.W.Frag} {elts : List Expr} {kk : Nat} {tpos : Pos} {a b z TI TO i1 i2 : Addr} (D : ZipApart z TI TO i1 i2 a b) :
  Turn P w K (.Tuple elts kk tpos) (aE3 K a b) [z, TI, TO, i1, i2] z (fun i h => iK h z TI TO .none ∧ IsPair h TI (.ref i1) (.ref i2) ∧ (∃ x y, IsPair h TO x y) ∧ h.IsTupleIter i1 a i ∧ h.IsListIter i2 b i) where
 mem := by simp
 obj := fun i h st c hc => by
  obtain ⟨f1, f2, ⟨x, y, f3⟩, ⟨o1, e1, _, d1⟩, ⟨o2, e2, _, d2⟩⟩ := st
  have cs : c = z ∨ c = TI ∨ c = TO ∨ c = i1 ∨ c = i2 := by simpa using hc
  rcases cs with rfl | rfl | rfl | rfl | rfl
  ·exact ⟨_, f1, fun v q => nomatch q⟩
  ·exact ⟨_, f2, fun v q => nomatch q⟩
  ·exact ⟨_, f3, fun v q => nomatch q⟩
  ·exact ⟨o1, e1, fun v q => by rw [d1] at q; cases q⟩
  ·exact ⟨o2, e2, fun v q => by rw [d2] at q; cases q⟩
 keep := fun i h h' st k => by
  obtain ⟨f1, f2, ⟨x, y, f3⟩, f4, f5⟩ := st
  exact ⟨k z (by simp) _ f1, k TI (by simp) _ f2, ⟨x, y, k TO (by simp) _ f3⟩, f4.at fun o q => k i1 (by simp) o q, f5.at fun o q => k i2 (by simp) o q⟩
 item := by
  intro X hP hw hK hc i pins s σ H E I fp st go
  subst hP hw hK
  obtain ⟨f1, f2, ⟨x0, y0, f3⟩, f4, f5⟩ := st
  obtain ⟨xs, ys, x, y, qx, qy, gx, gy⟩ := go
  obtain ⟨us, rv, p, _⟩ := I.tuple qx
  obtain ⟨us2, rv2, p2, _⟩ := I.list qy
  obtain ⟨u, hu, ru⟩ := rv.get gx
  obtain ⟨u2, hu2, ru2⟩ := rv2.get gy
  have zl : z < s.heap.objs.size := Heap.lt_size f1
  refine P9 D f1 f2 f3 f4 f5 p p2.isList (x := u) (y := u2) (by simpa using hu) (by simpa using hu2) fun g z' TO' h1' h2' hT hk => ?_
  refine ⟨_, rfl, PV (s := { s with heap := g }) z' fun g2 z'' sb => ?_⟩
  have hT2 : g2.get? s.heap.objs.size = some { cls := .type "tuple", data := .seq #[u, u2] } := (sb.2 _ (Nat.ne_of_gt zl)).trans hT
  have new : ObjOk X.prog X.w (upd H s.heap.objs.size (.tup [x, y])) g2 s.heap.objs.size (.tup [x, y]) := ⟨by show 2 ≤ sizeLine; decide, [u, u2], .cons ru (.cons ru2 .nil), ⟨_, hT2, rfl, _, rfl⟩⟩
  have I1 : Inv X pins σ (upd H s.heap.objs.size (.tup [x, y])) { s with heap := g2 } :=
   I.turnedNew (t' := s.toks) (ch := [z, TI, TO, i1, i2]) (fun c o hb q => by
    simp only [bh, bx, or_false, not_or] at hb
    exact (sb.2 c hb.1).trans (hk c o hb.1 hb.2.2.1 hb.2.2.2.1 hb.2.2.2.2 q)) fp (av _) new
  refine ⟨.ref s.heap.objs.size, _, I1, rfl, ⟨_, x, y, rfl, I.hok.fresh (av _), rfl, fun l hl => by rw [I.tuple_inj hl qx]; exact gx, fun l hl => by rw [I.list_inj hl qy]; exact gy⟩, ⟨z'', ?_, ⟨u, u2, ?_⟩, ?_, ?_⟩, fun c hcm => ?_⟩
  ·exact (sb.2 _ D.TIz).trans (hk _ _ D.TIz D.TITO D.TIi1 D.TIi2 f2)
  ·exact (sb.2 _ D.TOz).trans TO'
  ·exact h1'.at fun o q => (sb.2 _ D.i1z).trans q
  ·exact h2'.at fun o q => (sb.2 _ D.i2z).trans q
  ·have hlt : c < s.heap.objs.size := by
    have cs : c = z ∨ c = TI ∨ c = TO ∨ c = i1 ∨ c = i2 := by simpa using hcm
    rcases cs with rfl | rfl | rfl | rfl | rfl
    ·exact zl
    ·exact Heap.lt_size f2
    ·exact Heap.lt_size f3
    ·obtain ⟨_, e1, _⟩ := f4; exact Heap.lt_size e1
    ·obtain ⟨_, e2, _⟩ := f5; exact Heap.lt_size e2
   rw [upd_ne (Nat.ne_of_lt hlt)]
   exact (fp c hcm).1
 done := by
  intro X hP hw hK hc i pins s σ H E I fp st go
  subst hP hw hK
  obtain ⟨f1, f2, ⟨x0, y0, f3⟩, f4, f5⟩ := st
  obtain ⟨xs, ys, qx, qy, e1, e2⟩ := go
  obtain ⟨us, rv, p, _⟩ := I.tuple qx
  obtain ⟨us2, rv2, p2, _⟩ := I.list qy
  have l1 := rv.length
  have l2 := rv2.length
  refine R3 (I.ok.hd hc) D f1 f2 f3 f4 f5 p p2.isList (by simp; omega) (by simp; omega) fun g hk => ⟨rfl, I.turnedL (t' := s.toks) (ch := [z, TI, TO, i1, i2]) (fun c o hb q => ?_) fp⟩
  simp only [bh, bx, or_false, not_or] at hb
  exact hk c o hb.1 hb.2.2.1 hb.2.2.2.1 hb.2.2.2.2 q
 self := fun A i s Q E st h => C9 st.1 h
section
variable {X : Cx} {e e2 : Expr} {ta : TA} {p pos tpos cp kp : Pos} {elts : List Expr} {kk k : Nat}
def iZm (K : PySem.W.Frag) (ta : TA) : TI := fun σ H R => ta σ H fun vs H1 => ∃ a b xs ys, vs = [V.ref a, V.ref b] ∧ SqT K H1 a xs ∧ SqL K H1 b ys ∧ R (aE3 K a b) H1
theorem aEM (hg : Gl X "zip") (hm : X.mg "zip" = none) (ha : PA X [e, e2] ta) (hs : starEach [e, e2] X.env = (false, eval e X.env) :: starEach [e2] X.env := by rfl) (hpl : (backTo pos (starEach [e, e2] X.env)).any (·.1) = false := by rfl)
  (hk1 : (backToKw pos (keywordEach [⟨some "strict", .Constant (.bool true) k cp, kp⟩] X.env)).any (·.1.isNone) = false := by rfl) (hk2 : (backToKw pos (keywordEach [⟨some "strict", .Constant (.bool true) k cp, kp⟩] X.env)).all (·.1.isSome) = true := by rfl)
  (hk3 : (backToKw pos (keywordEach [⟨some "strict", .Constant (.bool true) k cp, kp⟩] X.env)).filterMap (·.1) = [Str.ofString "strict"] := by rfl) :
  PI X (.Tuple elts kk tpos) (.Call (.Name "zip" p) [e, e2] [⟨some "strict", .Constant (.bool true) k cp, kp⟩] pos) (iZm X.K ta) := by
 refine ⟨fun pins s σ H R I h => ?_⟩
 refine wpAny_Call_Name_kw (ld_blt I hg hm PyProof.Rows.boot_zip (wC hpl hk1 ?_))
 have hA := ha.run pos pins s σ H _ I h
 rw [hs] at hA ⊢
 refine evalArgs_kwB hk2 (thn hA fun us s1 ⟨vs, H1, I1, r1, a, b, xs, ys, ex, qx, qy, q⟩ => ?_)
 subst ex
 rw [hk3]
 refine thn ((pk_cons (nm := some "strict") (kpos := kp) (pe_bl (b := true) (j := k) (pos := cp)) pk_nil).run pos pins s1 σ H1 (fun zs H2 => zs = [V.bl true] ∧ H2 = H1) I1 ⟨rfl, rfl⟩) fun ws s2 ⟨zs, H2, I2, rz, ez, eH⟩ => ?_
 subst ez eH
 obtain ⟨w1, rfl, rw1⟩ := rz.one
 cases rw1
 obtain ⟨u1, u2, rfl, ra, rb⟩ := r1.two
 cases ra
 cases rb
 obtain ⟨us1, rv, p1, _⟩ := I2.tuple qx
 obtain ⟨us2, rv2, p2, _⟩ := I2.list qy
 obtain ⟨o1, ho1, _⟩ := id p1
 refine aBf (show s2.heap.IsTuple a us1.toArray from p1) p2.isList fun g hz hI hO h1 h2 hk => C9 hz ?_
 have I3 : Inv X pins σ H2 { s2 with heap := g } := I2.kept (t' := s2.toks) hk
 refine ⟨s2.heap.objs.size + 4, [s2.heap.objs.size + 4, s2.heap.objs.size + 2, s2.heap.objs.size + 3, s2.heap.objs.size, s2.heap.objs.size + 1], _, _, H2, rfl, I3, aAC (PySem.W.ktu_apart s2.heap.objs.size a b (Heap.lt_size ho1) p2.lt), ⟨hz, hI, ⟨_, _, hO⟩, h1, h2⟩, fun c hc => ?_, q⟩
 have le : s2.heap.objs.size ≤ c := by
  simp only [bh, bx, or_false] at hc
  rcases hc with rfl | rfl | rfl | rfl | rfl <;> omega
 exact I2.fpOk le (I2.hok.fresh le)
end
def zmM (ds : List D) (w : W) : Res mG := match ds with
 | [.tup xs, .lst ys] => if xs.length = ys.length then .ok ⟨(xs.zip ys).map fun p => .tup [p.1, p.2], always⟩ w else .bad
 | _ => .bad
theorem aFj {S : aR} {e e2 : Expr} {ma : MA} {p pos tpos cp kp : Pos} {elts : List Expr} {kk k : Nat} (hg : S.sc.names.lookup ("zip" : Str) = some .globalImplicit) (hm : S.mg "zip" = none) (ha : JA S [e, e2] ma)
  (hs : ∀ env : Env, starEach [e, e2] env = (false, eval e env) :: starEach [e2] env := by intro _; rfl) (hpl : ∀ env : Env, (backTo pos (starEach [e, e2] env)).any (·.1) = false := by intro _; rfl) :
  JI S (.Tuple elts kk tpos) (.Call (.Name "zip" p) [e, e2] [⟨some "strict", .Constant (.bool true) k cp, kp⟩] pos) (eY zmM ma) := fun X E cx xo =>
 rL (aEM (by show X.env.scope.names.lookup _ = _; rw [cx.sc]; exact hg) (by rw [cx.mg]; exact hm) (ha X E cx xo) (hs X.env) (hpl X.env)) fun σ H R ⟨I, F, G, ds, w, rel, rs, p⟩ => dR (f := fun _ => zmM) rel rs p fun I1 F1 H1 xs w1 vs e1 rel1 rs1 rv p1 => by
  unfold zmM at p1
  split at p1
  ·rename_i xs ys
   obtain ⟨v, u, rfl, rx, ry⟩ := rv.two
   split at p1
   ·rename_i hl
    simp only [aF] at rx ry
    obtain ⟨a, us, rfl, q1, q2⟩ := rx
    obtain ⟨b, ts, rfl, q3, q4⟩ := ry
    refine ⟨a, b, us, ts, rfl, .of (rel1.fz _ _ q1), .of (rel1.fz _ _ q3), p1 I1 F1 H1 .refl rel1 trivial _ fun I' F' G' w' H' j e' rel' _ => ?_⟩
    have t1 : SqT X.K H' a us := rel'.LW (.of (e'.f _ _ q1))
    have t2 : SqL X.K H' b ts := rel'.U5 (.of (e'.f _ _ q3))
    have r1 := RepL.ext e' _ _ q2
    have r2 := RepL.ext e' _ _ q4
    have l1 : xs.length = us.length := r1.length
    have l2 : ys.length = ts.length := r2.length
    refine ⟨fun x hx => ?_, fun hj => ⟨us, ts, t1, t2, ?_, ?_⟩⟩
    ·rw [bt] at hx
     cases hz : (xs.zip ys)[j]? with
     | none => rw [hz] at hx; cases hx
     | some pr =>
      rw [hz] at hx
      cases hx
      obtain ⟨pa, pb⟩ := pr
      rw [List.getElem?_zip_eq_some] at hz
      obtain ⟨v1, g1, g2⟩ := r1.get hz.1
      obtain ⟨v2, g3, g4⟩ := r2.get hz.2
      refine ⟨⟨us, ts, v1, v2, t1, t2, g1, g3⟩, fun v H'' y => ?_⟩
      obtain ⟨T, x', y', rfl, k1, rfl, k2, k3⟩ := y
      have z1 := k2 us t1
      have z2 := k3 ts t2
      rw [g1] at z1
      rw [g3] at z2
      cases z1
      cases z2
      exact vK rel' (RepL.cons g2 (RepL.cons g4 (by simp [RepL]))) k1
    ·simp only [ak, List.length_zip] at hj; omega
    ·simp only [ak, List.length_zip] at hj; omega
   ·exact p1.elim
  ·exact p1.elim
end Pc
namespace Pc
open PySem PySem.Spec PyProof.Rows L2 PySem.W
def eqE (x y : D) (w : W) : Res D := match x, y with
 | .ref i, .ref j => (match w[i]?, w[j]? with
  | some (.dT kvs), some (.dT []) => .ok (.bl kvs.isEmpty) w
  | _, _ => .bad)
 | _, _ => .bad
end Pc
namespace Pc
open PySem PySem.Spec PyProof.Rows L2
def sT (C : Addr) (nm : Str) (x : D) (w : W) : Option Nat := match x with
 | .ref i => (match w[i]? with
  | some (.ins C' fs) => if C' = C ∧ fs.lookup nm = none then some i else none
  | _ => none)
 | _ => none
def gB (C : Addr) (nm : Str) (m : MF) (n : Nat) (gd : List D → List D → List D) (mo : ME) (ma : MA) : ME := fun σ w => (mo σ w).bind fun x w1 => match sT C nm x w1 with
 | some i => (ma σ w1).bind fun xs w2 => if xs.length + 1 = n then m (gd (.ref i :: xs) []) w2 else .bad
 | none => .bad
section
variable {S : aR} {k n : Nat} {C f : Addr} {fd : FuncData} {ps ks : List Str} {m : MF} {gd : List D → List D → List D} {nm : Str} {o e : Expr} {es : List Expr} {mo : ME} {ma : MA} {apos pos : Pos}
theorem HX {x : D} {w : W} {i : Nat} (h : sT C nm x w = some i) : x = .ref i ∧ ∃ fs, w[i]? = some (.ins C fs) ∧ fs.lookup nm = none := by
 unfold sT at h
 split at h
 ·rename_i j
  split at h
  ·rename_i C' fs hw
   split at h
   ·rename_i hc
    cases h
    exact ⟨rfl, fs, by rw [hw, hc.1], hc.2⟩
   ·cases h
  ·cases h
 ·cases h
theorem yT {pl : Env → Sem Bool} (hk : k ≤ S.k) (cl : Cls S.K C) (hs : Meth S.K C nm f) (Gf : fV S.P S.w S.K S.mg S.base k f fd ps m) (B : cO S.K fd ps n [] gd) (ho : JE S o mo) (ha : JA S (e :: es) ma)
  (hst : ∀ env : Env, starEach (e :: es) env = (false, eval e env) :: starEach es env := by intro _; rfl) (hpl : ∀ env : Env, (backTo pos (starEach es env)).any (·.1) = false := by intro _; rfl)
  (ht : ∀ env : Env, eval (.Call (.Attribute o nm apos) (e :: es) [] pos) env = (do
   let ov ← eval o env
   standAt apos.atName
   let (f, first) ← holding [ov] (getMethod ov nm (pl env))
   callWith pos f first (backTo pos (starEach (e :: es) env)) (backToKw pos (keywordEach [] env))) := by intro _; rfl) :
  JE S (.Call (.Attribute o nm apos) (e :: es) [] pos) (gB C nm m n gd mo ma) := fun X E cx xo => by
 refine ⟨fun pins s σ H Q J ⟨I, F, G, ds, w, rel, rs, p⟩ => ?_⟩
 refine PySem.W.methodCall_KW (pl := pl X.env) (thn ((ho X E cx xo).run pins s σ H _ J (bO (f := fun ds x w1 => match sT C nm x w1 with
  | some i => (ma ds w1).bind fun xs w2 => if xs.length + 1 = n then m (gd (.ref i :: xs) []) w2 else .bad
  | none => .bad) (Q := fun v H1 => ∃ I1 F1 x w1, Rel X.K I1 F1 G w1 H1 ∧ fL X.K I1 F1 ds σ ∧ aF X.K I1 F1 x v ∧ aY X.K I1 F1 G E (RV X.K Q) (match sT C nm x w1 with
  | some i => (ma ds w1).bind fun xs w2 => if xs.length + 1 = n then m (gd (.ref i :: xs) []) w2 else .bad
  | none => .bad)) rel rs p fun I1 F1 H1 x w1 v e1 rel1 rs1 rv p1 => ⟨I1, F1, x, w1, rel1, rs1, rv, p1⟩)) fun u s1 ⟨v, H1, J1, rx, I1, F1, x, w1, rel1, rs1, rv, p1⟩ => ?_) (ht X.env)
 cases hi : sT C nm x w1 with
 | none => rw [hi] at p1; exact p1.elim
 | some i =>
  rw [hi] at p1
  obtain ⟨rfl, fs, hw, hl⟩ := HX hi
  simp only [aF] at rv
  obtain ⟨a, rfl, ha1⟩ := rv
  obtain rfl : u = Value.ref a := rx
  obtain ⟨u1, hu, dx, r, rfl, hr⟩ := rel1.ob i a _ ha1 hw
  have l2 : r.lookup nm = none := by
   have := hr.lookup nm
   rw [hl] at this
   exact this
  refine getmeth_ok J1 hu (by rw [cx.K]; exact cl) (by rw [cx.K]; exact hs) l2 ?_
  refine PySem.W.callWith_K (first := [.ref a]) (h₀ := X.base) J.ok.mod.kin (by rw [cx.K]; exact hs.kp) (thn ((ha X E cx xo).run pos pins s1 σ H1 _ J1 (dR (f := fun _ xs w2 => if xs.length + 1 = n then m (gd (.ref i :: xs) []) w2 else .bad)
   (Q := fun vs H2 => ∃ I2 F2 xs w2, Rel X.K I2 F2 G w2 H2 ∧ aF X.K I2 F2 (.ref i) (.ref a) ∧ RepL X.K I2 F2 xs vs ∧ xs.length + 1 = n ∧ aY X.K I2 F2 G E (RV X.K Q) (m (gd (.ref i :: xs) []) w2)) rel1 rs1 p1 fun I2 F2 H2 xs w2 vs e2 rel2 rs2 rvs p2 => ?_)) fun us s2 hq => ?_) (hst X.env) (hpl X.env)
  ·split at p2
   ·rename_i hl2
    exact ⟨I2, F2, xs, w2, rel2, by simp only [aF]; exact ⟨a, rfl, e2.get ha1⟩, rvs, hl2, p2⟩
   ·exact p2.elim
  ·obtain ⟨vs, H2, J2, rr, I2, F2, xs, w2, rel2, rv2, rvs, hl2, p2⟩ := hq
   refine ⟨J2.kIn, ?_⟩
   have Gf' : fV X.prog X.w X.K X.mg X.base k f fd ps m := by rw [cx.P, cx.w, cx.K, cx.mg, cx.base]; exact Gf
   have B' : cO X.K fd ps n [] gd := by rw [cx.K]; exact B
   exact YV (ks := []) (ws := []) (zs := []) (ys := []) (us := .ref a :: us) (vs := .ref a :: vs) (xs := .ref i :: xs) xo Gf' B' (cx.room.mono hk) cx.WC J2 rel2 (RepL.cons rv2 rvs) (by simp [RepL]) (.cons rfl rr) .nil (by simpa using hl2) rfl p2
theorem U9 {pl : Env → Sem Bool} (hk : k ≤ S.k) (cl : Cls S.K C) (hs : Meth S.K C nm f) (Gf : fV S.P S.w S.K S.mg S.base k f fd ps m) (B : cO S.K fd ps 1 [] gd) (ho : JE S o mo)
  (ht : ∀ env : Env, eval (.Call (.Attribute o nm apos) [] [] pos) env = (do
   let ov ← eval o env
   standAt apos.atName
   let (f, first) ← holding [ov] (getMethod ov nm (pl env))
   callWith pos f first (backTo pos (starEach [] env)) (backToKw pos (keywordEach [] env))) := by intro _; rfl) :
  JE S (.Call (.Attribute o nm apos) [] [] pos) (gB C nm m 1 gd mo aD) := fun X E cx xo => by
 refine ⟨fun pins s σ H Q J ⟨I, F, G, ds, w, rel, rs, p⟩ => ?_⟩
 refine PySem.W.methodCall_KW (pl := pl X.env) (thn ((ho X E cx xo).run pins s σ H _ J (bO (f := fun ds x w1 => match sT C nm x w1 with
  | some i => (aD ds w1).bind fun xs w2 => if xs.length + 1 = 1 then m (gd (.ref i :: xs) []) w2 else .bad
  | none => .bad) (Q := fun v H1 => ∃ I1 F1 x w1, Rel X.K I1 F1 G w1 H1 ∧ fL X.K I1 F1 ds σ ∧ aF X.K I1 F1 x v ∧ aY X.K I1 F1 G E (RV X.K Q) (match sT C nm x w1 with
  | some i => (aD ds w1).bind fun xs w2 => if xs.length + 1 = 1 then m (gd (.ref i :: xs) []) w2 else .bad
  | none => .bad)) rel rs p fun I1 F1 H1 x w1 v e1 rel1 rs1 rv p1 => ⟨I1, F1, x, w1, rel1, rs1, rv, p1⟩)) fun u s1 ⟨v, H1, J1, rx, I1, F1, x, w1, rel1, rs1, rv, p1⟩ => ?_) (ht X.env)
 cases hi : sT C nm x w1 with
 | none => rw [hi] at p1; exact p1.elim
 | some i =>
  rw [hi] at p1
  obtain ⟨rfl, fs, hw, hl⟩ := HX hi
  have rv0 := rv
  simp only [aF] at rv
  obtain ⟨a, rfl, ha1⟩ := rv
  obtain rfl : u = Value.ref a := rx
  obtain ⟨u1, hu, dx, r, rfl, hr⟩ := rel1.ob i a _ ha1 hw
  have l2 : r.lookup nm = none := by
   have := hr.lookup nm
   rw [hl] at this
   exact this
  refine getmeth_ok J1 hu (by rw [cx.K]; exact cl) (by rw [cx.K]; exact hs) l2 ?_
  have Gf' : fV X.prog X.w X.K X.mg X.base k f fd ps m := by rw [cx.P, cx.w, cx.K, cx.mg, cx.base]; exact Gf
  have B' : cO X.K fd ps 1 [] gd := by rw [cx.K]; exact B
  exact PySem.W.callWith_K0 (first := [.ref a]) J1.kIn (by rw [cx.K]; exact hs.kp) (YV (ks := []) (ws := []) (zs := []) (ys := []) (us := [.ref a]) (vs := [.ref a]) (xs := [.ref i]) xo Gf' B' (cx.room.mono hk) cx.WC J1 rel1 (RepL.cons rv0 (by simp [RepL])) (by simp [RepL]) (.cons rfl .nil) .nil rfl rfl p1)
end
def aB6 : TC := fun d ds w => match d, ds with
 | .ref i, [.tup zs] => (match w[i]? with
  | some (.lst xs) => if xs.length + zs.length ≤ sizeLine then .ok .non (w.set i (.lst (xs ++ zs))) else .bad
  | _ => .bad)
 | _, _ => .bad
def lexLeI (ns ms : List Int) : Bool := Ob.lexAt (fun j => decide (ns.getD j 0 = ms.getD j 0)) (fun j => decide (ns.getD j 0 ≤ ms.getD j 0)) (decide (ns.length ≤ ms.length)) 0 (min ns.length ms.length)
def leA (x y : D) (w : W) : Res D := match x, y with
 | .int a, .int b => .ok (.bl (decide (a ≤ b))) w
 | .tup a, .tup b => (match lS a, lS b with
  | some ns, some ms => .ok (.bl (lexLeI ns ms)) w
  | _, _ => .bad)
 | _, _ => .bad
def aE7 (x y : D) (w : W) : Res D := match aDV x w, aDV y w with
 | some a, some b => if a.length + b.length ≤ sizeLine then .ok (.ref w.length) (w ++ [.lst (a ++ b)]) else .bad
 | _, _ => .bad
end Pc
namespace He
open PySem PySem.Spec PyProof.Rows L2
abbrev AlY : Type := AlT × Bool
def aA6 (as : List Addr) (fa : List Fa) (fn : List DefD) (ts : List Tab) (ex : PySem.W.Frag → Bool) (g : Addr → Option Obj) : AlY := (obsT fa fn ts (frT g as), ex (frT g as))
def aEU (fn : List DefD) (ts : List Tab) (w : World) : AlY := (valT fn ts w, true)
theorem YT {as : List Addr} {fa : List Fa} {fn : List DefD} {ts : List Tab} {ex : PySem.W.Frag → Bool} {w : World} {h : Heap} (e : aA6 as fa fn ts ex h.get? = aEU fn ts w) : SaysX fa fn ts [] ex w h (frT h.get? as) :=
 ⟨congrArg (fun z : AlY => z.1) e, congrArg (fun z : AlY => z.2) e, (fun _ hp => nomatch hp), (fun _ hp => nomatch hp), (fun _ hp => nomatch hp)⟩
def aCr (as : List Addr) (fa : List Fa) (fn : List DefD) (ts : List Tab) (ex : PySem.W.Frag → Bool) : PySem.W.Hook where
 α := AlY
 obs := fun s => aA6 as fa fn ts ex s.heap.get?
 val := fun w => aEU fn ts w
 says := fun w h => ∃ K : PySem.W.Frag, K.In h ∧ SaysX fa fn ts [] ex w h K
 of := fun _ _ e => ⟨_, frT_in, YT e⟩
 keeps := fun _ _ _ ⟨K, hK, c⟩ k => ⟨K, PySem.W.Frag.In.keeps hK k, ⟨c.t, c.more, c.hd, c.out, (fun _ hp => nomatch hp)⟩⟩
theorem aAO {as : List Addr} {fa : List Fa} {fn : List DefD} {ts : List Tab} {ex : PySem.W.Frag → Bool} {g : Addr → Option Obj} {s : Shared} (h : ∀ a, g a = s.heap.get? a) : aA6 as fa fn ts ex g = (aCr as fa fn ts ex).obs s := by
 have e : g = s.heap.get? := funext h
 rw [e]
 rfl
theorem aCm {α β γ δ : Type} {e : Option α} {f : α → β} {g : α → γ} {h : α → δ} {a : β} {b : γ} {c : δ} (h1 : e.map (fun s => (f s, g s)) = some (a, b)) (h2 : e.map h = some c) : e.map (fun s => (f s, g s, h s)) = some (a, b, c) := by
 cases e with
 | none => exact nomatch h1
 | some s => 
  have q : (f s, g s) = (a, b) := Option.some.inj h1
  have q2 : h s = c := Option.some.inj h2
  have q3 := congrArg Prod.fst q
  have q4 := congrArg Prod.snd q
  show some (f s, g s, h s) = some (a, b, c)
  rw [q2, show f s = a from q3, show g s = b from q4]
end He
namespace Pc
open PySem PySem.Spec PyProof.Rows L2
def vQ : TC := fun d ds w => match d, ds with
 | .ref i, [.int j, y] => (match w[i]? with
  | some (.lst xs) => if xs.length < sizeLine ∧ 0 ≤ j ∧ j < 2 ^ 63 then .ok .non (w.set i (.lst (xs.take j.toNat ++ [y] ++ xs.drop j.toNat))) else .bad
  | _ => .bad)
 | _, _ => .bad
theorem U7 {S : aR} : MB S "list.insert" vQ := IB fun X E c xo I F G d ds w H x vs Q rel rd rl p => by
 unfold vQ at p
 split at p
 ·rename_i i j y
  simp only [aF] at rd
  obtain ⟨a, rfl, hi⟩ := rd
  obtain ⟨v, u0, rfl, rj, ry⟩ := rl.two
  simp only [aF] at rj
  subst rj
  split at p
  ·rename_i xs hw
   obtain ⟨u, hu, us, rfl, hr⟩ := rel.ob i a _ hi hw
   split at p
   ·rename_i hl
    exact ⟨_, mt_insert, a, us, j, u0, rfl, rfl, hu, by rw [← hr.length]; exact hl.1, hl.2.1, hl.2.2, p.mM (rel.upd hi hw ⟨_, rfl, ((hr.take _).append (RepL.cons ry (by simp [RepL]))).append (hr.drop _)⟩) (by simp [aF])⟩
   ·exact p.elim
  ·exact p.elim
 ·exact p.elim
end Pc
namespace L2
open PySem PySem.Spec PyProof.Rows
def IS (p d : Addr) : HO := .ext fun h => h.IsValuesView p d
theorem aBn {P : Program} {w : World} {H : Hp} {h : Heap} {p d : Addr} (he : h.IsValuesView p d) : ObjOk P w H h p (IS p d) :=
 ⟨he, (let ⟨o, ho, _⟩ := he; ⟨o, ho⟩), fun h1 h2 z k => by
  obtain ⟨o, ho, r⟩ := z
  exact ⟨o, k _ ho, r⟩⟩
theorem aBk {P : Program} {w : World} {H : Hp} {h : Heap} {p d : Addr} (hok : HOk P w H h) (he : H p = some (IS p d)) : h.IsValuesView p d := by
 have x : ObjOk P w H h p (IS p d) := hok p _ he
 exact x.1
section
variable {X : Cx} {e : Expr} {es : List Expr} {ta : TA} {p1 p2 pos : Pos} {x : Str} {N : Addr}
theorem YU {pl : Sem Bool} (hg : Gl X x) (hm : X.mg x = some (.ref N)) (hdb : (x == ("__debug__" : Str)) = false) (rd : ClX.CRead X.K N (.type "type")) (vN : PySem.W.findCls X.K (.ref N) (.type "type") "__init__" = some (.val (.builtin "ValueError.__init__"))) (ha : PA X (e :: es) ta)
  (hc : eval (.Call (.Attribute (.Name x p1) "__init__" p2) (e :: es) [] pos) X.env = (do
   let ov ← eval (.Name x p1) X.env
   standAt p2.atName
   let (f, first) ← holding [ov] (getMethod ov "__init__" pl)
   callWith pos f first (backTo pos (starEach (e :: es) X.env)) (backToKw pos (keywordEach [] X.env))) := by rfl)
  (he : starEach (e :: es) X.env = (false, eval e X.env) :: starEach es X.env := by rfl) (hpl : (backTo pos (starEach es X.env)).any (·.1) = false := by rfl) :
  PE X (.Call (.Attribute (.Name x p1) "__init__" p2) (e :: es) [] pos) (tVeI X.K ta) := by
 refine ⟨fun pins s σ H Q I h => ?_⟩
 refine PySem.W.methodCall_KW (ld_glob I hg hm ?_ hdb) hc
 refine PySem.W.method_cls I.kIn rd.ga (PySem.W.cls_value I.kIn rd.rd vN (by decide +kernel) ?_)
 show wpAny _ _ (callWith pos (Value.builtin "ValueError.__init__") [] (backTo pos (starEach (e :: es) X.env)) []) _ _ _
 refine PyProof.Rows.callWith_method1 (thn (ha.run pos pins _ σ H _ (I.tok _) h) fun us s1 ⟨vs, H1, I1, r1, a, C, ws, ev, hl, T, ea, q⟩ => ?_) he hpl
 subst ev
 cases r1 with
 | @cons _ u0 _ ur ra rw' =>
  obtain rfl : u0 = Value.ref a := ra
  have hlen : ur.length ≤ sizeLine := by
   rw [← Paired.length rw', sizeLine_eq]
   omega
  exact oinit_ok T I1 ea hlen fun s' J => ⟨.non, H1, J, rfl, q⟩
end
end L2
namespace Pc
open PySem PySem.Spec PyProof.Rows L2
structure ExF (K : PySem.W.Frag) (C N fI : Addr) (f : Str) : Prop where
 oex : OexC K C
 iC : PySem.W.findIn K (.ref C) "__init__" = some (some (.ref fI))
 tI : PySem.W.typeIn K (.ref fI) = some (.type "function")
 no : PySem.W.findIn K (.ref C) f = some none
 xf : XfC K C
 rd : ClX.CRead K N (.type "type")
 vN : PySem.W.findCls K (.ref N) (.type "type") "__init__" = some (.val (.builtin "ValueError.__init__"))
def spX (C : Addr) (f : Str) : Sp := fun vs H Q E => ∃ (a : Addr) (v : V), vs = [.ref a, v] ∧ H a = some (exo a C none) ∧ ∀ dx, H dx = none → dx ≠ a → Q .non (upd (upd H dx (exd dx [(f, v)])) a (exo a C (some dx)))
def CXn : CXT := fun _ _ _ _ _ _ => False
theorem aE6 {X : Cx} {E : XK} : Passes CXn X E := fun _ _ _ _ _ _ _ h => h.elim
theorem aBI {P : Program} {w : World} {K : PySem.W.Frag} {mg : Str → Option Value} {base : Heap} {C N fI : Addr} {f xN a qual txt : Str} {fd : FuncData} {params : Arguments} {scope : Scope} {body : List Stmt} {p1 p2 p3 p4 p5 p6 p7 p8 p9 p10 : Pos} {j : Nat}
  (T : ExF K C N fI f) (F : FunD K "__init__" qual params body scope [] [] fI fd) (Sc : FnScope ["self", a] ["self", a] scope)
  (hb : body = [.Expr (.Call (.Attribute (.Name xN p1) "__init__" p2) [.Name "self" p3, .Constant (.str txt) j p4] [] p5) p6, .Assign [.Attribute (.Name "self" p7) f p8] (.Name a p9) p10])
  (hg : scope.names.lookup xN = some .globalImplicit) (hm : mg xN = some (.ref N)) (hdb : (xN == ("__debug__" : Str)) = false) (v0 : Vis scope "self") (v1 : Vis scope a) (d1 : (a == ("__debug__" : Str)) = false) (d2 : (a == ("__classdict__" : Str)) = false)
  {pl : Env → Sem Bool} (hc : ∀ env : Env, eval (.Call (.Attribute (.Name xN p1) "__init__" p2) [.Name "self" p3, .Constant (.str txt) j p4] [] p5) env = (do
   let ov ← eval (.Name xN p1) env
   standAt p2.atName
   let (f, first) ← holding [ov] (getMethod ov "__init__" (pl env))
   callWith p5 f first (backTo p5 (starEach [.Name "self" p3, .Constant (.str txt) j p4] env)) (backToKw p5 (keywordEach [] env))))
  (hs1 : ∀ env : Env, swapsWith (.Call (.Attribute (.Name xN p1) "__init__" p2) [.Name "self" p3, .Constant (.str txt) j p4] [] p5) none p6.line env = pure false)
  (hs2 : ∀ env : Env, swapsWith (.Name a p9) (some (.Attribute (.Name "self" p7) f p8)) p10.line env = pure false) :
  FnOk P w K mg base CXn 1 fI fd ["self", a] (spX C f) := by
 subst hb
 refine F.ok Sc (fun vs H Q E ⟨b, v, e, _⟩ => by rw [e]; rfl) fun cdv A outer s H vs Q E hr ⟨b, v, e, hb, k⟩ => ?_
 subst e
 refine ⟨_, pss_cons (ps_expr (YU (by exact hg) (by exact hm) hdb (by exact T.rd) (by exact T.vN) (pa_cons (pe_var (i := 0) rfl (by exact v0)) (pa_cons pe_str pa_nil)) (hc _)) (hs1 _)) (pss_one (ps_ost (pe_var (i := 0) rfl (by exact v0)) (pe_var (i := 1) rfl (by exact v1) d1 d2) (hs2 _))), ?_⟩
 refine ⟨.ref b, rfl, b, C, [.str txt], rfl, by simp, T.oex, hb, ?_⟩
 refine ⟨v, rfl, .ref b, rfl, b, C, rfl, T.oex, T.no, .inl ⟨hb, fun dx n ne => ?_⟩⟩
 exact k dx n ne
def xD (C : Addr) (f : Str) (me : ME) : MS := fun σ w => (me σ w).bind fun d w1 => .yE ⟨.ref C, some [(f, d)]⟩ w1
theorem D8 {S : aR} {C N fI : Addr} {f x : Str} {fd : FuncData} {ps : List Str} {e : Expr} {me : ME} {p cpos pos : Pos} (hk : 2 ≤ S.k) (T : ExF S.K C N fI f) (F1 : FnOk S.P S.w S.K S.mg S.base CXn 1 fI fd ps (spX C f)) (hb : Binds S.K fd ps [])
  (hg : S.sc.names.lookup x = some .globalImplicit) (hm : S.mg x = some (.ref C)) (he : JE S e me) (hdb : (x == ("__debug__" : Str)) = false := by decide)
  (hst : ∀ env : Env, starEach [e] env = (false, eval e env) :: starEach [] env := by intro _; rfl) (hpl : ∀ env : Env, (backTo cpos (starEach [] env)).any (·.1) = false := by intro _; rfl) :
  JS S (.Raise (some (.Call (.Name x p) [e] [] cpos)) none pos) (xD C f me) := fun X E cx xo => by
 have T' : ExF X.K C N fI f := by rw [cx.K]; exact T
 have F' : FnOk X.prog X.w X.K X.mg X.base CXn 1 fI fd ps (spX C f) := by rw [cx.P, cx.w, cx.K, cx.mg, cx.base]; exact F1
 refine jQ (ps_raise cx.calm xo.tk (pmk_oex (dvs := []) T'.oex T'.iC T'.tI F' (cx.room.mono hk) (by rw [cx.K]; exact hb) .nil aE6 (by show X.env.scope.names.lookup x = _; rw [cx.sc]; exact hg) (by rw [cx.mg]; exact hm) (pa_cons (he X E cx xo) pa_nil (hst X.env)) hdb (hst X.env) (hpl X.env))) fun Z σ H ⟨I, F, G, ds, w, rel, rs, p⟩ => ?_
 refine bO (f := fun _ d w1 => (Res.yE ⟨.ref C, some [(f, d)]⟩ w1 : Res Fl)) rel rs p fun I1 F1 H1 y w1 v e1 rel1 rs1 rv p1 => ?_
 refine ⟨by simp, fun a na => ⟨a, v, rfl, upd_same, fun dx n ne => ⟨rfl, dx, [(f, v)], upd_same, ?_, ?_, ?_⟩⟩⟩
 ·rw [upd_ne ne, upd_same]
 ·rw [upd_ne ne] at n
  exact n
 have n' : H1 dx = none := by rw [upd_ne ne] at n; exact n
 have eH : upd (del (upd (upd (upd H1 a (exo a C none)) dx (exd dx [(f, v)])) a (exo a C (some dx))) a) dx (.xd [(f, v)]) = upd H1 dx (.xd [(f, v)]) := by
  funext b
  by_cases h1 : b = dx
  ·rw [h1, upd_same, upd_same]
  ·rw [upd_ne h1, upd_ne h1]
   by_cases h2 : b = a
   ·rw [h2, del_same, na]
   ·rw [del_ne h2, upd_ne h2, upd_ne h1, upd_ne h2]
 rw [eH]
 exact p1 I1 F1 _ (.ref C) (some dx) .refl (rel1.aCd n') ⟨rfl, dx, [(f, v)], rfl, upd_same, ⟨v, [], rfl, rv, rfl⟩⟩
def kmL (l : List (Addr × Bool)) : Value → Option Bool
 | .ref a => l.lookup a
 | _ => none
def ZZ (K : PySem.W.Frag) (Hc : Addr) (l : List (Addr × Bool)) : Prop := ∀ a b, l.lookup a = some b → PySem.W.exmOne K (.ref a) (.ref Hc) = some b
def unI (i : Nat) : Fl → Fl
 | .nx s => .nx (s.set i none)
 | .rt d => .rt d
 | .bk s => .bk (s.set i none)
 | .ct s => .ct (s.set i none)
def forget (σ : Sg) : Sg := List.replicate σ.length none
def calm {α : Type} : Res α → Res α
 | .ok a w => .ok a w
 | _ => .bad
def RQ (mb : MS) (l : List (Addr × Bool)) (i : Nat) (ms : XD → MS) : MS := fun σ w => match mb σ w with
 | .ok f w1 => .ok f w1
 | .bad => .bad
 | .yE x w1 => match kmL l x.cls with
  | some true => (calm (ms x (forget σ) w1)).bind fun f w2 => .ok (unI i f) w2
  | some false => .yE x w1
  | none => .bad
def aCf (K : PySem.W.Frag) (i : Nat) (a : Addr) (cls : Value) (d : Option Addr) (ms : XD → MS) : TS := fun Z σ H => σ[i]? = some (some (.ref a)) ∧ ∃ I F G ds w x, Rel K I F G w H ∧ fL K I F ds σ ∧ AY K I F H x cls d ∧ aY K I F G (fun _ _ _ => False) (RFl K Z) (calm (ms x ds w))
def JSu (S : aR) (i : Nat) (suite : List Stmt) (ms : XD → MS) : Prop := ∀ (X : Cx) (a : Addr) (oe : Obj) (cls : Value) (d : Option Addr) (pn : List (Addr × Obj)), Ctx S X → Zc cls d oe → (∃ vs, oe.data = .fields vs) → PSs (X.suite a ((a, oe) :: pn)) suite (aCf X.K i a cls d ms)
theorem fL.forget {K : PySem.W.Frag} {I : List Addr} {F : Hp} {ds : Sg} {s : L2.St} (h : ds.length = s.length) : fL K I F (forget ds) s := by
 refine ⟨by simp [Pc.forget, h], fun i d e => ?_⟩
 unfold Pc.forget at e
 rw [List.getElem?_replicate] at e
 split at e <;> cases e
def Top (X : Cx) : Prop := X.stack = X.env :: X.outer ∧ X.env.frame = some X.env.locals
def JST (S : aR) (st : Stmt) (m : MS) : Prop := ∀ X E, Ctx S X → q8 X E → Top X → PS X st (FU X.K E m)
def V8 (S : aR) (st : List Stmt) (m : MS) : Prop := ∀ X E, Ctx S X → q8 X E → Top X → PSs X st (FU X.K E m)
theorem JS.t {S : aR} {st : Stmt} {m : MS} (h : JS S st m) : JST S st m := fun X E cx xo _ => h X E cx xo
theorem rN.t {S : aR} {st : List Stmt} {m : MS} (h : rN S st m) : V8 S st m := fun X E cx xo _ => h X E cx xo
theorem M6 {S : aR} {st : Stmt} {sts : List Stmt} {a b : MS} (h1 : JST S st a) (h2 : V8 S sts b) : V8 S (st :: sts) (aH a b) := fun X E cx xo t =>
 D5 (pss_cons (h1 X E cx xo t) (h2 X E cx xo t)) fun Z σ H h => N5 h
theorem aAy {S : aR} {st : Stmt} {a : MS} (h1 : JST S st a) : V8 S [st] a := fun X E cx xo t => pss_one (h1 X E cx xo t)
theorem aCY {S : aR} {Hc : Addr} {l : List (Addr × Bool)} {i : Nat} {x n : Str} {body suite : List Stmt} {b₀ : Stmt} {np pos pos' : Pos} {mb : MS} {ms : XD → MS} (hi : S.N[i]? = some n) (hln : S.sc.names.lookup n = some .local) (hg : S.sc.names.lookup x = some .globalImplicit) (hm : S.mg x = some (.ref Hc))
  (km : ZZ S.K Hc l) (hb : rN S body mb) (hs : JSu S i (b₀ :: suite) ms) (hdb : (x == ("__debug__" : Str)) = false := by decide) :
  JST S (.Try body [.ExceptHandler (some (.Name x np)) (some n) (b₀ :: suite) pos'] [] [] pos) (RQ mb l i ms) := fun X E cx xo ⟨s1, s2⟩ => by
 have hi' : X.N[i]? = some n := by rw [cx.N]; exact hi
 have PT := ps_try_as (X := X) (i := i) (x := x) (n := n) (np := np) (pos := pos) (pos' := pos') (body := body) (b₀ := b₀) (suite := suite) (c := .ref Hc) (tb := fun W => FU X.K (fun cls d H => ∀ σ' : L2.St, σ'.length = X.N.length → W cls d σ' H) mb) (ts := fun a cls d => aCf X.K i a cls d ms) (Wout := fun cls d _ H => E cls d H) s1 s2 cx.nd hi' (by show X.env.scope.names.lookup n = _; rw [cx.sc]; exact hln)
  ⟨by show X.env.scope.names.lookup x = _; rw [cx.sc]; exact hg, hdb, .inl (by rw [cx.mg]; exact hm)⟩ xo.tk (fun W pn xe tk ow => by
   have cx' : Ctx S (X.tr pn xe) := ⟨cx.P, cx.w, cx.K, cx.mg, cx.base, cx.N, cx.sc, cx.fn, cx.calm, cx.room, cx.WC, cx.nd⟩
   refine hb (X.tr pn xe) _ cx' ⟨fun u s' ⟨a, B, sI, pins, σ, H, cls, d, e, J, nb, up, sky, na, os, ag, w⟩ => ?_, ow⟩
   exact tk u s' ⟨a, B, sI, pins, σ, H, cls, d, e, J, nb, up, sky, na, os, ag, w σ J.len⟩) (fun a oe cls d pn hz hf => hs X a oe cls d pn cx hz hf)
 refine ⟨fun pins s σ H Z J ⟨I, F, G, ds, w, rel, rs, p⟩ => PT.run pins s σ H Z J ?_⟩
 have hlen0 : ds.length = X.N.length := by rw [rs.1]; exact J.len
 refine ⟨I, F, G, ds, w, rel, rs, ?_⟩
 unfold RQ at p
 cases hr : mb ds w with
 | ok f w1 => rw [hr] at p; exact p
 | bad => rw [hr] at p; exact p.elim
 | yE z w1 =>
  rw [hr] at p
  intro I' F' H' c d e rel' rx σ' hlen
  have ec : c = z.cls := rx.1
  have hl : ds.length = σ'.length := by rw [hlen, hlen0]
  simp only at p
  cases hk : kmL l z.cls with
  | none => rw [hk] at p; exact p.elim
  | some b =>
   rw [hk] at p
   have hex : PySem.W.exmOne X.K c (.ref Hc) = some b := by
    rw [ec, cx.K]
    unfold kmL at hk
    split at hk
    ·rename_i a ha
     rw [ha]
     exact km a b hk
    ·cases hk
   refine ⟨b, hex, fun hb a na => ?_, fun hb => ?_⟩
   ·subst hb
    simp only at p
    have hin : i < σ'.length := by rw [hlen]; exact (aj.mp hi').1
    refine ⟨az hin, I', F', G, forget ds, w1, z, rel', fL.forget (by rw [ck]; exact hl), rx, ?_⟩
    have p' := (aY.ext (aY.bind p) e)
    cases hq : calm (ms z (forget ds) w1) with
    | bad => rw [hq] at p'; exact p'.elim
    | yE y w2 => unfold calm at hq; split at hq <;> cases hq
    | ok f w2 =>
     rw [hq] at p'
     intro I2 F2 H2 e2 rel2
     have p2 := p' I2 F2 H2 e2 rel2
     have p3 := p2 I2 F2 H2 .refl rel2
     cases f with
     | nx s => exact fun s' hs' => p3 (s'.set i none) (hs'.unset i none)
     | rt d => exact fun v hv => p3 v hv
     | bk s => exact fun s' hs' => p3 (s'.set i none) (hs'.unset i none)
     | ct s => exact fun s' hs' => p3 (s'.set i none) (hs'.unset i none)
   ·subst hb
    exact p I' F' H' c d e rel' rx
theorem fV.ofT {S : aR} {x qual : Str} {params : Arguments} {body : List Stmt} {scope : Scope} {dvs : List V} {kws : List (Str × V)} {f : Addr} {fd : FuncData} {N ps : List Str} {k : Nat} {mb : MS} {m : MF}
  (F : FunD S.K x qual params body scope dvs kws f fd) (Sc : FnScope N ps scope) (hb : V8 (S.body k N scope) body mb) (hm : ∀ ds w, ds.length = ps.length → Fits w (m ds w) (bL mb N ds w)) : fV S.P S.w S.K S.mg S.base (k + 1) f fd ps m := by
 refine ⟨fun A outer s H args us vs Q E hr hg e0 hbt r hl hsp => ?_⟩
 obtain ⟨oc, od, dV, kV, doc, pm, an, cdv, ct, osl, rfl, lk, hcd, _, _⟩ := F.ex
 have KX : S.K.In s.heap := e0.mod.kin.keeps fun b o e => (e0.bs b o e).1
 have lim : s.heap.NoLimit := e0.mod.nolimit.keeps fun b o e => (e0.bs b o e).1
 have kinds : ∀ y ∈ ps.zip us, scope.names.lookup y.1 = some .local ∨ (scope.names.lookup y.1 = some .cell ∧ ((cellsFrom (s.heap.objs.size + 1) scope.names []).lookup y.1).isSome = true) := by
  rintro ⟨n, v⟩ hy
  have hn : n ∈ ps := (List.of_mem_zip hy).1
  rcases Sc.par n hn with q | q
  ·exact Or.inl q
  ·exact Or.inr ⟨q, PySem.W.cellsFrom_some _ _ _ (.inl q)⟩
 refine codeAny_call_function hr.depth (KX _ _ lk) rfl Sc.co Sc.gen rfl (PySem.W.codeRec_of KX hcd) (hbt _ _ _ _ ?_)
 refine wpAny_newFunctionEnv_cells Sc.kind kinds fun env he s1 y => ?_
 subst he
 refine ⟨lim.keeps y.toInCall.keep, codeAny_func ?_⟩
 obtain ⟨I, F0, G, ds, w, rel, rl, p⟩ := hsp
 have J : Inv (cxOf (L2.CX S.P S.w) S.P S.w S.K S.mg S.base N qual scope f cdv A outer s H E) [] (start N vs) H s1 := inv_start Sc hr.hd e0 hl r y
 have cx : Ctx (S.body k N scope) (cxOf (L2.CX S.P S.w) S.P S.w S.K S.mg S.base N qual scope f cdv A outer s H E) := ⟨rfl, rfl, rfl, rfl, rfl, rfl, rfl, fun _ _ => rfl, rfl, hr.deeper _, hg, Sc.nd⟩
 have xo : q8 (cxOf (L2.CX S.P S.w) S.P S.w S.K S.mg S.base N qual scope f cdv A outer s H E) E := ⟨takes_of rfl rfl rfl rfl, passes_of rfl⟩
 have p' : aY S.K I F0 G E (RV S.K Q) (bL mb N ds w) := p.fits rel (hm ds w (by rw [rl.length]; exact hl))
 have go := (hb _ E cx xo ⟨rfl, rfl⟩).run [] s1 (start N vs) H { nx := fun _ H' => Q .non H', rt := Q } J ⟨I, F0, G, begin N ds, w, rel, rl.Z8 N, (aY.bind p').mono fun I1 F1 H1 fl w1 _ e1 rel1 p1 => ?_⟩
 ·refine wpAny_mono go (fun fl s' hs => ?_) fun e s' hs => hs
  cases fl with
  | ret u =>
   obtain ⟨v, σ', H', J', rv, q⟩ := hs
   exact ⟨v, H', J'.os, J'.bare, J'.base, J'.hok, rv, q⟩
  | next =>
   obtain ⟨σ', H', J', q⟩ := hs
   exact ⟨V.non, H', J'.os, J'.bare, J'.base, J'.hok, rfl, q⟩
  | brk =>
   obtain ⟨_, _, _, q⟩ := hs
   exact q.elim
  | cont =>
   obtain ⟨_, _, _, q⟩ := hs
   exact q.elim
 ·cases fl with
  | nx z => exact fun s' _ => p1.mM rel1 (by simp [aF])
  | rt d => exact fun v rv => p1.mM rel1 rv
  | bk z => exact p1.elim
  | ct z => exact p1.elim
def A2 (Cs : List Addr) (f : Str) (x : XD) : Option D := match x.cls, x.fs with
 | .ref C, some fs => if Cs.contains C = true then fs.lookup f else none
 | _, _ => none
def ZC (K : PySem.W.Frag) (Cs : List Addr) (f : Str) : Prop := ∀ C ∈ Cs, XfC K C ∧ PySem.W.findIn K (.ref C) f = some none
theorem Y7 {K : PySem.W.Frag} {I : List Addr} {F H : Hp} {x : XD} {cls : Value} {d : Option Addr} {Cs : List Addr} {f : Str} {y : D} (rx : AY K I F H x cls d) (e : A2 Cs f x = some y) :
  ∃ C dd fs v, C ∈ Cs ∧ cls = .ref C ∧ d = some dd ∧ H dd = some (.xd fs) ∧ fs.lookup f = some v ∧ aF K I F y v := by
 obtain ⟨ec, h⟩ := rx
 unfold A2 at e
 split at e
 ·rename_i C gs h1 h2
  rw [h2] at h
  obtain ⟨dd, r, e1, e2, e3⟩ := h
  split at e
  ·rename_i hc
   have := aS.lookup f e3
   rw [e] at this
   obtain ⟨v, e4, e5⟩ := this
   exact ⟨C, dd, r, v, by simpa using hc, by rw [ec, h1], e1, e2, e4, e5⟩
  ·cases e
 ·cases e
def OV (Cs : List Addr) (f : Str) (j : Nat) : XD → MS := fun x σ w => match A2 Cs f x with
 | some y => .ok (.nx (σ.set j (some y))) w
 | none => .bad
theorem aDu {S : aR} {i j : Nat} {n v f : Str} {Cs : List Addr} {p1 p2 p3 p4 : Pos} (hi : S.N[i]? = some n) (hln : S.sc.names.lookup n = some .local) (hj : S.N[j]? = some v) (hlv : S.sc.names.lookup v = some .local) (xf : ZC S.K Cs f)
  (d1 : (n == ("__debug__" : Str)) = false := by decide) (d2 : (n == ("__classdict__" : Str)) = false := by decide) (hb : ∀ env : Env, attributeBase (.Name n p1) f env (eval (.Name n p1) env) = eval (.Name n p1) env := by intro _; rfl)
  (hs : ∀ env : Env, swapsWithSole [.Name v p3] (.Attribute (.Name n p1) f p2) p4.line env = pure false := by intro _; rfl) (hw : ∀ env : Env, swappedStores [.Name v p3] (.Attribute (.Name n p1) f p2) env = pure none := by intro _; rfl)
  (h1 : ∀ env : Env, (assignEach [.Name v p3] env).map (·.2) = [assign (.Name v p3) env] := by intro _; rfl) :
  JSu S i [.Assign [.Name v p3] (.Attribute (.Name n p1) f p2) p4] (OV Cs f j) := fun X a oe cls d pn cx hz hf => by
 refine ⟨fun pins s σ H Z J ⟨hσ, I, F, G, ds, w, x, rel, rs, rx, p⟩ => ?_⟩
 unfold OV at p
 cases e : A2 Cs f x with
 | none => rw [e] at p; exact p.elim
 | some y =>
  rw [e] at p
  obtain ⟨C, dd, fs, u, hC, ec, ed, hH, hl, rv⟩ := Y7 rx e
  have xf' := xf C hC
  rw [← cx.K] at xf'
  have hloc : X.env.scope.names.lookup n = some .local := by rw [cx.sc]; exact hln
  have hlov : X.env.scope.names.lookup v = some .local := by rw [cx.sc]; exact hlv
  exact (pss_one (ps_asg (pe_xf xf'.1 xf'.2 hz hf (pe_var (i := i) (by show X.N[i]? = _; rw [cx.N]; exact hi) (.inl hloc) d1 d2) (hb _)) (pg_name (i := j) cx.nd (by show X.N[j]? = _; rw [cx.N]; exact hj) (.inl hlov) (.inr hlov)) (hs _) (hw _) (h1 _))).run pins s σ H Z J
   ⟨.ref a, hσ, rfl, ec, dd, fs, u, ed, hH, hl, (p I F H .refl rel) (σ.set j (some u)) (rs.set j rv)⟩
theorem aDd {K : PySem.W.Frag} {Hc : Addr} : ZZ K Hc [] := fun a b e => nomatch e
theorem aB0 {K : PySem.W.Frag} {Hc a : Addr} {b : Bool} {l : List (Addr × Bool)} (h : PySem.W.exmOne K (.ref a) (.ref Hc) = some b) (t : ZZ K Hc l) : ZZ K Hc ((a, b) :: l) := fun a' b' e => by
 rw [List.lookup_cons] at e
 by_cases q : a' = a
 ·subst q
  simp at e
  rw [← e]
  exact h
 ·have : (a' == a) = false := by simpa using q
  rw [this] at e
  exact t a' b' e
theorem aDA {K : PySem.W.Frag} {f : Str} : ZC K [] f := fun C h => nomatch h
theorem aA7 {K : PySem.W.Frag} {C N fI : Addr} {f : Str} {l : List Addr} (h : ExF K C N fI f) (t : ZC K l f) : ZC K (C :: l) f := fun C' hC => by
 rcases bh.mp hC with rfl | hC
 ·exact ⟨h.xf, h.no⟩
 ·exact t C' hC
def aDU (K : PySem.W.Frag) (C : Addr) : Bool := match K.lookup C with
 | some ⟨.type t, _, .cls ⟨_, _, .ref C' :: bm, _, _, hd, _, _, _, _, del⟩, ⟨[_, _, _, _, some (.builtin n), _]⟩⟩ => t == "type" && decide (C' = C) && hd && !del && n == "ValueError.__new__" && PySem.HandSPX.refsVE bm
 | _ => false
theorem aAL {K : PySem.W.Frag} {C : Addr} (h : aDU K C = true) : ∃ nm q N bs bm sn sub ab col dd k0 k1 k2 k3 k5, K.lookup C = some (excClassObj nm q C N bs bm true sn sub ab col dd k0 k1 k2 k3 k5 "ValueError.__new__") ∧ PySem.HandSPX.refsVE bm = true := by
 unfold aDU at h
 split at h
 ·rename_i t dd nm bs C' bm N q hd sn sub ab col del k0 k1 k2 k3 n k5 e
  simp only [ar, beq_iff_eq, aq, Bool.not_eq_true'] at h
  obtain ⟨⟨⟨⟨⟨rfl, rfl⟩, rfl⟩, rfl⟩, rfl⟩, h6⟩ := h
  exact ⟨nm, q, N, bs, bm, sn, sub, ab, col, dd, k0, k1, k2, k3, k5, e, h6⟩
 ·cases h
def aD6 : Option PySem.W.CFound → String → Bool
 | some (.val (.builtin n)), x => n == x
 | _, _ => false
theorem aBH {r : Option PySem.W.CFound} {x : String} (h : aD6 r x = true) : r = some (.val (.builtin x)) := by
 unfold aD6 at h
 split at h
 ·rw [beq_iff_eq] at h
  rw [h]
 ·cases h
def aDO (K : PySem.W.Frag) (C N fI : Addr) (f : Str) : Bool :=
 aDU K C && He.eqO (PySem.W.findIn K (.ref C) "__setattr__") (some (some (.builtin "object.__setattr__"))) && decide (PySem.W.subIn K (.ref C) (.type "BaseException") = some true) && decide (PySem.W.typeIn K (.ref C) = some (.type "type")) && PySem.W.keepIn K (.ref C) &&
 He.eqO (PySem.W.findIn K (.ref C) "__init__") (some (some (.ref fI))) && decide (PySem.W.typeIn K (.ref fI) = some (.type "function")) && He.eqO (PySem.W.findIn K (.ref C) f) (some none) && xfB K C &&
 PySem.W.readsIn K N (.type "type") && He.eqO (PySem.W.specialIn K (.ref N) "__getattribute__") (some (some (.builtin "type.__getattribute__"))) && aD6 (PySem.W.findCls K (.ref N) (.type "type") "__init__") "ValueError.__init__"
theorem aA3 {K : PySem.W.Frag} {C N fI : Addr} {f : Str} (h : aDO K C N fI f = true) : ExF K C N fI f := by
 unfold aDO at h
 simp only [ar, aq] at h
 obtain ⟨⟨⟨⟨⟨⟨⟨⟨⟨⟨⟨h1, h2⟩, h3⟩, h4⟩, h5⟩, h6⟩, h7⟩, h8⟩, h9⟩, h10⟩, h11⟩, h12⟩ := h
 exact ⟨⟨aAL h1, He.eqO_ok h2, h3, h4, h5⟩, He.eqO_ok h6, h7, He.eqO_ok h8, xfB_ok h9, ⟨h10, He.eqO_ok h11⟩, aBH h12⟩
def aEv (K : PySem.W.Frag) (C Hc : Addr) (b : Bool) : Bool := decide (PySem.W.exmOne K (.ref C) (.ref Hc) = some b)
theorem aBs {K : PySem.W.Frag} {C Hc : Addr} {b : Bool} (h : aEv K C Hc b = true) : PySem.W.exmOne K (.ref C) (.ref Hc) = some b := of_decide_eq_true h
theorem Z7 {K : PySem.W.Frag} {fd : FuncData} {ps : List Str} (h : ∀ (s : Shared) (us : List Value), us.length = ps.length → BindsTo s fd ⟨us, []⟩ (ps.zip us)) : Binds K fd ps [] := fun s us _ hl => by
 rw [List.append_nil] at hl ⊢
 exact h s us hl
abbrev Ez : XK := fun _ _ _ => False
theorem aY.calm {α β : Type} {K : PySem.W.Frag} {I : List Addr} {F G : Hp} {E : XK} {R : List Addr → Hp → Hp → β → W → Prop} {r : Res α} {f : α → W → Res β} (p : aY K I F G E R ((Pc.calm r).bind f)) : aY K I F G Ez (fun I1 F1 _ x w1 => aY K I1 F1 G E R (f x w1)) r := by
 cases r with
 | ok a w => exact fun I' F' H' e rel => aY.ext p e
 | yE x w => exact False.elim p
 | bad => exact False.elim p
def aFg (X : Cx) : Prop := Top X ∧ X.ex = []
def aF6 (S : aR) (st : Stmt) (m : MS) : Prop := ∀ X E, Ctx S X → q8 X E → aFg X → PS X st (FU X.K E m)
def aE0 (S : aR) (st : List Stmt) (m : MS) : Prop := ∀ X E, Ctx S X → q8 X E → aFg X → PSs X st (FU X.K E m)
theorem JS.t3 {S : aR} {st : Stmt} {m : MS} (h : JS S st m) : aF6 S st m := fun X E cx xo _ => h X E cx xo
theorem rN.t3 {S : aR} {st : List Stmt} {m : MS} (h : rN S st m) : aE0 S st m := fun X E cx xo _ => h X E cx xo
theorem Rel.hold {K : PySem.W.Frag} {I : List Addr} {F G H : Hp} {w : W} {x : XD} {c : Value} {d : Option Addr} (rel : Rel K I F G w H) (rx : AY K I F H x c d) :
  ∃ G', Rel K I F G' w H ∧ (∀ I2 F2 w2 H2, Ext I F I2 F2 → Rel K I2 F2 G' w2 H2 → Rel K I2 F2 G w2 H2 ∧ AY K I2 F2 H2 x c d) := by
 obtain ⟨ec, hx⟩ := rx
 cases hf : x.fs with
 | none =>
  rw [hf] at hx
  exact ⟨G, rel, fun I2 F2 w2 H2 e r2 => ⟨r2, ec, by rw [hf]; exact hx⟩⟩
 | some fs =>
  rw [hf] at hx
  obtain ⟨a, r, e1, e2, e3⟩ := hx
  have fin : ∀ {I2 F2 H2}, Ext I F I2 F2 → H2 a = some (.xd r) → AY K I2 F2 H2 x c d := fun e h => ⟨ec, by rw [hf]; exact ⟨a, r, e1, h, aS.ext e _ _ e3⟩⟩
  have nI : a ∉ I := fun hm => by
   obtain ⟨i, hi⟩ := List.mem_iff_getElem?.mp hm
   have li : i < w.length := by rw [← rel.len]; exact (aj.mp hi).1
   obtain ⟨u, h1, h2⟩ := rel.ob i a w[i] hi (bq li)
   rw [e2] at h1
   cases h1
   cases hw : w[i] with
   | lst xs => rw [hw] at h2; obtain ⟨_, z, _⟩ := h2; cases z
   | dK xs => rw [hw] at h2; obtain ⟨_, z, _⟩ := h2; cases z
   | dT xs => rw [hw] at h2; obtain ⟨_, z, _⟩ := h2; cases z
   | dF xs => rw [hw] at h2; obtain ⟨_, _, z, _⟩ := h2; cases z
   | dG xs => rw [hw] at h2; obtain ⟨_, _, z, _⟩ := h2; cases z
   | ins C xs => rw [hw] at h2; obtain ⟨_, _, z, _⟩ := h2; cases z
  cases hF : F a with
  | some u =>
   have hu := rel.fz a u hF
   rw [e2] at hu
   cases hu
   exact ⟨G, rel, fun I2 F2 w2 H2 e r2 => ⟨r2, fin e (r2.fz a _ (e.f a _ hF))⟩⟩
  | none =>
   cases hG : G a with
   | some u =>
    have hu := rel.gz a u hG
    rw [e2] at hu
    cases hu
    exact ⟨G, rel, fun I2 F2 w2 H2 e r2 => ⟨r2, fin e (r2.gz a _ hG)⟩⟩
   | none =>
    refine ⟨L2.upd G a (.xd r), ⟨rel.len, rel.nd, rel.ob, rel.fz, rel.ap, fun b v hb => ?_, fun b v hb => ?_, fun b xs hb => ?_⟩, fun I2 F2 w2 H2 e r2 => ⟨r2.less hG, fin e (r2.gz a _ upd_same)⟩⟩
    ·by_cases q : b = a
     ·subst q
      rw [upd_same] at hb
      cases hb
      exact e2
     ·rw [upd_ne q] at hb
      exact rel.gz b v hb
    ·by_cases q : b = a
     ·subst q
      exact ⟨hF, nI⟩
     ·rw [upd_ne q] at hb
      exact rel.gf b v hb
    ·by_cases q : b = a
     ·subst q
      rw [upd_same] at hb
      cases hb
     ·rw [upd_ne q] at hb
      exact rel.gt b xs hb
end Pc
namespace L2
open PySem PySem.Spec PyProof.Rows
theorem item_at {its : List Value} {ns : List Int} (h : IntsAre its ns) {j : Nat} (hj : j < its.toArray.size) : ∃ t, its.toArray[j] = .int (ns.getD j 0) t := PyProof.Rows.IntsAre.int_at h _ _ (by rw [List.size_toArray] at hj; simp [hj])
end L2
namespace Pc
open PySem PySem.Spec PyProof.Rows L2
def aAS (K : PySem.W.Frag) : Prop := ∃ o, K.lookup sysModules = some o ∧ o.cls = .type "dict"
mutual
inductive Dq (K : PySem.W.Frag) (H : Hp) : V → PyData → Prop
 | non : Dq K H .non .none
 | bl (b : Bool) : Dq K H (.bl b) (.bool b)
 | int (i : Int) : Dq K H (.int i) (.int i)
 | str (x : Str) : Dq K H (.str x) (.str x)
 | lst {a : Addr} {xs : List V} {ds : List PyData} : SqL K H a xs → DqAll K H xs ds → Dq K H (.ref a) (.list ds)
 | tup {a : Addr} {xs : List V} {ds : List PyData} : SqT K H a xs → DqAll K H xs ds → Dq K H (.ref a) (.tuple ds)
 | emp {a : Addr} : (H a = some (.dK []) ∨ H a = some (.dT [])) → Dq K H (.ref a) (.dict [])
inductive DqAll (K : PySem.W.Frag) (H : Hp) : List V → List PyData → Prop
 | nil : DqAll K H [] []
 | cons {v : V} {vs : List V} {d : PyData} {ds : List PyData} : Dq K H v d → DqAll K H vs ds → DqAll K H (v :: vs) (d :: ds)
end
theorem aBt {P : Program} {w : World} {H : Hp} {h : Heap} {a : Addr} {o : HO} (x : ObjOk P w H h a o) (e : o = .dK [] ∨ o = .dT []) : (a == sysModules) = false ∧ ∃ ob es n, h.get? a = some ob ∧ ob.cls = .type "dict" ∧ ob.data = .dict es n ∧ es.toList = [] := by
 rcases e with rfl | rfl
 ·obtain ⟨_, ns, vs, kv, o, es, n, e1, e2, e3, e4, e5⟩ := x
  cases kv
  have e6 := e5.1
  refine ⟨ns, o, es, n, e1, e2.1, e3, ?_⟩
  generalize es.toList = l at e6
  cases l with
  | nil => rfl
  | cons x l => cases e6
 ·obtain ⟨_, ns, xs, pr, o, es, n, e1, e2, e3, e4, e5⟩ := x
  cases pr
  exact ⟨ns, o, es, n, e1, e2.1, e3, by rw [e4]; rfl⟩
section
variable {X : Cx} {pins : List (Addr × Obj)} {σ : L2.St} {H : Hp} {s : Shared}
mutual
theorem Dq.reads (hS : aAS X.K) (I : Inv X pins σ H s) : ∀ (d : PyData) (v : V) (u : Value), Dq X.K H v d → RelV v u → ∃ as, Reads s.heap u d as ∧ sysModules ∉ as
 | .none, _, _, h, r => by
  cases h
  cases r
  exact ⟨_, Reads.none, by simp⟩
 | .bool b, _, _, h, r => by
  cases h
  cases r
  exact ⟨_, Reads.bool b, by simp⟩
 | .int i, _, _, h, r => by
  cases h
  obtain ⟨t, rfl⟩ := r
  exact ⟨_, Reads.int i t, by simp⟩
 | .str x, _, _, h, r => by
  cases h
  obtain ⟨t, rfl⟩ := r
  exact ⟨_, Reads.str x t, by simp⟩
 | .list ds, _, _, h, r => by
  cases h with
  | lst hs ha =>
   cases r
   obtain ⟨its, rv, ⟨o, n, ho, hc, _, hd⟩, _⟩ := I.list hs
   obtain ⟨as, hr, ns⟩ := Dq.readsAll hS I ds _ its ha rv
   refine ⟨_, Reads.list ho hc hd hr, fun hm => ?_⟩
   rcases bh.mp hm with e | e
   ·obtain ⟨o2, h1, h2⟩ := hS
    have := I.kIn _ _ h1
    rw [e, ho] at this
    cases this
    rw [h2] at hc
    exact absurd (Value.type.inj hc) (by decide)
   ·exact ns e
 | .tuple ds, _, _, h, r => by
  cases h with
  | tup hs ha =>
   cases r
   obtain ⟨its, rv, ⟨o, ho, hc, n, hd⟩, _⟩ := I.tuple hs
   obtain ⟨as, hr, ns⟩ := Dq.readsAll hS I ds _ its ha rv
   exact ⟨_, Reads.tuple ho hc hd hr, ns⟩
 | .dict kvs, _, _, h, r => by
  cases h with
  | emp he =>
   cases r
   rename_i a
   have hx : ∃ o, H a = some o ∧ (o = .dK [] ∨ o = .dT []) := by
    rcases he with he | he
    ·exact ⟨_, he, .inl rfl⟩
    ·exact ⟨_, he, .inr rfl⟩
   obtain ⟨o, h1, h2⟩ := hx
   obtain ⟨ne, ob, es, n, e1, e2, e3, e4⟩ := aBt (I.hok a o h1) h2
   have r0 : ReadsAll s.heap (es.toList.map (·.key)) (([] : List (PyData × PyData)).map (·.1)) [] := by rw [e4]; exact .nil
   have r1 : ReadsAll s.heap (es.toList.map (·.val)) (([] : List (PyData × PyData)).map (·.2)) [] := by rw [e4]; exact .nil
   refine ⟨_, Reads.dict e1 e2 e3 r0 r1, fun hm => ?_⟩
   have : sysModules = a := by simpa using hm
   rw [← this] at ne
   simp at ne
theorem Dq.readsAll (hS : aAS X.K) (I : Inv X pins σ H s) : ∀ (ds : List PyData) (vs : List V) (us : List Value), DqAll X.K H vs ds → Vals vs us → ∃ as, ReadsAll s.heap us ds as ∧ sysModules ∉ as
 | [], _, _, h, r => by
  cases h
  cases r
  exact ⟨_, ReadsAll.nil, by simp⟩
 | d :: ds, _, _, h, r => by
  cases h with
  | cons h1 h2 =>
   cases r with
   | cons r1 r2 =>
    obtain ⟨as, q1, n1⟩ := Dq.reads hS I d _ _ h1 r1
    obtain ⟨bs, q2, n2⟩ := Dq.readsAll hS I ds _ _ h2 r2
    exact ⟨_, ReadsAll.cons q1 q2, fun hm => by
     rcases cf.mp hm with e | e
     ·exact n1 e
     ·exact n2 e⟩
end
end
section
variable {K : PySem.W.Frag} {I : List Addr} {F G H : Hp} {w : W}
mutual
theorem aC6 (rel : Rel K I F G w H) {f : Nat → Option PyData} (hf : ∀ i a p, I[i]? = some a → f i = some p → Dq K H (.ref a) p) : ∀ (d : D) (v : V) (p : PyData), aF K I F d v → d.gD f = some p → Dq K H v p
 | .non, v, p, h, e => by simp only [aF] at h; simp only [D.gD, ai] at e; subst h; subst e; exact .non
 | .bl b, v, p, h, e => by simp only [aF] at h; simp only [D.gD, ai] at e; subst h; subst e; exact .bl b
 | .int i, v, p, h, e => by simp only [aF] at h; simp only [D.gD, ai] at e; subst h; subst e; exact .int i
 | .str x, v, p, h, e => by simp only [aF] at h; simp only [D.gD, ai] at e; subst h; subst e; exact .str x
 | .ty _, v, p, h, e => by simp [D.gD] at e
 | .con _, v, p, h, e => by simp [D.gD] at e
 | .GX _ _, v, p, h, e => by simp [D.gD] at e
 | .tup xs, v, p, h, e => by
  simp only [aF] at h
  obtain ⟨a, vs, rfl, h2, h3⟩ := h
  simp only [D.gD, ao] at e
  obtain ⟨ps, e1, rfl⟩ := e
  exact .tup (.of (rel.fz _ _ h2)) (dq_pysR rel hf xs vs ps h3 e1)
 | .jL xs, v, p, h, e => by
  simp only [aF] at h
  obtain ⟨a, vs, rfl, h2, h3⟩ := h
  simp only [D.gD, ao] at e
  obtain ⟨ps, e1, rfl⟩ := e
  exact .tup (rel.LW h2) (dq_pysR rel hf xs vs ps h3 e1)
 | .lst xs, v, p, h, e => by
  simp only [aF] at h
  obtain ⟨a, vs, rfl, h2, h3⟩ := h
  simp only [D.gD, ao] at e
  obtain ⟨ps, e1, rfl⟩ := e
  exact .lst (.of (rel.fz _ _ h2)) (dq_pysR rel hf xs vs ps h3 e1)
 | .qF xs, v, p, h, e => by
  simp only [aF] at h
  obtain ⟨a, vs, rfl, h2, h3⟩ := h
  simp only [D.gD, ao] at e
  obtain ⟨ps, e1, rfl⟩ := e
  exact .lst (rel.U5 h2) (dq_pysR rel hf xs vs ps h3 e1)
 | .ref i, v, p, h, e => by
  simp only [aF] at h
  obtain ⟨a, rfl, h2⟩ := h
  simp only [D.gD] at e
  exact hf i a p h2 e
theorem dq_pysR (rel : Rel K I F G w H) {f : Nat → Option PyData} (hf : ∀ i a p, I[i]? = some a → f i = some p → Dq K H (.ref a) p) : ∀ (ds : List D) (vs : List V) (ps : List PyData), RepL K I F ds vs → D.pysR f ds = some ps → DqAll K H vs ps
 | [], vs, ps, h, e => by simp only [RepL] at h; simp only [D.pysR, ai] at e; subst h; subst e; exact .nil
 | d :: ds, vs, ps, h, e => by
  simp only [RepL] at h
  obtain ⟨v, r, rfl, h2, h3⟩ := h
  simp only [D.pysR] at e
  split at e
  ·rename_i p ps' e1 e2
   cases e
   exact .cons (aC6 rel hf d v p h2 e1) (dq_pysR rel hf ds r ps' h3 e2)
  ·cases e
end
end
def rE : MF := fun ds w => match ds with
 | [.int i] => if i.natAbs.log2 < 1920 then .ok (.str (toString i)) w else .bad
 | [.str a] => .ok (.str a) w
 | _ => .bad
theorem AD {S : aR} : CB S (.type "str") rE := wK fun X E c xo I F G ds w H vs Q rel rl p => by
 unfold rE at p
 split at p
 ·rename_i i
  obtain ⟨v, rfl, rv⟩ := rl.one
  simp only [aF] at rv
  subst rv
  split at p
  ·rename_i hi
   exact ⟨_, call_str_int, i, rfl, hi, p.mM rel (by simp [aF])⟩
  ·exact p.elim
 ·rename_i a
  obtain ⟨v, rfl, rv⟩ := rl.one
  simp only [aF] at rv
  subst rv
  exact ⟨_, SkE.call_str_str, a, rfl, p.mM rel (by simp [aF])⟩
 ·exact p.elim
def BJ : List D → Option (List PyData)
 | [] => some []
 | .int i :: ds => (BJ ds).map fun ps => .int i :: ps
 | .str x :: ds => (BJ ds).map fun ps => .str x :: ps
 | _ :: _ => none
mutual
def D.US (f : Nat → Option PyData) : D → Option PyData
 | .non => some .none
 | .bl b => some (.bool b)
 | .int i => some (.int i)
 | .str x => some (.str x)
 | .ty _ => none
 | .con _ => none
 | .tup xs => (D.pysV f xs).map .tuple
 | .jL xs => (D.pysV f xs).map .tuple
 | .lst xs => (D.pysV f xs).map .list
 | .qF xs => (D.pysV f xs).map .list
 | .GX ks vs => (match BJ ks, D.pysV f vs with
  | some kp, some vp => if kp.length = vp.length then some (.dict (kp.zip vp)) else none
  | _, _ => none)
 | .ref i => f i
def D.pysV (f : Nat → Option PyData) : List D → Option (List PyData)
 | [] => some []
 | d :: ds => match D.US f d, D.pysV f ds with
  | some p, some ps => some (p :: ps)
  | _, _ => none
end
theorem Q9 {d : D} {ds : List D} {kp : List PyData} (h : BJ (d :: ds) = some kp) : ∃ p ps, kp = p :: ps ∧ BJ ds = some ps ∧ ((∃ i, d = .int i ∧ p = .int i) ∨ ∃ x, d = .str x ∧ p = .str x) := by
 cases d <;> simp only [BJ, ao, reduceCtorEq] at h
 ·obtain ⟨ps, h1, rfl⟩ := h
  exact ⟨_, ps, rfl, h1, .inl ⟨_, rfl, rfl⟩⟩
 ·obtain ⟨ps, h1, rfl⟩ := h
  exact ⟨_, ps, rfl, h1, .inr ⟨_, rfl, rfl⟩⟩
theorem BI {h : Heap} {P : Program} {w : World} {K : PySem.W.Frag} {I : List Addr} {F : Hp} : ∀ {ks : List D} {kp : List PyData} {kvs : List (Key × V)} {kvs2 : List (Key × Value)} {es : List DictEntry}, BJ ks = some kp → RepL K I F ks (kvs.map fun p => kV p.1) → KV kvs kvs2 → Pairs (mixKind P w) es kvs2 → ReadsAll h (es.map (·.key)) kp []
 | [], kp, kvs, kvs2, es, e, r, kv, ps => by
  simp only [BJ, ai] at e
  subst e
  simp only [RepL, List.map_eq_nil_iff] at r
  subst r
  cases kv
  cases ps
  exact .nil
 | d :: ds, kp, kvs, kvs2, es, e, r, kv, ps => by
  obtain ⟨p, pp, rfl, e2, e3⟩ := Q9 e
  cases kvs with
  | nil => simp only [List.map_nil, RepL] at r; obtain ⟨_, _, z, _⟩ := r; cases z
  | cons kv1 kvs =>
   simp only [List.map_cons, RepL] at r
   obtain ⟨v, t, z, r1, r2⟩ := r
   cases z
   cases kv with
   | cons k1 k2 =>
    cases ps with
    | @cons en kv0 es0 kvs0 p1 p2 p3 =>
     have ih := BI (h := h) e2 r2 k2 p3
     have hp : Reads h en.key p [] := by
      obtain ⟨q1, q2⟩ := k1
      obtain ⟨k, v0⟩ := kv1
      simp only at q1
      subst q1
      rcases keyIs_shape p1 with ⟨i, t, e5, e6⟩ | ⟨x, t, e5, e6⟩
      ·rw [e6]
       simp only [e5] at r1
       rcases e3 with ⟨j, rfl, rfl⟩ | ⟨x, rfl, rfl⟩
       ·simp only [aF, kV, V.int.injEq] at r1
        subst r1
        exact Reads.int _ t
       ·simp [aF, kV] at r1
      ·rw [e6]
       simp only [e5] at r1
       rcases e3 with ⟨j, rfl, rfl⟩ | ⟨y, rfl, rfl⟩
       ·simp [aF, kV] at r1
       ·simp only [aF, kV, V.str.injEq] at r1
        subst r1
        exact Reads.str _ t
     exact ReadsAll.cons (as := []) (bs := []) hp ih
theorem UI {P : Program} {w : World} : ∀ {kvs : List (Key × V)} {kvs2 : List (Key × Value)} {es : List DictEntry}, KV kvs kvs2 → Pairs (mixKind P w) es kvs2 → Vals (kvs.map fun p => p.2) (es.map (·.val))
 | [], _, _, kv, ps => by
  cases kv
  cases ps
  exact .nil
 | p :: kvs, _, _, kv, ps => by
  cases kv with
  | cons k1 k2 =>
   cases ps with
   | cons p1 p2 p3 =>
    exact .cons (by show L2.RelV p.2 (DictEntry.val _); rw [p2]; exact k1.2) (UI k2 p3)
section
variable {X : Cx} {pins : List (Addr × Obj)} {σ : L2.St} {H : Hp} {s : Shared} {I : List Addr} {F G : Hp} {w : W}
mutual
theorem VS (hS : aAS X.K) (J : Inv X pins σ H s) (rel : Rel X.K I F G w H) {f : Nat → Option PyData} (hf : ∀ i a p, I[i]? = some a → f i = some p → ∃ as, Reads s.heap (.ref a) p as ∧ sysModules ∉ as) : ∀ (d : D) (v : V) (u : Value) (p : PyData), aF X.K I F d v → RelV v u → d.US f = some p → ∃ as, Reads s.heap u p as ∧ sysModules ∉ as
 | .non, v, u, p, h, r, e => by
  simp only [aF] at h
  simp only [D.US, ai] at e
  subst h e
  cases r
  exact ⟨_, Reads.none, by simp⟩
 | .bl b, v, u, p, h, r, e => by
  simp only [aF] at h
  simp only [D.US, ai] at e
  subst h e
  cases r
  exact ⟨_, Reads.bool b, by simp⟩
 | .int i, v, u, p, h, r, e => by
  simp only [aF] at h
  simp only [D.US, ai] at e
  subst h e
  obtain ⟨t, rfl⟩ := r
  exact ⟨_, Reads.int i t, by simp⟩
 | .str x, v, u, p, h, r, e => by
  simp only [aF] at h
  simp only [D.US, ai] at e
  subst h e
  obtain ⟨t, rfl⟩ := r
  exact ⟨_, Reads.str x t, by simp⟩
 | .ty _, v, u, p, h, r, e => by simp [D.US] at e
 | .con _, v, u, p, h, r, e => by simp [D.US] at e
 | .tup xs, v, u, p, h, r, e => by
  simp only [aF] at h
  obtain ⟨a, vs, rfl, h2, h3⟩ := h
  simp only [D.US, ao] at e
  obtain ⟨ps, e1, rfl⟩ := e
  cases r
  obtain ⟨its, rv, ⟨o, ho, hc, n, hd⟩, _⟩ := J.tuple (show SqT X.K H a vs from .of (rel.fz _ _ h2))
  obtain ⟨as, hr, ns⟩ := pysV_reads hS J rel hf xs vs its ps h3 rv e1
  exact ⟨_, Reads.tuple ho hc hd hr, ns⟩
 | .jL xs, v, u, p, h, r, e => by
  simp only [aF] at h
  obtain ⟨a, vs, rfl, h2, h3⟩ := h
  simp only [D.US, ao] at e
  obtain ⟨ps, e1, rfl⟩ := e
  cases r
  obtain ⟨its, rv, ⟨o, ho, hc, n, hd⟩, _⟩ := J.tuple (rel.LW h2)
  obtain ⟨as, hr, ns⟩ := pysV_reads hS J rel hf xs vs its ps h3 rv e1
  exact ⟨_, Reads.tuple ho hc hd hr, ns⟩
 | .lst xs, v, u, p, h, r, e => by
  simp only [aF] at h
  obtain ⟨a, vs, rfl, h2, h3⟩ := h
  simp only [D.US, ao] at e
  obtain ⟨ps, e1, rfl⟩ := e
  cases r
  obtain ⟨its, rv, ⟨o, n, ho, hc, _, hd⟩, _⟩ := J.list (show SqL X.K H a vs from .of (rel.fz _ _ h2))
  obtain ⟨as, hr, ns⟩ := pysV_reads hS J rel hf xs vs its ps h3 rv e1
  refine ⟨_, Reads.list ho hc hd hr, fun hm => ?_⟩
  rcases bh.mp hm with e | e
  ·obtain ⟨o2, h1, h2⟩ := hS
   have := J.kIn _ _ h1
   rw [e, ho] at this
   cases this
   rw [h2] at hc
   exact absurd (Value.type.inj hc) (by decide)
  ·exact ns e
 | .qF xs, v, u, p, h, r, e => by
  simp only [aF] at h
  obtain ⟨a, vs, rfl, h2, h3⟩ := h
  simp only [D.US, ao] at e
  obtain ⟨ps, e1, rfl⟩ := e
  cases r
  obtain ⟨its, rv, ⟨o, n, ho, hc, _, hd⟩, _⟩ := J.list (rel.U5 h2)
  obtain ⟨as, hr, ns⟩ := pysV_reads hS J rel hf xs vs its ps h3 rv e1
  refine ⟨_, Reads.list ho hc hd hr, fun hm => ?_⟩
  rcases bh.mp hm with e | e
  ·obtain ⟨o2, h1, h2⟩ := hS
   have := J.kIn _ _ h1
   rw [e, ho] at this
   cases this
   rw [h2] at hc
   exact absurd (Value.type.inj hc) (by decide)
  ·exact ns e
 | .GX ks xs, v, u, p, h, r, e => by
  simp only [aF] at h
  obtain ⟨a, kvs, rfl, h2, h3, h4⟩ := h
  simp only [D.US] at e
  split at e
  ·rename_i kp vp e1 e2
   split at e
   ·rename_i el
    cases e
    cases r
    have hx : ∃ u, H a = some u ∧ (u = .dK kvs ∨ ∃ o, u = .frz o (.dK kvs)) := by
     rcases h2 with h2 | ⟨o, h2⟩
     ·exact ⟨_, rel.fz _ _ h2, .inl rfl⟩
     ·exact ⟨_, rel.fz _ _ h2, .inr ⟨o, rfl⟩⟩
    obtain ⟨u, h5, h6⟩ := hx
    have ok := J.hok a u h5
    have ok2 : ObjOk X.prog X.w H s.heap a (.dK kvs) := by
     rcases h6 with rfl | ⟨o, rfl⟩
     ·exact ok
     ·exact ok.2
    obtain ⟨_, ns, kv2, kv, o, es, n, q1, q2, q3, q4, q5, q6⟩ := ok2
    have rk := BI (h := s.heap) e1 h3 kv q5
    have hv : Vals (kvs.map fun p => p.2) (es.toList.map (·.val)) := UI kv q5
    obtain ⟨as, hr, ns2⟩ := pysV_reads hS J rel hf xs _ _ vp h4 hv e2
    have f1 : ((kp.zip vp).map fun p => p.1) = kp := by
     rw [List.map_fst_zip]
     omega
    have f2 : ((kp.zip vp).map fun p => p.2) = vp := by
     rw [List.map_snd_zip]
     omega
    refine ⟨_, Reads.dict (kvs := kp.zip vp) q1 q2.1 q3 (by rw [f1]; exact rk) (by rw [f2]; exact hr), fun hm => ?_⟩
    simp only [List.append_nil, List.cons_append, bh] at hm
    rcases hm with e | e
    ·rw [← e] at ns
     simp at ns
    ·exact ns2 e
   ·cases e
  ·cases e
 | .ref i, v, u, p, h, r, e => by
  simp only [aF] at h
  obtain ⟨a, rfl, h2⟩ := h
  simp only [D.US] at e
  cases r
  exact hf i a p h2 e
theorem pysV_reads (hS : aAS X.K) (J : Inv X pins σ H s) (rel : Rel X.K I F G w H) {f : Nat → Option PyData} (hf : ∀ i a p, I[i]? = some a → f i = some p → ∃ as, Reads s.heap (.ref a) p as ∧ sysModules ∉ as) : ∀ (ds : List D) (vs : List V) (us : List Value) (ps : List PyData), RepL X.K I F ds vs → Vals vs us → D.pysV f ds = some ps → ∃ as, ReadsAll s.heap us ps as ∧ sysModules ∉ as
 | [], vs, us, ps, h, r, e => by
  simp only [RepL] at h
  simp only [D.pysV, ai] at e
  subst h e
  cases r
  exact ⟨_, ReadsAll.nil, by simp⟩
 | d :: ds, vs, us, ps, h, r, e => by
  simp only [RepL] at h
  obtain ⟨v, t, rfl, h2, h3⟩ := h
  simp only [D.pysV] at e
  split at e
  ·rename_i p ps' e1 e2
   cases e
   cases r with
   | cons r1 r2 =>
    obtain ⟨as, q1, n1⟩ := VS hS J rel hf d v _ p h2 r1 e1
    obtain ⟨bs, q2, n2⟩ := pysV_reads hS J rel hf ds t _ ps' h3 r2 e2
    exact ⟨_, ReadsAll.cons q1 q2, fun hm => by
     rcases cf.mp hm with e | e
     ·exact n1 e
     ·exact n2 e⟩
  ·cases e
end
end
def zT : List D → Option (List Str)
 | [] => some []
 | .str x :: ds => (zT ds).map fun xs => x :: xs
 | _ :: _ => none
theorem IE {K : PySem.W.Frag} {I : List Addr} {F : Hp} : ∀ {ds : List D} {vs : List V} {ys : List Str}, RepL K I F ds vs → zT ds = some ys → vs = ys.map V.str
 | [], vs, ys, r, e => by
  simp only [zT, ai] at e
  subst e
  simp only [RepL] at r
  exact r
 | d :: ds, vs, ys, r, e => by
  cases d <;> simp only [zT, ao, reduceCtorEq] at e
  rename_i x
  obtain ⟨xs, e1, rfl⟩ := e
  simp only [RepL, aF] at r
  obtain ⟨v, t, rfl, rfl, r2⟩ := r
  rw [List.map_cons, IE r2 e1]
theorem OA {K : PySem.W.Frag} {I : List Addr} {F : Hp} : ∀ ys : List Str, RepL K I F (ys.map D.str) (ys.map V.str)
 | [] => by simp [RepL]
 | y :: ys => RepL.cons (by simp [aF]) (OA ys)
def joinM : TC := fun d ds w => match d, ds with
 | .str a, [y] => (match (y.items w).bind zT with
  | some ys => if (ys.map (·.length)).sum + ys.length * a.length ≤ 16777216 then .ok (.str (Txt.join a ys)) w else .bad
  | none => .bad)
 | _, _ => .bad
theorem j0 {S : aR} : MB S "str.join" joinM := IB fun X E c xo I F G d ds w H x vs Q rel rd rl p => by
 unfold joinM at p
 split at p
 ·rename_i a y
  simp only [aF] at rd
  subst rd
  obtain ⟨v, rfl, rv⟩ := rl.one
  split at p
  ·rename_i ys hy
   obtain ⟨xs, h1, h2⟩ := cu.mp hy
   obtain ⟨b, us, rfl, h3, h4⟩ := EO rel rv h1
   obtain rfl := IE h4 h2
   split at p
   ·rename_i hz
    exact ⟨_, mt_join, a, b, ys, rfl, rfl, h3, hz, p.mM rel (by simp [aF])⟩
   ·exact p.elim
  ·exact p.elim
 ·exact p.elim
def splitM : TC := fun d ds w => match d, ds with
 | .str a, [.str b] => if (b.length == 0) = false ∧ a.length + 2 ≤ sizeLine then .ok (.lst ((Txt.split a b).map D.str)) w else .bad
 | _, _ => .bad
theorem GJ {S : aR} : MB S "str.split" splitM := IB fun X E c xo I F G d ds w H x vs Q rel rd rl p => by
 unfold splitM at p
 split at p
 ·rename_i a b
  simp only [aF] at rd
  subst rd
  obtain ⟨v, rfl, rv⟩ := rl.one
  simp only [aF] at rv
  subst rv
  split at p
  ·rename_i hz
   exact ⟨_, mt_split, a, b, rfl, rfl, hz.1, hz.2, nA rel (OA _) p⟩
  ·exact p.elim
 ·exact p.elim
def HW : MF := fun ds w => match ds with
 | [.str a] => (match PySem.intText? a with
  | some n => if a.length ≤ 640 then .ok (.int n) w else .bad
  | none => .bad)
 | _ => .bad
theorem aBr {S : aR} : CB S (.type "int") HW := wK fun X E c xo I F G ds w H vs Q rel rl p => by
 unfold HW at p
 split at p
 ·rename_i a
  obtain ⟨v, rfl, rv⟩ := rl.one
  simp only [aF] at rv
  subst rv
  split at p
  ·rename_i n hn
   split at p
   ·rename_i hz
    exact ⟨_, call_int_str, a, n, rfl, hn, hz, p.mM rel (by simp [aF])⟩
   ·exact p.elim
  ·exact p.elim
 ·exact p.elim
def aBo (x y : D) (w : W) : Res D := match x, y with
 | .str c, .str z => (match c.cps.toList with
  | [n] => .ok (.bl (decide (n ∈ z.cps.toList))) w
  | _ => .bad)
 | _, _ => .bad
theorem aEm {S : aR} : O2 S (compareOp .In) aBo := hV fun X E c xo I F G d e w H x y Q rel rd re p => by
 unfold aBo at p
 split at p
 ·rename_i a z
  simp only [aF] at rd re
  subst rd re
  split at p
  ·rename_i n hn
   have ea : a = ⟨#[n]⟩ := by
    cases a with
    | mk cs =>
     congr
     exact Array.toList_inj.mp (by simpa using hn)
   exact ⟨_, op_in_sign, n, z, by rw [ea], rfl, p.mM rel (by simp [aF])⟩
  ·exact p.elim
 ·exact p.elim
def nW (x : Str) : List D := x.cps.toList.map fun c => D.str ⟨#[c]⟩
def aAm (d : D) (w : W) : Res mG := match d with
 | .str x => .ok ⟨nW x, always⟩ w
 | _ => .bad
def aBX (m : ME) : MI := fun σ w => (m σ w).bind aAm
theorem aD0 {K : PySem.W.Frag} {I : List Addr} {F : Hp} {it : mG} {x : Str} (hx : it.xs = nW x) : AZ K I F (Its x) it := fun I' F' G w H j e rel ok => by
 refine ⟨fun y h => ?_, fun hl => ?_⟩
 ·rw [hx, nW, bt] at h
  obtain ⟨c, hc, rfl⟩ := ao.mp h
  rw [Array.getElem?_toList] at hc
  refine ⟨(Array.getElem?_eq_some_iff.mp hc).1, fun v H' y => ?_⟩
  obtain ⟨rfl, c', hc', rfl⟩ := y
  rw [hc] at hc'
  cases hc'
  exact ⟨F', .refl, rel, by simp [aF]⟩
 ·rw [hx, nW, ak, Array.length_toList] at hl
  show x.cps.size ≤ j
  omega
theorem aCW {S : aR} {tg l : Expr} {m : ME} (hl : JE S l m) : JI S tg l (aBX m) := fun X E cx xo =>
 rL (pi_str (hl X E cx xo)) fun σ H R ⟨I, F, G, ds, w, rel, rs, p⟩ => bO (f := fun _ => aAm) rel rs p fun I1 F1 H1 d w1 v e1 rel1 rs1 rv p1 => by
  unfold aAm at p1
  split at p1
  ·rename_i x
   simp only [aF] at rv
   subst rv
   exact ⟨x, rfl, p1 I1 F1 H1 .refl rel1 trivial _ (aD0 rfl)⟩
  ·exact p1.elim
section
variable {S : aR} {k n : Nat} {f C : Addr} {fd : FuncData} {ps : List Str} {m : MF} {gd : List D → List D → List D} {x : Str} {p pos : Pos}
theorem ZF (hk : k + 1 ≤ S.k) (M : Mk S.K C f) (Gf : fV S.P S.w S.K S.mg S.base k f fd ps m) (B : cO S.K fd ps 1 [] gd) (hg : S.sc.names.lookup x = some .globalImplicit) (hm : S.mg x = some (.ref C))
  (hdb : (x == ("__debug__" : Str)) = false := by decide) : JE S (.Call (.Name x p) [] [] pos) (OM C m 0 gd aD) := fun X E cx xo => by
 refine ⟨fun pins s σ H Q J ⟨I, F, G, ds, w, rel, rs, p⟩ => ?_⟩
 refine wpAny_Call_Name_kw (ld_glob J (by show X.env.scope.names.lookup x = _; rw [cx.sc]; exact hg) (by rw [cx.mg]; exact hm) ?_ hdb)
 have p1 : aY X.K I F G E (RV X.K Q) (qG m C (fun s => gd (s ++ []) []) w) := p
 refine PySem.W.callWith_K0 J.kIn (by rw [cx.K]; exact M.kp) ?_
 have Gf' : fV X.prog X.w X.K X.mg X.base k f fd ps m := by rw [cx.P, cx.w, cx.K, cx.mg, cx.base]; exact Gf
 have B' : cO X.K fd ps (0 + 1) [] gd := by rw [cx.K]; exact B
 have M' : Mk X.K C f := by rw [cx.K]; exact M
 exact run_mk (ks := []) (ws := []) (zs := []) (ys := []) (us := []) (vs := []) (xs := []) M' xo Gf' B' (cx.room.mono hk) cx.WC J rel (by simp [RepL]) (by simp [RepL]) .nil .nil rfl rfl p1
end
def NR (nm : MF) (C : Addr) (m : MF) : MF := fun ds w => match ds with
 | [.ref i] => (match w[i]? with
  | some (.ins C' _) => if C' = C then (m [.ref i] w).bind fun d w1 => (match d with
    | .str z => .ok (.str z) w1
    | _ => .bad) else .bad
  | _ => nm [.ref i] w)
 | _ => nm ds w
section
variable {S : aR} {k n : Nat} {f C : Addr} {fd : FuncData} {ps : List Str} {m : MF}
theorem aBR {X : Cx} {E : XK} {pins : List (Addr × Obj)} {σ : L2.St} {H : Hp} {s : Shared} {Q : VK} {A' : Around} (xo : q8 X E) (Gf : fV X.prog X.w X.K X.mg X.base k f fd ps m) (B : cO X.K fd ps 1 [] aP) (room : Room k A') (WC : A'.guards = some []) (env : Env0 X.prog X.w X.K X.mg X.base A' X.stack s H) (J : Inv X pins σ H s) {I : List Addr} {F G : Hp} {w : W} (rel : Rel X.K I F G w H) {i : Nat} {a : Addr} (rl : RepL X.K I F [.ref i] [.ref a])
  (p : aY X.K I F G E (RV X.K Q) ((m [.ref i] w).bind fun d w1 => match d with
    | .str z => .ok (.str z) w1
    | _ => .bad)) : wpAny (model X.prog X.w) A' (call (.ref f) [.ref a]) (PySem.W.StrBack (EP X pins σ Q)) X.xe s := by
 obtain ⟨⟨g, gV, kb, rep⟩, bl⟩ := B
 have r1 : Vals [V.ref a] [Value.ref a] := .cons rfl .nil
 have r2 := kb.rel r1 (.nil : Vals [] [])
 have r3 := rep I F [.ref i] [.ref a] [] [] rl (by simp [RepL])
 have hl : (gV [V.ref a] []).length = ps.length := by
  rw [← r3.length]
  exact bl [.ref i] [] rfl rfl
 have pp : aY X.K I F G E (RV X.K fun v H2 => ∃ z : Str, v = .str z ∧ Q (.str z) H2) (m (aP [.ref i] []) w) := by
  refine (aY.bind p).mono fun I1 F1 H1 d w1 _ e1 rel1 p1 v rv => ?_
  cases d <;> first | exact p1.elim | skip
  rename_i z hh
  simp only [aF] at rv
  subst rv
  exact ⟨z, rfl, p1.mM rel1 (by simp [aF])⟩
 have run : wpAny (model X.prog X.w) A' (call (.ref f) [.ref a]) (EP X pins σ fun v H2 => ∃ z : Str, v = .str z ∧ Q (.str z) H2) X.xe s := by
  refine wpAny_call (codeAny_mono (Gf.run A' X.stack s H ⟨[.ref a], []⟩ (g [.ref a] []) (gV [.ref a] []) _ E room WC env (kb.to s [.ref a] [] J.kIn rfl rfl) r2 hl ⟨I, F, G, _, w, rel, r3, pp⟩) fun fl s' hq => ?_)
  cases fl with
  | error e => exact passes_call xo.tk (fun _ _ _ _ h => h) pins σ H s e s' J hq
  | ok fl =>
   cases fl with
   | ret u => exact J.after hq
   | next => exact hq.elim
   | brk => exact hq.elim
   | cont => exact hq.elim
 refine wpAny_mono run (fun u s1 hq => ?_) fun _ _ y => y
 obtain ⟨v, H2, J2, rv2, z, rfl, q⟩ := hq
 obtain ⟨t, rfl⟩ : ∃ t, u = Value.str z t := rv2
 exact ⟨.str z, H2, J2, ⟨t, rfl⟩, q⟩
theorem UD (hk : k + 2 ≤ S.k) (hs : Meth S.K C "__str__" f) (Gf : fV S.P S.w S.K S.mg S.base k f fd ps m) (B : cO S.K fd ps 1 [] aP) : CB S (.type "str") (NR rE C m) :=
 fun X E cx xo pins s σ H vs us Q J r ⟨I, F, G, ds, w, rel, rl, p⟩ => by
  have old : ∀ {ds : List D}, RepL X.K I F ds vs → aY X.K I F G E (RV X.K Q) (rE ds w) → wpAny (model X.prog X.w) X.A (call (.type "str") us) (EP X pins σ Q) X.xe s := fun rl p => (AD (S := S)) X E cx xo pins s σ H vs us Q J r ⟨I, F, G, _, w, rel, rl, p⟩
  unfold NR at p
  split at p
  ·rename_i i
   split at p
   ·rename_i C' fs hw
    split at p
    ·rename_i hC
     subst hC
     obtain ⟨v, rfl, rv⟩ := rl.one
     obtain ⟨u, rfl, ru⟩ := vals1 r
     have rv0 := rv
     simp only [aF] at rv
     obtain ⟨a, rfl, hi⟩ := rv
     obtain rfl : u = Value.ref a := ru
     obtain ⟨ob, hu, dx, rr, rfl, hr⟩ := rel.ob i a _ hi hw
     obtain ⟨mA, O, _, _, _, _⟩ := ins_get J.hok hu
     obtain ⟨od, IA, _⟩ := O.look
     have Gf' : fV X.prog X.w X.K X.mg X.base k f fd ps m := by rw [cx.P, cx.w, cx.K, cx.mg, cx.base]; exact Gf
     have hs' : Meth X.K C' "__str__" f := by rw [cx.K]; exact hs
     have B' : cO X.K fd ps 1 [] aP := by rw [cx.K]; exact B
     have room : Room k X.A.in1.in1 := (cx.room.mono hk).in1.in1
     exact PySem.W.kso_call (by have := (cx.room.mono hk).in1.in1.units0; exact this) J.kIn IA hs'.at_ hs'.fn (aBR xo Gf' B' room cx.WC J.env0.in1.in1 J rel rl p)
    ·exact p.elim
   ·exact old rl p
  ·exact old rl p
end
end Pc
namespace L2
open PySem PySem.Spec PyProof.Rows
section
variable {prog : Program} {w : World} {A : Around} {E : Value → Shared → Prop} {s : Shared}
theorem JX (hh : A.handled = none) (I ax : Addr) (hne : ax ≠ I) (items : Array Value) (i0 : Nat) (h0 : i0 ≤ items.size) :
  Walks prog w A I [I, ax] [I] (items.size - i0) (fun i v => items[i0 + i]? = some v) (fun i h => h.IsListIter I ax (i0 + i) ∧ h.IsList ax items) where
 sub := fun b hb => by simp at hb; simp [hb]
 frame := fun _ _ _ st hk => ⟨st.1.at fun o e => hk I (by simp) o e, st.2.at fun o e => hk ax (by simp) o e⟩
 item := fun i s Q E hi st hQ => by
  refine wpAny_pyNext_list_item st.1 st.2 (x := items[i0 + i]'(by omega)) (by rw [Array.getElem?_eq_getElem]) fun h' hit' hs' => ?_
  exact hQ _ h' s.toks (by rw [Array.getElem?_eq_getElem]) ⟨hit', st.2.extBut hs'.extBut hne⟩ fun b o hb e => hs'.extBut b o (fun h => hb (by simp [h])) e
 done := fun s Q E st hQ => wpAny_pyNext_list_end hh st.1 st.2 (by simp; omega) fun h' he' => hQ h' s.toks fun b o hb e => he' b o (fun h => hb (by simp [h])) e
 self := fun _ _ _ _ st hQ => wpAny_pyIter_listiter st.1 hQ
theorem PN {it t : Addr} {items : Array Value} (hne : t ≠ it) : ∀ (n i : Nat) (s : Shared) (Q : List Value → Shared → Prop), s.heap.IsListIter it t i → s.heap.IsList t items → i + n ≤ items.size →
  (∀ h' : Heap, h'.IsListIter it t (i + n) → Heap.SameBut it s.heap h' → Q ((items.toList.drop i).take n) { s with heap := h' }) → wpAny (model prog w) A (draw (.ref it) n) Q E s
 | 0, i, s, Q, hit, _, _, hQ => by
  show wpAny _ _ (pure []) Q E s
  exact wpAny_pure (by simpa using hQ s.heap hit (Heap.SameBut.refl ..))
 | n + 1, i, s, Q, hit, ht, hle, hQ => by
  have hlt : i < items.size := by omega
  show wpAny _ _ (pyNext (.ref it) >>= _) Q E s
  refine wpAny_bind (wpAny_pyNext_list_item hit ht (x := items[i]) (by simp [hlt]) fun h₁ hit₁ hs₁ => ?_)
  refine wpAny_bind (wpAny_holding (PN hne n (i + 1) _ _ hit₁ (ht.extBut hs₁.extBut hne) (by omega) fun h₂ hit₂ hs₂ => wpAny_pure ?_))
  have hd : items.toList.drop i = items[i] :: items.toList.drop (i + 1) := by simp [List.drop_eq_getElem_cons, hlt]
  have := hQ h₂ (by rw [show i + (n + 1) = i + 1 + n by omega]; exact hit₂) (hs₁.trans hs₂)
  rw [hd, List.take_succ_cons] at this
  exact this
theorem D6 {t : Addr} {items : Array Value} {n : Nat} {Q : List Value → Shared → Prop} (hh : A.handled = none) (ht : s.heap.IsList t items) (hn : n ≤ items.size) (hz : items.size ≤ sizeLine)
  (hQ : ∀ (h' : Heap) (tk : Nat), (∀ b o, s.heap.get? b = some o → h'.get? b = some o) → Q (items.toList.take n ++ [.ref h'.objs.size]) { s with heap := h'.push { cls := .type "list", data := .seq (items.toList.drop n).toArray }, toks := tk }) :
  wpAny (model prog w) A (unpackItems (.ref t) (n + 1) (some n)) Q E s := by
 have hlt : t ≠ s.heap.objs.size := by obtain ⟨o, ho, _⟩ := ht; exact Nat.ne_of_lt (Heap.lt_size ho)
 have hltt : t < s.heap.objs.size := by obtain ⟨o, ho, _⟩ := ht; exact Heap.lt_size ho
 unfold unpackItems
 refine wpAny_bind ?_
 unfold notIterableAtAll
 refine wpAny_bind (wpAny_specialOf ht.typeIs slot_list_iter.lookup ?_)
 refine wpAny_pure ?_
 simp only [bj, ae]
 refine wpAny_bind (wpAny_holding (wpAny_pyIter_list ht ?_))
 refine wpAny_bind (wpAny_holding (PN hlt n 0 _ _ ⟨_, Heap.get?_push_size _ rfl, rfl, rfl⟩ (ht.push _) (by omega) fun h₁ hit₁ hs₁ => ?_))
 have hl : (List.take n (List.drop 0 items.toList)).length = n := by simp; omega
 rw [if_neg (by rw [hl]; omega)]
 have ht₁ : h₁.IsList t items := (ht.push _).extBut hs₁.extBut hlt
 rw [Nat.zero_add] at hit₁
 have hk1 : ∀ b o, s.heap.get? b = some o → h₁.get? b = some o := fun b o e => hs₁.extBut b o (Nat.ne_of_lt (Heap.lt_size e)) (Heap.get?_push_of_some _ e)
 have hsz : s.heap.objs.size < h₁.objs.size := by obtain ⟨o, ho, _⟩ := hit₁; exact Heap.lt_size ho
 refine wpAny_bind (wpAny_holding (wpAny_collect_iter (T := "list_iterator") (by first | exact .inl rfl | exact .inr (.inl rfl) | exact .inr (.inr (.inl rfl)) | exact .inr (.inr (.inr rfl))) (JX (A := A.in1) hh s.heap.objs.size t hlt items n hn).toS (fun i s' st => Heap.IsListIter.typeIs st.1) ⟨by rw [Nat.add_zero]; exact hit₁, ht₁⟩ (fun b hb => ?_) (by simp) (fun s' acc mv hi => ?_) (by omega)))
 ·simp only [bh, bx, or_false] at hb
  rcases hb with rfl | rfl
  ·exact hsz
  ·exact Nat.lt_trans hltt hsz
 have ha : acc.toList = items.toList.drop n := by
  refine List.ext_getElem? fun i => ?_
  rw [List.getElem?_drop, Array.getElem?_toList, Array.getElem?_toList]
  by_cases h : i < acc.size
  ·obtain ⟨v, hv⟩ : ∃ v, acc[i]? = some v := ⟨acc[i], by simp [h]⟩
   rw [hv, hi.2 i v hv]
  ·have h1 := hi.1
   rw [Array.getElem?_eq_none (by omega), Array.getElem?_eq_none (by omega)]
 rw [ha]
 have hm : n + 1 - 1 - n = 0 := by omega
 simp only [hm, Nat.sub_zero, Nat.not_lt_zero, ae]
 rw [List.take_of_length_le (av _), List.drop_of_length_le (av _)]
 refine wpAny_bind (wpAny_newList ?_ (by simp; omega))
 refine wpAny_pure ?_
 rw [List.append_nil, List.drop_zero]
 have hk2 : ∀ b o, s.heap.get? b = some o → s'.heap.get? b = some o := fun b o e => mv.heap b o (fun hb => absurd (Heap.lt_size e) (by rw [cc.mp hb]; exact Nat.lt_irrefl _)) (hk1 b o e)
 have := hQ s'.heap s'.toks hk2
 obtain ⟨hp, g, d, tk, os⟩ := s'
 have h1 : g = s.gens := mv.gens
 have h2 : d = s.drawn := mv.drawn
 have h3 : os = s.os := mv.os
 subst h1
 subst h2
 subst h3
 exact this
end
section
variable {X : Cx} {pos : Pos}
def aBp (K : PySem.W.Frag) (n : Nat) (t : TGs) : TG := fun v σ H Q => ∃ a xs, v = .ref a ∧ SqL K H a xs ∧ n ≤ xs.length ∧ xs.length ≤ sizeLine ∧ ∀ q, H q = none → t (xs.take n ++ [.ref q]) σ (upd H q (.lst (xs.drop n))) Q
theorem aAj {es : List Expr} {k : Nat} {t : TGs} {n : Nat} (hc : X.calm = true) (h : PGs X es t)
  (hn : (assignEach es X.env).length = n + 1) (hst : (assignEach es X.env).findIdx? (·.1) = some n) : PG X (.Tuple es k pos) (aBp X.K n t) := by
 refine ⟨fun pins s σ H v u Q I r hw => ?_⟩
 obtain ⟨a, xs, e1, hq, hl, hz, hw⟩ := hw
 subst e1
 cases r
 obtain ⟨its, rv, ⟨o, n0, ho, hcl, _, hd⟩, hz'⟩ := I.list hq
 have ht : s.heap.IsList a its.toArray := ⟨o, ho, hcl, n0, hd⟩
 rw [assign_Tuple]
 refine wpAny_bind (wpAny_standAt ?_)
 unfold unpack
 rw [hn, hst]
 refine wpAny_bind (wpAny_holding (D6 (I.ok.hd hc) ht (by simp [← rv.length]; exact hl) (by simp [← rv.length]; exact hz) fun h' tk hx => ?_))
 have I1 : Inv X pins σ H { s with heap := h', toks := tk } := I.kept (t' := tk) hx
 have hf : H h'.objs.size = none := I1.hok.fresh (av _)
 have I2 : Inv X pins σ (upd H h'.objs.size (.lst (xs.drop n))) { s with heap := h'.push { cls := .type "list", data := .seq (its.drop n).toArray }, toks := tk } :=
  I1.laid (t' := tk) (fun b u e => Heap.get?_push_of_some _ e) (av _) ⟨by simp; omega, its.drop n, 0, rv.drop n, Heap.get?_push_size _ rfl⟩
 have vr : Vals (xs.take n ++ [.ref h'.objs.size]) (its.take n ++ [.ref h'.objs.size]) := (rv.take n).append (.cons rfl .nil)
 exact h.run pins _ σ _ _ _ Q I2 (by simpa using vr) (hw _ hf)
end
end L2
namespace Pc
open PySem PySem.Spec PyProof.Rows L2
def E3 (n : Nat) (r : NA) : MG := fun d σ w => match d with
 | .lst xs => if n ≤ xs.length ∧ xs.length ≤ sizeLine then r (xs.take n ++ [.lst (xs.drop n)]) σ w else .bad
 | _ => .bad
section
variable {S : aR} {pos pos' : Pos} {e : Expr} {es : List Expr} {g : MG} {r : NA}
theorem XO {k n : Nat} (h : JGs S es r) (hn : ∀ env : Env, (assignEach es env).length = n + 1 := by intro _; rfl) (hst : ∀ env : Env, (assignEach es env).findIdx? (·.1) = some n := by intro _; rfl) : JG S (.Tuple es k pos) (E3 n r) := fun X E cx xo =>
 vI (aAj cx.calm (h X E cx xo) (hn X.env) (hst X.env)) fun v σ H Q ⟨I, F, G, d, ds, w, rel, rs, rv, p⟩ => by
  simp only [E3] at p
  split at p
  ·rename_i xs
   simp only [aF] at rv
   obtain ⟨a, vs, rfl, h1, h2⟩ := rv
   split at p
   ·rename_i hl
    refine ⟨a, vs, rfl, .of (rel.fz _ _ h1), by rw [← h2.length]; exact hl.1, by rw [← h2.length]; exact hl.2, fun q hq => ?_⟩
    have hd := h2.drop n
    obtain ⟨I', F', e1, rel1, rl⟩ := nA (E := E) (w := w) (Q := fun v H' => ∃ I' F', Ext I F I' F' ∧ Rel X.K I' F' G w H' ∧ aF X.K I' F' (.lst (xs.drop n)) v) rel hd (fun I' F' H' e1 rel' v rv => ⟨I', F', e1, rel', rv⟩) q hq
    exact ⟨I', F', G, _, ds, w, rel1, rs.ext e1, ((h2.take n).ext e1).append (RepL.cons rl (by simp [RepL])), p.ext e1⟩
   ·exact p.elim
  ·exact p.elim
end
end Pc
namespace L2
open PySem PySem.Spec PyProof.Rows
def IM (ns ms : List Int) : Bool := Ob.lexAt (fun j => decide (ns.getD j 0 = ms.getD j 0)) (fun j => decide (ms.getD j 0 ≤ ns.getD j 0)) (decide (ns.length ≥ ms.length)) 0 (min ns.length ms.length)
def aF0 (K : PySem.W.Frag) : R2 := fun x y H Q => ∃ (a b : Addr) (ns ms : List Int), x = .ref a ∧ y = .ref b ∧ SqT K H a (ns.map V.int) ∧ SqT K H b (ms.map V.int) ∧ Q (.bl (IM ns ms)) H
theorem aDo {X : Cx} (hu : X.A.units < cLine) : OpR X (compareOp .GtE) (aF0 X.K) := by
 intro pins s σ H x y v u Q I rx ry h
 obtain ⟨a, b, ns, ms, rfl, rfl, ha, hb, q⟩ := h
 cases rx
 cases ry
 obtain ⟨its, r1, p1, _⟩ := I.tuple ha
 obtain ⟨its2, r2, p2, _⟩ := I.tuple hb
 have i1 : IntsAre its ns := Vals.ints r1
 have i2 : IntsAre its2 ms := Vals.ints r2
 have pair : ∀ (R : Value → Value → Bool → Prop) (f : Int → Int → Bool), (∀ i t j t', R (.int i t) (.int j t') (f i j)) → ∀ j (h1 : j < its.toArray.size) (h2 : j < its2.toArray.size), R its.toArray[j] its2.toArray[j] (f (ns.getD j 0) (ms.getD j 0)) := fun R f hR j h1 h2 => by
  obtain ⟨t, et⟩ := item_at i1 h1
  obtain ⟨t', et'⟩ := item_at i2 h2
  rw [et, et']
  exact hR _ _ _ _
 have R := Ob.RcOp.tuples_ge (A := X.A) (s := s) (e := fun j => decide (ns.getD j 0 = ms.getD j 0)) (r := fun j => decide (ms.getD j 0 ≤ ns.getD j 0)) p1 p2 hu
  (pair (fun p q c => SeqAt.EqAt X.A.in1 s p q c) (fun i j => decide (i = j)) fun i t j t' => by
   have z : (i == j) = decide (i = j) := by by_cases c : i = j <;> simp [c]
   show SeqAt.EqAt X.A.in1 s _ _ (decide (i = j))
   rw [← z]
   exact SeqAt.EqAt.int_int _ _ _ _)
  (fun j h1 h2 _ => pair (fun p q c => Ob.RcOp .GtE X.A.in1 s p q c) (fun i j => decide (j ≤ i)) (fun i t j t' => Ob.RcOp.ge_int _ _ _ _) j h1 h2)
 rw [List.size_toArray, List.size_toArray, i1.length, i2.length] at R
 have z : wpAny (model X.prog X.w) X.A (compareOp .GtE (.ref a) (.ref b)) (EP X pins σ Q) X.xe s := R X.prog X.w X.xe (EP X pins σ Q) ⟨.bl _, H, I, rfl, q⟩
 exact z
end L2
namespace Pc
open PySem PySem.Spec PyProof.Rows L2
def geA (x y : D) (w : W) : Res D := match x, y with
 | .int a, .int b => .ok (.bl (decide (b ≤ a))) w
 | .tup a, .tup b => (match lS a, lS b with
  | some ns, some ms => .ok (.bl (IM ns ms)) w
  | _, _ => .bad)
 | _, _ => .bad
theorem aDP {S : aR} : O2 S (compareOp .GtE) geA := hV fun X E c xo I F G d e w H x y Q rel rd re p => by
 cases d <;> cases e <;> first | exact p.elim | skip
 ·simp only [aF] at rd re
  exact ⟨_, NL op_ge, _, _, rd, re, trivial, p I F H .refl rel _ (by simp [aF])⟩
 ·rename_i as bs
  simp only [geA] at p
  split at p
  ·rename_i ns ms h1 h2
   obtain ⟨a, us, rfl, g1, g2⟩ := K1 rel rd (show vS (.tup as) = some as from rfl)
   obtain ⟨b, ts, rfl, g3, g4⟩ := K1 rel re (show vS (.tup bs) = some bs from rfl)
   obtain rfl := nH g2 h1
   obtain rfl := nH g4 h2
   exact ⟨_, aDo (by have := c.room.un; omega), a, b, ns, ms, rfl, rfl, g1, g3, p.mM rel (by simp [aF])⟩
  ·exact p.elim
def zE (d : Addr) (tab : List (Str × Option D)) (x y : D) (w : W) : Res D := match x, y with
 | .str z, .con a => if a = d then (match tab.lookup z with
  | some o => .ok (.bl (!o.isSome)) w
  | none => .bad) else .bad
 | _, _ => .bad
theorem VF {S : aR} {d : Addr} {tab : List (Str × Option D)} (T : KTab S.K S.w d tab) : O2 S (compareOp .NotIn) (zE d tab) := hV fun X E c xo I F G a b w H x y Q rel rd re p => by
 unfold zE at p
 split at p
 ·rename_i z a'
  simp only [aF] at rd re
  subst rd re
  split at p
  ·rename_i hd
   subst hd
   obtain ⟨es, n, T1⟩ := T.ex
   rw [← c.K, ← c.w] at T1
   cases h : tab.lookup z with
   | none => rw [h] at p; exact p.elim
   | some o =>
    rw [h] at p
    cases o with
    | none => exact ⟨_, op_notIn_kd T1, z, none, rfl, rfl, by rw [c.K]; exact T.miss z h, p.mM rel (by simp [aF])⟩
    | some v =>
     obtain ⟨u, v', h1, h2, h3⟩ := T.hit z v h
     exact ⟨_, op_notIn_kd T1, z, some u, rfl, rfl, by rw [c.K]; exact h1, p.mM rel (by simp [aF])⟩
  ·exact p.elim
 ·exact p.elim
end Pc
namespace L2
open PySem PySem.Spec PyProof.Rows
def aDD (td : TE) : TE := fun σ H Q => td σ H fun x H1 => ∃ d kvs, x = .ref d ∧ Rd H1 d (.dK kvs) ∧ ∀ p, H1 p = none → Q (.ref p) (upd H1 p (IS p d))
section
variable {X : Cx} {e : Expr} {td : TE} {apos cpos : Pos}
theorem R1 (he : PE X e td) (hbase : attributeBase e "values" X.env (eval e X.env) = eval e X.env := by rfl) (hline : (apos.endLine == cpos.line) = true := by rfl) : PE X (.Call (.Attribute e "values" apos) [] [] cpos) (aDD td) := by
 refine ⟨fun pins s σ H Q I h => ?_⟩
 refine wpAny_Call_method (T := "dict") (id := "dict.values") hbase rfl hline F.plainAttrs_dict F.slot_dict_values F.type_dict_values (thn (he.run pins s σ H _ I h) fun u s1 ⟨x, H1, I1, rx, d, kvs, ex, hd, q⟩ => ?_)
 subst ex
 obtain rfl : u = Value.ref d := rx
 obtain ⟨z, hs, vs, kv, ob⟩ := (show ObjOk X.prog X.w H1 s1.heap d (.dK kvs) from hd.ok I1.hok)
 obtain ⟨es, ep, hm, hn, hat⟩ := ob.raw
 obtain ⟨o, ho, hx, hdt⟩ := id hm
 refine ⟨hm.typeIs, fun a e => by cases e; exact ⟨o, ho, hx.2.1⟩, ?_⟩
 show wpAny _ _ (callWith cpos (.builtin "dict.values") [.ref d] [] []) _ X.xe s1
 refine method_meetsIn F.slot_dict_values F.entry_dict_values rfl (PySem.evalArgs_none ⟨rfl, hm.typeIs, F.args_dict_values_1 _, _, meets_dict_values_raw d hs, ⟨es, ep, hm⟩, ?_⟩)
 exact ⟨.ref s1.heap.objs.size, upd H1 s1.heap.objs.size (IS s1.heap.objs.size d), I1.laid (t' := s1.toks) (fun b ob q => Heap.get?_push_of_some _ q) (av _) (aBn ⟨_, Heap.get?_push_size _ rfl, rfl, rfl⟩), rfl, q _ (I1.hok.fresh (av _))⟩
theorem DI (hc : X.calm = true) : CallR X (.type "list") (fun xs H Q => ∃ p d kvs, xs = [V.ref p] ∧ H p = some (IS p d) ∧ Rd H d (.dK kvs) ∧ ∀ l, H l = none → Q (.ref l) (upd H l (.lst (kvs.map fun kv => kv.2)))) := by
 intro pins s σ H xs us Q I r h
 obtain ⟨p, d, kvs, rfl, hp, hd, q⟩ := h
 obtain ⟨u, rfl, rx⟩ := r.one
 cases rx
 obtain ⟨z, hs, ks, pr, ob⟩ := (show ObjOk X.prog X.w H s.heap d (.dK kvs) from hd.ok I.hok)
 obtain ⟨es, ep, hm, hn, hat⟩ := ob.raw
 have l2 : kvs.length = ks.length := Paired.length pr
 refine PySem.W.kdl_call (KdlSrc.rawValues (r := p) (d := d) (es := es) (ep := ep)) (I.ok.hd hc) ⟨aBk I.hok hp, hm⟩ (by omega) fun h' tk acc' c' kp e it => ?_
 have la : acc'.toList.length = ks.length := by rw [Array.length_toList, it.1]; exact hn
 have rv : Vals (kvs.map fun kv => kv.2) acc'.toList := by
  refine vals_of_at (by rw [ak]; omega) fun j x v h1 h2 => ?_
  obtain ⟨hi, hv⟩ := it.2 j v (by rw [← Array.getElem?_toList]; exact h2)
  rw [bt] at h1
  obtain ⟨kv, hkv, rfl⟩ := ao.mp h1
  obtain ⟨b, hb, hr⟩ := paired_get pr hkv
  obtain ⟨b1, b2⟩ := b
  rw [hv, (hat j hi b1 b2 hb).2]
  exact hr.2
 have hz : (kvs.map fun kv => kv.2).length ≤ sizeLine := by rw [ak]; omega
 refine ⟨.ref s.heap.objs.size, _, I.laid (t' := tk) (o := .lst (kvs.map fun kv => kv.2)) kp (av _) ?_, rfl, q _ (I.hok.fresh (av _))⟩
 exact ⟨hz, acc'.toList, c', rv, by rw [Array.toArray_toList]; exact e⟩
end
end L2
namespace Pc
open PySem PySem.Spec PyProof.Rows L2
theorem BM {K : PySem.W.Frag} {I : List Addr} {F : Hp} : ∀ {ds : List (Key × D)} {vs : List (Key × V)}, aS K I F ds vs → RepL K I F (ds.map fun kv => kv.2) (vs.map fun kv => kv.2)
 | [], vs, h => by simp only [aS] at h; subst h; simp [RepL]
 | (k, d) :: ds, vs, h => by
  simp only [aS] at h
  obtain ⟨v, r, rfl, h2, h3⟩ := h
  exact RepL.cons h2 (BM h3)
def A8 (x : D) (w : W) : Res D := match x with
 | .ref i => (match w[i]? with
  | some (.dK kvs) => .ok (.lst (kvs.map fun kv => kv.2)) w
  | _ => .bad)
 | _ => .bad
section
variable {S : aR} {p pos ap cp : Pos} {e : Expr} {me : ME}
theorem YM (hl : S.sc.names.lookup ("list" : Str) = some .globalImplicit) (hm : S.mg "list" = none) (he : JE S e me)
  (hb : ∀ env : Env, attributeBase e "values" env (eval e env) = eval e env := by intro _; rfl) (hline : (ap.endLine == cp.line) = true := by rfl) (n2 : ∀ env : Env, starEach [.Call (.Attribute e "values" ap) [] [] cp] env = (false, eval (.Call (.Attribute e "values" ap) [] [] cp) env) :: starEach [] env := by intro _; rfl) :
  JE S (.Call (.Name "list" p) [.Call (.Attribute e "values" ap) [] [] cp] [] pos) (AF A8 me) := fun X E cx xo =>
 cV (pe_callTy (DI cx.calm) (by show X.env.scope.names.lookup _ = _; rw [cx.sc]; exact hl) (by rw [cx.mg]; exact hm) rfl
  (pa_cons (hs := n2 X.env) (R1 (he X E cx xo) (hb X.env) hline) pa_nil) (he := n2 X.env)) fun σ H Q ⟨I, F, G, ds, w, rel, rs, pp⟩ =>
  bO (f := fun _ x w1 => A8 x w1) rel rs pp fun I1 F1 H1 x w1 v e1 rel1 rs1 rv p1 => by
   unfold A8 at p1
   split at p1
   ·rename_i i
    simp only [aF] at rv
    obtain ⟨a, rfl, hi⟩ := rv
    split at p1
    ·rename_i kvs hw
     obtain ⟨u, hu, r, rfl, hr⟩ := rel1.ob i a _ hi hw
     refine ⟨a, r, rfl, .inl hu, fun q hq => ⟨q, a, r, rfl, by rw [upd_same], .inl (by rw [upd_ne (ne_of_none hu hq)]; exact hu), ?_⟩⟩
     exact nA (rel1.aCd hq) (BM hr) p1
    ·exact p1.elim
   ·exact p1.elim
end
def FG (x y : D) (w : W) : Res D := match x, y with
 | .jL a, .tup b => if a ≠ [] ∧ b ≠ [] ∧ a.length + b.length ≤ sizeLine then .ok (.tup (a ++ b)) w else .bad
 | _, _ => .bad
theorem Z4 {S : aR} : O2 S (binaryOp .Add) FG := hV fun X E c xo I F G d e w H x y Q rel rd re p => by
 unfold FG at p
 split at p
 ·rename_i a b
  split at p
  ·rename_i hl
   obtain ⟨q, vs, rfl, h1, h2⟩ := zL rd (show vS (.jL a) = some a from rfl)
   obtain ⟨q', vs', rfl, h1', h2'⟩ := zL re (show vS (.tup b) = some b from rfl)
   have n1 : vs ≠ [] := fun z => hl.1 (by have := h2.length; rw [z] at this; exact List.eq_nil_of_length_eq_zero (by simpa using this))
   have n2 : vs' ≠ [] := fun z => hl.2.1 (by have := h2'.length; rw [z] at this; exact List.eq_nil_of_length_eq_zero (by simpa using this))
   exact ⟨_, op_catA, q, q', vs, vs', rfl, rfl, rel.LW h1, rel.LW h1', by rw [← h2.length, ← h2'.length]; exact hl.2.2, fun hn => absurd hn n1, fun _ hn => absurd hn n2, fun _ _ => y4 rel (h2.append h2') p⟩
  ·exact p.elim
 ·exact p.elim
theorem WT {P : Program} {w : World} {K : PySem.W.Frag} {mg mb : Str → Option Value} {k : Nat} {fa a : Addr} {fd : FuncData} {x : Str} {m : MF} {s : Shared} {ns : List Int} (H : Hp)
  (kin : K.In s.heap) (glo : s.heap.Ns mainGlobals mg) (blt : s.heap.Ns builtinsNs mb) (boot : ∀ y : Str, y ≠ "__name__" → mb y = bootBuiltins y) (free : s.heap.NoLimit) (gens : s.gens = #[]) (room : Room k callerA)
  (prom : ∀ base : Heap, K.In base → base.Ns mainGlobals mg → fV P w K mg base k fa fd [x] m) (bind : ∀ (t : Shared) (u : Value), BindsTo t fd ⟨[u], []⟩ [(x, u)]) (w' : W) (good : m [.qF (ns.map D.int)] [] = .ok (.bl true) w')
  (only : Only H) (held : SqL K H a (ns.map V.int)) (ok : HOk P w H s.heap) (nod : ∀ b o, s.heap.get? b = some o → H b ≠ none → ∀ es ep, o.data ≠ .dict es ep) (nok : ∀ b, H b ≠ none → K.lookup b = none) :
  codeAny (model P w) callerA (.call (.ref fa) ⟨[.ref a], []⟩) (fun r t => r = .ok (.ret (.bool true)) ∧ OldK s.heap t.heap ∧ t.os = s.os ∧ AllBare t.gens) s := by
 have low : ∀ {b : Addr} {o : Obj}, s.heap.get? b = some o → H b = none → (hidT s.heap H).get? b = some o := hidT_get
 have dicts : ∀ {b : Addr} {f : Str → Option Value}, s.heap.Ns b f → (hidT s.heap H).Ns b f := by
  rintro b f ⟨o, es, ep, h1, h2, h3⟩
  refine ⟨o, es, ep, low h1 ?_, h2, h3⟩
  by_cases q : H b = none
  ·exact q
  ·exact absurd h2 (nod b o h1 q es ep)
 have kb : K.In (hidT s.heap H) := fun b o h => low (kin b o h) (by
  by_cases q : H b = none
  ·exact q
  ·rw [nok b q] at h; cases h)
 obtain ⟨mc, c1, c2⟩ := free
 have e0 : Env0 P w K mg (hidT s.heap H) callerA [] s H := {
  frames := rfl
  mod := ⟨kb, dicts glo, ⟨mb, dicts blt, boot⟩, ⟨mc, dicts c1, c2⟩⟩
  bs := fun b o h => of_hidT h
  bsz := Nat.le_of_eq (hidT_size _ _)
  funs := trivial
  frf := fun b hb => by simp [frs] at hb
  hok := ok
  bare := .of_eq gens }
 have rel : Rel K [] H (fun _ => none) [] H := ⟨rfl, List.nodup_nil, fun i b o h => by simp at h, fun _ _ h => h, fun i b o h => by simp at h, fun _ _ h => (by cases h), fun _ _ h => (by cases h), fun _ _ h => (by cases h)⟩
 have sp : spM K m [V.ref a] H (fun v _ => v = .bl true) fun _ _ _ => False := by
  refine ⟨[], H, fun _ => none, [.qF (ns.map D.int)], [], rel, RepL.cons ?_ (by simp [RepL]), ?_⟩
  ·simp only [aF]; exact ⟨a, _, rfl, held, RepL.ints ns⟩
  ·rw [good]
   intro I' F' H' _ _ v rv
   simpa only [aF] using rv
 refine codeAny_mono ((prom _ kb (dicts glo)).run callerA [] s H ⟨[.ref a], []⟩ [.ref a] [.ref a] _ _ room rfl e0 (bind s (.ref a)) (.cons rfl .nil) rfl sp) fun r t h => ?_
 match r, h with
 | .error e, h =>
  obtain ⟨_, _, _, _, _, h⟩ := h
  simp at h
 | .ok (.ret u), h =>
  obtain ⟨v, H2, h1, h2, h3, h4, h5, h6⟩ := h
  subst h6
  obtain rfl : u = Value.bool true := h5
  refine ⟨rfl, OldK.of_keep fun b o hb => ?_, h1, h2⟩
  rcases only b with q | ⟨ob, xs, q⟩
  ·exact h3.keep b o hb q (by intro z; simp [frs] at z) (by simp)
  ·obtain ⟨g1, _⟩ := ok b _ q
   obtain ⟨g2, _⟩ := h4 b _ (h3.frzs b ob _ q)
   rw [hb] at g1; cases g1
   exact g2
 | .ok .next, h => exact h.elim
 | .ok .brk, h => exact h.elim
 | .ok .cont, h => exact h.elim
theorem W9 {P : Program} {w : World} {K : PySem.W.Frag} {mg mb : Str → Option Value} {k : Nat} {fa a : Addr} {fd : FuncData} {x : Str} {m : MF} {s : Shared} {us : List Value} {ns : List Int}
  (kin : K.In s.heap) (glo : s.heap.Ns mainGlobals mg) (blt : s.heap.Ns builtinsNs mb) (boot : ∀ y : Str, y ≠ "__name__" → mb y = bootBuiltins y) (free : s.heap.NoLimit) (gens : s.gens = #[]) (room : Room k callerA)
  (laid : s.heap.get? a = some { cls := .type "list", data := .seq us.toArray }) (nums : IntsAre us ns) (few : ns.length ≤ sizeLine)
  (prom : ∀ base : Heap, K.In base → base.Ns mainGlobals mg → fV P w K mg base k fa fd [x] m) (bind : ∀ (t : Shared) (u : Value), BindsTo t fd ⟨[u], []⟩ [(x, u)]) (w' : W) (good : m [.qF (ns.map D.int)] [] = .ok (.bl true) w') :
  codeAny (model P w) callerA (.call (.ref fa) ⟨[.ref a], []⟩) (fun r t => r = .ok (.ret (.bool true)) ∧ OldK s.heap t.heap ∧ t.os = s.os ∧ AllBare t.gens) s := by
 have vals := vals_ints nums
 cases hk : K.lookup a with
 | some o =>
  have h := kin a o hk
  rw [laid] at h
  cases h
  refine WT (fun _ => none) kin glo blt boot free gens room prom bind w' good (fun _ => .inl rfl) (.inr ⟨_, us.toArray, _, hk, rfl, rfl, rfl, ?_, by simpa using vals⟩) (fun _ _ h => by cases h) (fun _ _ _ h => absurd rfl h) fun _ h => absurd rfl h
  rw [List.size_toArray]; have := nums.length; omega
 | none =>
  let ob : Obj := { cls := .type "list", data := .seq us.toArray }
  let H : Hp := fun b => if b = a then some (.frz ob (.lst (ns.map V.int))) else none
  have at1 : H a = some (.frz ob (.lst (ns.map V.int))) := if_pos rfl
  have at2 : ∀ {b : Addr}, H b ≠ none → b = a := fun {b} h => by
   by_cases e : b = a
   ·exact e
   ·exact absurd (if_neg e) h
  refine WT H kin glo blt boot free gens room prom bind w' good (fun b => ?_) (.inl (.inr ⟨ob, at1⟩)) (fun b u h => ?_) (fun b o h hb es ep hd => ?_) fun b hb => by rw [at2 hb]; exact hk
  ·by_cases e : b = a
   ·exact .inr ⟨ob, _, if_pos e⟩
   ·exact .inl (if_neg e)
  ·obtain rfl := at2 (b := b) (by rw [h]; simp)
   rw [at1] at h
   cases h
   exact ⟨laid, by rw [ak]; exact few, us, _, vals, laid⟩
  ·obtain rfl := at2 hb
   rw [laid] at h
   cases h
   cases hd
theorem YC {l : PySem.W.OpenLaw} {n k : Nat} {q : Program} {loose : List Str} {XP : (Str → Option Value) → Heap → Prop} {YP : World → Heap → Prop} {d : DefRec} {x : Str}
  (hn : l.most = some n) (hn2 : n ≤ sizeLine) (hdf : d.params.defaults = []) (hr : Room k callerA)
  (F : ∀ (w : World) (mg : Str → Option Value) (fa : Addr) (h : Heap), YP w h → h.Ns mainGlobals mg → mg d.name = some (.ref fa) →
   ∃ (K : PySem.W.Frag) (fd : FuncData) (m : MF), K.In h ∧ (∀ (s : Shared) (u : Value), BindsTo s fd ⟨[u], []⟩ [(x, u)]) ∧ (∀ ns : List Int, ns.length ≤ n → ∃ w', m [.qF (ns.map D.int)] [] = .ok (.bl true) w') ∧
    ∀ base : Heap, K.In base → base.Ns mainGlobals mg → fV l.prog w K mg base k fa fd [x] m) :
  PySem.W.WalkO q loose XP YP l.row.toRowW d [] (fun f vs => PySem.call f vs) :=
 Att.attach_call hn hdf fun w _ s mg _ fa _ _ _ _ _ us ns G Y _ _ _ hmg laid nums few gens => by
  obtain ⟨K, fd, m, kin, bind, good, prom⟩ := F w mg fa _ Y G.T.g hmg
  obtain ⟨w', hw⟩ := good ns few
  exact W9 kin G.T.g G.T.b G.T.builtins G.T.nolimit gens hr laid nums (cq few hn2) prom bind w' hw
end Pc
namespace K06
open PySem PySem.Spec PyProof.Rows L2 Pc
def top (i : Nat) : Stmt := PySem.Challenge.pw_onemaster_k06_great_plans.main.body.getD i (.Pass ⟨0, 0, 0, 0⟩)
structure bN where
 n5 : Addr
 cM : Addr
 aJ : Addr
 aK : Addr
 dS : Addr
 oY : Addr
 kU : Addr
 zz : Unit := ()
def dC : List (Str × Option D) := [(("every" : Str), some (.jL [(.int 1), (.int 5)])), (("lost" : Str), some (.jL [(.int 0), (.int 3)])), (("slow" : Str), some (.jL [(.int 1), (.int 4)])), (("bears" : Str), some (.jL [(.int 0), (.int 3)])), (("gap" : Str), some (.jL [(.int 0), (.int 3)])), (("hold" : Str), some (.jL [(.int 0), (.int 20)])), (("hosts" : Str), some (.jL [(.int 0), (.int 4)])), (("takes" : Str), none), (("ties" : Str), none)]
def qT : List (Str × Option D) := [(("yes" : Str), some (.bl true)), (("no" : Str), some (.bl false))]
end K06
set_option maxHeartbeats 0
namespace K06H
open PySem PySem.Spec PyProof.Rows L2 Pc K06
def t8 : He.DefD := ⟨("_law_deck", none), "_law_deck", "_law_deck", defArgs (top 34), defBody (top 34), defScope (top 34), [], []⟩
def uV : He.DefD := ⟨("_law_draw", none), "_law_draw", "_law_draw", defArgs (top 35), defBody (top 35), defScope (top 35), [], []⟩
def rK : He.DefD := ⟨("_law_great", none), "_law_great", "_law_great", defArgs (top 41), defBody (top 41), defScope (top 41), [], []⟩
def wY : He.DefD := ⟨("Plan", some "__len__"), "__len__", "Plan.__len__", defArgs (inClass (top 24) 2), defBody (inClass (top 24) 2), defScope (inClass (top 24) 2), [], []⟩
def xX : He.DefD := ⟨("in_words", none), "in_words", "in_words", defArgs (top 23), defBody (top 23), defScope (top 23), [], []⟩
def wN : He.DefD := ⟨("Plan", some "__str__"), "__str__", "Plan.__str__", defArgs (inClass (top 24) 4), defBody (inClass (top 24) 4), defScope (inClass (top 24) 4), [], []⟩
def pU : He.DefD := ⟨("_law_fields", none), "_law_fields", "_law_fields", defArgs (top 38), defBody (top 38), defScope (top 38), [], []⟩
def xB : He.DefD := ⟨("is_whole", none), "is_whole", "is_whole", defArgs (top 17), defBody (top 17), defScope (top 17), [], []⟩
def tG : He.DefD := ⟨("is_within", none), "is_within", "is_within", defArgs (top 18), defBody (top 18), defScope (top 18), [], []⟩
def uY : He.DefD := ⟨("are_ranks", none), "are_ranks", "are_ranks", defArgs (top 19), defBody (top 19), defScope (top 19), [], []⟩
def E1 : He.DefD := ⟨("is_tie", none), "is_tie", "is_tie", defArgs (top 20), defBody (top 20), defScope (top 20), [], []⟩
def xO : He.DefD := ⟨("are_ties", none), "are_ties", "are_ties", defArgs (top 21), defBody (top 21), defScope (top 21), [], []⟩
def yC : He.DefD := ⟨("is_field", none), "is_field", "is_field", defArgs (top 22), defBody (top 22), defScope (top 22), [], []⟩
def sX : He.DefD := ⟨("Plan", some "__init__"), "__init__", "Plan.__init__", defArgs (inClass (top 24) 0), defBody (inClass (top 24) 0), defScope (inClass (top 24) 0), [], [(("every" : Str), (.int 1)), (("lost" : Str), (.int 1)), (("slow" : Str), (.int 1)), (("bears" : Str), .non), (("gap" : Str), (.int 1)), (("hold" : Str), (.int 0)), (("takes" : Str), (.bl true)), (("ties" : Str), (.adr (Pc.kwAt ("Plan", some "__init__") "ties"))), (("hosts" : Str), (.int 0))]⟩
def uF : He.DefD := ⟨("_law_made", none), "_law_made", "_law_made", defArgs (top 37), defBody (top 37), defScope (top 37), [], []⟩
def oO : He.DefD := ⟨("Reading", some "__init__"), "__init__", "Reading.__init__", defArgs (inClass (top 31) 0), defBody (inClass (top 31) 0), defScope (inClass (top 31) 0), [], []⟩
def uR : He.DefD := ⟨("number_in", none), "number_in", "number_in", defArgs (top 30), defBody (top 30), defScope (top 30), [], []⟩
def g6 : He.DefD := ⟨("Reading", some "takes_head"), "takes_head", "Reading.takes_head", defArgs (inClass (top 31) 2), defBody (inClass (top 31) 2), defScope (inClass (top 31) 2), [], []⟩
def gK : He.DefD := ⟨("Reading", some "takes_ranks"), "takes_ranks", "Reading.takes_ranks", defArgs (inClass (top 31) 3), defBody (inClass (top 31) 3), defScope (inClass (top 31) 3), [], []⟩
def iG : He.DefD := ⟨("Reading", some "takes_tie"), "takes_tie", "Reading.takes_tie", defArgs (inClass (top 31) 4), defBody (inClass (top 31) 4), defScope (inClass (top 31) 4), [], []⟩
def kI : He.DefD := ⟨("Reading", some "goes_on"), "goes_on", "Reading.goes_on", defArgs (inClass (top 31) 1), defBody (inClass (top 31) 1), defScope (inClass (top 31) 1), [], []⟩
def nL : He.DefD := ⟨("Reading", some "made"), "made", "Reading.made", defArgs (inClass (top 31) 5), defBody (inClass (top 31) 5), defScope (inClass (top 31) 5), [], []⟩
def sV : He.DefD := ⟨("read_plan", none), "read_plan", "read_plan", defArgs (top 32), defBody (top 32), defScope (top 32), [], []⟩
def nM : He.DefD := ⟨("_law_refused", none), "_law_refused", "_law_refused", defArgs (top 42), defBody (top 42), defScope (top 42), [], []⟩
def uO : He.DefD := ⟨("_law_text", none), "_law_text", "_law_text", defArgs (top 40), defBody (top 40), defScope (top 40), [], []⟩
def sC : He.DefD := ⟨("_law_right", none), "_law_right", "_law_right", defArgs (top 43), defBody (top 43), defScope (top 43), [], []⟩
def X8 : He.DefD := ⟨("law", none), "law", "law", defArgs (top 44), defBody (top 44), defScope (top 44), [], []⟩
def lH : He.DefD := ⟨("NoText", some "__init__"), "__init__", "NoText.__init__", defArgs (inClass (top 9) 0), defBody (inClass (top 9) 0), defScope (inClass (top 9) 0), [], []⟩
def fn : List He.DefD := [t8, uV, rK, wY, xX, wN, pU, xB, tG, uY, E1, xO, yC, sX, uF, oO, uR, g6, gK, iG, kI, nL, sV, nM, uO, sC, X8, lH]
def fa : List He.Fa := [.free "all", .free "bool", .free "enumerate", .free "int", .free "isinstance", .free "len", .free "list", .free "max", .free "range", .free "repr", .free "str", .free "sum", .free "tuple", .free "zip", .glo "_law_deck", .glo "_law_draw", .glo "_law_great", .glo "in_words", .glo "_law_fields", .glo "is_whole", .glo "is_within", .glo "are_ranks", .glo "is_tie", .glo "are_ties", .glo "is_field", .glo "_law_made", .glo "number_in", .glo "read_plan", .glo "_law_refused", .glo "_law_text", .glo "_law_right", .glo "law", .glo "NUMBERS", .glo "TAKES", .glo "NetError", .glo "NoText", .glo "Plan", .cls "Plan", .meth "Plan" "__len__", .meth "Plan" "__str__", .noat "Plan" "bears", .noat "Plan" "every", .noat "Plan" "gap", .noat "Plan" "hold", .noat "Plan" "hosts", .noat "Plan" "lost", .noat "Plan" "ranks", .noat "Plan" "slow", .noat "Plan" "takes", .noat "Plan" "ties", .mkr "Plan", .glo "Reading", .cls "Reading", .meth "Reading" "goes_on", .meth "Reading" "made", .meth "Reading" "takes_head", .meth "Reading" "takes_ranks", .meth "Reading" "takes_tie", .noat "Reading" "cords", .noat "Reading" "head", .noat "Reading" "rows", .mkr "Reading"]
def ts : List He.Tab := [((fun K => He.ga K "NUMBERS"), [("every" : Str), ("lost" : Str), ("slow" : Str), ("bears" : Str), ("gap" : Str), ("hold" : Str), ("hosts" : Str)]), ((fun K => He.ga K "TAKES"), [("yes" : Str), ("no" : Str)])]
def exl (K : PySem.W.Frag) : List Bool := [GD K "FIGURES" (.str ("0123456789" : Str)), GD K "HEAD" (.jL [(.str ("every" : Str)), (.str ("lost" : Str)), (.str ("slow" : Str)), (.str ("bears" : Str)), (.str ("gap" : Str)), (.str ("hold" : Str))]), GD K "LONGEST" (.int 2), GD K "MOST_ADDRESSES" (.int 4), GD K "MOST_HOUSES" (.int 6), GD K "MOST_LESS" (.int 11), GD K "MOST_TIE" (.int 9), GD K "MOST_TIES" (.int 6), GD K "TOP" (.int 12), TV K (He.ga K "NUMBERS") dC, TV K (He.ga K "TAKES") qT, aDO K (He.ga K "NoText") (He.ga K "NetError") (He.fAd K lH.at_) ("line" : Str), aEv K (He.ga K "NoText") (He.ga K "NoText") true]
def ex (K : PySem.W.Frag) : Bool := (exl K).all id
theorem qR {K : PySem.W.Frag} (h : ex K = true) (i : Nat) {b : Bool} (hi : (exl K)[i]? = some b) : b = true := by
 unfold ex at h
 rw [br] at h
 exact h b (bu hi)
def loose : List PySem.Str := (["EVERY", "LOST", "SLOW", "GAP", "HOLD", "TOP", "NetError", "NoPlan", "NoText", "MOST_ADDRESSES", "MOST_HOUSES", "MOST_TIES", "MOST_TIE", "MOST_LESS", "NUMBERS", "is_whole", "is_within", "are_ranks", "is_tie", "are_ties", "is_field", "in_words", "Plan", "FIGURES", "LONGEST", "HEAD", "TAKES", "number_in", "Reading", "read_plan"] : List PySem.Str) ++ (["_law_deck", "_law_draw", "_law_pick", "_law_made", "_law_fields", "_law_due_fields", "_law_text", "_law_great", "_law_refused", "_law_right"] : List PySem.Str)
abbrev R : PySem.W.OpenRow := PySem.W.OpenLaw.row PySem.Challenge.rw_onemaster_k06_great_plans
def as : List Nat := ([0, 2, 3, 4, 6, 22, 23, 24, 25, 40, 41, 42, 43, 44, 59, 60, 61, 62, 63, 66, 67, 68, 69, 70, 71, 72, 73, 74, 76, 77, 78, 79, 80, 81, 83, 84, 85, 86, 87, 88, 90, 91, 92, 93, 95, 96, 97, 98, 99, 100, 102, 103, 104, 105, 107, 108, 109, 110, 111, 112] : List Nat) ++ ([114, 115, 116, 125, 131, 132, 138, 139, 145, 146, 152, 153, 157, 158, 164, 165, 166, 167, 168, 169, 170, 173, 174, 175, 177, 178, 179, 192, 193, 199, 200, 206, 207, 211, 212, 216, 217, 223, 224, 225, 226, 227, 228, 229, 232, 234, 235, 236, 237, 238, 239, 241, 242, 243, 244, 245, 246, 248, 249, 250] : List Nat) ++ ([251, 252, 253, 255, 256, 257, 258, 259, 260, 262, 263, 264, 265, 266, 267, 269, 270, 271, 272, 273, 274, 276, 277, 278, 279, 280, 281, 283, 284, 285, 286, 288, 289, 290, 291, 293, 294, 295, 296, 297, 298, 300, 301, 302, 303, 304, 305, 307, 308, 309] : List Nat)
abbrev hk : PySem.W.Hook := He.aCr as fa fn ts ex
def ob (s : PySem.W.SharedT) : He.AlY := He.aA6 as fa fn ts ex (HandSHeadRun.getT s)
theorem aED (s : PySem.W.SharedT) : ob s = hk.obs s.abs := He.aAO (HandSHeadRun.getT_eq s)
open PySem PySem.W PySem.Calls PyProof.Rows HandSHeadRun in
abbrev eF (w : World) (os : OsState) : Option SharedT := endF (stepQ (denQ tabQ) R.prog w) 8000 R.prog w os
open PySem PySem.W PySem.Calls PyProof.Rows in
theorem MR (w : World) (os : OsState) : (eF (w.withFollow "special-get-raises" false) os).map (fun s => (HandSHeadRun.looksF R.prog (boot_heap (w.withFollow "special-get-raises" false).params) s.abs, HandSHeadRun.seenQ (PySem.W.view R.prog [44]) loose (importedModules R.prog.main.body) (fun s => xlAt (PySem.W.view R.prog [44]) [] s && recOk R.toRowW.records s) s.abs)) = some (true, openGood (PySem.W.view R.prog [44]) loose) := by
 kernel_rfl
open PySem PySem.W PySem.Calls PyProof.Rows in
theorem Q8 (w : World) (os : OsState) : (eF (w.withFollow "special-get-raises" false) os).map (ob) = some (hk.val (w.withFollow "special-get-raises" false)) := by
 kernel_rfl
theorem V4 (w : World) : HandSHeadRun.RunEq R (PySem.W.view R.prog [44]) hk ob 8000 loose (w.withFollow "special-get-raises" false) := fun os => He.aCm (MR w os) (Q8 w os)
open PySem PySem.W PySem.Calls PyProof.Rows in
theorem SG (w : World) (os : OsState) : (eF (w.withFollow "special-get-raises" true) os).map (fun s => (HandSHeadRun.looksF R.prog (boot_heap (w.withFollow "special-get-raises" true).params) s.abs, HandSHeadRun.seenQ (PySem.W.view R.prog [44]) loose (importedModules R.prog.main.body) (fun s => xlAt (PySem.W.view R.prog [44]) [] s && recOk R.toRowW.records s) s.abs)) = some (true, openGood (PySem.W.view R.prog [44]) loose) := by
 kernel_rfl
open PySem PySem.W PySem.Calls PyProof.Rows in
theorem V0 (w : World) (os : OsState) : (eF (w.withFollow "special-get-raises" true) os).map (ob) = some (hk.val (w.withFollow "special-get-raises" true)) := by
 kernel_rfl
theorem Z1 (w : World) : HandSHeadRun.RunEq R (PySem.W.view R.prog [44]) hk ob 8000 loose (w.withFollow "special-get-raises" true) := fun os => He.aCm (SG w os) (V0 w os)
theorem run (w : World) : HandSHeadRun.RunEq R (PySem.W.view R.prog [44]) hk ob 8000 loose w := PySem.W.byRow2 "special-get-raises" (P := fun w => HandSHeadRun.RunEq R (PySem.W.view R.prog [44]) hk ob 8000 loose w) V4 Z1 w
section
 open PySem PySem.W PySem.Calls PyProof.Rows
def early : { E : Prop // E → PySem.Challenge.rw_onemaster_k06_great_plans.Holds } := ⟨_, fun hc => by
 w_on; o_law
 refine HandSHeadRun.head_any (r := OpenLaw.row PySem.Challenge.rw_onemaster_k06_great_plans) (q := view (OpenLaw.row PySem.Challenge.rw_onemaster_k06_great_plans).prog [44]) (H := hk) (ob := ob) (M := 8000) (loose := loose) (d := HandSHeadRun.topDef (OpenLaw.row PySem.Challenge.rw_onemaster_k06_great_plans).prog 44) (kwd := []) aED
  (by kernel_rfl) (fun s => by kernel_rfl) run (by kernel_rfl) (by kernel_rfl) (by kernel_rfl) (by rfl) (by first | assumption | decide +kernel) (by decide +kernel) ⟨rfl, rfl, rfl, rfl, rfl, by decide +kernel⟩ ?hw ?hc
 case hw => w_witness2
 case hc => exact hc⟩
end
end K06H
set_option maxHeartbeats 4000000
namespace Pc
open PySem PySem.Spec PyProof.Rows L2
def EY (w : W) (d c : Nat) : Prop := d ≠ c ∧ ∃ (cells : List Int) (sm n : Int), w[d]? = some (.lst [.ref c, .int sm, .int n]) ∧ w[c]? = some (.lst (cells.map .int)) ∧ cells.length ≤ 63
def Kept (w w' : W) (d c : Nat) : Prop := w'.length = w.length ∧ ∀ i, i ≠ d → i ≠ c → w'[i]? = w[i]?
theorem FV : ∀ cells : List Int, PyData.canLayAll0 (cells.map PyData.int) = true
 | [] => rfl
 | x :: xs => by simp [PyData.canLayAll0, PyData.canLay0, FV xs]
theorem EN : ∀ cells : List Int, PyData.depthAll (cells.map PyData.int) ≤ 1
 | [] => by simp [PyData.depthAll]
 | x :: xs => by
  have := EN xs
  simp only [List.map_cons, PyData.depthAll, PyData.depth]
  omega
theorem lay_ints (cells : List Int) : SeqAt.shaped (.list (cells.map PyData.int)) = true := by
 have h1 := FV cells
 have h2 := EN cells
 unfold SeqAt.shaped
 simp [PyData.canLay0, PyData.depth, h1]
 omega
theorem DN (f : Nat → Option PyData) (cells : List Int) : D.pysR f (cells.map D.int) = some (cells.map PyData.int) := by
 induction cells with
 | nil => rfl
 | cons x xs ih => simp [D.pysR, D.gD, ih]
theorem aC7 {w : W} {c : Nat} {cells : List Int} (h : w[c]? = some (.lst (cells.map D.int))) : D.py w (.ref c) = some (.list (cells.map PyData.int)) := by
 show ML 8 w c = _
 simp [ML, h, DN]
theorem ne_nil {w : W} {c : Nat} {cells : List Int} (h : w[c]? = some (.lst (cells.map D.int))) : mQ (.ref c) (.lst []) w = .ok (.bl (!cells.isEmpty)) w := by
 unfold mQ vR vT
 rw [aC7 h]
 have e : D.py w (.lst []) = some (.list []) := rfl
 rw [e]
 have l2 : SeqAt.shaped (.list []) = true := lay_ints []
 simp only [lay_ints, l2, and_self, ah]
 cases cells <;> simp [PyData.eqv, PyData.eqvAll]
@[irreducible] def T {α : Type} (r : Res α) (P : α → W → Prop) : Prop := match r with
 | .ok a w => P a w
 | _ => False
section
variable {α β : Type} {P Q : α → W → Prop} {r : Res α}
theorem T.ex (h : T r P) : ∃ a w, r = .ok a w ∧ P a w := by
 unfold T at h
 cases r with
 | ok a w => exact ⟨a, w, rfl, h⟩
 | yE x w => exact h.elim
 | bad => exact h.elim
theorem T.of {a : α} {w : W} (h : r = .ok a w) (p : P a w) : T r P := by unfold T; rw [h]; exact p
theorem T.mono (h : T r P) (k : ∀ a w, r = .ok a w → P a w → Q a w) : T r Q := by
 obtain ⟨a, w, e, p⟩ := h.ex
 exact T.of e (k a w e p)
theorem b5 {a : α} {w : W} : T (.ok a w) P = P a w := by unfold T; rfl
theorem aCI : T .bad P = False := by unfold T; rfl
theorem bC {r : Res α} {f : α → W → Res β} {P : β → W → Prop} : T (r.bind f) P = T r fun a w => T (f a w) P := by cases r <;> (first | rfl | (unfold T; rfl) | (unfold Then; rfl))
theorem yW : T r.L0 P = T r P := by cases r <;> (first | rfl | (unfold T; rfl) | (unfold Then; rfl))
theorem HV {c : Prop} [Decidable c] {a b : Res α} : T (if c then a else b) P = (if c then T a P else T b P) := by split <;> (first | rfl | (unfold T; rfl) | (unfold Then; rfl))
theorem dD {c : Prop} [Decidable c] {a : Res α} : T (if c then a else .bad) P = (c ∧ T a P) := by
 by_cases h : c
 ·rw [if_pos h]; exact propext ⟨fun z => ⟨h, z⟩, fun z => z.2⟩
 ·rw [if_neg h]; exact propext ⟨fun z => by unfold T at z; exact z.elim, fun z => absurd z.1 h⟩
end
section
variable {σ : Sg} {w : W} {P : D → W → Prop} {PA : List D → W → Prop} {PB : Bool → W → Prop} {PF : Fl → W → Prop} {a b c : ME} {ma mk : MA} {ta tb : MT} {sa sb : MS} {g : MG} {gs : NA} {f : D → D → W → Res D} {d x y : D}
theorem T_C : T (eC d σ w) P = P d w := by unfold T; rfl
theorem T_V {i : Nat} : T (aB i σ w) P = (match σ[i]? with
 | some (some d) => P d w
 | _ => False) := by
 unfold aB
 cases h : σ[i]? with
 | none => unfold T; rfl
 | some o => cases o <;> (first | rfl | (unfold T; rfl) | (unfold Then; rfl))
theorem QB : T (aC f a b σ w) P = T (a σ w) fun x w1 => T (b σ w1) fun y w2 => T (f x y w2) P := by unfold aC; simp only [bC]
theorem WN {f : D → W → Res D} : T (AF f a σ w) P = T (a σ w) fun x w1 => T (f x w1) P := by unfold AF; simp only [bC]
theorem PY : T (jM a b σ w) P = T (a σ w) fun x w1 => T (gX x w1) fun c _ => if c = true then T (b σ w1) P else P x w1 := by unfold jM; simp only [bC, HV, b5]
theorem WQ : T (eOr a b σ w) P = T (a σ w) fun x w1 => T (gX x w1) fun c _ => if c = true then P x w1 else T (b σ w1) P := by unfold eOr; simp only [bC, HV, b5]
theorem aAc : T (T3 ta a b σ w) P = T (ta σ w) fun c w1 => if c = true then T (a σ w1) P else T (b σ w1) P := by unfold T3; simp only [bC, HV]
theorem AI : T (aD σ w) PA = PA [] w := by unfold T; rfl
theorem vF : T (aA a ma σ w) PA = T (a σ w) fun x w1 => T (ma σ w1) fun xs w2 => PA (x :: xs) w2 := by unfold aA; simp only [bC, b5]
theorem NO : T (bW ma σ w) P = T (ma σ w) fun xs w1 => xs.length ≤ sizeLine ∧ P (.tup xs) w1 := by unfold bW; simp only [bC, dD, b5]
theorem N1 : T (gT ma σ w) P = T (ma σ w) fun xs w1 => xs.length ≤ sizeLine ∧ P (.lst xs) w1 := by unfold gT; simp only [bC, dD, b5]
theorem OE : T (eNew ma σ w) P = T (ma σ w) fun xs w1 => xs.length ≤ sizeLine ∧ P (.ref w1.length) (w1 ++ [.lst xs]) := by unfold eNew; simp only [bC, dD, b5]
theorem N3 {m : MF} : T (aQ m ma σ w) P = T (ma σ w) fun xs w1 => T (m xs w1) P := by unfold aQ; simp only [bC]
theorem FW {t : String} {m : TC} : T (b7 t m a ma σ w) P = T (a σ w) fun d w1 => LZ d w1 = some t ∧ T (ma σ w1) fun xs w2 => T (m d xs w2) P := by unfold b7; simp only [bC, dD]
theorem EB {m : MF} {n : Nat} {gd : List D → List D → List D} : T (aM m n gd ma σ w) P = T (ma σ w) fun xs w1 => xs.length = n ∧ T (m (gd xs []) w1) P := by unfold aM; simp only [bC, dD]
theorem zX {m : MF} {n j : Nat} {gd : List D → List D → List D} : T (SA m n j gd ma mk σ w) P = T (ma σ w) fun xs w1 => T (mk σ w1) fun zs w2 => (xs.length = n ∧ zs.length = j) ∧ T (m (gd xs zs) w2) P := by unfold SA; simp only [bC, dD]
theorem C0 {m : MF} {C : Addr} {h : List D → List D} : T (qG m C h w) P = T (m (h [.ref w.length]) (w ++ [.ins C []])) fun r w1 => r = .non ∧ P (.ref w.length) w1 := by
 unfold qG
 simp only [bC]
 congr 1
 funext r w1
 cases r <;> simp [T]
theorem x9 {m : MF} {C : Addr} {n j : Nat} {gd : List D → List D → List D} : T (xW C m n j gd ma mk σ w) P = T (ma σ w) fun xs w1 => T (mk σ w1) fun zs w2 => (xs.length = n ∧ zs.length = j) ∧ T (qG m C (fun s => gd (s ++ xs) zs) w2) P := by unfold xW; simp only [bC, dD]
theorem M8 {C : Addr} {z : Str} : T (bG C z a σ w) P = T (a σ w) fun x w1 => T (oQ C z x w1) P := by unfold bG AF; simp only [bC]
theorem XW {g : D → D → W → Res D} : T (UO f g a b c σ w) P = T (a σ w) fun x w1 => T (b σ w1) fun y w2 => T (f x y w2) fun r w3 => match r with
 | .bl k => if k = true then T (c σ w3) fun z w4 => T (g y z w4) P else P (.bl false) w3
 | _ => False := by
 unfold UO
 simp only [bC]
 congr 1; funext x w1; congr 1; funext y w2; congr 1; funext r w3
 cases r <;> first | (unfold T; rfl) | skip
 rename_i k
 cases k
 ·unfold T; rfl
 ·exact bC
theorem OO : T (bA a σ w) PB = T (a σ w) fun x w1 => match x with
 | .bl k => PB k w1
 | _ => False := by
 unfold bA
 simp only [bC]
 congr 1; funext x w1
 cases x <;> (first | rfl | (unfold T; rfl) | (unfold Then; rfl))
theorem M7 : T (eP a σ w) PB = T (a σ w) fun x w1 => T (gX x w1) PB := by unfold eP; simp only [bC]
theorem uP : T (cQ ta σ w) PB = T (ta σ w) fun k w1 => PB (!k) w1 := by unfold cQ; simp only [bC, b5]
theorem wQ : T (gI ta tb σ w) PB = T (ta σ w) fun k w1 => if k = true then T (tb σ w1) PB else PB false w1 := by unfold gI; simp only [bC, HV, b5]
theorem NT : T (gH ta tb σ w) PB = T (ta σ w) fun k w1 => if k = true then PB true w1 else T (tb σ w1) PB := by unfold gH; simp only [bC, HV, b5]
theorem yL : T (bU σ w) PB = PB true w := by unfold T; rfl
def Then (b : MS) (PF : Fl → W → Prop) : Fl → W → Prop := fun f w => match f with
 | .nx σ => T (b σ w) PF
 | f => PF f w
theorem aX : T (aH sa sb σ w) PF = T (sa σ w) (Then sb PF) := by
 unfold aH
 simp only [bC]
 congr 1; funext f w1
 cases f <;> (first | rfl | (unfold T; rfl) | (unfold Then; rfl))
theorem eN {σ : Sg} : Then sb PF (.nx σ) w = T (sb σ w) PF := by first | rfl | (unfold Then; rfl)
theorem zV {d : D} : Then sb PF (.rt d) w = PF (.rt d) w := by first | rfl | (unfold Then; rfl)
theorem OK : T (aZ a σ w) PF = T (a σ w) fun d w1 => PF (.rt d) w1 := by unfold aZ; simp only [bC, b5]
theorem FP : T (dE a σ w) PF = T (a σ w) fun _ w1 => PF (.nx σ) w1 := by unfold dE; simp only [bC, b5]
theorem vW : T (dW ta sa sb σ w) PF = T (ta σ w) fun k w1 => if k = true then T (sa σ w1) PF else T (sb σ w1) PF := by unfold dW; simp only [bC, HV]
theorem E2 : T (aW σ w) PF = PF (.nx σ) w := by unfold T; rfl
theorem QC : T (aT a g σ w) PF = T (a σ w) fun d w1 => T (g d σ w1) fun s w2 => PF (.nx s) w2 := by unfold aT; simp only [bC, b5]
theorem XR {i : Nat} {PS : Sg → W → Prop} : T (aU i d σ w) PS = PS (σ.set i (some d)) w := by unfold T; rfl
theorem GI {PS : Sg → W → Prop} : T (eO a b d σ w) PS = T (a σ w) fun o w1 => T (b σ w1) fun i w2 => T (setM o i d w2) fun _ w3 => PS σ w3 := by unfold eO; simp only [bC, b5]
theorem AU {C : Addr} {z : Str} : T (cI C z a b σ w) PF = T (b σ w) fun x w1 => T (a σ w1) fun d w2 => T (sL C z d x w2) fun _ w3 => PF (.nx σ) w3 := by unfold cI; simp only [bC, b5]
theorem EA {n : Nat} {xs : List D} {PS : Sg → W → Prop} : T (bY n gs (.tup xs) σ w) PS = (xs.length = n ∧ T (gs xs σ w) PS) := by simp only [bY, dD]
theorem yN {n : Nat} {xs : List D} {PS : Sg → W → Prop} : T (bY n gs (.jL xs) σ w) PS = (xs.length = n ∧ T (gs xs σ w) PS) := by simp only [bY, dD]
theorem DX {PS : Sg → W → Prop} : T (bS [] σ w) PS = PS σ w := by unfold T; rfl
theorem zG {xs : List D} {PS : Sg → W → Prop} : T (aI g gs (d :: xs) σ w) PS = T (g d σ w) fun s w1 => T (gs xs s w1) PS := by simp only [aI, bC]
theorem eA {mb : MS} {N : List Str} {ds : List D} : T (bL mb N ds w) P = T (mb (begin N ds) w) fun f w1 => match f with
 | .nx _ => P .non w1
 | .rt d => P d w1
 | _ => False := by
 unfold bL
 simp only [bC]
 congr 1; funext f w1
 cases f <;> (first | rfl | (unfold T; rfl) | (unfold Then; rfl))
end
section
variable {w : W} {P : D → W → Prop} {a b : Int} {x y d : D}
theorem qW : T (bQ (.int a) (.int b) w) P = P (.int (a + b)) w := by unfold T; rfl
theorem DT : T (mU (.int a) (.int b) w) P = P (.int (a - b)) w := by unfold T; rfl
theorem zU : T (mulM (.int a) (.int b) w) P = (DZ a b = true ∧ P (.int (a * b)) w) := by unfold mulM; simp only [dD, b5]
theorem wJ : T (kL (.int a) (.int b) w) P = (0 < b ∧ P (.int (a % b)) w) := by unfold kL; simp only [dD, b5]
theorem sA : T (wM (.int a) (.int b) w) P = ((0 < b ∧ b < 1073741824) ∧ P (.int (a / b)) w) := by unfold wM; simp only [dD, b5]
theorem QG : T (tX (.int a) w) P = P (.int (-a)) w := by unfold T; rfl
theorem YD : T (TJ (.int a) (.int b) w) P = P (.bl (decide (a < b))) w := by unfold T; rfl
theorem YE : T (G5 (.int a) (.int b) w) P = P (.bl (decide (a ≤ b))) w := by unfold T; rfl
theorem aAh : T (II (.int a) (.int b) w) P = P (.bl (decide (b < a))) w := by unfold T; rfl
theorem VI : T (geM (.int a) (.int b) w) P = P (.bl (decide (b ≤ a))) w := by unfold T; rfl
theorem q9 {xs ys : List D} : T (bQ (.tup xs) (.tup ys) w) P = (xs.length + ys.length ≤ sizeLine ∧ P (.tup (xs ++ ys)) w) := by unfold bQ; simp only [dD, b5]
theorem fS {xs ys : List D} : T (bQ (.lst xs) (.lst ys) w) P = (xs.length + ys.length ≤ sizeLine ∧ P (.lst (xs ++ ys)) w) := by unfold bQ; simp only [dD, b5]
theorem qH : T (isM x .non w) P = P (.bl x.isNon) w := by cases x <;> (first | rfl | (unfold T; rfl))
theorem OZ {p q : Bool} : T (isM (.bl p) (.bl q) w) P = P (.bl (decide (p = q))) w := by unfold T; rfl
theorem tE : T (WL x .non w) P = P (.bl (!x.isNon)) w := by cases x <;> (first | rfl | (unfold T; rfl))
theorem tQ {p q : Bool} : T (WL (.bl p) (.bl q) w) P = P (.bl (!decide (p = q))) w := by unfold T; rfl
theorem NI : T (notM x w) P = T (gX x w) fun c _ => P (.bl (!c)) w := by unfold notM; simp only [bC, b5]
theorem FX {p : Bool} {PB : Bool → W → Prop} : T (gX (.bl p) w) PB = PB p w := by unfold T; rfl
theorem ER {PB : Bool → W → Prop} : T (gX (.int a) w) PB = PB (a != 0) w := by unfold T; rfl
theorem EV {PB : Bool → W → Prop} : T (gX .non w) PB = PB false w := by unfold T; rfl
theorem nO {xs : List D} : T (YS xs (.int a) w) P = ∃ d, atI xs a = some d ∧ P d w := by
 show T (match atI xs a with
  | some d => Res.ok d w
  | none => .bad) P = _
 cases atI xs a with
 | none => simp [T]
 | some d => simp [T]
theorem NB {xs : List D} : T (aV (.tup xs) y w) P = T (YS xs y w) P := by unfold T; rfl
theorem OI {xs : List D} : T (aV (.jL xs) y w) P = T (YS xs y w) P := by unfold T; rfl
theorem oF {xs : List D} : T (aV (.lst xs) y w) P = T (YS xs y w) P := by unfold T; rfl
theorem IL {i : Nat} {kvs : List (Key × D)} {z : Str} (h : w[i]? = some (.dK kvs)) : T (aV (.ref i) (.str z) w) P = ∃ d, pD kvs (.inr z) = some d ∧ P d w := by
 simp only [aV, h, sO, keyD, Option.map_some]
 cases pD kvs (Sum.inr z) with
 | none => simp [T]
 | some d => simp [T]
theorem AH : T (fG x y w) P = ∃ r, vR x y w = some r ∧ P (.bl r) w := by
 unfold fG
 cases vR x y w with
 | none => simp [T]
 | some r => simp [T]
theorem P4 : T (mQ x y w) P = ∃ r, vR x y w = some r ∧ P (.bl (!r)) w := by
 unfold mQ
 cases vR x y w with
 | none => simp [T]
 | some r => simp [T]
theorem lN : vR (.int a) (.int b) w = some (a == b) := by simp [vR, vT, D.py, D.gD, SeqAt.shaped, PyData.canLay0, PyData.depth, PyData.eqv]
theorem aAG : T (M5 x y w) P = ∃ r, inD x y w = some r ∧ P (.bl r) w := by
 unfold M5
 cases inD x y w with
 | none => simp [T]
 | some r => simp [T]
theorem UP : T (cY [d] w) P = ∃ n, FZ d w = some n ∧ P (.int n) w := by
 show T (match FZ d w with
  | some n => Res.ok (D.int n) w
  | none => .bad) P = _
 cases FZ d w with
 | none => simp [T]
 | some n => simp [T]
theorem aDG : T (sM [d] w) P = ∃ z, EC d w = some z ∧ P (.str z) w := by
 show T (match EC d w with
  | some n => Res.ok (D.str n) w
  | none => .bad) P = _
 cases EC d w with
 | none => simp [T]
 | some n => simp [T]
theorem AJ {C : Addr} {z : Str} {i : Nat} {fs : List (Str × D)} (h : w[i]? = some (.ins C fs)) : T (oQ C z (.ref i) w) P = ∃ d, fs.lookup z = some d ∧ P d w := by
 simp only [oQ, h, ah]
 cases fs.lookup z with
 | none => simp [T]
 | some d => simp [T]
theorem aEc {i : Nat} {kvs : List (Key × D)} {z : Str} {PU : Unit → W → Prop} (h : w[i]? = some (.dK kvs)) : T (setM (.ref i) (.str z) d w) PU = (kvs.length < sizeLine ∧ PU () (w.set i (.dK (putD kvs (.inr z) d)))) := by
 simp only [setM, h, keyD, dD, b5]
theorem qP {C : Addr} {z : Str} {i : Nat} {fs : List (Str × D)} {PU : Unit → W → Prop} (h : w[i]? = some (.ins C fs)) : T (sL C z (.ref i) d w) PU = (fs.length < 1000 ∧ PU () (w.set i (.ins C (uJ z d fs)))) := by
 simp only [sL, h, true_and, dD, b5]
end
theorem aDL {it : mG} {g : MG} {body : MS} {P : Fl → W → Prop} (Inv : Nat → Sg → W → Prop) (ok : ∀ i σ w, Inv i σ w → it.ok w)
  (step : ∀ i x σ w, it.xs[i]? = some x → Inv i σ w → T (g x σ w) fun σ1 w1 => T (body σ1 w1) fun f w2 => match f with
   | .nx s => Inv (i + 1) s w2
   | .ct s => Inv (i + 1) s w2
   | .bk s => P (.nx s) w2
   | .rt d => P (.rt d) w2) (fin : ∀ σ w, Inv it.xs.length σ w → P (.nx σ) w) : ∀ {i : Nat} {σ : Sg} {w : W}, i ≤ it.xs.length → Inv i σ w → T (forL it g body (it.xs.drop i) σ w) P := by
 intro i
 generalize hn : it.xs.length - i = n
 induction n generalizing i with
 | zero =>
  intro σ w hi h
  have e : i = it.xs.length := by omega
  subst e
  rw [List.drop_length]
  unfold forL
  rw [if_pos (ok _ _ _ h)]
  rw [b5]; exact fin σ w h
 | succ n ih =>
  intro σ w hi h
  have hlt : i < it.xs.length := by omega
  rw [List.drop_eq_getElem_cons hlt]
  unfold forL
  rw [if_pos (ok _ _ _ h), bC]
  refine (step i _ σ w (bq hlt) h).mono fun s1 w1 _ q => ?_
  rw [bC]
  refine T.mono q fun f w2 _ q2 => ?_
  cases f with
  | nx s => exact ih (by omega) (by omega) q2
  | ct s => exact ih (by omega) (by omega) q2
  | bk s => rw [b5]; exact q2
  | rt d => rw [b5]; exact q2
theorem IF {m : MI} {g : MG} {body : MS} {σ : Sg} {w : W} {P : Fl → W → Prop} : T (gM m g body σ w) P = T (m σ w) fun it w1 => T (forL it g body it.xs σ w1) P := by unfold gM; simp only [bC]
theorem T6 {it : mG} {vs : List Nat} {g : MG} {t : MT} {e : ME} {σ : Sg} {P : List D → W → Prop} (Inv : Nat → List D → W → Prop) (ok : ∀ i acc w, Inv i acc w → it.ok w)
  (step : ∀ i x acc w, it.xs[i]? = some x → Inv i acc w → T (g x (dP σ vs) w) fun σ1 w1 => T (t σ1 w1) fun b w2 => if b = true then T (e σ1 w2) fun y w3 => Inv (i + 1) (acc ++ [y]) w3 else Inv (i + 1) acc w2)
  (fin : ∀ acc w, Inv it.xs.length acc w → P acc w) : ∀ {i : Nat} {acc : List D} {w : W}, i ≤ it.xs.length → Inv i acc w → T (pH it vs g t e (it.xs.drop i) σ w) fun ys w1 => P (acc ++ ys) w1 := by
 intro i
 generalize hn : it.xs.length - i = n
 induction n generalizing i with
 | zero =>
  intro acc w hi h
  have e : i = it.xs.length := by omega
  subst e
  rw [List.drop_length]
  unfold pH
  rw [if_pos (ok _ _ _ h)]
  rw [b5, List.append_nil]
  exact fin acc w h
 | succ n ih =>
  intro acc w hi h
  have hlt : i < it.xs.length := by omega
  rw [List.drop_eq_getElem_cons hlt]
  unfold pH
  rw [if_pos (ok _ _ _ h), bC, yW]
  refine (step i _ acc w (bq hlt) h).mono fun s1 w1 _ q => ?_
  rw [bC, yW]
  refine T.mono q fun b w2 _ q2 => ?_
  cases b with
  | true =>
   simp only [ah] at q2 ⊢
   rw [bC, yW]
   refine T.mono q2 fun y w3 _ q3 => ?_
   rw [bC]
   refine (ih (by omega) (by omega) q3).mono fun ys w4 _ q4 => ?_
   rw [b5]
   simpa using q4
  | false =>
   simp only [bj, ae] at q2 ⊢
   exact ih (by omega) (by omega) q2
theorem D1 {m : MI} {vs : List Nat} {g : MG} {t : MT} {e : ME} {σ : Sg} {w : W} {P : D → W → Prop} : T (bR m vs g t e σ w) P = T (m σ w) fun it w1 => it.xs.length ≤ sizeLine ∧ T (pH it vs g t e it.xs σ w1) fun ys w2 => P (.lst ys) w2 := by
 unfold bR TU
 simp only [bC, dD, b5]
structure u7 (w w' : W) (d c : Nat) : Prop where
 le : w.length ≤ w'.length
 at_ : ∀ i, i < w.length → i ≠ d → i ≠ c → w'[i]? = w[i]?
section
variable {w w1 w2 : W} {d c i : Nat} {o : MO}
theorem u7.refl : u7 w w d c := ⟨av _, fun _ _ _ _ => rfl⟩
theorem u7.trans (a : u7 w w1 d c) (b : u7 w1 w2 d c) : u7 w w2 d c := ⟨cq a.le b.le, fun i h1 h2 h3 => (b.at_ i (Nat.lt_of_lt_of_le h1 a.le) h2 h3).trans (a.at_ i h1 h2 h3)⟩
theorem Kept.refl : Kept w w d c := ⟨rfl, fun _ _ _ => rfl⟩
theorem Kept.trans (a : Kept w w1 d c) (b : Kept w1 w2 d c) : Kept w w2 d c := ⟨b.1.trans a.1, fun i h1 h2 => (b.2 i h1 h2).trans (a.2 i h1 h2)⟩
theorem Kept.obj (a : Kept w w1 d c) (h : w[i]? = some o) (h1 : i ≠ d) (h2 : i ≠ c) : w1[i]? = some o := by rw [a.2 i h1 h2]; exact h
theorem Kept.grow (k : Kept w w1 d c) : u7 w w1 d c := ⟨Nat.le_of_eq k.1.symm, fun i _ h2 h3 => k.2 i h2 h3⟩
theorem u7.app {g : W} : u7 w (w ++ g) d c := ⟨by simp, fun i h _ _ => by rw [au h]⟩
theorem u7.obj (a : u7 w w1 d c) (h : w[i]? = some o) (h1 : i ≠ d) (h2 : i ≠ c) : w1[i]? = some o := by rw [a.at_ i (aj.mp h).1 h1 h2]; exact h
theorem EY.lt (h : EY w d c) : d < w.length ∧ c < w.length := by
 obtain ⟨_, cells, sm, n, h1, h2, _⟩ := h
 exact ⟨(aj.mp h1).1, (aj.mp h2).1⟩
theorem EY.app {g : W} (h : EY w d c) : EY (w ++ g) d c := by
 obtain ⟨l1, l2⟩ := h.lt
 obtain ⟨hne, cells, sm, n, h1, h2, h3⟩ := h
 exact ⟨hne, cells, sm, n, by rw [au l1]; exact h1, by rw [au l2]; exact h2, h3⟩
theorem EY.set (h : EY w d c) (h1 : i ≠ d) (h2 : i ≠ c) : EY (w.set i o) d c := by
 obtain ⟨hne, cells, sm, n, g1, g2, g3⟩ := h
 exact ⟨hne, cells, sm, n, by rw [bc h1]; exact g1, by rw [bc h2]; exact g2, g3⟩
end
section
variable {σ : Sg} {w : W} {PI : mG → W → Prop} {P : D → W → Prop}
theorem GC {m : ME} : T (eD m σ w) PI = T (m σ w) fun d w1 => T (iterM d w1) PI := by unfold eD; simp only [bC]
theorem FF {f : List D → W → Res mG} {ma : MA} : T (eY f ma σ w) PI = T (ma σ w) fun xs w1 => T (f xs w1) PI := by unfold eY; simp only [bC]
theorem NS {xs : List D} : T (iterM (.tup xs) w) PI = PI ⟨xs, always⟩ w := by unfold T; rfl
theorem QF {xs : List D} : T (iterM (.lst xs) w) PI = PI ⟨xs, always⟩ w := by unfold T; rfl
theorem FD {n : Int} (h : 0 ≤ n) (h2 : n < 1073741824) : T (mN [.int n] w) PI = PI (pX 0 n.toNat) w := by
 simp only [mN]
 rw [if_pos (by constructor <;> omega)]
 unfold T; rfl
theorem zN {PO : Option Int → W → Prop} : T (cJ σ w) PO = PO none w := by unfold T; rfl
theorem zW {m : ME} {PO : Option Int → W → Prop} : T (bX m σ w) PO = T (m σ w) fun d w1 => match d with
 | .int i => PO (some i) w1
 | _ => False := by
 unfold bX
 simp only [bC]
 congr 1; funext d w1
 cases d <;> (unfold T; rfl)
theorem ZX {f : D → Option Int → Option Int → W → Res D} {a : ME} {lo hi : MO'} : T (lE f a lo hi σ w) P = T (a σ w) fun x w1 => T (lo σ w1) fun l w2 => T (hi σ w2) fun u w3 => T (f x l u w3) P := by unfold lE; simp only [bC]
theorem vD : ∀ ns : List Int, lS (ns.map D.int) = some ns
 | [] => rfl
 | n :: ns => by simp [lS, vD ns]
theorem aBT {ns : List Int} {lo hi : Option Int} : ∃ ms : List Int, cutD (ns.map D.int) lo hi = ms.map D.int ∧ ms.length ≤ ns.length := by
 unfold cutD
 rw [← List.map_drop, ← List.map_take]
 exact ⟨_, rfl, by simp; omega⟩
end
def eT (r : List Int) : D := .tup (r.map .int)
def dU (t : Int × Int × Int) : D := .tup [.int t.1, .int t.2.1, .int t.2.2]
structure Mo where
 cD : List (List Int)
 mW : Int
 zO : Int
 xV : Int
 bears : D
 gap : Int
 hold : Int
 takes : Bool
 cK : List (Int × Int × Int)
 gR : Int
def Mo.kvs (m : Mo) : List (Key × D) := [(.inr "ranks", .tup (m.cD.map eT)), (.inr "every", .int m.mW), (.inr "lost", .int m.zO), (.inr "slow", .int m.xV), (.inr "bears", m.bears), (.inr "gap", .int m.gap), (.inr "hold", .int m.hold),
 (.inr "takes", .bl m.takes), (.inr "ties", .tup (m.cK.map dU)), (.inr "hosts", .int m.gR)]
structure aB4 (rs : List (List Int)) (h : Nat) : Prop where
 h1 : 1 ≤ h
 h6 : h ≤ 6
 row : ∀ r ∈ rs, r.length = h ∧ ∀ x ∈ r, 1 ≤ x ∧ x ≤ 12
structure aC5 (ts : List (Int × Int × Int)) (h : Nat) : Prop where
 few : ts.length ≤ 6
 each : ∀ t ∈ ts, (0 ≤ t.1 ∧ t.1 < h) ∧ (0 ≤ t.2.1 ∧ t.2.1 ≤ 9) ∧ (1 ≤ t.2.2 ∧ t.2.2 ≤ 11)
 up : ts.Pairwise fun a b => a.1 < b.1 ∨ (a.1 = b.1 ∧ a.2.1 < b.2.1)
theorem uG {n : Nat} {i : Nat} {x : D} {lo : Int} (h : (pX lo n).xs[i]? = some x) : i < n ∧ x = .int (lo + i) := by
 have h' : ((List.range n).map fun k : Nat => D.int (lo + (k : Int)))[i]? = some x := h
 rw [bt] at h'
 by_cases hi : i < n
 ·rw [List.getElem?_range hi] at h'
  cases h'
  exact ⟨hi, rfl⟩
 ·rw [List.getElem?_eq_none (by simpa using hi)] at h'
  cases h'
theorem jJ {n : Nat} {lo : Int} : (pX lo n).xs.length = n := by simp [pX]
open PySem.W (dataLe)
def pairD (p : Int × Int) : D := .tup [.int p.1, .int p.2]
theorem aDM {t : Int × Int × Int} {w : W} : iU (dU t) none (some 2) w = .ok (pairD (t.1, t.2.1)) w := rfl
section
variable {σ : Sg} {w : W} {P : D → W → Prop} {PP : List (D × D) → W → Prop}
theorem SN : T (GR σ w) PP = PP [] w := by unfold T; rfl
theorem JJ {a b : ME} {r : MP} : T (eE a b r σ w) PP = T (a σ w) fun k w1 => T (b σ w1) fun v w2 => T (r σ w2) fun ps w3 => PP ((k, v) :: ps) w3 := by unfold eE; simp only [bC, b5]
theorem ZG {m : MP} : T (E7 m σ w) P = T (m σ w) fun ps w1 => ∃ kvs, keyed ps = some kvs ∧ kvs.length ≤ 15 ∧ P (.ref w1.length) (w1 ++ [.dK (u6 [] kvs)]) := by
 unfold E7
 simp only [bC]
 congr 1; funext ps w1
 cases keyed ps with
 | none => simp [T]
 | some kvs => simp [dD, b5]
end
section
variable {α β : Type} {it : mG} {vs : List Nat} {g : MG} {t : MT} {e : ME} {σ : Sg} {w : W} {P : List D → W → Prop}
theorem fD (ys : List α) (enc : α → D) (f : α → D) (hx : it.xs = ys.map enc) (hok : it.ok w)
  (h : ∀ y ∈ ys, T (g (enc y) (dP σ vs) w) fun σ1 w1 => T (t σ1 w1) fun b w2 => b = true ∧ T (e σ1 w2) fun z w3 => z = f y ∧ w3 = w) (k : P (ys.map f) w) :
  T (pH it vs g t e it.xs σ w) P := by
 have cl := T6 (it := it) (vs := vs) (g := g) (t := t) (e := e) (σ := σ) (P := P) (fun i acc w1 => w1 = w ∧ acc = (ys.take i).map f) (fun _ _ _ q => by rw [q.1]; exact hok)
  (fun i x acc w1 hi q => by
   obtain ⟨rfl, rfl⟩ := q
   rw [hx, bt] at hi
   cases hy : ys[i]? with
   | none => rw [hy] at hi; cases hi
   | some y =>
    rw [hy] at hi
    cases hi
    refine (h y (bu hy)).mono fun σ1 w2 _ q => q.mono fun b w3 _ q => ?_
    obtain ⟨rfl, q⟩ := q
    rw [if_pos rfl]
    refine q.mono fun z w4 _ q => ⟨q.2, ?_⟩
    rw [List.take_add_one, hy, q.1]
    simp)
  (fun acc w1 q => by
   obtain ⟨rfl, rfl⟩ := q
   rw [hx, ak, List.take_length]
   exact k) (i := 0) (acc := []) (w := w) (Nat.zero_le _) ⟨rfl, rfl⟩
 rw [List.drop_zero] at cl
 exact cl.mono fun _ _ _ q => by simpa using q
theorem SS (ys : List α) (f : α → Bool) : uC (ys.map fun y => D.bl (f y)) = some (ys.map f) := by
 induction ys with
 | nil => rfl
 | cons y ys ih => simp [uC, ih]
theorem A4 {P : D → W → Prop} (ys : List α) (f : α → Bool) : T (allM [.lst (ys.map fun y => .bl (f y))] w) P = P (.bl (ys.all f)) w := by
 have e : allM [.lst (ys.map fun y => .bl (f y))] w = .ok (.bl (ys.all f)) w := by
  simp only [allM, y7, Option.bind_some, SS]
  congr 2
  rw [List.all_map]
  rfl
 rw [e, b5]
theorem aCz (enc f : β → D) : ∀ (zs : List β) (acc : List D) {P : List D → W → Prop} (hok : it.ok w) (hl : acc.length + zs.length ≤ sizeLine)
  (h : ∀ z ∈ zs, T (g (enc z) (dP σ vs) w) fun σ1 w1 => T (t σ1 w1) fun b w2 => b = true ∧ T (e σ1 w2) fun y w3 => y = f z ∧ w3 = w) (k : P (acc ++ zs.map f) w), T (inL it vs g t e acc (zs.map enc) σ w) P
 | [], acc, P, hok, hl, h, k => by
  rw [List.map_nil]
  unfold inL
  rw [if_pos hok, b5]
  simpa using k
 | z :: zs, acc, P, hok, hl, h, k => by
  simp only [List.length_cons] at hl
  rw [List.map_cons]
  unfold inL
  rw [if_pos hok, bC, yW]
  refine (h z (bf ..)).mono fun σ1 w1 _ q => ?_
  rw [bC, yW]
  refine q.mono fun b w2 _ q => ?_
  obtain ⟨rfl, q⟩ := q
  rw [if_pos rfl, bC, yW]
  refine q.mono fun y w3 _ q => ?_
  rw [if_pos (by omega), q.1, q.2]
  exact aCz enc f zs (acc ++ [f z]) hok (by simp; omega) (fun z hz => h z (bp _ hz)) (by simpa using k)
theorem YG (enc : α → D) (inner : α → List β) (enc1 : β → D) (f : α → β → D) {mi1 : MI} {vs1 : List Nat} {g1 : MG} {t1 : MT} : ∀ (ys : List α) (acc : List D) {P : List D → W → Prop} (hok : it.ok w) (hl : acc.length + (ys.map fun y => (inner y).length).sum ≤ sizeLine)
  (h : ∀ y ∈ ys, T (g (enc y) (dP σ vs) w) fun σ1 w1 => T (t σ1 w1) fun b w2 => b = true ∧ T (mi1 σ1 w2) fun it1 w3 => (w3 = w ∧ it1.ok w ∧ it1.xs = (inner y).map enc1) ∧
   ∀ z ∈ inner y, T (g1 (enc1 z) (dP σ1 vs1) w) fun σ2 w4 => T (t1 σ2 w4) fun b w5 => b = true ∧ T (e σ2 w5) fun v w6 => v = f y z ∧ w6 = w)
  (k : P (acc ++ ys.flatMap fun y => (inner y).map (f y)) w), T (zQ it vs g t mi1 vs1 g1 t1 e acc (ys.map enc) σ w) P
 | [], acc, P, hok, hl, h, k => by
  rw [List.map_nil]
  unfold zQ
  rw [if_pos hok, b5]
  simpa using k
 | y :: ys, acc, P, hok, hl, h, k => by
  simp only [List.map_cons, List.sum_cons] at hl
  rw [List.map_cons]
  unfold zQ
  rw [if_pos hok, bC, yW]
  refine (h y (bf ..)).mono fun σ1 w1 _ q => ?_
  rw [bC, yW]
  refine q.mono fun b w2 _ q => ?_
  obtain ⟨rfl, q⟩ := q
  rw [if_pos rfl, bC, yW]
  refine q.mono fun it1 w3 _ q => ?_
  obtain ⟨⟨ew, i1, i2⟩, q⟩ := q
  rw [bC, i2, ew]
  refine aCz enc1 (f y) (inner y) acc i1 (by omega) q ?_
  exact YG enc inner enc1 f ys _ hok (by simp; omega) (fun z hz => h z (bp _ hz)) (by simpa using k)
theorem aBl {m mi1 : MI} {vs1 : List Nat} {g1 : MG} {t1 : MT} {P : D → W → Prop} : T (FQ m vs g t mi1 vs1 g1 t1 e σ w) P = T (m σ w) fun it w1 => T (zQ it vs g t mi1 vs1 g1 t1 e [] it.xs σ w1) fun ys w2 => P (.lst ys) w2 := by
 unfold FQ XA
 simp only [bC, b5]
end
end Pc
namespace Lb
open PySem PySem.Spec PyProof.Rows L2 Pc
structure bN where
 aJ : Addr
 dS : Addr
def dC : List (Str × Option D) := [(("every" : Str), some (.jL [(.int 1), (.int 5)])), (("lost" : Str), some (.jL [(.int 0), (.int 3)])), (("slow" : Str), some (.jL [(.int 1), (.int 4)])), (("bears" : Str), some (.jL [(.int 0), (.int 3)])), (("gap" : Str), some (.jL [(.int 0), (.int 3)])), (("hold" : Str), some (.jL [(.int 0), (.int 20)])), (("hosts" : Str), some (.jL [(.int 0), (.int 4)])), (("takes" : Str), none), (("ties" : Str), none)]
def kX : List Str := [("thing" : Str)]
def oP (k : bN) : MS :=
 (aZ (jM (aQ (mV m7) (aA (aB 0) (aA (eC (.ty "int")) aD))) (AF notM (aQ (mV m7) (aA (aB 0) (aA (eC (.ty "bool")) aD))))))
def jA (k : bN) : MF := bL (oP k) kX
theorem MH (x0 : D) : begin kX [x0] = [some x0] := rfl
def jK : List Str := [("thing" : Str), ("least" : Str), ("most" : Str)]
def lP (k : bN) : MS :=
 (aZ (jM (aM (jA k) 1 aP (aA (aB 0) aD)) (UO G5 G5 (aB 1) (aB 0) (aB 2))))
def bJ (k : bN) : MF := bL (lP k) jK
theorem LS (x0 x1 x2 : D) : begin jK [x0, x1, x2] = [some x0, some x1, some x2] := rfl
def jB : List Str := [("thing" : Str), ("row" : Str), ("rank" : Str)]
def lW (k : bN) : MS :=
 (aH (dW (gH (cQ (eP (aQ (mV m7) (aA (aB 0) (aA (eC (.ty "tuple")) aD))))) (cQ (bA (UO G5 G5 (eC (.int 1)) (aQ cY (aA (aB 0) aD)) (eC (.int 4)))))) (aZ (eC (.bl false))) aW)
 (aH (dW (cQ (eP (aQ allM (aA (bR (eD (aB 0)) [1] (aU 1) bU (jM (aQ (mV m7) (aA (aB 1) (aA (eC (.ty "tuple")) aD))) (aC G5 (aQ cY (aA (aB 1) aD)) (eC (.int 6))))) aD)))) (aZ (eC (.bl false))) aW)
 (aH (dW (gH (bA (aC fG (aC aV (aB 0) (eC (.int 0))) (bW aD))) (cQ (eP (aQ allM (aA (bR (eD (aB 0)) [1] (aU 1) bU (aC fG (aQ cY (aA (aB 1) aD)) (aQ cY (aA (aC aV (aB 0) (eC (.int 0))) aD)))) aD))))) (aZ (eC (.bl false))) aW)
 (aZ (aQ allM (aA (FQ (eD (aB 0)) [1, 2] (aU 1) bU (eD (aB 1)) [2] (aU 2) bU (aM (bJ k) 3 aP (aA (aB 2) (aA (eC (.int 1)) (aA (eC (.int 12)) aD))))) aD))))))
def fH (k : bN) : MF := bL (lW k) jB
theorem J6 (x0 : D) : begin jB [x0] = [some x0, none, none] := rfl
def qQ : List Str := [("thing" : Str), ("houses" : Str), ("house" : Str), ("tie" : Str), ("less" : Str)]
def s9 (k : bN) : MS :=
 (aH (dW (gH (cQ (eP (aQ (mV m7) (aA (aB 0) (aA (eC (.ty "tuple")) aD))))) (bA (aC mQ (aQ cY (aA (aB 0) aD)) (eC (.int 3))))) (aZ (eC (.bl false))) aW)
 (aH (aT (aB 0) (bY 3 (aI (aU 2) (aI (aU 3) (aI (aU 4) bS)))))
 (aZ (jM (aM (bJ k) 3 aP (aA (aB 2) (aA (eC (.int 0)) (aA (aC mU (aB 1) (eC (.int 1))) aD)))) (jM (aM (bJ k) 3 aP (aA (aB 3) (aA (eC (.int 0)) (aA (eC (.int 9)) aD)))) (aM (bJ k) 3 aP (aA (aB 4) (aA (eC (.int 1)) (aA (eC (.int 11)) aD)))))))))
def jP (k : bN) : MF := bL (s9 k) qQ
theorem VD (x0 x1 : D) : begin qQ [x0, x1] = [some x0, some x1, none, none, none] := rfl
def lB : List Str := [("thing" : Str), ("houses" : Str), ("one" : Str), ("other" : Str)]
def nX (k : bN) : MS :=
 (aH (dW (gH (cQ (eP (aQ (mV m7) (aA (aB 0) (aA (eC (.ty "tuple")) aD))))) (gH (bA (aC II (aQ cY (aA (aB 0) aD)) (eC (.int 6)))) (cQ (eP (aQ allM (aA (bR (eD (aB 0)) [2] (aU 2) bU (aM (jP k) 2 aP (aA (aB 2) (aA (aB 1) aD)))) aD)))))) (aZ (eC (.bl false))) aW)
 (aZ (aQ allM (aA (bR (eY zsM (aA (lE iU (aB 0) cJ (bX (AF tX (eC (.int 1))))) (aA (lE iU (aB 0) (bX (eC (.int 1))) cJ) aD))) [2, 3] (bY 2 (aI (aU 2) (aI (aU 3) bS))) bU (aC TJ (lE iU (aB 2) cJ (bX (eC (.int 2)))) (lE iU (aB 3) cJ (bX (eC (.int 2)))))) aD))))
def kZ (k : bN) : MF := bL (nX k) lB
theorem L7 (x0 x1 : D) : begin lB [x0, x1] = [some x0, some x1, none, none] := rfl
def lC : List Str := [("name" : Str), ("thing" : Str), ("houses" : Str), ("least" : Str), ("most" : Str)]
def i9 (k : bN) : MS :=
 (aH (dW (bA (aC (VH k.dS dC) (aB 0) (eC (.con k.dS)))) (aH (aT (aC (LX k.dS dC) (eC (.con k.dS)) (aB 0)) (bY 2 (aI (aU 3) (aI (aU 4) bS))))
 (aZ (aM (bJ k) 3 aP (aA (aB 1) (aA (aB 3) (aA (aB 4) aD)))))) aW)
 (aH (dW (bA (aC fG (aB 0) (eC (.str ("takes" : Str))))) (aZ (aQ (mV m7) (aA (aB 1) (aA (eC (.ty "bool")) aD)))) aW)
 (aZ (aM (kZ k) 2 aP (aA (aB 1) (aA (aB 2) aD))))))
def eB (k : bN) : MF := bL (i9 k) lC
theorem tM (x0 x1 x2 : D) : begin lC [x0, x1, x2] = [some x0, some x1, some x2, none, none] := rfl
def fJ : List Str := [("self" : Str), ("ranks" : Str), ("every" : Str), ("lost" : Str), ("slow" : Str), ("bears" : Str), ("gap" : Str), ("hold" : Str), ("takes" : Str), ("ties" : Str), ("hosts" : Str), ("borne" : Str), ("told" : Str), ("name" : Str), ("thing" : Str)]
def l3 (k : bN) : MS :=
 (aH (dW (cQ (eP (aM (fH k) 1 aP (aA (aB 1) aD)))) KS aW)
 (aH (aT (T3 (bA (aC isM (aB 5) (eC .non))) (aB 3) (aB 5)) (aU 11))
 (aH (aT (E7 (eE (eC (.str ("every" : Str))) (aB 2) (eE (eC (.str ("lost" : Str))) (aB 3) (eE (eC (.str ("slow" : Str))) (aB 4) (eE (eC (.str ("bears" : Str))) (aB 11) (eE (eC (.str ("gap" : Str))) (aB 6) (eE (eC (.str ("hold" : Str))) (aB 7) (eE (eC (.str ("takes" : Str))) (aB 8) GR)))))))) (aU 12))
 (aH (dE (b7 "dict" RC (aB 12) (aA (E7 (eE (eC (.str ("ties" : Str))) (aB 9) (eE (eC (.str ("hosts" : Str))) (aB 10) GR))) aD)))
 (aH (gM (vG (aB 12)) (bY 2 (aI (aU 13) (aI (aU 14) bS))) (dW (cQ (eP (aM (eB k) 3 aP (aA (aB 13) (aA (aB 14) (aA (aQ cY (aA (aC aV (aB 1) (eC (.int 0))) aD)) aD)))))) KS aW))
 (aH (cI k.aJ ("ranks" : Str) (aB 0) (aB 1))
 (aH (cI k.aJ ("every" : Str) (aB 0) (aB 2))
 (aH (cI k.aJ ("lost" : Str) (aB 0) (aB 3))
 (aH (cI k.aJ ("slow" : Str) (aB 0) (aB 4))
 (aH (cI k.aJ ("bears" : Str) (aB 0) (aB 11))
 (aH (cI k.aJ ("gap" : Str) (aB 0) (aB 6))
 (aH (cI k.aJ ("hold" : Str) (aB 0) (aB 7))
 (aH (cI k.aJ ("takes" : Str) (aB 0) (aB 8))
 (aH (cI k.aJ ("ties" : Str) (aB 0) (aB 9))
 (cI k.aJ ("hosts" : Str) (aB 0) (aB 10))))))))))))))))
def gE (k : bN) : MF := bL (l3 k) fJ
abbrev aO (k : bN) : List D → List D → List D := fun xs zs => mE [(0, 0), (0, 1), (1, 0), (1, 1), (1, 2), (1, 3), (1, 4), (1, 5), (1, 6), (1, 7), (1, 8)] xs zs []
def jH : List Str := [("_law_model_here" : Str), ("_law_words" : Str), ("_law_word" : Str)]
def lU (k : bN) : MS :=
 (aH (aT (bR (eD (bW (aA (eC (.str ("every" : Str))) (aA (eC (.str ("lost" : Str))) (aA (eC (.str ("slow" : Str))) (aA (eC (.str ("bears" : Str))) (aA (eC (.str ("gap" : Str))) (aA (eC (.str ("hold" : Str))) (aA (eC (.str ("takes" : Str))) (aA (eC (.str ("ties" : Str))) (aA (eC (.str ("hosts" : Str))) aD))))))))))) [2] (aU 2) bU (aC aV (aB 0) (aB 2))) (aU 1))
 (aZ (xW k.aJ (gE k) 1 9 (aO k) (aA (aC aV (aB 0) (eC (.str ("ranks" : Str)))) aD) (aA (aC aV (aB 1) (eC (.int 0))) (aA (aC aV (aB 1) (eC (.int 1))) (aA (aC aV (aB 1) (eC (.int 2))) (aA (aC aV (aB 1) (eC (.int 3))) (aA (aC aV (aB 1) (eC (.int 4))) (aA (aC aV (aB 1) (eC (.int 5))) (aA (aC aV (aB 1) (eC (.int 6))) (aA (aC aV (aB 1) (eC (.int 7))) (aA (aC aV (aB 1) (eC (.int 8))) aD))))))))))))
def jD (k : bN) : MF := bL (lU k) jH
def VL : List Str := [("plan" : Str), ("rank" : Str)]
def VG (k : bN) : MS :=
 (aZ (aC bQ (eC (.int 2)) (aC mulM (bG k.aJ ("gap" : Str) (aB 0)) (aC mU (eC (.int 12)) (aB 1)))))
def VC (k : bN) : MF := bL (VG k) VL
def DY : List Str := [("plan" : Str), ("lost" : Str)]
def D9 (k : bN) : MS :=
 (aZ (aC bQ (aC mulM (aC bQ (aB 1) (eC (.int 1))) (bG k.aJ ("every" : Str) (aB 0))) (bG k.aJ ("slow" : Str) (aB 0))))
def EU (k : bN) : MF := bL (D9 k) DY
def U1 : List Str := [("plan" : Str), ("rank" : Str)]
def VW (k : bN) : MS :=
 (aZ (aC bQ (aM (EU k) 2 aP (aA (aB 0) (aA (bG k.aJ ("bears" : Str) (aB 0)) aD))) (aC mulM (bG k.aJ ("gap" : Str) (aB 0)) (aC mU (eC (.int 12)) (aB 1)))))
def HZ (k : bN) : MF := bL (VW k) U1
def kT : List Str := [("self" : Str)]
def nY (k : bN) : MS :=
 (aZ (aQ cY (aA (aC aV (bG k.aJ ("ranks" : Str) (aB 0)) (eC (.int 0))) aD)))
def dO (k : bN) : MF := bL (nY k) kT
section
variable {w : W} {P : D → W → Prop} (k : bN)
theorem sz (n : Nat) (h : n ≤ 1000) : n ≤ sizeLine := by rw [sizeLine_eq]; omega
theorem aDJ {a b : Int} : T (fG (.int a) (.int b) w) P = P (.bl (a == b)) w := by
 rw [AH, lN]
 simp
theorem Y4 {a b : Int} : T (mQ (.int a) (.int b) w) P = P (.bl (!(a == b))) w := by
 rw [P4, lN]
 simp
theorem RE {xs : List D} : T (cY [.tup xs] w) P = P (.int xs.length) w := by rw [UP]; simp [FZ, D.items]
theorem aGb {xs : List D} : T (cY [.lst xs] w) P = P (.int xs.length) w := by rw [UP]; simp [FZ, D.items]
theorem aF4 {xs : List D} : T (cY [.jL xs] w) P = P (.int xs.length) w := by rw [UP]; simp [FZ, D.items]
theorem XS {x : D} {xs : List D} : atI (x :: xs) 0 = some x := by
 unfold atI ixN
 rw [if_pos (by omega), if_pos (by simp)]
 rfl
end
section
variable {w : W} {P : D → W → Prop} (k : bN)
theorem aF1 {xs ys : List D} {PI : mG → W → Prop} : T (zsM [.tup xs, .tup ys] w) PI = (xs.length = ys.length ∧ PI ⟨(xs.zip ys).map fun p => .tup [p.1, p.2], always⟩ w) := by
 simp only [zsM, vS, dD, b5]
theorem aBU {xs : List D} : iU (.tup xs) none (some (-1)) w = .ok (.tup xs.dropLast) w := by
 simp only [iU, Pc.cutD, HT.sIx]
 congr 2
 rw [if_pos (by omega), List.drop_zero, List.dropLast_eq_take]
 congr 1
 omega
theorem aAQ {xs : List D} : iU (.tup xs) (some 1) none w = .ok (.tup xs.tail) w := by
 simp only [iU, Pc.cutD, HT.sIx]
 congr 2
 rw [if_neg (by omega)]
 cases xs with
 | nil => simp
 | cons x xs => simp
theorem aA9 {p q : Int × Int} : TJ (pairD p) (pairD q) w = .ok (.bl (HT.lexLt [p.1, p.2] [q.1, q.2])) w := rfl
theorem WH {a : Addr} {tab : List (Str × Option D)} {z : Str} {o : Option D} (h : tab.lookup z = some o) : T (VH a tab (.str z) (.con a) w) P = P (.bl o.isSome) w := by
 simp only [VH, ah, h, b5]
theorem YF {a : Addr} {tab : List (Str × Option D)} {z : Str} {d : D} (h : tab.lookup z = some (some d)) : T (LX a tab (.con a) (.str z) w) P = P d w := by
 simp only [LX, ah, h, b5]
theorem LG {a b : Str} (ha : PyData.strOk a = true) (hb : PyData.strOk b = true) : vR (.str a) (.str b) w = some (a == b) := by
 simp [vR, vT, D.py, D.gD, SeqAt.shaped, PyData.canLay0, PyData.depth, PyData.eqv, ha, hb]
theorem C7 {a b : Str} {r : Bool} (h : vR (.str a) (.str b) w = some r) : T (fG (.str a) (.str b) w) P = P (.bl r) w := by
 rw [AH, h]
 simp
end
section
variable {w : W} {P : D → W → Prop} {PF : Fl → W → Prop} {PI : mG → W → Prop} {σ : Sg}
theorem aBu {i : Nat} {kvs : List (Key × D)} (h : w[i]? = some (.dK kvs)) : T (AN (.ref i) w) PI = PI ⟨kvs.map fun p => .tup [zB p.1, p.2], always⟩ (w.set i (.dF kvs)) := by
 simp only [AN, h, b5]
theorem MW {m : ME} : T (vG m σ w) PI = T (m σ w) fun d w1 => T (AN d w1) PI := by unfold vG; simp only [bC]
def Turn (next : Sg → W → Prop) (PF : Fl → W → Prop) : Fl → W → Prop := fun f w => match f with
 | .nx s => next s w
 | .ct s => next s w
 | .bk s => PF (.nx s) w
 | .rt d => PF (.rt d) w
open Classical in
open Classical in
theorem aC0 {i j : Nat} {kvs more : List (Key × D)} (h1 : w[i]? = some (.dK kvs)) (h2 : w[j]? = some (.dK more)) : T (RC (.ref i) [.ref j] w) P = ((i ≠ j ∧ kvs.length + more.length ≤ sizeLine) ∧ P .non (w.set i (.dK (u6 kvs more)))) := by
 simp only [RC, h1, h2, dD, b5]
structure MoB (m : Mo) (h : Nat) : Prop where
 cD : aB4 m.cD h
 n1 : 1 ≤ m.cD.length
 n4 : m.cD.length ≤ 4
 mW : 1 ≤ m.mW ∧ m.mW ≤ 5
 zO : 0 ≤ m.zO ∧ m.zO ≤ 3
 xV : 1 ≤ m.xV ∧ m.xV ≤ 4
 gap : 0 ≤ m.gap ∧ m.gap ≤ 3
 hold : 0 ≤ m.hold ∧ m.hold ≤ 20
 cK : aC5 m.cK h
 gR : 0 ≤ m.gR ∧ m.gR ≤ 4
def Y0 (m : Mo) (b : Int) : List (Str × D) := [("ranks", .tup (m.cD.map eT)), ("every", .int m.mW), ("lost", .int m.zO), ("slow", .int m.xV), ("bears", .int b), ("gap", .int m.gap), ("hold", .int m.hold), ("takes", .bl m.takes), ("ties", .tup (m.cK.map dU)), ("hosts", .int m.gR)]
theorem oM {p i : Nat} {C : Addr} {fs : List (Str × D)} {z : Str} {d : D} (h : w[p]? = some (.ins C fs)) (h0 : σ[0]? = some (some (.ref p))) (h1 : σ[i]? = some (some d)) (hl : fs.length < 1000) (q : PF (.nx σ) (w.set p (.ins C (uJ z d fs)))) : T (cI C z (aB 0) (aB i) σ w) PF := by
 simp only [AU, T_V, h0, h1, qP h]
 exact ⟨hl, q⟩
variable (k : bN)
end
section
variable {w : W} {P : D → W → Prop} {PF : Fl → W → Prop} {PI : mG → W → Prop} {σ : Sg}
theorem sl0 : (0 ≤ sizeLine) = True := eq_true (sz _ (by omega))
theorem sl1 : (0 + 1 ≤ sizeLine) = True := eq_true (sz _ (by omega))
theorem sl2 : (0 + 1 + 1 ≤ sizeLine) = True := eq_true (sz _ (by omega))
theorem sl3 : (0 + 1 + 1 + 1 ≤ sizeLine) = True := eq_true (sz _ (by omega))
theorem sl4 : (0 + 1 + 1 + 1 + 1 ≤ sizeLine) = True := eq_true (sz _ (by omega))
theorem sl5 : (0 + 1 + 1 + 1 + 1 + 1 ≤ sizeLine) = True := eq_true (sz _ (by omega))
theorem sl6 : (0 + 1 + 1 + 1 + 1 + 1 + 1 ≤ sizeLine) = True := eq_true (sz _ (by omega))
theorem sl7 : (0 + 1 + 1 + 1 + 1 + 1 + 1 + 1 ≤ sizeLine) = True := eq_true (sz _ (by omega))
theorem sl8 : (0 + 1 + 1 + 1 + 1 + 1 + 1 + 1 + 1 ≤ sizeLine) = True := eq_true (sz _ (by omega))
theorem sl9 : (0 + 1 + 1 + 1 + 1 + 1 + 1 + 1 + 1 + 1 ≤ sizeLine) = True := eq_true (sz _ (by omega))
theorem aFM : (0 + 1 + 1 + 1 + 1 + 1 + 1 + 1 + 1 + 1 + 1 ≤ sizeLine) = True := eq_true (sz _ (by omega))
theorem aGf : (0 + 1 + 1 + 1 + 1 + 1 + 1 + 1 + 1 + 1 + 1 + 1 ≤ sizeLine) = True := eq_true (sz _ (by omega))
theorem aFU : (0 + 1 + 1 + 1 + 1 + 1 + 1 + 1 + 1 + 1 + 1 + 1 + 1 ≤ sizeLine) = True := eq_true (sz _ (by omega))
variable (k : bN)
def iL (w : W) (p : Nat) (m : Mo) (b : Int) : Prop := w[p]? = some (.ins k.aJ (Y0 m b))
variable {k} {p : Nat} {m : Mo} {b : Int}
theorem HC {z : Str} {d : D} (h : iL k w p m b) (e : (Y0 m b).lookup z = some d) : T (oQ k.aJ z (.ref p) w) P = P d w := by
 rw [AJ h, e]
 simp
theorem aCa (h : iL k w p m b) : T (oQ k.aJ "ranks" (.ref p) w) P = P (.tup (m.cD.map eT)) w := HC h rfl
theorem aA1 (h : iL k w p m b) : T (oQ k.aJ "every" (.ref p) w) P = P (.int m.mW) w := HC h rfl
theorem aDb (h : iL k w p m b) : T (oQ k.aJ "lost" (.ref p) w) P = P (.int m.zO) w := HC h rfl
theorem aD9 (h : iL k w p m b) : T (oQ k.aJ "slow" (.ref p) w) P = P (.int m.xV) w := HC h rfl
theorem aA4 (h : iL k w p m b) : T (oQ k.aJ "bears" (.ref p) w) P = P (.int b) w := HC h rfl
theorem aER (h : iL k w p m b) : T (oQ k.aJ "gap" (.ref p) w) P = P (.int m.gap) w := HC h rfl
theorem aDk (h : iL k w p m b) : T (oQ k.aJ "hold" (.ref p) w) P = P (.int m.hold) w := HC h rfl
theorem aAK (h : iL k w p m b) : T (oQ k.aJ "takes" (.ref p) w) P = P (.bl m.takes) w := HC h rfl
theorem WY (h : iL k w p m b) : T (oQ k.aJ "ties" (.ref p) w) P = P (.tup (m.cK.map dU)) w := HC h rfl
theorem aAR (h : iL k w p m b) : T (oQ k.aJ "hosts" (.ref p) w) P = P (.int m.gR) w := HC h rfl
def aCh (m : Mo) (b r : Int) : Int := (b + 1) * m.mW + m.xV + m.gap * (12 - r)
variable (k)
end
theorem gY (a b : Str) : PyData.strOk (a ++ b) = (PyData.strOk a && PyData.strOk b) := by
 show Array.all (a.cps ++ b.cps) _ = _
 unfold PyData.strOk
 rw [Array.all_append]
theorem fQ (s : String) : PyData.strOk (Str.ofString s) = true := by
 rw [Str.ofString_eq_toList]
 unfold PyData.strOk
 rw [Array.all_eq_true_iff_forall_mem]
 intro c hc
 simp only [List.mem_toArray, bz] at hc
 obtain ⟨ch, _, rfl⟩ := hc
 have := ch.valid
 simp only [aq]
 have h2 : ch.toNat < 0x110000 := by
  have h3 : ch.toNat = ch.val.toNat := rfl
  rcases this with h | ⟨_, h⟩
  ·rw [h3]; exact Nat.lt_trans h (by decide)
  ·rw [h3]; exact h
 exact h2
theorem oU : ∀ (ts : List Str) (k : Nat) (acc : Str), PyData.strOk acc = true → (∀ t ∈ ts, PyData.strOk t = true) → PyData.strOk (textFrom k acc ts) = true
 | [], k, acc, h, _ => h
 | t :: ts, k, acc, h, ht => by
  unfold textFrom
  refine oU ts (k + 1) _ ?_ fun x hx => ht x (bp _ hx)
  rw [gY, gY, h, ht t (bf ..), fQ]
  rfl
theorem zH (sep : Str) (hs : PyData.strOk sep = true) : ∀ ts : List Str, (∀ t ∈ ts, PyData.strOk t = true) → PyData.strOk (Str.join sep ts) = true
 | [], _ => by show PyData.strOk Str.empty = true; decide +kernel
 | [x], h => h x (bf ..)
 | x :: y :: r, h => by
  show PyData.strOk (x ++ sep ++ Str.join sep (y :: r)) = true
  rw [gY, gY, hs, h x (bf ..), zH sep hs (y :: r) fun t ht => h t (bp _ ht)]
  rfl
mutual
/-- data of short numbers and fine short texts, lists and tuples of such -/
def eJ : PyData → Bool
 | .none | .bool _ => true
 | .int i => decide (i.natAbs < 10 ^ 40)
 | .str x => PyData.strOk (reprText x) && PyData.strOk x && PyData.leavesShort 60 (.str x) && decide (x.length ≤ 100)
 | .list xs | .tuple xs => plainPs xs
 | .dict _ => false
def plainPs : List PyData → Bool
 | [] => true
 | x :: xs => eJ x && plainPs xs
end
mutual
theorem B5 : ∀ p : PyData, eJ p = true → PyData.strOk p.shown = true
 | .none, _ => fQ _
 | .bool b, _ => by cases b <;> exact fQ _
 | .int i, _ => fQ _
 | .str x, h => by
  simp only [eJ, ar] at h
  exact h.1.1.1
 | .list xs, h => by
  rw [eJ] at h
  show PyData.strOk (textFrom 0 "[" (PyData.shownAll xs) ++ "]") = true
  rw [gY, oU _ _ _ (fQ _) (plains_shown xs h), fQ]
  rfl
 | .tuple xs, h => by
  rw [eJ] at h
  show PyData.strOk (tupleText (PyData.shownAll xs)) = true
  unfold tupleText
  rw [gY, gY, fQ, zH _ (fQ _) _ (plains_shown xs h)]
  split <;> rw [fQ] <;> rfl
 | .dict _, h => by simp [eJ] at h
theorem plains_shown : ∀ ps : List PyData, plainPs ps = true → ∀ t ∈ PyData.shownAll ps, PyData.strOk t = true
 | [], _, t, ht => by simp [PyData.shownAll] at ht
 | p :: ps, h, t, ht => by
  simp only [plainPs, ar] at h
  simp only [PyData.shownAll, bh] at ht
  rcases ht with rfl | ht
  ·exact B5 p h.1
  ·exact plains_shown ps h.2 t ht
end
theorem A5 {i : Int} (h : i.natAbs < 10 ^ 40) : PyData.leavesShort 60 (.int i) = true := by
 have e := int_text_length_le10 (k := 40) (by decide) h
 simp only [PyData.leavesShort, aq]
 show (Str.ofString (toString i)).length ≤ 60
 rw [PySem.ofString_length]
 omega
theorem zK {i : Int} (h : i.natAbs < 10 ^ 40) : PyData.showable (.int i) = true := by
 simp only [PyData.showable, aq]
 by_cases h0 : i.natAbs = 0
 ·rw [h0]; decide
 ·rw [Nat.log2_lt h0]
  exact Nat.lt_of_lt_of_le h (by decide +kernel)
mutual
theorem plain_all : ∀ p : PyData, eJ p = true → p.leavesShort 60 = true ∧ p.showable = true ∧ p.hasDict = false ∧ p.canLay0 = true
 | .none, _ => by simp [PyData.leavesShort, PyData.showable, PyData.hasDict, PyData.canLay0]
 | .bool b, _ => by simp [PyData.leavesShort, PyData.showable, PyData.hasDict, PyData.canLay0]
 | .int i, h => by
  simp only [eJ, aq] at h
  exact ⟨A5 h, zK h, by simp [PyData.hasDict], by simp [PyData.canLay0]⟩
 | .str x, h => by
  simp only [eJ, ar] at h
  exact ⟨h.1.2, by simp [PyData.showable], by simp [PyData.hasDict], by simp [PyData.canLay0, h.1.1.2]⟩
 | .list xs, h => by
  rw [eJ] at h
  have := plains_all xs h
  simp only [PyData.leavesShort, PyData.showable, PyData.hasDict, PyData.canLay0]
  exact this
 | .tuple xs, h => by
  rw [eJ] at h
  have := plains_all xs h
  simp only [PyData.leavesShort, PyData.showable, PyData.hasDict, PyData.canLay0]
  exact this
 | .dict _, h => by simp [eJ] at h
theorem plains_all : ∀ p : List PyData, plainPs p = true → PyData.leavesShortAll 60 p = true ∧ PyData.showableAll p = true ∧ PyData.hasDictAll p = false ∧ PyData.canLayAll0 p = true
 | [], _ => by simp [PyData.leavesShortAll, PyData.showableAll, PyData.hasDictAll, PyData.canLayAll0]
 | p :: ps, h => by
  simp only [plainPs, ar] at h
  obtain ⟨a1, a2, a3, a4⟩ := plain_all p h.1
  obtain ⟨b1, b2, b3, b4⟩ := plains_all ps h.2
  simp only [PyData.leavesShortAll, PyData.showableAll, PyData.hasDictAll, PyData.canLayAll0, a1, a2, a3, a4, b1, b2, b3, b4]
  simp
end
structure Q5 (p : PyData) : Prop where
 plain : eJ p = true
 bulk : p.bulk ≤ 200000
 deep : p.depth ≤ 40
section
variable {w : W} {P : D → W → Prop} {x y : D} {p q : PyData}
theorem Q5.shaped (h : Q5 p) : SeqAt.shaped p = true := by
 have h1 := (plain_all p h.plain).2.2.2
 have h2 := h.deep
 unfold SeqAt.shaped
 simp [h1]
 omega
theorem Z9 (e : x.py w = some p) (h : Q5 p) : EC x w = some p.shown := by
 obtain ⟨a1, a2, a3, a4⟩ := plain_all p h.plain
 unfold EC
 rw [e]
 have b := PyData.shown_le_bulk 60 (by decide) p a1
 have d := h.deep
 have z := h.bulk
 simp only []
 rw [if_pos]
 refine ⟨a2, a3, by omega, ?_⟩
 have := sizeLine_eq
 have : (60 + 2) * p.bulk ≤ 62 * 200000 := Nat.mul_le_mul_left _ z
 omega
theorem aDE (e : x.py w = some p) (h : Q5 p) : T (sM [x] w) P = P (.str p.shown) w := by
 rw [aDG, Z9 e h]
 simp
theorem aAz (e : x.py w = some p) (f : y.py w = some q) (h : Q5 p) (g : Q5 q) : vR x y w = some (PyData.eqv p q) := by
 unfold vR vT
 rw [e, f]
 simp only [h.shaped, g.shaped, and_self, ah]
theorem E4 {a b : Str} (ha : PyData.strOk a = true) (hb : PyData.strOk b = true) : vR (.str a) (.str b) w = some (decide (a = b)) := by
 rw [LG ha hb]
 rfl
theorem UX {xs : List Int} : D.py w (.lst (xs.map D.int)) = some (.list (xs.map PyData.int)) := by
 show (D.pysR _ (xs.map D.int)).map PyData.list = _
 rw [DN]
 rfl
end
theorem DM {it : mG} {g : MG} {body : MS} {P : Fl → W → Prop} {σ : Sg} {w : W} (Inv : Nat → Sg → W → Prop) (ok : ∀ i σ w, Inv i σ w → it.ok w) (init : Inv 0 σ w)
  (step : ∀ i x σ w, it.xs[i]? = some x → Inv i σ w → T (g x σ w) fun σ1 w1 => T (body σ1 w1) (Turn (Inv (i + 1)) P)) (fin : ∀ σ w, Inv it.xs.length σ w → P (.nx σ) w) : T (forL it g body it.xs σ w) P := by
 have fl := aDL (it := it) (g := g) (body := body) (P := P) Inv ok (fun i x σ w h1 h2 => (step i x σ w h1 h2).mono fun s1 w1 _ q => q.mono fun f w2 _ q2 => by cases f <;> exact q2) fin (i := 0) (σ := σ) (w := w) (Nat.zero_le _) init
 rw [List.drop_zero] at fl
 exact fl
theorem z3 {it : mG} {vs : List Nat} {g : MG} {t : MT} {e : ME} {σ : Sg} {w : W} {P : List D → W → Prop} (Inv : Nat → List D → W → Prop) (ok : ∀ i acc w, Inv i acc w → it.ok w) (init : Inv 0 [] w)
  (step : ∀ i x acc w, it.xs[i]? = some x → Inv i acc w → T (g x (dP σ vs) w) fun σ1 w1 => T (t σ1 w1) fun b w2 => if b = true then T (e σ1 w2) fun y w3 => Inv (i + 1) (acc ++ [y]) w3 else Inv (i + 1) acc w2)
  (fin : ∀ acc w, Inv it.xs.length acc w → P acc w) : T (pH it vs g t e it.xs σ w) P := by
 have cl := T6 (it := it) (vs := vs) (g := g) (t := t) (e := e) (σ := σ) (P := P) Inv ok step fin (i := 0) (acc := []) (w := w) (Nat.zero_le _) init
 rw [List.drop_zero] at cl
 exact cl.mono fun _ _ _ q => by simpa using q
section
variable {w : W} {P : D → W → Prop} {k : bN} {p h : Nat} {m : Mo} {b : Int}
theorem aDx {C : Addr} {mf : MF} {fs : List (Str × D)} (hp : w[p]? = some (.ins C fs)) : T (wX C mf [.ref p] w) P = T (mf [.ref p] w) fun d w1 => match d with
 | .int n => (0 ≤ n ∧ n < 2 ^ 62) ∧ P (.int n) w1
 | _ => False := by
 simp only [wX, hp, ah, bC]
 congr 1; funext d w1
 cases d <;> first | (simp only [dD, b5]; done) | (unfold T; rfl)
end
inductive Role where
 | rests | YW | SF
deriving DecidableEq
def Role.s : Role → Str
 | .rests => "rests"
 | .YW => "waits"
 | .SF => "serves"
structure L8 where
 left : Int
 a : Int
 s : Int
 r : Int
 rank : Int
structure yD where
 living : List Int
 parts : List Int
 downs : List Int
 cD : List (List Int)
 c7 : List (List (Role × Int))
 hY : List L8
 iB : List (List (List Int))
 tables : List (List Int)
 asks : List (Int × Int)
def aDH (p : Role × Int) : D := .tup [.str p.1.s, .int p.2]
def aEF (r : List (Role × Int)) : D := .tup (r.map aDH)
def aCF (l : L8) : D := .tup [.int l.left, .int l.a, .int l.s, .int l.r, .int l.rank]
def aCH (l : List (List Int)) : D := .tup (l.map eT)
abbrev FAR : Int := 1000000000000000000000000000000000000000000000000000000000000
def aA2 (mW lives : Int) (p : Role × Int) : Prop := (p.1 = .rests ∧ lives = 0 ∧ p.2 = 0) ∨ (lives ≠ 0 ∧ p.1 = .YW ∧ 1 ≤ p.2 ∧ p.2 ≤ FAR) ∨ (lives ≠ 0 ∧ p.1 = .SF ∧ 1 ≤ p.2 ∧ p.2 ≤ mW)
structure aCJ (m : Mo) (h : Nat) (l : L8) : Prop where
 left : 1 ≤ l.left ∧ l.left ≤ m.xV
 a : 0 ≤ l.a ∧ l.a ≤ (m.cD.length : Int) - 1
 s : 0 ≤ l.s ∧ l.s ≤ (h : Int) - 1
 r : 0 ≤ l.r ∧ l.r ≤ (h : Int) + m.gR - 1
 ne : l.r ≠ l.s
 rank : 0 ≤ l.rank ∧ l.rank ≤ 12
structure UY (m : Mo) (h : Nat) (s : yD) : Prop where
 living : s.living.length = h ∧ ∀ x ∈ s.living, 0 ≤ x ∧ x ≤ 1
 parts : (s.parts.length : Int) = h + m.gR ∧ ∀ x ∈ s.parts, 0 ≤ x ∧ x ≤ 1
 downs : (∀ x ∈ s.downs, (0 ≤ x ∧ x ≤ 9) ∧ x ∈ m.cK.map fun t => t.2.1) ∧ s.downs.Pairwise (· < ·)
 cD : s.cD.length = m.cD.length ∧ ∀ r ∈ s.cD, r.length = h ∧ ∀ x ∈ r, 1 ≤ x ∧ x ≤ 12
 c7 : s.c7.length = m.cD.length ∧ ∀ r ∈ s.c7, r.length = h ∧ ∀ p ∈ s.living.zip r, aA2 m.mW p.1 p.2
 hY : ∀ l ∈ s.hY, aCJ m h l
 few : s.hY.length ≤ 100000
 iB : s.iB.length = m.cD.length ∧ ∀ l ∈ s.iB, l.length = h ∧ ∀ (j : Nat) (r : List Int), l[j]? = some r → (r.length : Int) = h + m.gR ∧ (∀ x ∈ r, 0 ≤ x ∧ x ≤ m.zO) ∧ r[j]? = some 0
 tables : (s.tables.length : Int) = m.gR ∧ ∀ r ∈ s.tables, r.length = m.cD.length ∧ ∀ x ∈ r, -1 ≤ x ∧ x ≤ (h : Int) - 1
 asks : (s.asks.length : Int) = m.gR ∧ ∀ p ∈ s.asks, 0 ≤ p.2 ∧ p.2 ≤ p.1 ∧ p.1 ≤ FAR
section
variable {w : W} {P : D → W → Prop} {k : bN} {p h : Nat} {m : Mo} {b : Int}
theorem qS (n : Nat) (h : n ≤ 1000000) : n ≤ sizeLine := by rw [sizeLine_eq]; omega
theorem T4 (x : Str) : T (mV m7 [.str x, .ty "str"] w) P = P (.bl true) w := by unfold T; rfl
end
section
variable {w : W} {P : D → W → Prop} {k : bN} {p h : Nat} {m : Mo} {b : Int}
theorem aBb {x : Int} {xs : List Int} : inD (.int x) (.lst (xs.map D.int)) w = some (decide (x ∈ xs)) := by
 show oB (.int x) (.lst (xs.map D.int)) w = _
 unfold oB
 have e1 : D.py w (.int x) = some (.int x) := rfl
 rw [e1, UX]
 have l1 : SeqAt.shaped (.int x) = true := by simp [SeqAt.shaped, PyData.canLay0, PyData.depth]
 simp only [l1, lay_ints, and_self, ah]
 congr 1
 rw [List.any_map]
 induction xs with
 | nil => simp
 | cons y ys ih =>
  rw [List.any_cons, ih]
  simp only [Function.comp_apply, PyData.eqv, bh]
  by_cases h : y = x
  ·subst h; simp
  ·have h' : x ≠ y := fun z => h z.symm
   simp [h, h']
end
section
variable {w : W} {P : D → W → Prop} {k : bN} {p h : Nat} {m : Mo} {b : Int}
theorem hD {xs : List D} {j : Nat} {d : D} (e : xs[j]? = some d) : atI xs (j : Int) = some d := by
 have hl := (aj.mp e).1
 unfold atI ixN
 rw [if_pos (by omega), if_pos (by omega)]
 exact e
end
section
variable {w : W} {P : D → W → Prop} {k : bN} {p h : Nat} {m : Mo} {b : Int}
def first (m : Mo) (b : Int) (h : Nat) : yD where
 living := List.replicate h 1
 parts := List.replicate (h + m.gR.toNat) 0
 downs := []
 cD := m.cD
 c7 := m.cD.map fun r => r.map fun x => (.YW, aCh m b x + m.hold)
 hY := []
 iB := m.cD.map fun _ => List.replicate h (List.replicate (h + m.gR.toNat) 0)
 tables := List.replicate m.gR.toNat (List.replicate m.cD.length (-1))
 asks := List.replicate m.gR.toNat (0, 0)
theorem N4 {xs : List D} : T (eU [.lst xs] w) P = P (.tup xs) w := by
 have e : eU [.lst xs] w = .ok (.tup xs) w := rfl
 rw [e, b5]
end
structure c9 (n d : Nat) (x : D) : Prop where
 ex : ∃ q, (∀ f, x.gD f = some q) ∧ eJ q = true ∧ q.bulk ≤ n ∧ q.depth ≤ d
structure cG (n d : Nat) (xs : List D) : Prop where
 ex : ∃ qs, (∀ f, D.pysR f xs = some qs) ∧ plainPs qs = true ∧ PyData.bulkAll qs ≤ n ∧ PyData.depthAll qs ≤ d
section
variable {n n' d d' : Nat} {x : D} {xs : List D}
theorem c9.mono (h : c9 n d x) (h1 : n ≤ n') (h2 : d ≤ d') : c9 n' d' x := by
 obtain ⟨q, a, b, c, e⟩ := h.ex
 exact ⟨q, a, b, by omega, by omega⟩
theorem c9.int {i : Int} (h : i.natAbs < 10 ^ 40) : c9 0 1 (.int i) := ⟨.int i, fun _ => rfl, by simp only [eJ, aq]; exact h, by simp [PyData.bulk], by simp [PyData.depth]⟩
theorem c9.bl {b : Bool} : c9 0 1 (.bl b) := ⟨.bool b, fun _ => rfl, by simp [eJ], by simp [PyData.bulk], by simp [PyData.depth]⟩
theorem c9.str {s : Str} (h : eJ (.str s) = true) : c9 100 1 (.str s) := by
 refine ⟨.str s, fun _ => rfl, h, ?_, by simp [PyData.depth]⟩
 simp only [eJ, ar, aq] at h
 exact h.2
theorem cG.nil : cG 0 0 [] := ⟨[], fun _ => rfl, rfl, by simp [PyData.bulkAll], by simp [PyData.depthAll]⟩
theorem cG.cons (h : c9 n d x) (t : cG n' d xs) : cG (n + 1 + n') d (x :: xs) := by
 obtain ⟨q, a1, a2, a3, a4⟩ := h.ex
 obtain ⟨qs, b1, b2, b3, b4⟩ := t.ex
 refine ⟨q :: qs, fun f => by simp [D.pysR, a1, b1], by simp [plainPs, a2, b2], by simp only [PyData.bulkAll]; omega, ?_⟩
 simp only [PyData.depthAll]
 omega
theorem cG.mono (h : cG n d xs) (h1 : n ≤ n') (h2 : d ≤ d') : cG n' d' xs := by
 obtain ⟨q, a, b, c, e⟩ := h.ex
 exact ⟨q, a, b, by omega, by omega⟩
theorem cG.all : ∀ {xs : List D}, (∀ x ∈ xs, c9 n d x) → cG (xs.length * (n + 1)) d xs
 | [], _ => cG.nil.mono (Nat.zero_le _) (Nat.zero_le _)
 | x :: xs, h => by
  refine (cG.cons (h x (bf ..)) (cG.all fun y hy => h y (bp _ hy))).mono ?_ (av _)
  rw [List.length_cons, Nat.succ_mul]
  omega
theorem c9.tup (h : cG n d xs) : c9 n (d + 1) (.tup xs) := by
 obtain ⟨qs, b1, b2, b3, b4⟩ := h.ex
 refine ⟨.tuple qs, fun f => by simp [D.gD, b1], by rw [eJ]; exact b2, by rw [PyData.bulk]; exact b3, by rw [PyData.depth]; omega⟩
theorem c9.lst (h : cG n d xs) : c9 n (d + 1) (.lst xs) := by
 obtain ⟨qs, b1, b2, b3, b4⟩ := h.ex
 refine ⟨.list qs, fun f => by simp [D.gD, b1], by rw [eJ]; exact b2, by rw [PyData.bulk]; exact b3, by rw [PyData.depth]; omega⟩
theorem c9.wO {c : Nat} (h : ∀ x ∈ xs, c9 n d x) (hl : xs.length ≤ c) : c9 (c * (n + 1)) (d + 1) (.tup xs) :=
 (c9.tup (cG.all h)).mono (Nat.mul_le_mul_right _ hl) (av _)
theorem c9.fit (h : c9 n d x) (h1 : n ≤ 200000) (h2 : d ≤ 40) : ∃ q, (∀ w, x.py w = some q) ∧ Q5 q := by
 obtain ⟨q, a, b, c, e⟩ := h.ex
 exact ⟨q, fun w => a _, b, by omega, by omega⟩
theorem c9.row {xs : List Int} {c : Nat} (h : ∀ x ∈ xs, x.natAbs < 10 ^ 40) (hl : xs.length ≤ c) : c9 c 2 (eT xs) := by
 refine (c9.wO (n := 0) (d := 1) (c := c) (fun y hy => ?_) (by rw [ak]; exact hl)).mono (by omega) (av _)
 obtain ⟨x, hx, rfl⟩ := bz.mp hy
 exact c9.int (h x hx)
theorem c9.role (r : Role) : c9 100 1 (.str r.s) := c9.str (by cases r <;> decide +kernel)
end
section
variable {σ : Sg} {w : W} {P : D → W → Prop} {PF : Fl → W → Prop} {PU : Unit → W → Prop} {a b : ME}
theorem aES {i j : Nat} : T (HD i j (aA a (aA b aD)) σ w) PF = T (a σ w) fun x w1 => T (b σ w1) fun y w2 => PF (.nx ((σ.set i (some x)).set j (some y))) w2 := by
 unfold HD
 simp only [bC, vF, AI]
 congr 1; funext x w1; congr 1; funext y w2
 first | rfl | (simp only [b5]; done) | (unfold T; rfl)
theorem HU (m : Mo) (i : Bool) : putD m.kvs (.inr "takes") (.bl i) = ({ m with takes := i } : Mo).kvs := rfl
end
def zZ := And.intro @eA (And.intro @eN (And.intro @zV (And.intro @OK (And.intro @FP (And.intro @vW (And.intro @E2 (And.intro @QC (And.intro @XR (And.intro @GI (And.intro @AU (And.intro @EA (And.intro @yN (And.intro @DX (And.intro @zG (And.intro @T_C (And.intro @T_V (And.intro @QB (And.intro @WN (And.intro @PY (And.intro @WQ (And.intro @aAc (And.intro @AI (And.intro @vF (And.intro @NO (And.intro @N1 (And.intro @OE (And.intro @N3 (And.intro @FW (And.intro @EB (And.intro @zX (And.intro @x9 (And.intro @M8 (And.intro @XW (And.intro @OO (And.intro @M7 (And.intro @uP (And.intro @wQ (And.intro @NT (And.intro @yL (And.intro @qW (And.intro @DT (And.intro @zU (And.intro @wJ (And.intro @sA (And.intro @QG (And.intro @YD (And.intro @YE (And.intro @aAh (And.intro @VI (And.intro @qH (And.intro @OZ (And.intro @tE (And.intro @tQ (And.intro @NI (And.intro @FX (And.intro @ER (And.intro @EV (And.intro @b5 (And.intro @D1 (And.intro @GC (And.intro @FF (And.intro @ZX (And.intro @zN (And.intro @zW (And.intro @IF (And.intro @q9 (And.intro @fS (And.intro @NS (And.intro @QF (And.intro @NB (And.intro @oF (And.intro @OI (And.intro @nO (And.intro @sl0 (And.intro @sl1 (And.intro @sl2 (And.intro @sl3 (And.intro @sl4 (And.intro @sl5 (And.intro @sl6 (And.intro @sl7 (And.intro @sl8 (And.intro @sl9 (And.intro @aFM (And.intro @aGf (And.intro @aFU (And.intro @ZG (And.intro @JJ (And.intro @SN (And.intro @RE (And.intro @aGb (And.intro @aF4 (And.intro @aDJ (And.intro @Y4 (@MW)))))))))))))))))))))))))))))))))))))))))))))))))))))))))))))))))))))))))))))))))))))))))))))))
theorem aB2 {xs ys : List D} : aP xs ys = xs := rfl
def zY := And.intro zZ (And.intro @List.getElem?_cons_zero.{0} (And.intro @List.getElem?_cons_succ.{0} (And.intro @List.set_cons_zero.{0} (And.intro @List.set_cons_succ.{0} (And.intro @List.length_cons.{0} (And.intro @List.length_nil.{0} (And.intro @aB2 (And.intro @true_and (And.intro @and_true (And.intro @bj (And.intro @Bool.not_true (And.intro @Bool.not_false (And.intro @Bool.true_eq_false (And.intro @bb.{1} @ai.{0}))))))))))))))
def pE : Nat → D → Bool
 | 0, _ => false
 | _ + 1, .non => true
 | _ + 1, .bl _ => true
 | _ + 1, .int i => decide (i ≤ 100000000000000000000000000000000000000000000000000)
 | _ + 1, .str x => PyData.strOk x
 | n + 1, .tup xs => xs.all (pE n) && decide (xs.length ≤ 70000)
 | n + 1, .lst xs => xs.all (pE n) && decide (xs.length ≤ 70000)
 | n + 1, .GX ks vs => (ks.all (pE n) && vs.all (pE n)) && decide (ks.length ≤ 15)
 | _ + 1, _ => false
def SV : Nat → D → Bool
 | 0, _ => false
 | _ + 1, .non => true
 | _ + 1, .bl _ => true
 | _ + 1, .int i => decide (i ≤ 100000000000000000000000000000000000000000000000000)
 | _ + 1, .str x => PyData.strOk x
 | n + 1, .tup xs => xs.all (SV n) && decide (xs.length ≤ 70000)
 | n + 1, .lst xs => xs.all (SV n) && decide (xs.length ≤ 70000)
 | _ + 1, _ => false
def isInt : D → Bool
 | .int _ => true
 | _ => false
def bM (lo hi : Int) : D → Bool
 | .int i => decide (lo ≤ i) && decide (i ≤ hi)
 | _ => false
def FA : D → Bool
 | .tup _ => true
 | _ => false
section
variable {w : W} {P : D → W → Prop} {k : bN} {p h n : Nat} {m : Mo} {b : Int} {d : D}
theorem C6 {xs : List D} (e : pE (n + 1) (.tup xs) = true) : (∀ x ∈ xs, pE n x = true) ∧ xs.length ≤ 70000 := by
 simp only [pE, ar, br, aq] at e
 exact e
theorem aEN (e : pE n d = true) : T (mV m7 [d, .ty "int"] w) P = P (.bl (match d with | .int _ => true | .bl _ => true | _ => false)) w := by
 cases n with
 | zero => simp [pE] at e
 | succ n => cases d <;> first | (simp [pE] at e; done) | (unfold T; rfl)
theorem aAd (e : pE n d = true) : T (mV m7 [d, .ty "bool"] w) P = P (.bl (match d with | .bl _ => true | _ => false)) w := by
 cases n with
 | zero => simp [pE] at e
 | succ n => cases d <;> first | (simp [pE] at e; done) | (unfold T; rfl)
theorem UZ (e : pE n d = true) : T (mV m7 [d, .ty "tuple"] w) P = P (.bl (FA d)) w := by
 cases n with
 | zero => simp [pE] at e
 | succ n => cases d <;> first | (simp [pE] at e; done) | (unfold T; rfl)
theorem aAX (e : pE n d = true) : T (jA k [d] w) P = P (.bl (isInt d)) w := by
 unfold jA oP
 rw [eA, MH]
 simp only [aEN e, aAd e, zY, ah, ae, reduceCtorEq]
 cases d <;> simp [isInt]
theorem qY (lo hi : Int) (e : pE n d = true) : T (bJ k [d, .int lo, .int hi] w) P = P (.bl (bM lo hi d)) w := by
 unfold bJ lP
 rw [eA, LS]
 simp only [aAX e, zY, ah, ae, reduceCtorEq]
 cases d <;> simp only [isInt, bM, zY, ah, ae, reduceCtorEq]
 rename_i i
 by_cases h : lo ≤ i <;> simp [h]
end
section
variable {w : W} {P : D → W → Prop} {k : bN} {p h n : Nat} {m : Mo} {b : Int} {d : D}
def pK (ls : List D) : List D := (List.range ls.length).zipWith (fun i x => D.tup [.int (i : Nat), x]) ls
end
theorem aB5 {n : Nat} {xs : List D} (e : SV (n + 1) (.tup xs) = true) : (∀ x ∈ xs, SV n x = true) ∧ xs.length ≤ 70000 := by
 simp only [SV, ar, br, aq] at e
 exact e
theorem aAt {n : Nat} {xs : List D} (e : SV (n + 1) (.lst xs) = true) : (∀ x ∈ xs, SV n x = true) ∧ xs.length ≤ 70000 := by
 simp only [SV, ar, br, aq] at e
 exact e
theorem IX {w : W} : ∀ {n : Nat} {xs : List D}, (∀ d, SV n d = true → ∃ p, d.py w = some p ∧ p.canLay0 = true ∧ p.depth ≤ n) → (∀ x ∈ xs, SV n x = true) → ∃ ps, D.pysR (ML 8 w) xs = some ps ∧ ps.length = xs.length ∧ PyData.canLayAll0 ps = true ∧ PyData.depthAll ps ≤ n
 | n, [], h, hx => ⟨[], rfl, rfl, rfl, Nat.zero_le _⟩
 | n, x :: xs, h, hx => by
  obtain ⟨p, p1, p2, p3⟩ := h x (hx x (bf ..))
  obtain ⟨ps, q1, q0, q2, q3⟩ := IX h fun y hy => hx y (bp _ hy)
  refine ⟨p :: ps, ?_, by simp [q0], ?_, ?_⟩
  ·unfold D.py at p1
   unfold D.pysR
   rw [p1, q1]
  ·simp [PyData.canLayAll0, p2, q2]
  ·rw [PyData.depthAll]; omega
theorem Q6 {w : W} : ∀ {n : Nat} {d : D}, SV n d = true → ∃ p, d.py w = some p ∧ p.canLay0 = true ∧ p.depth ≤ n
 | 0, _, e => by simp [SV] at e
 | n + 1, d, e => by
  cases d
  case tup xs =>
   obtain ⟨e1, _⟩ := aB5 e
   obtain ⟨ps, q1, _, q2, q3⟩ := IX (w := w) (fun d hd => Q6 hd) e1
   exact ⟨.tuple ps, by unfold D.py D.gD; rw [q1]; rfl, by rw [PyData.canLay0]; exact q2, by rw [PyData.depth]; omega⟩
  case lst xs =>
   obtain ⟨e1, _⟩ := aAt e
   obtain ⟨ps, q1, _, q2, q3⟩ := IX (w := w) (fun d hd => Q6 hd) e1
   exact ⟨.list ps, by unfold D.py D.gD; rw [q1]; rfl, by rw [PyData.canLay0]; exact q2, by rw [PyData.depth]; omega⟩
  case str x => exact ⟨.str x, rfl, by simpa [SV, PyData.canLay0] using e, by simp [PyData.depth]⟩
  case int i => exact ⟨.int i, rfl, rfl, by simp [PyData.depth]⟩
  case bl b => exact ⟨.bool b, rfl, rfl, by simp [PyData.depth]⟩
  case non => exact ⟨.none, rfl, rfl, by simp [PyData.depth]⟩
  all_goals simp [SV] at e
theorem KO {f : Nat → Option PyData} : ∀ {xs : List D} {ps : List PyData}, D.pysR f xs = some ps → ps.length = xs.length
 | [], ps, h => by simp only [D.pysR, ai] at h; subst h; rfl
 | x :: xs, ps, h => by
  simp only [D.pysR] at h
  split at h
  ·rename_i p ps' e1 e2
   cases h
   simp [KO e2]
  ·cases h
theorem ZV {w : W} {ys : List D} : vR (.lst ys) (.lst []) w = some ys.isEmpty := by
 unfold vR
 cases h : vT (.lst ys) (.lst []) w with
 | none => rfl
 | some b =>
  unfold vT at h
  have e2 : D.py w (.lst []) = some (.list []) := rfl
  rw [e2] at h
  split at h
  ·rename_i p q e3 e4
   cases e4
   split at h
   ·cases h
    unfold D.py D.gD at e3
    obtain ⟨ps, q1, rfl⟩ := ao.mp e3
    have hl := KO q1
    cases ys with
    | nil => cases ps with
     | nil => rfl
     | cons => simp at hl
    | cons y ys => cases ps with
     | nil => simp at hl
     | cons => rfl
   ·cases h
  ·cases h
theorem AM {w : W} {ys : List D} : vR (.tup ys) (.tup []) w = some ys.isEmpty := by
 unfold vR
 cases h : vT (.tup ys) (.tup []) w with
 | none => rfl
 | some b =>
  unfold vT at h
  have e2 : D.py w (.tup []) = some (.tuple []) := rfl
  rw [e2] at h
  split at h
  ·rename_i p q e3 e4
   cases e4
   split at h
   ·cases h
    unfold D.py D.gD at e3
    obtain ⟨ps, q1, rfl⟩ := ao.mp e3
    have hl := KO q1
    cases ys with
    | nil => cases ps with
     | nil => rfl
     | cons => simp at hl
    | cons y ys => cases ps with
     | nil => simp at hl
     | cons => rfl
   ·cases h
  ·cases h
section
variable {w : W} {P : D → W → Prop} {k : bN} {p h n i : Nat} {m : Mo} {b : Int} {d : D}
theorem T5 {ys : List D} (h : ∀ y ∈ ys, pE n y = true) (hn : n ≤ 60) : vR (.lst ys) (.lst []) w = some ys.isEmpty := ZV
theorem ne_nil {ys : List D} (h : ∀ y ∈ ys, pE n y = true) (hn : n ≤ 60) : T (mQ (.lst ys) (.lst []) w) P = P (.bl (!ys.isEmpty)) w := by
 rw [P4, T5 h hn]
 simp
theorem eq_nil {ys : List D} (h : ∀ y ∈ ys, pE n y = true) (hn : n ≤ 60) : T (fG (.lst ys) (.lst []) w) P = P (.bl ys.isEmpty) w := by
 rw [AH, T5 h hn]
 simp
end
section
variable {w : W} {P : D → W → Prop} {k : bN} {p h n i : Nat} {m : Mo} {b : Int} {d : D}
theorem vD : ∀ {l : List Int}, lS (l.map D.int) = some l
 | [] => rfl
 | a :: l => by simp [lS, vD (l := l)]
end
def VU : List (Str × Option D) := [(("fall" : Str), some (.int 1)), (("stop" : Str), some (.int 1)), (("rise" : Str), some (.int 1)), (("down" : Str), some (.int 1)), (("up" : Str), some (.int 1)), (("rank" : Str), some (.int 3)), (("tear" : Str), some (.int 2)), (("heal" : Str), some (.int 0)), (("ask" : Str), some (.int 2))]
def G4 : List Str := [("plan" : Str), ("state" : Str), ("host" : Str), ("address" : Str), ("told" : Str)]
def GW (k : bN) : MS :=
 (aH (aT (aC aV (aC aV (aC aV (aB 1) (eC (.int 7))) (aB 2)) (aB 3)) (aU 4))
 (aH (dW (gH (bA (aC TJ (aB 4) (eC (.int 0)))) (bA (aC mQ (aC aV (aC aV (aB 1) (eC (.int 1))) (aB 4)) (aC aV (aC aV (aB 1) (eC (.int 1))) (aC bQ (aQ (wX k.aJ (dO k)) (aA (aB 0) aD)) (aB 2)))))) (aZ (eC (.bl false))) aW)
 (aZ (aC fG (aC aV (aC aV (aC aV (aC aV (aB 1) (eC (.int 4))) (aB 3)) (aB 4)) (eC (.int 0))) (eC (.str ("serves" : Str)))))))
def HI (k : bN) : MF := bL (GW k) G4
def aEV : List Str := [("row" : Str), ("at" : Str), ("thing" : Str)]
def aEP (k : bN) : MS :=
 (aZ (aC bQ (aC bQ (lE iU (aB 0) cJ (bX (aB 1))) (bW (aA (aB 2) aD))) (lE iU (aB 0) (bX (aC bQ (aB 1) (eC (.int 1)))) cJ)))
def n7 (k : bN) : MF := bL (aEP k) aEV
def RY : List Str := [("plan" : Str), ("state" : Str), ("host" : Str), ("address" : Str), ("many" : Str), ("dropped" : Str), ("told" : Str)]
def R6 (k : bN) : MS :=
 (aH (aT (aC aV (aC aV (aB 1) (eC (.int 8))) (aB 2)) (bY 2 (aI (aU 4) (aI (aU 5) bS))))
 (aH (aT (bW (aA (aC bQ (aB 4) (eC (.int 1))) (aA (aC bQ (aB 5) (aQ CL (aA (AF notM (aM (HI k) 4 aP (aA (aB 0) (aA (aB 1) (aA (aB 2) (aA (aB 3) aD)))))) aD))) aD))) (aU 6))
 (aZ (aM (n7 k) 3 aP (aA (aB 1) (aA (eC (.int 8)) (aA (aM (n7 k) 3 aP (aA (aC aV (aB 1) (eC (.int 8))) (aA (aB 2) (aA (aB 6) aD)))) aD)))))))
def QN (k : bN) : MF := bL (R6 k) RY
def AX : List Str := [("plan" : Str)]
def A6 (k : bN) : MS :=
 (aZ (aQ cY (aA (bG k.aJ ("ranks" : Str) (aB 0)) aD)))
def eX (k : bN) : MF := bL (A6 k) AX
def OP : List Str := [("state" : Str), ("house" : Str), ("lives" : Str)]
def P1 (k : bN) : MS :=
 (aZ (aM (n7 k) 3 aP (aA (aB 0) (aA (eC (.int 0)) (aA (aM (n7 k) 3 aP (aA (aC aV (aB 0) (eC (.int 0))) (aA (aB 1) (aA (aB 2) aD)))) aD)))))
def B7 (k : bN) : MF := bL (P1 k) OP
def GS : List Str := [("state" : Str), ("house" : Str), ("stands" : Str), ("rows" : Str), ("row" : Str), ("stand" : Str)]
def G0 (k : bN) : MS :=
 (aH (aT (aQ eU (aA (bR (eY zmM (aA (aC aV (aB 0) (eC (.int 4))) (aA (aB 2) aD))) [4, 5] (bY 2 (aI (aU 4) (aI (aU 5) bS))) bU (aM (n7 k) 3 aP (aA (aB 4) (aA (aB 1) (aA (aB 5) aD))))) aD)) (aU 3))
 (aZ (aM (n7 k) 3 aP (aA (aB 0) (aA (eC (.int 4)) (aA (aB 3) aD))))))
def wB (k : bN) : MF := bL (G0 k) GS
def ZU : List Str := [("plan" : Str), ("state" : Str), ("house" : Str)]
def WJ (k : bN) : MS :=
 (aZ (aM (wB k) 3 aP (aA (aM (B7 k) 3 aP (aA (aB 1) (aA (aB 2) (aA (eC (.int 0)) aD)))) (aA (aB 2) (aA (aC mulM (gT (aA (bW (aA (eC (.str ("rests" : Str))) (aA (eC (.int 0)) aD))) aD)) (aM (eX k) 1 aP (aA (aB 0) aD))) aD)))))
def OD (k : bN) : MF := bL (WJ k) ZU
def RA : List Str := [("plan" : Str), ("state" : Str), ("address" : Str), ("house" : Str), ("downs" : Str), ("ranks" : Str), ("taken" : Str), ("one" : Str), ("tie" : Str), ("less" : Str)]
def QM (k : bN) : MS :=
 (aH (aT (bW (aA (aC aV (aB 1) (eC (.int 2))) (aA (aC aV (aB 1) (eC (.int 3))) aD))) (bY 2 (aI (aU 4) (aI (aU 5) bS))))
 (aH (aT (aQ MK (aA (bR (eD (bG k.aJ ("ties" : Str) (aB 0))) [7, 8, 9] (bY 3 (aI (aU 7) (aI (aU 8) (aI (aU 9) bS)))) (gI (bA (aC fG (aB 7) (aB 3))) (bA (aC M5 (aB 8) (aB 4)))) (aB 9)) aD)) (aU 6))
 (aZ (aQ max2 (aA (eC (.int 1)) (aA (aC mU (aC aV (aC aV (aB 5) (aB 2)) (aB 3)) (aB 6)) aD))))))
def nR (k : bN) : MF := bL (QM k) RA
def HG : List Str := [("plan" : Str), ("state" : Str), ("address" : Str), ("house" : Str)]
def HB (k : bN) : MS :=
 (aZ (aC bQ (aM (HZ k) 2 aP (aA (aB 0) (aA (aM (nR k) 4 aP (aA (aB 0) (aA (aB 1) (aA (aB 2) (aA (aB 3) aD))))) aD))) (bG k.aJ ("hold" : Str) (aB 0))))
def qD (k : bN) : MF := bL (HB k) HG
def GU : List Str := [("plan" : Str), ("ahead" : Str), ("state" : Str), ("address" : Str), ("house" : Str), ("role" : Str), ("clock" : Str), ("row" : Str)]
def G9 (k : bN) : MS :=
 (aH (gM (eY mN (aA (aM (eX k) 1 aP (aA (aB 0) aD)) aD)) (aU 3) (gM (eY mN (aA (aQ (wX k.aJ (dO k)) (aA (aB 0) aD)) aD)) (aU 4) (aH (aT (aC aV (aC aV (aC aV (aB 2) (eC (.int 4))) (aB 3)) (aB 4)) (bY 2 (aI (aU 5) (aI (aU 6) bS))))
 (dW (gI (bA (aC fG (aB 5) (eC (.str ("waits" : Str))))) (bA (aC II (aM (nR k) 4 aP (aA (aB 0) (aA (aB 2) (aA (aB 3) (aA (aB 4) aD))))) (aM (nR k) 4 aP (aA (aB 0) (aA (aB 1) (aA (aB 3) (aA (aB 4) aD)))))))) (aH (aT (aQ max2 (aA (aB 6) (aA (aM (qD k) 4 aP (aA (aB 0) (aA (aB 2) (aA (aB 3) (aA (aB 4) aD))))) aD))) (aU 6))
 (aH (aT (aM (n7 k) 3 aP (aA (aC aV (aC aV (aB 2) (eC (.int 4))) (aB 3)) (aA (aB 4) (aA (bW (aA (aB 5) (aA (aB 6) aD))) aD)))) (aU 7))
 (aT (aM (n7 k) 3 aP (aA (aB 2) (aA (eC (.int 4)) (aA (aM (n7 k) 3 aP (aA (aC aV (aB 2) (eC (.int 4))) (aA (aB 3) (aA (aB 7) aD)))) aD)))) (aU 2)))) aW))))
 (aZ (aB 2)))
def pW (k : bN) : MF := bL (G9 k) GU
def aBA : List Str := [("plan" : Str), ("state" : Str), ("house" : Str), ("stands" : Str), ("address" : Str)]
def aBj (k : bN) : MS :=
 (aH (aT (bR (eY mN (aA (aM (eX k) 1 aP (aA (aB 0) aD)) aD)) [4] (aU 4) bU (bW (aA (eC (.str ("waits" : Str))) (aA (aM (qD k) 4 aP (aA (aB 0) (aA (aB 1) (aA (aB 4) (aA (aB 2) aD))))) aD)))) (aU 3))
 (aZ (aM (wB k) 3 aP (aA (aM (B7 k) 3 aP (aA (aB 1) (aA (aB 2) (aA (eC (.int 1)) aD)))) (aA (aB 2) (aA (aB 3) aD))))))
def aBa (k : bN) : MF := bL (aBj k) aBA
def QX : List Str := [("lacks" : Str), ("sent" : Str), ("fates" : Str), ("found" : Str), ("address" : Str), ("sender" : Str), ("receiver" : Str), ("rank" : Str), ("lost" : Str), ("rows" : Str), ("own" : Str), ("houses" : Str), ("row" : Str), ("many" : Str)]
def Q2 (k : bN) : MS :=
 (aH (aT LO (aU 3))
 (aH (gM (eD (aB 1)) (bY 4 (aI (aU 4) (aI (aU 5) (aI (aU 6) (aI (aU 7) bS))))) (aH (aT (aC fG (b7 "dict" getM (aB 2) (aA (bW (aA (aB 4) (aA (aB 5) (aA (aB 6) aD)))) (aA (eC (.int 1)) aD))) (eC (.int 0))) (aU 8))
 (aT (T3 (eP (aB 8)) (aC bQ (aC aV (aC aV (aC aV (aB 0) (aB 4)) (aB 5)) (aB 6)) (eC (.int 1))) (eC (.int 0))) (eO (aB 3) (bW (aA (aB 4) (aA (aB 5) (aA (aB 6) aD))))))))
 (aH (dW (bA (aC eqE (aB 3) LO)) (aZ (aB 0)) aW)
 (aH (aT (eNew aD) (aU 9))
 (aH (gM (eY EE (aA (aB 0) aD)) (bY 2 (aI (aU 4) (aI (aU 10) bS))) (aH (aT (eNew aD) (aU 11))
 (aH (gM (eY EE (aA (aB 10) aD)) (bY 2 (aI (aU 5) (aI (aU 12) bS))) (dE (b7 "list" gG (aB 11) (aA (aQ eU (aA (bR (eY EE (aA (aB 12) aD)) [6, 13] (bY 2 (aI (aU 6) (aI (aU 13) bS))) bU (b7 "dict" getM (aB 3) (aA (bW (aA (aB 4) (aA (aB 5) (aA (aB 6) aD)))) (aA (aB 13) aD)))) aD)) aD))))
 (dE (b7 "list" gG (aB 9) (aA (aQ eU (aA (aB 11) aD)) aD))))))
 (aZ (aQ eU (aA (aB 9) aD))))))))
def GH (k : bN) : MF := bL (Q2 k) QX
def IY : List Str := [("sent" : Str), ("fates" : Str), ("found" : Str), ("address" : Str), ("sender" : Str), ("receiver" : Str), ("rank" : Str), ("fate" : Str)]
def J7 (k : bN) : MS :=
 (aH (aT (eNew aD) (aU 2))
 (aH (gM (eD (aB 0)) (bY 4 (aI (aU 3) (aI (aU 4) (aI (aU 5) (aI (aU 6) bS))))) (aH (aT (b7 "dict" getM (aB 1) (aA (bW (aA (aB 3) (aA (aB 4) (aA (aB 5) aD)))) (aA (eC (.int 1)) aD))) (aU 7))
 (dW (bA (aC II (aB 7) (eC (.int 0)))) (dE (b7 "list" gG (aB 2) (aA (bW (aA (aB 7) (aA (aB 3) (aA (aB 4) (aA (aB 5) (aA (aB 6) aD)))))) aD))) aW)))
 (aZ (aQ eU (aA (aB 2) aD)))))
def zA (k : bN) : MF := bL (J7 k) IY
def FN : List Str := [("plan" : Str), ("state" : Str), ("house" : Str), ("living" : Str), ("parts" : Str), ("found" : Str), ("receiver" : Str), ("part" : Str)]
def EM (k : bN) : MS :=
 (aH (HD 3 4 (aA (aC aV (aB 1) (eC (.int 0))) (aA (aC aV (aB 1) (eC (.int 1))) aD)))
 (aH (aT (eNew aD) (aU 5))
 (aH (gM (eY EE (aA (aB 4) aD)) (bY 2 (aI (aU 6) (aI (aU 7) bS))) (dW (gI (bA (aC mQ (aB 6) (aB 2))) (gI (bA (aC fG (aB 7) (aC aV (aB 4) (aB 2)))) (gH (bA (aC geM (aB 6) (aQ (wX k.aJ (dO k)) (aA (aB 0) aD)))) (bA (aC fG (aC aV (aB 3) (aB 6)) (eC (.int 1))))))) (dE (b7 "list" gG (aB 5) (aA (aB 6) aD))) aW))
 (aZ (aQ eU (aA (aB 5) aD))))))
def uE (k : bN) : MF := bL (EM k) FN
def EF : List Str := [("plan" : Str), ("state" : Str), ("address" : Str), ("house" : Str), ("rank" : Str), ("fates" : Str), ("sent" : Str), ("letters" : Str), ("receiver" : Str)]
def FE (k : bN) : MS :=
 (aH (aT (bR (eD (aM (uE k) 3 aP (aA (aB 0) (aA (aB 1) (aA (aB 3) aD))))) [8] (aU 8) bU (bW (aA (aB 2) (aA (aB 3) (aA (aB 8) (aA (aB 4) aD)))))) (aU 6))
 (aH (aT (aC bQ (aC aV (aB 1) (eC (.int 5))) (aM (zA k) 2 aP (aA (aB 6) (aA (aB 5) aD)))) (aU 7))
 (aZ (aC bQ (aC bQ (lE iU (aB 1) cJ (bX (eC (.int 5)))) (bW (aA (aB 7) (aA (aM (GH k) 3 aP (aA (aC aV (aB 1) (eC (.int 6))) (aA (aB 6) (aA (aB 5) aD)))) aD)))) (lE iU (aB 1) (bX (aC bQ (eC (.int 6)) (eC (.int 1)))) cJ)))))
def FH (k : bN) : MF := bL (FE k) EF
def V7 : List Str := [("plan" : Str), ("state" : Str), ("house" : Str), ("fates" : Str), ("address" : Str), ("row" : Str)]
def WA (k : bN) : MS :=
 (aH (gM (eY EE (aA (aC aV (aB 1) (eC (.int 4))) aD)) (bY 2 (aI (aU 4) (aI (aU 5) bS))) (dW (bA (aC fG (aC aV (aC aV (aB 5) (aB 2)) (eC (.int 0))) (eC (.str ("serves" : Str))))) (aT (aM (FH k) 6 aP (aA (aB 0) (aA (aB 1) (aA (aB 4) (aA (aB 2) (aA (eC (.int 0)) (aA (aB 3) aD))))))) (aU 1)) aW))
 (aZ (aM (OD k) 3 aP (aA (aB 0) (aA (aB 1) (aA (aB 2) aD))))))
def VP (k : bN) : MF := bL (WA k) V7
def MU : List Str := [("plan" : Str), ("state" : Str), ("houses" : Str), ("hosts" : Str), ("there" : Str), ("host" : Str), ("place" : Str)]
def NC (k : bN) : MS :=
 (aH (aT (aC bQ (aB 2) (aQ eU (aA (bR (eD (aB 3)) [5] (aU 5) bU (aC bQ (aQ (wX k.aJ (dO k)) (aA (aB 0) aD)) (aB 5))) aD))) (aU 4))
 (aZ (aM (n7 k) 3 aP (aA (aB 1) (aA (eC (.int 1)) (aA (aQ eU (aA (bR (eY mN (aA (aQ cY (aA (aC aV (aB 1) (eC (.int 1))) aD)) aD)) [6] (aU 6) bU (aQ CL (aA (aC M5 (aB 6) (aB 4)) aD))) aD)) aD))))))
def B6 (k : bN) : MF := bL (NC k) MU
def O7 : List Str := [("plan" : Str), ("state" : Str), ("deed" : Str), ("fates" : Str), ("word" : Str), ("rest" : Str), ("downs" : Str), ("address" : Str), ("house" : Str), ("rank" : Str), ("ranks" : Str), ("tie" : Str)]
def N6 (k : bN) : MS :=
 (aH (aT (aB 2) (S8 1 (aI (aU 4) (aI (aU 5) bS))))
 (aH (dW (bA (aC fG (aB 4) (eC (.str ("fall" : Str))))) (aZ (aM (OD k) 3 aP (aA (aB 0) (aA (aB 1) (aA (aC aV (aB 5) (eC (.int 0))) aD))))) aW)
 (aH (dW (bA (aC fG (aB 4) (eC (.str ("stop" : Str))))) (aZ (aM (VP k) 4 aP (aA (aB 0) (aA (aB 1) (aA (aC aV (aB 5) (eC (.int 0))) (aA (aB 3) aD)))))) aW)
 (aH (dW (bA (aC fG (aB 4) (eC (.str ("rise" : Str))))) (aZ (aM (aBa k) 3 aP (aA (aB 0) (aA (aB 1) (aA (aC aV (aB 5) (eC (.int 0))) aD))))) aW)
 (aH (dW (bA (aC fG (aB 4) (eC (.str ("down" : Str))))) (aZ (aM (pW k) 3 aP (aA (aB 0) (aA (aB 1) (aA (aM (n7 k) 3 aP (aA (aB 1) (aA (eC (.int 2)) (aA (aQ eU (aA (aQ aAx (aA (aC bQ (aC aV (aB 1) (eC (.int 2))) (bW (aA (aC aV (aB 5) (eC (.int 0))) aD))) aD)) aD)) aD)))) aD))))) aW)
 (aH (dW (bA (aC fG (aB 4) (eC (.str ("up" : Str))))) (aH (aT (aQ eU (aA (bR (eD (aC aV (aB 1) (eC (.int 2)))) [11] (aU 11) (bA (aC mQ (aB 11) (aC aV (aB 5) (eC (.int 0))))) (aB 11)) aD)) (aU 6))
 (aZ (aM (pW k) 3 aP (aA (aB 0) (aA (aB 1) (aA (aM (n7 k) 3 aP (aA (aB 1) (aA (eC (.int 2)) (aA (aB 6) aD)))) aD)))))) aW)
 (aH (dW (bA (aC fG (aB 4) (eC (.str ("rank" : Str))))) (aH (aT (aB 5) (aCw 3 (aI (aU 7) (aI (aU 8) (aI (aU 9) bS)))))
 (aH (aT (aM (n7 k) 3 aP (aA (aC aV (aB 1) (eC (.int 3))) (aA (aB 7) (aA (aM (n7 k) 3 aP (aA (aC aV (aC aV (aB 1) (eC (.int 3))) (aB 7)) (aA (aB 8) (aA (aB 9) aD)))) aD)))) (aU 10))
 (aZ (aM (pW k) 3 aP (aA (aB 0) (aA (aB 1) (aA (aM (n7 k) 3 aP (aA (aB 1) (aA (eC (.int 3)) (aA (aB 10) aD)))) aD))))))) aW)
 (aH (dW (bA (aC fG (aB 4) (eC (.str ("tear" : Str))))) (aZ (aM (B6 k) 4 aP (aA (aB 0) (aA (aB 1) (aA (aC aV (aB 5) (eC (.int 0))) (aA (aC aV (aB 5) (eC (.int 1))) aD)))))) aW)
 (aH (dW (bA (aC fG (aB 4) (eC (.str ("heal" : Str))))) (aZ (aM (B6 k) 4 aP (aA (aB 0) (aA (aB 1) (aA (bW aD) (aA (bW aD) aD)))))) aW)
 (aZ (aM (QN k) 4 aP (aA (aB 0) (aA (aB 1) (aA (aC aV (aB 5) (eC (.int 0))) (aA (aC aV (aB 5) (eC (.int 1))) aD)))))))))))))))
def PR (k : bN) : MF := bL (N6 k) O7
def RM : List Str := [("thing" : Str), ("many" : Str), ("one" : Str), ("other" : Str)]
def R7 (k : bN) : MS :=
 (aH (dW (gH (cQ (eP (aQ (mV m7) (aA (aB 0) (aA (eC (.ty "tuple")) aD))))) (cQ (eP (aQ allM (aA (bR (eD (aB 0)) [2] (aU 2) bU (aM (bJ k) 3 aP (aA (aB 2) (aA (eC (.int 0)) (aA (aC mU (aB 1) (eC (.int 1))) aD))))) aD))))) (aZ (eC (.bl false))) aW)
 (aZ (aQ allM (aA (bR (eY zsM (aA (lE iU (aB 0) cJ (bX (AF tX (eC (.int 1))))) (aA (lE iU (aB 0) (bX (eC (.int 1))) cJ) aD))) [2, 3] (bY 2 (aI (aU 2) (aI (aU 3) bS))) bU (aC TJ (aB 2) (aB 3))) aD))))
def EG (k : bN) : MF := bL (R7 k) RM
def RJ : List Str := [("plan" : Str), ("state" : Str), ("houses" : Str), ("hosts" : Str)]
def SK (k : bN) : MS :=
 (aH (dW (gH (eP (aQ anyM (aA (aC aV (aB 1) (eC (.int 1))) aD))) (gH (cQ (eP (aM (EG k) 2 aP (aA (aB 2) (aA (aQ (wX k.aJ (dO k)) (aA (aB 0) aD)) aD))))) (cQ (eP (aM (EG k) 2 aP (aA (aB 3) (aA (bG k.aJ ("hosts" : Str) (aB 0)) aD))))))) (aZ (eC (.bl false))) aW)
 (aZ (UO TJ TJ (eC (.int 0)) (aQ cY (aA (aB 2) aD)) (aQ (wX k.aJ (dO k)) (aA (aB 0) aD)))))
def Q1 (k : bN) : MF := bL (SK k) RJ
def FC : List Str := [("plan" : Str), ("address" : Str), ("house" : Str), ("rank" : Str)]
def ED (k : bN) : MS :=
 (aH (dW (gH (cQ (eP (aM (bJ k) 3 aP (aA (aB 1) (aA (eC (.int 0)) (aA (aC mU (aM (eX k) 1 aP (aA (aB 0) aD)) (eC (.int 1))) aD)))))) (cQ (eP (aM (bJ k) 3 aP (aA (aB 2) (aA (eC (.int 0)) (aA (aC mU (aQ (wX k.aJ (dO k)) (aA (aB 0) aD)) (eC (.int 1))) aD))))))) (aZ (eC (.bl false))) aW)
 (aZ (aM (bJ k) 3 aP (aA (aB 3) (aA (eC (.int 1)) (aA (eC (.int 12)) aD))))))
def D7 (k : bN) : MF := bL (ED k) FC
def tJ : List Str := [("plan" : Str), ("thing" : Str), ("house" : Str), ("tie" : Str), ("less" : Str)]
def uU (k : bN) : MS :=
 (aZ (jM (aM (bJ k) 3 aP (aA (aB 1) (aA (eC (.int 0)) (aA (eC (.int 9)) aD)))) (aC M5 (aB 1) (bR (eD (bG k.aJ ("ties" : Str) (aB 0))) [2, 3, 4] (bY 3 (aI (aU 2) (aI (aU 3) (aI (aU 4) bS)))) bU (aB 3)))))
def n9 (k : bN) : MF := bL (uU k) tJ
theorem CJ (x0 x1 : D) : begin tJ [x0, x1] = [some x0, some x1, none, none, none] := rfl
def U4 : List Str := [("plan" : Str), ("state" : Str), ("thing" : Str), ("word" : Str), ("rest" : Str)]
def VX (k : bN) (tS : Addr) : MS :=
 (aH (dW (gH (cQ (eP (aQ (mV m7) (aA (aB 2) (aA (eC (.ty "tuple")) aD))))) (gH (bA (aC fG (aB 2) (bW aD))) (cQ (eP (aQ (mV m7) (aA (aC aV (aB 2) (eC (.int 0))) (aA (eC (.ty "str")) aD))))))) (aZ (eC (.bl false))) aW)
 (aH (aT (aB 2) (S8 1 (aI (aU 3) (aI (aU 4) bS))))
 (aH (dW (bA (aC mQ (aQ cY (aA (aB 4) aD)) (aE4 tS VU (eC (.con tS)) (aA (aB 3) (aA (AF tX (eC (.int 1))) aD))))) (aZ (eC (.bl false))) aW)
 (aH (dW (bA (aC M5 (aB 3) (bW (aA (eC (.str ("fall" : Str))) (aA (eC (.str ("stop" : Str))) (aA (eC (.str ("rise" : Str))) aD)))))) (aZ (jM (aM (bJ k) 3 aP (aA (aC aV (aB 4) (eC (.int 0))) (aA (eC (.int 0)) (aA (aC mU (aQ (wX k.aJ (dO k)) (aA (aB 0) aD)) (eC (.int 1))) aD)))) (aC fG (aC aV (aC aV (aB 1) (eC (.int 0))) (aC aV (aB 4) (eC (.int 0)))) (aQ CL (aA (aC mQ (aB 3) (eC (.str ("rise" : Str)))) aD))))) aW)
 (aH (dW (bA (aC M5 (aB 3) (bW (aA (eC (.str ("down" : Str))) (aA (eC (.str ("up" : Str))) aD))))) (aZ (jM (aM (n9 k) 2 aP (aA (aB 0) (aA (aC aV (aB 4) (eC (.int 0))) aD))) (aC fG (aC M5 (aC aV (aB 4) (eC (.int 0))) (aC aV (aB 1) (eC (.int 2)))) (aC fG (aB 3) (eC (.str ("up" : Str))))))) aW)
 (aH (dW (bA (aC fG (aB 3) (eC (.str ("rank" : Str))))) (aZ (aM (D7 k) 4 aP (aA (aB 0) (aA (aC aV (aB 4) (eC (.int 0))) (aA (aC aV (aB 4) (eC (.int 1))) (aA (aC aV (aB 4) (eC (.int 2))) aD)))))) aW)
 (aH (dW (bA (aC fG (aB 3) (eC (.str ("tear" : Str))))) (aZ (aM (Q1 k) 4 aP (aA (aB 0) (aA (aB 1) (aA (aC aV (aB 4) (eC (.int 0))) (aA (aC aV (aB 4) (eC (.int 1))) aD)))))) aW)
 (aH (dW (bA (aC fG (aB 3) (eC (.str ("heal" : Str))))) (aZ (aQ anyM (aA (aC aV (aB 1) (eC (.int 1))) aD))) aW)
 (aZ (jM (aM (bJ k) 3 aP (aA (aC aV (aB 4) (eC (.int 0))) (aA (eC (.int 0)) (aA (aC mU (bG k.aJ ("hosts" : Str) (aB 0)) (eC (.int 1))) aD)))) (aM (bJ k) 3 aP (aA (aC aV (aB 4) (eC (.int 1))) (aA (eC (.int 0)) (aA (aC mU (aM (eX k) 1 aP (aA (aB 0) aD)) (eC (.int 1))) aD))))))))))))))
def VM (k : bN) (tS : Addr) : MF := bL (VX k tS) U4
end Lb
namespace Lw
open PySem PySem.Spec PyProof.Rows L2 Pc Lb
def OW : List Str := [("_law_model_here" : Str), ("_law_world_here" : Str), ("_law_a" : Str), ("_law_h" : Str), ("_law_down" : Str), ("_law_house" : Str), ("_law_tie" : Str), ("_law_less" : Str)]
def PZ (k : bN) : MS :=
 (aH (aT (aQ MK (aA (bR (eD (aC aV (aB 0) (eC (.str ("ties" : Str))))) [5, 6, 7] (bY 3 (aI (aU 5) (aI (aU 6) (aI (aU 7) bS)))) (gI (bA (aC fG (aB 5) (aB 3))) (bA (aC M5 (aB 6) (aC aV (aB 1) (eC (.str ("downs" : Str))))))) (aB 7)) aD)) (aU 4))
 (aZ (aQ max2 (aA (eC (.int 1)) (aA (aC mU (aC aV (aC aV (aC aV (aB 1) (eC (.str ("ranks" : Str)))) (aB 2)) (aB 3)) (aB 4)) aD)))))
def mH (k : bN) : MF := bL (PZ k) OW
def NZ : List Str := [("_law_model_here" : Str), ("_law_rank_here" : Str), ("_law_whole" : Str)]
def NU (k : bN) : MS :=
 (aH (aT (aC bQ (aC mulM (aC bQ (aC aV (aB 0) (eC (.str ("bears" : Str)))) (eC (.int 1))) (aC aV (aB 0) (eC (.str ("every" : Str))))) (aC aV (aB 0) (eC (.str ("slow" : Str))))) (aU 2))
 (aZ (aC bQ (aB 2) (aC mulM (aC aV (aB 0) (eC (.str ("gap" : Str)))) (aC mU (eC (.int 12)) (aB 1))))))
def BK (k : bN) : MF := bL (NU k) NZ
def KU : List Str := [("_law_model_here" : Str), ("_law_world_here" : Str), ("_law_a" : Str), ("_law_h" : Str)]
def J0 (k : bN) : MS :=
 (aZ (eNew (aA (eC (.str ("waits" : Str))) (aA (aC bQ (aM (BK k) 2 aP (aA (aB 0) (aA (aM (mH k) 4 aP (aA (aB 0) (aA (aB 1) (aA (aB 2) (aA (aB 3) aD))))) aD))) (aC aV (aB 0) (eC (.str ("hold" : Str))))) aD))))
def rY (k : bN) : MF := bL (J0 k) KU
def yZ : List Str := [("_law_lots" : Str), ("_law_one" : Str)]
def yI (k : bN) : MS :=
 (aZ (aQ aFw (aA (bR (eD (aB 0)) [1] (aU 1) bU (bW (aA (lE iU (aB 1) cJ (bX (eC (.int 3)))) (aA (aC aV (aB 1) (eC (.int 3))) aD)))) aD)))
def yM (k : bN) : MF := bL (yI k) yZ
def KY : List Str := [("_law_world_here" : Str), ("_law_host" : Str), ("_law_a" : Str), ("_law_told" : Str), ("_law_many" : Str), ("_law_good" : Str)]
def JZ (k : bN) : MS :=
 (aH (aT (aC aV (aC aV (aC aV (aB 0) (eC (.str ("tables" : Str)))) (aB 1)) (aB 2)) (aU 3))
 (aH (aT (aQ cY (aA (aC aV (aB 0) (eC (.str ("living" : Str)))) aD)) (aU 4))
 (aH (aT (jM (aC geM (aB 3) (eC (.int 0))) (aC fG (aC aV (aC aV (aB 0) (eC (.str ("parts" : Str)))) (aB 3)) (aC aV (aC aV (aB 0) (eC (.str ("parts" : Str)))) (aC bQ (aB 4) (aB 1))))) (aU 5))
 (aH (aT (jM (aB 5) (aC fG (aC aV (aC aV (aC aV (aC aV (aB 0) (eC (.str ("stands" : Str)))) (aB 2)) (aB 3)) (eC (.int 0))) (eC (.str ("serves" : Str))))) (aU 5))
 (aT (eNew (aA (aC bQ (aC aV (aC aV (aC aV (aB 0) (eC (.str ("asks" : Str)))) (aB 1)) (eC (.int 0))) (eC (.int 1))) (aA (aC bQ (aC aV (aC aV (aC aV (aB 0) (eC (.str ("asks" : Str)))) (aB 1)) (eC (.int 1))) (aQ CL (aA (AF notM (aB 5)) aD))) aD))) (eO (aC aV (aB 0) (eC (.str ("asks" : Str)))) (aB 1)))))))
def LK (k : bN) : MF := bL (JZ k) KY
def JH : List Str := [("_law_world_here" : Str), ("_law_h" : Str), ("_law_news" : Str), ("_law_a" : Str), ("_law_row" : Str)]
def LU (k : bN) : MS :=
 (aH (aT (eC (.int 0)) (eO (aC aV (aB 0) (eC (.str ("living" : Str)))) (aB 1)))
 (gM (eY pK (aA (aC aV (aB 0) (eC (.str ("stands" : Str)))) aD)) (bY 2 (aI (aU 3) (aI (aU 4) bS))) (aH (aT (eNew (aA (eC (.str ("rests" : Str))) (aA (eC (.int 0)) aD))) (eO (aB 4) (aB 1)))
 (dE (b7 "list" gG (aB 2) (aA (bW (aA (aB 3) (aA (aB 1) (aA (eC (.str ("rests" : Str))) aD)))) aD))))))
def K0 (k : bN) : MF := bL (LU k) JH
def O9 : List Str := [("_law_world_here" : Str), ("_law_a" : Str), ("_law_s" : Str), ("_law_rank_here" : Str), ("_law_lots" : Str), ("_law_r" : Str), ("_law_fate" : Str)]
def M4 (k : bN) : MS :=
 (gM (eY mN (aA (aQ cY (aA (aC aV (aB 0) (eC (.str ("parts" : Str)))) aD)) aD)) (aU 5) (dW (gI (bA (aC mQ (aB 5) (aB 2))) (gI (bA (aC fG (aC aV (aC aV (aB 0) (eC (.str ("parts" : Str)))) (aB 5)) (aC aV (aC aV (aB 0) (eC (.str ("parts" : Str)))) (aB 2)))) (bA (aC mQ (lE iU (aC aV (aB 0) (eC (.str ("living" : Str)))) (bX (aB 5)) (bX (aC bQ (aB 5) (eC (.int 1))))) (gT (aA (eC (.int 0)) aD)))))) (aH (aT (b7 "dict" getM (aB 4) (aA (bW (aA (aB 1) (aA (aB 2) (aA (aB 5) aD)))) (aA (eC (.int 1)) aD))) (aU 6))
 (aH (aT (T3 (bA (aC fG (aB 6) (eC (.int 0)))) (aC bQ (b7 "dict" getM (aC aV (aB 0) (eC (.str ("lacks" : Str)))) (aA (bW (aA (aB 1) (aA (aB 2) (aA (aB 5) aD)))) (aA (eC (.int 0)) aD))) (eC (.int 1))) (eC (.int 0))) (eO (aC aV (aB 0) (eC (.str ("lacks" : Str)))) (bW (aA (aB 1) (aA (aB 2) (aA (aB 5) aD))))))
 (aH (dE (b7 "list" gG (aC aV (aB 0) (eC (.str ("sent" : Str)))) (aA (bW (aA (aB 1) (aA (aB 2) (aA (aB 5) aD)))) aD)))
 (dW (bA (aC II (aB 6) (eC (.int 0)))) (dE (b7 "list" gG (aC aV (aB 0) (eC (.str ("under" : Str)))) (aA (bW (aA (aB 6) (aA (aB 1) (aA (aB 2) (aA (aB 5) (aA (aB 3) aD)))))) aD))) aW)))) aW))
def B9 (k : bN) : MF := bL (M4 k) O9
def GZ : List Str := [("_law_model_here" : Str), ("_law_world_here" : Str), ("_law_deed_here" : Str), ("_law_word" : Str), ("_law_rest" : Str), ("_law_many" : Str), ("_law_old" : Str), ("_law_a" : Str), ("_law_row" : Str), ("_law_h" : Str), ("_law_stand" : Str), ("_law_tie" : Str)]
def GP (k : bN) : MS :=
 (aH (aT (bW (aA (aC aV (aB 2) (eC (.int 0))) (aA (lE iU (aB 2) (bX (eC (.int 1))) cJ) aD))) (bY 2 (aI (aU 3) (aI (aU 4) bS))))
 (aH (aT (aQ cY (aA (aC aV (aB 1) (eC (.str ("living" : Str)))) aD)) (aU 5))
 (aH (aT (bR (eY mN (aA (aQ cY (aA (aC aV (aB 0) (eC (.str ("ranks" : Str)))) aD)) aD)) [7] (aU 7) bU (bR (eY mN (aA (aB 5) aD)) [9] (aU 9) bU (aM (mH k) 4 aP (aA (aB 0) (aA (aB 1) (aA (aB 7) (aA (aB 9) aD))))))) (aU 6))
 (aH (dW (bA (aC fG (aB 3) (eC (.str ("down" : Str))))) (dE (b7 "list" gG (aC aV (aB 1) (eC (.str ("downs" : Str)))) (aA (aC aV (aB 4) (eC (.int 0))) aD))) aW)
 (aH (dW (bA (aC fG (aB 3) (eC (.str ("up" : Str))))) (aT (RW (eD (aC aV (aB 1) (eC (.str ("downs" : Str))))) [11] (aU 11) (bA (aC mQ (aB 11) (aC aV (aB 4) (eC (.int 0))))) (aB 11)) (eO (aB 1) (eC (.str ("downs" : Str))))) aW)
 (aH (dW (bA (aC fG (aB 3) (eC (.str ("rank" : Str))))) (aT (aC aV (aB 4) (eC (.int 2))) (eO (aC aV (aC aV (aB 1) (eC (.str ("ranks" : Str)))) (aC aV (aB 4) (eC (.int 0)))) (aC aV (aB 4) (eC (.int 1))))) aW)
 (gM (eY pK (aA (aC aV (aB 1) (eC (.str ("stands" : Str)))) aD)) (bY 2 (aI (aU 7) (aI (aU 8) bS))) (gM (eY pK (aA (aB 8) aD)) (bY 2 (aI (aU 9) (aI (aU 10) bS))) (dW (gI (bA (aC fG (aC aV (aB 10) (eC (.int 0))) (eC (.str ("waits" : Str))))) (bA (aC II (aM (mH k) 4 aP (aA (aB 0) (aA (aB 1) (aA (aB 7) (aA (aB 9) aD))))) (aC aV (aC aV (aB 6) (aB 7)) (aB 9))))) (aT (aQ max2 (aA (aC aV (aB 10) (eC (.int 1))) (aA (aC aV (aM (rY k) 4 aP (aA (aB 0) (aA (aB 1) (aA (aB 7) (aA (aB 9) aD))))) (eC (.int 1))) aD))) (eO (aB 10) (eC (.int 1)))) aW)))))))))
def G7 (k : bN) : MF := bL (GP k) GZ
def L6 : List Str := [("_law_model_here" : Str), ("_law_world_here" : Str), ("_law_deed_here" : Str), ("_law_lots" : Str), ("_law_news" : Str), ("_law_word" : Str), ("_law_rest" : Str), ("_law_a" : Str), ("_law_row" : Str), ("_law_many" : Str), ("_law_there" : Str), ("_law_host" : Str), ("_law_k" : Str)]
def M9 (k : bN) : MS :=
 (aH (HD 5 6 (aA (aC aV (aB 2) (eC (.int 0))) (aA (lE iU (aB 2) (bX (eC (.int 1))) cJ) aD)))
 (aH (dW (bA (aC fG (aB 5) (eC (.str ("stop" : Str))))) (gM (eY pK (aA (aC aV (aB 1) (eC (.str ("stands" : Str)))) aD)) (bY 2 (aI (aU 7) (aI (aU 8) bS))) (dW (bA (aC fG (aC aV (aC aV (aB 8) (aC aV (aB 6) (eC (.int 0)))) (eC (.int 0))) (eC (.str ("serves" : Str))))) (dE (aM (B9 k) 5 aP (aA (aB 1) (aA (aB 7) (aA (aC aV (aB 6) (eC (.int 0))) (aA (eC (.int 0)) (aA (aB 3) aD))))))) aW)) aW)
 (aH (dW (bA (aC M5 (aB 5) (bW (aA (eC (.str ("stop" : Str))) (aA (eC (.str ("fall" : Str))) aD))))) (dE (aM (K0 k) 3 aP (aA (aB 1) (aA (aC aV (aB 6) (eC (.int 0))) (aA (aB 4) aD))))) aW)
 (aH (dW (bA (aC fG (aB 5) (eC (.str ("rise" : Str))))) (aH (aT (eC (.int 1)) (eO (aC aV (aB 1) (eC (.str ("living" : Str)))) (aC aV (aB 6) (eC (.int 0)))))
 (gM (eY pK (aA (aC aV (aB 1) (eC (.str ("stands" : Str)))) aD)) (bY 2 (aI (aU 7) (aI (aU 8) bS))) (aT (aM (rY k) 4 aP (aA (aB 0) (aA (aB 1) (aA (aB 7) (aA (aC aV (aB 6) (eC (.int 0))) aD))))) (eO (aB 8) (aC aV (aB 6) (eC (.int 0))))))) aW)
 (aH (dW (bA (aC M5 (aB 5) (bW (aA (eC (.str ("down" : Str))) (aA (eC (.str ("up" : Str))) (aA (eC (.str ("rank" : Str))) aD)))))) (dE (aM (G7 k) 3 aP (aA (aB 0) (aA (aB 1) (aA (aB 2) aD))))) aW)
 (aH (dW (bA (aC M5 (aB 5) (bW (aA (eC (.str ("tear" : Str))) (aA (eC (.str ("heal" : Str))) aD))))) (aH (aT (aQ cY (aA (aC aV (aB 1) (eC (.str ("living" : Str)))) aD)) (aU 9))
 (aH (aT (T3 (bA (aC fG (aB 5) (eC (.str ("tear" : Str))))) (aC bQ (aQ aCG (aA (aC aV (aB 6) (eC (.int 0))) aD)) (bR (eD (aC aV (aB 6) (eC (.int 1)))) [11] (aU 11) bU (aC bQ (aB 9) (aB 11)))) (gT aD)) (aU 10))
 (aT (RW (eY mN (aA (aQ cY (aA (aC aV (aB 1) (eC (.str ("parts" : Str)))) aD)) aD)) [12] (aU 12) bU (aQ CL (aA (aC M5 (aB 12) (aB 10)) aD))) (eO (aB 1) (eC (.str ("parts" : Str))))))) aW)
 (dW (bA (aC fG (aB 5) (eC (.str ("ask" : Str))))) (dE (aM (LK k) 3 aP (aA (aB 1) (aA (aC aV (aB 6) (eC (.int 0))) (aA (aC aV (aB 6) (eC (.int 1))) aD))))) aW)))))))
def QD (k : bN) : MF := bL (M9 k) L6
def KJ : List Str := [("_law_model_here" : Str), ("_law_world_here" : Str), ("_law_many" : Str), ("_law_receivers" : Str), ("_law_lacks" : Str), ("_law_a" : Str), ("_law_rows" : Str), ("_law_stands" : Str), ("_law_ranks" : Str), ("_law_tables" : Str), ("_law_asks" : Str), ("_law_parts" : Str), ("_law_downs" : Str), ("_law_s" : Str), ("_law_r" : Str), ("_law_row" : Str), ("_law_stand" : Str)]
def LM (k : bN) : MS :=
 (aH (aT (bW (aA (aQ cY (aA (aC aV (aB 1) (eC (.str ("living" : Str)))) aD)) (aA (aQ cY (aA (aC aV (aB 1) (eC (.str ("parts" : Str)))) aD)) aD))) (bY 2 (aI (aU 2) (aI (aU 3) bS))))
 (aH (aT (eNew aD) (aU 4))
 (aH (gM (eY mN (aA (aQ cY (aA (aC aV (aB 0) (eC (.str ("ranks" : Str)))) aD)) aD)) (aU 5) (aH (aT (bR (eY mN (aA (aB 2) aD)) [13] (aU 13) bU (aQ eU (aA (bR (eY mN (aA (aB 3) aD)) [14] (aU 14) bU (b7 "dict" getM (aC aV (aB 1) (eC (.str ("lacks" : Str)))) (aA (bW (aA (aB 5) (aA (aB 13) (aA (aB 14) aD)))) (aA (eC (.int 0)) aD)))) aD))) (aU 6))
 (dE (b7 "list" gG (aB 4) (aA (aQ eU (aA (aB 6) aD)) aD)))))
 (aH (aT (aQ eU (aA (bR (eD (aC aV (aB 1) (eC (.str ("stands" : Str))))) [15] (aU 15) bU (aQ eU (aA (bR (eD (aB 15)) [16] (aU 16) bU (aQ eU (aA (aB 16) aD))) aD))) aD)) (aU 7))
 (aH (aT (aQ eU (aA (bR (eD (aC aV (aB 1) (eC (.str ("ranks" : Str))))) [15] (aU 15) bU (aQ eU (aA (aB 15) aD))) aD)) (aU 8))
 (aH (HD 9 10 (aA (aQ eU (aA (bR (eD (aC aV (aB 1) (eC (.str ("tables" : Str))))) [15] (aU 15) bU (aQ eU (aA (aB 15) aD))) aD)) (aA (aQ eU (aA (bR (eD (aC aV (aB 1) (eC (.str ("asks" : Str))))) [15] (aU 15) bU (aQ eU (aA (aB 15) aD))) aD)) aD)))
 (aH (HD 11 12 (aA (aQ eU (aA (aC aV (aB 1) (eC (.str ("parts" : Str)))) aD)) (aA (aQ eU (aA (aQ TY (aA (aC aV (aB 1) (eC (.str ("downs" : Str)))) aD)) aD)) aD)))
 (aZ (bW (aA (aQ eU (aA (aC aV (aB 1) (eC (.str ("living" : Str)))) aD)) (aA (aB 11) (aA (aB 12) (aA (aB 8) (aA (aB 7) (aA (aQ eU (aA (aC aV (aB 1) (eC (.str ("under" : Str)))) aD)) (aA (aQ eU (aA (aB 4) aD)) (aA (aB 9) (aA (aB 10) aD))))))))))))))))))
def y9 (k : bN) : MF := bL (LM k) KJ
end Lw
namespace Lb
open PySem PySem.Spec PyProof.Rows L2 Pc
section
variable {w : W} {P : D → W → Prop} {PS : Sg → W → Prop} {PI : mG → W → Prop} {σ : Sg} {k : bN} {p h : Nat} {m : Mo} {b : Int} {s : yD}
theorem aF9 {i j : Int} : T (max2 [.int i, .int j] w) P = P (.int (if j > i then j else i)) w := by
 have : max2 [.int i, .int j] w = .ok (.int (if j > i then j else i)) w := rfl
 rw [this, b5]
theorem YI {w : W} {xs : List Int} : D.py w (.tup (xs.map D.int)) = some (.tuple (xs.map PyData.int)) := by
 unfold D.py D.gD
 rw [DN]; rfl
theorem VN (cells : List Int) : SeqAt.shaped (.tuple (cells.map PyData.int)) = true := by
 have h1 := FV cells
 have h2 := EN cells
 unfold SeqAt.shaped
 simp [PyData.canLay0, PyData.depth, h1]
 omega
end
def aAY (s : yD) (a h : Nat) : Role × Int := ((s.c7[a]?).getD []).getD h (.rests, 0)
section
variable {w : W} {P : D → W → Prop} {σ : Sg} {k : bN} {p h : Nat} {m : Mo} {b : Int} {s : yD}
theorem getD_some {α : Type} {xs : List α} {i : Nat} {x d : α} (h : xs[i]? = some x) : xs.getD i d = x := by rw [List.getD_eq_getElem?_getD, h]; rfl
theorem aDn {q : Bool} : T (CL [.bl q] w) P = P (.int (if q = true then 1 else 0)) w := by
 have : CL [.bl q] w = .ok (.int (if q = true then 1 else 0)) w := by cases q <;> rfl
 rw [this, b5]
end
inductive U2 where
 | U0 | stop | rise | down | up | rank | QV | SD | ask
deriving DecidableEq
def U2.s : U2 → Str
 | .U0 => "fall" | .stop => "stop" | .rise => "rise" | .down => "down" | .up => "up" | .rank => "rank" | .QV => "tear" | .SD => "heal" | .ask => "ask"
inductive xE where
 | down (t : Int) | up (t : Int) | rank (a c : Nat) (r : Int) | QV (hs cs : List Int) | SD | ask (c a : Nat)
 | U0 (c : Nat) | stop (c : Nat) | rise (c : Nat)
def xE.word : xE → U2
 | .down _ => .down | .up _ => .up | .rank .. => .rank | .QV .. => .QV | .SD => .SD | .ask .. => .ask | .U0 _ => .U0 | .stop _ => .stop | .rise _ => .rise
def xE.args : xE → List D
 | .down t => [.int t] | .up t => [.int t] | .rank a c r => [.int (a : Nat), .int (c : Nat), .int r] | .QV hs cs => [eT hs, eT cs] | .SD => [] | .ask c a => [.int (c : Nat), .int (a : Nat)]
 | .U0 c => [.int (c : Nat)] | .stop c => [.int (c : Nat)] | .rise c => [.int (c : Nat)]
theorem fZ (r : U2) : PyData.strOk r.s = true := by cases r <;> decide +kernel
section
variable {w : W} {P : D → W → Prop} {PL : List (List Key × D) → W → Prop} {σ : Sg} {k : bN} {tS : Addr} {p h : Nat} {m : Mo} {b : Int} {s : yD}
def U2.size : U2 → Int
 | .rank => 3
 | .QV => 2
 | .SD => 0
 | .ask => 2
 | _ => 1
def WV (n : Int) (xs : List Int) : Prop := (∀ x ∈ xs, 0 ≤ x ∧ x ≤ n - 1) ∧ xs.Pairwise (· < ·)
def Fits (m : Mo) (h : Nat) : xE → Prop
 | .down t => (0 ≤ t ∧ t ≤ 9) ∧ t ∈ m.cK.map fun t => t.2.1
 | .up t => (0 ≤ t ∧ t ≤ 9) ∧ t ∈ m.cK.map fun t => t.2.1
 | .rank a c r => a < m.cD.length ∧ c < h ∧ 1 ≤ r ∧ r ≤ 12
 | .QV hs cs => (WV h hs ∧ WV m.gR cs) ∧ (hs.length ≤ 100 ∧ cs.length ≤ 100) ∧ 0 < hs.length ∧ hs.length < h
 | .SD => True
 | .ask c a => (c : Int) < m.gR ∧ a < m.cD.length
 | .U0 c => c < h
 | .stop c => c < h
 | .rise c => c < h
end
end Lb
namespace Lw
open PySem PySem.Spec PyProof.Rows L2 Pc Lb
inductive qV where
 | dict | living | parts | downs | under | iB | cD | c7 | tables | asks | MV
 | XY (a : Nat) | RN (a : Nat) | NG (a c : Nat) | ZS (c : Nat) | ask (c : Nat)
deriving DecidableEq
abbrev yF := qV → Nat
abbrev Con := qV → Option MO
def oI {α : Type} (f : qV → α) (l : qV) (x : α) : qV → α := fun q => if q = l then x else f q
theorem o9 {α : Type} {f : qV → α} {l : qV} {x : α} : oI f l x l = x := if_pos rfl
theorem fW {α : Type} {f : qV → α} {l q : qV} {x : α} (h : q ≠ l) : oI f l x q = f q := if_neg h
def onS (S : qV → Bool) (C : Con) : Con := fun l => if S l then C l else none
def qI (n : Nat) (w : W) (A : yF) (C : Con) : Prop := ∀ l o, C l = some o → n ≤ A l ∧ w[A l]? = some o ∧ ∀ l' o', C l' = some o' → A l' = A l → l' = l
section
variable {n : Nat} {w w' : W} {A A' : yF} {C C' : Con} {l : qV} {o : MO}
theorem qI.get (h : qI n w A C) (e : C l = some o) : w[A l]? = some o := (h l o e).2.1
theorem qI.lt (h : qI n w A C) (e : C l = some o) : A l < w.length := (aj.mp (h.get e)).1
theorem qI.keep (h : qI n w A C) (hk : ∀ i, n ≤ i → i < w.length → w'[i]? = w[i]?) : qI n w' A C := fun l o e =>
 ⟨(h l o e).1, by rw [hk _ (h l o e).1 (h.lt e)]; exact h.get e, (h l o e).2.2⟩
theorem qI.grow (h : qI n w A C) (h2 : 2 ≤ n) (g : u7 w w' 1 0) : qI n w' A C := h.keep fun i hi hl => g.at_ i hl (by omega) (by omega)
theorem qI.app (h : qI n w A C) (u : W) : qI n (w ++ u) A C := h.keep fun i _ hl => au hl
theorem qI.set (h : qI n w A C) (e : C l = some o) (o1 : MO) : qI n (w.set (A l) o1) A (oI C l (some o1)) := fun q u eq => by
 have inj : ∀ l' o', oI C l (some o1) l' = some o' → ∃ o2, C l' = some o2 := fun l' o' e' => by
  by_cases c : l' = l
  ·subst c; exact ⟨o, e⟩
  ·rw [fW c] at e'; exact ⟨o', e'⟩
 obtain ⟨u2, e2⟩ := inj q u eq
 refine ⟨(h q u2 e2).1, ?_, fun l' o' e' ea => ?_⟩
 ·by_cases c : q = l
  ·subst c
   rw [o9] at eq
   cases eq
   rw [az (h.lt e)]
  ·rw [fW c] at eq
   rw [bc (fun x => c ((h l o e).2.2 q u2 e2 x.symm))]
   exact h.get eq
 ·obtain ⟨o3, e3⟩ := inj l' o' e'
  exact (h q u2 e2).2.2 l' o3 e3 ea
theorem qI.new (h : qI n w A C) (hk : ∀ i, n ≤ i → i < w.length → w'[i]? = w[i]?) {r : Nat} (h1 : w.length ≤ r) (h0 : n ≤ w.length) (e : w'[r]? = some o) (l : qV) : qI n w' (oI A l r) (oI C l (some o)) := fun q u eq => by
 by_cases c : q = l
 ·subst c
  rw [o9] at eq ⊢
  cases eq
  refine ⟨cq h0 h1, e, fun l' o' e' ea => ?_⟩
  by_cases c' : l' = q
  ·exact c'
  ·rw [fW c'] at e' ea
   have := h.lt e'
   omega
 ·rw [fW c] at eq ⊢
  refine ⟨(h q u eq).1, by rw [hk _ (h q u eq).1 (h.lt eq)]; exact h.get eq, fun l' o' e' ea => ?_⟩
  by_cases c' : l' = l
  ·subst c'
   rw [o9] at ea
   have := h.lt eq
   omega
  ·rw [fW c'] at e' ea
   exact (h q u eq).2.2 l' o' e' ea
theorem qI.add (h : qI n w A C) (h0 : n ≤ w.length) (l : qV) (o : MO) : qI n (w ++ [o]) (oI A l w.length) (oI C l (some o)) :=
 h.new (fun i _ hl => au hl) (av _) h0 (by rw [bg (av _)]; simp) l
theorem qI.sub (h : qI n w A C) (hs : ∀ l o, C' l = some o → C l = some o ∧ A' l = A l) : qI n w A' C' := fun l o e => by
 obtain ⟨e1, e2⟩ := hs l o e
 rw [e2]
 refine ⟨(h l o e1).1, h.get e1, fun l' o' e' ea => ?_⟩
 obtain ⟨e3, e4⟩ := hs l' o' e'
 rw [e4] at ea
 exact (h l o e1).2.2 l' o' e3 ea
theorem qI.nil : qI n w A fun _ => none := fun l o e => nomatch e
end
structure Wx where
 s : yD
 lk : List (List Key × D)
 MV : List D
def J8 (A : yF) : List (Key × D) := [(.inr "living", .ref (A .living)), (.inr "parts", .ref (A .parts)), (.inr "downs", .ref (A .downs)), (.inr "under", .ref (A .under)), (.inr "lacks", .ref (A .iB)),
 (.inr "ranks", .ref (A .cD)), (.inr "stands", .ref (A .c7)), (.inr "tables", .ref (A .tables)), (.inr "asks", .ref (A .asks)), (.inr "sent", .ref (A .MV))]
def gF (A : yF) (g : Nat → qV) (k : Nat) : List D := (List.range k).map fun i => .ref (A (g i))
def OG (xs : List Int) : MO := .lst (xs.map D.int)
def aEw (q : Role × Int) : MO := .lst [.str q.1.s, .int q.2]
def aGc (q : Int × Int) : MO := .lst [.int q.1, .int q.2]
def cont (A : yF) (x : Wx) : Con
 | .dict => some (.dK (J8 A))
 | .living => some (OG x.s.living)
 | .parts => some (OG x.s.parts)
 | .downs => some (OG x.s.downs)
 | .under => some (.lst (x.s.hY.map aCF))
 | .iB => some (.dT x.lk)
 | .cD => some (.lst (gF A .XY x.s.cD.length))
 | .c7 => some (.lst (gF A .RN x.s.c7.length))
 | .tables => some (.lst (gF A .ZS x.s.tables.length))
 | .asks => some (.lst (gF A .ask x.s.asks.length))
 | .MV => some (.lst x.MV)
 | .XY a => x.s.cD[a]?.map OG
 | .RN a => x.s.c7[a]?.map fun r => .lst (gF A (.NG a) r.length)
 | .NG a c => (x.s.c7[a]?.bind (·[c]?)).map aEw
 | .ZS c => x.s.tables[c]?.map OG
 | .ask c => x.s.asks[c]?.map aGc
def World (n : Nat) (w : W) (A : yF) (x : Wx) : Prop := qI n w A (cont A x)
section
variable {n : Nat} {w w' : W} {A A' : yF} {x x' : Wx} {P : D → W → Prop} {PU : Unit → W → Prop} {l : qV} {o o1 : MO}
theorem World.set (h : World n w A x) (e : cont A x l = some o) (o1 : MO) (hc : ∀ q, cont A x' q = oI (cont A x) l (some o1) q) : World n (w.set (A l) o1) A x' := by
 unfold World
 rw [funext hc]
 exact qI.set h e o1
theorem VR {g : Nat → qV} {k i v : Nat} (inj : ∀ i j, g i = g j → i = j) : (gF A g k).set i (.ref v) = gF (oI A (g i) v) g k := by
 refine List.ext_getElem? fun j => ?_
 rw [List.getElem?_set]
 unfold gF
 by_cases c : i = j
 ·subst c
  rw [if_pos rfl]
  by_cases h : i < k
  ·simp [h, o9]
  ·simp [h]
 ·rw [if_neg c]
  simp only [bt]
  cases e : (List.range k)[j]? with
  | none => rfl
  | some y =>
   have : y = j := by
    have := aj.mp e
    obtain ⟨_, h⟩ := this
    rw [List.getElem_range] at h
    exact h.symm
   subst this
   simp only [Option.map_some]
   rw [fW (fun z => c (inj _ _ z).symm)]
theorem aEE {z : Str} {d : D} (h : World n w A x) (e : pD (J8 A) (.inr z) = some d) : T (aV (.ref (A .dict)) (.str z) w) P = P d w := by
 rw [IL (h.get (l := .dict) rfl), e]
 simp
theorem iW (h : World n w A x) : T (aV (.ref (A .dict)) (.str ("ranks" : Str)) w) P = P (.ref (A .cD)) w := aEE h rfl
end
open PySem.W (dataLe)
section
variable {n : Nat} {w w' : W} {A A' : yF} {x x' : Wx} {P : D → W → Prop} {PU : Unit → W → Prop} {l : qV} {o o1 : MO} {k : bN} {i h : Nat} {m : Mo} {b : Int}
def qJ (w : W) (i : Nat) (m : Mo) : Prop := w[i]? = some (.dK m.kvs)
end
def aEG (lk : List (List Key × D)) : Prop := ∀ ks d, pD lk ks = some d → ∃ i, d = .int i
section
variable {n : Nat} {w w' : W} {A A' : yF} {x x' : Wx} {P : D → W → Prop} {PU : Unit → W → Prop} {PI : mG → W → Prop} {l : qV} {o o1 : MO} {k : bN} {i h : Nat} {m : Mo} {b : Int}
theorem getD_at {α : Type} {xs : List α} {d : α} {i : Nat} (h : i < xs.length) : xs[i]? = some (xs.getD i d) := by
 rw [List.getD_eq_getElem?_getD, bq h]
 rfl
theorem World.app (hW : World n w A x) (u : W) : World n (w ++ u) A x := qI.app hW u
end
section
variable {n : Nat} {w w' : W} {A A' : yF} {C : Con} {x x' : Wx} {σ : Sg} {P : D → W → Prop} {PL : List D → W → Prop} {PF : Fl → W → Prop} {PU : Unit → W → Prop} {PI : mG → W → Prop} {l : qV} {o1 : MO} {k : bN} {i h : Nat} {m : Mo} {b : Int}
theorem qI.bind {S : qV → Bool} (h : qI n w A (onS S (cont A x))) (hS : S .dict = true) (hn : n ≤ w.length) (hl : l ≠ .dict) (hc : cont (oI A l w.length) x' l = some o1)
  (hr : ∀ q, q ≠ .dict → q ≠ l → S q = true → cont (oI A l w.length) x' q = cont A x q) :
  qI n ((w ++ [o1]).set (A .dict) (.dK (J8 (oI A l w.length)))) (oI A l w.length) (onS (fun q => S q || q == l) (cont (oI A l w.length) x')) := by
 have h1 := h.add hn l o1
 have e : oI (onS S (cont A x)) l (some o1) .dict = some (.dK (J8 A)) := by
  rw [fW hl.symm, onS, hS]
  rfl
 have h3 := h1.set e (.dK (J8 (oI A l w.length)))
 rw [fW hl.symm] at h3
 refine h3.sub fun q o e => ⟨?_, rfl⟩
 replace e : (if (S q || q == l) = true then cont (oI A l w.length) x' q else none) = some o := e
 by_cases c : q = .dict
 ·subst c
  rw [o9]
  rw [hS] at e
  exact e
 ·rw [fW c]
  by_cases c2 : q = l
  ·subst c2
   rw [o9]
   simp only [beq_self_eq_true, Bool.or_true, ah] at e
   rw [← hc]
   exact e
  ·rw [fW c2]
   unfold onS
   have c3 : (q == l) = false := by simpa using c2
   rw [c3, Bool.or_false] at e
   cases s : S q with
   | false => rw [s] at e; exact nomatch e
   | true =>
    rw [s] at e
    simp only [ah] at e ⊢
    rw [← hr q c c2 s]
    exact e
end
def qV.top : qV → Bool
 | .living => true | .parts => true | .downs => true | .under => true | .iB => true | .cD => true | .c7 => true | .tables => true | .asks => true | .MV => true
 | _ => false
def dep : qV → qV → Prop
 | .dict, q => q.top = true
 | .cD, q => ∃ a, q = .XY a
 | .c7, q => ∃ a, q = .RN a
 | .tables, q => ∃ a, q = .ZS a
 | .asks, q => ∃ a, q = .ask a
 | .RN a, q => ∃ c, q = .NG a c
 | _, _ => False
theorem mD {A A' : yF} {g : Nat → qV} {k : Nat} (h : ∀ i, A (g i) = A' (g i)) : gF A g k = gF A' g k := by
 unfold gF
 exact List.map_congr_left fun i _ => by rw [h i]
theorem QY {A A' : yF} {x : Wx} {l : qV} (h : ∀ q, dep l q → A q = A' q) : cont A x l = cont A' x l := by
 cases l with
 | dict =>
  show some (MO.dK (J8 A)) = some (MO.dK (J8 A'))
  unfold J8
  rw [h .living rfl, h .parts rfl, h .downs rfl, h .under rfl, h .iB rfl, h .cD rfl, h .c7 rfl, h .tables rfl, h .asks rfl, h .MV rfl]
 | cD =>
  show some (MO.lst (gF A .XY x.s.cD.length)) = some (MO.lst (gF A' .XY x.s.cD.length))
  rw [mD fun i => h _ ⟨i, rfl⟩]
 | c7 =>
  show some (MO.lst (gF A .RN x.s.c7.length)) = some (MO.lst (gF A' .RN x.s.c7.length))
  rw [mD fun i => h _ ⟨i, rfl⟩]
 | tables =>
  show some (MO.lst (gF A .ZS x.s.tables.length)) = some (MO.lst (gF A' .ZS x.s.tables.length))
  rw [mD fun i => h _ ⟨i, rfl⟩]
 | asks =>
  show some (MO.lst (gF A .ask x.s.asks.length)) = some (MO.lst (gF A' .ask x.s.asks.length))
  rw [mD fun i => h _ ⟨i, rfl⟩]
 | RN a =>
  show x.s.c7[a]?.map (fun r => MO.lst (gF A (.NG a) r.length)) = x.s.c7[a]?.map (fun r => MO.lst (gF A' (.NG a) r.length))
  congr 1
  funext r
  rw [mD fun i => h _ ⟨i, rfl⟩]
 | _ => rfl
section
variable {n : Nat} {w w' w0 : W} {A A' A1 : yF} {C : Con} {x x' : Wx} {σ : Sg} {P : D → W → Prop} {PL : List D → W → Prop} {PF : Fl → W → Prop} {PU : Unit → W → Prop} {PI : mG → W → Prop} {l : qV} {o1 : MO} {k : bN} {i h : Nat} {m : Mo} {b : Int}
theorem Z0 {v : Nat} {q : qV} (ht : l.top = true) (hq : q ≠ .dict) : cont (oI A l v) x q = cont A x q := QY fun r d => fW fun e => by
 subst e
 cases q <;> simp only [dep] at d
 case dict => exact hq rfl
 all_goals
  obtain ⟨a, rfl⟩ := d
  exact nomatch ht
structure cW (w w' : W) : Prop where
 le : w.length ≤ w'.length
 at_ : ∀ i, i < w.length → w'[i]? = w[i]?
theorem cW.refl : cW w w := ⟨av _, fun _ _ => rfl⟩
theorem cW.app (h : cW w0 w) (u : W) : cW w0 (w ++ u) := ⟨by rw [bw]; have := h.le; omega, fun i hi => by rw [au (Nat.lt_of_lt_of_le hi h.le)]; exact h.at_ i hi⟩
theorem cW.set (h : cW w0 w) {j : Nat} (hj : w0.length ≤ j) (o : MO) : cW w0 (w.set j o) := ⟨by rw [ck]; exact h.le, fun i hi => by rw [bc (by omega)]; exact h.at_ i hi⟩
theorem cW.trans {w1 w2 w3 : W} (a : cW w1 w2) (b : cW w2 w3) : cW w1 w3 := ⟨cq a.le b.le, fun i hi => by rw [b.at_ i (Nat.lt_of_lt_of_le hi a.le), a.at_ i hi]⟩
theorem cW.DP (e : cW w0 w) (hW : World n w0 A x) : World n w A x := qI.keep hW fun i _ hl => e.at_ i hl
theorem cW.mod {j : Nat} (e : cW w0 w) (hM : qJ w0 j m) : qJ w j m := by
 unfold qJ
 rw [e.at_ j (aj.mp hM).1]
 exact hM
theorem cW.grow (e : cW w0 w) : u7 w0 w 1 0 := ⟨e.le, fun i hi _ _ => e.at_ i hi⟩
end
structure Fr (n : Nat) (w w' : W) : Prop where
 le : w.length ≤ w'.length
 at_ : ∀ i, i < n → w'[i]? = w[i]?
section
variable {n : Nat} {w w' w0 : W} {A A' A1 : yF} {C : Con} {x x' : Wx} {σ : Sg} {P : D → W → Prop} {PL : List D → W → Prop} {PF : Fl → W → Prop} {PU : Unit → W → Prop} {PI : mG → W → Prop} {l : qV} {o1 : MO} {k : bN} {i h : Nat} {m : Mo} {b : Int}
theorem Fr.refl : Fr n w w := ⟨av _, fun _ _ => rfl⟩
theorem Fr.trans {w1 w2 w3 : W} (a : Fr n w1 w2) (b : Fr n w2 w3) : Fr n w1 w3 := ⟨cq a.le b.le, fun i hi => by rw [b.at_ i hi, a.at_ i hi]⟩
theorem Fr.app (h : n ≤ w.length) (u : W) : Fr n w (w ++ u) := ⟨by simp, fun i hi => au (by omega)⟩
theorem Fr.set {j : Nat} (h : n ≤ j) (o : MO) : Fr n w (w.set j o) := ⟨by simp, fun i hi => bc (by omega)⟩
theorem cW.fr (e : cW w w') (h : n ≤ w.length) : Fr n w w' := ⟨e.le, fun i hi => e.at_ i (by omega)⟩
theorem Fr.DP {n' : Nat} (f : Fr n w w') (hW : World n' w A x) (hn : w.length ≤ n) : World n' w' A x := qI.keep hW fun i _ hl => f.at_ i (by omega)
theorem Fr.mod {j : Nat} (e : Fr n w w') (hM : qJ w j m) (hj : j < n) : qJ w' j m := by
 unfold qJ
 rw [e.at_ j hj]
 exact hM
theorem World.onS (hW : World n w A x) : qI n w A (Lw.onS (fun _ => true) (cont A x)) := hW
theorem World.le (hW : World n w A x) : n ≤ A .dict := (hW .dict _ rfl).1
theorem World.ge (hW : World n w A x) (l : qV) {o : MO} (e : cont A x l = some o) : n ≤ A l := (hW l o e).1
theorem World.lt (hW : World n w A x) (l : qV) {o : MO} (e : cont A x l = some o) : A l < w.length := qI.lt hW e
theorem World.aCU (hW : World n w A x) : n ≤ w.length := by
 have h1 := hW.le
 have h2 := hW.lt .dict rfl
 omega
theorem World.bind (hW : World n w A x) (l : qV) (ht : l.top = true) (hc : ∀ A, cont A x' l = some o1) (hr : ∀ A q, q ≠ .dict → q ≠ l → cont A x' q = cont A x q) :
  World n ((w ++ [o1]).set (A .dict) (.dK (J8 (oI A l w.length)))) (oI A l w.length) x' := by
 have hl : l ≠ .dict := fun e => by subst e; exact nomatch ht
 have := qI.bind (x' := x') (l := l) (o1 := o1) hW.onS rfl hW.aCU hl (hc _) fun q q1 q2 _ => by rw [hr _ q q1 q2, Z0 ht q1]
 exact this.sub fun q o e => ⟨by unfold Lw.onS; exact e, rfl⟩
def Apart (A : yF) (x : Wx) (r : Nat) : Prop := ∀ l o, cont A x l = some o → A l ≠ r
theorem World.other (hW : World n w A x) {r : Nat} (ap : Apart A x r) (o : MO) : World n (w.set r o) A x := fun l u e => by
 obtain ⟨h1, h2, h3⟩ := hW l u e
 exact ⟨h1, by rw [bc (Ne.symm (ap l u e))]; exact h2, h3⟩
end
section
variable {n : Nat} {w w' w0 : W} {A A' A1 : yF} {C : Con} {x x' : Wx} {σ : Sg} {P : D → W → Prop} {PL : List D → W → Prop} {PF : Fl → W → Prop} {PU : Unit → W → Prop} {PI : mG → W → Prop} {l : qV} {o1 : MO} {k : bN} {tS : Addr} {i h p : Nat} {m : Mo} {b : Int}
theorem cW.aGI {w1 w2 : W} (e : cW w1 w2) (hp : iL k w1 p m b) : iL k w2 p m b := by
 unfold iL
 rw [e.at_ p (aj.mp hp).1]
 exact hp
end
section
variable {n d0 : Nat} {w w' w0 : W} {A A' A1 : yF} {C : Con} {x x' : Wx} {σ : Sg} {P : D → W → Prop} {PL : List D → W → Prop} {PF : Fl → W → Prop} {PU : Unit → W → Prop} {PI : mG → W → Prop} {l : qV} {o o1 u : MO} {k : bN} {tS : Addr} {i h p : Nat} {m : Mo} {b : Int}
theorem Kept.DP (kk : Pc.Kept w w' 1 0) (h2 : 2 ≤ n) (hW : World n w A x) : World n w' A x := qI.keep hW fun i h1 _ => kk.2 i (by omega) (by omega)
theorem Kept.mod (kk : Pc.Kept w w' 1 0) (i2 : 2 ≤ i) (hM : qJ w i m) : qJ w' i m := kk.obj hM (by omega) (by omega)
theorem u7.mod (g : u7 w w' 1 0) (i2 : 2 ≤ i) (hM : qJ w i m) : qJ w' i m := by
 unfold qJ
 rw [g.at_ i (aj.mp hM).1 (by omega) (by omega)]
 exact hM
theorem World.row {par : qV} {gl : Nat → qV} {kk c r : Nat} (hW : World n w A x) (hk : ∀ i, n ≤ i → i < w.length → w'[i]? = w[i]?) (hr : w.length ≤ r) (er : w'[r]? = some o) (inj : ∀ i j, gl i = gl j → i = j) (hne : par ≠ gl c)
  (hpar : cont A x par = some (.lst (gF A gl kk))) (hpar' : ∀ A', cont A' x' par = some (.lst (gF A' gl kk))) (hrow : ∀ A', cont A' x' (gl c) = some o) (hoth : ∀ A' q, q ≠ par → q ≠ gl c → (∀ l, l ≠ gl c → A' l = A l) → cont A' x' q = cont A x q) :
  World n (w'.set (A par) (.lst ((gF A gl kk).set c (.ref r)))) (oI A (gl c) r) x' := by
 have h1 := qI.new hW hk hr hW.aCU er (gl c)
 have ee : oI (cont A x) (gl c) (some o) par = some (.lst (gF A gl kk)) := by rw [fW hne]; exact hpar
 have h3 := h1.set ee (.lst ((gF A gl kk).set c (.ref r)))
 rw [fW hne] at h3
 refine h3.sub fun q u e => ⟨?_, rfl⟩
 by_cases c1 : q = par
 ·subst c1
  rw [o9, VR inj]
  rw [hpar'] at e
  exact e
 rw [fW c1]
 by_cases c2 : q = gl c
 ·subst c2
  rw [o9]
  rw [hrow] at e
  exact e
 rw [fW c2, ← e]
 exact (hoth _ q c1 c2 fun l hl => fW hl).symm
end
structure St (n i : Nat) (m : Mo) (w0 w : W) (A : yF) (x : Wx) : Prop where
 aEJ : EY w 1 0
 mod : qJ w i m
 DP : World n w A x
 n2 : 2 ≤ n
 i2 : 2 ≤ i
 hi : i < n
 le : w0.length ≤ w.length
 fd : ∀ j, j < n → j ≠ 1 → j ≠ 0 → w[j]? = w0[j]?
section
variable {n d0 : Nat} {w w' w0 : W} {A A' A1 : yF} {C : Con} {x x' : Wx} {σ : Sg} {P : D → W → Prop} {PL : List D → W → Prop} {PF : Fl → W → Prop} {PU : Unit → W → Prop} {PI : mG → W → Prop} {l : qV} {o o1 u : MO} {k : bN} {tS : Addr} {i h p : Nat} {m : Mo} {b : Int}
theorem St.kept (s : St n i m w0 w A x) (d : EY w' 1 0) (kk : Pc.Kept w w' 1 0) : St n i m w0 w' A x :=
 ⟨d, Kept.mod kk s.i2 s.mod, Kept.DP kk s.n2 s.DP, s.n2, s.i2, s.hi, by rw [kk.1]; exact s.le, fun j h1 h2 h3 => by rw [kk.2 j h2 h3]; exact s.fd j h1 h2 h3⟩
theorem St.grow (s : St n i m w0 w A x) (d : EY w' 1 0) (g : u7 w w' 1 0) : St n i m w0 w' A x :=
 ⟨d, u7.mod g s.i2 s.mod, qI.grow s.DP s.n2 g, s.n2, s.i2, s.hi, cq s.le g.le, fun j h1 h2 h3 => by rw [g.at_ j (by have := s.DP.aCU; omega) h2 h3]; exact s.fd j h1 h2 h3⟩
theorem St.app (s : St n i m w0 w A x) (u : W) : St n i m w0 (w ++ u) A x := s.grow s.aEJ.app ⟨by simp, fun i hi _ _ => au hi⟩
theorem St.set {j : Nat} (s : St n i m w0 w A x) (hj : n ≤ j) (hw : World n (w.set j o) A' x') : St n i m w0 (w.set j o) A' x' :=
 ⟨s.aEJ.set (by have := s.n2; omega) (by have := s.n2; omega), by unfold qJ; rw [bc (by have := s.hi; omega)]; exact s.mod, hw, s.n2, s.i2, s.hi, by rw [ck]; exact s.le, fun j' h1 h2 h3 => by rw [bc (by omega)]; exact s.fd j' h1 h2 h3⟩
end
section
variable {n : Nat} {w w' w0 : W} {A : yF} {x : Wx} {P : D → W → Prop} {i h p : Nat} {m : Mo} {b : Int} {s : yD} {σ : Sg}
theorem aAW {xs : List D} {lo hi : Option Int} {y : D} (h : y ∈ Pc.cutD xs lo hi) : y ∈ xs := by
 unfold Pc.cutD at h
 exact List.mem_of_mem_drop (List.mem_of_mem_take h)
theorem aB7 {xs : List D} {lo hi : Option Int} : (Pc.cutD xs lo hi).length ≤ xs.length := by
 unfold Pc.cutD
 rw [cj, List.length_drop]
 omega
theorem slL {xs : List D} {lo hi : Option Int} : iU (.lst xs) lo hi w = .ok (.lst (Pc.cutD xs lo hi)) w := rfl
end
abbrev W0 := Nat → Nat → Nat → Int
structure WD where
 a : Nat
 s : Nat
 r : Nat
 rank : Int
section
variable {n : Nat} {w w' : W} {x : Wx} {σ : Sg} {P : D → W → Prop} {PF : Fl → W → Prop} {PU : Unit → W → Prop} {k : bN} {i h p f : Nat} {m : Mo} {b : Int} {s : yD} {ts : List WD} {kv : List (List Key × D)}
theorem tyL {r : Nat} {xs : List D} (e : w[r]? = some (.lst xs)) : LZ (.ref r) w = some "list" := by simp only [LZ, e]
end
structure SH (m : Mo) (h B : Nat) (s : yD) : Prop where
 living : s.living.length = h
 parts : (s.parts.length : Int) = h + m.gR
 iB : s.iB.length = m.cD.length ∧ ∀ own ∈ s.iB, own.length = h ∧ ∀ row ∈ own, row.length = s.parts.length
 few : s.hY.length ≤ B
section
variable {n B : Nat} {w w' : W} {x : Wx} {σ : Sg} {P : D → W → Prop} {PF : Fl → W → Prop} {PU : Unit → W → Prop} {PI : mG → W → Prop} {k : bN} {i h p f : Nat} {m : Mo} {b : Int} {s : yD} {ts : List WD} {kv : List (List Key × D)}
theorem SH.le (o : MoB m h) (ok : SH m h B s) : s.parts.length ≤ 10 := by
 have h6 := o.cD.h6
 have ho := o.gR
 have := ok.parts
 omega
theorem UY.send (ok : UY m h s) (hB : s.hY.length ≤ B) : SH m h B s := by
 refine ⟨ok.living.1, ok.parts.1, ⟨ok.iB.1, fun own ho => ⟨(ok.iB.2 own ho).1, fun row hr => ?_⟩⟩, hB⟩
 obtain ⟨j, hj⟩ := List.getElem?_of_mem hr
 have := ((ok.iB.2 own ho).2 j row hj).1
 have := ok.parts.1
 omega
theorem uW {xs : List D} : T (iterM (.tup xs) w) PI = PI ⟨xs, always⟩ w := by unfold T; rfl
theorem FT {xs : List D} : T (iterM (.lst xs) w) PI = PI ⟨xs, always⟩ w := by unfold T; rfl
end
section
variable {n B : Nat} {w w' : W} {x : Wx} {σ : Sg} {P : D → W → Prop} {PF : Fl → W → Prop} {PU : Unit → W → Prop} {PI : mG → W → Prop} {k : bN} {i h p f : Nat} {m : Mo} {b : Int} {s : yD} {ts : List WD} {kv : List (List Key × D)}
theorem aFW {xs ys : List D} : T (zmM [.tup xs, .lst ys] w) PI = (xs.length = ys.length ∧ PI ⟨(xs.zip ys).map fun p => .tup [p.1, p.2], always⟩ w) := by
 by_cases c : xs.length = ys.length
 ·have : zmM [.tup xs, .lst ys] w = .ok ⟨(xs.zip ys).map fun p => .tup [p.1, p.2], always⟩ w := by simp only [zmM, c, ah]
  rw [this, b5]
  simp [c]
 ·have : zmM [.tup xs, .lst ys] w = .bad := by simp only [zmM, c, ae]
  rw [this, aCI]
  simp [c]
end
def keyD (a c r : Nat) : D := .tup [.int (a : Nat), .int (c : Nat), .int (r : Nat)]
structure q8 (m : Mo) (h B : Nat) (x : Wx) : Prop where
 living : x.s.living.length = h ∧ ∀ v ∈ x.s.living, 0 ≤ v ∧ v ≤ 1
 parts : (x.s.parts.length : Int) = h + m.gR
 c7 : x.s.c7.length = m.cD.length ∧ ∀ r ∈ x.s.c7, r.length = h
 lk : aEG x.lk
 b1 : x.lk.length ≤ B
 b2 : x.MV.length ≤ B
 b3 : x.s.hY.length ≤ B
section
variable {n d0 B : Nat} {w w' w0 : W} {A A' A1 : yF} {C : Con} {x x' : Wx} {σ : Sg} {P : D → W → Prop} {PL : List D → W → Prop} {PF : Fl → W → Prop} {PU : Unit → W → Prop} {PI : mG → W → Prop} {l : qV} {o o1 u : MO} {k : bN} {i h p f : Nat} {m : Mo} {b : Int} {kv : List (List Key × D)} {fa : W0}
theorem q8.le (o : MoB m h) (ok : q8 m h B x) : x.s.parts.length ≤ 10 := by
 have h6 := o.cD.h6
 have ho := o.gR
 have := ok.parts
 omega
theorem q8.mono {B' : Nat} (ok : q8 m h B x) (hB : B ≤ B') : q8 m h B' x := ⟨ok.living, ok.parts, ok.c7, ok.lk, cq ok.b1 hB, cq ok.b2 hB, cq ok.b3 hB⟩
end
section
variable {n d0 B : Nat} {w w' w0 : W} {A A' A1 : yF} {C : Con} {x x' : Wx} {σ : Sg} {P : D → W → Prop} {PL : List D → W → Prop} {PF : Fl → W → Prop} {PU : Unit → W → Prop} {PI : mG → W → Prop} {l : qV} {o o1 u : MO} {k : bN} {i h p f : Nat} {m : Mo} {b : Int} {kv : List (List Key × D)} {fa : W0}
theorem zipIdx {α β : Type} {f : α → β → α} {ss : Nat → β} : ∀ {xs : List α}, (xs.mapIdx fun a x => if a < xs.length then f x (ss a) else x) = List.zipWith f xs ((List.range xs.length).map ss) := fun {xs} => by
 refine List.ext_getElem? fun j => ?_
 rw [List.getElem?_mapIdx, List.getElem?_zipWith, bt]
 by_cases c : j < xs.length
 ·rw [bq c, List.getElem?_range c]
  simp [c]
 ·rw [List.getElem?_eq_none (by omega)]
  rfl
end
structure Bd where
 k : bN
 B : Addr
 S : Addr
def OJ : List Str := [("self" : Str), ("address" : Str), ("house" : Str), ("role" : Str), ("rank" : Str), ("receiver" : Str)]
def L4 (k : Bd) : MS :=
 (aH (dW (bA (aC fG (aB 3) (eC (.str ("waits" : Str))))) (dE (b7 "list" gG (bG k.B ("news_told" : Str) (aB 0)) (aA (bW (aA (aB 1) (aA (aB 2) (aA (eC (.str ("serves" : Str))) aD)))) aD))) aW)
 (aH (aT (bW (aA (eC (.str ("serves" : Str))) (aA (bG k.k.aJ ("every" : Str) (bG k.B ("plan_here" : Str) (aB 0))) aD))) (eO (aC aV (bG k.B ("stands_now" : Str) (aB 0)) (aB 1)) (aB 2)))
 (aH (aT (aM (nR k.k) 4 aP (aA (bG k.B ("plan_here" : Str) (aB 0)) (aA (bG k.B ("state_here" : Str) (aB 0)) (aA (aB 1) (aA (aB 2) aD))))) (aU 4))
 (gM (eD (aM (uE k.k) 3 aP (aA (bG k.B ("plan_here" : Str) (aB 0)) (aA (bG k.B ("state_here" : Str) (aB 0)) (aA (aB 2) aD))))) (aU 5) (dE (b7 "list" gG (bG k.B ("letters_sent" : Str) (aB 0)) (aA (bW (aA (aB 1) (aA (aB 2) (aA (aB 5) (aA (aB 4) aD))))) aD)))))))
def OC (k : Bd) : MF := bL (L4 k) OJ
def yV : List Str := [("self" : Str), ("address" : Str), ("row" : Str), ("house" : Str), ("role" : Str), ("clock" : Str)]
def y8 (k : Bd) : MS :=
 (gM (eY pK (aA (bG k.B ("stands_now" : Str) (aB 0)) aD)) (bY 2 (aI (aU 1) (aI (aU 2) bS))) (gM (eY pK (aA (aQ aCG (aA (aB 2) aD)) aD)) (bY 2 (aI (aU 3) (aI (bY 2 (aI (aU 4) (aI (aU 5) bS))) bS))) (dW (gI (bA (aC mQ (aB 4) (eC (.str ("rests" : Str))))) (bA (aC II (aB 5) (eC (.int 1))))) (aT (bW (aA (aB 4) (aA (aC mU (aB 5) (eC (.int 1))) aD))) (eO (aB 2) (aB 3))) (dW (bA (aC mQ (aB 4) (eC (.str ("rests" : Str))))) (dE (gB k.B ("send" : Str) (OC k) 4 aP (aB 0) (aA (aB 1) (aA (aB 3) (aA (aB 4) aD))))) aW))))
def y3 (k : Bd) : MF := bL (y8 k) yV
def QL : List Str := [("one" : Str), ("other" : Str), ("rank" : Str), ("number" : Str), ("other_rank" : Str), ("other_number" : Str)]
def Q4 (k : Bd) : MS :=
 (aH (aT (aB 0) (bY 2 (aI (aU 2) (aI (aU 3) bS))))
 (aH (aT (aB 1) (bY 2 (aI (aU 4) (aI (aU 5) bS))))
 (aZ (eOr (aC II (aB 2) (aB 4)) (jM (aC fG (aB 2) (aB 4)) (aC TJ (aB 3) (aB 5)))))))
def QP (k : Bd) : MF := bL (Q4 k) QL
def MZ : List Str := [("self" : Str), ("address" : Str), ("sender" : Str), ("house" : Str), ("rank" : Str), ("role" : Str), ("clock" : Str), ("own" : Str), ("is_sender_ahead" : Str)]
def OQ (k : Bd) : MS :=
 (aH (aT (aC aV (aC aV (bG k.B ("stands_now" : Str) (aB 0)) (aB 1)) (aB 3)) (bY 2 (aI (aU 5) (aI (aU 6) bS))))
 (aH (aT (aM (nR k.k) 4 aP (aA (bG k.B ("plan_here" : Str) (aB 0)) (aA (bG k.B ("state_here" : Str) (aB 0)) (aA (aB 1) (aA (aB 3) aD))))) (aU 7))
 (aH (aT (aM (QP k) 2 aP (aA (bW (aA (aB 4) (aA (aB 2) aD))) (aA (bW (aA (aB 7) (aA (aB 3) aD))) aD))) (aU 8))
 (dW (bA (aC fG (aB 5) (eC (.str ("serves" : Str))))) (dW (gI (bA (aC II (aB 4) (eC (.int 0)))) (eP (aB 8))) (aH (aT (bW (aA (eC (.str ("waits" : Str))) (aA (aM (qD k.k) 4 aP (aA (bG k.B ("plan_here" : Str) (aB 0)) (aA (bG k.B ("state_here" : Str) (aB 0)) (aA (aB 1) (aA (aB 3) aD))))) aD))) (eO (aC aV (bG k.B ("stands_now" : Str) (aB 0)) (aB 1)) (aB 3)))
 (dE (b7 "list" gG (bG k.B ("news_told" : Str) (aB 0)) (aA (bW (aA (aB 1) (aA (aB 3) (aA (eC (.str ("yields" : Str))) aD)))) aD)))) aW) (dW (bA (aC fG (aB 4) (eC (.int 0)))) (aT (bW (aA (aB 5) (aA (aQ min2 (aA (aB 6) (aA (aM (VC k.k) 2 aP (aA (bG k.B ("plan_here" : Str) (aB 0)) (aA (aB 7) aD))) aD))) aD))) (eO (aC aV (bG k.B ("stands_now" : Str) (aB 0)) (aB 1)) (aB 3))) (dW (gH (eP (aB 8)) (cQ (eP (bG k.k.aJ ("takes" : Str) (bG k.B ("plan_here" : Str) (aB 0)))))) (aT (bW (aA (aB 5) (aA (aQ max2 (aA (aB 6) (aA (aM (HZ k.k) 2 aP (aA (bG k.B ("plan_here" : Str) (aB 0)) (aA (aB 7) aD))) aD))) aD))) (eO (aC aV (bG k.B ("stands_now" : Str) (aB 0)) (aB 1)) (aB 3))) aW))))))
def NX (k : Bd) : MF := bL (OQ k) MZ
def HH : List Str := [("self" : Str), ("address" : Str), ("sender" : Str), ("receiver" : Str), ("rank" : Str), ("living" : Str), ("parts" : Str), ("others" : Str)]
def G3 (k : Bd) : MS :=
 (aH (aT (bG k.B ("state_here" : Str) (aB 0)) (S8 2 (aI (aU 5) (aI (aU 6) (aI (aU 7) bS)))))
 (aH (dW (bA (aC mQ (aC aV (aB 6) (aB 2)) (aC aV (aB 6) (aB 3)))) (aZ (eC .non)) aW)
 (dW (bA (aC geM (aB 3) (aQ cY (aA (aB 5) aD)))) (dW (bA (aC II (aB 4) (eC (.int 0)))) (aT (aB 2) (eO (aC aV (bG k.B ("tables_now" : Str) (aB 0)) (aC mU (aB 3) (aQ cY (aA (aB 5) aD)))) (aB 1))) aW) (dW (bA (aC fG (aC aV (aB 5) (aB 3)) (eC (.int 1)))) (dE (gB k.B ("hear" : Str) (NX k) 5 aP (aB 0) (aA (aB 1) (aA (aB 2) (aA (aB 3) (aA (aB 4) aD)))))) aW))))
def GY (k : Bd) : MF := bL (G3 k) HH
def ET : List Str := [("self" : Str), ("letter" : Str), ("left" : Str), ("rest" : Str)]
def EJ (k : Bd) : MS :=
 (aH (aT (aB 1) (S8 1 (aI (aU 2) (aI (aU 3) bS))))
 (dW (bA (aC II (aB 2) (eC (.int 1)))) (dE (b7 "list" gG (bG k.B ("still_under_way" : Str) (aB 0)) (aA (aC bQ (bW (aA (aC mU (aB 2) (eC (.int 1))) aD)) (aQ eU (aA (aB 3) aD))) aD))) (dE (gB k.B ("arrive" : Str) (GY k) 5 aP (aB 0) (aA (aC aV (aB 3) (eC (.int 0))) (aA (aC aV (aB 3) (eC (.int 1))) (aA (aC aV (aB 3) (eC (.int 2))) (aA (aC aV (aB 3) (eC (.int 3))) aD))))))))
def ES (k : Bd) : MF := bL (EJ k) ET
def NY : List Str := [("self" : Str), ("plan" : Str), ("state" : Str), ("many_old" : Str), ("living" : Str), ("parts" : Str), ("downs" : Str), ("ranks" : Str), ("stands" : Str), ("letters" : Str), ("lacks" : Str), ("tables" : Str), ("asks" : Str), ("letter" : Str), ("row" : Str)]
def N0 (k : Bd) : MS :=
 (aH (aT (aB 2) (bY 9 (aI (aU 4) (aI (aU 5) (aI (aU 6) (aI (aU 7) (aI (aU 8) (aI (aU 9) (aI (aU 10) (aI (aU 11) (aI (aU 12) bS)))))))))))
 (aH (cI k.B ("plan_here" : Str) (aB 0) (aB 1))
 (aH (cI k.B ("state_here" : Str) (aB 0) (aB 2))
 (aH (cI k.B ("stands_now" : Str) (aB 0) (bR (eD (aB 8)) [14] (aU 14) bU (aQ D3 (aA (aB 14) aD))))
 (aH (cI k.B ("tables_now" : Str) (aB 0) (bR (eD (aB 11)) [14] (aU 14) bU (aQ D3 (aA (aB 14) aD))))
 (aH (cI k.B ("still_under_way" : Str) (aB 0) (eNew aD))
 (aH (cI k.B ("letters_sent" : Str) (aB 0) (RW (eD (lE iU (aB 9) (bX (aB 3)) cJ)) [13] (aU 13) bU (lE iU (aB 13) (bX (eC (.int 1))) cJ)))
 (aH (cI k.B ("news_told" : Str) (aB 0) (eNew aD))
 (aH (gM (eD (lE iU (aB 9) cJ (bX (aB 3)))) (aU 13) (dE (gB k.B ("move_on" : Str) (ES k) 2 aP (aB 0) (aA (aB 13) aD))))
 (dE (gB k.B ("end_clocks" : Str) (y3 k) 1 aP (aB 0) aD)))))))))))
def N7 (k : Bd) : MF := bL (N0 k) NY
def CI : List Str := [("self" : Str), ("lacks" : Str), ("fates" : Str), ("living" : Str), ("parts" : Str), ("downs" : Str), ("ranks" : Str), ("stands" : Str), ("letters" : Str), ("others" : Str), ("tables" : Str), ("asks" : Str), ("row" : Str)]
def CV (k : Bd) : MS :=
 (aH (aT (bG k.B ("state_here" : Str) (aB 0)) (bY 9 (aI (aU 3) (aI (aU 4) (aI (aU 5) (aI (aU 6) (aI (aU 7) (aI (aU 8) (aI (aU 9) (aI (aU 10) (aI (aU 11) bS)))))))))))
 (aH (aT (aQ eU (aA (bR (eD (bG k.B ("stands_now" : Str) (aB 0))) [12] (aU 12) bU (aQ eU (aA (aB 12) aD))) aD)) (aU 7))
 (aH (aT (aC bQ (aQ eU (aA (bG k.B ("still_under_way" : Str) (aB 0)) aD)) (aM (zA k.k) 2 aP (aA (bG k.B ("letters_sent" : Str) (aB 0)) (aA (aB 2) aD)))) (aU 8))
 (aH (aT (aQ eU (aA (bR (eD (bG k.B ("tables_now" : Str) (aB 0))) [12] (aU 12) bU (aQ eU (aA (aB 12) aD))) aD)) (aU 10))
 (aZ (bW (aA (aB 3) (aA (aB 4) (aA (aB 5) (aA (aB 6) (aA (aB 7) (aA (aB 8) (aA (aM (GH k.k) 3 aP (aA (aB 1) (aA (bG k.B ("letters_sent" : Str) (aB 0)) (aA (aB 2) aD)))) (aA (aB 10) (aA (aB 11) aD)))))))))))))))
def CH (k : Bd) : MF := bL (CV k) CI
def V9 : List Str := [("plan" : Str), ("lacks" : Str), ("sent_here" : Str), ("ahead" : Str), ("thing" : Str), ("address" : Str), ("sender" : Str), ("receiver" : Str), ("fate" : Str), ("part" : Str)]
def U3 (k : Bd) : MS :=
 (aH (dW (gH (cQ (eP (aQ (mV m7) (aA (aB 4) (aA (eC (.ty "tuple")) aD))))) (gH (bA (aC mQ (aQ cY (aA (aB 4) aD)) (eC (.int 4)))) (cQ (eP (aQ allM (aA (bR (eD (aB 4)) [9] (aU 9) bU (aM (jA k.k) 1 aP (aA (aB 9) aD))) aD)))))) (aZ (eC (.bl false))) aW)
 (aH (aT (aB 4) (bY 4 (aI (aU 5) (aI (aU 6) (aI (aU 7) (aI (aU 8) bS))))))
 (aH (dW (gH (bA (aC ZA (lE iU (aB 4) cJ (bX (AF tX (eC (.int 1))))) (aB 2))) (gI (bA (aC mQ (aB 3) (bW aD))) (bA (aC leA (lE iU (aB 4) cJ (bX (AF tX (eC (.int 1))))) (lE iU (aB 3) cJ (bX (AF tX (eC (.int 1))))))))) (aZ (eC (.bl false))) aW)
 (aH (dW (bA (aC fG (aB 8) (eC (.int 0)))) (aZ (aC TJ (aC aV (aC aV (aC aV (aB 1) (aB 5)) (aB 6)) (aB 7)) (bG k.k.aJ ("lost" : Str) (aB 0)))) aW)
 (aZ (UO G5 G5 (eC (.int 1)) (aB 8) (bG k.k.aJ ("slow" : Str) (aB 0))))))))
def VY (k : Bd) : MF := bL (U3 k) V9
def RD : List Str := [("plan" : Str), ("lacks" : Str), ("sent_here" : Str), ("fates" : Str), ("found" : Str), ("ahead" : Str), ("place" : Str), ("thing" : Str)]
def QQ (k : Bd) : MS :=
 (aH (aT LO (aU 4))
 (aH (aT (bW aD) (aU 5))
 (aH (gM (eY EE (aA (aB 3) aD)) (bY 2 (aI (aU 6) (aI (aU 7) bS))) (aH (dW (cQ (eP (aM (VY k) 5 aP (aA (aB 0) (aA (aB 1) (aA (aB 2) (aA (aB 5) (aA (aB 7) aD)))))))) KS aW)
 (aH (aT (aC aV (aB 7) (AF tX (eC (.int 1)))) (eO (aB 4) (lE iU (aB 7) cJ (bX (AF tX (eC (.int 1)))))))
 (aT (aB 7) (aU 5)))))
 (aZ (aB 4)))))
def RF (k : Bd) : MF := bL (QQ k) RD
def QR : List Str := [("plan" : Str), ("deed" : Str), ("address" : Str)]
def RR (k : Bd) : MS :=
 (aH (dW (bA (aC ZA (aC aV (aB 1) (eC (.int 0))) (bW (aA (eC (.str ("fall" : Str))) (aA (eC (.str ("stop" : Str))) aD))))) (aZ (bW aD)) aW)
 (aZ (aQ eU (aA (bR (eY mN (aA (aM (eX k.k) 1 aP (aA (aB 0) aD)) aD)) [2] (aU 2) bU (bW (aA (aB 2) (aA (aC aV (aB 1) (eC (.int 1))) (aA (eC (.str ("rests" : Str))) aD))))) aD))))
def RU (k : Bd) : MF := bL (RR k) QR
def JQ : List Str := [("plan" : Str), ("state" : Str), ("deeds" : Str), ("news" : Str), ("place" : Str), ("deed" : Str)]
def JV (k : Bd) : MS :=
 (aH (aT (eNew aD) (aU 3))
 (aH (gM (eY EE (aA (aB 2) aD)) (bY 2 (aI (aU 4) (aI (aU 5) bS))) (aH (dW (cQ (eP (aM (VM k.k k.S) 3 aP (aA (aB 0) (aA (aB 1) (aA (aB 5) aD)))))) KS aW)
 (aH (aT (aM (PR k.k) 4 aP (aA (aB 0) (aA (aB 1) (aA (aB 5) (aA LO aD))))) (aU 1))
 (dE (b7 "list" aB6 (aB 3) (aA (aM (RU k) 2 aP (aA (aB 0) (aA (aB 5) aD))) aD))))))
 (aZ (bW (aA (aB 1) (aA (aQ eU (aA (aB 3) aD)) aD))))))
def LI (k : Bd) : MF := bL (JV k) JQ
def X6 : List Str := [("plan" : Str), ("state" : Str), ("deeds" : Str), ("fates" : Str), ("after" : Str), ("news" : Str), ("beat" : Str), ("sent_here" : Str), ("known" : Str), ("letter" : Str)]
def XX (k : Bd) : MS :=
 (aH (aT (aM (LI k) 3 aP (aA (aB 0) (aA (aB 1) (aA (aB 2) aD)))) (bY 2 (aI (aU 4) (aI (aU 5) bS))))
 (aH (aT (OM k.B (N7 k) 3 aP (aA (aB 0) (aA (aB 4) (aA (aQ cY (aA (aC aV (aB 1) (eC (.int 5))) aD)) aD)))) (aU 6))
 (aH (aT (aFT (eD (bG k.B ("letters_sent" : Str) (aB 6))) [9] (aU 9) bU (lE iU (aB 9) cJ (bX (AF tX (eC (.int 1))))) (eC (.bl true))) (aU 7))
 (aH (aT (aM (RF k) 4 aP (aA (aB 0) (aA (aC aV (aB 1) (eC (.int 6))) (aA (aB 7) (aA (aB 3) aD))))) (aU 8))
 (aZ (bW (aA (aC bQ (aB 5) (aQ eU (aA (bG k.B ("news_told" : Str) (aB 6)) aD))) (aA (gB k.B ("state_by" : Str) (CH k) 3 aP (aB 6) (aA (aC aV (aB 1) (eC (.int 6))) (aA (aB 8) aD))) aD))))))))
def aAb (k : Bd) : MF := bL (XX k) X6
abbrev sE (k : Bd) : List D → List D → List D := fun xs zs => mE [(0, 0), (0, 1), (1, 0), (1, 1)] xs zs []
def G2 : List Str := [("_law_one" : Str), ("_law_other" : Str)]
def HE (k : bN) : MS :=
 (aZ (eOr (aC II (aC aV (aB 0) (eC (.int 0))) (aC aV (aB 1) (eC (.int 0)))) (jM (aC fG (aC aV (aB 0) (eC (.int 0))) (aC aV (aB 1) (eC (.int 0)))) (aC TJ (aC aV (aB 0) (eC (.int 1))) (aC aV (aB 1) (eC (.int 1)))))))
def wA (k : bN) : MF := bL (HE k) G2
def GK : List Str := [("_law_model_here" : Str), ("_law_world_here" : Str), ("_law_letter" : Str), ("_law_news" : Str), ("_law_left" : Str), ("_law_a" : Str), ("_law_s" : Str), ("_law_r" : Str), ("_law_rank_here" : Str), ("_law_many" : Str), ("_law_stand" : Str), ("_law_own" : Str)]
def D4 (k : bN) : MS :=
 (aH (aT (aB 2) (bY 5 (aI (aU 4) (aI (aU 5) (aI (aU 6) (aI (aU 7) (aI (aU 8) bS)))))))
 (aH (aT (aQ cY (aA (aC aV (aB 1) (eC (.str ("living" : Str)))) aD)) (aU 9))
 (aH (dW (gH (bA (aC mQ (aC aV (aC aV (aB 1) (eC (.str ("parts" : Str)))) (aB 6)) (aC aV (aC aV (aB 1) (eC (.str ("parts" : Str)))) (aB 7)))) (gI (bA (aC TJ (aB 7) (aB 9))) (bA (aC fG (aC aV (aC aV (aB 1) (eC (.str ("living" : Str)))) (aB 7)) (eC (.int 0)))))) (aZ (eC .non)) aW)
 (aH (dW (bA (aC geM (aB 7) (aB 9))) (aH (dW (bA (aC II (aB 8) (eC (.int 0)))) (aT (aB 6) (eO (aC aV (aC aV (aB 1) (eC (.str ("tables" : Str)))) (aC mU (aB 7) (aB 9))) (aB 5))) aW)
 (aZ (eC .non))) aW)
 (aH (HD 10 11 (aA (aC aV (aC aV (aC aV (aB 1) (eC (.str ("stands" : Str)))) (aB 5)) (aB 7)) (aA (bW (aA (aM (mH k) 4 aP (aA (aB 0) (aA (aB 1) (aA (aB 5) (aA (aB 7) aD))))) (aA (aB 7) aD))) aD)))
 (dW (gI (bA (aC fG (aC aV (aB 10) (eC (.int 0))) (eC (.str ("serves" : Str))))) (gI (bA (aC II (aB 8) (eC (.int 0)))) (eP (aM (wA k) 2 aP (aA (bW (aA (aB 8) (aA (aB 6) aD))) (aA (aB 11) aD)))))) (aH (aT (aM (rY k) 4 aP (aA (aB 0) (aA (aB 1) (aA (aB 5) (aA (aB 7) aD))))) (eO (aC aV (aC aV (aB 1) (eC (.str ("stands" : Str)))) (aB 5)) (aB 7)))
 (dE (b7 "list" gG (aB 3) (aA (bW (aA (aB 5) (aA (aB 7) (aA (eC (.str ("yields" : Str))) aD)))) aD)))) (dW (gI (bA (aC fG (aC aV (aB 10) (eC (.int 0))) (eC (.str ("waits" : Str))))) (bA (aC fG (aB 8) (eC (.int 0))))) (aT (aQ min2 (aA (aC aV (aB 10) (eC (.int 1))) (aA (aC bQ (eC (.int 2)) (aC mulM (aC aV (aB 0) (eC (.str ("gap" : Str)))) (aC mU (eC (.int 12)) (aC aV (aB 11) (eC (.int 0)))))) aD))) (eO (aB 10) (eC (.int 1)))) (dW (gI (bA (aC fG (aC aV (aB 10) (eC (.int 0))) (eC (.str ("waits" : Str))))) (gH (cQ (eP (aC aV (aB 0) (eC (.str ("takes" : Str)))))) (eP (aM (wA k) 2 aP (aA (bW (aA (aB 8) (aA (aB 6) aD))) (aA (aB 11) aD)))))) (aT (aQ max2 (aA (aC aV (aB 10) (eC (.int 1))) (aA (aM (BK k) 2 aP (aA (aB 0) (aA (aC aV (aB 11) (eC (.int 0))) aD))) aD))) (eO (aB 10) (eC (.int 1)))) aW))))))))
def EX (k : bN) : MF := bL (D4 k) GK
def PM : List Str := [("_law_model_here" : Str), ("_law_world_here" : Str), ("_law_acts" : Str), ("_law_lots" : Str), ("_law_news" : Str), ("_law_letters" : Str), ("_law_deed_here" : Str), ("_law_one" : Str), ("_law_a" : Str), ("_law_h" : Str), ("_law_role" : Str), ("_law_clock" : Str)]
def OX (k : bN) : MS :=
 (aH (aT (bW (aA (eNew aD) (aA (eNew aD) aD))) (bY 2 (aI (aU 4) (aI (eO (aB 1) (eC (.str ("sent" : Str)))) bS))))
 (aH (aT (bW (aA (bR (eD (aC aV (aB 1) (eC (.str ("under" : Str))))) [7] (aU 7) bU (aC bQ (bW (aA (aC mU (aC aV (aB 7) (eC (.int 0))) (eC (.int 1))) aD)) (lE iU (aB 7) (bX (eC (.int 1))) cJ))) (aA (eNew aD) aD))) (bY 2 (aI (aU 5) (aI (eO (aB 1) (eC (.str ("under" : Str)))) bS))))
 (aH (gM (eD (aB 2)) (aU 6) (dE (aM (QD k) 5 aP (aA (aB 0) (aA (aB 1) (aA (aB 6) (aA (aB 3) (aA (aB 4) aD))))))))
 (aH (aT (aC aE7 (bR (eD (aB 5)) [7] (aU 7) (bA (aC II (aC aV (aB 7) (eC (.int 0))) (eC (.int 0)))) (aB 7)) (aC aV (aB 1) (eC (.str ("under" : Str))))) (eO (aB 1) (eC (.str ("under" : Str)))))
 (aH (gM (eD (aB 5)) (aU 7) (dW (bA (aC fG (aC aV (aB 7) (eC (.int 0))) (eC (.int 0)))) (dE (aM (EX k) 4 aP (aA (aB 0) (aA (aB 1) (aA (aB 7) (aA (aB 4) aD)))))) aW))
 (aH (gM (eY mN (aA (aQ cY (aA (aC aV (aB 0) (eC (.str ("ranks" : Str)))) aD)) aD)) (aU 8) (gM (eY mN (aA (aQ cY (aA (aC aV (aB 1) (eC (.str ("living" : Str)))) aD)) aD)) (aU 9) (aH (aT (aC aV (aC aV (aC aV (aB 1) (eC (.str ("stands" : Str)))) (aB 8)) (aB 9)) (aCw 2 (aI (aU 10) (aI (aU 11) bS))))
 (aH (aT (eNew (aA (aB 10) (aA (aC mU (aB 11) (aQ CL (aA (aC mQ (aB 10) (eC (.str ("rests" : Str)))) aD))) aD))) (eO (aC aV (aC aV (aB 1) (eC (.str ("stands" : Str)))) (aB 8)) (aB 9)))
 (dW (gI (bA (aC mQ (aB 10) (eC (.str ("rests" : Str))))) (bA (aC fG (aB 11) (eC (.int 1))))) (aH (dW (bA (aC fG (aB 10) (eC (.str ("waits" : Str))))) (dE (b7 "list" gG (aB 4) (aA (bW (aA (aB 8) (aA (aB 9) (aA (eC (.str ("serves" : Str))) aD)))) aD))) aW)
 (aH (aT (eNew (aA (eC (.str ("serves" : Str))) (aA (aC aV (aB 0) (eC (.str ("every" : Str)))) aD))) (eO (aC aV (aC aV (aB 1) (eC (.str ("stands" : Str)))) (aB 8)) (aB 9)))
 (dE (aM (B9 k) 5 aP (aA (aB 1) (aA (aB 8) (aA (aB 9) (aA (aM (mH k) 4 aP (aA (aB 0) (aA (aB 1) (aA (aB 8) (aA (aB 9) aD))))) (aA (aB 3) aD))))))))) aW)))))
 (aZ (aQ eU (aA (aB 4) aD)))))))))
def OT (k : bN) : MF := bL (OX k) PM
structure Bt where
 c7 : List (List (Role × Int))
 tables : List (List Int)
 under : List L8
 MV : List WD
 news : List D
def nwD (a c : Nat) (z : Str) : D := .tup [.int (a : Nat), .int (c : Nat), .str z]
def aFo (y : Bt) (a c : Nat) : Role × Int := (y.c7.getD a []).getD c (.rests, 0)
section
variable {n : Nat} {w w' : W} {A : yF} {x : Wx} {y : Bt} {σ : Sg} {P : D → W → Prop} {PF : Fl → W → Prop} {PU : Unit → W → Prop} {PI : mG → W → Prop} {k : Bd} {cB : Addr} {i h p : Nat} {m : Mo} {b : Int} {s : yD} {l : qV} {o o1 : MO}
theorem lF {C : Addr} {nm : Str} {mf : MF} {j : Nat} {gd : List D → List D → List D} {me : ME} {ma : MA} : T (gB C nm mf j gd me ma σ w) P = T (me σ w) fun x w1 => match sT C nm x w1 with
  | some i => T (ma σ w1) fun xs w2 => xs.length + 1 = j ∧ T (mf (gd (.ref i :: xs) []) w2) P
  | none => False := by
 unfold gB
 simp only [bC]
 congr 1; funext x w1
 cases sT C nm x w1 with
 | none => simp only [aCI]
 | some i => simp only [dD, bC]
end
section
variable {n B0 : Nat} {w w' : W} {A : yF} {x : Wx} {y y' : Bt} {σ : Sg} {P : D → W → Prop} {PL : List D → W → Prop} {PF : Fl → W → Prop} {PU : Unit → W → Prop} {PI : mG → W → Prop} {k : Bd} {cB : Addr} {i h p : Nat} {m : Mo} {b : Int} {s : yD} {l : qV} {o o1 : MO}
theorem TQ {m : MF} {C : Addr} {n : Nat} {gd : List D → List D → List D} {ma : MA} : T (OM C m n gd ma σ w) P = T (ma σ w) fun xs w1 => xs.length = n ∧ T (qG m C (fun s => gd (s ++ xs) []) w1) P := by
 unfold OM
 simp only [bC, dD]
theorem ins_get {r : List MO} {o : MO} : (w ++ (o :: r))[w.length]? = some o := by rw [bg (av _), Nat.sub_self]; rfl
end
def Pos (y : Bt) : Prop := ∀ a c, (aFo y a c).1 ≠ .rests → 1 ≤ (aFo y a c).2
def iA : List Str := [("_law_model_here" : Str), ("_law_own_plan" : Str), ("_law_world_here" : Str), ("_law_acts" : Str), ("_law_lots" : Str), ("_law_state_here" : Str), ("_law_kept" : Str), ("_law_found" : Str), ("_law_news" : Str)]
def jZ (k : Bd) : MS :=
 (aH (aT (aM (y9 k.k) 2 aP (aA (aB 0) (aA (aB 2) aD))) (aU 5))
 (aH (aT (aQ sM (aA (bW (aA (aB 5) (aA (aB 3) (aA (aB 4) aD)))) aD)) (aU 6))
 (aH (aT (SA (aAb k) 2 2 (sE k) (aA (aB 1) (aA (aB 5) aD)) (aA (aB 3) (aA (aB 4) aD))) (aU 7))
 (aH (aT (aM (OT k.k) 4 aP (aA (aB 0) (aA (aB 2) (aA (aB 3) (aA (aM (yM k.k) 1 aP (aA (aB 4) aD)) aD))))) (aU 8))
 (aZ (jM (aC fG (aQ sM (aA (aB 7) aD)) (aQ sM (aA (bW (aA (aB 8) (aA (aM (y9 k.k) 2 aP (aA (aB 0) (aA (aB 2) aD))) aD))) aD))) (aC fG (aQ sM (aA (bW (aA (aB 5) (aA (aB 3) (aA (aB 4) aD)))) aD)) (aB 6))))))))
def kG (k : Bd) : MF := bL (jZ k) iA
section
variable {n B0 Q : Nat} {w w' w0 : W} {A A' A0 : yF} {x X X0 e : Wx} {y y' z : Bt} {P : D → W → Prop} {kb : Bd} {k : bN} {i h p f q news : Nat} {m : Mo} {b zO : Int} {s s1 s2 : yD} {l : L8} {o o1 : MO} {kv : List (List Key × D)} {nw : List D} {fa : W0} {t : WD} {ts t1 t2 ls : List WD} {L : List L8} {ds : List xE}
theorem eW {v : Int} (h0 : -1000 ≤ v) (h1 : v ≤ 1000) : v.natAbs < 10 ^ 40 := by
 have : (1001 : Nat) ≤ 10 ^ 40 := by decide
 omega
theorem yY {v : Int} (h0 : -1000 ≤ v) (h1 : v ≤ 1000) : c9 0 6 (.int v) := (c9.int (eW h0 h1)).mono (av _) (by omega)
theorem aEy : cG 0 6 [] := cG.nil.mono (av _) (by omega)
def aEL (d : D) : Prop := ∃ (a c : Nat) (z : Str), (a ≤ 100 ∧ c ≤ 100) ∧ (z = ("rests" : Str) ∨ z = ("yields" : Str) ∨ z = ("serves" : Str)) ∧ d = nwD a c z
end
def Tells (ds : List D) : Prop := ∀ d ∈ ds, aEL d
section
variable {n B0 Q : Nat} {w w' : W} {A A' : yF} {x : Wx} {P : D → W → Prop} {kb : Bd} {k : bN} {i h p f : Nat} {m : Mo} {b : Int} {s : yD} {ls : List WD} {ds : List xE}
theorem XI {d : D} {q : PyData} (e : d.py w = some q) (hf : Q5 q) : vR d d w = some true := by
 have h1 := hf.shaped
 unfold SeqAt.shaped at h1
 rw [aAz e e hf hf, SeqAt.eqv_refl q (Bool.and_eq_true_iff.mp h1).1]
end
open PySem.W (dataLe)
abbrev Qd := Int × Int × Int × Int
def l4 (t : Qd) : List Int := [t.1, t.2.1, t.2.2.1, t.2.2.2]
def aFf (q : Role × Int) : Bool := decide (q.1 = .SF)
structure Nd where
 b : Bd
 N : Addr
def vV : List Str := [("self" : Str), ("numbers" : Str)]
def wG (k : Nd) : MS :=
 (aH (aT (bW (aA (bG k.b.k.aJ ("every" : Str) (aB 0)) (aA (bG k.b.k.aJ ("lost" : Str) (aB 0)) (aA (bG k.b.k.aJ ("slow" : Str) (aB 0)) (aA (bG k.b.k.aJ ("bears" : Str) (aB 0)) (aA (bG k.b.k.aJ ("gap" : Str) (aB 0)) (aA (bG k.b.k.aJ ("hold" : Str) (aB 0)) aD))))))) (aU 1))
 (aZ (aC bQ (aC bQ (bW (aA (bG k.b.k.aJ ("ranks" : Str) (aB 0)) aD)) (aB 1)) (bW (aA (bG k.b.k.aJ ("takes" : Str) (aB 0)) (aA (bG k.b.k.aJ ("ties" : Str) (aB 0)) (aA (bG k.b.k.aJ ("hosts" : Str) (aB 0)) aD)))))))
def wH (k : Nd) : MF := bL (wG k) vV
theorem D2 (x0 : D) : begin vV [x0] = [some x0, none] := rfl
section
variable {n B0 Q : Nat} {w w' w0 : W} {A A' A0 : yF} {x : Wx} {y : Bt} {P : D → W → Prop} {PF : Fl → W → Prop} {kb : Bd} {k : Nd} {i h p q f S N : Nat} {m : Mo} {b g l : Int} {s : yD} {lk : List (List (List Int))} {ts ls : List WD} {ds : List xE} {dd ff cur : D} {ss : List D} {ns : List (List D)}
def UL (m : Mo) (b : Int) : D := .tup [.tup (m.cD.map eT), .int m.mW, .int m.zO, .int m.xV, .int b, .int m.gap, .int m.hold, .bl m.takes, .tup (m.cK.map dU), .int m.gR]
theorem zS (hp : iL k.b.k w p m b) : T (wH k [.ref p] w) P = P (UL m b) w := by
 unfold wH wG
 rw [eA, D2, aX]
 simp only [aA1 hp, aDb hp, aD9 hp, aA4 hp, aER hp, aDk hp, aCa hp, aAK hp, WY hp, aAR hp, zY, ah, ae, reduceCtorEq]
 exact propext ⟨fun h => h.2, fun h => ⟨qS _ (by simp), h⟩⟩
theorem FR (o : MoB m h) (b0 : 0 ≤ b ∧ b ≤ 3) : ∃ u, (∀ w, (UL m b).py w = some u) ∧ Q5 u := by
 have h6 := o.cD.h6
 have n4 := o.n4
 have t6 := o.cK.few
 obtain ⟨v1, v2⟩ := o.mW
 obtain ⟨v3, v4⟩ := o.zO
 obtain ⟨v5, v6⟩ := o.xV
 obtain ⟨v7, v8⟩ := o.gap
 obtain ⟨v9, v10⟩ := o.hold
 obtain ⟨v11, v12⟩ := o.gR
 have fr : c9 100 6 (.tup (m.cD.map eT)) := (c9.wO (n := 6) (d := 2) (c := 4) (fun y hy => by
  obtain ⟨r, hr, rfl⟩ := bz.mp hy
  obtain ⟨e1, e2⟩ := o.cD.row r hr
  exact c9.row (fun z hz => eW (by have := e2 z hz; omega) (by have := e2 z hz; omega)) (by omega)) (by rw [ak]; omega)).mono (by omega) (by omega)
 have ft : c9 100 6 (.tup (m.cK.map dU)) := (c9.wO (n := 3) (d := 2) (c := 6) (fun y hy => by
  obtain ⟨t, ht, rfl⟩ := bz.mp hy
  obtain ⟨⟨a1, a2⟩, ⟨a3, a4⟩, a5, a6⟩ := o.cK.each t ht
  exact (c9.tup (cG.cons (c9.int (eW (v := t.1) (by omega) (by omega))) (cG.cons (c9.int (eW (v := t.2.1) (by omega) (by omega))) (cG.cons (c9.int (eW (v := t.2.2) (by omega) (by omega))) (cG.nil.mono (av _) (by omega)))))).mono (by omega) (av _)) (by rw [ak]; omega)).mono (by omega) (by omega)
 exact (c9.tup (cG.cons fr (cG.cons (yY (v := m.mW) (by omega) (by omega)) (cG.cons (yY (v := m.zO) (by omega) (by omega)) (cG.cons (yY (v := m.xV) (by omega) (by omega)) (cG.cons (yY (v := b) (by omega) (by omega)) (cG.cons (yY (v := m.gap) (by omega) (by omega)) (cG.cons (yY (v := m.hold) (by omega) (by omega)) (cG.cons (c9.bl.mono (av _) (by omega)) (cG.cons ft (cG.cons (yY (v := m.gR) (by omega) (by omega)) aEy))))))))))).fit (by omega) (by omega)
end
section
variable {n n' nn Q : Nat} {w w' : W} {A : yF} {x : Wx} {P : D → W → Prop} {i h p q F S N r : Nat} {m : Mo} {b g l : Int} {ds : List xE} {ls : List WD} {ns : List (List D)} {nw : List D} {ys : List D}
theorem World.mono (hW : World n w A x) (h : n' ≤ n) : World n' w A x := fun l o e => by
 obtain ⟨h1, h2, h3⟩ := hW l o e
 exact ⟨by omega, h2, h3⟩
end
abbrev MY := List xE × List WD
section
variable {w w' : W} {P : D → W → Prop} {PF : Fl → W → Prop} {k : Nd} {q p S N q2 S2 N2 h j : Nat} {ss ss2 : List D} {cur cur2 : D} {ns ns2 : List (List D)} {g l g2 l2 b : Int} {m : Mo} {xs : List D}
theorem KG (xs : List D) (j : Nat) : Pc.cutD xs none (some (j : Int)) = xs.take j := by
 unfold Pc.cutD
 rw [HT.sIx_none, HT.sIx_nat, List.drop_zero, Nat.sub_zero]
 by_cases h : j ≤ xs.length
 ·rw [Nat.min_eq_left h]
 ·rw [Nat.min_eq_right (by omega), List.take_of_length_le (av _), List.take_of_length_le (by omega)]
end
end Lw
namespace Pro
structure Dat where
 N : Nat
 mem : Nat → Prop
 R : Nat → Int
 takes : Bool
 mW : Nat
 zO : Nat
 xV : Nat
 B : Nat
 wait : Nat → Int
 srv : Nat → Nat → Prop
 clk : Nat → Nat → Int
 snd : Nat → Nat → Prop
 hit : Nat → Nat → Nat → Prop
 lk : Nat → Nat → Nat → Nat
def Dat.ahead (D : Dat) (d c : Nat) : Prop := D.R d > D.R c ∨ (D.R d = D.R c ∧ d < c)
def Dat.P (D : Dat) : Nat := (D.zO + 1) * D.mW + D.xV - 1
variable {D : Dat}
end Pro
namespace Lw
open PySem PySem.Spec PyProof.Rows L2 Pc Lb
section
variable {m : Mo} {b : Int} {h Q : Nat} {s : yD} {x e : Wx} {a c r : Nat} {q : Role × Int} {ds : List xE} {fa : W0} {l : L8}
def aFV (m : Mo) (b : Int) : Int := aCh m b 1 + m.hold
end
section
variable {m : Mo} {b : Int} {h Q : Nat} {s : yD} {x x' e : Wx} {a c d r t : Nat} {p : Int} {q : Role × Int} {ds : List xE} {fa : W0} {l : L8} {ts : List MY}
open Classical in
def aFd (m : Mo) (b : Int) (h : Nat) : Nat := (h + 1) * m.xV.toNat + (aFV m b).toNat
def aET (m : Mo) : Nat := (m.zO.toNat + 1) * m.mW.toNat + m.xV.toNat - 1
end
def W4 (h : Nat) (s : yD) (v : Nat) : List Nat := (List.range h).filter fun c => s.living.getD c 0 == 1 && s.parts.getD c 0 == (v : Int)
section
variable {k : Nd} {m : Mo} {b g l : Int} {h n i n0 p q S N D0 TT Q t C : Nat} {ss : List D} {ns : List (List D)} {w w' w0 : W} {A A' : yF} {x : Wx} {s : yD} {P : D → W → Prop} {PF : Fl → W → Prop} {ds : List xE} {a c d r v : Nat} {cs : List Nat} {kvs : List (List Key × D)} {V : Nat → Nat → Nat → Int}
theorem aAa {F : Nat} {ys xs : List D} (h : w[F]? = some (.lst xs)) : T (vJ (.ref F) [.lst ys] w) P = (xs.length + ys.length ≤ sizeLine ∧ P .non (w.set F (.lst (xs ++ ys)))) := by
 simp only [vJ, h, dD, b5]
theorem R0 {xs : List D} {PI : mG → W → Prop} : T (Pc.pK [.lst xs] w) PI = PI ⟨kY xs, always⟩ w := by unfold T; rfl
end
section
variable {k : bN} {m : Mo} {b : Int} {h n i Q t F C : Nat} {w : W} {A : yF} {x e : Wx} {s : yD} {P : D → W → Prop} {kvs : List (List Key × D)} {xs ys : List D} {cs ds : List Nat}
theorem aCb {x : D} : atI (xs ++ [x]) (-1) = some x := by
 unfold atI ixN
 rw [if_neg (by omega), bw, List.length_singleton, if_pos (by omega)]
 have : (((-1 : Int) + ((xs.length + 1 : Nat) : Int)).toNat) = xs.length := by omega
 simp only [this, Option.bind_some]
 rw [bg (av _)]
 simp
end
section
variable {k : Nd} {m : Mo} {b : Int} {h n0 p q S N TT Q i a c r : Nat} {ss : List D} {ns : List (List D)} {w w' w0 : W} {x : Wx} {P : D → W → Prop} {PF : Fl → W → Prop} {ds : List xE} {ls : List WD} {dd ff : D}
theorem e6 (s : yD) : atI [eT s.living, eT s.parts, eT s.downs, .tup (s.cD.map eT), .tup (s.c7.map aEF), .tup (s.hY.map aCF), .tup (s.iB.map aCH), .tup (s.tables.map eT), .tup (s.asks.map Pc.pairD)] 6 = some (.tup (s.iB.map aCH)) := rfl
end
end Lw
namespace Pc
open PySem PySem.Spec PyProof.Rows L2
def TX {α : Type} (r : Res α) (P : XD → W → Prop) : Prop := match r with
 | .yE x w => P x w
 | _ => False
section
variable {α β : Type} {r r' : Res α} {f f' : α → W → Res β} {P : α → W → Prop} {PX : XD → W → Prop} {σ : Sg} {w : W} {a b a' b' : MS} {e e' : ME} {g : MG} {t : MT} {m m' : MF} {PF : Fl → W → Prop} {PD : D → W → Prop} {N : List Str} {ds : List D}
theorem TX.bind (h : T r fun a w => TX (f a w) PX) : TX (r.bind f) PX := by
 obtain ⟨a, w, e, p⟩ := h.ex
 rw [e]
 exact p
theorem TX.oZ (h : TX r PX) : TX (r.bind f) PX := by
 cases r with
 | yE x w => exact h
 | ok a w => exact h.elim
 | bad => exact h.elim
theorem TX.mono {PX' : XD → W → Prop} (h : TX r PX) (k : ∀ x w, PX x w → PX' x w) : TX r PX' := by
 cases r with
 | yE x w => exact k x w h
 | ok a w => exact h.elim
 | bad => exact h.elim
theorem KL (h : T (a σ w) fun f w1 => ∃ σ1, f = .nx σ1 ∧ TX (b σ1 w1) PX) : TX (aH a b σ w) PX :=
 TX.bind (h.mono fun f w1 _ ⟨σ1, e, q⟩ => by subst e; exact q)
theorem TF (h : TX (a σ w) PX) : TX (aH a b σ w) PX := TX.oZ h
theorem X9 (h : TX (e σ w) PX) : TX (dE e σ w) PX := TX.oZ h
theorem aCq (h : T (t σ w) fun c w1 => TX ((if c = true then a else b) σ w1) PX) : TX (dW t a b σ w) PX :=
 TX.bind (h.mono fun c w1 _ q => by cases c <;> exact q)
theorem aDB (h : TX (a (begin N ds) w) PX) : TX (bL a N ds w) PX := TX.oZ h
theorem O6 {C : Addr} {z : Str} (h : T (e σ w) fun d w1 => PX ⟨.ref C, some [(z, d)]⟩ w1) : TX (xD C z e σ w) PX := TX.bind h
theorem aAV {n : Nat} {gd : List D → List D → List D} {ma : MA} (h : T (ma σ w) fun xs w1 => xs.length = n ∧ TX (m (gd xs []) w1) PX) : TX (aM m n gd ma σ w) PX :=
 TX.bind (h.mono fun xs w1 _ ⟨e, q⟩ => by rw [if_pos e]; exact q)
theorem LR {it : mG} (Inv : Nat → Sg → W → Prop) {n : Nat} (hn : n < it.xs.length) (ok : ∀ i σ w, Inv i σ w → it.ok w)
  (step : ∀ i x σ w, i < n → it.xs[i]? = some x → Inv i σ w → T (g x σ w) fun σ1 w1 => T (a σ1 w1) (Lb.Turn (Inv (i + 1)) fun _ _ => False))
  (last : ∀ x σ w, it.xs[n]? = some x → Inv n σ w → T (g x σ w) fun σ1 w1 => TX (a σ1 w1) PX) :
  ∀ (j i : Nat) (σ : Sg) (w : W), i + j = n → Inv i σ w → TX (forL it g a (it.xs.drop i) σ w) PX
 | 0, i, σ, w, e, hI => by
  have e : i = n := by omega
  subst e
  rw [List.drop_eq_getElem_cons hn]
  unfold forL
  rw [if_pos (ok _ _ _ hI)]
  exact TX.bind ((last _ σ w (bq hn) hI).mono fun σ1 w1 _ q => TX.oZ q)
 | j + 1, i, σ, w, e, hI => by
  have hi : i < it.xs.length := by omega
  rw [List.drop_eq_getElem_cons hi]
  unfold forL
  rw [if_pos (ok _ _ _ hI)]
  refine TX.bind ((step i _ σ w (by omega) (bq hi) hI).mono fun σ1 w1 _ q => TX.bind (q.mono fun f w2 _ q2 => ?_))
  cases f with
  | nx s => exact LR Inv hn ok step last j (i + 1) s w2 (by omega) q2
  | ct s => exact LR Inv hn ok step last j (i + 1) s w2 (by omega) q2
  | bk s => exact q2.elim
  | rt d => exact q2.elim
theorem aDw {mi : MI} (h : T (mi σ w) fun it w1 => TX (forL it g a it.xs σ w1) PX) : TX (gM mi g a σ w) PX := TX.bind h
theorem aBw {it : mG} (Inv : Nat → Sg → W → Prop) (n : Nat) (hn : n < it.xs.length) (ok : ∀ i σ w, Inv i σ w → it.ok w) (init : Inv 0 σ w)
  (step : ∀ i x σ w, i < n → it.xs[i]? = some x → Inv i σ w → T (g x σ w) fun σ1 w1 => T (a σ1 w1) (Lb.Turn (Inv (i + 1)) fun _ _ => False))
  (last : ∀ x σ w, it.xs[n]? = some x → Inv n σ w → T (g x σ w) fun σ1 w1 => TX (a σ1 w1) PX) : TX (forL it g a it.xs σ w) PX := by
 have := LR Inv hn ok step last n 0 σ w (by omega) init
 rw [List.drop_zero] at this
 exact this
theorem WR {l : List (Addr × Bool)} {i : Nat} {ms : XD → MS} (h : T (a σ w) PF) : T (RQ a l i ms σ w) PF := by
 obtain ⟨f, w1, e, p⟩ := h.ex
 unfold RQ
 rw [e]
 exact T.of rfl p
theorem ZH {l : List (Addr × Bool)} {i : Nat} {ms : XD → MS} (h : TX (a σ w) fun x w1 => kmL l x.cls = some true ∧ T (ms x (forget σ) w1) fun f w2 => PF (unI i f) w2) : T (RQ a l i ms σ w) PF := by
 unfold RQ
 cases hr : a σ w with
 | ok f w1 => rw [hr] at h; exact h.elim
 | bad => rw [hr] at h; exact h.elim
 | yE x w1 =>
  rw [hr] at h
  obtain ⟨h1, h2⟩ := h
  obtain ⟨f, w2, e, p⟩ := h2.ex
  simp only [h1, e]
  exact T.of rfl p
end
end Pc
namespace Lw
open PySem PySem.Spec PyProof.Rows L2 Pc Lb
def aF2 (s : yD) (a : Nat) : yD := { s with cD := [s.cD.getD a []], c7 := [s.c7.getD a []], hY := (s.hY.filter fun l => l.a == (a : Int)).map fun l => { l with a := 0 }, iB := [s.iB.getD a []], tables := s.tables.map fun r => [r.getD a (-1)] }
section
variable {m : Mo} {h a : Nat} {s : yD}
theorem QJ (ok : UY m h s) (ha : a < m.cD.length) : UY { m with cD := [m.cD.getD a []] } h (aF2 s a) := by
 have e1 := getD_at (d := ([] : List Int)) (xs := s.cD) (i := a) (by have := ok.cD.1; omega)
 have e2 := getD_at (d := ([] : List (Role × Int))) (xs := s.c7) (i := a) (by have := ok.c7.1; omega)
 have e3 := getD_at (d := ([] : List (List Int))) (xs := s.iB) (i := a) (by have := ok.iB.1; omega)
 refine ⟨ok.living, ok.parts, ok.downs, ⟨rfl, fun r hr => ?_⟩, ⟨rfl, fun r hr => ?_⟩, fun l hl => ?_, ?_, ⟨rfl, fun r hr => ?_⟩, ⟨by show ((s.tables.map _).length : Int) = _; rw [ak]; exact ok.tables.1, fun r hr => ?_⟩, ok.asks⟩
 ·rw [cc.mp hr]
  exact ok.cD.2 _ (bu e1)
 ·rw [cc.mp hr]
  exact ok.c7.2 _ (bu e2)
 ·obtain ⟨l0, h0, rfl⟩ := bz.mp hl
  have := ok.hY l0 (List.mem_filter.mp h0).1
  exact ⟨this.left, ⟨Int.le_refl _, by show (0 : Int) ≤ (([m.cD.getD a []].length : Nat) : Int) - 1; simp⟩, this.s, this.r, this.ne, this.rank⟩
 ·show ((s.hY.filter _).map _).length ≤ 100000
  rw [ak]
  exact cq (List.length_filter_le _ _) ok.few
 ·rw [cc.mp hr]
  exact ok.iB.2 _ (bu e3)
 ·obtain ⟨r0, h0, rfl⟩ := bz.mp hr
  have := ok.tables.2 r0 h0
  refine ⟨rfl, fun v hv => ?_⟩
  rw [cc.mp hv]
  exact this.2 _ (bu (getD_at (by omega)))
end
end Lw
namespace Lb
open PySem PySem.Spec PyProof.Rows L2 Pc
section
variable {w : W} {P : D → W → Prop} {k : bN} {tS : Addr} {p h n : Nat} {m : Mo} {b : Int} {s : yD} {d : D}
def aFl (m : Mo) : D → Bool
 | .int t => (decide (0 ≤ t) && decide (t ≤ 9)) && decide (t ∈ m.cK.map fun t => t.2.1)
 | _ => false
theorem qK (hp : iL k w p m b) (o : MoB m h) (e : pE (n + 1) d = true) (hP : P (.bl (aFl m d)) w) : T (n9 k [.ref p, d] w) P := by
 have few := o.cK.few
 unfold n9 uU
 rw [eA, CJ]
 simp only [qY 0 9 e, zY, ah, ae, reduceCtorEq]
 cases d <;> simp only [bM, aFl, zY, ah, ae, reduceCtorEq] at hP ⊢ <;> first | exact hP | skip
 rename_i t
 by_cases hr : (decide (0 ≤ t) && decide (t ≤ 9)) = true
 ·rw [hr] at hP
  simp only [hr, Bool.true_and, WY hp, zY, ah, ae, reduceCtorEq] at hP ⊢
  refine ⟨qS _ (by rw [ak]; omega), ?_⟩
  refine fD (it := ⟨m.cK.map dU, always⟩) m.cK dU (fun t => .int t.2.1) rfl trivial (fun t _ => ?_) ?_
  ·simp only [dP, dU, zY, ah, ae, reduceCtorEq]
  have em : m.cK.map (fun t => D.int t.2.1) = (m.cK.map fun t => t.2.1).map D.int := by rw [List.map_map]; rfl
  rw [em]
  simp only [aAG, aBb, zY, ah, ae, reduceCtorEq]
  exact hP
 ·rw [Bool.not_eq_true] at hr
  rw [hr] at hP
  simp only [hr, Bool.false_and, zY, ah, ae, reduceCtorEq] at hP ⊢
  exact hP
end
end Lb
namespace Lw
open PySem PySem.Spec PyProof.Rows L2 Pc Lb TL
def UN (z : Str) : Prop := tl (reprText z) = 39 :: (tl z ++ [39]) ∧ 39 ∉ tl z
mutual
def fR : PyData → Prop
 | .int _ => True
 | .str z => UN z
 | .tuple xs => SimPs xs
 | _ => False
def SimPs : List PyData → Prop
 | [] => True
 | x :: xs => fR x ∧ SimPs xs
end
def lK : List PyData → List Nat
 | [] => [41]
 | y :: t => 44 :: 32 :: (tl y.shown ++ lK t)
def mP : List PyData → List Nat
 | [] => [41]
 | [x] => tl x.shown ++ [44, 41]
 | x :: y :: t => tl x.shown ++ (44 :: 32 :: (tl y.shown ++ lK t))
theorem HS : ∀ (x : PyData) (t : List PyData), joinL [44, 32] ((PyData.shownAll (x :: t)).map tl) ++ [41] = tl x.shown ++ lK t
 | x, [] => rfl
 | x, y :: t => by
  show (tl x.shown ++ ([44, 32] ++ joinL [44, 32] ((PyData.shownAll (y :: t)).map tl))) ++ [41] = _
  rw [cb, cb, HS y t]
  rfl
theorem yR (xs : List PyData) : tl (PyData.tuple xs).shown = 40 :: mP xs := by
 have e : (PyData.tuple xs).shown = ("(" : Str) ++ Str.join ", " (PyData.shownAll xs) ++ (if (PyData.shownAll xs).length == 1 then ",)" else ")" : String) := by
  simp only [PyData.shown]
  rfl
 have e1 : tl ("(" : Str) = [40] := by decide +kernel
 have e2 : tl (", " : Str) = [44, 32] := by decide +kernel
 have e3 : tl (Str.ofString ",)") = [44, 41] := by decide +kernel
 have e4 : tl (Str.ofString ")") = [41] := by decide +kernel
 rw [e, tl_append, tl_append, tl_join, e1, e2]
 match xs with
 | [] => simp only [PyData.shownAll, List.length_nil, List.map_nil]; exact congrArg _ e4
 | [x] =>
  show ([40] ++ tl x.shown) ++ tl (Str.ofString ",)") = _
  rw [e3]; rfl
 | x :: y :: t =>
  show ([40] ++ joinL [44, 32] ((PyData.shownAll (x :: y :: t)).map tl)) ++ tl (Str.ofString ")") = _
  rw [e4, cb, HS]; rfl
theorem DC (n : Nat) : tl (PyData.int (Int.negSucc n)).shown = 45 :: numL (n + 1) := by
 have e : (PyData.int (Int.negSucc n)).shown = Str.ofString ("-" ++ toString ((n + 1 : Nat) : Int)) := by
  simp only [PyData.shown]
  rfl
 rw [e, tl_ofString, String.toList_append, cg, ← tl_ofString, ← tl_ofString, tl_num]
 have : tl (Str.ofString "-") = [45] := by decide +kernel
 rw [this]
 rfl
theorem KZ (n : Nat) : tl (PyData.int (n : Nat)).shown = numL n := by
 simp only [PyData.shown]
 exact tl_num n
def Dl (r : List Nat) : Prop := r = [] ∨ (∃ t, r = 44 :: t) ∨ ∃ t, r = 41 :: t
theorem ZN : ∀ (a b : List Nat) {r r' : List Nat}, (∀ c ∈ a, 48 ≤ c ∧ c ≤ 57) → (∀ c ∈ b, 48 ≤ c ∧ c ≤ 57) → Dl r → Dl r' → a ++ r = b ++ r' → a = b ∧ r = r'
 | [], [], r, r', _, _, _, _, h => ⟨rfl, h⟩
 | x :: a, y :: b, r, r', ha, hb, d, d', h => by
  rw [List.cons_append, List.cons_append] at h
  injection h with h1 h2
  obtain ⟨e1, e2⟩ := ZN a b (fun c hc => ha c (bp _ hc)) (fun c hc => hb c (bp _ hc)) d d' h2
  exact ⟨by rw [h1, e1], e2⟩
 | x :: a, [], r, r', ha, _, _, d', h => by
  exfalso
  have hx := ha x (bf ..)
  rw [List.nil_append] at h
  rcases d' with e | ⟨t, e⟩ | ⟨t, e⟩ <;> rw [e, List.cons_append] at h <;> injection h <;> omega
 | [], y :: b, r, r', _, hb, d, _, h => by
  exfalso
  have hy := hb y (bf ..)
  rw [List.nil_append] at h
  rcases d with e | ⟨t, e⟩ | ⟨t, e⟩ <;> rw [e, List.cons_append] at h <;> injection h <;> omega
theorem marks : ∀ (a b : List Nat) {r r' : List Nat}, 39 ∉ a → 39 ∉ b → a ++ 39 :: r = b ++ 39 :: r' → a = b ∧ r = r'
 | [], [], _, _, _, _, h => ⟨rfl, by injection h⟩
 | x :: a, y :: b, r, r', ha, hb, h => by
  rw [List.cons_append, List.cons_append] at h
  injection h with h1 h2
  obtain ⟨e1, e2⟩ := marks a b (fun c => ha (bp _ c)) (fun c => hb (bp _ c)) h2
  exact ⟨by rw [h1, e1], e2⟩
 | x :: a, [], r, r', ha, _, h => by
  rw [List.cons_append, List.nil_append] at h
  injection h with h1 h2
  exact absurd (by rw [h1]; exact bf ..) ha
 | [], y :: b, r, r', _, hb, h => by
  rw [List.cons_append, List.nil_append] at h
  injection h with h1 h2
  exact absurd (by rw [← h1]; exact bf ..) hb
theorem zC {z : Str} (h : UN z) : tl (PyData.str z).shown = 39 :: (tl z ++ [39]) := by
 simp only [PyData.shown]
 exact h.1
theorem vH : ∀ (p : PyData), fR p → ∃ c l, tl p.shown = c :: l ∧ ((∃ n : Nat, p = .int (n : Nat)) ∧ (48 ≤ c ∧ c ≤ 57) ∨ (∃ n, p = .int (Int.negSucc n)) ∧ c = 45 ∨ (∃ z, p = .str z ∧ UN z) ∧ c = 39 ∨ (∃ xs, p = .tuple xs ∧ SimPs xs) ∧ c = 40)
 | .int (Int.ofNat n), _ => by
  have e : tl (PyData.int (Int.ofNat n)).shown = numL n := KZ n
  obtain ⟨c, l, h⟩ := List.exists_cons_of_ne_nil (numL_ne n)
  refine ⟨c, l, e.trans h, .inl ⟨⟨n, rfl⟩, ?_⟩⟩
  have := numL_digits n c (by rw [h]; exact bf ..)
  omega
 | .int (Int.negSucc n), _ => ⟨45, _, DC n, .inr (.inl ⟨⟨n, rfl⟩, rfl⟩)⟩
 | .str z, h => by
  rw [fR] at h
  exact ⟨39, _, zC h, .inr (.inr (.inl ⟨⟨z, rfl, h⟩, rfl⟩))⟩
 | .tuple xs, h => by
  rw [fR] at h
  exact ⟨40, _, yR xs, .inr (.inr (.inr ⟨⟨xs, rfl, h⟩, rfl⟩))⟩
 | .none, h => by simp [fR] at h
 | .bool _, h => by simp [fR] at h
 | .list _, h => by simp [fR] at h
 | .dict _, h => by simp [fR] at h
theorem Dl.tail : ∀ (t : List PyData) (r : List Nat), Dl (lK t ++ r)
 | [], r => .inr (.inr ⟨r, rfl⟩)
 | y :: t, r => .inr (.inl ⟨_, rfl⟩)
theorem vP {p : PyData} (h : fR p) {s u : List Nat} (e : tl p.shown ++ s = 41 :: u) : False := by
 obtain ⟨c, l, e1, hc⟩ := vH p h
 rw [e1, List.cons_append] at e
 injection e with e2 _
 rcases hc with ⟨_, hc⟩ | ⟨_, hc⟩ | ⟨_, hc⟩ | ⟨_, hc⟩ <;> omega
mutual
theorem nJ : ∀ (p : PyData), fR p → ∀ (q : PyData), fR q → ∀ (r r' : List Nat), Dl r → Dl r' → tl p.shown ++ r = tl q.shown ++ r' → p = q ∧ r = r'
 | .int (Int.ofNat n), hp, q, hq, r, r', d, d', h => by
  have e : tl (PyData.int (Int.ofNat n)).shown = numL n := KZ n
  have dg : ∀ n c, c ∈ numL n → 48 ≤ c ∧ c ≤ 57 := fun n c hc => by
   have := numL_digits n c hc
   omega
  obtain ⟨c', l', e', hc'⟩ := vH (.int (Int.ofNat n)) hp
  obtain ⟨c, l, eq, hc⟩ := vH q hq
  have hcc : c' = c := by rw [e', eq, List.cons_append, List.cons_append] at h; injection h
  have h48 : 48 ≤ c' ∧ c' ≤ 57 := dg n c' (by rw [← e, e']; exact bf ..)
  rcases hc with ⟨⟨k, rfl⟩, _⟩ | ⟨_, hc⟩ | ⟨_, hc⟩ | ⟨_, hc⟩
  ·rw [e, KZ] at h
   obtain ⟨e1, e2⟩ := ZN _ _ (dg n) (dg k) d d' h
   rw [numL_inj e1]
   exact ⟨rfl, e2⟩
  all_goals exfalso; omega
 | .int (Int.negSucc n), hp, q, hq, r, r', d, d', h => by
  have dg : ∀ n c, c ∈ numL n → 48 ≤ c ∧ c ≤ 57 := fun n c hc => by
   have := numL_digits n c hc
   omega
  obtain ⟨c, l, eq, hc⟩ := vH q hq
  have hcc : 45 = c := by rw [DC, eq, List.cons_append, List.cons_append] at h; injection h
  rcases hc with ⟨_, hc⟩ | ⟨⟨k, rfl⟩, _⟩ | ⟨_, hc⟩ | ⟨_, hc⟩
  ·omega
  ·rw [DC, DC, List.cons_append, List.cons_append] at h
   injection h with _ h
   obtain ⟨e1, e2⟩ := ZN _ _ (dg (n + 1)) (dg (k + 1)) d d' h
   have := numL_inj e1
   rw [show n = k by omega]
   exact ⟨rfl, e2⟩
  all_goals exfalso; omega
 | .str z, hp, q, hq, r, r', d, d', h => by
  rw [fR] at hp
  obtain ⟨c, l, eq, hc⟩ := vH q hq
  have hcc : 39 = c := by rw [zC hp, eq, List.cons_append, List.cons_append] at h; injection h
  rcases hc with ⟨_, hc⟩ | ⟨_, hc⟩ | ⟨⟨k, rfl, hk⟩, _⟩ | ⟨_, hc⟩
  ·omega
  ·omega
  ·rw [zC hp, zC hk, List.cons_append, List.cons_append] at h
   injection h with _ h
   rw [cb, cb] at h
   obtain ⟨e1, e2⟩ := marks _ _ hp.2 hk.2 h
   rw [ext_tl e1]
   exact ⟨rfl, e2⟩
  ·omega
 | .tuple xs, hp, q, hq, r, r', d, d', h => by
  rw [fR] at hp
  obtain ⟨c, l, eq, hc⟩ := vH q hq
  have hcc : 40 = c := by rw [yR, eq, List.cons_append, List.cons_append] at h; injection h
  rcases hc with ⟨_, hc⟩ | ⟨_, hc⟩ | ⟨_, hc⟩ | ⟨⟨ys, rfl, hk⟩, _⟩
  ·omega
  ·omega
  ·omega
  ·rw [yR, yR, List.cons_append, List.cons_append] at h
   injection h with _ h
   obtain ⟨e1, e2⟩ := tup_key xs hp ys hk r r' h
   exact ⟨by rw [e1], e2⟩
 | .none, h, _, _, _, _, _, _, _ => by simp [fR] at h
 | .bool _, h, _, _, _, _, _, _, _ => by simp [fR] at h
 | .list _, h, _, _, _, _, _, _, _ => by simp [fR] at h
 | .dict _, h, _, _, _, _, _, _, _ => by simp [fR] at h
theorem tup_key : ∀ (xs : List PyData), SimPs xs → ∀ (ys : List PyData), SimPs ys → ∀ (r r' : List Nat), mP xs ++ r = mP ys ++ r' → xs = ys ∧ r = r'
 | [], hx, [], hy, r, r', h => ⟨rfl, by simp only [mP, List.cons_append, List.nil_append] at h; injection h⟩
 | [], hx, [y], hy, r, r', h => by
  simp only [SimPs] at hy
  simp only [mP, List.cons_append, List.nil_append, cb] at h
  exact (vP hy.1 h.symm).elim
 | [], hx, y :: y2 :: ys, hy, r, r', h => by
  simp only [SimPs] at hy
  simp only [mP, List.cons_append, List.nil_append, cb] at h
  exact (vP hy.1 h.symm).elim
 | [x], hx, [], hy, r, r', h => by
  simp only [SimPs] at hx
  simp only [mP, List.cons_append, List.nil_append, cb] at h
  exact (vP hx.1 h).elim
 | [x], hx, [y], hy, r, r', h => by
  simp only [SimPs] at hx hy
  simp only [mP, List.cons_append, List.nil_append, cb] at h
  obtain ⟨e1, e2⟩ := nJ x hx.1 y hy.1 _ _ (.inr (.inl ⟨_, rfl⟩)) (.inr (.inl ⟨_, rfl⟩)) h
  injection e2 with _ e2
  injection e2 with _ e2
  exact ⟨by rw [e1], e2⟩
 | [x], hx, y :: y2 :: ys, hy, r, r', h => by
  simp only [SimPs] at hx hy
  simp only [mP, List.cons_append, List.nil_append, cb] at h
  obtain ⟨e1, e2⟩ := nJ x hx.1 y hy.1 _ _ (.inr (.inl ⟨_, rfl⟩)) (.inr (.inl ⟨_, rfl⟩)) h
  injection e2 with _ e2
  injection e2 with e2 _
  omega
 | x :: x2 :: xs, hx, [], hy, r, r', h => by
  simp only [SimPs] at hx
  simp only [mP, List.cons_append, List.nil_append, cb] at h
  exact (vP hx.1 h).elim
 | x :: x2 :: xs, hx, [y], hy, r, r', h => by
  simp only [SimPs] at hx hy
  simp only [mP, List.cons_append, List.nil_append, cb] at h
  obtain ⟨e1, e2⟩ := nJ x hx.1 y hy.1 _ _ (.inr (.inl ⟨_, rfl⟩)) (.inr (.inl ⟨_, rfl⟩)) h
  injection e2 with _ e2
  injection e2 with e2 _
  omega
 | x :: x2 :: xs, hx, y :: y2 :: ys, hy, r, r', h => by
  simp only [SimPs] at hx hy
  simp only [mP, List.cons_append, List.nil_append, cb] at h
  obtain ⟨e1, e2⟩ := nJ x hx.1 y hy.1 _ _ (.inr (.inl ⟨_, rfl⟩)) (.inr (.inl ⟨_, rfl⟩)) h
  injection e2 with _ e2
  injection e2 with _ e2
  obtain ⟨e3, e4⟩ := nJ x2 hx.2.1 y2 hy.2.1 _ _ (Dl.tail _ _) (Dl.tail _ _) e2
  obtain ⟨e5, e6⟩ := tail_key xs hx.2.2 ys hy.2.2 r r' e4
  exact ⟨by rw [e1, e3, e5], e6⟩
theorem tail_key : ∀ (xs : List PyData), SimPs xs → ∀ (ys : List PyData), SimPs ys → ∀ (r r' : List Nat), lK xs ++ r = lK ys ++ r' → xs = ys ∧ r = r'
 | [], _, [], _, r, r', h => ⟨rfl, by simp only [lK, List.cons_append, List.nil_append] at h; injection h⟩
 | [], _, y :: ys, _, r, r', h => by
  simp only [lK, List.cons_append, List.nil_append] at h
  injection h with h _
  omega
 | x :: xs, _, [], _, r, r', h => by
  simp only [lK, List.cons_append, List.nil_append] at h
  injection h with h _
  omega
 | x :: xs, hx, y :: ys, hy, r, r', h => by
  simp only [SimPs] at hx hy
  simp only [lK, List.cons_append, List.nil_append, cb] at h
  injection h with _ h
  injection h with _ h
  obtain ⟨e1, e2⟩ := nJ x hx.1 y hy.1 _ _ (Dl.tail _ _) (Dl.tail _ _) h
  obtain ⟨e3, e4⟩ := tail_key xs hx.2 ys hy.2 r r' e2
  exact ⟨by rw [e1, e3], e4⟩
end
mutual
theorem aA0 : ∀ (p : PyData), fR p → ∀ (q : PyData), fR q → (PyData.eqv p q = true ↔ p = q)
 | .int i, _, .int j, _ => by simp [PyData.eqv]
 | .str x, _, .str y, _ => by simp [PyData.eqv]
 | .tuple xs, hp, .tuple ys, hq => by
  rw [fR] at hp hq
  rw [PyData.eqv, eqvs_sim xs hp ys hq]
  simp
 | .int i, _, .str y, _ => by simp [PyData.eqv]
 | .int i, _, .tuple y, _ => by simp [PyData.eqv]
 | .str i, _, .int y, _ => by simp [PyData.eqv]
 | .str i, _, .tuple y, _ => by simp [PyData.eqv]
 | .tuple i, _, .int y, _ => by simp [PyData.eqv]
 | .tuple i, _, .str y, _ => by simp [PyData.eqv]
 | .none, h, _, _ => by simp [fR] at h
 | .bool _, h, _, _ => by simp [fR] at h
 | .list _, h, _, _ => by simp [fR] at h
 | .dict _, h, _, _ => by simp [fR] at h
 | _, _, .none, h => by simp [fR] at h
 | _, _, .bool _, h => by simp [fR] at h
 | _, _, .list _, h => by simp [fR] at h
 | _, _, .dict _, h => by simp [fR] at h
theorem eqvs_sim : ∀ (xs : List PyData), SimPs xs → ∀ (ys : List PyData), SimPs ys → (PyData.eqvAll xs ys = true ↔ xs = ys)
 | [], _, [], _ => by simp [PyData.eqvAll]
 | [], _, y :: ys, _ => by simp [PyData.eqvAll]
 | x :: xs, _, [], _ => by simp [PyData.eqvAll]
 | x :: xs, hx, y :: ys, hy => by
  simp only [SimPs] at hx hy
  rw [PyData.eqvAll, ar, aA0 x hx.1 y hy.1, eqvs_sim xs hx.2 ys hy.2, List.cons.injEq]
end
mutual
def fU : D → Prop
 | .int _ => True
 | .str z => UN z
 | .tup xs => SimDs xs
 | _ => False
def SimDs : List D → Prop
 | [] => True
 | x :: xs => fU x ∧ SimDs xs
end
mutual
theorem KQ : ∀ (d : D) {f : Nat → Option PyData} {p : PyData}, fU d → d.gD f = some p → fR p
 | .int i, f, p, _, h1 => by
  simp only [D.gD, ai] at h1
  subst h1
  simp [fR]
 | .str i, f, p, s1, h1 => by
  simp only [D.gD, ai] at h1
  simp only [fU] at s1
  subst h1
  simp [fR, s1]
 | .tup i, f, p, s1, h1 => by
  simp only [D.gD, ao] at h1
  obtain ⟨ps, h1, rfl⟩ := h1
  simp only [fU] at s1
  simp only [fR]
  exact simps_of i s1 h1
 | .non, _, _, h, _ => by simp [fU] at h
 | .bl _, _, _, h, _ => by simp [fU] at h
 | .ty _, _, _, h, _ => by simp [fU] at h
 | .con _, _, _, h, _ => by simp [fU] at h
 | .lst _, _, _, h, _ => by simp [fU] at h
 | .qF _, _, _, h, _ => by simp [fU] at h
 | .jL _, _, _, h, _ => by simp [fU] at h
 | .GX _ _, _, _, h, _ => by simp [fU] at h
 | .ref _, _, _, h, _ => by simp [fU] at h
theorem simps_of : ∀ (xs : List D) {f : Nat → Option PyData} {ps : List PyData}, SimDs xs → D.pysR f xs = some ps → SimPs ps
 | [], f, ps, _, h1 => by
  simp only [D.pysR, ai] at h1
  subst h1
  simp [SimPs]
 | x :: xs, f, ps, s1, h1 => by
  simp only [D.pysR] at h1
  split at h1
  ·rename_i p ps e1 e2
   cases h1
   simp only [SimDs] at s1
   simp only [SimPs]
   exact ⟨KQ x s1.1 e1, simps_of xs s1.2 e2⟩
  ·cases h1
end
mutual
theorem aDe : ∀ (d e : D) {f g : Nat → Option PyData} {p q : PyData}, fU d → fU e → d.gD f = some p → e.gD g = some q → fR p ∧ fR q ∧ (p = q ↔ d = e)
 | .int i, .int j, f, g, p, q, _, _, h1, h2 => by
  simp only [D.gD, ai] at h1 h2
  subst h1 h2
  simp [fR]
 | .str i, .str j, f, g, p, q, s1, s2, h1, h2 => by
  simp only [D.gD, ai] at h1 h2
  simp only [fU] at s1 s2
  subst h1 h2
  simp [fR, s1, s2]
 | .tup i, .tup j, f, g, p, q, s1, s2, h1, h2 => by
  simp only [D.gD, ao] at h1 h2
  obtain ⟨ps, h1, rfl⟩ := h1
  obtain ⟨qs, h2, rfl⟩ := h2
  simp only [fU] at s1 s2
  obtain ⟨a1, a2, a3⟩ := pys_sim i j s1 s2 h1 h2
  simp only [fR, PyData.tuple.injEq, D.tup.injEq]
  exact ⟨a1, a2, a3⟩
 | .int i, .str j, f, g, p, q, s1, s2, h1, h2 => by
  simp only [D.gD, ai] at h1 h2
  simp only [fU] at s1 s2
  subst h1 h2
  simp [fR, s2]
 | .str i, .int j, f, g, p, q, s1, s2, h1, h2 => by
  simp only [D.gD, ai] at h1 h2
  simp only [fU] at s1 s2
  subst h1 h2
  simp [fR, s1]
 | .tup i, .int j, f, g, p, q, s1, s2, h1, h2 => by
  simp only [D.gD, ai, ao] at h1 h2
  obtain ⟨ps, h1, rfl⟩ := h1
  subst h2
  simp only [fU] at s1 s2
  have a1 := simps_of i s1 h1
  simp [fR, a1]
 | .tup i, .str j, f, g, p, q, s1, s2, h1, h2 => by
  simp only [D.gD, ai, ao] at h1 h2
  obtain ⟨ps, h1, rfl⟩ := h1
  subst h2
  simp only [fU] at s1 s2
  have a1 := simps_of i s1 h1
  simp [fR, a1, s2]
 | .int i, .tup j, f, g, p, q, s1, s2, h1, h2 => by
  simp only [D.gD, ai, ao] at h1 h2
  obtain ⟨ps, h2, rfl⟩ := h2
  subst h1
  simp only [fU] at s1 s2
  have a1 := simps_of j s2 h2
  simp [fR, a1]
 | .str i, .tup j, f, g, p, q, s1, s2, h1, h2 => by
  simp only [D.gD, ai, ao] at h1 h2
  obtain ⟨ps, h2, rfl⟩ := h2
  subst h1
  simp only [fU] at s1 s2
  have a1 := simps_of j s2 h2
  simp [fR, a1, s1]
 | .non, _, _, _, _, _, h, _, _, _ => by simp [fU] at h
 | .bl _, _, _, _, _, _, h, _, _, _ => by simp [fU] at h
 | .ty _, _, _, _, _, _, h, _, _, _ => by simp [fU] at h
 | .con _, _, _, _, _, _, h, _, _, _ => by simp [fU] at h
 | .lst _, _, _, _, _, _, h, _, _, _ => by simp [fU] at h
 | .qF _, _, _, _, _, _, h, _, _, _ => by simp [fU] at h
 | .jL _, _, _, _, _, _, h, _, _, _ => by simp [fU] at h
 | .GX _ _, _, _, _, _, _, h, _, _, _ => by simp [fU] at h
 | .ref _, _, _, _, _, _, h, _, _, _ => by simp [fU] at h
 | _, .non, _, _, _, _, _, h, _, _ => by simp [fU] at h
 | _, .bl _, _, _, _, _, _, h, _, _ => by simp [fU] at h
 | _, .ty _, _, _, _, _, _, h, _, _ => by simp [fU] at h
 | _, .con _, _, _, _, _, _, h, _, _ => by simp [fU] at h
 | _, .lst _, _, _, _, _, _, h, _, _ => by simp [fU] at h
 | _, .qF _, _, _, _, _, _, h, _, _ => by simp [fU] at h
 | _, .jL _, _, _, _, _, _, h, _, _ => by simp [fU] at h
 | _, .GX _ _, _, _, _, _, _, h, _, _ => by simp [fU] at h
 | _, .ref _, _, _, _, _, _, h, _, _ => by simp [fU] at h
theorem pys_sim : ∀ (xs ys : List D) {f g : Nat → Option PyData} {ps qs : List PyData}, SimDs xs → SimDs ys → D.pysR f xs = some ps → D.pysR g ys = some qs → SimPs ps ∧ SimPs qs ∧ (ps = qs ↔ xs = ys)
 | [], [], f, g, ps, qs, s1, s2, h1, h2 => by
  simp only [D.pysR, ai] at h1 h2
  subst h1 h2
  simp [SimPs]
 | x :: xs, [], f, g, ps, qs, s1, s2, h1, h2 => by
  simp only [D.pysR, ai] at h1 h2
  subst h2
  split at h1
  ·rename_i p ps e1 e2
   cases h1
   simp only [SimDs] at s1
   have a1 := KQ x s1.1 e1
   have b1 := simps_of xs s1.2 e2
   simp [SimPs, a1, b1]
  ·cases h1
 | [], y :: ys, f, g, ps, qs, s1, s2, h1, h2 => by
  simp only [D.pysR, ai] at h1 h2
  subst h1
  split at h2
  ·rename_i p ps e1 e2
   cases h2
   simp only [SimDs] at s2
   have a1 := KQ y s2.1 e1
   have b1 := simps_of ys s2.2 e2
   simp [SimPs, a1, b1]
  ·cases h2
 | x :: xs, y :: ys, f, g, ps, qs, s1, s2, h1, h2 => by
  simp only [D.pysR] at h1 h2
  split at h1
  ·split at h2
   ·rename_i p ps e1 e2 _ _ q qs e3 e4
    cases h1
    cases h2
    simp only [SimDs] at s1 s2
    obtain ⟨a1, a2, a3⟩ := aDe x y s1.1 s2.1 e1 e3
    obtain ⟨b1, b2, b3⟩ := pys_sim xs ys s1.2 s2.2 e2 e4
    exact ⟨⟨a1, b1⟩, ⟨a2, b2⟩, by rw [List.cons.injEq, List.cons.injEq, a3, b3]⟩
   ·cases h2
  ·cases h1
end
section
variable {w : W} {d e : D} {u v : PyData}
theorem SimDs.all : ∀ {xs : List D}, (∀ x ∈ xs, fU x) → SimDs xs
 | [], _ => by simp only [SimDs]
 | x :: xs, h => by
  simp only [SimDs]
  exact ⟨h x (bf ..), SimDs.all fun y hy => h y (bp _ hy)⟩
end
section
variable {w w' : W} {P : D → W → Prop} {k : Nd} {q p S N q2 p2 S2 N2 h j n n2 d d2 Q : Nat} {ss ss2 : List D} {cur cur2 : D} {ns ns2 : List (List D)} {g l g2 l2 b : Int} {m : Mo} {xs ys : List D} {x y : D} {u v u2 v2 : PyData} {t : MY} {ts ts2 : List MY} {X : Wx}
theorem V3 {d : D} {p : PyData} (e : d.py w = some p) (hs : SeqAt.shaped p = true) : vR d d w = some true := by
 unfold vR vT
 rw [e]
 simp only [hs, and_self, ah]
 rw [SeqAt.eqv_refl p (Bool.and_eq_true_iff.mp hs).1]
end
mutual
/-- plain things, empty dicts among them -/
def gN : PyData → Bool
 | .none | .bool _ => true
 | .int i => decide (i.natAbs < 10 ^ 40)
 | .str x => PyData.strOk (reprText x) && PyData.strOk x && PyData.leavesShort 60 (.str x) && decide (x.length ≤ 100)
 | .list xs | .tuple xs => plainXs xs
 | .dict kvs => kvs.isEmpty
def plainXs : List PyData → Bool
 | [] => true
 | x :: xs => gN x && plainXs xs
end
mutual
theorem J5 : ∀ p : PyData, gN p = true → PyData.strOk p.shown = true
 | .none, _ => fQ _
 | .bool b, _ => by cases b <;> exact fQ _
 | .int i, _ => fQ _
 | .str x, h => by
  simp only [gN, ar] at h
  exact h.1.1.1
 | .list xs, h => by
  rw [gN] at h
  show PyData.strOk (textFrom 0 "[" (PyData.shownAll xs) ++ "]") = true
  rw [gY, oU _ _ _ (fQ _) (plainXs_shown xs h), fQ]
  rfl
 | .tuple xs, h => by
  rw [gN] at h
  show PyData.strOk (tupleText (PyData.shownAll xs)) = true
  unfold tupleText
  rw [gY, gY, fQ, zH _ (fQ _) _ (plainXs_shown xs h)]
  split <;> rw [fQ] <;> rfl
 | .dict [], _ => by decide +kernel
 | .dict (_ :: _), h => by simp [gN] at h
theorem plainXs_shown : ∀ ps : List PyData, plainXs ps = true → ∀ t ∈ PyData.shownAll ps, PyData.strOk t = true
 | [], _, t, ht => by simp [PyData.shownAll] at ht
 | p :: ps, h, t, ht => by
  simp only [plainXs, ar] at h
  simp only [PyData.shownAll, bh] at ht
  rcases ht with rfl | ht
  ·exact J5 p h.1
  ·exact plainXs_shown ps h.2 t ht
end
mutual
theorem RS : ∀ p : PyData, gN p = true → p.leavesShort 60 = true ∧ p.showable = true
 | .none, _ => by simp [PyData.leavesShort, PyData.showable]
 | .bool b, _ => by simp [PyData.leavesShort, PyData.showable]
 | .int i, h => by
  simp only [gN, aq] at h
  exact ⟨A5 h, zK h⟩
 | .str x, h => by
  simp only [gN, ar] at h
  exact ⟨h.1.2, by simp [PyData.showable]⟩
 | .list xs, h => by
  rw [gN] at h
  have := plainXs_all xs h
  simp only [PyData.leavesShort, PyData.showable]
  exact this
 | .tuple xs, h => by
  rw [gN] at h
  have := plainXs_all xs h
  simp only [PyData.leavesShort, PyData.showable]
  exact this
 | .dict [], _ => by decide +kernel
 | .dict (_ :: _), h => by simp [gN] at h
theorem plainXs_all : ∀ p : List PyData, plainXs p = true → PyData.leavesShortAll 60 p = true ∧ PyData.showableAll p = true
 | [], _ => by simp [PyData.leavesShortAll, PyData.showableAll]
 | p :: ps, h => by
  simp only [plainXs, ar] at h
  obtain ⟨a1, a2⟩ := RS p h.1
  obtain ⟨b1, b2⟩ := plainXs_all ps h.2
  simp only [PyData.leavesShortAll, PyData.showableAll, a1, a2, b1, b2]
  simp
end
mutual
theorem HL : ∀ p : PyData, eJ p = true → gN p = true
 | .none, _ => rfl
 | .bool b, _ => rfl
 | .int i, h => by rw [eJ] at h; rw [gN]; exact h
 | .str x, h => by rw [eJ] at h; rw [gN]; exact h
 | .list xs, h => by rw [eJ] at h; rw [gN]; exact plainXs_of xs h
 | .tuple xs, h => by rw [eJ] at h; rw [gN]; exact plainXs_of xs h
 | .dict _, h => by simp [eJ] at h
theorem plainXs_of : ∀ p : List PyData, plainPs p = true → plainXs p = true
 | [], _ => rfl
 | p :: ps, h => by
  simp only [plainPs, ar] at h
  simp only [plainXs, HL p h.1, plainXs_of ps h.2, Bool.and_self]
end
structure aFO (p : PyData) : Prop where
 plain : gN p = true
 bulk : p.bulk ≤ 200000
 deep : p.depth ≤ 40
theorem Q5.x {p : PyData} (h : Q5 p) : aFO p := ⟨HL p h.plain, h.bulk, h.deep⟩
mutual
theorem aDW {f g : Nat → Option PyData} (hfg : ∀ i p, f i = some p → g i = some p) : ∀ (d : D) {p : PyData}, d.gD f = some p → d.gD g = some p
 | .non, _, h => by simpa only [D.gD] using h
 | .bl _, _, h => by simpa only [D.gD] using h
 | .int _, _, h => by simpa only [D.gD] using h
 | .str _, _, h => by simpa only [D.gD] using h
 | .ty _, _, h => by simp [D.gD] at h
 | .con _, _, h => by simp [D.gD] at h
 | .GX _ _, _, h => by simp [D.gD] at h
 | .ref i, _, h => by
  simp only [D.gD] at h ⊢
  exact hfg i _ h
 | .tup xs, _, h => by
  simp only [D.gD, ao] at h ⊢
  obtain ⟨ps, h1, h2⟩ := h
  exact ⟨ps, pysR_le hfg xs h1, h2⟩
 | .jL xs, _, h => by
  simp only [D.gD, ao] at h ⊢
  obtain ⟨ps, h1, h2⟩ := h
  exact ⟨ps, pysR_le hfg xs h1, h2⟩
 | .lst xs, _, h => by
  simp only [D.gD, ao] at h ⊢
  obtain ⟨ps, h1, h2⟩ := h
  exact ⟨ps, pysR_le hfg xs h1, h2⟩
 | .qF xs, _, h => by
  simp only [D.gD, ao] at h ⊢
  obtain ⟨ps, h1, h2⟩ := h
  exact ⟨ps, pysR_le hfg xs h1, h2⟩
theorem pysR_le {f g : Nat → Option PyData} (hfg : ∀ i p, f i = some p → g i = some p) : ∀ (ds : List D) {ps : List PyData}, D.pysR f ds = some ps → D.pysR g ds = some ps
 | [], _, h => by simpa only [D.pysR] using h
 | d :: ds, _, h => by
  simp only [D.pysR] at h ⊢
  split at h
  ·rename_i p ps e1 e2
   rw [aDW hfg d e1, pysR_le hfg ds e2]
   exact h
  ·cases h
end
end Lw
namespace Lw
open PySem PySem.Spec PyProof.Rows L2 Pc Lb
def aCL (h : Nat) (s : yD) (a v : Nat) : List Nat := (W4 h s v).filter fun c => aFf (aAY s a c)
inductive Mark where
 | one (a v : Nat) | two (a v c d : Nat)
def Mark.a : Mark → Nat
 | .one a _ => a
 | .two a _ _ _ => a
def Mark.v : Mark → Nat
 | .one _ v => v
 | .two _ v _ _ => v
def Mark.key : Mark → List Key
 | .one a v => [.inl (a : Nat), .inl (v : Nat)]
 | .two a v c d => [.inl (a : Nat), .inl (v : Nat), .inl (c : Nat), .inl (d : Nat)]
def Mark.hold (h : Nat) (s : yD) : Mark → Prop
 | .one a v => W4 h s v ≠ [] ∧ aCL h s a v = []
 | .two a v c d => c ∈ aCL h s a v ∧ d ∈ aCL h s a v ∧ c ≠ d
section
variable {m : Mo} {b : Int} {h Q : Nat} {x : Wx} {ts : List MY} {u : MY} {a v c d t : Nat} {mk : Mark} {s1 s2 : yD} {ds : List xE} {ls : List WD}
def Mark.most (m : Mo) (b : Int) (h : Nat) : Mark → Nat
 | .one _ _ => aFd m b h
 | .two _ _ _ _ => aET m
end
def YL : MS :=
 (aH (aT (aC bQ (aC aV (aB 0) (eC (.str ("at" : Str)))) (eC (.int 1))) (eO (aB 0) (eC (.str ("at" : Str)))))
 (aH (aT (aC aV (aB 0) (eC (.str ("at" : Str)))) (aU 2))
 (aH (aT (aC aV (aB 0) (eC (.str ("cells" : Str)))) (aU 3))
 (aH (aT (aC bQ (aC aV (aB 0) (eC (.str ("sum" : Str)))) (aB 2)) (aU 4))
 (aH (dW (bA (aC mQ (aB 3) (gT aD))) (aH (aT (b7 "list" AQ (aB 3) (aA (eC (.int 0)) aD)) (aU 4))
 (dW (bA (aC geM (aB 4) (aC QW (eC (.int 10)) (eC (.int 18))))) (aH (dE (b7 "list" vQ (aB 3) (aA (eC (.int 0)) (aA (aC wM (aB 4) (aB 1)) aD))))
 (aZ (aC kL (aB 4) (aB 1)))) aW)) aW)
 (aH (aT (aC kL (aC bQ (aC bQ (aC mulM (aC kL (aB 4) (eC (.int 2147483647))) (eC (.int 48271))) (aC mulM (aC mulM (eC (.int 69621)) (aB 2)) (aB 2))) (eC (.int 7919))) (eC (.int 2147483629))) (aU 5))
 (aH (aT (aC kL (aC mulM (aB 5) (aB 5)) (eC (.int 2147483587))) (aU 5))
 (aZ (aC kL (aC wM (aC kL (aC mulM (aB 5) (aC bQ (aB 5) (eC (.int 39373)))) (eC (.int 2147483563))) (eC (.int 64))) (aB 1))))))))))
def XT : List Str := [("_law_deck_here" : Str), ("_law_bound" : Str), ("_law_at" : Str), ("_law_cells" : Str), ("_law_seed" : Str), ("_law_number" : Str)]
def JU : MF := bL YL XT
def uH (c : Nat) (a sm : Int) : List (L2.Key × D) := [(.inr ("cells" : Str), .ref c), (.inr ("at" : Str), .int a), (.inr ("sum" : Str), .int sm)]
def iN (w : W) (r c b : Nat) : Prop := r ≠ c ∧ ∃ (cells : List Int) (sm : Int) (a : Nat), w[r]? = some (.dK (uH c a sm)) ∧ w[c]? = some (.lst (cells.map D.int)) ∧ cells.length ≤ 63 ∧ a + b ≤ 2 ^ 60
section
variable {w w' : W} {P : D → W → Prop} {r c b : Nat} {size : Int}
theorem aF3 (x0 x1 : D) : begin XT [x0, x1] = [some x0, some x1, none, none, none, none] := rfl
theorem aFi : T (QW (.int 10) (.int 18) w) P = P (.int (10 ^ 18)) w := by
 have : QW (.int 10) (.int 18) w = .ok (.int (10 ^ 18)) w := by unfold QW; rfl
 rw [this, b5]
theorem DA {a c : Int} (h : -(2 ^ 64) < a ∧ a < 2 ^ 64) : DZ a c = true := by
 unfold DZ
 rw [decide_eq_true h.1, decide_eq_true h.2]
 rfl
theorem UQ {a c : Int} (h : -(2 ^ 64) < c ∧ c < 2 ^ 64) : DZ a c = true := by
 unfold DZ
 rw [decide_eq_true h.1, decide_eq_true h.2]
 simp
theorem V2 {cell a : Int} {s3 : Option D} (h0 : 0 < size) (ha : 0 ≤ a ∧ a < 2 ^ 61) (hP : ∀ v, 0 ≤ v → v < size → P (.int v) w) :
  T (aH (aT (aC kL (aC bQ (aC bQ (aC mulM (aC kL (aB 4) (eC (.int 2147483647))) (eC (.int 48271))) (aC mulM (aC mulM (eC (.int 69621)) (aB 2)) (aB 2))) (eC (.int 7919))) (eC (.int 2147483629))) (aU 5))
 (aH (aT (aC kL (aC mulM (aB 5) (aB 5)) (eC (.int 2147483587))) (aU 5))
 (aZ (aC kL (aC wM (aC kL (aC mulM (aB 5) (aC bQ (aB 5) (eC (.int 39373)))) (eC (.int 2147483563))) (eC (.int 64))) (aB 1))))
   [some (.ref r), some (.int size), some (.int a), s3, some (.int cell), none] w) fun f w1 => match f with
   | .nx _ => P .non w1
   | .rt d => P d w1
   | _ => False := by
 rw [aX]
 simp only [wJ, zU, qW, sA, zY, ah, ae, reduceCtorEq]
 refine ⟨by omega, UQ ⟨by omega, by omega⟩, DA ⟨by omega, by omega⟩, UQ ⟨by omega, by omega⟩, by omega, ?_⟩
 obtain ⟨n, en⟩ : ∃ n, n = (cell % 2147483647 * 48271 + 69621 * a * a + 7919) % 2147483629 := ⟨_, rfl⟩
 have n0 : 0 ≤ n ∧ n < 2147483629 := by
  rw [en]
  exact ⟨Int.emod_nonneg _ (by omega), Int.emod_lt_of_pos _ (by omega)⟩
 rw [← en, aX]
 simp only [wJ, zU, qW, sA, zY, ah, ae, reduceCtorEq]
 obtain ⟨m, em⟩ : ∃ m, m = n * n % 2147483587 := ⟨_, rfl⟩
 have m0 : 0 ≤ m ∧ m < 2147483587 := by
  rw [em]
  exact ⟨Int.emod_nonneg _ (by omega), Int.emod_lt_of_pos _ (by omega)⟩
 rw [← em]
 refine ⟨DA ⟨by omega, by omega⟩, by omega, ?_⟩
 try simp only [wJ, zU, qW, sA, zY, ah, ae, reduceCtorEq]
 refine ⟨DA ⟨by omega, by omega⟩, by omega, ⟨by omega, by omega⟩, h0, hP _ (Int.emod_nonneg _ (by omega)) (Int.emod_lt_of_pos _ h0)⟩
theorem iS (h : iN w r c (b + 1)) (h0 : 0 < size) (h1 : size < 1073741824) (hP : ∀ v w', 0 ≤ v → v < size → iN w' r c b → Pc.Kept w w' r c → P (.int v) w') : T (JU [.ref r, .int size] w) P := by
 obtain ⟨ne, cells, sm, a, hr, hc, hl, hb⟩ := h
 have lr := (aj.mp hr).1
 have lc := (aj.mp hc).1
 unfold JU YL
 rw [eA, aF3, aX]
 simp only [IL hr, zY, ah, ae, reduceCtorEq]
 refine ⟨.int a, rfl, ?_⟩
 simp only [qW, zY, ah, ae, reduceCtorEq]
 rw [aEc hr]
 have ek : putD (uH c a sm) (.inr ("at" : Str)) (.int ((a : Int) + 1)) = uH c ((a + 1 : Nat) : Int) sm := rfl
 rw [ek]
 refine ⟨by rw [sizeLine_eq]; unfold uH; simp, ?_⟩
 obtain ⟨w1, e1⟩ : ∃ w1, w1 = w.set r (.dK (uH c ((a + 1 : Nat) : Int) sm)) := ⟨_, rfl⟩
 have hr1 : w1[r]? = some (.dK (uH c ((a + 1 : Nat) : Int) sm)) := by rw [e1]; exact az lr
 have hc1 : w1[c]? = some (.lst (cells.map D.int)) := by rw [e1, bc ne]; exact hc
 have k1 : Pc.Kept w w1 r c := ⟨by rw [e1, ck], fun i h2 _ => by rw [e1, bc (Ne.symm h2)]⟩
 rw [← e1, aX]
 simp only [IL hr1, zY, ah, ae, reduceCtorEq]
 refine ⟨.int ((a + 1 : Nat) : Int), rfl, ?_⟩
 try simp only [zY, ah, ae, reduceCtorEq]
 rw [aX]
 simp only [IL hr1, zY, ah, ae, reduceCtorEq]
 refine ⟨.ref c, rfl, ?_⟩
 try simp only [zY, ah, ae, reduceCtorEq]
 rw [aX]
 simp only [IL hr1, zY, ah, ae, reduceCtorEq]
 refine ⟨.int sm, rfl, ?_⟩
 simp only [qW, zY, ah, ae, reduceCtorEq]
 rw [aX]
 have fin : ∀ (cell : Int) (w2 : W), iN w2 r c b → Pc.Kept w w2 r c → T (aH (aT (aC kL (aC bQ (aC bQ (aC mulM (aC kL (aB 4) (eC (.int 2147483647))) (eC (.int 48271))) (aC mulM (aC mulM (eC (.int 69621)) (aB 2)) (aB 2))) (eC (.int 7919))) (eC (.int 2147483629))) (aU 5))
 (aH (aT (aC kL (aC mulM (aB 5) (aB 5)) (eC (.int 2147483587))) (aU 5))
 (aZ (aC kL (aC wM (aC kL (aC mulM (aB 5) (aC bQ (aB 5) (eC (.int 39373)))) (eC (.int 2147483563))) (eC (.int 64))) (aB 1))))
   [some (.ref r), some (.int size), some (.int ((a + 1 : Nat) : Int)), some (.ref c), some (.int cell), none] w2) fun f w1 => match f with
   | .nx _ => P .non w1
   | .rt d => P d w1
   | _ => False := fun cell w2 d2 k2 => V2 h0 ⟨by omega, by omega⟩ fun v v0 v1 => hP v w2 v0 v1 d2 k2
 have d1 : iN w1 r c b := ⟨ne, cells, sm, a + 1, hr1, hc1, hl, by omega⟩
 rcases cells with _ | ⟨z, zs⟩
 ·simp only [Pc.ne_nil hc1, b5, List.isEmpty_nil, Bool.not_true, zY, ah, ae, reduceCtorEq]
  exact fin _ w1 d1 k1
 ·obtain ⟨w2, e2⟩ : ∃ w2, w2 = w1.set c (.lst (zs.map D.int)) := ⟨_, rfl⟩
  have lc1 : c < w1.length := by rw [k1.1]; exact lc
  have hr2 : w2[r]? = some (.dK (uH c ((a + 1 : Nat) : Int) sm)) := by rw [e2, bc (Ne.symm ne)]; exact hr1
  have hc2 : w2[c]? = some (.lst (zs.map D.int)) := by rw [e2]; exact az lc1
  have k2 : Pc.Kept w w2 r c := ⟨by rw [e2, ck]; exact k1.1, fun i h2 h3 => by rw [e2, bc (Ne.symm h3)]; exact k1.2 i h2 h3⟩
  have lz : zs.length + 1 ≤ 63 := by simpa using hl
  have d2 : iN w2 r c b := ⟨ne, zs, sm, a + 1, hr2, hc2, by omega, by omega⟩
  have ep : AQ (.ref c) [.int 0] w1 = .ok (.int z) w2 := by
   unfold AQ
   simp only [hc1]
   rw [if_pos (by omega), e2]
   have es : seqIndex? 0 ((z :: zs).map D.int).length = some 0 := by
    unfold seqIndex?
    simp
   rw [es]
   rfl
  simp only [Pc.ne_nil hc1, b5, List.isEmpty_cons, Bool.not_false, zY, ah, ae, reduceCtorEq]
  rw [aX]
  simp only [tyL hc1, ep, b5, zY, ah, ae, reduceCtorEq]
  simp only [aFi, VI, zY, ah, ae, reduceCtorEq]
  split
  ·rw [aX]
   simp only [tyL hc2, sA, zY, ah, ae, reduceCtorEq]
   refine ⟨⟨h0, h1⟩, ?_⟩
   obtain ⟨w3, e3⟩ : ∃ w3, w3 = w2.set c (.lst ((z / size :: zs).map D.int)) := ⟨_, rfl⟩
   have lc2 : c < w2.length := by rw [k2.1]; exact lc
   have ei : vQ (.ref c) [.int 0, .int (z / size)] w2 = .ok .non w3 := by
    unfold vQ
    simp only [hc2]
    rw [if_pos ⟨by rw [sizeLine_eq, ak]; omega, by omega, by omega⟩, e3]
    rfl
   have hr3 : w3[r]? = some (.dK (uH c ((a + 1 : Nat) : Int) sm)) := by rw [e3, bc (Ne.symm ne)]; exact hr2
   have hc3 : w3[c]? = some (.lst ((z / size :: zs).map D.int)) := by rw [e3]; exact az lc2
   have k3 : Pc.Kept w w3 r c := ⟨by rw [e3, ck]; exact k2.1, fun i h2 h3 => by rw [e3, bc (Ne.symm h3)]; exact k2.2 i h2 h3⟩
   simp only [ei, b5, wJ, zY, ah, ae, reduceCtorEq]
   exact ⟨h0, hP _ w3 (Int.emod_nonneg _ (by omega)) (Int.emod_lt_of_pos _ h0) ⟨ne, z / size :: zs, sm, a + 1, hr3, hc3, by simpa using lz, by omega⟩ k3⟩
  ·exact fin _ w2 d2 k2
def XJ : List Str := [("_law_script" : Str), ("_law_cells" : Str)]
def YQ : MS :=
 (aH (aT (aQ D3 (aA (lE iU (aB 0) cJ (bX (eC (.int 63)))) aD)) (aU 1))
 (aZ (E7 (eE (eC (.str ("cells" : Str))) (aB 1) (eE (eC (.str ("at" : Str))) (eC (.int 0)) (eE (eC (.str ("sum" : Str))) (aC bQ (aC kL (aQ MK (aA (aB 1) aD)) (eC (.int 2147483629))) (aC mulM (eC (.int 17)) (aQ cY (aA (aB 1) aD)))) GR))))))
def R4 : MF := bL YQ XJ
theorem aFa (x0 : D) : begin XJ [x0] = [some x0, none] := rfl
theorem aAE {ns : List Int} (hn : ns.length ≤ 63) : T (R4 [.qF (ns.map D.int)] []) fun d w => d = .ref 1 ∧ w.length = 2 ∧ iN w 1 0 (2 ^ 59) := by
 obtain ⟨ms, e1, e2⟩ := aBT (ns := ns) (lo := none) (hi := some 63)
 have sl : iU (.qF (ns.map D.int)) none (some 63) [] = .ok (.lst (ms.map D.int)) [] := by simp only [iU, e1]
 have ln : D3 [.lst (ms.map D.int)] [] = .ok (.ref 0) [.lst (ms.map D.int)] := rfl
 have h0 : ([MO.lst (ms.map D.int)] : W)[0]? = some (.lst (ms.map D.int)) := rfl
 have hl : ms.length ≤ 63 := by omega
 unfold R4 YQ
 rw [eA, aFa, aX]
 simp only [sl, ln, b5, zY, ah, ae, reduceCtorEq]
 have sm : MK [.ref 0] [MO.lst (ms.map D.int)] = .ok (.int ms.sum) [MO.lst (ms.map D.int)] := by
  have : y7 (.ref 0) [MO.lst (ms.map D.int)] = some (ms.map D.int) := rfl
  simp only [MK, this, Option.bind_some, Pc.vD]
 have lm : cY [.ref 0] [MO.lst (ms.map D.int)] = .ok (.int ms.length) [MO.lst (ms.map D.int)] := by simp [cY, FZ]
 simp only [sm, lm, b5, wJ, zU, qW]
 exact ⟨by omega, DA ⟨by omega, by omega⟩, _, rfl, by simp, rfl, rfl, by omega, ms, _, 0, rfl, rfl, hl, by omega⟩
end
end Lw
namespace Lb
open PySem PySem.Spec PyProof.Rows L2 Pc Lw
def iZ : D → List D
 | .tup ys => ys
 | _ => []
def E6 : D → Bool
 | .tup ys => decide (ys.length ≤ 6)
 | _ => false
def mR : D → Bool
 | .tup xs => (decide (1 ≤ xs.length) && decide (xs.length ≤ 4)) && (xs.all E6 && (!((xs.map iZ).headD []).isEmpty && (xs.all (fun r => (iZ r).length == ((xs.map iZ).headD []).length) && (xs.flatMap iZ).all (bM 1 12))))
 | _ => false
section
variable {w : W} {P : D → W → Prop} (k : bN) {n : Nat} {d : D}
theorem aAZ {ys : List D} (h : ∀ y ∈ ys, pE n y = true) (hn : n ≤ 60) : T (fG (.tup ys) (.tup []) w) P = P (.bl ys.isEmpty) w := by
 rw [AH, AM]
 simp
theorem S3 (hn : n ≤ 50) (e : pE (n + 2) d = true) (hP : P (.bl (mR d)) w) : T (fH k [d] w) P := by
 unfold fH lW
 rw [eA, J6, aX]
 simp only [UZ e, zY, ah, ae, reduceCtorEq]
 cases d <;> simp only [FA, mR, zY, ah, ae, reduceCtorEq] at hP ⊢ <;> first | exact hP | skip
 rename_i xs
 obtain ⟨e1, e2⟩ := C6 e
 try simp only [RE, zY, ah, ae, reduceCtorEq]
 by_cases c1 : 1 ≤ xs.length ∧ xs.length ≤ 4
 case neg =>
  have hf : (decide (1 ≤ xs.length) && decide (xs.length ≤ 4)) = false := by
   rw [Bool.and_eq_false_iff]
   simp only [decide_eq_false_iff_not]
   omega
  rw [hf, Bool.false_and] at hP
  split
  ·split
   ·exact hP
   ·rename_i h1 h2
    simp at h1 h2
    omega
  ·exact hP
 have i1 : decide ((1 : Int) ≤ (xs.length : Nat)) = true := by simp; omega
 have i2 : decide (((xs.length : Nat) : Int) ≤ 4) = true := by simp; omega
 have j1 : decide (1 ≤ xs.length) = true := by simp [c1.1]
 have j2 : decide (xs.length ≤ 4) = true := by simp [c1.2]
 simp only [i1, i2, j1, j2, Bool.true_and, Bool.not_true, zY, ah, ae, reduceCtorEq] at hP ⊢
 rw [aX]
 simp only [uW, zY, ah, ae, reduceCtorEq]
 refine ⟨qS _ (by omega), ?_⟩
 refine fD (it := ⟨xs, always⟩) xs (fun x => x) (fun x => .bl (E6 x)) (by simp) trivial (fun x hx => ?_) ?_
 ·simp only [dP, UZ (e1 x hx), zY, ah, ae, reduceCtorEq]
  have ok := e1 x hx
  cases x <;> simp only [FA, E6, zY, ah, ae, reduceCtorEq]
  rename_i ys
  try simp only [RE, zY, ah, ae, reduceCtorEq]
  simp
  omega
 rw [A4 xs E6]
 cases c2 : xs.all E6 with
 | false =>
  rw [c2, Bool.false_and] at hP
  simp only [Bool.not_false, zY, ah, ae, reduceCtorEq]
  exact hP
 | true =>
 rw [c2, Bool.true_and] at hP
 simp only [Bool.not_true, zY, ah, ae, reduceCtorEq]
 rw [br] at c2
 have rows : ∃ rs : List (List D), xs = rs.map D.tup := by
  refine ⟨xs.map iZ, ?_⟩
  rw [List.map_map]
  refine (List.map_id' xs).symm.trans (List.map_congr_left fun x hx => ?_)
  have := c2 x hx
  cases x <;> first | rfl | (simp [E6] at this; done)
 obtain ⟨rs, rfl⟩ := rows
 obtain ⟨r0, rest, rfl⟩ : ∃ r0 rest, rs = r0 :: rest := by
  cases rs with
  | nil => simp at c1
  | cons a b => exact ⟨a, b, rfl⟩
 have f6 : ∀ r ∈ r0 :: rest, r.length ≤ 6 := fun r hr => by
  have := c2 (.tup r) (List.mem_map_of_mem hr)
  simpa [E6] using this
 have o1 : ∀ r ∈ r0 :: rest, ∀ x ∈ r, pE n x = true := fun r hr x hx => (C6 (e1 (.tup r) (List.mem_map_of_mem hr))).1 x hx
 rw [aX]
 simp only [List.map_cons, XS, zY, ah, ae, reduceCtorEq]
 rw [aAZ (o1 r0 (bf ..)) (by omega)]
 rw [show ((((r0 :: rest).map D.tup).map iZ).headD []) = r0 from rfl] at hP
 cases c3 : r0.isEmpty with
 | true =>
  rw [c3] at hP
  simp only [Bool.not_true, Bool.false_and, zY, ah, ae, reduceCtorEq] at hP ⊢
  exact hP
 | false =>
 rw [c3] at hP
 simp only [Bool.not_false, Bool.true_and, zY, ah, ae, reduceCtorEq] at hP ⊢
 refine ⟨by rw [sizeLine_eq]; simp at c1 ⊢; omega, ?_⟩
 refine fD (it := ⟨(r0 :: rest).map D.tup, always⟩) (r0 :: rest) D.tup (fun r => .bl (r.length == r0.length)) rfl trivial (fun r hr => ?_) ?_
 ·simp only [dP, RE, XS, zY, ah, ae, reduceCtorEq]
  congr 1
  rw [Bool.eq_iff_iff]
  simp only [beq_iff_eq]
  omega
 rw [A4 (r0 :: rest) fun r => r.length == r0.length]
 have ea : (((r0 :: rest).map D.tup).all fun r => (iZ r).length == r0.length) = (r0 :: rest).all fun r => r.length == r0.length := by
  rw [List.all_map]
  rfl
 rw [ea] at hP
 cases c4 : (r0 :: rest).all fun r => r.length == r0.length with
 | false =>
  rw [c4] at hP
  simp only [Bool.not_false, Bool.false_and, zY, ah, ae, reduceCtorEq] at hP ⊢
  exact hP
 | true =>
 rw [c4] at hP
 simp only [Bool.not_true, Bool.true_and, zY, ah, ae, reduceCtorEq] at hP ⊢
 have ef : (((r0 :: rest).map D.tup).flatMap iZ) = (r0 :: rest).flatMap fun r => r := by
  rw [List.flatMap_map]
  rfl
 rw [ef] at hP
 simp only [aBl, uW, zY, ah, ae, reduceCtorEq]
 refine YG (it := ⟨(r0 :: rest).map D.tup, always⟩) D.tup (fun r => r) (fun x => x) (fun _ x => .bl (bM 1 12 x)) (r0 :: rest) [] trivial ?_ (fun r hr => ?_) ?_
 ·have : ∀ l : List (List D), (∀ r ∈ l, r.length ≤ 6) → (l.map fun r => r.length).sum ≤ l.length * 6 := by
   intro l
   induction l with
   | nil => simp
   | cons a l ih =>
    intro hl
    have h1 := hl a (bf ..)
    have h2 := ih fun r hr => hl r (bp _ hr)
    rw [List.map_cons, List.sum_cons, List.length_cons, Nat.succ_mul]
    omega
  have h1 := this _ f6
  have h2 := c1.2
  rw [ak] at h2
  rw [sizeLine_eq, List.length_nil]
  omega
 ·simp only [dP, uW, zY, ah, ae, reduceCtorEq]
  exact ⟨⟨trivial, (List.map_id' r).symm⟩, fun z hz => by rw [qY 1 12 (o1 r hr z hz)]; exact ⟨rfl, rfl⟩⟩
 ·rw [List.nil_append]
  have eb : ((r0 :: rest).flatMap fun r => r.map fun x => D.bl (bM 1 12 x)) = ((r0 :: rest).flatMap fun r => r).map fun x => D.bl (bM 1 12 x) := by
   rw [List.map_flatMap]
  rw [eb, A4 ((r0 :: rest).flatMap fun r => r) (bM 1 12)]
  exact hP
def vU (h : Int) (d : D) : Bool := match d with
 | .tup [a, c, l] => bM 0 (h - 1) a && (bM 0 9 c && bM 1 11 l)
 | _ => false
def numsOf : D → Int × Int
 | .tup [.int a, .int c, _] => (a, c)
 | _ => (0, 0)
def iI : List (Int × Int) → Bool
 | p :: q :: r => HT.lexLt [p.1, p.2] [q.1, q.2] && iI (q :: r)
 | _ => true
def EZ (h : Int) (d : D) : Bool := match d with
 | .tup xs => !decide (6 < xs.length) && (xs.all (vU h) && iI (xs.map numsOf))
 | _ => false
theorem X1 {h : Int} (e : pE (n + 1) d = true) (hP : P (.bl (vU h d)) w) : T (jP k [d, .int h] w) P := by
 unfold jP s9
 rw [eA, VD, aX]
 simp only [UZ e, zY, ah, ae, reduceCtorEq]
 cases d <;> simp only [FA, vU, zY, ah, ae, reduceCtorEq] at hP ⊢ <;> first | exact hP | skip
 rename_i xs
 obtain ⟨e1, e2⟩ := C6 e
 try simp only [RE, Y4, zY, ah, ae, reduceCtorEq]
 by_cases c : xs.length = 3
 case neg =>
  have i1 : (!(((xs.length : Nat) : Int) == 3)) = true := by
   have : ¬ ((xs.length : Nat) : Int) = 3 := by omega
   simpa using this
  rw [if_pos i1]
  have hf : (match D.tup xs with
   | D.tup [a, c, l] => bM 0 (h - 1) a && (bM 0 9 c && bM 1 11 l)
   | _ => false) = false := by
   split
   ·rename_i a c' l e
    cases e
    exact absurd rfl c
   ·rfl
  rw [hf] at hP
  exact hP
 obtain ⟨a, c', l, rfl⟩ : ∃ a c' l, xs = [a, c', l] := by
  match xs, c with
  | [a, c', l], _ => exact ⟨a, c', l, rfl⟩
 have ha := e1 a (by simp)
 have hc := e1 c' (by simp)
 have hl := e1 l (by simp)
 rw [if_neg (by simp), aX]
 simp only [DT, qY _ _ ha, qY _ _ hc, qY _ _ hl, zY, ah, ae, reduceCtorEq] at hP ⊢
 revert hP
 cases bM 0 (h - 1) a <;> cases bM 0 9 c' <;> simp
theorem aCM {h : Int} (e : vU h d = true) : ∃ t : Int × Int × Int, d = dU t := by
 unfold vU at e
 split at e
 ·rename_i a c l
  simp only [ar] at e
  obtain ⟨e1, e2, e3⟩ := e
  cases a <;> first | (simp [bM] at e1; done) | skip
  cases c <;> first | (simp [bM] at e2; done) | skip
  cases l <;> first | (simp [bM] at e3; done) | skip
  exact ⟨(_, _, _), rfl⟩
 ·cases e
theorem IQ : ∀ ts : List (Int × Int), ((ts.dropLast.zip ts.tail).all fun p => HT.lexLt [p.1.1, p.1.2] [p.2.1, p.2.2]) = iI ts
 | [] => rfl
 | [a] => rfl
 | a :: b :: ts => by
  have := IQ (b :: ts)
  simp only [List.dropLast_cons₂, List.tail_cons, List.zip_cons_cons, List.all_cons, iI] at this ⊢
  rw [this]
theorem aD8 {h : Int} (e : pE (n + 2) d = true) (hP : P (.bl (EZ h d)) w) : T (kZ k [d, .int h] w) P := by
 unfold kZ nX
 rw [eA, L7, aX]
 simp only [UZ e, zY, ah, ae, reduceCtorEq]
 cases d <;> simp only [FA, EZ, zY, ah, ae, reduceCtorEq] at hP ⊢ <;> first | exact hP | skip
 rename_i xs
 obtain ⟨e1, e2⟩ := C6 e
 try simp only [RE, zY, ah, ae, reduceCtorEq]
 by_cases c1 : 6 < xs.length
 ·have i1 : decide (((xs.length : Nat) : Int) > 6) = true := by simp; omega
  have j1 : decide (6 < xs.length) = true := by simp [c1]
  simp only [i1, j1, Bool.not_true, Bool.false_and, zY, ah, ae, reduceCtorEq] at hP ⊢
  exact hP
 have i1 : decide (((xs.length : Nat) : Int) > 6) = false := by simp; omega
 have j1 : decide (6 < xs.length) = false := by simp; omega
 simp only [i1, j1, Bool.not_false, Bool.true_and, uW, zY, ah, ae, reduceCtorEq] at hP ⊢
 refine ⟨qS _ (by omega), ?_⟩
 refine fD (it := ⟨xs, always⟩) xs (fun x => x) (fun x => .bl (vU h x)) (by simp) trivial (fun x hx => ?_) ?_
 ·simp only [dP, zY, ah, ae, reduceCtorEq]
  refine X1 k (e1 x hx) ?_
  exact ⟨rfl, rfl⟩
 rw [A4 xs (vU h)]
 cases c2 : xs.all (vU h) with
 | false =>
  rw [c2, Bool.false_and] at hP
  simp only [Bool.not_false, zY, ah, ae, reduceCtorEq]
  exact hP
 | true =>
 rw [c2, Bool.true_and] at hP
 simp only [Bool.not_true, zY, ah, ae, reduceCtorEq]
 rw [br] at c2
 obtain ⟨ts, rfl⟩ : ∃ ts : List (Int × Int × Int), xs = ts.map dU := by
  clear hP e e1 e2 c1 i1 j1
  induction xs with
  | nil => exact ⟨[], rfl⟩
  | cons x xs ih =>
   obtain ⟨t, rfl⟩ := aCM (c2 x (bf ..))
   obtain ⟨ts, rfl⟩ := ih fun y hy => c2 y (bp _ hy)
   exact ⟨t :: ts, rfl⟩
 simp only [aBU, aAQ, aF1, b5, zY, ah, ae, reduceCtorEq]
 refine ⟨by simp, ?_, ?_⟩
 ·refine qS _ ?_
  simp at c1 ⊢
  omega
 have e5 : (List.zip (ts.map dU).dropLast (ts.map dU).tail).map (fun p => D.tup [p.1, p.2]) = (ts.dropLast.zip ts.tail).map fun p => D.tup [dU p.1, dU p.2] := by
  rw [← List.map_dropLast, ← List.map_tail, List.zip_map, List.map_map]
  rfl
 rw [e5]
 refine fD (it := ⟨_, always⟩) (ts.dropLast.zip ts.tail) (fun p => .tup [dU p.1, dU p.2]) (fun p => .bl (HT.lexLt [p.1.1, p.1.2.1] [p.2.1, p.2.2.1])) rfl trivial (fun p _ => ?_) ?_
 ·simp only [dP, aDM, aA9, b5, zY, ah, ae, reduceCtorEq]
 rw [A4 (ts.dropLast.zip ts.tail) fun p => HT.lexLt [p.1.1, p.1.2.1] [p.2.1, p.2.2.1]]
 have e6 : ((ts.map dU).map numsOf) = ts.map fun t => (t.1, t.2.1) := by
  rw [List.map_map]
  rfl
 rw [e6, ← IQ, ← List.map_dropLast, ← List.map_tail, List.zip_map, List.all_map] at hP
 exact hP
end
end Lb
namespace Lw
open PySem PySem.Spec PyProof.Rows L2 Pc Lb
open PySem.W (dataLe)
section
variable {us : List (Int × Int × Int)}
theorem aC2 {a b : Int × Int × Int} (h : a.1 < b.1 ∨ (a.1 = b.1 ∧ a.2.1 < b.2.1)) : HT.lexLt [a.1, a.2.1] [b.1, b.2.1] = true := by
 simp only [HT.lexLt_cons, HT.lexLt_nil_nil]
 rcases h with h | ⟨h1, h2⟩
 ·rw [if_neg (by omega)]; simpa using h
 ·rw [if_pos h1, if_neg (by omega)]; simpa using h2
end
theorem iN.less {w : W} {r c b b' : Nat} (d : iN w r c b) (h : b' ≤ b) : iN w r c b' := by
 obtain ⟨ne, cells, sm, a, h1, h2, h3, h4⟩ := d
 exact ⟨ne, cells, sm, a, h1, h2, h3, by omega⟩
def aCi (H n : Nat) (ds : List D) : Prop := ds.length = n ∧ ∀ d ∈ ds, ∃ ns : List Int, d = .tup (ns.map D.int) ∧ ns.length = H ∧ ∀ x ∈ ns, 1 ≤ x ∧ x ≤ 12
section
variable {w : W} {P : D → W → Prop} {r c b H n : Nat} {low : Int} {ds : List D}
theorem aBP (h : aCi H n ds) (n1 : 1 ≤ n) (n4 : n ≤ 4) (H1 : 1 ≤ H) (H6 : H ≤ 6) : mR (.tup ds) = true ∧ pE 6 (.tup ds) = true ∧ ∃ r0 rest, ds = .tup r0 :: rest ∧ r0.length = H := by
 obtain ⟨hl, he⟩ := h
 have wid : ∀ d ∈ ds, (iZ d).length = H := fun d hd => by
  obtain ⟨ns, rfl, h1, -⟩ := he d hd
  show (ns.map D.int).length = H
  rw [ak, h1]
 have six : ∀ d ∈ ds, E6 d = true := fun d hd => by
  obtain ⟨ns, rfl, h1, -⟩ := he d hd
  simp only [E6, ak, aq]
  omega
 have ok : ∀ d ∈ ds, pE 5 d = true := fun d hd => by
  obtain ⟨ns, rfl, h1, h2⟩ := he d hd
  simp only [pE, List.all_map, ar, aq, br, ak]
  refine ⟨fun x hx => ?_, by omega⟩
  have := h2 x hx
  simp only [Function.comp, pE, aq]
  omega
 have num : ∀ x ∈ ds.flatMap iZ, bM 1 12 x = true := fun x hx => by
  obtain ⟨d, hd, hx⟩ := List.mem_flatMap.mp hx
  obtain ⟨ns, rfl, -, h2⟩ := he d hd
  obtain ⟨y, hy, rfl⟩ := bz.mp (show x ∈ ns.map D.int from hx)
  have := h2 y hy
  simp only [bM, ar, aq]
  exact this
 obtain ⟨d0, rest, rfl⟩ : ∃ d0 rest, ds = d0 :: rest := by
  cases ds with
  | nil => simp at hl; omega
  | cons a l => exact ⟨a, l, rfl⟩
 obtain ⟨ns, e0, e1, -⟩ := he d0 (bf ..)
 have w0 := wid d0 (bf ..)
 refine ⟨?_, ?_, _, rest, by rw [e0], by rw [ak, e1]⟩
 ·simp only [mR, ar, aq, br, Bool.not_eq_true']
  refine ⟨⟨by omega, by omega⟩, six, ?_, fun d hd => ?_, num⟩
  ·show (iZ d0).isEmpty = false
   cases hh : iZ d0 with
   | nil => rw [hh] at w0; simp at w0; omega
   | cons => rfl
  ·show ((iZ d).length == (iZ d0).length) = true
   rw [wid d hd, w0]
   simp
 ·simp only [pE, ar, aq, br]
  exact ⟨ok, by omega⟩
end
def chB (c : Nat) : Bool := decide (32 ≤ c) && (decide (c < 127) && ((c != 34) && ((c != 39) && (c != 92))))
def aDZ (l : Nat) (x : Str) : Bool := x.cps.toList.all chB && decide (x.cps.size ≤ 60 + l)
mutual
def wtD : D → Nat
 | .str x => x.cps.size
 | .tup xs => wtDs xs
 | .lst xs => wtDs xs
 | .jL xs => wtDs xs
 | .qF xs => wtDs xs
 | .GX ks vs => wtDs ks + wtDs vs
 | _ => 0
def wtDs : List D → Nat
 | [] => 0
 | x :: xs => wtD x + 1 + wtDs xs
end
theorem aCn {c : Nat} (h : chB c = true) : c < 127 := by
 simp only [chB, ar, aq] at h
 exact h.2.1
mutual
def kE : PyData → Bool
 | .none => true
 | .bool _ => true
 | .int i => decide (i.natAbs < 10 ^ 40)
 | .str x => aDZ 55 x
 | .list xs => plainVs xs
 | .tuple xs => plainVs xs
 | .dict kvs => plainKv kvs
def plainVs : List PyData → Bool
 | [] => true
 | x :: xs => kE x && plainVs xs
def plainKv : List (PyData × PyData) → Bool
 | [] => true
 | (k, v) :: r => (kE k && kE v) && plainKv r
end
theorem WS : ((List.range 127).all fun c => (Builtin.Str.reprChar 34 c).all (fun x => decide (x < 0x110000)) && (Builtin.Str.reprChar 39 c).all (fun x => decide (x < 0x110000))) = true := by decide +kernel
theorem L9 {q c : Nat} (hq : q = 34 ∨ q = 39) (hc : c < 127) : ∀ x ∈ Builtin.Str.reprChar q c, x < 0x110000 := by
 have a := WS
 rw [br] at a
 have b := a c (List.mem_range.mpr hc)
 simp only [ar, br, aq] at b
 rcases hq with rfl | rfl
 ·exact b.1
 ·exact b.2
theorem MQ {x : Str} (h : x.cps.toList.all chB = true) : PyData.strOk (reprText x) = true := by
 have hq : reprQuote x = 34 ∨ reprQuote x = 39 := by
  unfold reprQuote
  split
  ·exact .inl rfl
  ·exact .inr rfl
 have key : ∀ (cs : List Nat) (acc : Array Nat), (∀ c ∈ cs, c < 127) → (∀ c ∈ acc.toList, c < 0x110000) → ∀ c ∈ (cs.foldl (fun out c => out ++ (Builtin.Str.reprChar (reprQuote x) c).toArray) acc).toList, c < 0x110000 := by
  intro cs
  induction cs with
  | nil => intro acc _ h2; exact h2
  | cons c cs ih =>
   intro acc h1 h2
   rw [List.foldl_cons]
   refine ih _ (fun y hy => h1 y (bp _ hy)) fun y hy => ?_
   rw [Array.toList_append] at hy
   rcases cf.mp hy with hy | hy
   ·exact h2 y hy
   ·exact L9 hq (h1 c (bf ..)) y (by simpa using hy)
 unfold PyData.strOk
 rw [Array.all_eq_true_iff_forall_mem]
 intro c hc
 unfold reprText at hc
 simp only at hc
 rw [Array.mem_push] at hc
 simp only [aq]
 rcases hc with hc | rfl
 ·rw [← Array.foldl_toList] at hc
  rw [br] at h
  exact key x.cps.toList #[reprQuote x] (fun y hy => aCn (h y hy)) (fun y hy => by
   have : y = reprQuote x := by simpa using hy
   rcases hq with q | q <;> (rw [this, q]; decide)) c (Array.mem_toList_iff.mpr hc)
 ·rcases hq with q | q <;> (rw [q]; decide)
mutual
theorem rJ : ∀ p : PyData, kE p = true → PyData.strOk p.shown = true
 | .none, _ => fQ _
 | .bool b, _ => by cases b <;> exact fQ _
 | .int i, _ => fQ _
 | .str x, h => by
  rw [kE] at h
  simp only [aDZ, ar] at h
  exact MQ h.1
 | .list xs, h => by
  rw [kE] at h
  show PyData.strOk (textFrom 0 "[" (PyData.shownAll xs) ++ "]") = true
  rw [gY, oU _ _ _ (fQ _) (plainVs_shown xs h), fQ]
  rfl
 | .tuple xs, h => by
  rw [kE] at h
  show PyData.strOk (tupleText (PyData.shownAll xs)) = true
  unfold tupleText
  rw [gY, gY, fQ, zH _ (fQ _) _ (plainVs_shown xs h)]
  split <;> rw [fQ] <;> rfl
 | .dict kvs, h => by
  rw [kE] at h
  show PyData.strOk (dictText (PyData.shownKv kvs)) = true
  unfold dictText
  rw [gY, gY, fQ, fQ, zH _ (fQ _) _ (plainKv_shown kvs h)]
  rfl
theorem plainVs_shown : ∀ ps : List PyData, plainVs ps = true → ∀ t ∈ PyData.shownAll ps, PyData.strOk t = true
 | [], _, t, ht => by simp [PyData.shownAll] at ht
 | p :: ps, h, t, ht => by
  simp only [plainVs, ar] at h
  simp only [PyData.shownAll, bh] at ht
  rcases ht with rfl | ht
  ·exact rJ p h.1
  ·exact plainVs_shown ps h.2 t ht
theorem plainKv_shown : ∀ ps : List (PyData × PyData), plainKv ps = true → ∀ t ∈ PyData.shownKv ps, PyData.strOk t = true
 | [], _, t, ht => by simp [PyData.shownKv] at ht
 | (k, v) :: ps, h, t, ht => by
  simp only [plainKv, ar] at h
  simp only [PyData.shownKv, bh] at ht
  rcases ht with rfl | ht
  ·rw [gY, gY, rJ k h.1.1, rJ v h.1.2, fQ]
   rfl
  ·exact plainKv_shown ps h.2 t ht
end
mutual
theorem wV : ∀ p : PyData, kE p = true → p.leavesShort 60 = true ∧ p.showable = true
 | .none, _ => by simp [PyData.leavesShort, PyData.showable]
 | .bool b, _ => by simp [PyData.leavesShort, PyData.showable]
 | .int i, h => by
  simp only [kE, aq] at h
  exact ⟨A5 h, zK h⟩
 | .str x, h => by
  simp only [kE, aDZ, ar, br] at h
  refine ⟨?_, by simp [PyData.showable]⟩
  simp only [PyData.leavesShort, br, aq]
  intro c hc
  have := aCn (h.1 c hc)
  omega
 | .list xs, h => by
  rw [kE] at h
  have := plainVs_all xs h
  simp only [PyData.leavesShort, PyData.showable]
  exact this
 | .tuple xs, h => by
  rw [kE] at h
  have := plainVs_all xs h
  simp only [PyData.leavesShort, PyData.showable]
  exact this
 | .dict kvs, h => by
  rw [kE] at h
  have := plainKv_all kvs h
  simp only [PyData.leavesShort, PyData.showable]
  exact this
theorem plainVs_all : ∀ p : List PyData, plainVs p = true → PyData.leavesShortAll 60 p = true ∧ PyData.showableAll p = true
 | [], _ => by simp [PyData.leavesShortAll, PyData.showableAll]
 | p :: ps, h => by
  simp only [plainVs, ar] at h
  obtain ⟨a1, a2⟩ := wV p h.1
  obtain ⟨b1, b2⟩ := plainVs_all ps h.2
  simp only [PyData.leavesShortAll, PyData.showableAll, a1, a2, b1, b2]
  simp
theorem plainKv_all : ∀ p : List (PyData × PyData), plainKv p = true → PyData.leavesShortKv 60 p = true ∧ PyData.showableKv p = true
 | [], _ => by simp [PyData.leavesShortKv, PyData.showableKv]
 | (k, v) :: ps, h => by
  simp only [plainKv, ar] at h
  obtain ⟨a1, a2⟩ := wV k h.1.1
  obtain ⟨c1, c2⟩ := wV v h.1.2
  obtain ⟨b1, b2⟩ := plainKv_all ps h.2
  simp only [PyData.leavesShortKv, PyData.showableKv, a1, a2, b1, b2, c1, c2]
  simp
end
mutual
theorem aCg {f : Nat → Option PyData} (hf : ∀ i, f i = none) : ∀ (d : D) {q : PyData}, d.gD f = some q → q.bulk = wtD d
 | .non, _, h => by simp only [D.gD, ai] at h; subst h; rfl
 | .bl _, _, h => by simp only [D.gD, ai] at h; subst h; rfl
 | .int _, _, h => by simp only [D.gD, ai] at h; subst h; rfl
 | .str _, _, h => by simp only [D.gD, ai] at h; subst h; rfl
 | .ty _, _, h => by simp [D.gD] at h
 | .con _, _, h => by simp [D.gD] at h
 | .GX _ _, _, h => by simp [D.gD] at h
 | .ref i, _, h => by
  simp only [D.gD, hf] at h
  cases h
 | .tup xs, _, h => by
  simp only [D.gD, ao] at h
  obtain ⟨ps, h1, rfl⟩ := h
  rw [PyData.bulk, wtD, wts_py hf xs h1]
 | .jL xs, _, h => by
  simp only [D.gD, ao] at h
  obtain ⟨ps, h1, rfl⟩ := h
  rw [PyData.bulk, wtD, wts_py hf xs h1]
 | .lst xs, _, h => by
  simp only [D.gD, ao] at h
  obtain ⟨ps, h1, rfl⟩ := h
  rw [PyData.bulk, wtD, wts_py hf xs h1]
 | .qF xs, _, h => by
  simp only [D.gD, ao] at h
  obtain ⟨ps, h1, rfl⟩ := h
  rw [PyData.bulk, wtD, wts_py hf xs h1]
theorem wts_py {f : Nat → Option PyData} (hf : ∀ i, f i = none) : ∀ (ds : List D) {qs : List PyData}, D.pysR f ds = some qs → PyData.bulkAll qs = wtDs ds
 | [], _, h => by simp only [D.pysR, ai] at h; subst h; rfl
 | d :: ds, _, h => by
  simp only [D.pysR] at h
  split at h
  ·rename_i p ps e1 e2
   cases h
   rw [PyData.bulkAll, wtDs, aCg hf d e1, wts_py hf ds e2]
  ·cases h
end
theorem c9.wt {n d : Nat} {x : D} (h : c9 n d x) : wtD x ≤ n := by
 obtain ⟨q, h1, _, h3, _⟩ := h.ex
 rw [← aCg (fun _ => rfl) x (h1 fun _ => none)]
 exact h3
section
variable {w : W} {P : D → W → Prop} {n : Nat} {d : D}
theorem aCR {i : Int} (h : i.natAbs < 10 ^ 40) : T (rE [.int i] w) P = P (.str (toString i : String)) w := by
 have l : i.natAbs.log2 < 1920 := by
  have := zK h
  simpa only [PyData.showable, aq] using this
 have : rE [.int i] w = .ok (.str (toString i : String)) w := by
  simp only [rE, if_pos l]
 rw [this, b5]
theorem aEA {xs : List D} {lo hi : Option Int} : iU (.tup xs) lo hi w = .ok (.tup (Pc.cutD xs lo hi)) w := rfl
end
def b8 (i : Int) : Str := (toString i : String)
def iP (x : Str) : Bool := x.cps.toList.all (fun c => decide (33 ≤ c) && decide (c < 127)) && decide (x.length ≤ 8)
def aCy (x : Str) : Bool := x.cps.toList.all fun c => decide (c ∈ ("0123456789" : Str).cps.toList)
theorem YH : ((List.range 21).all fun n => iP (b8 (n : Int)) && (aCy (b8 (n : Int)) && (decide (1 ≤ (b8 (n : Int)).length) && (decide ((b8 (n : Int)).length ≤ 2) && (intText? (b8 (n : Int)) == some (n : Int)))))) = true := by decide +kernel
structure aCB (i : Int) : Prop where
 word : iP (b8 i) = true
 ZN : aCy (b8 i) = true
 one : 1 ≤ (b8 i).length
 two : (b8 i).length ≤ 2
 back : intText? (b8 i) = some i
theorem X5 {i : Int} (h0 : 0 ≤ i) (h1 : i ≤ 20) : aCB i := by
 obtain ⟨n, rfl⟩ : ∃ n : Nat, i = (n : Int) := ⟨i.toNat, by omega⟩
 have a := YH
 rw [br] at a
 have b := a n (List.mem_range.mpr (by omega))
 simp only [ar, aq, beq_iff_eq] at b
 exact ⟨b.1, b.2.1, b.2.2.1, b.2.2.2.1, b.2.2.2.2⟩
def b6 (ws : List Str) : Str := Txt.join " " ws
def kP (ls : List (List Str)) : Str := Txt.join "\n" (ls.map b6)
theorem OL (y : Str) (ps : List Str) : TL.tl (Txt.join y ps) = TL.joinL (TL.tl y) (ps.map TL.tl) := by rw [TL.join_eq, TL.tl_join]
theorem IH {S : List Nat} {c : Nat} : ∀ {ps : List (List Nat)}, c ∈ TL.joinL S ps → c ∈ S ∨ ∃ p ∈ ps, c ∈ p
 | [], h => nomatch h
 | [p], h => .inr ⟨p, cc.mpr rfl, h⟩
 | p :: q :: r, h => by
  have h : c ∈ p ++ (S ++ TL.joinL S (q :: r)) := h
  rcases cf.mp h with h | h
  ·exact .inr ⟨p, bf .., h⟩
  ·rcases cf.mp h with h | h
   ·exact .inl h
   ·rcases IH h with h | ⟨z, hz, hc⟩
    ·exact .inl h
    ·exact .inr ⟨z, bp _ hz, hc⟩
theorem IK {S : List Nat} {k : Nat} : ∀ {ps : List (List Nat)}, (∀ p ∈ ps, p.length ≤ k) → (TL.joinL S ps).length ≤ (k + S.length) * ps.length
 | [], _ => av 0
 | [p], h => by
  have h1 := h p (cc.mpr rfl)
  show p.length ≤ (k + S.length) * 1
  omega
 | p :: q :: r, h => by
  have h1 := h p (bf ..)
  have h2 := IK (S := S) (k := k) fun z hz => h z (bp p hz)
  show (p ++ (S ++ TL.joinL S (q :: r))).length ≤ (k + S.length) * ((q :: r).length + 1)
  rw [Nat.mul_add, bw, bw]
  omega
theorem MC {y : Str} {ps : List Str} {c : Nat} (h : c ∈ (Txt.join y ps).cps.toList) : c ∈ y.cps.toList ∨ ∃ p ∈ ps, c ∈ p.cps.toList := by
 have h : c ∈ TL.tl (Txt.join y ps) := h
 rw [OL] at h
 rcases IH h with h | ⟨z, hz, hc⟩
 ·exact .inl h
 ·obtain ⟨p, hp, rfl⟩ := bz.mp hz
  exact .inr ⟨p, hp, hc⟩
theorem NQ {y : Str} {ps : List Str} {k : Nat} (h : ∀ p ∈ ps, p.length ≤ k) : (Txt.join y ps).length ≤ (k + y.length) * ps.length := by
 rw [TL.len_tl, OL, TL.len_tl y]
 have := IK (S := TL.tl y) (k := k) (ps := ps.map TL.tl) fun z hz => by
  obtain ⟨p, hp, rfl⟩ := bz.mp hz
  rw [← TL.len_tl]
  exact h p hp
 rwa [ak] at this
theorem S4 {ps : List Str} {k : Nat} (h : ∀ p ∈ ps, p.length ≤ k) : (ps.map (·.length)).sum ≤ k * ps.length := by
 induction ps with
 | nil => simp
 | cons p ps ih =>
  have h1 := h p (bf ..)
  have h2 := ih fun z hz => h z (bp _ hz)
  rw [List.map_cons, List.sum_cons, List.length_cons, Nat.mul_add]
  omega
theorem zP {x : Str} (h : iP x = true) : (∀ c ∈ x.cps.toList, 33 ≤ c ∧ c < 127) ∧ x.length ≤ 8 := by
 simp only [iP, ar, br, aq] at h
 exact h
theorem W7 : TL.tl (" " : Str) = 32 :: [] := by decide +kernel
theorem YX : TL.tl ("\n" : Str) = 10 :: [] := by decide +kernel
section
variable {ws : List Str} {ls : List (List Str)}
theorem SX (h : ∀ x ∈ ws, iP x = true) (hne : ws ≠ []) : Txt.split (b6 ws) " " = ws :=
 TL.split_join W7 (by decide +kernel) hne fun p hp hc => by
  have := (zP (h p hp)).1 32 hc
  omega
theorem P0 (h : ∀ x ∈ ws, iP x = true) : ∀ c ∈ (b6 ws).cps.toList, 32 ≤ c ∧ c < 127 := fun c hc => by
 rcases MC hc with hc | ⟨p, hp, hc⟩
 ·have e : c ∈ TL.tl (" " : Str) := hc
  rw [W7] at e
  rw [cc.mp e]
  omega
 ·have := (zP (h p hp)).1 c hc
  omega
theorem QH (h : ∀ x ∈ ws, iP x = true) : (b6 ws).length ≤ 9 * ws.length := by
 have := NQ (y := (" " : Str)) (k := 8) fun p hp => (zP (h p hp)).2
 rw [TL.len_tl (" " : Str), W7] at this
 exact this
structure mX (ls : List (List Str)) : Prop where
 w : ∀ ws ∈ ls, (∀ x ∈ ws, iP x = true) ∧ 1 ≤ ws.length ∧ ws.length ≤ 9
 l : ls.length ≤ 12
 ne : ls ≠ []
theorem mX.split (h : mX ls) : Txt.split (kP ls) "\n" = ls.map b6 :=
 TL.split_join YX (by decide +kernel) (by simpa using h.ne) fun p hp hc => by
  obtain ⟨ws, hw, rfl⟩ := bz.mp hp
  have := P0 (h.w ws hw).1 10 hc
  omega
theorem mX.low (h : mX ls) : ∀ c ∈ (kP ls).cps.toList, c < 127 := fun c hc => by
 rcases MC hc with hc | ⟨p, hp, hc⟩
 ·have e : c ∈ TL.tl ("\n" : Str) := hc
  rw [YX] at e
  rw [cc.mp e]
  omega
 ·obtain ⟨ws, hw, rfl⟩ := bz.mp hp
  exact (P0 (h.w ws hw).1 c hc).2
theorem mX.aBh (h : mX ls) : ∀ p ∈ ls.map b6, p.length ≤ 81 := fun p hp => by
 obtain ⟨ws, hw, rfl⟩ := bz.mp hp
 obtain ⟨h1, h2, h3⟩ := h.w ws hw
 have := QH h1
 omega
theorem mX.len (h : mX ls) : (kP ls).length ≤ 1000 := by
 have := NQ (y := ("\n" : Str)) (k := 81) h.aBh
 rw [TL.len_tl ("\n" : Str), YX, ak] at this
 have h1 := h.l
 have h2 : (kP ls).length ≤ 82 * ls.length := this
 omega
theorem XG {x : Str} (h : ∀ c ∈ x.cps.toList, c < 127) : PyData.strOk x = true := by
 unfold PyData.strOk
 rw [Array.all_eq_true_iff_forall_mem]
 intro c hc
 have := h c (by simpa using hc)
 simp only [aq]
 omega
theorem fZ {x : Str} (h : iP x = true) : PyData.strOk x = true := XG fun c hc => ((zP h).1 c hc).2
end
section
variable {w : W} {P : D → W → Prop} {PS : Sg → W → Prop} {n : Nat} {d : D} {σ : Sg}
theorem AK : ∀ ys : List Str, zT (ys.map D.str) = some ys
 | [] => rfl
 | y :: ys => by rw [List.map_cons, zT, AK ys]; rfl
theorem JP {a : Str} {ys : List Str} (h : ∀ p ∈ ys, p.length ≤ 100) (hl : ys.length ≤ 1000) (ha : a.length ≤ 10) : T (joinM (.str a) [.lst (ys.map D.str)] w) P = P (.str (Txt.join a ys)) w := by
 have e : (D.items w (.lst (ys.map D.str))).bind zT = some ys := by simp only [D.items, Option.bind_some, AK]
 have s1 := S4 h
 have s2 : ys.length * a.length ≤ 1000 * 10 := Nat.mul_le_mul hl ha
 have : joinM (.str a) [.lst (ys.map D.str)] w = .ok (.str (Txt.join a ys)) w := by
  simp only [joinM, e, if_pos (show (ys.map (·.length)).sum + ys.length * a.length ≤ 16777216 by omega)]
 rw [this, b5]
theorem aBx {a : Str} {ys : List Str} {q : Nat} (hq : w[q]? = some (.lst (ys.map D.str))) (h : ∀ p ∈ ys, p.length ≤ 100) (hl : ys.length ≤ 1000) (ha : a.length ≤ 10) : T (joinM (.str a) [.ref q] w) P = P (.str (Txt.join a ys)) w := by
 have e : (D.items w (.ref q)).bind zT = some ys := by simp only [D.items, hq, Option.bind_some, AK]
 have s1 := S4 h
 have s2 : ys.length * a.length ≤ 1000 * 10 := Nat.mul_le_mul hl ha
 have : joinM (.str a) [.ref q] w = .ok (.str (Txt.join a ys)) w := by
  simp only [joinM, e, if_pos (show (ys.map (·.length)).sum + ys.length * a.length ≤ 16777216 by omega)]
 rw [this, b5]
theorem C3 {a b : Str} (hb : (b.length == 0) = false) (ha : a.length ≤ 10000) : T (splitM (.str a) [.str b] w) P = P (.lst ((Txt.split a b).map D.str)) w := by
 have : splitM (.str a) [.str b] w = .ok (.lst ((Txt.split a b).map D.str)) w := by
  simp only [splitM]
  rw [if_pos ⟨hb, by rw [sizeLine_eq]; omega⟩]
 rw [this, b5]
theorem aB8 {i : Int} (h : aCB i) : T (HW [.str (b8 i)] w) P = P (.int i) w := by
 have h2 := h.two
 have : HW [.str (b8 i)] w = .ok (.int i) w := by
  simp only [HW, h.back, if_pos (show (b8 i).length ≤ 640 by omega)]
 rw [this, b5]
theorem W6 {i : Int} (h0 : 0 ≤ i) (h1 : i ≤ 20) : T (rE [.int i] w) P = P (.str (b8 i)) w := aCR (by omega)
theorem aD1 {a : Str} : T (rE [.str a] w) P = P (.str a) w := by unfold T; rfl
theorem aDc {c : Nat} {z : Str} : T (aBo (.str ⟨#[c]⟩) (.str z) w) P = P (.bl (decide (c ∈ z.cps.toList))) w := by unfold T; rfl
theorem aBL {r : NA} {xs : List D} (h1 : n ≤ xs.length) (h2 : xs.length ≤ 1000) : T (E3 n r (.lst xs) σ w) PS = T (r (xs.take n ++ [.lst (xs.drop n)]) σ w) PS := by
 unfold E3
 simp only []
 rw [if_pos ⟨h1, by rw [sizeLine_eq]; omega⟩]
end
end Lw
namespace K06
open PySem PySem.Spec PyProof.Rows L2 Pc
structure Fx (S : aR) where
 k : bN
 GF : S.mg ("all" : Str) = none
 RG : S.mg ("bool" : Str) = none
 BG : S.mg ("enumerate" : Str) = none
 S0 : S.mg ("int" : Str) = none
 eS : S.mg ("isinstance" : Str) = none
 iD : S.mg ("len" : Str) = none
 QO : S.mg ("list" : Str) = none
 aCo : S.mg ("max" : Str) = none
 vO : S.mg ("range" : Str) = none
 QT : S.mg ("repr" : Str) = none
 zJ : S.mg ("str" : Str) = none
 aCA : S.mg ("sum" : Str) = none
 iQ : S.mg ("tuple" : Str) = none
 X7 : S.mg ("zip" : Str) = none
 IT : OF S ("FIGURES" : Str) (.str ("0123456789" : Str))
 SQ : OF S ("HEAD" : Str) (.jL [(.str ("every" : Str)), (.str ("lost" : Str)), (.str ("slow" : Str)), (.str ("bears" : Str)), (.str ("gap" : Str)), (.str ("hold" : Str))])
 ID : OF S ("LONGEST" : Str) (.int 2)
 kW : OF S ("MOST_ADDRESSES" : Str) (.int 4)
 qA : OF S ("MOST_HOUSES" : Str) (.int 6)
 BC : OF S ("MOST_LESS" : Str) (.int 11)
 E8 : OF S ("MOST_TIE" : Str) (.int 9)
 u4 : OF S ("MOST_TIES" : Str) (.int 6)
 UW : OF S ("TOP" : Str) (.int 12)
 vC : OF S ("NUMBERS" : Str) (.con k.dS)
 vL : KTab S.K S.w k.dS dC
 K8 : OF S ("TAKES" : Str) (.con k.oY)
 K6 : KTab S.K S.w k.oY qT
 BB : S.mg ("NetError" : Str) = some (.ref k.n5)
 SO : OF S ("NetError" : Str) (.con k.n5)
 qZ : S.mg ("NoText" : Str) = some (.ref k.cM)
 W2 : OF S ("NoText" : Str) (.con k.cM)
 IW : S.mg ("Plan" : Str) = some (.ref k.aJ)
 aDm : OF S ("Plan" : Str) (.con k.aJ)
 cR : Cls S.K k.aJ
 m5 : NoAttr S.K k.aJ ("bears" : Str)
 nB : NoAttr S.K k.aJ ("every" : Str)
 sH : NoAttr S.K k.aJ ("gap" : Str)
 pL : NoAttr S.K k.aJ ("hold" : Str)
 nE : NoAttr S.K k.aJ ("hosts" : Str)
 pM : NoAttr S.K k.aJ ("lost" : Str)
 j5 : NoAttr S.K k.aJ ("ranks" : Str)
 o6 : NoAttr S.K k.aJ ("slow" : Str)
 nF : NoAttr S.K k.aJ ("takes" : Str)
 oV : NoAttr S.K k.aJ ("ties" : Str)
 E9 : S.mg ("Reading" : Str) = some (.ref k.aK)
 V6 : OF S ("Reading" : Str) (.con k.aK)
 bH : Cls S.K k.aK
 c6 : NoAttr S.K k.aK ("cords" : Str)
 gA : NoAttr S.K k.aK ("head" : Str)
 cL : NoAttr S.K k.aK ("rows" : Str)
 mK : Addr
 oX : FuncData
 uS : FunD S.K ("_law_deck" : Str) ("_law_deck" : Str) (defArgs (top 34)) (defBody (top 34)) (defScope (top 34)) [] [] mK oX
 BQ : S.mg ("_law_deck" : Str) = some (.ref mK)
 yX : PySem.W.keepIn S.K (.ref mK) = true
 lQ : Addr
 pQ : FuncData
 tW : FunD S.K ("_law_draw" : Str) ("_law_draw" : Str) (defArgs (top 35)) (defBody (top 35)) (defScope (top 35)) [] [] lQ pQ
 dX : S.mg ("_law_draw" : Str) = some (.ref lQ)
 cZ : PySem.W.keepIn S.K (.ref lQ) = true
 kD : Addr
 nG : FuncData
 rF : FunD S.K ("_law_great" : Str) ("_law_great" : Str) (defArgs (top 41)) (defBody (top 41)) (defScope (top 41)) [] [] kD nG
 z9 : S.mg ("_law_great" : Str) = some (.ref kD)
 vY : PySem.W.keepIn S.K (.ref kD) = true
 rH : Addr
 r7 : FuncData
 xT : FunD S.K ("__len__" : Str) ("Plan.__len__" : Str) (defArgs (inClass (top 24) 2)) (defBody (inClass (top 24) 2)) (defScope (inClass (top 24) 2)) [] [] rH r7
 GG : Meth S.K k.aJ ("__len__" : Str) rH
 nU : Addr
 rP : FuncData
 xK : FunD S.K ("in_words" : Str) ("in_words" : Str) (defArgs (top 23)) (defBody (top 23)) (defScope (top 23)) [] [] nU rP
 r4 : S.mg ("in_words" : Str) = some (.ref nU)
 o5 : PySem.W.keepIn S.K (.ref nU) = true
 sJ : Addr
 rQ : FuncData
 yB : FunD S.K ("__str__" : Str) ("Plan.__str__" : Str) (defArgs (inClass (top 24) 4)) (defBody (inClass (top 24) 4)) (defScope (inClass (top 24) 4)) [] [] sJ rQ
 xI : Meth S.K k.aJ ("__str__" : Str) sJ
 iO : Addr
 lM : FuncData
 pT : FunD S.K ("_law_fields" : Str) ("_law_fields" : Str) (defArgs (top 38)) (defBody (top 38)) (defScope (top 38)) [] [] iO lM
 lG : S.mg ("_law_fields" : Str) = some (.ref iO)
 jU : PySem.W.keepIn S.K (.ref iO) = true
 oL : Addr
 r8 : FuncData
 wR : FunD S.K ("is_whole" : Str) ("is_whole" : Str) (defArgs (top 17)) (defBody (top 17)) (defScope (top 17)) [] [] oL r8
 DO : S.mg ("is_whole" : Str) = some (.ref oL)
 BU : PySem.W.keepIn S.K (.ref oL) = true
 mB : Addr
 o8 : FuncData
 sZ : FunD S.K ("is_within" : Str) ("is_within" : Str) (defArgs (top 18)) (defBody (top 18)) (defScope (top 18)) [] [] mB o8
 jF : S.mg ("is_within" : Str) = some (.ref mB)
 hZ : PySem.W.keepIn S.K (.ref mB) = true
 lZ : Addr
 pF : FuncData
 u3 : FunD S.K ("are_ranks" : Str) ("are_ranks" : Str) (defArgs (top 19)) (defBody (top 19)) (defScope (top 19)) [] [] lZ pF
 BZ : S.mg ("are_ranks" : Str) = some (.ref lZ)
 zD : PySem.W.keepIn S.K (.ref lZ) = true
 qK : Addr
 zR : FuncData
 EI : FunD S.K ("is_tie" : Str) ("is_tie" : Str) (defArgs (top 20)) (defBody (top 20)) (defScope (top 20)) [] [] qK zR
 DF : S.mg ("is_tie" : Str) = some (.ref qK)
 AO : PySem.W.keepIn S.K (.ref qK) = true
 oH : Addr
 r5 : FuncData
 xH : FunD S.K ("are_ties" : Str) ("are_ties" : Str) (defArgs (top 21)) (defBody (top 21)) (defScope (top 21)) [] [] oH r5
 DU : S.mg ("are_ties" : Str) = some (.ref oH)
 BO : PySem.W.keepIn S.K (.ref oH) = true
 nV : Addr
 rS : FuncData
 xR : FunD S.K ("is_field" : Str) ("is_field" : Str) (defArgs (top 22)) (defBody (top 22)) (defScope (top 22)) [] [] nV rS
 DK : S.mg ("is_field" : Str) = some (.ref nV)
 BX : PySem.W.keepIn S.K (.ref nV) = true
 oW : Addr
 l9 : FuncData
 pI : FunD S.K ("__init__" : Str) ("Plan.__init__" : Str) (defArgs (inClass (top 24) 0)) (defBody (inClass (top 24) 0)) (defScope (inClass (top 24) 0)) [] [(("every" : Str), (.int 1)), (("lost" : Str), (.int 1)), (("slow" : Str), (.int 1)), (("bears" : Str), .non), (("gap" : Str), (.int 1)), (("hold" : Str), (.int 0)), (("takes" : Str), (.bl true)), (("ties" : Str), (.ref k.kU)), (("hosts" : Str), (.int 0))] oW l9
 RH : Mk S.K k.aJ oW
 mC : Addr
 pA : FuncData
 uB : FunD S.K ("_law_made" : Str) ("_law_made" : Str) (defArgs (top 37)) (defBody (top 37)) (defScope (top 37)) [] [] mC pA
 BN : S.mg ("_law_made" : Str) = some (.ref mC)
 yS : PySem.W.keepIn S.K (.ref mC) = true
 j3 : Addr
 j7 : FuncData
 oD : FunD S.K ("__init__" : Str) ("Reading.__init__" : Str) (defArgs (inClass (top 31) 0)) (defBody (inClass (top 31) 0)) (defScope (inClass (top 31) 0)) [] [] j3 j7
 HK : Mk S.K k.aK j3
 mJ : Addr
 o4 : FuncData
 tY : FunD S.K ("number_in" : Str) ("number_in" : Str) (defArgs (top 30)) (defBody (top 30)) (defScope (top 30)) [] [] mJ o4
 pN : S.mg ("number_in" : Str) = some (.ref mJ)
 nD : PySem.W.keepIn S.K (.ref mJ) = true
 fO : Addr
 fK : FuncData
 g0 : FunD S.K ("takes_head" : Str) ("Reading.takes_head" : Str) (defArgs (inClass (top 31) 2)) (defBody (inClass (top 31) 2)) (defScope (inClass (top 31) 2)) [] [] fO fK
 mI : Meth S.K k.aK ("takes_head" : Str) fO
 fB : Addr
 fC : FuncData
 gO : FunD S.K ("takes_ranks" : Str) ("Reading.takes_ranks" : Str) (defArgs (inClass (top 31) 3)) (defBody (inClass (top 31) 3)) (defScope (inClass (top 31) 3)) [] [] fB fC
 kO : Meth S.K k.aK ("takes_ranks" : Str) fB
 f9 : Addr
 f7 : FuncData
 iF : FunD S.K ("takes_tie" : Str) ("Reading.takes_tie" : Str) (defArgs (inClass (top 31) 4)) (defBody (inClass (top 31) 4)) (defScope (inClass (top 31) 4)) [] [] f9 f7
 mY : Meth S.K k.aK ("takes_tie" : Str) f9
 gQ : Addr
 gS : FuncData
 jS : FunD S.K ("goes_on" : Str) ("Reading.goes_on" : Str) (defArgs (inClass (top 31) 1)) (defBody (inClass (top 31) 1)) (defScope (inClass (top 31) 1)) [] [] gQ gS
 pO : Meth S.K k.aK ("goes_on" : Str) gQ
 jW : Addr
 jN : FuncData
 oJ : FunD S.K ("made" : Str) ("Reading.made" : Str) (defArgs (inClass (top 31) 5)) (defBody (inClass (top 31) 5)) (defScope (inClass (top 31) 5)) [] [] jW jN
 tR : Meth S.K k.aK ("made" : Str) jW
 lY : Addr
 o7 : FuncData
 tL : FunD S.K ("read_plan" : Str) ("read_plan" : Str) (defArgs (top 32)) (defBody (top 32)) (defScope (top 32)) [] [] lY o7
 pR : S.mg ("read_plan" : Str) = some (.ref lY)
 m4 : PySem.W.keepIn S.K (.ref lY) = true
 gW : Addr
 jV : FuncData
 oA : FunD S.K ("_law_refused" : Str) ("_law_refused" : Str) (defArgs (top 42)) (defBody (top 42)) (defScope (top 42)) [] [] gW jV
 jO : S.mg ("_law_refused" : Str) = some (.ref gW)
 iT : PySem.W.keepIn S.K (.ref gW) = true
 lV : Addr
 pG : FuncData
 tH : FunD S.K ("_law_text" : Str) ("_law_text" : Str) (defArgs (top 40)) (defBody (top 40)) (defScope (top 40)) [] [] lV pG
 BD : S.mg ("_law_text" : Str) = some (.ref lV)
 y6 : PySem.W.keepIn S.K (.ref lV) = true
 jY : Addr
 nC : FuncData
 rW : FunD S.K ("_law_right" : Str) ("_law_right" : Str) (defArgs (top 43)) (defBody (top 43)) (defScope (top 43)) [] [] jY nC
 yO : S.mg ("_law_right" : Str) = some (.ref jY)
 vX : PySem.W.keepIn S.K (.ref jY) = true
 HY : Addr
 TH : FuncData
 aCC : FunD S.K ("law" : Str) ("law" : Str) (defArgs (top 44)) (defBody (top 44)) (defScope (top 44)) [] [] HY TH
 aCt : S.mg ("law" : Str) = some (.ref HY)
 aEa : PySem.W.keepIn S.K (.ref HY) = true
 lI : Addr
 lO : FuncData
 pZ : FunD S.K ("__init__" : Str) ("NoText.__init__" : Str) (defArgs (inClass (top 9) 0)) (defBody (inClass (top 9) 0)) (defScope (inClass (top 9) 0)) [] [] lI lO
 qL : ExF S.K k.cM k.n5 lI ("line" : Str)
 sN : PySem.W.exmOne S.K (.ref k.cM) (.ref k.cM) = some true
theorem A7 {S : aR} (h : Fx S) : FnOk S.P S.w S.K S.mg S.base CXn 1 h.lI h.lO [("self" : Str), ("line" : Str)] (spX h.k.cM ("line" : Str)) := aBI h.qL h.pZ (bZ (by decide +kernel)) rfl rfl h.BB rfl (.inl rfl) (.inl rfl) rfl rfl (fun _ => rfl) (fun _ => rfl) (fun _ => rfl)
theorem AE {S : aR} (h : Fx S) : Binds S.K h.lO [("self" : Str), ("line" : Str)] [] := Z7 (L2.FunD.bindsA h.pZ fun _ _ _ _ _ _ us hl => match us, hl with
 | [_, _], _ => rfl)
def AV (k : bN) : List (Addr × Bool) := [(k.cM, true)]
theorem QK {S : aR} (h : Fx S) : ZZ S.K h.k.cM (AV h.k) := (aB0 h.sN aDd)
def gZ (k : bN) : List Addr := [k.cM]
theorem CN {S : aR} (h : Fx S) : ZC S.K (gZ h.k) ("line" : Str) := (aA7 h.qL aDA)
def tV : List Str := [("_law_script" : Str), ("_law_cells" : Str)]
def uX : List Str := [("_law_script" : Str)]
abbrev BH : Scope := defScope (top 34)
def B1 (k : bN) : MS :=
 (aH (aT (aQ D3 (aA (lE iU (aB 0) cJ (bX (eC (.int 63)))) aD)) (aU 1))
 (aZ (E7 (eE (eC (.str ("cells" : Str))) (aB 1) (eE (eC (.str ("at" : Str))) (eC (.int 0)) (eE (eC (.str ("sum" : Str))) (aC bQ (aC kL (aQ MK (aA (aB 1) aD)) (eC (.int 2147483629))) (aC mulM (eC (.int 17)) (aQ cY (aA (aB 1) aD)))) GR))))))
def tO (k : bN) : MF := bL (B1 k) tV
theorem IV : FnScope tV uX BH := bZ (by decide +kernel)
theorem JB {S : aR} (h : Fx S) : rN (S.body 0 tV BH) (defBody (top 34)) (B1 h.k) :=
 (aN (wF 1 (eK Y8 rfl h.QO rfl (aE (jE jI (jv 0) fA (dZ aL)) aG)))
 (a7 (bT (SI (iR bE (jv 1) (iR bE aL (iR bE (bK dA (bK xM (bD aEi rfl h.aCA rfl (aE (jv 1) aG)) aL) (bK A9 aL (bD fT rfl h.iD rfl (aE (jv 1) aG)))) SE)))))))
theorem K7 {S : aR} (h : Fx S) : fV S.P S.w S.K S.mg S.base 1 h.mK h.oX uX (tO h.k) := fV.of h.uS IV (JB h) fun _ _ _ => .kM
theorem LF {S : aR} (h : Fx S) : cO S.K h.oX uX 1 [] aP := bV h.uS fun _ _ _ _ _ _ us hl => match us, hl with
 | [_], _ => rfl
def tD : List Str := [("_law_deck_here" : Str), ("_law_bound" : Str), ("_law_at" : Str), ("_law_cells" : Str), ("_law_seed" : Str), ("_law_number" : Str)]
def tP : List Str := [("_law_deck_here" : Str), ("_law_bound" : Str)]
abbrev BA : Scope := defScope (top 35)
def BL (k : bN) : MS :=
 (aH (aT (aC bQ (aC aV (aB 0) (eC (.str ("at" : Str)))) (eC (.int 1))) (eO (aB 0) (eC (.str ("at" : Str)))))
 (aH (aT (aC aV (aB 0) (eC (.str ("at" : Str)))) (aU 2))
 (aH (aT (aC aV (aB 0) (eC (.str ("cells" : Str)))) (aU 3))
 (aH (aT (aC bQ (aC aV (aB 0) (eC (.str ("sum" : Str)))) (aB 2)) (aU 4))
 (aH (dW (bA (aC mQ (aB 3) (gT aD))) (aH (aT (b7 "list" AQ (aB 3) (aA (eC (.int 0)) aD)) (aU 4))
 (dW (bA (aC geM (aB 4) (aC QW (eC (.int 10)) (eC (.int 18))))) (aH (dE (b7 "list" vQ (aB 3) (aA (eC (.int 0)) (aA (aC wM (aB 4) (aB 1)) aD))))
 (aZ (aC kL (aB 4) (aB 1)))) aW)) aW)
 (aH (aT (aC kL (aC bQ (aC bQ (aC mulM (aC kL (aB 4) (eC (.int 2147483647))) (eC (.int 48271))) (aC mulM (aC mulM (eC (.int 69621)) (aB 2)) (aB 2))) (eC (.int 7919))) (eC (.int 2147483629))) (aU 5))
 (aH (aT (aC kL (aC mulM (aB 5) (aB 5)) (eC (.int 2147483587))) (aU 5))
 (aZ (aC kL (aC wM (aC kL (aC mulM (aB 5) (aC bQ (aB 5) (eC (.int 39373)))) (eC (.int 2147483563))) (eC (.int 64))) (aB 1))))))))))
def dB (k : bN) : MF := bL (BL k) tD
theorem KN : FnScope tD tP BA := bZ (by decide +kernel)
theorem K3 {S : aR} (h : Fx S) : rN (S.body 0 tD BA) (defBody (top 35)) (BL h.k) :=
 (aN (xP (bK dA (cE (jv 0) bE) aL) (QS (jv 0) bE))
 (aN (wF 2 (cE (jv 0) bE))
 (aN (wF 3 (cE (jv 0) bE))
 (aN (wF 4 (bK dA (cE (jv 0) bE) (jv 2)))
 (aN (gC (cX qO (jv 3) (dY aG)) (aN (wF 4 (eR PySem.F.plainAttrs_list PySem.F.slot_list_pop XQ (jv 3) (aE aL aG)))
 (a7 (gC (cX aEs (jv 4) (bK aCQ aL aL)) (aN (y5 (eR PySem.F.plainAttrs_list PySem.F.slot_list_insert U7 (jv 3) (aE aL (aE (bK UJ (jv 4) (jv 1)) aG))))
 (a7 (bT (bK xM (jv 4) (jv 1))))) cP))) cP)
 (aN (wF 5 (bK xM (bK dA (bK dA (bK A9 (bK xM (jv 4) aL) aL) (bK A9 (bK A9 aL (jv 2)) (jv 2))) aL) aL))
 (aN (wF 5 (bK xM (bK A9 (jv 5) (jv 5)) aL))
 (a7 (bT (bK xM (bK UJ (bK xM (bK A9 (jv 5) (bK dA (jv 5) aL)) aL) aL) (jv 1)))))))))))
theorem dI {S : aR} (h : Fx S) : fV S.P S.w S.K S.mg S.base 1 h.lQ h.pQ tP (dB h.k) := fV.of h.tW KN (K3 h) fun _ _ _ => .kM
theorem dN {S : aR} (h : Fx S) : cO S.K h.pQ tP 2 [] aP := bV h.tW fun _ _ _ _ _ _ us hl => match us, hl with
 | [_, _], _ => rfl
def m8 : List Str := [("_law_deck_here" : Str), ("_law_rows" : Str), ("_law_cords" : Str), ("_law_found" : Str), ("_law_a" : Str), ("_law_h" : Str)]
def rZ : List Str := [("_law_deck_here" : Str)]
abbrev zF : Scope := defScope (top 41)
def r9 (k : bN) : MS :=
 (aH (aT (aQ eU (aA (bR (eY mN (aA (eC (.int 4)) aD)) [4] (aU 4) bU (aQ eU (aA (bR (eY mN (aA (eC (.int 6)) aD)) [5] (aU 5) bU (aC aV (gT (aA (eC (.int 1)) (aA (eC (.int 12)) (aA (eC (.int 9)) (aA (eC (.int 10)) aD))))) (aM (dB k) 2 aP (aA (aB 0) (aA (eC (.int 4)) aD))))) aD))) aD)) (aU 1))
 (aH (aT (aQ eU (aA (bR (eY mN (aA (eC (.int 6)) aD)) [5] (aU 5) bU (bW (aA (aB 5) (aA (aC aV (gT (aA (eC (.int 0)) (aA (eC (.int 9)) aD))) (aM (dB k) 2 aP (aA (aB 0) (aA (eC (.int 2)) aD)))) (aA (aC aV (gT (aA (eC (.int 1)) (aA (eC (.int 11)) aD))) (aM (dB k) 2 aP (aA (aB 0) (aA (eC (.int 2)) aD)))) aD))))) aD)) (aU 2))
 (aH (aT (gT (aA (aB 1) (aA (aC aV (gT (aA (eC (.int 1)) (aA (eC (.int 5)) aD))) (aM (dB k) 2 aP (aA (aB 0) (aA (eC (.int 2)) aD)))) (aA (aC aV (gT (aA (eC (.int 0)) (aA (eC (.int 3)) aD))) (aM (dB k) 2 aP (aA (aB 0) (aA (eC (.int 2)) aD)))) (aA (aC aV (gT (aA (eC (.int 1)) (aA (eC (.int 4)) aD))) (aM (dB k) 2 aP (aA (aB 0) (aA (eC (.int 2)) aD)))) aD))))) (aU 3))
 (aH (aT (aC bQ (aB 3) (gT (aA (aC aV (gT (aA (eC (.int 0)) (aA (eC (.int 3)) aD))) (aM (dB k) 2 aP (aA (aB 0) (aA (eC (.int 2)) aD)))) (aA (aC aV (gT (aA (eC (.int 0)) (aA (eC (.int 3)) aD))) (aM (dB k) 2 aP (aA (aB 0) (aA (eC (.int 2)) aD)))) (aA (aC aV (gT (aA (eC (.int 0)) (aA (eC (.int 20)) aD))) (aM (dB k) 2 aP (aA (aB 0) (aA (eC (.int 2)) aD)))) aD))))) (aU 3))
 (aZ (aC bQ (aB 3) (gT (aA (aC fG (aM (dB k) 2 aP (aA (aB 0) (aA (eC (.int 2)) aD))) (eC (.int 1))) (aA (aB 2) (aA (aC aV (gT (aA (eC (.int 0)) (aA (eC (.int 4)) aD))) (aM (dB k) 2 aP (aA (aB 0) (aA (eC (.int 2)) aD)))) aD))))))))))
def m6 (k : bN) : MF := bL (r9 k) m8
theorem GQ : FnScope m8 rZ zF := bZ (by decide +kernel)
theorem G6 {S : aR} (h : Fx S) : rN (S.body 1 m8 zF) (defBody (top 41)) (r9 h.k) :=
 (aN (wF 1 (eK oG rfl h.iQ rfl (aE (eQ (own := [(("_law_a" : Str), 4)]) (q7 rfl h.vO (aE aL aG)) (by kernel_rfl) (EH 4) eG (eK oG rfl h.iQ rfl (aE (eQ (own := [(("_law_h" : Str), 5)]) (q7 rfl h.vO (aE aL aG)) (by kernel_rfl) (EH 5) eG (cE (dY (aE aL (aE aL (aE aL (aE aL aG))))) (bF (aa rfl) (dI h) (dN h) rfl h.dX h.cZ (aE (jv 0) (aE aL aG))))) aG))) aG)))
 (aN (wF 2 (eK oG rfl h.iQ rfl (aE (eQ (own := [(("_law_h" : Str), 5)]) (q7 rfl h.vO (aE aL aG)) (by kernel_rfl) (EH 5) eG (jT (aE (jv 5) (aE (cE (dY (aE aL (aE aL aG))) (bF (aa rfl) (dI h) (dN h) rfl h.dX h.cZ (aE (jv 0) (aE aL aG)))) (aE (cE (dY (aE aL (aE aL aG))) (bF (aa rfl) (dI h) (dN h) rfl h.dX h.cZ (aE (jv 0) (aE aL aG)))) aG))))) aG)))
 (aN (wF 3 (dY (aE (jv 1) (aE (cE (dY (aE aL (aE aL aG))) (bF (aa rfl) (dI h) (dN h) rfl h.dX h.cZ (aE (jv 0) (aE aL aG)))) (aE (cE (dY (aE aL (aE aL aG))) (bF (aa rfl) (dI h) (dN h) rfl h.dX h.cZ (aE (jv 0) (aE aL aG)))) (aE (cE (dY (aE aL (aE aL aG))) (bF (aa rfl) (dI h) (dN h) rfl h.dX h.cZ (aE (jv 0) (aE aL aG)))) aG))))))
 (aN (wF 3 (bK dA (jv 3) (dY (aE (cE (dY (aE aL (aE aL aG))) (bF (aa rfl) (dI h) (dN h) rfl h.dX h.cZ (aE (jv 0) (aE aL aG)))) (aE (cE (dY (aE aL (aE aL aG))) (bF (aa rfl) (dI h) (dN h) rfl h.dX h.cZ (aE (jv 0) (aE aL aG)))) (aE (cE (dY (aE aL (aE aL aG))) (bF (aa rfl) (dI h) (dN h) rfl h.dX h.cZ (aE (jv 0) (aE aL aG)))) aG))))))
 (a7 (bT (bK dA (jv 3) (dY (aE (nZ m2 (bF (aa rfl) (dI h) (dN h) rfl h.dX h.cZ (aE (jv 0) (aE aL aG))) aL) (aE (jv 2) (aE (cE (dY (aE aL (aE aL aG))) (bF (aa rfl) (dI h) (dN h) rfl h.dX h.cZ (aE (jv 0) (aE aL aG)))) aG)))))))))))
theorem G8 {S : aR} (h : Fx S) : fV S.P S.w S.K S.mg S.base 2 h.kD h.nG rZ (m6 h.k) := fV.of h.rF GQ (G6 h) fun _ _ _ => .kM
theorem HJ {S : aR} (h : Fx S) : cO S.K h.nG rZ 1 [] aP := bV h.rF fun _ _ _ _ _ _ us hl => match us, hl with
 | [_], _ => rfl
def kT : List Str := [("self" : Str)]
def xC : List Str := [("self" : Str)]
abbrev EW : Scope := defScope (inClass (top 24) 2)
def nY (k : bN) : MS :=
 (aZ (aQ cY (aA (aC aV (bG k.aJ ("ranks" : Str) (aB 0)) (eC (.int 0))) aD)))
def dO (k : bN) : MF := bL (nY k) kT
theorem OH : FnScope kT xC EW := bZ (by decide +kernel)
theorem NW {S : aR} (h : Fx S) : rN (S.body 0 kT EW) (defBody (inClass (top 24) 2)) (nY h.k) :=
 (a7 (bT (bD fT rfl h.iD rfl (aE (cE (cF h.cR h.j5 (jv 0)) aL) aG))))
theorem QA {S : aR} (h : Fx S) : fV S.P S.w S.K S.mg S.base 1 h.rH h.r7 xC (dO h.k) := fV.of h.xT OH (NW h) fun _ _ _ => .kM
theorem N9 {S : aR} (h : Fx S) : cO S.K h.r7 xC 1 [] aP := bV h.xT fun _ _ _ _ _ _ us hl => match us, hl with
 | [_], _ => rfl
def sD : List Str := [("some" : Str), ("one" : Str)]
def yA : List Str := [("some" : Str)]
abbrev DW : Scope := defScope (top 23)
def xQ (k : bN) : MS :=
 (aZ (b7 "str" joinM (eC (.str (" " : Str))) (aA (bR (eD (aB 0)) [1] (aU 1) bU (aQ rE (aA (aB 1) aD))) aD)))
def kR (k : bN) : MF := bL (xQ k) sD
theorem QE : FnScope sD yA DW := bZ (by decide +kernel)
theorem MN {S : aR} (h : Fx S) : rN (S.body 0 sD DW) (defBody (top 23)) (xQ h.k) :=
 (a7 (bT (eR PySem.F.plainAttrs_str PySem.F.slot_str_join j0 bE (aE (eQ (own := [(("one" : Str), 1)]) (iE (jv 0)) (by kernel_rfl) (EH 1) eG (eK AD rfl h.zJ rfl (aE (jv 1) aG))) aG))))
theorem uN {S : aR} (h : Fx S) : fV S.P S.w S.K S.mg S.base 1 h.nU h.rP yA (kR h.k) := fV.of h.xK QE (MN h) fun _ _ _ => .kM
theorem tT {S : aR} (h : Fx S) : cO S.K h.rP yA 1 [] aP := bV h.xK fun _ _ _ _ _ _ us hl => match us, hl with
 | [_], _ => rfl
def sG : List Str := [("self" : Str), ("numbers" : Str), ("lines" : Str), ("row" : Str), ("tie" : Str)]
def wW : List Str := [("self" : Str)]
abbrev FL : Scope := defScope (inClass (top 24) 4)
def xJ (k : bN) : MS :=
 (aH (aT (gT (aA (bG k.aJ ("every" : Str) (aB 0)) (aA (bG k.aJ ("lost" : Str) (aB 0)) (aA (bG k.aJ ("slow" : Str) (aB 0)) (aA (bG k.aJ ("bears" : Str) (aB 0)) (aA (bG k.aJ ("gap" : Str) (aB 0)) (aA (bG k.aJ ("hold" : Str) (aB 0)) aD))))))) (aU 1))
 (aH (aT (eNew (aA (aM (kR k) 1 aP (aA (aC bQ (aC bQ (gT (aA (eC (.str ("plan" : Str))) aD)) (aB 1)) (gT (aA (T3 (eP (bG k.aJ ("takes" : Str) (aB 0))) (eC (.str ("yes" : Str))) (eC (.str ("no" : Str)))) (aA (bG k.aJ ("hosts" : Str) (aB 0)) aD)))) aD)) aD)) (aU 2))
 (aH (dE (b7 "list" vJ (aB 2) (aA (bR (eD (bG k.aJ ("ranks" : Str) (aB 0))) [3] (aU 3) bU (aM (kR k) 1 aP (aA (aC bQ (bW (aA (eC (.str ("ranks" : Str))) aD)) (aB 3)) aD))) aD)))
 (aH (dE (b7 "list" vJ (aB 2) (aA (bR (eD (bG k.aJ ("ties" : Str) (aB 0))) [4] (aU 4) bU (aM (kR k) 1 aP (aA (aC bQ (bW (aA (eC (.str ("tie" : Str))) aD)) (aB 4)) aD))) aD)))
 (aZ (b7 "str" joinM (eC (.str ("\n" : Str))) (aA (aB 2) aD)))))))
def iY (k : bN) : MF := bL (xJ k) sG
theorem MX : FnScope sG wW FL := bZ (by decide +kernel)
theorem NH {S : aR} (h : Fx S) : rN (S.body 1 sG FL) (defBody (inClass (top 24) 4)) (xJ h.k) :=
 (aN (wF 1 (dY (aE (cF h.cR h.nB (jv 0)) (aE (cF h.cR h.pM (jv 0)) (aE (cF h.cR h.o6 (jv 0)) (aE (cF h.cR h.m5 (jv 0)) (aE (cF h.cR h.sH (jv 0)) (aE (cF h.cR h.pL (jv 0)) aG))))))))
 (aN (wF 2 (aC9 (aE (bF (aa rfl) (uN h) (tT h) rfl h.r4 h.o5 (aE (bK dA (bK dA (dY (aE bE aG)) (jv 1)) (dY (aE (NF (fP (cF h.cR h.nF (jv 0))) bE bE) (aE (cF h.cR h.nE (jv 0)) aG)))) aG)) aG)))
 (aN (y5 (eR PySem.F.plainAttrs_list PySem.F.slot_list_extend HQ (jv 2) (aE (eQ (own := [(("row" : Str), 3)]) (iE (cF h.cR h.j5 (jv 0))) (by kernel_rfl) (EH 3) eG (bF (aa rfl) (uN h) (tT h) rfl h.r4 h.o5 (aE (bK dA (jT (aE bE aG)) (jv 3)) aG))) aG)))
 (aN (y5 (eR PySem.F.plainAttrs_list PySem.F.slot_list_extend HQ (jv 2) (aE (eQ (own := [(("tie" : Str), 4)]) (iE (cF h.cR h.oV (jv 0))) (by kernel_rfl) (EH 4) eG (bF (aa rfl) (uN h) (tT h) rfl h.r4 h.o5 (aE (bK dA (jT (aE bE aG)) (jv 4)) aG))) aG)))
 (a7 (bT (eR PySem.F.plainAttrs_str PySem.F.slot_str_join j0 bE (aE (jv 2) aG))))))))
theorem B2 {S : aR} (h : Fx S) : fV S.P S.w S.K S.mg S.base 2 h.sJ h.rQ wW (iY h.k) := fV.of h.yB MX (NH h) fun _ _ _ => .kM
theorem BV {S : aR} (h : Fx S) : cO S.K h.rQ wW 1 [] aP := bV h.yB fun _ _ _ _ _ _ us hl => match us, hl with
 | [_], _ => rfl
def lJ : List Str := [("_law_plan_made" : Str), ("_law_found" : Str)]
def qC : List Str := [("_law_plan_made" : Str)]
abbrev vZ : Scope := defScope (top 38)
def qB (k : bN) : MS :=
 (aH (aT (gT (aA (bG k.aJ ("ranks" : Str) (aB 0)) (aA (bG k.aJ ("every" : Str) (aB 0)) (aA (bG k.aJ ("lost" : Str) (aB 0)) (aA (bG k.aJ ("slow" : Str) (aB 0)) (aA (bG k.aJ ("bears" : Str) (aB 0)) (aA (bG k.aJ ("gap" : Str) (aB 0)) aD))))))) (aU 1))
 (aZ (aQ eU (aA (aC bQ (aB 1) (gT (aA (bG k.aJ ("hold" : Str) (aB 0)) (aA (bG k.aJ ("takes" : Str) (aB 0)) (aA (bG k.aJ ("ties" : Str) (aB 0)) (aA (bG k.aJ ("hosts" : Str) (aB 0)) aD)))))) aD))))
def eI (k : bN) : MF := bL (qB k) lJ
theorem E5 : FnScope lJ qC vZ := bZ (by decide +kernel)
theorem FO {S : aR} (h : Fx S) : rN (S.body 0 lJ vZ) (defBody (top 38)) (qB h.k) :=
 (aN (wF 1 (dY (aE (cF h.cR h.j5 (jv 0)) (aE (cF h.cR h.nB (jv 0)) (aE (cF h.cR h.pM (jv 0)) (aE (cF h.cR h.o6 (jv 0)) (aE (cF h.cR h.m5 (jv 0)) (aE (cF h.cR h.sH (jv 0)) aG))))))))
 (a7 (bT (eK oG rfl h.iQ rfl (aE (bK dA (jv 1) (dY (aE (cF h.cR h.pL (jv 0)) (aE (cF h.cR h.nF (jv 0)) (aE (cF h.cR h.oV (jv 0)) (aE (cF h.cR h.nE (jv 0)) aG)))))) aG)))))
theorem nS {S : aR} (h : Fx S) : fV S.P S.w S.K S.mg S.base 1 h.iO h.lM qC (eI h.k) := fV.of h.pT E5 (FO h) fun _ _ _ => .kM
theorem nT {S : aR} (h : Fx S) : cO S.K h.lM qC 1 [] aP := bV h.pT fun _ _ _ _ _ _ us hl => match us, hl with
 | [_], _ => rfl
def kX : List Str := [("thing" : Str)]
def xZ : List Str := [("thing" : Str)]
abbrev DH : Scope := defScope (top 17)
def oP (k : bN) : MS :=
 (aZ (jM (aQ (mV m7) (aA (aB 0) (aA (eC (.ty "int")) aD))) (AF notM (aQ (mV m7) (aA (aB 0) (aA (eC (.ty "bool")) aD))))))
def jA (k : bN) : MF := bL (oP k) kX
theorem NM : FnScope kX xZ DH := bZ (by decide +kernel)
theorem P5 {S : aR} (h : Fx S) : rN (S.body 0 kX DH) (defBody (top 17)) (oP h.k) :=
 (a7 (bT (r6 (bD (tK pC) rfl h.eS rfl (aE (jv 0) (aE (uL rfl h.S0 rfl) aG))) (wZ (aCZ (bD (tK pC) rfl h.eS rfl (aE (jv 0) (aE (uL rfl h.RG rfl) aG))))))))
theorem OY {S : aR} (h : Fx S) : fV S.P S.w S.K S.mg S.base 1 h.oL h.r8 xZ (jA h.k) := fV.of h.wR NM (P5 h) fun _ _ _ => .kM
theorem OR {S : aR} (h : Fx S) : cO S.K h.r8 xZ 1 [] aP := bV h.wR fun _ _ _ _ _ _ us hl => match us, hl with
 | [_], _ => rfl
def jK : List Str := [("thing" : Str), ("least" : Str), ("most" : Str)]
def uZ : List Str := [("thing" : Str), ("least" : Str), ("most" : Str)]
abbrev CD : Scope := defScope (top 18)
def lP (k : bN) : MS :=
 (aZ (jM (aM (jA k) 1 aP (aA (aB 0) aD)) (UO G5 G5 (aB 1) (aB 0) (aB 2))))
def bJ (k : bN) : MF := bL (lP k) jK
theorem KI : FnScope jK uZ CD := bZ (by decide +kernel)
theorem J9 {S : aR} (h : Fx S) : rN (S.body 1 jK CD) (defBody (top 18)) (lP h.k) :=
 (a7 (bT (r6 (bF (aa rfl) (OY h) (OR h) rfl h.DO h.BU (aE (jv 0) aG)) (wZ (YR sW sW (jv 1) (jv 0) (jv 2))))))
theorem jR {S : aR} (h : Fx S) : fV S.P S.w S.K S.mg S.base 2 h.mB h.o8 uZ (bJ h.k) := fV.of h.sZ KI (J9 h) fun _ _ _ => .kM
theorem j9 {S : aR} (h : Fx S) : cO S.K h.o8 uZ 3 [] aP := bV h.sZ fun _ _ _ _ _ _ us hl => match us, hl with
 | [_, _, _], _ => rfl
def jB : List Str := [("thing" : Str), ("row" : Str), ("rank" : Str)]
def sY : List Str := [("thing" : Str)]
abbrev B3 : Scope := defScope (top 19)
def lW (k : bN) : MS :=
 (aH (dW (gH (cQ (eP (aQ (mV m7) (aA (aB 0) (aA (eC (.ty "tuple")) aD))))) (cQ (bA (UO G5 G5 (eC (.int 1)) (aQ cY (aA (aB 0) aD)) (eC (.int 4)))))) (aZ (eC (.bl false))) aW)
 (aH (dW (cQ (eP (aQ allM (aA (bR (eD (aB 0)) [1] (aU 1) bU (jM (aQ (mV m7) (aA (aB 1) (aA (eC (.ty "tuple")) aD))) (aC G5 (aQ cY (aA (aB 1) aD)) (eC (.int 6))))) aD)))) (aZ (eC (.bl false))) aW)
 (aH (dW (gH (bA (aC fG (aC aV (aB 0) (eC (.int 0))) (bW aD))) (cQ (eP (aQ allM (aA (bR (eD (aB 0)) [1] (aU 1) bU (aC fG (aQ cY (aA (aB 1) aD)) (aQ cY (aA (aC aV (aB 0) (eC (.int 0))) aD)))) aD))))) (aZ (eC (.bl false))) aW)
 (aZ (aQ allM (aA (FQ (eD (aB 0)) [1, 2] (aU 1) bU (eD (aB 1)) [2] (aU 2) bU (aM (bJ k) 3 aP (aA (aB 2) (aA (eC (.int 1)) (aA (eC (.int 12)) aD))))) aD))))))
def fH (k : bN) : MF := bL (lW k) jB
theorem JN : FnScope jB sY B3 := bZ (by decide +kernel)
theorem I7 {S : aR} (h : Fx S) : rN (S.body 2 jB B3) (defBody (top 19)) (lW h.k) :=
 (aN (gC (yQ (qU (iH (fP (bD (tK pC) rfl h.eS rfl (aE (jv 0) (aE (uL rfl h.iQ rfl) aG))))) (pY (iH (yP sW sW aL (bD fT rfl h.iD rfl (aE (jv 0) aG)) (jG h.kW)))))) (a7 (bT mF)) cP)
 (aN (gC (iH (fP (bD AS rfl h.GF rfl (aE (eQ (own := [(("row" : Str), 1)]) (iE (jv 0)) (by kernel_rfl) (EH 1) eG (r6 (bD (tK pC) rfl h.eS rfl (aE (jv 1) (aE (uL rfl h.iQ rfl) aG))) (wZ (nZ sW (bD fT rfl h.iD rfl (aE (jv 1) aG)) (jG h.qA))))) aG)))) (a7 (bT mF)) cP)
 (aN (gC (yQ (qU (cX m2 (cE (jv 0) aL) (jT aG)) (pY (iH (fP (bD AS rfl h.GF rfl (aE (eQ (own := [(("row" : Str), 1)]) (iE (jv 0)) (by kernel_rfl) (EH 1) eG (nZ m2 (bD fT rfl h.iD rfl (aE (jv 1) aG)) (bD fT rfl h.iD rfl (aE (cE (jv 0) aL) aG)))) aG))))))) (a7 (bT mF)) cP)
 (a7 (bT (bD AS rfl h.GF rfl (aE (YB (own := [(("row" : Str), 1), (("rank" : Str), 2)]) (vs1 := [2]) (iE (jv 0)) (by kernel_rfl) (EH 1) eG (iE (jv 1)) (EH 2) eG (bF (aa rfl) (jR h) (j9 h) rfl h.jF h.hZ (aE (jv 2) (aE aL (aE (jG h.UW) aG))))) aG)))))))
theorem IZ {S : aR} (h : Fx S) : fV S.P S.w S.K S.mg S.base 3 h.lZ h.pF sY (fH h.k) := fV.of h.u3 JN (I7 h) fun _ _ _ => .kM
theorem LJ {S : aR} (h : Fx S) : cO S.K h.pF sY 1 [] aP := bV h.u3 fun _ _ _ _ _ _ us hl => match us, hl with
 | [_], _ => rfl
def qQ : List Str := [("thing" : Str), ("houses" : Str), ("house" : Str), ("tie" : Str), ("less" : Str)]
def DL : List Str := [("thing" : Str), ("houses" : Str)]
abbrev NN : Scope := defScope (top 20)
def s9 (k : bN) : MS :=
 (aH (dW (gH (cQ (eP (aQ (mV m7) (aA (aB 0) (aA (eC (.ty "tuple")) aD))))) (bA (aC mQ (aQ cY (aA (aB 0) aD)) (eC (.int 3))))) (aZ (eC (.bl false))) aW)
 (aH (aT (aB 0) (bY 3 (aI (aU 2) (aI (aU 3) (aI (aU 4) bS)))))
 (aZ (jM (aM (bJ k) 3 aP (aA (aB 2) (aA (eC (.int 0)) (aA (aC mU (aB 1) (eC (.int 1))) aD)))) (jM (aM (bJ k) 3 aP (aA (aB 3) (aA (eC (.int 0)) (aA (eC (.int 9)) aD)))) (aM (bJ k) 3 aP (aA (aB 4) (aA (eC (.int 1)) (aA (eC (.int 11)) aD)))))))))
def jP (k : bN) : MF := bL (s9 k) qQ
theorem VA : FnScope qQ DL NN := bZ (by decide +kernel)
theorem VO {S : aR} (h : Fx S) : rN (S.body 2 qQ NN) (defBody (top 20)) (s9 h.k) :=
 (aN (gC (yQ (qU (iH (fP (bD (tK pC) rfl h.eS rfl (aE (jv 0) (aE (uL rfl h.iQ rfl) aG))))) (pY (cX qO (bD fT rfl h.iD rfl (aE (jv 0) aG)) aL)))) (a7 (bT mF)) cP)
 (aN (xP (jv 0) (AG (n := 3) (fN (QI 2) (fN (QI 3) (fN (QI 4) vE)))))
 (a7 (bT (r6 (bF (aa rfl) (jR h) (j9 h) rfl h.jF h.hZ (aE (jv 2) (aE aL (aE (bK ZO (jv 1) aL) aG)))) (r6 (bF (aa rfl) (jR h) (j9 h) rfl h.jF h.hZ (aE (jv 3) (aE aL (aE (jG h.E8) aG)))) (wZ (bF (aa rfl) (jR h) (j9 h) rfl h.jF h.hZ (aE (jv 4) (aE aL (aE (jG h.BC) aG)))))))))))
theorem IP {S : aR} (h : Fx S) : fV S.P S.w S.K S.mg S.base 3 h.qK h.zR DL (jP h.k) := fV.of h.EI VA (VO h) fun _ _ _ => .kM
theorem HR {S : aR} (h : Fx S) : cO S.K h.zR DL 2 [] aP := bV h.EI fun _ _ _ _ _ _ us hl => match us, hl with
 | [_, _], _ => rfl
def lB : List Str := [("thing" : Str), ("houses" : Str), ("one" : Str), ("other" : Str)]
def xS : List Str := [("thing" : Str), ("houses" : Str)]
abbrev GB : Scope := defScope (top 21)
def nX (k : bN) : MS :=
 (aH (dW (gH (cQ (eP (aQ (mV m7) (aA (aB 0) (aA (eC (.ty "tuple")) aD))))) (gH (bA (aC II (aQ cY (aA (aB 0) aD)) (eC (.int 6)))) (cQ (eP (aQ allM (aA (bR (eD (aB 0)) [2] (aU 2) bU (aM (jP k) 2 aP (aA (aB 2) (aA (aB 1) aD)))) aD)))))) (aZ (eC (.bl false))) aW)
 (aZ (aQ allM (aA (bR (eY zsM (aA (lE iU (aB 0) cJ (bX (AF tX (eC (.int 1))))) (aA (lE iU (aB 0) (bX (eC (.int 1))) cJ) aD))) [2, 3] (bY 2 (aI (aU 2) (aI (aU 3) bS))) bU (aC TJ (lE iU (aB 2) cJ (bX (eC (.int 2)))) (lE iU (aB 3) cJ (bX (eC (.int 2)))))) aD))))
def kZ (k : bN) : MF := bL (nX k) lB
theorem PH : FnScope lB xS GB := bZ (by decide +kernel)
theorem O0 {S : aR} (h : Fx S) : rN (S.body 3 lB GB) (defBody (top 21)) (nX h.k) :=
 (aN (gC (yQ (qU (iH (fP (bD (tK pC) rfl h.eS rfl (aE (jv 0) (aE (uL rfl h.iQ rfl) aG))))) (qU (cX aCE (bD fT rfl h.iD rfl (aE (jv 0) aG)) (jG h.u4)) (pY (iH (fP (bD AS rfl h.GF rfl (aE (eQ (own := [(("one" : Str), 2)]) (iE (jv 0)) (by kernel_rfl) (EH 2) eG (bF (aa rfl) (IP h) (HR h) rfl h.DF h.AO (aE (jv 2) (aE (jv 1) aG)))) aG)))))))) (a7 (bT mF)) cP)
 (a7 (bT (bD AS rfl h.GF rfl (aE (eQ (own := [(("one" : Str), 2), (("other" : Str), 3)]) (aE2 rfl h.X7 (aE (jE jI (jv 0) fA (dZ (IU AA aL))) (aE (jE jI (jv 0) (dZ aL) fA) aG))) (by kernel_rfl) (aDg (n := 2) (P2 (EH 2) (P2 (EH 3) aBN))) eG (nZ aFp (jE jI (jv 2) fA (dZ aL)) (jE jI (jv 3) fA (dZ aL)))) aG)))))
theorem MJ {S : aR} (h : Fx S) : fV S.P S.w S.K S.mg S.base 4 h.oH h.r5 xS (kZ h.k) := fV.of h.xH PH (O0 h) fun _ _ _ => .kM
theorem NP {S : aR} (h : Fx S) : cO S.K h.r5 xS 2 [] aP := bV h.xH fun _ _ _ _ _ _ us hl => match us, hl with
 | [_, _], _ => rfl
def lC : List Str := [("name" : Str), ("thing" : Str), ("houses" : Str), ("least" : Str), ("most" : Str)]
def xF : List Str := [("name" : Str), ("thing" : Str), ("houses" : Str)]
abbrev FI : Scope := defScope (top 22)
def i9 (k : bN) : MS :=
 (aH (dW (bA (aC (VH k.dS dC) (aB 0) (eC (.con k.dS)))) (aH (aT (aC (LX k.dS dC) (eC (.con k.dS)) (aB 0)) (bY 2 (aI (aU 3) (aI (aU 4) bS))))
 (aZ (aM (bJ k) 3 aP (aA (aB 1) (aA (aB 3) (aA (aB 4) aD)))))) aW)
 (aH (dW (bA (aC fG (aB 0) (eC (.str ("takes" : Str))))) (aZ (aQ (mV m7) (aA (aB 1) (aA (eC (.ty "bool")) aD)))) aW)
 (aZ (aM (kZ k) 2 aP (aA (aB 1) (aA (aB 2) aD))))))
def eB (k : bN) : MF := bL (i9 k) lC
theorem NK : FnScope lC xF FI := bZ (by decide +kernel)
theorem MD {S : aR} (h : Fx S) : rN (S.body 4 lC FI) (defBody (top 22)) (i9 h.k) :=
 (aN (gC (cX (aEg h.vL) (jv 0) (jG h.vC)) (aN (xP (QU h.vL (jG h.vC) (jv 0)) (AG (n := 2) (fN (QI 3) (fN (QI 4) vE))))
 (a7 (bT (bF (aa rfl) (jR h) (j9 h) rfl h.jF h.hZ (aE (jv 1) (aE (jv 3) (aE (jv 4) aG))))))) cP)
 (aN (gC (cX m2 (jv 0) bE) (a7 (bT (bD (tK pC) rfl h.eS rfl (aE (jv 1) (aE (uL rfl h.RG rfl) aG))))) cP)
 (a7 (bT (bF (aa rfl) (MJ h) (NP h) rfl h.DU h.BO (aE (jv 1) (aE (jv 2) aG)))))))
theorem P6 {S : aR} (h : Fx S) : fV S.P S.w S.K S.mg S.base 5 h.nV h.rS xF (eB h.k) := fV.of h.xR NK (MD h) fun _ _ _ => .kM
theorem P7 {S : aR} (h : Fx S) : cO S.K h.rS xF 3 [] aP := bV h.xR fun _ _ _ _ _ _ us hl => match us, hl with
 | [_, _, _], _ => rfl
def fJ : List Str := [("self" : Str), ("ranks" : Str), ("every" : Str), ("lost" : Str), ("slow" : Str), ("bears" : Str), ("gap" : Str), ("hold" : Str), ("takes" : Str), ("ties" : Str), ("hosts" : Str), ("borne" : Str), ("told" : Str), ("name" : Str), ("thing" : Str)]
def pB : List Str := [("self" : Str), ("ranks" : Str), ("every" : Str), ("lost" : Str), ("slow" : Str), ("bears" : Str), ("gap" : Str), ("hold" : Str), ("takes" : Str), ("ties" : Str), ("hosts" : Str)]
abbrev BW : Scope := defScope (inClass (top 24) 0)
def l3 (k : bN) : MS :=
 (aH (dW (cQ (eP (aM (fH k) 1 aP (aA (aB 1) aD)))) KS aW)
 (aH (aT (T3 (bA (aC isM (aB 5) (eC .non))) (aB 3) (aB 5)) (aU 11))
 (aH (aT (E7 (eE (eC (.str ("every" : Str))) (aB 2) (eE (eC (.str ("lost" : Str))) (aB 3) (eE (eC (.str ("slow" : Str))) (aB 4) (eE (eC (.str ("bears" : Str))) (aB 11) (eE (eC (.str ("gap" : Str))) (aB 6) (eE (eC (.str ("hold" : Str))) (aB 7) (eE (eC (.str ("takes" : Str))) (aB 8) GR)))))))) (aU 12))
 (aH (dE (b7 "dict" RC (aB 12) (aA (E7 (eE (eC (.str ("ties" : Str))) (aB 9) (eE (eC (.str ("hosts" : Str))) (aB 10) GR))) aD)))
 (aH (gM (vG (aB 12)) (bY 2 (aI (aU 13) (aI (aU 14) bS))) (dW (cQ (eP (aM (eB k) 3 aP (aA (aB 13) (aA (aB 14) (aA (aQ cY (aA (aC aV (aB 1) (eC (.int 0))) aD)) aD)))))) KS aW))
 (aH (cI k.aJ ("ranks" : Str) (aB 0) (aB 1))
 (aH (cI k.aJ ("every" : Str) (aB 0) (aB 2))
 (aH (cI k.aJ ("lost" : Str) (aB 0) (aB 3))
 (aH (cI k.aJ ("slow" : Str) (aB 0) (aB 4))
 (aH (cI k.aJ ("bears" : Str) (aB 0) (aB 11))
 (aH (cI k.aJ ("gap" : Str) (aB 0) (aB 6))
 (aH (cI k.aJ ("hold" : Str) (aB 0) (aB 7))
 (aH (cI k.aJ ("takes" : Str) (aB 0) (aB 8))
 (aH (cI k.aJ ("ties" : Str) (aB 0) (aB 9))
 (cI k.aJ ("hosts" : Str) (aB 0) (aB 10))))))))))))))))
def gE (k : bN) : MF := bL (l3 k) fJ
theorem JL : FnScope fJ pB BW := bZ (by decide +kernel)
theorem LD {S : aR} (h : Fx S) : rN (S.body 5 fJ BW) (defBody (inClass (top 24) 0)) (l3 h.k) :=
 (aN (gC (iH (fP (bF (aa rfl) (IZ h) (LJ h) rfl h.BZ h.zD (aE (jv 1) aG)))) (a7 aAe) cP)
 (aN (wF 11 (NF (cX ZE (jv 5) qE) (jv 3) (jv 5)))
 (aN (wF 12 (SI (iR bE (jv 2) (iR bE (jv 3) (iR bE (jv 4) (iR bE (jv 11) (iR bE (jv 6) (iR bE (jv 7) (iR bE (jv 8) SE)))))))))
 (aN (y5 (eR PySem.F.plainAttrs_dict PySem.F.slot_dict_update VJ (jv 12) (aE (SI (iR bE (jv 9) (iR bE (jv 10) SE))) aG)))
 (aN (LN (ZK (jv 12)) (AG (n := 2) (fN (QI 13) (fN (QI 14) vE))) (a7 (gC (iH (fP (bF (aa rfl) (P6 h) (P7 h) rfl h.DK h.BX (aE (jv 13) (aE (jv 14) (aE (bD fT rfl h.iD rfl (aE (cE (jv 1) aL) aG)) aG)))))) (a7 aAe) cP)))
 (aN (dQ h.cR h.j5 (jv 0) (jv 1))
 (aN (dQ h.cR h.nB (jv 0) (jv 2))
 (aN (dQ h.cR h.pM (jv 0) (jv 3))
 (aN (dQ h.cR h.o6 (jv 0) (jv 4))
 (aN (dQ h.cR h.m5 (jv 0) (jv 11))
 (aN (dQ h.cR h.sH (jv 0) (jv 6))
 (aN (dQ h.cR h.pL (jv 0) (jv 7))
 (aN (dQ h.cR h.nF (jv 0) (jv 8))
 (aN (dQ h.cR h.oV (jv 0) (jv 9))
 (a7 (dQ h.cR h.nE (jv 0) (jv 10)))))))))))))))))
theorem zI {S : aR} (h : Fx S) : fV S.P S.w S.K S.mg S.base 6 h.oW h.l9 pB (gE h.k) := fV.of h.pI JL (LD h) fun _ _ _ => .kM
abbrev aO (k : bN) : List D → List D → List D := fun xs zs => mE [(0, 0), (0, 1), (1, 0), (1, 1), (1, 2), (1, 3), (1, 4), (1, 5), (1, 6), (1, 7), (1, 8)] xs zs []
theorem dH {S : aR} (h : Fx S) : cO S.K h.l9 pB 2 [("every" : Str), ("lost" : Str), ("slow" : Str), ("bears" : Str), ("gap" : Str), ("hold" : Str), ("takes" : Str), ("ties" : Str), ("hosts" : Str)] (aO h.k) := NV h.pI 2 _ [] _ _ (by simp) (by simp) (fun I F => by simp [RepL]) (fun _ _ _ _ _ _ us mv ws h1 h2 h3 => match us, mv, ws, h1, h2, h3 with
 | [_, _], [], [_, _, _, _, _, _, _, _, _], _, _, _ => rfl) fun xs zs h1 h2 => match xs, zs, h1, h2 with
 | [_, _], [_, _, _, _, _, _, _, _, _], _, _ => rfl
abbrev a9 (k : bN) : List D → List D → List D := fun xs zs => mE [(0, 0), (0, 1), (1, 8), (1, 7), (1, 6), (1, 5), (1, 4), (1, 3), (1, 2), (1, 1), (1, 0)] xs zs []
theorem dM {S : aR} (h : Fx S) : cO S.K h.l9 pB 2 [("hosts" : Str), ("ties" : Str), ("takes" : Str), ("hold" : Str), ("gap" : Str), ("bears" : Str), ("slow" : Str), ("lost" : Str), ("every" : Str)] (a9 h.k) := NV h.pI 2 _ [] _ _ (by simp) (by simp) (fun I F => by simp [RepL]) (fun _ _ _ _ _ _ us mv ws h1 h2 h3 => match us, mv, ws, h1, h2, h3 with
 | [_, _], [], [_, _, _, _, _, _, _, _, _], _, _, _ => rfl) fun xs zs h1 h2 => match xs, zs, h1, h2 with
 | [_, _], [_, _, _, _, _, _, _, _, _], _, _ => rfl
def jH : List Str := [("_law_told" : Str)]
def u9 : List Str := [("_law_told" : Str)]
abbrev BS : Scope := defScope (top 37)
def lU (k : bN) : MS :=
 (aZ (xW k.aJ (gE k) 1 9 (a9 k) (aA (aC aV (aB 0) (eC (.int 0))) aD) (aA (aC aV (aB 0) (eC (.int 9))) (aA (aC aV (aB 0) (eC (.int 8))) (aA (aC aV (aB 0) (eC (.int 7))) (aA (aC aV (aB 0) (eC (.int 6))) (aA (aC aV (aB 0) (eC (.int 5))) (aA (aC aV (aB 0) (eC (.int 4))) (aA (aC aV (aB 0) (eC (.int 3))) (aA (aC aV (aB 0) (eC (.int 2))) (aA (aC aV (aB 0) (eC (.int 1))) aD)))))))))))
def jD (k : bN) : MF := bL (lU k) jH
theorem K9 : FnScope jH u9 BS := bZ (by decide +kernel)
theorem LV {S : aR} (h : Fx S) : rN (S.body 7 jH BS) (defBody (top 37)) (lU h.k) :=
 (a7 (bT (jmk (aa rfl) h.RH (zI h) (dM h) rfl h.IW (aE (cE (jv 0) aL) aG) (fF (cE (jv 0) aL) (fF (cE (jv 0) aL) (fF (cE (jv 0) aL) (fF (cE (jv 0) aL) (fF (cE (jv 0) aL) (fF (cE (jv 0) aL) (fF (cE (jv 0) aL) (fF (cE (jv 0) aL) (fF (cE (jv 0) aL) ZD))))))))))))
theorem KD {S : aR} (h : Fx S) : fV S.P S.w S.K S.mg S.base 8 h.mC h.pA u9 (jD h.k) := fV.of h.uB K9 (LV h) fun _ _ _ => .kM
theorem I0 {S : aR} (h : Fx S) : cO S.K h.pA u9 1 [] aP := bV h.uB fun _ _ _ _ _ _ us hl => match us, hl with
 | [_], _ => rfl
def kB : List Str := [("self" : Str)]
def oN : List Str := [("self" : Str)]
abbrev t9 : Scope := defScope (inClass (top 31) 0)
def oE (k : bN) : MS :=
 (aH (cI k.aK ("head" : Str) (aB 0) (eC .non))
 (aH (cI k.aK ("rows" : Str) (aB 0) (bW aD))
 (cI k.aK ("cords" : Str) (aB 0) (bW aD))))
def kJ (k : bN) : MF := bL (oE k) kB
theorem CS : FnScope kB oN t9 := bZ (by decide +kernel)
theorem CM {S : aR} (h : Fx S) : rN (S.body 0 kB t9) (defBody (inClass (top 31) 0)) (oE h.k) :=
 (aN (dQ h.bH h.gA (jv 0) qE)
 (aN (dQ h.bH h.cL (jv 0) (jT aG))
 (a7 (dQ h.bH h.c6 (jv 0) (jT aG)))))
theorem CK {S : aR} (h : Fx S) : fV S.P S.w S.K S.mg S.base 1 h.j3 h.j7 oN (kJ h.k) := fV.of h.oD CS (CM h) fun _ _ _ => .kM
theorem CQ {S : aR} (h : Fx S) : cO S.K h.j7 oN 1 [] aP := bV h.oD fun _ _ _ _ _ _ us hl => match us, hl with
 | [_], _ => rfl
def oR : List Str := [("word" : Str), ("least" : Str), ("most" : Str), ("number" : Str), ("sign" : Str)]
def tZ : List Str := [("word" : Str), ("least" : Str), ("most" : Str)]
abbrev BY : Scope := defScope (top 30)
def tN (k : bN) : MS :=
 (aH (dW (gH (cQ (bA (UO G5 G5 (eC (.int 1)) (aQ cY (aA (aB 0) aD)) (eC (.int 2))))) (cQ (eP (aQ allM (aA (bR (aBX (aB 0)) [4] (aU 4) bU (aC aBo (aB 4) (eC (.str ("0123456789" : Str))))) aD))))) (aZ (eC .non)) aW)
 (aH (aT (aQ HW (aA (aB 0) aD)) (aU 3))
 (aZ (T3 (gI (bA (aC fG (aQ rE (aA (aB 3) aD)) (aB 0))) (bA (UO G5 G5 (aB 1) (aB 3) (aB 2)))) (aB 3) (eC .non)))))
def jC (k : bN) : MF := bL (tN k) oR
theorem KC : FnScope oR tZ BY := bZ (by decide +kernel)
theorem LY {S : aR} (h : Fx S) : rN (S.body 0 oR BY) (defBody (top 30)) (tN h.k) :=
 (aN (gC (yQ (qU (iH (yP sW sW aL (bD fT rfl h.iD rfl (aE (jv 0) aG)) (jG h.ID))) (pY (iH (fP (bD AS rfl h.GF rfl (aE (eQ (own := [(("sign" : Str), 4)]) (aCW (jv 0)) (by kernel_rfl) (EH 4) eG (nZ aEm (jv 4) (jG h.IT))) aG))))))) (a7 (bT qE)) cP)
 (aN (wF 3 (eK aBr rfl h.S0 rfl (aE (jv 0) aG)))
 (a7 (bT (NF (yQ (KP (cX m2 (eK AD rfl h.zJ rfl (aE (jv 3) aG)) (jv 0)) (C5 (yP sW sW (jv 1) (jv 3) (jv 2))))) (jv 3) qE)))))
theorem rG {S : aR} (h : Fx S) : fV S.P S.w S.K S.mg S.base 1 h.mJ h.o4 tZ (jC h.k) := fV.of h.tY KC (LY h) fun _ _ _ => .kM
theorem rM {S : aR} (h : Fx S) : cO S.K h.o4 tZ 3 [] aP := bV h.tY fun _ _ _ _ _ _ us hl => match us, hl with
 | [_, _, _], _ => rfl
def fM : List Str := [("self" : Str), ("words" : Str), ("found" : Str), ("name" : Str), ("word" : Str), ("least" : Str), ("most" : Str)]
def hE : List Str := [("self" : Str), ("words" : Str)]
abbrev lX : Scope := defScope (inClass (top 31) 2)
def g9 (k : bN) : MS :=
 (aH (dW (gH (bA (aC mQ (aQ cY (aA (aB 1) aD)) (aC bQ (aQ cY (aA (eC (.jL [(.str ("every" : Str)), (.str ("lost" : Str)), (.str ("slow" : Str)), (.str ("bears" : Str)), (.str ("gap" : Str)), (.str ("hold" : Str))])) aD)) (eC (.int 2))))) (bA (aC (zE k.oY qT) (aC aV (aB 1) (AF tX (eC (.int 2)))) (eC (.con k.oY))))) (aZ (eC (.bl false))) aW)
 (aH (aT S7 (aU 2))
 (aH (gM (eY zmM (aA (aC FG (eC (.jL [(.str ("every" : Str)), (.str ("lost" : Str)), (.str ("slow" : Str)), (.str ("bears" : Str)), (.str ("gap" : Str)), (.str ("hold" : Str))])) (bW (aA (eC (.str ("hosts" : Str))) aD))) (aA (aC bQ (lE iU (aB 1) cJ (bX (AF tX (eC (.int 2))))) (lE iU (aB 1) (bX (AF tX (eC (.int 1)))) cJ)) aD))) (bY 2 (aI (aU 3) (aI (aU 4) bS))) (aH (aT (aC (LX k.dS dC) (eC (.con k.dS)) (aB 3)) (bY 2 (aI (aU 5) (aI (aU 6) bS))))
 (aT (aM (jC k) 3 aP (aA (aB 4) (aA (aB 5) (aA (aB 6) aD)))) (eO (aB 2) (aB 3)))))
 (aH (dW (bA (aC M5 (eC .non) (AF A8 (aB 2)))) (aZ (eC (.bl false))) aW)
 (aH (cI k.aK ("head" : Str) (aB 0) (aB 2))
 (aH (aT (aC (LX k.oY qT) (eC (.con k.oY)) (aC aV (aB 1) (AF tX (eC (.int 2))))) (eO (bG k.aK ("head" : Str) (aB 0)) (eC (.str ("takes" : Str)))))
 (aZ (eC (.bl true)))))))))
def eM (k : bN) : MF := bL (g9 k) fM
theorem sS : FnScope fM hE lX := bZ (by decide +kernel)
theorem sU {S : aR} (h : Fx S) : rN (S.body 1 fM lX) (defBody (inClass (top 31) 2)) (g9 h.k) :=
 (aN (gC (yQ (qU (cX qO (bD fT rfl h.iD rfl (aE (jv 1) aG)) (bK dA (bD fT rfl h.iD rfl (aE (jG h.SQ) aG)) aL)) (pY (cX (VF h.K6) (cE (jv 1) (IU AA aL)) (jG h.K8))))) (a7 (bT mF)) cP)
 (aN (wF 2 aBz)
 (aN (LN (aFj rfl h.X7 (aE (bK Z4 (jG h.SQ) (jT (aE bE aG))) (aE (bK dA (jE jI (jv 1) fA (dZ (IU AA aL))) (jE jI (jv 1) (dZ (IU AA aL)) fA)) aG))) (AG (n := 2) (fN (QI 3) (fN (QI 4) vE))) (aN (xP (QU h.vL (jG h.vC) (jv 3)) (AG (n := 2) (fN (QI 5) (fN (QI 6) vE))))
 (a7 (xP (bF (aa rfl) (rG h) (rM h) rfl h.pN h.nD (aE (jv 4) (aE (jv 5) (aE (jv 6) aG)))) (QS (jv 2) (jv 3))))))
 (aN (gC (cX aCD qE (YM rfl h.QO (jv 2))) (a7 (bT mF)) cP)
 (aN (dQ h.bH h.gA (jv 0) (jv 2))
 (aN (xP (QU h.K6 (jG h.K8) (cE (jv 1) (IU AA aL))) (QS (cF h.bH h.gA (jv 0)) bE))
 (a7 (bT mF))))))))
theorem sQ {S : aR} (h : Fx S) : fV S.P S.w S.K S.mg S.base 2 h.fO h.fK hE (eM h.k) := fV.of h.g0 sS (sU h) fun _ _ _ => .kM
theorem sR {S : aR} (h : Fx S) : cO S.K h.fK hE 2 [] aP := bV h.g0 fun _ _ _ _ _ _ us hl => match us, hl with
 | [_, _], _ => rfl
def eZ : List Str := [("self" : Str), ("words" : Str), ("row" : Str), ("word" : Str)]
def gL : List Str := [("self" : Str), ("words" : Str)]
abbrev kN : Scope := defScope (inClass (top 31) 3)
def fE (k : bN) : MS :=
 (aH (aT (aQ eU (aA (bR (eD (aB 1)) [3] (aU 3) bU (aM (jC k) 3 aP (aA (aB 3) (aA (eC (.int 1)) (aA (eC (.int 12)) aD))))) aD)) (aU 2))
 (aH (dW (gH (bA (aC M5 (eC .non) (aB 2))) (gH (cQ (bA (UO G5 G5 (eC (.int 1)) (aQ cY (aA (aB 2) aD)) (eC (.int 6))))) (bA (aC fG (aQ cY (aA (bG k.aK ("rows" : Str) (aB 0)) aD)) (eC (.int 4)))))) (aZ (eC (.bl false))) aW)
 (aH (dW (gI (bA (aC mQ (bG k.aK ("rows" : Str) (aB 0)) (bW aD))) (bA (aC mQ (aQ cY (aA (aB 2) aD)) (aQ cY (aA (aC aV (bG k.aK ("rows" : Str) (aB 0)) (eC (.int 0))) aD))))) (aZ (eC (.bl false))) aW)
 (aH (cI k.aK ("rows" : Str) (aB 0) (aC bQ (bG k.aK ("rows" : Str) (aB 0)) (bW (aA (aB 2) aD))))
 (aZ (eC (.bl true)))))))
def cH (k : bN) : MF := bL (fE k) eZ
theorem rX : FnScope eZ gL kN := bZ (by decide +kernel)
theorem rV {S : aR} (h : Fx S) : rN (S.body 1 eZ kN) (defBody (inClass (top 31) 3)) (fE h.k) :=
 (aN (wF 2 (eK oG rfl h.iQ rfl (aE (eQ (own := [(("word" : Str), 3)]) (iE (jv 1)) (by kernel_rfl) (EH 3) eG (bF (aa rfl) (rG h) (rM h) rfl h.pN h.nD (aE (jv 3) (aE aL (aE (jG h.UW) aG))))) aG)))
 (aN (gC (yQ (qU (cX aCD qE (jv 2)) (qU (iH (yP sW sW aL (bD fT rfl h.iD rfl (aE (jv 2) aG)) (jG h.qA))) (pY (cX m2 (bD fT rfl h.iD rfl (aE (cF h.bH h.cL (jv 0)) aG)) (jG h.kW)))))) (a7 (bT mF)) cP)
 (aN (gC (yQ (KP (cX qO (cF h.bH h.cL (jv 0)) (jT aG)) (C5 (cX qO (bD fT rfl h.iD rfl (aE (jv 2) aG)) (bD fT rfl h.iD rfl (aE (cE (cF h.bH h.cL (jv 0)) aL) aG)))))) (a7 (bT mF)) cP)
 (aN (dQ h.bH h.cL (jv 0) (bK dA (cF h.bH h.cL (jv 0)) (jT (aE (jv 2) aG))))
 (a7 (bT mF))))))
theorem rO {S : aR} (h : Fx S) : fV S.P S.w S.K S.mg S.base 2 h.fB h.fC gL (cH h.k) := fV.of h.gO rX (rV h) fun _ _ _ => .kM
theorem sF {S : aR} (h : Fx S) : cO S.K h.fC gL 2 [] aP := bV h.gO fun _ _ _ _ _ _ us hl => match us, hl with
 | [_, _], _ => rfl
def fX : List Str := [("self" : Str), ("words" : Str), ("tie" : Str), ("word" : Str)]
def iM : List Str := [("self" : Str), ("words" : Str)]
abbrev mZ : Scope := defScope (inClass (top 31) 4)
def fY (k : bN) : MS :=
 (aH (aT (aQ eU (aA (bR (eD (aB 1)) [3] (aU 3) bU (aM (jC k) 3 aP (aA (aB 3) (aA (eC (.int 0)) (aA (eC (.int 12)) aD))))) aD)) (aU 2))
 (aH (dW (gH (cQ (eP (aM (jP k) 2 aP (aA (aB 2) (aA (aQ cY (aA (aC aV (bG k.aK ("rows" : Str) (aB 0)) (eC (.int 0))) aD)) aD))))) (bA (aC fG (aQ cY (aA (bG k.aK ("cords" : Str) (aB 0)) aD)) (eC (.int 6))))) (aZ (eC (.bl false))) aW)
 (aH (dW (gI (bA (aC mQ (bG k.aK ("cords" : Str) (aB 0)) (bW aD))) (bA (aC geA (lE iU (aC aV (bG k.aK ("cords" : Str) (aB 0)) (AF tX (eC (.int 1)))) cJ (bX (eC (.int 2)))) (lE iU (aB 2) cJ (bX (eC (.int 2))))))) (aZ (eC (.bl false))) aW)
 (aH (cI k.aK ("cords" : Str) (aB 0) (aC bQ (bG k.aK ("cords" : Str) (aB 0)) (bW (aA (aB 2) aD))))
 (aZ (eC (.bl true)))))))
def cS (k : bN) : MF := bL (fY k) fX
theorem vA : FnScope fX iM mZ := bZ (by decide +kernel)
theorem tF {S : aR} (h : Fx S) : rN (S.body 3 fX mZ) (defBody (inClass (top 31) 4)) (fY h.k) :=
 (aN (wF 2 (eK oG rfl h.iQ rfl (aE (eQ (own := [(("word" : Str), 3)]) (iE (jv 1)) (by kernel_rfl) (EH 3) eG (bF (aa rfl) (rG h) (rM h) rfl h.pN h.nD (aE (jv 3) (aE aL (aE (jG h.UW) aG))))) aG)))
 (aN (gC (yQ (qU (iH (fP (bF (aa rfl) (IP h) (HR h) rfl h.DF h.AO (aE (jv 2) (aE (bD fT rfl h.iD rfl (aE (cE (cF h.bH h.cL (jv 0)) aL) aG)) aG))))) (pY (cX m2 (bD fT rfl h.iD rfl (aE (cF h.bH h.c6 (jv 0)) aG)) (jG h.u4))))) (a7 (bT mF)) cP)
 (aN (gC (yQ (KP (cX qO (cF h.bH h.c6 (jv 0)) (jT aG)) (C5 (cX aDP (jE jI (cE (cF h.bH h.c6 (jv 0)) (IU AA aL)) fA (dZ aL)) (jE jI (jv 2) fA (dZ aL)))))) (a7 (bT mF)) cP)
 (aN (dQ h.bH h.c6 (jv 0) (bK dA (cF h.bH h.c6 (jv 0)) (jT (aE (jv 2) aG))))
 (a7 (bT mF))))))
theorem tA {S : aR} (h : Fx S) : fV S.P S.w S.K S.mg S.base 4 h.f9 h.f7 iM (cS h.k) := fV.of h.iF vA (tF h) fun _ _ _ => .kM
theorem u5 {S : aR} (h : Fx S) : cO S.K h.f7 iM 2 [] aP := bV h.iF fun _ _ _ _ _ _ us hl => match us, hl with
 | [_, _], _ => rfl
def gP : List Str := [("self" : Str), ("line" : Str), ("word" : Str), ("words" : Str)]
def kK : List Str := [("self" : Str), ("line" : Str)]
abbrev oT : Scope := defScope (inClass (top 31) 1)
def kF (k : bN) : MS :=
 (aH (aT (b7 "str" splitM (aB 1) (aA (eC (.str (" " : Str))) aD)) (E3 1 (aI (aU 2) (aI (aU 3) bS))))
 (aH (dW (bA (aC isM (bG k.aK ("head" : Str) (aB 0)) (eC .non))) (aZ (jM (aC fG (aB 2) (eC (.str ("plan" : Str)))) (gB k.aK ("takes_head" : Str) (eM k) 2 aP (aB 0) (aA (aB 3) aD)))) aW)
 (aH (dW (gI (bA (aC fG (aB 2) (eC (.str ("ranks" : Str))))) (bA (aC fG (bG k.aK ("cords" : Str) (aB 0)) (bW aD)))) (aZ (gB k.aK ("takes_ranks" : Str) (cH k) 2 aP (aB 0) (aA (aB 3) aD))) aW)
 (aZ (jM (aC fG (aB 2) (eC (.str ("tie" : Str)))) (jM (aC mQ (bG k.aK ("rows" : Str) (aB 0)) (bW aD)) (gB k.aK ("takes_tie" : Str) (cS k) 2 aP (aB 0) (aA (aB 3) aD))))))))
def bP (k : bN) : MF := bL (kF k) gP
theorem wU : FnScope gP kK oT := bZ (by decide +kernel)
theorem xU {S : aR} (h : Fx S) : rN (S.body 5 gP oT) (defBody (inClass (top 31) 1)) (kF h.k) :=
 (aN (xP (eR PySem.F.plainAttrs_str PySem.F.slot_str_split GJ (jv 1) (aE bE aG)) (XO (n := 1) (fN (QI 2) (YA (QI 3)))))
 (aN (gC (cX ZE (cF h.bH h.gA (jv 0)) qE) (a7 (bT (r6 (nZ m2 (jv 2) bE) (wZ (yT (aa rfl) h.bH h.mI (sQ h) (sR h) (jv 0) (aE (jv 3) aG)))))) cP)
 (aN (gC (yQ (KP (cX m2 (jv 2) bE) (C5 (cX m2 (cF h.bH h.c6 (jv 0)) (jT aG))))) (a7 (bT (yT (aa rfl) h.bH h.kO (rO h) (sF h) (jv 0) (aE (jv 3) aG)))) cP)
 (a7 (bT (r6 (nZ m2 (jv 2) bE) (r6 (nZ qO (cF h.bH h.cL (jv 0)) (jT aG)) (wZ (yT (aa rfl) h.bH h.mY (tA h) (u5 h) (jv 0) (aE (jv 3) aG))))))))))
theorem xG {S : aR} (h : Fx S) : fV S.P S.w S.K S.mg S.base 6 h.gQ h.gS kK (bP h.k) := fV.of h.jS wU (xU h) fun _ _ _ => .kM
theorem x8 {S : aR} (h : Fx S) : cO S.K h.gS kK 2 [] aP := bV h.jS fun _ _ _ _ _ _ us hl => match us, hl with
 | [_, _], _ => rfl
def j4 : List Str := [("self" : Str), ("head" : Str)]
def oC : List Str := [("self" : Str)]
abbrev uD : Scope := defScope (inClass (top 31) 5)
def nP (k : bN) : MS :=
 (aH (aT (bG k.aK ("head" : Str) (aB 0)) (aU 1))
 (aZ (xW k.aJ (gE k) 1 9 (aO k) (aA (bG k.aK ("rows" : Str) (aB 0)) aD) (aA (aC aV (aB 1) (eC (.str ("every" : Str)))) (aA (aC aV (aB 1) (eC (.str ("lost" : Str)))) (aA (aC aV (aB 1) (eC (.str ("slow" : Str)))) (aA (aC aV (aB 1) (eC (.str ("bears" : Str)))) (aA (aC aV (aB 1) (eC (.str ("gap" : Str)))) (aA (aC aV (aB 1) (eC (.str ("hold" : Str)))) (aA (aC aV (aB 1) (eC (.str ("takes" : Str)))) (aA (bG k.aK ("cords" : Str) (aB 0)) (aA (aC aV (aB 1) (eC (.str ("hosts" : Str)))) aD))))))))))))
def gU (k : bN) : MF := bL (nP k) j4
theorem CG : FnScope j4 oC uD := bZ (by decide +kernel)
theorem CT {S : aR} (h : Fx S) : rN (S.body 7 j4 uD) (defBody (inClass (top 31) 5)) (nP h.k) :=
 (aN (wF 1 (cF h.bH h.gA (jv 0)))
 (a7 (bT (jmk (aa rfl) h.RH (zI h) (dH h) rfl h.IW (aE (cF h.bH h.cL (jv 0)) aG) (fF (cE (jv 1) bE) (fF (cE (jv 1) bE) (fF (cE (jv 1) bE) (fF (cE (jv 1) bE) (fF (cE (jv 1) bE) (fF (cE (jv 1) bE) (fF (cE (jv 1) bE) (fF (cF h.bH h.c6 (jv 0)) (fF (cE (jv 1) bE) ZD)))))))))))))
theorem CU {S : aR} (h : Fx S) : fV S.P S.w S.K S.mg S.base 8 h.jW h.jN oC (gU h.k) := fV.of h.oJ CG (CT h) fun _ _ _ => .kM
theorem CY {S : aR} (h : Fx S) : cO S.K h.jN oC 1 [] aP := bV h.oJ fun _ _ _ _ _ _ us hl => match us, hl with
 | [_], _ => rfl
def pP : List Str := [("text" : Str), ("reading" : Str), ("lines" : Str), ("at" : Str), ("line" : Str)]
def uK : List Str := [("text" : Str)]
abbrev BP : Scope := defScope (top 32)
def oS (k : bN) : MS :=
 (aH (dW (cQ (eP (aQ (mV m7) (aA (aB 0) (aA (eC (.ty "str")) aD))))) (xD k.cM ("line" : Str) (eC (.int 0))) aW)
 (aH (aT (OM k.aK (kJ k) 0 aP aD) (aU 1))
 (aH (aT (b7 "str" splitM (aB 0) (aA (eC (.str ("\n" : Str))) aD)) (aU 2))
 (aH (gM (eY pK (aA (aB 2) aD)) (bY 2 (aI (aU 3) (aI (aU 4) bS))) (dW (cQ (eP (gB k.aK ("goes_on" : Str) (bP k) 2 aP (aB 1) (aA (aB 4) aD)))) (xD k.cM ("line" : Str) (aB 3)) aW))
 (aH (dW (bA (aC fG (bG k.aK ("rows" : Str) (aB 1)) (bW aD))) (xD k.cM ("line" : Str) (aQ cY (aA (aB 2) aD))) aW)
 (aZ (gB k.aK ("made" : Str) (gU k) 1 aP (aB 1) aD)))))))
def cU (k : bN) : MF := bL (oS k) pP
theorem JF : FnScope pP uK BP := bZ (by decide +kernel)
theorem K2 {S : aR} (h : Fx S) : rN (S.body 9 pP BP) (defBody (top 32)) (oS h.k) :=
 (aN (gC (iH (fP (bD (tK pC) rfl h.eS rfl (aE (jv 0) (aE (uL rfl h.zJ rfl) aG))))) (a7 (D8 (aa rfl) h.qL (A7 h) (AE h) rfl h.qZ aL)) cP)
 (aN (wF 1 (ZF (aa rfl) h.HK (CK h) (CQ h) rfl h.E9))
 (aN (wF 2 (eR PySem.F.plainAttrs_str PySem.F.slot_str_split GJ (jv 0) (aE bE aG)))
 (aN (LN (Y2 rfl h.BG (aE (jv 2) aG)) (AG (n := 2) (fN (QI 3) (fN (QI 4) vE))) (a7 (gC (iH (fP (yT (aa rfl) h.bH h.pO (xG h) (x8 h) (jv 1) (aE (jv 4) aG)))) (a7 (D8 (aa rfl) h.qL (A7 h) (AE h) rfl h.qZ (jv 3))) cP)))
 (aN (gC (cX m2 (cF h.bH h.cL (jv 1)) (jT aG)) (a7 (D8 (aa rfl) h.qL (A7 h) (AE h) rfl h.qZ (bD fT rfl h.iD rfl (aE (jv 2) aG)))) cP)
 (a7 (bT (U9 (aa rfl) h.bH h.tR (CU h) (CY h) (jv 1)))))))))
theorem rA {S : aR} (h : Fx S) : fV S.P S.w S.K S.mg S.base 10 h.lY h.o7 uK (cU h.k) := fV.of h.tL JF (K2 h) fun _ _ _ => .kM
theorem rC {S : aR} (h : Fx S) : cO S.K h.o7 uK 1 [] aP := bV h.tL fun _ _ _ _ _ _ us hl => match us, hl with
 | [_], _ => rfl
def kA : List Str := [("_law_text_told" : Str), ("_law_found" : Str), ("e" : Str)]
def nQ : List Str := [("_law_text_told" : Str)]
abbrev vB : Scope := defScope (top 42)
def jX (k : bN) : MS :=
 (aH (aT (eC .non) (aU 1))
 (aH (RQ (dE (aM (cU k) 1 aP (aA (aB 0) aD))) (AV k) 2 (OV (gZ k) ("line" : Str) 1))
 (aZ (aB 1))))
def cN (k : bN) : MF := bL (jX k) kA
theorem CP : FnScope kA nQ vB := bZ (by decide +kernel)
theorem CW {S : aR} (h : Fx S) : V8 (S.body 10 kA vB) (defBody (top 42)) (jX h.k) :=
 (M6 (JS.t (wF 1 qE))
 (M6 (aCY (i := 2) rfl rfl rfl h.qZ (QK h) (a7 (y5 (bF (aa rfl) (rA h) (rC h) rfl h.pR h.m4 (aE (jv 0) aG)))) (aDu (i := 2) (j := 1) rfl rfl rfl rfl (CN h)))
 (aAy (JS.t (bT (jv 1))))))
theorem mS {S : aR} (h : Fx S) : fV S.P S.w S.K S.mg S.base 11 h.gW h.jV nQ (cN h.k) := fV.ofT h.oA CP (CW h) fun _ _ _ => .kM
theorem mT {S : aR} (h : Fx S) : cO S.K h.jV nQ 1 [] aP := bV h.oA fun _ _ _ _ _ _ us hl => match us, hl with
 | [_], _ => rfl
def pJ : List Str := [("_law_told" : Str), ("_law_some" : Str), ("_law_lines" : Str), ("_law_one" : Str), ("_law_row" : Str), ("_law_cord" : Str)]
def tU : List Str := [("_law_told" : Str)]
abbrev BR : Scope := defScope (top 40)
def uI (k : bN) : MS :=
 (aH (aT (aC bQ (aC bQ (aC bQ (lE iU (aB 0) cJ (bX (eC (.int 4)))) (gT (aA (T3 (bA (aC isM (aC aV (aB 0) (eC (.int 4))) (eC .non))) (aC aV (aB 0) (eC (.int 2))) (aC aV (aB 0) (eC (.int 4)))) aD))) (lE iU (aB 0) (bX (eC (.int 5))) (bX (eC (.int 7))))) (gT (aA (aC aV (gT (aA (eC (.str ("no" : Str))) (aA (eC (.str ("yes" : Str))) aD))) (aQ CL (aA (aC aV (aB 0) (eC (.int 7))) aD))) (aA (aC aV (aB 0) (eC (.int 9))) aD)))) (aU 1))
 (aH (aT (gT (aA (b7 "str" joinM (eC (.str (" " : Str))) (aA (aC bQ (gT (aA (eC (.str ("plan" : Str))) aD)) (bR (eD (lE iU (aB 1) (bX (eC (.int 1))) cJ)) [3] (aU 3) bU (aQ rE (aA (aB 3) aD)))) aD)) aD)) (aU 2))
 (aH (aT (aC bQ (aB 2) (bR (eD (aC aV (aB 0) (eC (.int 0)))) [4] (aU 4) bU (b7 "str" joinM (eC (.str (" " : Str))) (aA (aC bQ (gT (aA (eC (.str ("ranks" : Str))) aD)) (bR (eD (aB 4)) [3] (aU 3) bU (aQ rE (aA (aB 3) aD)))) aD)))) (aU 2))
 (aH (aT (aC bQ (aB 2) (bR (eD (aC aV (aB 0) (eC (.int 8)))) [5] (aU 5) bU (b7 "str" joinM (eC (.str (" " : Str))) (aA (aC bQ (gT (aA (eC (.str ("tie" : Str))) aD)) (bR (eD (aB 5)) [3] (aU 3) bU (aQ rE (aA (aB 3) aD)))) aD)))) (aU 2))
 (aZ (b7 "str" joinM (eC (.str ("\n" : Str))) (aA (aB 2) aD)))))))
def lR (k : bN) : MF := bL (uI k) pJ
theorem LB : FnScope pJ tU BR := bZ (by decide +kernel)
theorem KR {S : aR} (h : Fx S) : rN (S.body 0 pJ BR) (defBody (top 40)) (uI h.k) :=
 (aN (wF 1 (bK dA (bK dA (bK dA (jE jI (jv 0) fA (dZ aL)) (dY (aE (NF (cX ZE (cE (jv 0) aL) qE) (cE (jv 0) aL) (cE (jv 0) aL)) aG))) (jE jI (jv 0) (dZ aL) (dZ aL))) (dY (aE (cE (dY (aE bE (aE bE aG))) (eK aCK rfl h.S0 rfl (aE (cE (jv 0) aL) aG))) (aE (cE (jv 0) aL) aG)))))
 (aN (wF 2 (dY (aE (eR PySem.F.plainAttrs_str PySem.F.slot_str_join j0 bE (aE (bK dA (dY (aE bE aG)) (eQ (own := [(("_law_one" : Str), 3)]) (iE (jE jI (jv 1) (dZ aL) fA)) (by kernel_rfl) (EH 3) eG (eK AD rfl h.zJ rfl (aE (jv 3) aG)))) aG)) aG)))
 (aN (wF 2 (bK dA (jv 2) (eQ (own := [(("_law_row" : Str), 4)]) (iE (cE (jv 0) aL)) (by kernel_rfl) (EH 4) eG (eR PySem.F.plainAttrs_str PySem.F.slot_str_join j0 bE (aE (bK dA (dY (aE bE aG)) (eQ (own := [(("_law_one" : Str), 3)]) (iE (jv 4)) (by kernel_rfl) (EH 3) eG (eK AD rfl h.zJ rfl (aE (jv 3) aG)))) aG)))))
 (aN (wF 2 (bK dA (jv 2) (eQ (own := [(("_law_cord" : Str), 5)]) (iE (cE (jv 0) aL)) (by kernel_rfl) (EH 5) eG (eR PySem.F.plainAttrs_str PySem.F.slot_str_join j0 bE (aE (bK dA (dY (aE bE aG)) (eQ (own := [(("_law_one" : Str), 3)]) (iE (jv 5)) (by kernel_rfl) (EH 3) eG (eK AD rfl h.zJ rfl (aE (jv 3) aG)))) aG)))))
 (a7 (bT (eR PySem.F.plainAttrs_str PySem.F.slot_str_join j0 bE (aE (jv 2) aG))))))))
theorem KW {S : aR} (h : Fx S) : fV S.P S.w S.K S.mg S.base 1 h.lV h.pG tU (lR h.k) := fV.of h.tH LB (KR h) fun _ _ _ => .kM
theorem JM {S : aR} (h : Fx S) : cO S.K h.pG tU 1 [] aP := bV h.tH fun _ _ _ _ _ _ us hl => match us, hl with
 | [_], _ => rfl
def iA : List Str := [("_law_told" : Str), ("_law_made_here" : Str), ("_law_lines" : Str), ("_law_many" : Str), ("_law_found" : Str), ("_law_few" : Str), ("_law_rows" : Str)]
def rD : List Str := [("_law_told" : Str)]
abbrev yK : Scope := defScope (top 43)
def jZ (k : bN) : MS :=
 (aH (HD 1 2 (aA (aM (jD k) 1 aP (aA (aB 0) aD)) (aA (b7 "str" splitM (aM (lR k) 1 aP (aA (aB 0) aD)) (aA (eC (.str ("\n" : Str))) aD)) aD)))
 (aH (dW (gH (bA (aC mQ (aQ (NR rE k.aJ (iY k)) (aA (aB 1) aD)) (b7 "str" joinM (eC (.str ("\n" : Str))) (aA (aB 2) aD)))) (gH (bA (aC mQ (aQ sM (aA (aM (eI k) 1 aP (aA (aM (cU k) 1 aP (aA (aQ (NR rE k.aJ (iY k)) (aA (aB 1) aD)) aD)) aD)) aD)) (aQ sM (aA (aQ eU (aA (aB 0) aD)) aD)))) (bA (aC mQ (aQ (wX k.aJ (dO k)) (aA (aB 1) aD)) (eC (.int 6)))))) (aZ (eC (.bl false))) aW)
 (aH (gM (eY mN (aA (aQ cY (aA (aB 2) aD)) aD)) (aU 3) (aH (aT (aM (cN k) 1 aP (aA (b7 "str" joinM (eC (.str ("\n" : Str))) (aA (lE iU (aB 2) cJ (bX (aC bQ (aB 3) (eC (.int 1))))) aD)) aD)) (aU 4))
 (aH (dW (bA (aC mQ (aB 4) (T3 (bA (aC fG (aB 3) (eC (.int 0)))) (eC (.int 1)) (eC .non)))) (aZ (eC (.bl false))) aW)
 (dW (bA (aC II (aB 3) (eC (.int 0)))) (aH (aT (aM (cU k) 1 aP (aA (b7 "str" joinM (eC (.str ("\n" : Str))) (aA (lE iU (aB 2) cJ (bX (aC bQ (aB 3) (eC (.int 1))))) aD)) aD)) (aU 5))
 (dW (gH (bA (aC mQ (aC aV (aM (eI k) 1 aP (aA (aB 5) aD)) (eC (.int 0))) (lE iU (aC aV (aB 0) (eC (.int 0))) cJ (bX (aB 3))))) (bA (aC mQ (aC aV (aM (eI k) 1 aP (aA (aB 5) aD)) (eC (.int 8))) (lE iU (aC aV (aB 0) (eC (.int 8))) cJ (bX (aQ max2 (aA (eC (.int 0)) (aA (aC mU (aB 3) (eC (.int 4))) aD)))))))) (aZ (eC (.bl false))) aW)) aW))))
 (aH (aT (b7 "str" joinM (eC (.str ("\n" : Str))) (aA (aC bQ (aC bQ (lE iU (aB 2) cJ (bX (eC (.int 5)))) (lE iU (aB 2) (bX (eC (.int 1))) (bX (eC (.int 2))))) (lE iU (aB 2) (bX (eC (.int 5))) cJ)) aD)) (aU 6))
 (aZ (jM (aC fG (aM (cN k) 1 aP (aA (aB 6) aD)) (eC (.int 5))) (aC fG (aM (cN k) 1 aP (aA (b7 "str" joinM (eC (.str ("\n" : Str))) (aA (aC bQ (aB 2) (gT (aA (eC (.str ("tie 5 9 11" : Str))) aD))) aD)) aD)) (eC (.int 11)))))))))
def kG (k : bN) : MF := bL (jZ k) iA
theorem GV : FnScope iA rD yK := bZ (by decide +kernel)
theorem HA {S : aR} (h : Fx S) : rN (S.body 11 iA yK) (defBody (top 43)) (jZ h.k) :=
 (aN (aDi 1 2 (aE (bF (aa rfl) (KD h) (I0 h) rfl h.BN h.yS (aE (jv 0) aG)) (aE (eR PySem.F.plainAttrs_str PySem.F.slot_str_split GJ (bF (aa rfl) (KW h) (JM h) rfl h.BD h.y6 (aE (jv 0) aG)) (aE bE aG)) aG)))
 (aN (gC (yQ (qU (cX qO (eK (UD (aa rfl) h.xI (B2 h) (BV h)) rfl h.zJ rfl (aE (jv 1) aG)) (eR PySem.F.plainAttrs_str PySem.F.slot_str_join j0 bE (aE (jv 2) aG))) (qU (cX qO (bD S9 rfl h.QT rfl (aE (bF (aa rfl) (nS h) (nT h) rfl h.lG h.jU (aE (bF (aa rfl) (rA h) (rC h) rfl h.pR h.m4 (aE (eK (UD (aa rfl) h.xI (B2 h) (BV h)) rfl h.zJ rfl (aE (jv 1) aG)) aG)) aG)) aG)) (bD S9 rfl h.QT rfl (aE (eK oG rfl h.iQ rfl (aE (jv 0) aG)) aG))) (pY (cX qO (bD (aAJ (aa rfl) h.cR h.GG (QA h) (N9 h)) rfl h.iD rfl (aE (jv 1) aG)) aL))))) (a7 (bT mF)) cP)
 (aN (LN (q7 rfl h.vO (aE (bD fT rfl h.iD rfl (aE (jv 2) aG)) aG)) (QI 3) (aN (wF 4 (bF (aa rfl) (mS h) (mT h) rfl h.jO h.iT (aE (eR PySem.F.plainAttrs_str PySem.F.slot_str_join j0 bE (aE (jE jI (jv 2) fA (dZ (bK dA (jv 3) aL))) aG)) aG)))
 (aN (gC (cX qO (jv 4) (NF (cX m2 (jv 3) aL) aL qE)) (a7 (bT mF)) cP)
 (a7 (gC (cX aCE (jv 3) aL) (aN (wF 5 (bF (aa rfl) (rA h) (rC h) rfl h.pR h.m4 (aE (eR PySem.F.plainAttrs_str PySem.F.slot_str_join j0 bE (aE (jE jI (jv 2) fA (dZ (bK dA (jv 3) aL))) aG)) aG)))
 (a7 (gC (yQ (qU (cX qO (cE (bF (aa rfl) (nS h) (nT h) rfl h.lG h.jU (aE (jv 5) aG)) aL) (jE jI (cE (jv 0) aL) fA (dZ (jv 3)))) (pY (cX qO (cE (bF (aa rfl) (nS h) (nT h) rfl h.lG h.jU (aE (jv 5) aG)) aL) (jE jI (cE (jv 0) aL) fA (dZ (bD aBK rfl h.aCo rfl (aE aL (aE (bK ZO (jv 3) aL) aG))))))))) (a7 (bT mF)) cP))) cP)))))
 (aN (wF 6 (eR PySem.F.plainAttrs_str PySem.F.slot_str_join j0 bE (aE (bK dA (bK dA (jE jI (jv 2) fA (dZ aL)) (jE jI (jv 2) (dZ aL) (dZ aL))) (jE jI (jv 2) (dZ aL) fA)) aG)))
 (a7 (bT (r6 (nZ m2 (bF (aa rfl) (mS h) (mT h) rfl h.jO h.iT (aE (jv 6) aG)) aL) (wZ (nZ m2 (bF (aa rfl) (mS h) (mT h) rfl h.jO h.iT (aE (eR PySem.F.plainAttrs_str PySem.F.slot_str_join j0 bE (aE (bK dA (jv 2) (dY (aE bE aG))) aG)) aG)) aL)))))))))
theorem HF {S : aR} (h : Fx S) : fV S.P S.w S.K S.mg S.base 12 h.jY h.nC rD (kG h.k) := fV.of h.rW GV (HA h) fun _ _ _ => .kM
theorem G1 {S : aR} (h : Fx S) : cO S.K h.nC rD 1 [] aP := bV h.rW fun _ _ _ _ _ _ us hl => match us, hl with
 | [_], _ => rfl
def S6 : List Str := [("_law_script" : Str), ("_law_deck_here" : Str), ("_law_some" : Str), ("_law_k" : Str), ("_law_told" : Str)]
def aCs : List Str := [("_law_script" : Str)]
abbrev aCj : Scope := defScope (top 44)
def YN (k : bN) : MS :=
 (aH (aT (aM (tO k) 1 aP (aA (aB 0) aD)) (aU 1))
 (aH (aT (bR (eY mN (aA (eC (.int 3)) aD)) [3] (aU 3) bU (aM (m6 k) 1 aP (aA (aB 1) aD))) (aU 2))
 (aZ (aC fG (bR (eD (aC bQ (aB 2) (lE iU (aB 2) cJ (bX (eC (.int 1)))))) [4] (aU 4) (cQ (eP (aM (kG k) 1 aP (aA (aB 4) aD)))) (aB 4)) (gT aD)))))
def M3 (k : bN) : MF := bL (YN k) S6
theorem aD4 : FnScope S6 aCs aCj := bZ (by decide +kernel)
theorem aDY {S : aR} (h : Fx S) : rN (S.body 12 S6 aCj) (defBody (top 44)) (YN h.k) :=
 (aN (wF 1 (bF (aa rfl) (K7 h) (LF h) rfl h.BQ h.yX (aE (jv 0) aG)))
 (aN (jsc 2 (own := [(("_law_k" : Str), 3)]) (q7 rfl h.vO (aE aL aG)) (by kernel_rfl) (EH 3) eG (bF (aa rfl) (G8 h) (HJ h) rfl h.z9 h.vY (aE (jv 1) aG)))
 (a7 (bT (nZ m2 (eQ (own := [(("_law_told" : Str), 4)]) (iE (bK dA (jv 2) (jE jI (jv 2) fA (dZ aL)))) (by kernel_rfl) (EH 4) (aAw (iH (fP (bF (aa rfl) (HF h) (G1 h) rfl h.yO h.vX (aE (jv 4) aG))))) (jv 4)) (dY aG))))))
theorem aDT {S : aR} (h : Fx S) : fV S.P S.w S.K S.mg S.base 13 h.HY h.TH aCs (M3 h.k) := fV.of h.aCC aD4 (aDY h) fun _ _ _ => .kM
end K06
namespace K06
open PySem PySem.Spec PyProof.Rows L2 Pc Lb Lw
abbrev lk (k : K06.bN) : Lb.bN := ⟨k.aJ, k.dS⟩
section
variable (k : K06.bN)
theorem aEf : K06.tO k = R4 := rfl
theorem RK : K06.dB k = JU := rfl
theorem TM : K06.fH k = Lb.fH (lk k) := rfl
theorem aAB : K06.eB k = Lb.eB (lk k) := rfl
theorem aGi (x0 : D) : begin jH [x0] = [some x0] := rfl
theorem aGj (x0 : D) : begin lJ [x0] = [some x0, none] := rfl
structure Fd where
 r : D
 ev : D
 lo : D
 sl : D
 be : D
 ga : D
 ho : D
 ta : D
 ti : D
 hs : D
def eV (f : Fd) : List D := [f.r, f.ev, f.lo, f.sl, f.be, f.ga, f.ho, f.ta, f.ti, f.hs]
def UR : D → Bool
 | .bl _ => true
 | _ => false
def kQ (f : Fd) : D := if f.be.isNon = true then f.lo else f.be
def items (f : Fd) : List (Str × D) := [("every", f.ev), ("lost", f.lo), ("slow", f.sl), ("bears", kQ f), ("gap", f.ga), ("hold", f.ho), ("takes", f.ta), ("ties", f.ti), ("hosts", f.hs)]
def hU (h : Int) (z : Str) (d : D) : Bool := match Lb.dC.lookup z with
 | some (some (.jL [.int lo, .int hi])) => bM lo hi d
 | _ => if z = "takes" then UR d else EZ h d
def uQ : D → Int
 | .tup (.tup r :: _) => r.length
 | _ => 0
def qM (f : Fd) : Option Str := if mR f.r = true then ((items f).find? fun p => !hU (uQ f.r) p.1 p.2).map Prod.fst else some "ranks"
def V1 (f : Fd) : Prop := ∀ d ∈ eV f, pE 6 d = true
variable {w w' : W} {P : D → W → Prop} {PF : Fl → W → Prop} {PX : XD → W → Prop} {f : Fd} {p n : Nat} {d : D}
theorem aAu {h : Int} {z : Str} (hz : z ∈ (["every", "lost", "slow", "bears", "gap", "hold", "takes", "ties", "hosts"] : List Str)) (e : pE 6 d = true) (hP : P (.bl (hU h z d)) w) : T (K06.eB k [.str z, d, .int h] w) P := by
 rw [aAB]
 have num : ∀ (z : Str) (lo hi : Int), Lb.dC.lookup z = some (some (.jL [.int lo, .int hi])) → P (.bl (hU h z d)) w → T (Lb.eB (lk k) [.str z, d, .int h] w) P := fun z lo hi hz hP => by
  unfold hU at hP
  rw [hz] at hP
  simp only [Lb.eB, Lb.i9, tM, WH hz, YF hz, Option.isSome_some, eA, aX, eN, zV, OK, FP, vW, E2, QC, XR, GI, AU, EA, yN, DX, zG, T_C, T_V, QB, WN, PY, WQ, aAc, AI, vF, NO, N1, OE, N3, FW, EB, zX, x9, M8, XW, OO, M7, uP, wQ, NT, yL, qW, DT, zU, wJ, sA, QG, YD, YE, aAh, VI, qH, OZ, tE, tQ, NI, FX, ER, EV, b5, List.getElem?_cons_zero, List.getElem?_cons_succ, List.set_cons_zero, List.set_cons_succ, List.length_cons, List.length_nil, aP, true_and, and_true, D1, GC, FF, ZX, zN, zW, IF, q9, fS, NS, QF, NB, oF, OI, nO, ah, bj, ae, Bool.not_true, Bool.not_false, Bool.true_eq_false, ite_true, ite_false, reduceCtorEq]
  have aw := fun PP => qY (k := lk k) (w := w) (P := PP) lo hi e
  simp only [aw, eA, aX, eN, zV, OK, FP, vW, E2, QC, XR, GI, AU, EA, yN, DX, zG, T_C, T_V, QB, WN, PY, WQ, aAc, AI, vF, NO, N1, OE, N3, FW, EB, zX, x9, M8, XW, OO, M7, uP, wQ, NT, yL, qW, DT, zU, wJ, sA, QG, YD, YE, aAh, VI, qH, OZ, tE, tQ, NI, FX, ER, EV, b5, List.getElem?_cons_zero, List.getElem?_cons_succ, List.set_cons_zero, List.set_cons_succ, List.length_cons, List.length_nil, aP, true_and, and_true, D1, GC, FF, ZX, zN, zW, IF, q9, fS, NS, QF, NB, oF, OI, nO, ah, bj, ae, Bool.not_true, Bool.not_false, Bool.true_eq_false, ite_true, ite_false, reduceCtorEq]
  exact hP
 simp only [bh, bx, or_false] at hz
 rcases hz with rfl | rfl | rfl | rfl | rfl | rfl | rfl | rfl | rfl
 ·exact num _ _ _ rfl hP
 ·exact num _ _ _ rfl hP
 ·exact num _ _ _ rfl hP
 ·exact num _ _ _ rfl hP
 ·exact num _ _ _ rfl hP
 ·exact num _ _ _ rfl hP
 ·have hz : Lb.dC.lookup ("takes" : Str) = some none := rfl
  have he : vR (.str ("takes" : Str)) (.str ("takes" : Str)) w = some true := by rw [LG (by decide +kernel) (by decide +kernel)]; decide +kernel
  have hB : P (.bl (UR d)) w := hP
  simp only [Lb.eB, Lb.i9, tM, WH hz, C7 he, Option.isSome_none, aAd e, eA, aX, eN, zV, OK, FP, vW, E2, QC, XR, GI, AU, EA, yN, DX, zG, T_C, T_V, QB, WN, PY, WQ, aAc, AI, vF, NO, N1, OE, N3, FW, EB, zX, x9, M8, XW, OO, M7, uP, wQ, NT, yL, qW, DT, zU, wJ, sA, QG, YD, YE, aAh, VI, qH, OZ, tE, tQ, NI, FX, ER, EV, b5, List.getElem?_cons_zero, List.getElem?_cons_succ, List.set_cons_zero, List.set_cons_succ, List.length_cons, List.length_nil, aP, true_and, and_true, D1, GC, FF, ZX, zN, zW, IF, q9, fS, NS, QF, NB, oF, OI, nO, ah, bj, ae, Bool.not_true, Bool.not_false, Bool.true_eq_false, ite_true, ite_false, reduceCtorEq]
  cases d <;> exact hB
 ·have hz : Lb.dC.lookup ("ties" : Str) = some none := rfl
  have he : vR (.str ("ties" : Str)) (.str ("takes" : Str)) w = some false := by rw [LG (by decide +kernel) (by decide +kernel)]; decide +kernel
  simp only [Lb.eB, Lb.i9, tM, WH hz, C7 he, Option.isSome_none, eA, aX, eN, zV, OK, FP, vW, E2, QC, XR, GI, AU, EA, yN, DX, zG, T_C, T_V, QB, WN, PY, WQ, aAc, AI, vF, NO, N1, OE, N3, FW, EB, zX, x9, M8, XW, OO, M7, uP, wQ, NT, yL, qW, DT, zU, wJ, sA, QG, YD, YE, aAh, VI, qH, OZ, tE, tQ, NI, FX, ER, EV, b5, List.getElem?_cons_zero, List.getElem?_cons_succ, List.set_cons_zero, List.set_cons_succ, List.length_cons, List.length_nil, aP, true_and, and_true, D1, GC, FF, ZX, zN, zW, IF, q9, fS, NS, QF, NB, oF, OI, nO, ah, bj, ae, Bool.not_true, Bool.not_false, Bool.true_eq_false, ite_true, ite_false, reduceCtorEq]
  exact aD8 (n := 4) (lk k) e hP
 ·exact num _ _ _ rfl hP
theorem seq_eq {a b : MS} {σ σ1 : Sg} {w w1 : W} (h : T (a σ w) fun f u => f = .nx σ1 ∧ u = w1) : aH a b σ w = b σ1 w1 := by
 obtain ⟨g, u, e, e1, e2⟩ := h.ex
 subst e1
 subst e2
 unfold aH
 rw [e]
 rfl
theorem Y5 {d : D} (h : mR d = true) : ∃ r0 rest, d = .tup (.tup r0 :: rest) ∧ 1 ≤ r0.length ∧ r0.length ≤ 6 ∧ rest.length ≤ 3 := by
 cases d <;> first | (simp [mR] at h; done) | skip
 rename_i xs
 simp only [mR, ar, aq, br, Bool.not_eq_true'] at h
 obtain ⟨⟨h1, h2⟩, h3, h4, -⟩ := h
 cases xs with
 | nil => simp at h1
 | cons x xs =>
  have h5 := h3 x (bf ..)
  cases x <;> first | (simp [E6] at h5; done) | skip
  rename_i ys
  simp [E6] at h5
  simp [iZ] at h4
  refine ⟨ys, xs, rfl, ?_, h5, by simp at h2; omega⟩
  cases ys with
  | nil => exact absurd rfl h4
  | cons => simp
def WZ (f : Fd) : List (Key × D) := (items f).map fun p => (.inr p.1, p.2)
def CA (f : Fd) : List (Key × D) := [(.inr "ties", f.ti), (.inr "hosts", f.hs)]
def WG (f : Fd) (p q : Nat) (s13 s14 : Option D) : Sg := [some (.ref p), some f.r, some f.ev, some f.lo, some f.sl, some f.be, some f.ga, some f.ho, some f.ta, some f.ti, some f.hs, some (kQ f), some (.ref q), s13, s14]
def aCk : MS := (dW (cQ (eP (aM (eB k) 3 aP (aA (aB 13) (aA (aB 14) (aA (aQ cY (aA (aC aV (aB 1) (eC (.int 0))) aD)) aD)))))) KS aW)
def Y1 : MS := (gM (vG (aB 12)) (bY 2 (aI (aU 13) (aI (aU 14) bS))) (aCk k))
def Y9 : MS := (aH (cI k.aJ ("ranks" : Str) (aB 0) (aB 1))
 (aH (cI k.aJ ("every" : Str) (aB 0) (aB 2))
 (aH (cI k.aJ ("lost" : Str) (aB 0) (aB 3))
 (aH (cI k.aJ ("slow" : Str) (aB 0) (aB 4))
 (aH (cI k.aJ ("bears" : Str) (aB 0) (aB 11))
 (aH (cI k.aJ ("gap" : Str) (aB 0) (aB 6))
 (aH (cI k.aJ ("hold" : Str) (aB 0) (aB 7))
 (aH (cI k.aJ ("takes" : Str) (aB 0) (aB 8))
 (aH (cI k.aJ ("ties" : Str) (aB 0) (aB 9))
 (cI k.aJ ("hosts" : Str) (aB 0) (aB 10)))))))))))
def ZL : MS := (dW (cQ (eP (aM (fH k) 1 aP (aA (aB 1) aD)))) KS aW)
def aC8 (rest : MS) : MS := (aH (aT (T3 (bA (aC isM (aB 5) (eC .non))) (aB 3) (aB 5)) (aU 11))
 (aH (aT (E7 (eE (eC (.str ("every" : Str))) (aB 2) (eE (eC (.str ("lost" : Str))) (aB 3) (eE (eC (.str ("slow" : Str))) (aB 4) (eE (eC (.str ("bears" : Str))) (aB 11) (eE (eC (.str ("gap" : Str))) (aB 6) (eE (eC (.str ("hold" : Str))) (aB 7) (eE (eC (.str ("takes" : Str))) (aB 8) GR)))))))) (aU 12))
 (aH (dE (b7 "dict" RC (aB 12) (aA (E7 (eE (eC (.str ("ties" : Str))) (aB 9) (eE (eC (.str ("hosts" : Str))) (aB 10) GR))) aD))) rest)))
theorem UT : l3 k = aH (ZL k) (aC8 (aH (Y1 k) (Y9 k))) := rfl
def wI (w : W) (f : Fd) : W := w ++ [.dK (WZ f), .dK (CA f)]
theorem WW {rest : MS} : aC8 rest [some (.ref p), some f.r, some f.ev, some f.lo, some f.sl, some f.be, some f.ga, some f.ho, some f.ta, some f.ti, some f.hs, none, none, none, none] w = rest (WG f p w.length none none) (wI w f) := by
 unfold aC8
 refine (seq_eq (σ1 := [some (.ref p), some f.r, some f.ev, some f.lo, some f.sl, some f.be, some f.ga, some f.ho, some f.ta, some f.ti, some f.hs, some (kQ f), none, none, none]) (w1 := w) ?_).trans ?_
 ·simp only [qH, zY, ah, ae, reduceCtorEq]
  unfold kQ
  cases f.be.isNon <;> first | rfl | exact ⟨rfl, rfl⟩
 refine (seq_eq (σ1 := WG f p w.length none none) (w1 := w ++ [.dK [(.inr "every", f.ev), (.inr "lost", f.lo), (.inr "slow", f.sl), (.inr "bears", kQ f), (.inr "gap", f.ga), (.inr "hold", f.ho), (.inr "takes", f.ta)]]) ?_).trans ?_
 ·simp only [ZG, JJ, SN, zY, ah, ae, reduceCtorEq]
  exact ⟨_, rfl, aa rfl, rfl, rfl⟩
 refine seq_eq (σ1 := WG f p w.length none none) (w1 := wI w f) ?_
 obtain ⟨w1, e1⟩ : ∃ w1, w1 = w ++ [MO.dK [((.inr "every" : Key), f.ev), (.inr "lost", f.lo), (.inr "slow", f.sl), (.inr "bears", kQ f), (.inr "gap", f.ga), (.inr "hold", f.ho), (.inr "takes", f.ta)]] := ⟨_, rfl⟩
 have l1 : w1.length = w.length + 1 := by rw [e1]; simp
 have h1 : w1[w.length]? = some (.dK [(.inr "every", f.ev), (.inr "lost", f.lo), (.inr "slow", f.sl), (.inr "bears", kQ f), (.inr "gap", f.ga), (.inr "hold", f.ho), (.inr "takes", f.ta)]) := by rw [e1, bg (av _)]; simp
 have ty1 : LZ (.ref w.length) w1 = some "dict" := by simp only [LZ, h1]
 rw [← e1]
 simp only [WG, ZG, JJ, SN, ty1, zY, ah, ae, reduceCtorEq]
 refine ⟨CA f, rfl, aa rfl, ?_⟩
 have mg2 : u6 [] (CA f) = CA f := rfl
 rw [mg2]
 have h2 : (w1 ++ [MO.dK (CA f)])[w.length]? = some (.dK [(.inr "every", f.ev), (.inr "lost", f.lo), (.inr "slow", f.sl), (.inr "bears", kQ f), (.inr "gap", f.ga), (.inr "hold", f.ho), (.inr "takes", f.ta)]) := by rw [au (by omega)]; exact h1
 have h3 : (w1 ++ [MO.dK (CA f)])[w1.length]? = some (.dK (CA f)) := by rw [bg (av _)]; simp
 rw [aC0 h2 h3]
 refine ⟨⟨by omega, by rw [sizeLine_eq]; simp [CA]⟩, ?_⟩
 try simp only [zY, ah, ae, reduceCtorEq]
 show _ = _
 rw [e1, wI, cb, List.set_append_right _ _ (av _), Nat.sub_self]
 rfl
def ZI : List Str := ["every", "lost", "slow", "bears", "gap", "hold", "takes", "ties", "hosts"]
theorem XM {z : Str} {i : Nat} (h : (items f)[i]? = some (z, d)) : z ∈ ZI := by
 have m := bu h
 simp only [items, bh, bx, or_false, Prod.mk.injEq] at m
 unfold ZI
 rcases m with m | m | m | m | m | m | m | m | m <;> (rw [m.1]; decide)
theorem Y3 (ok : V1 f) {z : Str} {i : Nat} (h : (items f)[i]? = some (z, d)) : pE 6 d = true := by
 have m := bu h
 have bo : pE 6 (kQ f) = true := by
  unfold kQ
  split
  ·exact ok _ (by simp [eV])
  ·exact ok _ (by simp [eV])
 simp only [items, bh, bx, or_false, Prod.mk.injEq] at m
 rcases m with m | m | m | m | m | m | m | m | m <;> (rw [m.2]; first | exact bo | exact ok _ (by simp [eV]))
theorem xsI : ((WZ f).map fun p => D.tup [zB p.1, p.2]) = (items f).map fun p => D.tup [.str p.1, p.2] := by
 unfold WZ
 rw [List.map_map]
 rfl
theorem aBc {q i : Nat} {z : Str} (ok : V1 f) (hr : mR f.r = true) (hx : (items f)[i]? = some (z, d)) {Q : Bool → W → Prop} (hQ : Q (hU (uQ f.r) z d) w) :
  T (eP (aM (eB k) 3 aP (aA (aB 13) (aA (aB 14) (aA (aQ cY (aA (aC aV (aB 1) (eC (.int 0))) aD)) aD)))) (WG f p q (some (.str z)) (some d)) w) Q := by
 obtain ⟨r0, rest, er, -⟩ := Y5 hr
 have ew : uQ f.r = r0.length := by rw [er]; rfl
 rw [ew] at hQ
 have af := fun (P : D → W → Prop) (hP : P (.bl (hU r0.length z d)) w) => aAu k (P := P) (XM hx) (Y3 ok hx) hP
 simp only [WG, er, RE, XS, ai, bb, zY, ah, ae, reduceCtorEq]
 refine af _ ?_
 simp only [zY, ah, ae, reduceCtorEq]
 exact hQ
def wL (w : W) (f : Fd) : W := (wI w f).set w.length (.dF (WZ f))
theorem UE (ok : V1 f) (hr : mR f.r = true) (hb : ∀ q ∈ items f, hU (uQ f.r) q.1 q.2 = true) (hP : ∀ s13 s14, PF (.nx (WG f p w.length s13 s14)) (wL w f)) : T (Y1 k (WG f p w.length none none) (wI w f)) PF := by
 have hq : (wI w f)[w.length]? = some (.dK (WZ f)) := by unfold wI; rw [bg (av _)]; simp
 unfold Y1
 have v12 : T (aB 12 (WG f p w.length none none) (wI w f)) = fun PP => PP (.ref w.length) (wI w f) := by
  funext PP
  unfold T
  rfl
 rw [IF, MW, v12]
 simp only [aBu hq, xsI]
 refine Lb.DM (it := ⟨(items f).map fun p => D.tup [.str p.1, p.2], always⟩) (fun i σ w' => w' = wL w f ∧ ∃ s13 s14, σ = WG f p w.length s13 s14) (fun _ _ _ _ => trivial) ⟨rfl, _, _, rfl⟩ (fun i x σ w' hx hI => ?_) (fun σ w' hI => ?_)
 ·obtain ⟨rfl, s13, s14, rfl⟩ := hI
  rw [bt] at hx
  obtain ⟨⟨z, d⟩, h1, rfl⟩ := ao.mp hx
  have hg := hb _ (bu h1)
  simp only [WG, zY, ah, ae, reduceCtorEq]
  unfold aCk
  rw [vW, uP]
  refine aBc k ok hr h1 ?_
  rw [hg]
  simp only [Bool.not_true, zY, ah, ae, reduceCtorEq]
  exact ⟨rfl, _, _, rfl⟩
 ·obtain ⟨rfl, s13, s14, rfl⟩ := hI
  exact hP _ _
def iJ (f : Fd) : List (Str × D) := [("ranks", f.r), ("every", f.ev), ("lost", f.lo), ("slow", f.sl), ("bears", kQ f), ("gap", f.ga), ("hold", f.ho), ("takes", f.ta), ("ties", f.ti), ("hosts", f.hs)]
theorem SY {q : Nat} {s13 s14 : Option D} (hp : w[p]? = some (.ins k.aJ [])) (hP : ∀ s, PF (.nx s) (w.set p (.ins k.aJ (iJ f)))) : T (Y9 k (WG f p q s13 s14) w) PF := by
 have lp4 : p < w.length := (aj.mp hp).1
 unfold Y9
 rw [aX]
 refine oM hp rfl rfl (aa rfl) ?_
 rw [eN]
 rw [aX]
 refine oM (az lp4) rfl rfl (aa rfl) ?_
 rw [eN, List.set_set]
 rw [aX]
 refine oM (az lp4) rfl rfl (aa rfl) ?_
 rw [eN, List.set_set]
 rw [aX]
 refine oM (az lp4) rfl rfl (aa rfl) ?_
 rw [eN, List.set_set]
 rw [aX]
 refine oM (az lp4) rfl rfl (aa rfl) ?_
 rw [eN, List.set_set]
 rw [aX]
 refine oM (az lp4) rfl rfl (aa rfl) ?_
 rw [eN, List.set_set]
 rw [aX]
 refine oM (az lp4) rfl rfl (aa rfl) ?_
 rw [eN, List.set_set]
 rw [aX]
 refine oM (az lp4) rfl rfl (aa rfl) ?_
 rw [eN, List.set_set]
 rw [aX]
 refine oM (az lp4) rfl rfl (aa rfl) ?_
 rw [eN, List.set_set]
 refine oM (az lp4) rfl rfl (aa rfl) ?_
 rw [List.set_set]
 exact hP _
theorem find_none (h : qM f = none) : mR f.r = true ∧ ∀ q ∈ items f, hU (uQ f.r) q.1 q.2 = true := by
 unfold qM at h
 split at h
 ·rename_i hr
  refine ⟨hr, fun q hq => ?_⟩
  rw [Option.map_eq_none_iff, List.find?_eq_none] at h
  simpa using h q hq
 ·cases h
theorem aDy : atI (eV f) 0 = some f.r := hD (j := 0) rfl
theorem aGd : atI (eV f) 1 = some f.ev := hD (j := 1) rfl
theorem aCP : atI (eV f) 2 = some f.lo := hD (j := 2) rfl
theorem aFN : atI (eV f) 3 = some f.sl := hD (j := 3) rfl
theorem aEd : atI (eV f) 4 = some f.be := hD (j := 4) rfl
theorem aF8 : atI (eV f) 5 = some f.ga := hD (j := 5) rfl
theorem aGe : atI (eV f) 6 = some f.ho := hD (j := 6) rfl
theorem aEh : atI (eV f) 7 = some f.ta := hD (j := 7) rfl
theorem aDa : atI (eV f) 8 = some f.ti := hD (j := 8) rfl
theorem aEe : atI (eV f) 9 = some f.hs := hD (j := 9) rfl
theorem aGk : begin fJ (a9 k ([D.ref p] ++ [f.r]) [f.hs, f.ti, f.ta, f.ho, f.ga, f.be, f.sl, f.lo, f.ev]) = [some (.ref p), some f.r, some f.ev, some f.lo, some f.sl, some f.be, some f.ga, some f.ho, some f.ta, some f.ti, some f.hs, none, none, none, none] := rfl
theorem aDh (ok : V1 f) (hg : qM f = none) (hP : ∀ w', cW w w' → w'[w.length]? = some (.ins k.aJ (iJ f)) → P (.ref w.length) w') : T (K06.jD k [.lst (eV f)] w) P := by
 obtain ⟨hr, hb⟩ := find_none hg
 unfold K06.jD K06.lU
 rw [eA, aGi]
 simp only [x9, ai, bb, aDy, aGd, aCP, aFN, aEd, aF8, aGe, aEh, aDa, aEe, zY, ah, ae, reduceCtorEq]
 rw [C0]
 have hp : (w ++ [MO.ins k.aJ []])[w.length]? = some (.ins k.aJ []) := by rw [bg (av _)]; simp
 obtain ⟨w0, e0⟩ : ∃ w0, w0 = w ++ [MO.ins k.aJ []] := ⟨_, rfl⟩
 have l0 : w0.length = w.length + 1 := by rw [e0]; simp
 rw [← e0] at hp ⊢
 unfold gE
 rw [UT, eA]
 have bI : begin fJ (a9 k ([D.ref w.length] ++ [f.r]) [f.hs, f.ti, f.ta, f.ho, f.ga, f.be, f.sl, f.lo, f.ev]) = _ := aGk k
 simp only [mE] at bI ⊢
 rw [bI, aX]
 unfold ZL
 rw [vW, uP]
 simp only [TM, zY, ah, ae, reduceCtorEq]
 refine S3 (n := 4) (lk k) (by omega) (ok _ (by simp [eV])) ?_
 rw [hr]
 simp only [Bool.not_true, zY, ah, ae, reduceCtorEq]
 rw [WW, aX]
 refine UE k ok hr hb fun s13 s14 => ?_
 rw [eN]
 have hp4 : (wL w0 f)[w.length]? = some (.ins k.aJ []) := by
  unfold wL wI
  rw [bc (by omega), au (by omega)]
  exact hp
 refine SY k hp4 fun s => ?_
 have l4 : (wL w0 f).length = w.length + 3 := by unfold wL wI; rw [ck, bw, l0]; rfl
 refine hP _ ⟨by rw [ck]; omega, fun i hi => ?_⟩ (az (by omega))
 rw [bc (by omega)]
 unfold wL wI
 rw [bc (by omega), au (by omega), e0, au hi]
theorem XZ {h : Int} : hU h ("every" : Str) d = bM 1 5 d := rfl
theorem aAA {h : Int} : hU h ("lost" : Str) d = bM 0 3 d := rfl
theorem aBD {h : Int} : hU h ("slow" : Str) d = bM 1 4 d := rfl
theorem ZM {h : Int} : hU h ("bears" : Str) d = bM 0 3 d := rfl
theorem aDX {h : Int} : hU h ("gap" : Str) d = bM 0 3 d := rfl
theorem aB1 {h : Int} : hU h ("hold" : Str) d = bM 0 20 d := rfl
theorem ZP {h : Int} : hU h ("takes" : Str) d = UR d := rfl
theorem aBJ {h : Int} : hU h ("ties" : Str) d = EZ h d := rfl
theorem YK {h : Int} : hU h ("hosts" : Str) d = bM 0 4 d := rfl
structure Gd (f : Fd) : Prop where
 ok : V1 f
 r : mR f.r = true
 ev : bM 1 5 f.ev = true
 lo : bM 0 3 f.lo = true
 sl : bM 1 4 f.sl = true
 be : bM 0 3 (kQ f) = true
 ga : bM 0 3 f.ga = true
 ho : bM 0 20 f.ho = true
 ta : UR f.ta = true
 ti : EZ (uQ f.r) f.ti = true
 hs : bM 0 4 f.hs = true
theorem Gd.first (g : Gd f) : qM f = none := by
 unfold qM
 rw [if_pos g.r, Option.map_eq_none_iff, List.find?_eq_none]
 intro q hq
 simp only [items, bh, bx, or_false] at hq
 rcases hq with rfl | rfl | rfl | rfl | rfl | rfl | rfl | rfl | rfl
 ·simp only [XZ, g.ev, Bool.not_true, bj, not_false_eq_true]
 ·simp only [aAA, g.lo, Bool.not_true, bj, not_false_eq_true]
 ·simp only [aBD, g.sl, Bool.not_true, bj, not_false_eq_true]
 ·simp only [ZM, g.be, Bool.not_true, bj, not_false_eq_true]
 ·simp only [aDX, g.ga, Bool.not_true, bj, not_false_eq_true]
 ·simp only [aB1, g.ho, Bool.not_true, bj, not_false_eq_true]
 ·simp only [ZP, g.ta, Bool.not_true, bj, not_false_eq_true]
 ·simp only [aBJ, g.ti, Bool.not_true, bj, not_false_eq_true]
 ·simp only [YK, g.hs, Bool.not_true, bj, not_false_eq_true]
def EK (f : Fd) : List D := [f.r, f.ev, f.lo, f.sl, kQ f, f.ga, f.ho, f.ta, f.ti, f.hs]
theorem aAg {z : Str} {d : D} (h : w[p]? = some (.ins k.aJ (iJ f))) (hz : (iJ f).lookup z = some d) : T (oQ k.aJ z (.ref p) w) P = P d w := by
 rw [AJ h, hz]
 simp
theorem zS (h : w[p]? = some (.ins k.aJ (iJ f))) (hP : P (.tup (EK f)) w) : T (K06.eI k [.ref p] w) P := by
 unfold K06.eI K06.qB
 rw [eA, aGj, aX]
 have o := fun (z : Str) (d : D) (hz : (iJ f).lookup z = some d) (P : D → W → Prop) => aAg k (P := P) h hz
 simp only [o "ranks" f.r rfl, o "every" f.ev rfl, o "lost" f.lo rfl, o "slow" f.sl rfl, o "bears" (kQ f) rfl, o "gap" f.ga rfl, o "hold" f.ho rfl, o "takes" f.ta rfl, o "ties" f.ti rfl, o "hosts" f.hs rfl, fS, zY, ah, ae, reduceCtorEq]
 have e : eU [D.lst ([f.r, f.ev, f.lo, f.sl, kQ f, f.ga] ++ [f.ho, f.ta, f.ti, f.hs])] w = .ok (.tup (EK f)) w := rfl
 rw [e, b5]
 exact hP
theorem UG (e : SV n d = true) (hn : n ≤ 60) : vR d d w = some true := by
 obtain ⟨p, e1, e2, e3⟩ := Q6 (w := w) e
 refine V3 e1 ?_
 unfold SeqAt.shaped
 rw [ar, aq]
 exact ⟨e2, by omega⟩
theorem xY {v : Int} (h : v ≤ 1000) : pE 6 (.int v) = true := by
 simp only [pE, aq]
 omega
theorem iN.ext {r c b : Nat} (d : iN w r c b) (x : cW w w') : iN w' r c b := by
 obtain ⟨ne, cells, sm, a, h1, h2, h3, h4⟩ := d
 refine ⟨ne, cells, sm, a, ?_, ?_, h3, h4⟩
 ·rw [x.at_ _ (aj.mp h1).1]; exact h1
 ·rw [x.at_ _ (aj.mp h2).1]; exact h2
theorem aDn {b : Bool} : T (CL [.bl b] w) P = P (.int (if b = true then 1 else 0)) w := by unfold T; cases b <;> rfl
theorem SR {t : Int × Int × Int} (h : t.1 ≤ 1000 ∧ t.2.1 ≤ 1000 ∧ t.2.2 ≤ 1000) : pE 5 (dU t) = true := by
 obtain ⟨a, c, d⟩ := t
 simp only [dU, pE, List.all_cons, List.all_nil, List.length_cons, List.length_nil, Bool.and_true, ar, aq]
 simp only at h
 omega
structure Pn where
 rows : List (List Int)
 e : Int
 l : Int
 s : Int
 b : Int
 g : Int
 h : Int
 t : Bool
 cK : List (Int × Int × Int)
 c : Int
def eT (r : List Int) : D := .tup (r.map D.int)
structure kH (q : Pn) (H : Nat) : Prop where
 H1 : 1 ≤ H
 H6 : H ≤ 6
 n1 : 1 ≤ q.rows.length
 n4 : q.rows.length ≤ 4
 rows : ∀ r ∈ q.rows, r.length = H ∧ ∀ x ∈ r, 1 ≤ x ∧ x ≤ 12
 e : 1 ≤ q.e ∧ q.e ≤ 5
 l : 0 ≤ q.l ∧ q.l ≤ 3
 s : 1 ≤ q.s ∧ q.s ≤ 4
 b : 0 ≤ q.b ∧ q.b ≤ 3
 g : 0 ≤ q.g ∧ q.g ≤ 3
 h : 0 ≤ q.h ∧ q.h ≤ 20
 BF : q.cK.length ≤ 6
 cK : ∀ t ∈ q.cK, (0 ≤ t.1 ∧ t.1 < (H : Int)) ∧ (0 ≤ t.2.1 ∧ t.2.1 ≤ 9) ∧ (1 ≤ t.2.2 ∧ t.2.2 ≤ 11)
 rise : iI (q.cK.map fun t => (t.1, t.2.1)) = true
 c : 0 ≤ q.c ∧ q.c ≤ 4
structure Tells (f : Fd) (q : Pn) : Prop where
 r : f.r = .tup (q.rows.map eT)
 ev : f.ev = .int q.e
 lo : f.lo = .int q.l
 sl : f.sl = .int q.s
 be : kQ f = .int q.b
 ga : f.ga = .int q.g
 ho : f.ho = .int q.h
 ta : f.ta = .bl q.t
 ti : f.ti = .tup (q.cK.map dU)
 hs : f.hs = .int q.c
def wD : D → Bool
 | .str x => iP x
 | .int i => decide (0 ≤ i) && decide (i ≤ 20)
 | _ => false
def L3 : D → Str
 | .str x => x
 | .int i => b8 i
 | _ => Str.empty
theorem Z2 (h : wD d = true) : iP (L3 d) = true := by
 cases d <;> first | (simp [wD] at h; done) | skip
 ·simp only [wD, ar, aq] at h
  exact (X5 h.1 h.2).word
 ·exact h
theorem aBq (h : wD d = true) : T (rE [d] w) P = P (.str (L3 d)) w := by
 cases d <;> first | (simp [wD] at h; done) | skip
 ·simp only [wD, ar, aq] at h
  exact W6 h.1 h.2
 ·exact aD1
theorem aDR : (" " : Str).length = 1 := by decide +kernel
theorem SM : ("\n" : Str).length = 1 := by decide +kernel
theorem FJ {ds : List D} (h : ∀ d ∈ ds, wD d = true) (hl : ds.length ≤ 9) : T (joinM (.str (" " : Str)) [.lst (ds.map fun d => D.str (L3 d))] w) P = P (.str (b6 (ds.map L3))) w := by
 have e : (ds.map fun d => D.str (L3 d)) = (ds.map L3).map D.str := by rw [List.map_map]; rfl
 rw [e]
 exact JP (fun p hp => by
  obtain ⟨d, hd, rfl⟩ := bz.mp hp
  have := (zP (Z2 (h d hd))).2
  omega) (by rw [ak]; omega) (by rw [aDR]; omega)
theorem aDs (x : D) : begin sD [x] = [some x, none] := rfl
theorem LQ {ds : List D} (h : ∀ d ∈ ds, wD d = true) (hl : ds.length ≤ 9) (hd : d = .lst ds ∨ d = .tup ds) (hP : P (.str (b6 (ds.map L3))) w) : T (K06.kR k [d] w) P := by
 unfold K06.kR K06.xQ
 rw [eA, aDs]
 have it : ∀ (w : W) (PI : mG → W → Prop), T (iterM d w) PI = PI ⟨ds, always⟩ w := fun w PI => by
  rcases hd with rfl | rfl
  ·exact FT
  ·exact uW
 have ty : ∀ w : W, LZ (.str (" " : Str)) w = some "str" := fun _ => rfl
 simp only [it, ty, zY, ah, ae, reduceCtorEq]
 refine ⟨qS _ (by omega), ?_⟩
 refine fD (it := ⟨ds, always⟩) ds id (fun d => D.str (L3 d)) (by simp) trivial (fun d hd => ?_) ?_
 ·simp only [dP, id_eq, aBq (h d hd), zY, ah, ae, reduceCtorEq]
 ·rw [FJ h hl]
  exact hP
def yn (b : Bool) : Str := if b = true then "yes" else "no"
def lA (q : Pn) : List D := [.int q.e, .int q.l, .int q.s, .int q.b, .int q.g, .int q.h, .str (yn q.t), .int q.c]
def lT (q : Pn) : List Str := "plan" :: (lA q).map L3
def qN (r : List Int) : List Str := "ranks" :: r.map b8
def pV (t : Int × Int × Int) : List Str := ["tie", b8 t.1, b8 t.2.1, b8 t.2.2]
def bB (q : Pn) : List (List Str) := lT q :: (q.rows.map qN ++ q.cK.map pV)
def m1 (q : Pn) : Str := kP (bB q)
theorem AW : iP ("plan" : Str) = true := by decide +kernel
theorem iW : iP ("ranks" : Str) = true := by decide +kernel
theorem uM : iP ("tie" : Str) = true := by decide +kernel
theorem aF7 (b : Bool) : iP (yn b) = true := by cases b <;> decide +kernel
section
variable {q : Pn} {H : Nat}
theorem j8 {i : Int} (h : 0 ≤ i ∧ i ≤ 20) : wD (.int i) = true := by
 simp only [wD, ar, aq]
 exact h
theorem yU (o : kH q H) : ∀ d ∈ lA q, wD d = true := by
 have := o.e
 have := o.l
 have := o.s
 have := o.b
 have := o.g
 have := o.h
 have := o.c
 intro d hd
 simp only [lA, bh, bx, or_false] at hd
 rcases hd with rfl | rfl | rfl | rfl | rfl | rfl | rfl | rfl
 ·exact j8 (by omega)
 ·exact j8 (by omega)
 ·exact j8 (by omega)
 ·exact j8 (by omega)
 ·exact j8 (by omega)
 ·exact j8 (by omega)
 ·exact aF7 q.t
 ·exact j8 (by omega)
theorem DQ (o : kH q H) {r : List Int} (hr : r ∈ q.rows) : ∀ d ∈ r.map D.int, wD d = true := fun d hd => by
 obtain ⟨x, hx, rfl⟩ := bz.mp hd
 have := (o.rows r hr).2 x hx
 exact j8 (by omega)
theorem KH (o : kH q H) {t : Int × Int × Int} (ht : t ∈ q.cK) : ∀ d ∈ [D.int t.1, .int t.2.1, .int t.2.2], wD d = true := fun d hd => by
 have := o.cK t ht
 have := o.H6
 simp only [bh, bx, or_false] at hd
 rcases hd with rfl | rfl | rfl
 ·exact j8 (by omega)
 ·exact j8 (by omega)
 ·exact j8 (by omega)
theorem mL {ds : List D} {x : Str} (hx : iP x = true) (h : ∀ d ∈ ds, wD d = true) : ∀ y ∈ x :: ds.map L3, iP y = true := fun y hy => by
 rcases bh.mp hy with rfl | hy
 ·exact hx
 ·obtain ⟨d, hd, rfl⟩ := bz.mp hy
  exact Z2 (h d hd)
theorem z4 (r : List Int) : qN r = ("ranks" : Str) :: (r.map D.int).map L3 := by
 unfold qN
 rw [List.map_map]
 rfl
theorem nN (o : kH q H) : mX (bB q) := by
 refine ⟨fun ws hw => ?_, ?_, fun h => by cases h⟩
 ·unfold bB at hw
  rcases bh.mp hw with rfl | hw
  ·exact ⟨mL AW (yU o), aa rfl, aa rfl⟩
  ·rcases cf.mp hw with hw | hw
   ·obtain ⟨r, hr, rfl⟩ := bz.mp hw
    have := (o.rows r hr).1
    have := o.H6
    refine ⟨by rw [z4]; exact mL iW (DQ o hr), ?_, ?_⟩
    ·simp [qN]
    ·simp only [qN, List.length_cons, ak]
     omega
   ·obtain ⟨t, ht, rfl⟩ := bz.mp hw
    exact ⟨mL (ds := [D.int t.1, .int t.2.1, .int t.2.2]) uM (KH o ht), aa rfl, aa rfl⟩
 ·have := o.n4
  have := o.BF
  simp only [bB, List.length_cons, bw, ak]
  omega
theorem AL {x : Str} {ds : List D} (hx : iP x = true) (h : ∀ d ∈ ds, wD d = true) (hl : ds.length ≤ 8) : T (joinM (.str (" " : Str)) [.lst ([.str x] ++ ds.map fun d => D.str (L3 d))] w) P = P (.str (b6 (x :: ds.map L3))) w :=
 FJ (ds := .str x :: ds) (fun d hd => by
  rcases bh.mp hd with rfl | hd
  ·exact hx
  ·exact h d hd) (by rw [List.length_cons]; omega)
theorem VT (o : kH q H) : T (joinM (.str ("\n" : Str)) [.lst ((bB q).map fun ws => D.str (b6 ws))] w) P = P (.str (m1 q)) w := by
 have e : ((bB q).map fun ws => D.str (b6 ws)) = ((bB q).map b6).map D.str := by rw [List.map_map]; rfl
 have ok := nN o
 have := ok.l
 rw [e]
 exact JP (fun p hp => by have := ok.aBh p hp; omega) (by rw [ak]; omega) (by rw [SM]; omega)
theorem bet (x : D) : begin pJ [x] = [some x, none, none, none, none, none] := rfl
theorem aBC {bd : D} (t : Tells f q) (hb : bd = .int q.b) : ([f.r, f.ev, f.lo, f.sl] ++ [bd] ++ [f.ga, f.ho] ++ [.str (yn q.t), f.hs]) = f.r :: lA q := by
 rw [hb, t.ev, t.lo, t.sl, t.ga, t.ho, t.hs]
 rfl
theorem cA : Pc.cutD (eV f) none (some 4) = [f.r, f.ev, f.lo, f.sl] := rfl
theorem cB : Pc.cutD (eV f) (some 5) (some 7) = [f.ga, f.ho] := rfl
theorem cC : Pc.cutD (d :: lA q) (some 1) none = lA q := rfl
theorem aCT (o : kH q H) (t : Tells f q) (hP : P (.str (m1 q)) w) : T (K06.lR k [.lst (eV f)] w) P := by
 unfold K06.lR K06.uI
 rw [eA, bet]
 have at1 : ∀ x y : D, atI [x, y] 1 = some y := fun x y => hD (j := 1) rfl
 have ay : (if q.t = true then 1 else 0 : Int) = 0 ∧ yn q.t = ("no" : Str) ∨ (if q.t = true then 1 else 0 : Int) = 1 ∧ yn q.t = ("yes" : Str) := by cases q.t <;> simp [yn]
 have fin : ∀ (bd : D) (z : Str), bd = .int q.b → yn q.t = z → ([f.r, f.ev, f.lo, f.sl].length + 1 ≤ sizeLine ∧ ([f.r, f.ev, f.lo, f.sl] ++ [bd]).length + [f.ga, f.ho].length ≤ sizeLine ∧ ([f.r, f.ev, f.lo, f.sl] ++ [bd] ++ [f.ga, f.ho]).length + 2 ≤ sizeLine ∧ Fl.nx [some (.lst (eV f)), some (.lst ([f.r, f.ev, f.lo, f.sl] ++ [bd] ++ [f.ga, f.ho] ++ [.str z, f.hs])), none, none, none, none] = Fl.nx [some (.lst (eV f)), some (.lst (f.r :: lA q)), none, none, none, none]) := fun bd z hb hz => by
  rw [← hz, aBC t hb]
  exact ⟨qS _ (aa rfl), qS _ (aa rfl), qS _ (aa rfl), rfl⟩
 rw [seq_eq (σ1 := [some (.lst (eV f)), some (.lst (f.r :: lA q)), none, none, none, none]) (w1 := w) (by
  have hb := t.be
  unfold kQ at hb
  cases hn : f.be.isNon with
  | true =>
   rw [hn] at hb
   simp only [ah] at hb
   simp only [slL, b5, fS, qH, aCP, aEd, aEh, aEe, hn, t.ta, aDn, ai, bb, cA, cB, zY, ah, ae, reduceCtorEq]
   rcases ay with ⟨e1, e2⟩ | ⟨e1, e2⟩
   ·simp only [e1, XS, ai, bb]
    exact (fin _ _ hb e2).2
   ·simp only [e1, at1, ai, bb]
    exact (fin _ _ hb e2).2
  | false =>
   rw [hn] at hb
   simp only [bj, ae] at hb
   simp only [slL, b5, fS, qH, aCP, aEd, aEh, aEe, hn, t.ta, aDn, ai, bb, cA, cB, zY, ah, ae, reduceCtorEq]
   rcases ay with ⟨e1, e2⟩ | ⟨e1, e2⟩
   ·simp only [e1, XS, ai, bb]
    exact (fin _ _ hb e2).2
   ·simp only [e1, at1, ai, bb]
    exact (fin _ _ hb e2).2)]
 have ty : ∀ w : W, LZ (.str (" " : Str)) w = some "str" := fun _ => rfl
 have ty2 : ∀ w : W, LZ (.str ("\n" : Str)) w = some "str" := fun _ => rfl
 rw [aX]
 simp only [slL, b5, fS, cC, FT, ty, zY, ah, ae, reduceCtorEq]
 refine ⟨qS _ (aa rfl), ?_⟩
 refine fD (it := ⟨lA q, always⟩) (lA q) id (fun d => D.str (L3 d)) (by simp) trivial (fun d hd => ?_) ?_
 ·simp only [dP, id_eq, aBq (yU o d hd), zY, ah, ae, reduceCtorEq]
 refine ⟨qS _ (aa rfl), ?_⟩
 rw [AL AW (yU o) (aa rfl)]
 rw [aX]
 simp only [aDy, t.r, ai, bb, uW, ty, fS, zY, ah, ae, reduceCtorEq]
 have n4 := o.n4
 refine ⟨qS _ (by rw [ak]; omega), ?_⟩
 refine fD (it := ⟨q.rows.map eT, always⟩) q.rows eT (fun r => D.str (b6 (qN r))) rfl trivial (fun r hr => ?_) ?_
 ·have wr := DQ o hr
  have hl : (r.map D.int).length ≤ 6 := by
   rw [ak]
   have := (o.rows r hr).1
   have := o.H6
   omega
  simp only [dP, eT, uW, ty, fS, zY, ah, ae, reduceCtorEq]
  refine ⟨qS _ (by omega), ?_⟩
  refine fD (it := ⟨r.map D.int, always⟩) (r.map D.int) id (fun d => D.str (L3 d)) (by simp) trivial (fun d hd => ?_) ?_
  ·simp only [dP, id_eq, aBq (wr d hd), zY, ah, ae, reduceCtorEq]
  refine ⟨qS _ (by rw [ak]; omega), ?_⟩
  rw [AL iW wr (by omega), z4]
  exact ⟨rfl, rfl⟩
 refine ⟨qS _ (by rw [ak]; simp; omega), ?_⟩
 rw [aX]
 have n6 := o.BF
 simp only [aDa, t.ti, ai, bb, uW, ty, fS, zY, ah, ae, reduceCtorEq]
 refine ⟨qS _ (by rw [ak]; omega), ?_⟩
 refine fD (it := ⟨q.cK.map dU, always⟩) q.cK dU (fun u => D.str (b6 (pV u))) rfl trivial (fun u hu => ?_) ?_
 ·have wr := KH o hu
  simp only [dP, dU, uW, ty, fS, zY, ah, ae, reduceCtorEq]
  refine fD (it := ⟨[D.int u.1, .int u.2.1, .int u.2.2], always⟩) [D.int u.1, .int u.2.1, .int u.2.2] id (fun d => D.str (L3 d)) (by simp) trivial (fun d hd => ?_) ?_
  ·simp only [dP, id_eq, aBq (wr d hd), zY, ah, ae, reduceCtorEq]
  refine ⟨qS _ (aa rfl), ?_⟩
  rw [AL uM wr (aa rfl)]
  exact ⟨rfl, rfl⟩
 refine ⟨qS _ (by simp; omega), ?_⟩
 simp only [ty2, zY, ah, ae, reduceCtorEq]
 have e : ([D.str (b6 (("plan" : Str) :: (lA q).map L3))] ++ q.rows.map (fun r => D.str (b6 (qN r))) ++ q.cK.map fun u => D.str (b6 (pV u))) = (bB q).map fun ws => D.str (b6 ws) := by
  unfold bB lT
  rw [List.map_cons, cg, List.map_map, List.map_map]
  rfl
 rw [e, VT o]
 exact hP
theorem aFb (x : D) : begin sG [x] = [some x, none, none, none, none] := rfl
theorem LH {x : Str} {ds : List D} (hx : iP x = true) (h : ∀ d ∈ ds, wD d = true) : ∀ d ∈ D.str x :: ds, wD d = true := fun d hd => by
 rcases bh.mp hd with rfl | hd
 ·exact hx
 ·exact h d hd
theorem aCx (hp : w[p]? = some (.ins k.aJ (iJ f))) (o : kH q H) (t : Tells f q) (hP : ∀ w', cW w w' → P (.str (m1 q)) w') : T (K06.iY k [.ref p] w) P := by
 unfold K06.iY K06.xJ
 rw [eA, aFb, aX]
 have of := fun (w' : W) (h : w'[p]? = some (.ins k.aJ (iJ f))) (z : Str) (d : D) (hz : (iJ f).lookup z = some d) (P : D → W → Prop) => aAg k (P := P) h hz
 have o0 := of w hp
 simp only [o0 "every" f.ev rfl, o0 "lost" f.lo rfl, o0 "slow" f.sl rfl, o0 "bears" (kQ f) rfl, o0 "gap" f.ga rfl, o0 "hold" f.ho rfl, o0 "takes" f.ta rfl, o0 "hosts" f.hs rfl, t.ev, t.lo, t.sl, t.be, t.ga, t.ho, t.ta, t.hs, fS, zY, ah, ae, reduceCtorEq]
 rw [seq_eq (σ1 := [some (.ref p), some (.lst [.int q.e, .int q.l, .int q.s, .int q.b, .int q.g, .int q.h]), some (.ref w.length), none, none]) (w1 := w ++ [.lst [.str (b6 (lT q))]]) (by
  simp only [o0 "takes" f.ta rfl, o0 "hosts" f.hs rfl, t.ta, t.hs, fS, zY, ah, ae, reduceCtorEq]
  have tw := fun (z : Str) (hz : yn q.t = z) (P : D → W → Prop) (hP : P (.str (b6 (lT q))) w) => LQ k (w := w) (P := P) (d := .lst ([.str ("plan" : Str)] ++ [.int q.e, .int q.l, .int q.s, .int q.b, .int q.g, .int q.h] ++ [.str z, .int q.c])) (ds := .str ("plan" : Str) :: lA q) (LH AW (yU o)) (aa rfl) (.inl (by rw [← hz]; rfl)) hP
  cases ht : q.t with
  | true =>
   simp only [ah]
   refine ⟨qS _ (aa rfl), ?_⟩
   refine tw _ (by rw [ht]; rfl) _ ?_
   exact ⟨rfl, rfl⟩
  | false =>
   simp only [bj, ae]
   refine ⟨qS _ (aa rfl), ?_⟩
   refine tw _ (by rw [ht]; rfl) _ ?_
   exact ⟨rfl, rfl⟩)]
 obtain ⟨w1, e1⟩ : ∃ w1, w1 = w ++ [MO.lst [.str (b6 (lT q))]] := ⟨_, rfl⟩
 obtain ⟨i, ei⟩ : ∃ i, i = w.length := ⟨_, rfl⟩
 have lp := (aj.mp hp).1
 have x1 : cW w w1 := by rw [e1]; exact cW.refl.app _
 have hp1 : w1[p]? = some (.ins k.aJ (iJ f)) := by rw [x1.at_ p lp]; exact hp
 have hi : w1[i]? = some (.lst [.str (b6 (lT q))]) := by rw [e1, ei, bg (av _)]; simp
 have ip : i ≠ p := by omega
 have hP1 : ∀ o, P (.str (m1 q)) (w1.set i o) := fun o => hP _ (x1.set (by omega) o)
 rw [← e1, ← ei]
 clear e1 ei hP x1
 have o1 := of w1 hp1
 rw [aX]
 have n4 := o.n4
 have n6 := o.BF
 simp only [tyL hi, o1 "ranks" f.r rfl, t.r, uW, zY, ah, ae, reduceCtorEq]
 refine ⟨qS _ (by rw [ak]; omega), ?_⟩
 refine fD (it := ⟨q.rows.map eT, always⟩) q.rows eT (fun r => D.str (b6 (qN r))) rfl trivial (fun r hr => ?_) ?_
 ·have wr := DQ o hr
  have hl : r.length ≤ 6 := by
   have := (o.rows r hr).1
   have := o.H6
   omega
  simp only [dP, eT, q9, zY, ah, ae, reduceCtorEq]
  refine ⟨qS _ (by rw [ak]; simp; omega), ?_⟩
  refine LQ k (ds := .str ("ranks" : Str) :: r.map D.int) (LH iW wr) (by rw [List.length_cons, ak]; omega) (.inr rfl) ?_
  rw [z4]
  exact ⟨rfl, rfl⟩
 rw [aAa hi]
 refine ⟨qS _ (by simp; omega), ?_⟩
 obtain ⟨L1, eL⟩ : ∃ L, L = [D.str (b6 (lT q))] ++ q.rows.map fun r => D.str (b6 (qN r)) := ⟨_, rfl⟩
 obtain ⟨w2, e2⟩ : ∃ w2, w2 = w1.set i (.lst L1) := ⟨_, rfl⟩
 rw [← eL, ← e2]
 have li := (aj.mp hi).1
 have hi2 : w2[i]? = some (.lst L1) := by rw [e2]; exact az li
 have hp2 : w2[p]? = some (.ins k.aJ (iJ f)) := by rw [e2, bc ip]; exact hp1
 have hP2 : ∀ o, P (.str (m1 q)) (w2.set i o) := fun o => by rw [e2, List.set_set]; exact hP1 o
 have lL : L1.length ≤ 5 := by rw [eL]; simp; omega
 clear e2 hP1 o1 hi hp1 li
 have o2 := of w2 hp2
 rw [aX]
 simp only [tyL hi2, o2 "ties" f.ti rfl, t.ti, uW, zY, ah, ae, reduceCtorEq]
 refine ⟨qS _ (by rw [ak]; omega), ?_⟩
 refine fD (it := ⟨q.cK.map dU, always⟩) q.cK dU (fun u => D.str (b6 (pV u))) rfl trivial (fun u hu => ?_) ?_
 ·have wr := KH o hu
  simp only [dP, dU, q9, zY, ah, ae, reduceCtorEq]
  refine LQ k (ds := .str ("tie" : Str) :: [D.int u.1, .int u.2.1, .int u.2.2]) (LH uM wr) (aa rfl) (.inr rfl) ?_
  exact ⟨rfl, rfl⟩
 rw [aAa hi2]
 refine ⟨qS _ (by rw [ak]; omega), ?_⟩
 have ty2 : ∀ w : W, LZ (.str ("\n" : Str)) w = some "str" := fun _ => rfl
 simp only [ty2, zY, ah, ae, reduceCtorEq]
 have e : (L1 ++ q.cK.map fun u => D.str (b6 (pV u))) = ((bB q).map b6).map D.str := by
  rw [eL]
  unfold bB lT
  rw [List.map_map, List.map_cons, cg, List.map_map, List.map_map]
  rfl
 have ok := nN o
 have := ok.l
 rw [e]
 rw [aBx (q := i) (ys := (bB q).map b6) (az (aj.mp hi2).1) (fun p hp => by have := ok.aBh p hp; omega) (by rw [ak]; omega) (by rw [SM]; omega)]
 exact hP2 _
theorem aEC (x y z : D) : begin oR [x, y, z] = [some x, some y, some z, none, none] := rfl
theorem aDp {m : ME} {σ : Sg} {PI : mG → W → Prop} : T (aBX m σ w) PI = T (m σ w) fun d w1 => T (aAm d w1) PI := by unfold aBX; rw [bC]
theorem aEk {x : Str} {PI : mG → W → Prop} : T (aAm (.str x) w) PI = PI ⟨nW x, always⟩ w := by unfold T; rfl
theorem aGg {x : Str} (h : x.length ≤ 1000) : T (cY [.str x] w) P = P (.int x.length) w := by
 have e : FZ (.str x) w = some x.length := by
  unfold FZ
  simp only []
  rw [if_pos (by rw [sizeLine_eq]; omega)]
 rw [UP, e]
 simp
theorem N8 {i lo hi : Int} (h : 0 ≤ i ∧ i ≤ 20) (h2 : lo ≤ i ∧ i ≤ hi) (hP : P (.int i) w) : T (K06.jC k [.str (b8 i), .int lo, .int hi] w) P := by
 have ok := X5 h.1 h.2
 unfold K06.jC K06.tN
 rw [eA, aEC, aX]
 have o1 := ok.one
 have o2 := ok.two
 have sk := fZ ok.word
 have d1 : decide ((1 : Int) ≤ ((b8 i).length : Nat)) = true := by rw [aq]; omega
 have d2 : decide (((b8 i).length : Nat) ≤ (2 : Int)) = true := by rw [aq]; omega
 have d3 : decide (lo ≤ i) = true := by rw [aq]; exact h2.1
 have d4 : decide (i ≤ hi) = true := by rw [aq]; exact h2.2
 have ld : (b8 i).cps.toList.length ≤ 2 := by rw [← TL.len_tl]; exact o2
 simp only [aGg (show (b8 i).length ≤ 1000 by omega), aDp, aEk, d1, d2, Bool.not_true, zY, ah, ae, reduceCtorEq]
 refine ⟨qS _ (by rw [nW, ak]; omega), ?_⟩
 refine fD (it := ⟨nW (b8 i), always⟩) (b8 i).cps.toList (fun c => D.str ⟨#[c]⟩) (fun c => D.bl (decide (c ∈ ("0123456789" : Str).cps.toList))) rfl trivial (fun c hc => ?_) ?_
 ·simp only [dP, aDc, zY, ah, ae, reduceCtorEq]
 rw [A4 (b8 i).cps.toList fun c => decide (c ∈ ("0123456789" : Str).cps.toList)]
 have dg : ((b8 i).cps.toList.all fun c => decide (c ∈ ("0123456789" : Str).cps.toList)) = true := ok.ZN
 rw [dg]
 simp only [Bool.not_true, zY, ah, ae, reduceCtorEq]
 rw [aX]
 simp only [aB8 ok, zY, ah, ae, reduceCtorEq]
 have se : ∀ w, vR (.str (b8 i)) (.str (b8 i)) w = some true := fun w => by rw [E4 sk sk]; simp
 simp only [W6 h.1 h.2, C7 (se w), d3, d4, zY, ah, ae, reduceCtorEq]
 exact hP
end
section
variable {q : Pn} {H : Nat}
def gJ (w : W) (a : Nat) (hd : D) (rs : List (List Int)) (cs : List (Int × Int × Int)) : Prop := w[a]? = some (.ins k.aK [("head", hd), ("rows", .tup (rs.map eT)), ("cords", .tup (cs.map dU))])
def kS (q : Pn) : List (Key × D) := [(.inr "every", .int q.e), (.inr "lost", .int q.l), (.inr "slow", .int q.s), (.inr "bears", .int q.b), (.inr "gap", .int q.g), (.inr "hold", .int q.h), (.inr "hosts", .int q.c)]
def yH (q : Pn) : List (Key × D) := kS q ++ [(.inr "takes", .bl q.t)]
def aB3 (q : Pn) : List (Str × Int × Int × Int) := [("every", 1, 5, q.e), ("lost", 0, 3, q.l), ("slow", 1, 4, q.s), ("bears", 0, 3, q.b), ("gap", 0, 3, q.g), ("hold", 0, 20, q.h), ("hosts", 0, 4, q.c)]
theorem aBe (o : kH q H) : ∀ r ∈ aB3 q, K06.dC.lookup r.1 = some (some (.jL [.int r.2.1, .int r.2.2.1])) ∧ (0 ≤ r.2.2.2 ∧ r.2.2.2 ≤ 20) ∧ (r.2.1 ≤ r.2.2.2 ∧ r.2.2.2 ≤ r.2.2.1) := by
 have := o.e
 have := o.l
 have := o.s
 have := o.b
 have := o.g
 have := o.h
 have := o.c
 intro r hr
 simp only [aB3, bh, bx, or_false] at hr
 rcases hr with rfl | rfl | rfl | rfl | rfl | rfl | rfl
 ·exact ⟨rfl, by simp only []; omega, by simp only []; omega⟩
 ·exact ⟨rfl, by simp only []; omega, by simp only []; omega⟩
 ·exact ⟨rfl, by simp only []; omega, by simp only []; omega⟩
 ·exact ⟨rfl, by simp only []; omega, by simp only []; omega⟩
 ·exact ⟨rfl, by simp only []; omega, by simp only []; omega⟩
 ·exact ⟨rfl, by simp only []; omega, by simp only []; omega⟩
 ·exact ⟨rfl, by simp only []; omega, by simp only []; omega⟩
theorem Z5 {i : Nat} {r : Str × Int × Int × Int} (h : (aB3 q)[i]? = some r) : putD ((kS q).take i) (.inr r.1) (.int r.2.2.2) = (kS q).take (i + 1) := by
 have hi : i < 7 := (aj.mp h).1
 rcases (show i = 0 ∨ i = 1 ∨ i = 2 ∨ i = 3 ∨ i = 4 ∨ i = 5 ∨ i = 6 by omega) with rfl | rfl | rfl | rfl | rfl | rfl | rfl <;> (cases h; rfl)
theorem HU : putD (kS q) (.inr "takes") (.bl q.t) = yH q := rfl
theorem TK {dd : Nat} {kvs : List (Key × D)} {i : D} {ky : Key} {PU : Unit → W → Prop} (h : w[dd]? = some (.dK kvs)) (hk : keyD i = some ky) (hl : kvs.length ≤ 1000) : T (setM (.ref dd) i d w) PU = PU () (w.set dd (.dK (putD kvs ky d))) := by
 have : setM (.ref dd) i d w = .ok () (w.set dd (.dK (putD kvs ky d))) := by
  simp only [setM, h, hk, if_pos (show kvs.length < sizeLine by rw [sizeLine_eq]; omega)]
 rw [this, b5]
theorem WB {xs : List Int} : inD .non (.lst (xs.map D.int)) w = some false := by
 show oB .non (.lst (xs.map D.int)) w = _
 unfold oB
 have e1 : D.py w .non = some .none := rfl
 rw [e1, UX]
 have l1 : SeqAt.shaped .none = true := by simp [SeqAt.shaped, PyData.canLay0, PyData.depth]
 simp only [l1, lay_ints, and_self, ah]
 congr 1
 rw [List.any_map, List.any_eq_false]
 intro x _
 simp [PyData.eqv]
theorem ZY {a : Addr} {tab : List (Str × Option D)} {z : Str} {o : Option D} (h : tab.lookup z = some o) : T (zE a tab (.str z) (.con a) w) P = P (.bl (!o.isSome)) w := by
 simp only [zE, ah, h, b5]
theorem ZR (b : Bool) : K06.qT.lookup (yn b) = some (some (.bl b)) := by cases b <;> rfl
def AR (q : Pn) : List D := [.str (b8 q.e), .str (b8 q.l), .str (b8 q.s), .str (b8 q.b), .str (b8 q.g), .str (b8 q.h), .str (yn q.t), .str (b8 q.c)]
theorem hsA : atI (AR q) (-2) = some (.str (yn q.t)) := rfl
theorem hsB : Pc.cutD (AR q) none (some (-2)) = [.str (b8 q.e), .str (b8 q.l), .str (b8 q.s), .str (b8 q.b), .str (b8 q.g), .str (b8 q.h)] := rfl
theorem hsC : Pc.cutD (AR q) (some (-1)) none = [.str (b8 q.c)] := rfl
theorem aBd {a b : List D} (ha : a ≠ []) (hb : b ≠ []) (hl : a.length + b.length ≤ 1000) : T (FG (.jL a) (.tup b) w) P = P (.tup (a ++ b)) w := by
 have : FG (.jL a) (.tup b) w = .ok (.tup (a ++ b)) w := by
  simp only [FG, if_pos (show a ≠ [] ∧ b ≠ [] ∧ a.length + b.length ≤ sizeLine from ⟨ha, hb, by rw [sizeLine_eq]; omega⟩)]
 rw [this, b5]
theorem aCc {σ : Sg} : T (S7 σ w) P = P (.ref w.length) (w ++ [.dK []]) := by unfold S7; rw [b5]
theorem aBF {dd : Nat} {kvs : List (Key × D)} (h : w[dd]? = some (.dK kvs)) : T (A8 (.ref dd) w) P = P (.lst (kvs.map fun kv => kv.2)) w := by
 simp only [A8, h, b5]
theorem VZ : ((kS q).map fun kv => kv.2) = [q.e, q.l, q.s, q.b, q.g, q.h, q.c].map D.int := rfl
theorem aDI : T (FG (.jL [D.str ("every" : Str), .str ("lost" : Str), .str ("slow" : Str), .str ("bears" : Str), .str ("gap" : Str), .str ("hold" : Str)]) (.tup [D.str ("hosts" : Str)]) w) P = P (.tup ([D.str ("every" : Str), .str ("lost" : Str), .str ("slow" : Str), .str ("bears" : Str), .str ("gap" : Str), .str ("hold" : Str)] ++ [D.str ("hosts" : Str)])) w := aBd (List.cons_ne_nil _ _) (List.cons_ne_nil _ _) (aa rfl)
def aDK (q : Pn) : List D := (aB3 q).map fun r => .tup [.str r.1, .str (b8 r.2.2.2)]
theorem aGn (x y : D) : begin fM [x, y] = [some x, some y, none, none, none, none, none] := rfl
theorem aDN {a : Nat} {w0 : W} (o : kH q H) (ha : gJ k w a .non [] []) (x0 : cW w0 w) (la : w0.length ≤ a) (hP : ∀ w' dd, cW w0 w' → gJ k w' a (.ref dd) [] [] → w0.length ≤ dd → dd ≠ a → w'[dd]? = some (.dK (yH q)) → P (.bl true) w') : T (K06.eM k [.ref a, .lst (AR q)] w) P := by
 unfold K06.eM K06.g9
 rw [eA, aGn, aX]
 have l8 : ((AR q).length : Int) == ((0 + 1 + 1 + 1 + 1 + 1 + 1 : Nat) : Int) + 2 := rfl
 simp only [l8, hsA, ai, bb, ZY (ZR q.t), Option.isSome_some, Bool.not_true, zY, ah, ae, reduceCtorEq]
 rw [aX]
 simp only [aCc, zY, ah, ae, reduceCtorEq]
 obtain ⟨dd, edd⟩ : ∃ dd, dd = w.length := ⟨_, rfl⟩
 obtain ⟨w1, e1⟩ : ∃ w1, w1 = w ++ [MO.dK []] := ⟨_, rfl⟩
 rw [← e1, ← edd]
 have la1 := (aj.mp ha).1
 have ha1 : gJ k w1 a .non [] [] := by
  unfold gJ
  rw [e1, au la1]
  exact ha
 have hd1 : w1[dd]? = some (.dK ((kS q).take 0)) := by rw [e1, edd, bg (av _)]; simp
 have x1 : cW w0 w1 := by rw [e1]; exact x0.app _
 have ld : w0.length ≤ dd := by rw [edd]; exact x0.le
 have nd : dd ≠ a := by omega
 clear e1 edd ha la1 x0
 rw [aX]
 simp only [slL, b5, hsB, hsC, fS, aDI, aFW, zY, ah, ae, reduceCtorEq]
 refine ⟨rfl, ?_⟩
 refine Lb.DM (it := ⟨aDK q, always⟩) (fun i σ w' => cW w0 w' ∧ gJ k w' a .non [] [] ∧ w'[dd]? = some (.dK ((kS q).take i)) ∧ ∃ s3 s4 s5 s6, σ = [some (.ref a), some (.lst (AR q)), some (.ref dd), s3, s4, s5, s6]) (fun _ _ _ _ => trivial) ⟨x1, ha1, hd1, _, _, _, _, rfl⟩ (fun i x σ w2 hx hI => ?_) (fun σ w2 hI => ?_)
 ·obtain ⟨x2, ha2, hd2, s3, s4, s5, s6, rfl⟩ := hI
  unfold aDK at hx
  rw [bt] at hx
  obtain ⟨r, hr, rfl⟩ := ao.mp hx
  obtain ⟨h1, h2, h3⟩ := aBe o r (bu hr)
  simp only [zY, ah, ae, reduceCtorEq]
  rw [aX]
  simp only [YF h1, zY, ah, ae, reduceCtorEq]
  refine N8 k h2 h3 ?_
  have l7 : ((kS q).take i).length ≤ 1000 := by
   have : (kS q).length = 7 := rfl
   rw [cj]
   omega
  have la2 := (aj.mp ha2).1
  simp only [TK hd2 (show Pc.keyD (.str r.1) = some (.inr r.1) from rfl) l7, zY, ah, ae, reduceCtorEq]
  rw [Z5 hr]
  refine ⟨x2.set ld _, ?_, az (aj.mp hd2).1, _, _, _, _, rfl⟩
  unfold gJ
  rw [bc nd]
  exact ha2
 ·obtain ⟨x2, ha2, hd2, s3, s4, s5, s6, rfl⟩ := hI
  have e7 : (kS q).take (aDK q).length = kS q := rfl
  simp only [e7] at hd2
  try simp only [eN]
  rw [aX]
  simp only [aBF hd2, VZ, aAG, WB, ai, bb, zY, ah, ae, reduceCtorEq]
  rw [aX]
  refine oM ha2 rfl rfl (aa rfl) ?_
  rw [eN]
  obtain ⟨w3, e3⟩ : ∃ w3, w3 = w2.set a (.ins k.aK [("head", .ref dd), ("rows", .tup (([] : List (List Int)).map eT)), ("cords", .tup (([] : List (Int × Int × Int)).map dU))]) := ⟨_, rfl⟩
  have ha3 : gJ k w3 a (.ref dd) [] [] := by rw [e3]; exact az (aj.mp ha2).1
  have hd3 : w3[dd]? = some (.dK (kS q)) := by rw [e3, bc (Ne.symm nd)]; exact hd2
  have x3 : cW w0 w3 := by rw [e3]; exact x2.set la _
  show T (aH _ _ _ (w2.set a (.ins k.aK [("head", .ref dd), ("rows", .tup (([] : List (List Int)).map eT)), ("cords", .tup (([] : List (Int × Int × Int)).map dU))]))) _
  rw [← e3]
  clear e3 ha2 hd2 x2
  rw [aX]
  have fh : ∀ P : D → W → Prop, T (oQ k.aK ("head" : Str) (.ref a) w3) P = P (.ref dd) w3 := fun P => by
   rw [AJ ha3]
   simp [List.lookup]
  simp only [hsA, ai, bb, YF (ZR q.t), fh, TK hd3 (show Pc.keyD (.str ("takes" : Str)) = some (.inr "takes") from rfl) (show (kS q).length ≤ 1000 from aa rfl), HU, zY, ah, ae, reduceCtorEq]
  refine hP _ dd (x3.set ld _) ?_ ld nd (az (aj.mp hd3).1)
  unfold gJ
  rw [bc nd]
  exact ha3
section
variable {a : Nat} {hd : D} {rs : List (List Int)} {cs : List (Int × Int × Int)} {w0 : W}
theorem gJ.head (h : gJ k w a hd rs cs) : T (oQ k.aK ("head" : Str) (.ref a) w) P = P hd w := by
 rw [AJ h]
 simp [List.lookup]
theorem gJ.rows (h : gJ k w a hd rs cs) : T (oQ k.aK ("rows" : Str) (.ref a) w) P = P (.tup (rs.map eT)) w := by
 rw [AJ h]
 have e : ([("head", hd), ("rows", .tup (rs.map eT)), ("cords", .tup (cs.map dU))] : List (Str × D)).lookup ("rows" : Str) = some (.tup (rs.map eT)) := rfl
 rw [e]
 simp
theorem gJ.CF (h : gJ k w a hd rs cs) : T (oQ k.aK ("cords" : Str) (.ref a) w) P = P (.tup (cs.map dU)) w := by
 rw [AJ h]
 have e : ([("head", hd), ("rows", .tup (rs.map eT)), ("cords", .tup (cs.map dU))] : List (Str × D)).lookup ("cords" : Str) = some (.tup (cs.map dU)) := rfl
 rw [e]
 simp
theorem GN {xs : List Int} : inD .non (.tup (xs.map D.int)) w = some false := by
 show oB .non (.tup (xs.map D.int)) w = _
 unfold oB
 have e1 : D.py w .non = some .none := rfl
 rw [e1, YI]
 have l1 : SeqAt.shaped .none = true := by simp [SeqAt.shaped, PyData.canLay0, PyData.depth]
 simp only [l1, VN, and_self, ah]
 congr 1
 rw [List.any_map, List.any_eq_false]
 intro x _
 simp [PyData.eqv]
theorem ne_nil {xs : List D} : T (mQ (.tup xs) (.tup []) w) P = P (.bl (!xs.isEmpty)) w := by
 rw [P4, AM]
 simp
theorem eq_nil {xs : List D} : T (fG (.tup xs) (.tup []) w) P = P (.bl xs.isEmpty) w := by
 rw [AH, AM]
 simp
theorem aFc (x y : D) : begin eZ [x, y] = [some x, some y, none, none] := rfl
theorem aBO {r : List Int} (ha : gJ k w a hd rs []) (x0 : cW w0 w) (la : w0.length ≤ a) (hr : r.length = H ∧ ∀ x ∈ r, 1 ≤ x ∧ x ≤ 12) (H1 : 1 ≤ H) (H6 : H ≤ 6) (h4 : rs.length < 4) (hrs : ∀ y ∈ rs, y.length = H)
  (hP : ∀ w', cW w0 w' → (∀ j, j ≠ a → w'[j]? = w[j]?) → gJ k w' a hd (rs ++ [r]) [] → P (.bl true) w') : T (K06.cH k [.ref a, .lst (r.map fun x => D.str (b8 x))] w) P := by
 unfold K06.cH K06.fE
 rw [eA, aFc, aX]
 have lr := hr.1
 simp only [FT, zY, ah, ae, reduceCtorEq]
 refine ⟨qS _ (by rw [ak]; omega), ?_⟩
 refine fD (it := ⟨r.map fun x => D.str (b8 x), always⟩) r (fun x => D.str (b8 x)) D.int rfl trivial (fun x hx => ?_) ?_
 ·have := hr.2 x hx
  simp only [dP, zY, ah, ae, reduceCtorEq]
  refine N8 k (by omega) (by omega) ?_
  exact ⟨rfl, rfl⟩
 simp only [N4, zY, ah, ae, reduceCtorEq]
 rw [aX]
 have d1 : decide ((1 : Int) ≤ (r.length : Nat)) = true := by rw [aq]; omega
 have d2 : decide (((r.length : Nat) : Int) ≤ 6) = true := by rw [aq]; omega
 have d3 : (((rs.length : Nat) : Int) == 4) = false := by
  rw [beq_eq_false_iff_ne]
  omega
 simp only [aAG, GN, ai, bb, ak, d1, d2, d3, ha.rows, Bool.not_true, Bool.not_false, AH, lN, zY, ah, ae, reduceCtorEq]
 have la1 := (aj.mp ha).1
 have fin : T (aH (cI k.aK ("rows" : Str) (aB 0) (aC bQ (bG k.aK ("rows" : Str) (aB 0)) (bW (aA (aB 2) aD)))) (aZ (eC (.bl true))) [some (.ref a), some (.lst (r.map fun x => D.str (b8 x))), some (.tup (r.map D.int)), none] w) (fun f w1 => match f with
   | .nx _ => P .non w1
   | .rt d => P d w1
   | _ => False) := by
  rw [aX]
  simp only [ha.rows, q9, zY, ah, ae, reduceCtorEq]
  refine ⟨qS _ (by rw [ak]; omega), ?_⟩
  rw [qP ha]
  refine ⟨aa rfl, ?_⟩
  refine hP _ (x0.set la _) (fun j hj => bc (Ne.symm hj)) ?_
  unfold gJ
  rw [az la1, cg]
  rfl
 rw [aX]
 simp only [ha.rows, ne_nil, vW, wQ, zY, ah, ae, reduceCtorEq]
 cases rs with
 | nil =>
  simp only [List.map_nil, List.isEmpty_nil, Bool.not_true, zY, ah, ae, reduceCtorEq]
  exact fin
 | cons r0 rest =>
  have l0 : r0.length = r.length := by rw [lr]; exact hrs r0 (bf ..)
  have dl : (!((r.length : Int) == (r0.length : Nat))) = false := by rw [l0]; simp
  simp only [List.map_cons, List.isEmpty_cons, Bool.not_false, ha.rows, eT, XS, ai, bb, ak, dl, zY, ah, ae, reduceCtorEq]
  exact fin
theorem aFu (x y : D) : begin fX [x, y] = [some x, some y, none, none] := rfl
theorem aCu : K06.jP k = Lb.jP (lk k) := rfl
theorem LA {t : Int × Int × Int} (h : (0 ≤ t.1 ∧ t.1 < (H : Int)) ∧ (0 ≤ t.2.1 ∧ t.2.1 ≤ 9) ∧ (1 ≤ t.2.2 ∧ t.2.2 ≤ 11)) : vU (H : Int) (dU t) = true := by
 unfold dU
 simp only [vU, bM, ar, aq]
 omega
theorem aFh {t : Int × Int × Int} (ha : gJ k w a hd rs cs) (x0 : cW w0 w) (la : w0.length ≤ a) (ht : (0 ≤ t.1 ∧ t.1 < (H : Int)) ∧ (0 ≤ t.2.1 ∧ t.2.1 ≤ 9) ∧ (1 ≤ t.2.2 ∧ t.2.2 ≤ 11)) (H6 : H ≤ 6) (hn : rs ≠ []) (hrs : ∀ y ∈ rs, y.length = H) (h6 : cs.length < 6)
  (hc : cs = [] ∨ ∃ ini l, cs = ini ++ [l] ∧ HT.lexLt [l.1, l.2.1] [t.1, t.2.1] = true)
  (hP : ∀ w', cW w0 w' → (∀ j, j ≠ a → w'[j]? = w[j]?) → gJ k w' a hd rs (cs ++ [t]) → P (.bl true) w') : T (K06.cS k [.ref a, .lst [.str (b8 t.1), .str (b8 t.2.1), .str (b8 t.2.2)]] w) P := by
 unfold K06.cS K06.fY
 rw [eA, aFu, aX]
 simp only [FT, zY, ah, ae, reduceCtorEq]
 refine fD (it := ⟨[D.str (b8 t.1), .str (b8 t.2.1), .str (b8 t.2.2)], always⟩) [t.1, t.2.1, t.2.2] (fun x => D.str (b8 x)) D.int rfl trivial (fun x hx => ?_) ?_
 ·have hx : 0 ≤ x ∧ x ≤ 12 := by
   simp only [bh, bx, or_false] at hx
   rcases hx with rfl | rfl | rfl <;> omega
  simp only [dP, zY, ah, ae, reduceCtorEq]
  refine N8 k (by omega) (by omega) ?_
  exact ⟨rfl, rfl⟩
 simp only [N4, zY, ah, ae, reduceCtorEq]
 show T (aH _ _ [_, _, some (dU t), _] w) _
 obtain ⟨r0, rest, rfl⟩ := List.exists_cons_of_ne_nil hn
 have l0 : r0.length = H := hrs r0 (bf ..)
 rw [aX]
 have okt : pE 6 (dU t) = true := SR ⟨by omega, by omega, by omega⟩
 have e6 : (((cs.length : Nat) : Int) == 6) = false := by
  rw [beq_eq_false_iff_ne]
  omega
 simp only [ha.rows, List.map_cons, eT, XS, ai, bb, ak, aCu, zY, ah, ae, reduceCtorEq]
 refine X1 (lk k) okt ?_
 rw [l0, LA ht]
 simp only [Bool.not_true, ha.CF, ak, e6, zY, ah, ae, reduceCtorEq]
 have la1 := (aj.mp ha).1
 have fin : T (aH (cI k.aK ("cords" : Str) (aB 0) (aC bQ (bG k.aK ("cords" : Str) (aB 0)) (bW (aA (aB 2) aD)))) (aZ (eC (.bl true))) [some (.ref a), some (.lst [D.str (b8 t.1), .str (b8 t.2.1), .str (b8 t.2.2)]), some (dU t), none] w) (fun f w1 => match f with
   | .nx _ => P .non w1
   | .rt d => P d w1
   | _ => False) := by
  rw [aX]
  simp only [ha.CF, q9, zY, ah, ae, reduceCtorEq]
  refine ⟨qS _ (by rw [ak]; omega), ?_⟩
  rw [qP ha]
  refine ⟨aa rfl, ?_⟩
  refine hP _ (x0.set la _) (fun j hj => bc (Ne.symm hj)) ?_
  unfold gJ
  rw [az la1, cg]
  rfl
 rw [aX]
 simp only [ha.CF, ne_nil, vW, wQ, zY, ah, ae, reduceCtorEq]
 rcases hc with rfl | ⟨ini, l, rfl, hlt⟩
 ·simp only [List.map_nil, List.isEmpty_nil, Bool.not_true, zY, ah, ae, reduceCtorEq]
  exact fin
 ·have en : (((ini ++ [l]).map dU).isEmpty) = false := by simp
  have ea : atI ((ini ++ [l]).map dU) (-1) = some (dU l) := by
   rw [cg]
   exact aCb
  have g1 : IM [l.1, l.2.1] [t.1, t.2.1] = false := by
   have h : l.1 < t.1 ∨ (l.1 = t.1 ∧ l.2.1 < t.2.1) := by
    simp only [HT.lexLt_cons, HT.lexLt_nil_nil] at hlt
    by_cases c1 : l.1 = t.1
    ·rw [if_pos c1] at hlt
     by_cases c2 : l.2.1 = t.2.1
     ·rw [if_pos c2] at hlt
      cases hlt
     ·rw [if_neg c2, aq] at hlt
      exact .inr ⟨c1, hlt⟩
    ·rw [if_neg c1, aq] at hlt
     exact .inl hlt
   rcases h with h | ⟨h1, h2⟩
   ·have n1 : ¬ l.1 = t.1 := by omega
    have n2 : ¬ t.1 ≤ l.1 := by omega
    simp [IM, Ob.lexAt, n1, n2]
   ·have n1 : ¬ l.2.1 = t.2.1 := by omega
    have n2 : ¬ t.2.1 ≤ l.2.1 := by omega
    simp [IM, Ob.lexAt, h1, n1, n2]
  have sl : ∀ (u : Int × Int × Int) (w : W), iU (dU u) none (some 2) w = .ok (.tup [.int u.1, .int u.2.1]) w := fun _ _ => rfl
  have ge : ∀ (w : W) (P : D → W → Prop), T (geA (.tup [.int l.1, .int l.2.1]) (.tup [.int t.1, .int t.2.1]) w) P = P (.bl (IM [l.1, l.2.1] [t.1, t.2.1])) w := fun w P => by unfold T; rfl
  simp only [en, Bool.not_false, ea, ai, bb, ha.CF, sl, b5, ge, g1, zY, ah, ae, reduceCtorEq]
  exact fin
theorem aGa (x y : D) : begin gP [x, y] = [some x, some y, none, none] := rfl
theorem mO {nm : Str} {fs : List (Str × D)} (h : w[a]? = some (.ins k.aK fs)) (hl : fs.lookup nm = none) : sT k.aK nm (.ref a) w = some a := by
 unfold sT
 simp only [h, hl, and_self, ah]
theorem DG {x y : Str} (hx : PyData.strOk x = true) (hy : PyData.strOk y = true) : T (fG (.str x) (.str y) w) P = P (.bl (decide (x = y))) w := C7 (E4 hx hy)
def bGo : MS := (aH (dW (bA (aC isM (bG k.aK ("head" : Str) (aB 0)) (eC .non))) (aZ (jM (aC fG (aB 2) (eC (.str ("plan" : Str)))) (gB k.aK ("takes_head" : Str) (eM k) 2 aP (aB 0) (aA (aB 3) aD)))) aW)
 (aH (dW (gI (bA (aC fG (aB 2) (eC (.str ("ranks" : Str))))) (bA (aC fG (bG k.aK ("cords" : Str) (aB 0)) (bW aD)))) (aZ (gB k.aK ("takes_ranks" : Str) (cH k) 2 aP (aB 0) (aA (aB 3) aD))) aW)
 (aZ (jM (aC fG (aB 2) (eC (.str ("tie" : Str)))) (jM (aC mQ (bG k.aK ("rows" : Str) (aB 0)) (bW aD)) (gB k.aK ("takes_tie" : Str) (cS k) 2 aP (aB 0) (aA (aB 3) aD)))))))
theorem t7 {x : Str} {ws : List Str} (h : ∀ y ∈ x :: ws, iP y = true) (hl : ws.length ≤ 8)
  (hP : T (bGo k [some (.ref a), some (.str (b6 (x :: ws))), some (.str x), some (.lst (ws.map D.str))] w) fun f w1 => match f with
   | .nx _ => P .non w1
   | .rt d => P d w1
   | _ => False) : T (K06.bP k [.ref a, .str (b6 (x :: ws))] w) P := by
 unfold K06.bP K06.kF
 rw [eA, aGa, aX]
 have ll := QH h
 rw [List.length_cons] at ll
 have ty : LZ (.str (b6 (x :: ws))) w = some "str" := rfl
 simp only [ty, C3 (b := (" " : Str)) (by decide +kernel) (show (b6 (x :: ws)).length ≤ 10000 by omega), SX h (List.cons_ne_nil _ _), zY, ah, ae, reduceCtorEq]
 rw [aBL (by simp) (by rw [ak, List.length_cons]; omega)]
 simp only [List.map_cons, List.take_succ_cons, List.take_zero, List.drop_succ_cons, List.drop_zero, List.cons_append, List.nil_append, zY, ah, ae, reduceCtorEq]
 exact hP
theorem IC (o : kH q H) (ha : gJ k w a .non [] []) (x0 : cW w0 w) (la : w0.length ≤ a) (hP : ∀ w' dd, cW w0 w' → gJ k w' a (.ref dd) [] [] → w0.length ≤ dd → dd ≠ a → w'[dd]? = some (.dK (yH q)) → P (.bl true) w') : T (K06.bP k [.ref a, .str (b6 (lT q))] w) P := by
 refine t7 k (ws := (lA q).map L3) (mL AW (yU o)) (aa rfl) ?_
 unfold bGo
 rw [aX]
 have ei := mO k (nm := ("takes_head" : Str)) ha rfl
 simp only [ha.head, qH, D.isNon, DG (fZ AW) (fZ AW), decide_true, lF, ei, zY, ah, ae, reduceCtorEq]
 refine aDN k o ha x0 la fun w' dd x' h1 h2 h3 h4 => ?_
 exact hP w' dd x' h1 h2 h3 h4
theorem aE8 : decide (("tie" : Str) = ("ranks" : Str)) = false := by decide +kernel
theorem Q3 {r : List Int} {dd : Nat} (o : kH q H) (ha : gJ k w a (.ref dd) rs []) (x0 : cW w0 w) (la : w0.length ≤ a) (hr : r ∈ q.rows) (h4 : rs.length < 4) (hrs : ∀ y ∈ rs, y.length = H)
  (hP : ∀ w', cW w0 w' → (∀ j, j ≠ a → w'[j]? = w[j]?) → gJ k w' a (.ref dd) (rs ++ [r]) [] → P (.bl true) w') : T (K06.bP k [.ref a, .str (b6 (qN r))] w) P := by
 have h6 := o.H6
 have l6 := (o.rows r hr).1
 refine t7 k (ws := r.map b8) (by have := mL iW (DQ o hr); rw [← z4] at this; exact this) (by rw [ak]; omega) ?_
 unfold bGo
 rw [aX]
 have ei := mO k (nm := ("takes_ranks" : Str)) ha rfl
 simp only [ha.head, qH, D.isNon, zY, ah, ae, reduceCtorEq]
 rw [aX]
 simp only [DG (fZ iW) (fZ iW), decide_true, ha.CF, List.map_nil, eq_nil, List.isEmpty_nil, lF, ei, zY, ah, ae, reduceCtorEq]
 have ew : (r.map b8).map D.str = r.map fun x => D.str (b8 x) := by rw [List.map_map]; rfl
 rw [ew]
 refine aBO k ha x0 la (o.rows r hr) o.H1 o.H6 h4 hrs fun w' x' h1 h2 => ?_
 exact hP w' x' h1 h2
theorem WU {t : Int × Int × Int} {dd : Nat} (o : kH q H) (ha : gJ k w a (.ref dd) rs cs) (x0 : cW w0 w) (la : w0.length ≤ a) (ht : t ∈ q.cK) (hn : rs ≠ []) (hrs : ∀ y ∈ rs, y.length = H) (h6 : cs.length < 6)
  (hc : cs = [] ∨ ∃ ini l, cs = ini ++ [l] ∧ HT.lexLt [l.1, l.2.1] [t.1, t.2.1] = true)
  (hP : ∀ w', cW w0 w' → (∀ j, j ≠ a → w'[j]? = w[j]?) → gJ k w' a (.ref dd) rs (cs ++ [t]) → P (.bl true) w') : T (K06.bP k [.ref a, .str (b6 (pV t))] w) P := by
 refine t7 k (ws := [b8 t.1, b8 t.2.1, b8 t.2.2]) (mL (ds := [D.int t.1, .int t.2.1, .int t.2.2]) uM (KH o ht)) (aa rfl) ?_
 unfold bGo
 rw [aX]
 have ei := mO k (nm := ("takes_tie" : Str)) ha rfl
 simp only [ha.head, qH, D.isNon, zY, ah, ae, reduceCtorEq]
 rw [aX]
 have en : (rs.map eT).isEmpty = false := by
  cases rs with
  | nil => exact absurd rfl hn
  | cons => rfl
 simp only [DG (fZ uM) (fZ iW), aE8, DG (fZ uM) (fZ uM), decide_true, ha.rows, ne_nil, en, Bool.not_false, lF, ei, zY, ah, ae, reduceCtorEq]
 refine aFh k ha x0 la (o.cK t ht) o.H6 hn hrs h6 hc fun w' x' h1 h2 => ?_
 exact hP w' x' h1 h2
end
theorem aFs : begin fJ (aO k ([D.ref p] ++ [f.r]) [f.ev, f.lo, f.sl, f.be, f.ga, f.ho, f.ta, f.ti, f.hs]) = [some (.ref p), some f.r, some f.ev, some f.lo, some f.sl, some f.be, some f.ga, some f.ho, some f.ta, some f.ti, some f.hs, none, none, none, none] := rfl
theorem aAP (ok : V1 f) (hg : qM f = none) (hP : ∀ w', cW w w' → w'[w.length]? = some (.ins k.aJ (iJ f)) → P (.ref w.length) w') : T (qG (gE k) k.aJ (fun s => aO k (s ++ [f.r]) [f.ev, f.lo, f.sl, f.be, f.ga, f.ho, f.ta, f.ti, f.hs]) w) P := by
 obtain ⟨hr, hb⟩ := find_none hg
 rw [C0]
 have hp : (w ++ [MO.ins k.aJ []])[w.length]? = some (.ins k.aJ []) := by rw [bg (av _)]; simp
 obtain ⟨w0, e0⟩ : ∃ w0, w0 = w ++ [MO.ins k.aJ []] := ⟨_, rfl⟩
 have l0 : w0.length = w.length + 1 := by rw [e0]; simp
 rw [← e0] at hp ⊢
 unfold gE
 rw [UT, eA]
 have bI : begin fJ (aO k ([D.ref w.length] ++ [f.r]) [f.ev, f.lo, f.sl, f.be, f.ga, f.ho, f.ta, f.ti, f.hs]) = _ := aFs k
 simp only [mE] at bI ⊢
 rw [bI, aX]
 unfold ZL
 rw [vW, uP]
 simp only [TM, zY, ah, ae, reduceCtorEq]
 refine S3 (n := 4) (lk k) (by omega) (ok _ (by simp [eV])) ?_
 rw [hr]
 simp only [Bool.not_true, zY, ah, ae, reduceCtorEq]
 rw [WW, aX]
 refine UE k ok hr hb fun s13 s14 => ?_
 rw [eN]
 have hp4 : (wL w0 f)[w.length]? = some (.ins k.aJ []) := by
  unfold wL wI
  rw [bc (by omega), au (by omega)]
  exact hp
 refine SY k hp4 fun s => ?_
 have l4 : (wL w0 f).length = w.length + 3 := by unfold wL wI; rw [ck, bw, l0]; rfl
 refine hP _ ⟨by rw [ck]; omega, fun i hi => ?_⟩ (az (by omega))
 rw [bc (by omega)]
 unfold wL wI
 rw [bc (by omega), au (by omega), e0, au hi]
def fdOf (q : Pn) : Fd := ⟨.tup (q.rows.map eT), .int q.e, .int q.l, .int q.s, .int q.b, .int q.g, .int q.h, .bl q.t, .tup (q.cK.map dU), .int q.c⟩
theorem DR (q : Pn) : Tells (fdOf q) q := ⟨rfl, rfl, rfl, rfl, rfl, rfl, rfl, rfl, rfl, rfl⟩
theorem LC (o : kH q H) : Gd (fdOf q) := by
 have wi : ∀ {lo hi v : Int}, lo ≤ v ∧ v ≤ hi → bM lo hi (.int v) = true := fun a => by simp [bM, a.1, a.2]
 have rd : aCi H q.rows.length (q.rows.map eT) := ⟨ak .., fun d hd => by
  obtain ⟨r, hr, rfl⟩ := bz.mp hd
  exact ⟨r, rfl, o.rows r hr⟩⟩
 obtain ⟨r1, r2, r0, rest, er, l0⟩ := aBP rd o.n1 o.n4 o.H1 o.H6
 have ew : uQ (.tup (q.rows.map eT)) = H := by rw [er]; show ((r0.length : Nat) : Int) = H; rw [l0]
 have t6 := o.BF
 have ot : pE 6 (.tup (q.cK.map dU)) = true := by
  simp only [pE, ar, br, aq, ak]
  refine ⟨fun y hy => ?_, by omega⟩
  obtain ⟨t, ht, rfl⟩ := bz.mp hy
  have h := o.cK t ht
  have := o.H6
  exact SR ⟨by omega, by omega, by omega⟩
 have h1 := o.e
 have h2 := o.l
 have h3 := o.s
 have h4 := o.b
 have h5 := o.g
 have h6 := o.h
 have h7 := o.c
 refine ⟨fun d hd => ?_, r1, wi o.e, wi o.l, wi o.s, wi o.b, wi o.g, wi o.h, rfl, ?_, wi o.c⟩
 ·simp only [eV, fdOf, bh, bx, or_false] at hd
  rcases hd with rfl | rfl | rfl | rfl | rfl | rfl | rfl | rfl | rfl | rfl
  ·exact r2
  ·exact xY (by omega)
  ·exact xY (by omega)
  ·exact xY (by omega)
  ·exact xY (by omega)
  ·exact xY (by omega)
  ·exact xY (by omega)
  ·rfl
  ·exact ot
  ·exact xY (by omega)
 ·show EZ (uQ (.tup (q.rows.map eT))) (.tup (q.cK.map dU)) = true
  rw [ew]
  simp only [EZ, ar, Bool.not_eq_true', decide_eq_false_iff_not, br, ak, List.map_map]
  refine ⟨by omega, fun x hx => ?_, o.rise⟩
  obtain ⟨t, ht, rfl⟩ := bz.mp hx
  exact LA (o.cK t ht)
theorem B4 {dd : Nat} {kvs : List (Key × D)} {z : Str} (h : w[dd]? = some (.dK kvs)) (hl : pD kvs (.inr z) = some d) : T (aV (.ref dd) (.str z) w) P = P d w := by
 rw [IL h, hl]
 simp
theorem aGl (x : D) : begin j4 [x] = [some x, none] := rfl
theorem PQ {a dd : Nat} (o : kH q H) (ha : gJ k w a (.ref dd) q.rows q.cK) (hd : w[dd]? = some (.dK (yH q))) (hP : ∀ w' p, cW w w' → w'[p]? = some (.ins k.aJ (iJ (fdOf q))) → P (.ref p) w') : T (K06.gU k [.ref a] w) P := by
 unfold K06.gU K06.nP
 rw [eA, aGl, aX]
 have g := LC o
 have i1 : ∀ P : D → W → Prop, T (aV (.ref dd) (.str ("every" : Str)) w) P = P (.int q.e) w := fun P => B4 hd rfl
 have i2 : ∀ P : D → W → Prop, T (aV (.ref dd) (.str ("lost" : Str)) w) P = P (.int q.l) w := fun P => B4 hd rfl
 have i3 : ∀ P : D → W → Prop, T (aV (.ref dd) (.str ("slow" : Str)) w) P = P (.int q.s) w := fun P => B4 hd rfl
 have i4 : ∀ P : D → W → Prop, T (aV (.ref dd) (.str ("bears" : Str)) w) P = P (.int q.b) w := fun P => B4 hd rfl
 have i5 : ∀ P : D → W → Prop, T (aV (.ref dd) (.str ("gap" : Str)) w) P = P (.int q.g) w := fun P => B4 hd rfl
 have i6 : ∀ P : D → W → Prop, T (aV (.ref dd) (.str ("hold" : Str)) w) P = P (.int q.h) w := fun P => B4 hd rfl
 have i7 : ∀ P : D → W → Prop, T (aV (.ref dd) (.str ("takes" : Str)) w) P = P (.bl q.t) w := fun P => B4 hd rfl
 have i8 : ∀ P : D → W → Prop, T (aV (.ref dd) (.str ("hosts" : Str)) w) P = P (.int q.c) w := fun P => B4 hd rfl
 simp only [ha.head, ha.rows, ha.CF, i1, i2, i3, i4, i5, i6, i7, i8, x9, zY, ah, ae, reduceCtorEq]
 refine aAP k (f := fdOf q) g.ok g.first fun w' x' h => ?_
 try simp only [zY, ah, ae, reduceCtorEq]
 exact hP w' _ x' h
theorem T7 : ∀ {ts : List (Int × Int × Int)} {j : Nat} {x y : Int × Int × Int}, iI (ts.map fun t => (t.1, t.2.1)) = true → ts[j]? = some x → ts[j + 1]? = some y → HT.lexLt [x.1, x.2.1] [y.1, y.2.1] = true
 | [], j, x, y, _, h, _ => by simp at h
 | [a], j, x, y, _, _, h => by simp at h
 | a :: b :: ts, 0, x, y, hr, h1, h2 => by
  simp only [List.map_cons, iI, ar] at hr
  simp only [List.getElem?_cons_zero, List.getElem?_cons_succ, ai] at h1 h2
  subst h1
  subst h2
  exact hr.1
 | a :: b :: ts, j + 1, x, y, hr, h1, h2 => by
  simp only [List.map_cons, iI, ar] at hr
  exact T7 (ts := b :: ts) (j := j) hr.2 h1 h2
def TR (w0 w : W) (a : Nat) (q : Pn) : Nat → Prop
 | 0 => gJ k w a .non [] []
 | j + 1 => ∃ dd, gJ k w a (.ref dd) (q.rows.take j) (q.cK.take (j - q.rows.length)) ∧ w0.length ≤ dd ∧ dd ≠ a ∧ w[dd]? = some (.dK (yH q))
theorem W8 {w0 : W} {a i : Nat} {ws : List Str} (o : kH q H) (hs : TR k w0 w a q i) (x0 : cW w0 w) (la : w0.length ≤ a) (hw : (bB q)[i]? = some ws) (hP : ∀ w', cW w0 w' → TR k w0 w' a q (i + 1) → P (.bl true) w') : T (K06.bP k [.ref a, .str (b6 ws)] w) P := by
 cases i with
 | zero =>
  simp only [bB, List.getElem?_cons_zero, ai] at hw
  subst hw
  refine IC k o hs x0 la fun w' dd x' h1 h2 h3 h4 => ?_
  refine hP w' x' ⟨dd, ?_, h2, h3, h4⟩
  rw [Nat.zero_sub, List.take_zero, List.take_zero]
  exact h1
 | succ j =>
  obtain ⟨dd, ha, h2, h3, h4⟩ := hs
  simp only [bB, List.getElem?_cons_succ] at hw
  by_cases hj : j < q.rows.length
  ·rw [au (by rw [ak]; exact hj), bt] at hw
   obtain ⟨r, hr, rfl⟩ := ao.mp hw
   have z : j - q.rows.length = 0 := by omega
   have z1 : j + 1 - q.rows.length = 0 := by omega
   rw [z, List.take_zero] at ha
   have n4 := o.n4
   refine Q3 k o ha x0 la (bu hr) (by rw [cj]; omega) (fun y hy => (o.rows y (List.mem_of_mem_take hy)).1) fun w' x' k' h' => ?_
   refine hP w' x' ⟨dd, ?_, h2, h3, by rw [k' dd h3]; exact h4⟩
   rw [z1, List.take_zero, List.take_add_one, hr]
   exact h'
  ·have hj : q.rows.length ≤ j := by omega
   rw [bg (by rw [ak]; exact hj), ak, bt] at hw
   obtain ⟨t, ht, rfl⟩ := ao.mp hw
   have er : q.rows.take j = q.rows := List.take_of_length_le hj
   have er1 : q.rows.take (j + 1) = q.rows := List.take_of_length_le (by omega)
   rw [er] at ha
   have lt := (aj.mp ht).1
   have t6 := o.BF
   have n1 := o.n1
   refine WU k o ha x0 la (bu ht) (fun z => by rw [z] at n1; simp at n1) (fun y hy => (o.rows y hy).1) (by rw [cj]; omega) ?_ fun w' x' k' h' => ?_
   ·cases hm : j - q.rows.length with
    | zero => exact .inl rfl
    | succ m =>
     rw [hm] at ht lt
     obtain ⟨l, hl⟩ : ∃ l, q.cK[m]? = some l := ⟨q.cK[m], bq (by omega)⟩
     refine .inr ⟨q.cK.take m, l, ?_, T7 o.rise hl ht⟩
     rw [List.take_add_one, hl]
     rfl
   ·refine hP w' x' ⟨dd, ?_, h2, h3, by rw [k' dd h3]; exact h4⟩
    rw [er1, show j + 1 - q.rows.length = j - q.rows.length + 1 by omega, List.take_add_one, ht]
    exact h'
theorem aFS (x : D) : begin kB [x] = [some x] := rfl
theorem TN (hp : w[p]? = some (.ins k.aK [])) (hP : gJ k (w.set p (.ins k.aK [("head", .non), ("rows", .tup []), ("cords", .tup [])])) p .non [] [] → P .non (w.set p (.ins k.aK [("head", .non), ("rows", .tup []), ("cords", .tup [])]))) : T (K06.kJ k [.ref p] w) P := by
 have lp := (aj.mp hp).1
 unfold K06.kJ K06.oE
 rw [eA, aFS, aX]
 simp only [zY, ah, ae, reduceCtorEq]
 rw [qP hp]
 refine ⟨aa rfl, ?_⟩
 rw [aX]
 simp only [zY, ah, ae, reduceCtorEq]
 rw [qP (az lp), List.set_set]
 refine ⟨aa rfl, ?_⟩
 try simp only [zY, ah, ae, reduceCtorEq]
 rw [qP (az lp), List.set_set]
 refine ⟨aa rfl, ?_⟩
 try simp only [zY, ah, ae, reduceCtorEq]
 exact hP (az lp)
theorem aFn (x : D) : begin pP [x] = [some x, none, none, none, none] := rfl
theorem Q0 (o : kH q H) (hP : ∀ w' p, cW w w' → w'[p]? = some (.ins k.aJ (iJ (fdOf q))) → P (.ref p) w') : T (K06.cU k [.str (m1 q)] w) P := by
 have ok := nN o
 unfold K06.cU K06.oS
 rw [eA, aFn, aX]
 simp only [T4, Bool.not_true, zY, ah, ae, reduceCtorEq]
 rw [aX]
 simp only [TQ, C0, zY, ah, ae, reduceCtorEq]
 refine TN k (p := w.length) (by rw [bg (av _)]; simp) fun ha => ⟨rfl, ?_⟩
 obtain ⟨a, ea⟩ : ∃ a, a = w.length := ⟨_, rfl⟩
 obtain ⟨w1, e1⟩ : ∃ w1, w1 = (w ++ [MO.ins k.aK []]).set w.length (.ins k.aK [("head", .non), ("rows", .tup []), ("cords", .tup [])]) := ⟨_, rfl⟩
 have x1 : cW w w1 := by rw [e1]; exact (cW.refl.app _).set (av _) _
 have la : w.length ≤ a := by omega
 rw [← e1, ← ea] at ha ⊢
 clear e1 ea
 rw [aX]
 have ty : ∀ (z : Str) (w : W), LZ (.str z) w = some "str" := fun _ _ => rfl
 have ll := ok.len
 simp only [ty, C3 (b := ("\n" : Str)) (by decide +kernel) (show (m1 q).length ≤ 10000 by show (kP (bB q)).length ≤ 10000; omega), zY, ah, ae, reduceCtorEq]
 have es : (Txt.split (m1 q) ("\n" : Str)).map D.str = ((bB q).map b6).map D.str := by
  show (Txt.split (kP (bB q)) ("\n" : Str)).map D.str = _
  rw [ok.split]
 rw [es]
 rw [aX]
 simp only [R0, zY, ah, ae, reduceCtorEq]
 refine Lb.DM (it := ⟨kY (((bB q).map b6).map D.str), always⟩) (fun i σ w' => cW w w' ∧ TR k w w' a q i ∧ ∃ s3 s4, σ = [some (.str (m1 q)), some (.ref a), some (.lst (((bB q).map b6).map D.str)), s3, s4]) (fun _ _ _ _ => trivial) ⟨x1, ha, _, _, rfl⟩ (fun i x σ w2 hx hI => ?_) (fun σ w2 hI => ?_)
 ·obtain ⟨x2, hs, s3, s4, rfl⟩ := hI
  obtain ⟨d, hd, rfl⟩ := nK hx
  rw [bt, bt, Option.map_map] at hd
  obtain ⟨ws, hw, rfl⟩ := ao.mp hd
  simp only [Function.comp_apply, zY, ah, ae, reduceCtorEq]
  have ei : sT k.aK ("goes_on" : Str) (.ref a) w2 = some a := by
   cases i with
   | zero => exact mO k hs rfl
   | succ j =>
    obtain ⟨dd, h1, -⟩ := hs
    exact mO k h1 rfl
  simp only [lF, ei, zY, ah, ae, reduceCtorEq]
  refine W8 k o hs x2 la hw fun w3 x3 hs3 => ?_
  simp only [Bool.not_true, zY, ah, ae, reduceCtorEq]
  exact ⟨x3, hs3, _, _, rfl⟩
 ·obtain ⟨x2, hs, s3, s4, rfl⟩ := hI
  have el : (kY (((bB q).map b6).map D.str)).length = q.rows.length + q.cK.length + 1 := by
   rw [rT, ak, ak]
   simp [bB]
  simp only [el] at hs
  obtain ⟨dd, h1, h2, h3, h4⟩ := hs
  rw [List.take_of_length_le (by omega), List.take_of_length_le (by omega)] at h1
  have n1 := o.n1
  have en : (q.rows.map eT).isEmpty = false := by
   cases hq : q.rows with
   | nil => rw [hq] at n1; simp at n1
   | cons => rfl
  try simp only [eN]
  rw [aX]
  have ei : sT k.aK ("made" : Str) (.ref a) w2 = some a := mO k h1 rfl
  simp only [h1.rows, eq_nil, en, lF, ei, zY, ah, ae, reduceCtorEq]
  refine PQ k o h1 h4 fun w3 p x3 hp => ?_
  try simp only [zY, ah, ae, reduceCtorEq]
  exact hP w3 p (x2.trans x3) hp
theorem XU {nm m : MF} {C : Addr} {fs : List (Str × D)} (hp : w[p]? = some (.ins C fs)) (h : T (m [.ref p] w) fun d w1 => ∃ z, d = .str z ∧ P (.str z) w1) : T (NR nm C m [.ref p] w) P := by
 unfold NR
 simp only [hp, ah]
 rw [bC]
 refine h.mono fun d w1 _ ⟨z, e, q⟩ => ?_
 subst e
 show T (Res.ok (D.str z) w1) P
 rw [b5]
 exact q
theorem WI (o : kH q H) : ∀ c ∈ (m1 q).cps.toList, c < 127 := (nN o).low
theorem aBE (o : kH q H) : PyData.strOk (m1 q) = true := XG (WI o)
def C4 (q : Pn) : D := .tup (EK (fdOf q))
theorem FR (o : kH q H) : ∃ u, (∀ w, (C4 q).py w = some u) ∧ Q5 u := by
 have h6 := o.H6
 have n4 := o.n4
 have t6 := o.BF
 obtain ⟨v1, v2⟩ := o.e
 obtain ⟨v3, v4⟩ := o.l
 obtain ⟨v5, v6⟩ := o.s
 obtain ⟨v13, v14⟩ := o.b
 obtain ⟨v7, v8⟩ := o.g
 obtain ⟨v9, v10⟩ := o.h
 obtain ⟨v11, v12⟩ := o.c
 have fr : c9 100 6 (.tup (q.rows.map eT)) := (c9.wO (n := 6) (d := 2) (c := 4) (fun y hy => by
  obtain ⟨r, hr, rfl⟩ := bz.mp hy
  obtain ⟨e1, e2⟩ := o.rows r hr
  exact c9.row (fun z hz => eW (by have := e2 z hz; omega) (by have := e2 z hz; omega)) (by omega)) (by rw [ak]; omega)).mono (by omega) (by omega)
 have ft : c9 100 6 (.tup (q.cK.map dU)) := (c9.wO (n := 3) (d := 2) (c := 6) (fun y hy => by
  obtain ⟨t, ht, rfl⟩ := bz.mp hy
  obtain ⟨⟨a1, a2⟩, ⟨a3, a4⟩, a5, a6⟩ := o.cK t ht
  exact (c9.tup (cG.cons (c9.int (eW (v := t.1) (by omega) (by omega))) (cG.cons (c9.int (eW (v := t.2.1) (by omega) (by omega))) (cG.cons (c9.int (eW (v := t.2.2) (by omega) (by omega))) (cG.nil.mono (av _) (by omega)))))).mono (by omega) (av _)) (by rw [ak]; omega)).mono (by omega) (by omega)
 exact (c9.tup (cG.cons fr (cG.cons (yY (v := q.e) (by omega) (by omega)) (cG.cons (yY (v := q.l) (by omega) (by omega)) (cG.cons (yY (v := q.s) (by omega) (by omega)) (cG.cons (yY (v := q.b) (by omega) (by omega)) (cG.cons (yY (v := q.g) (by omega) (by omega)) (cG.cons (yY (v := q.h) (by omega) (by omega)) (cG.cons (c9.bl.mono (av _) (by omega)) (cG.cons ft (cG.cons (yY (v := q.c) (by omega) (by omega)) aEy))))))))))).fit (by omega) (by omega)
theorem S1 {x : Str} (hx : PyData.strOk x = true) : T (mQ (.str x) (.str x) w) P = P (.bl false) w := by
 rw [P4, E4 hx hx]
 simp
end
section
variable {q : Pn} {H : Nat} {w0 : W} {a : Nat} {hd : D} {rs : List (List Int)} {cs : List (Int × Int × Int)}
theorem K4 {r : List Int} (ha : gJ k w a hd rs []) (hr : r.length = H ∧ ∀ x ∈ r, 1 ≤ x ∧ x ≤ 12) (H1 : 1 ≤ H) (H6 : H ≤ 6) (h4 : rs.length = 4) (hP : P (.bl false) w) : T (K06.cH k [.ref a, .lst (r.map fun x => D.str (b8 x))] w) P := by
 unfold K06.cH K06.fE
 rw [eA, aFc, aX]
 have lr := hr.1
 simp only [FT, zY, ah, ae, reduceCtorEq]
 refine ⟨qS _ (by rw [ak]; omega), ?_⟩
 refine fD (it := ⟨r.map fun x => D.str (b8 x), always⟩) r (fun x => D.str (b8 x)) D.int rfl trivial (fun x hx => ?_) ?_
 ·have := hr.2 x hx
  simp only [dP, zY, ah, ae, reduceCtorEq]
  refine N8 k (by omega) (by omega) ?_
  exact ⟨rfl, rfl⟩
 simp only [N4, zY, ah, ae, reduceCtorEq]
 rw [aX]
 have d1 : decide ((1 : Int) ≤ (r.length : Nat)) = true := by rw [aq]; omega
 have d2 : decide (((r.length : Nat) : Int) ≤ 6) = true := by rw [aq]; omega
 have d3 : (((rs.length : Nat) : Int) == 4) = true := by rw [h4]; rfl
 simp only [aAG, GN, ai, bb, ak, d1, d2, d3, ha.rows, Bool.not_true, Bool.not_false, AH, lN, zY, ah, ae, reduceCtorEq]
 exact hP
theorem RP {t : Int × Int × Int} (ha : gJ k w a hd rs cs) (ht : (0 ≤ t.1 ∧ t.1 < (H : Int)) ∧ (0 ≤ t.2.1 ∧ t.2.1 ≤ 9) ∧ (1 ≤ t.2.2 ∧ t.2.2 ≤ 11)) (H6 : H ≤ 6) (hn : rs ≠ []) (hrs : ∀ y ∈ rs, y.length = H) (h6 : cs.length = 6) (hP : P (.bl false) w) : T (K06.cS k [.ref a, .lst [.str (b8 t.1), .str (b8 t.2.1), .str (b8 t.2.2)]] w) P := by
 unfold K06.cS K06.fY
 rw [eA, aFu, aX]
 simp only [FT, zY, ah, ae, reduceCtorEq]
 refine fD (it := ⟨[D.str (b8 t.1), .str (b8 t.2.1), .str (b8 t.2.2)], always⟩) [t.1, t.2.1, t.2.2] (fun x => D.str (b8 x)) D.int rfl trivial (fun x hx => ?_) ?_
 ·have hx : 0 ≤ x ∧ x ≤ 12 := by
   simp only [bh, bx, or_false] at hx
   rcases hx with rfl | rfl | rfl <;> omega
  simp only [dP, zY, ah, ae, reduceCtorEq]
  refine N8 k (by omega) (by omega) ?_
  exact ⟨rfl, rfl⟩
 simp only [N4, zY, ah, ae, reduceCtorEq]
 show T (aH _ _ [_, _, some (dU t), _] w) _
 obtain ⟨r0, rest, rfl⟩ := List.exists_cons_of_ne_nil hn
 have l0 : r0.length = H := hrs r0 (bf ..)
 rw [aX]
 have okt : pE 6 (dU t) = true := SR ⟨by omega, by omega, by omega⟩
 have e6 : (((cs.length : Nat) : Int) == 6) = true := by rw [h6]; rfl
 simp only [ha.rows, List.map_cons, eT, XS, ai, bb, ak, aCu, zY, ah, ae, reduceCtorEq]
 refine X1 (lk k) okt ?_
 rw [l0, LA ht]
 simp only [Bool.not_true, ha.CF, ak, e6, zY, ah, ae, reduceCtorEq]
 exact hP
theorem CO {r : List Int} {dd : Nat} (o : kH q H) (ha : gJ k w a (.ref dd) rs []) (hr : r ∈ q.rows) (h4 : rs.length = 4) (hP : P (.bl false) w) : T (K06.bP k [.ref a, .str (b6 (qN r))] w) P := by
 have h6 := o.H6
 have l6 := (o.rows r hr).1
 refine t7 k (ws := r.map b8) (by have := mL iW (DQ o hr); rw [← z4] at this; exact this) (by rw [ak]; omega) ?_
 unfold bGo
 rw [aX]
 have ei := mO k (nm := ("takes_ranks" : Str)) ha rfl
 simp only [ha.head, qH, D.isNon, zY, ah, ae, reduceCtorEq]
 rw [aX]
 simp only [DG (fZ iW) (fZ iW), decide_true, ha.CF, List.map_nil, eq_nil, List.isEmpty_nil, lF, ei, zY, ah, ae, reduceCtorEq]
 have ew : (r.map b8).map D.str = r.map fun x => D.str (b8 x) := by rw [List.map_map]; rfl
 rw [ew]
 exact K4 k ha (o.rows r hr) o.H1 o.H6 h4 hP
theorem GO {t : Int × Int × Int} {dd : Nat} (H6 : H ≤ 6) (ha : gJ k w a (.ref dd) rs cs) (ht : (0 ≤ t.1 ∧ t.1 < (H : Int)) ∧ (0 ≤ t.2.1 ∧ t.2.1 ≤ 9) ∧ (1 ≤ t.2.2 ∧ t.2.2 ≤ 11)) (hn : rs ≠ []) (hrs : ∀ y ∈ rs, y.length = H) (h6 : cs.length = 6) (hP : P (.bl false) w) : T (K06.bP k [.ref a, .str (b6 (pV t))] w) P := by
 refine t7 k (ws := [b8 t.1, b8 t.2.1, b8 t.2.2]) (mL (ds := [D.int t.1, .int t.2.1, .int t.2.2]) uM (fun d hd => by
  simp only [bh, bx, or_false] at hd
  rcases hd with rfl | rfl | rfl
  ·exact j8 (by omega)
  ·exact j8 (by omega)
  ·exact j8 (by omega))) (aa rfl) ?_
 unfold bGo
 rw [aX]
 have ei := mO k (nm := ("takes_tie" : Str)) ha rfl
 simp only [ha.head, qH, D.isNon, zY, ah, ae, reduceCtorEq]
 rw [aX]
 have en : (rs.map eT).isEmpty = false := by
  cases rs with
  | nil => exact absurd rfl hn
  | cons => rfl
 simp only [DG (fZ uM) (fZ iW), aE8, DG (fZ uM) (fZ uM), decide_true, ha.rows, ne_nil, en, Bool.not_false, lF, ei, zY, ah, ae, reduceCtorEq]
 exact RP k ha ht H6 hn hrs h6 hP
def R8 : MS := (aH (gM (eY pK (aA (aB 2) aD)) (bY 2 (aI (aU 3) (aI (aU 4) bS))) (dW (cQ (eP (gB k.aK ("goes_on" : Str) (bP k) 2 aP (aB 1) (aA (aB 4) aD)))) (xD k.cM ("line" : Str) (aB 3)) aW))
 (aH (dW (bA (aC fG (bG k.aK ("rows" : Str) (aB 1)) (bW aD))) (xD k.cM ("line" : Str) (aQ cY (aA (aB 2) aD))) aW)
 (aZ (gB k.aK ("made" : Str) (gU k) 1 aP (aB 1) aD))))
theorem UH {ls : List (List Str)} (ok : mX ls) {PX : XD → W → Prop} (h : ∀ a w1, cW w w1 → w.length ≤ a → gJ k w1 a .non [] [] → TX (R8 k [some (.str (kP ls)), some (.ref a), some (.lst ((ls.map b6).map D.str)), none, none] w1) PX) : TX (K06.cU k [.str (kP ls)] w) PX := by
 unfold K06.cU K06.oS
 refine aDB (KL ?_)
 rw [aFn]
 simp only [T4, Bool.not_true, Fl.nx.injEq, bb, zY, ah, ae, reduceCtorEq]
 refine KL ?_
 simp only [TQ, C0, Fl.nx.injEq, bb, zY, ah, ae, reduceCtorEq]
 refine TN k (p := w.length) (by rw [bg (av _)]; simp) fun ha => ⟨rfl, ?_⟩
 obtain ⟨a, ea⟩ : ∃ a, a = w.length := ⟨_, rfl⟩
 obtain ⟨w1, e1⟩ : ∃ w1, w1 = (w ++ [MO.ins k.aK []]).set w.length (.ins k.aK [("head", .non), ("rows", .tup []), ("cords", .tup [])]) := ⟨_, rfl⟩
 have x1 : cW w w1 := by rw [e1]; exact (cW.refl.app _).set (av _) _
 rw [← e1, ← ea] at ha ⊢
 have la : w.length ≤ a := by omega
 clear e1 ea
 refine KL ?_
 have ty : ∀ (z : Str) (w : W), LZ (.str z) w = some "str" := fun _ _ => rfl
 have ll := ok.len
 simp only [ty, C3 (b := ("\n" : Str)) (by decide +kernel) (show (kP ls).length ≤ 10000 by omega), ok.split, Fl.nx.injEq, bb, zY, ah, ae, reduceCtorEq]
 exact h a w1 x1 la ha
theorem ZJ {bad : List Str} {more : List (List Str)} (o : kH q H) (ok : mX (bB q ++ bad :: more)) (hb : ∀ (w2 : W) (a dd : Nat) (P : D → W → Prop), gJ k w2 a (.ref dd) q.rows q.cK → P (.bl false) w2 → T (K06.bP k [.ref a, .str (b6 bad)] w2) P) {PX : XD → W → Prop} (hP : ∀ w', cW w w' → PX ⟨.ref k.cM, some [(("line" : Str), .int ((bB q).length : Nat))]⟩ w') : TX (K06.cU k [.str (kP (bB q ++ bad :: more))] w) PX := by
 refine UH k ok fun a w1 x1 la ha => ?_
 obtain ⟨tx, et⟩ : ∃ tx, tx = kP (bB q ++ bad :: more) := ⟨_, rfl⟩
 rw [← et]
 clear et
 unfold R8
 refine TF (aDw ?_)
 simp only [R0, zY, ah, ae, reduceCtorEq]
 have hat : ∀ {i : Nat} {d : D}, (((bB q ++ bad :: more).map b6).map D.str)[i]? = some d → ∃ ws, (bB q ++ bad :: more)[i]? = some ws ∧ d = .str (b6 ws) := fun {i d} h => by
  rw [bt, bt, Option.map_map] at h
  obtain ⟨ws, hw, rfl⟩ := ao.mp h
  exact ⟨ws, hw, rfl⟩
 refine aBw (it := ⟨kY (((bB q ++ bad :: more).map b6).map D.str), always⟩) (fun i σ w' => cW w w' ∧ TR k w w' a q i ∧ ∃ s3 s4, σ = [some (.str tx), some (.ref a), some (.lst (((bB q ++ bad :: more).map b6).map D.str)), s3, s4]) (bB q).length (by
  rw [rT, ak, ak, bw, List.length_cons]
  omega) (fun _ _ _ _ => trivial) ⟨x1, ha, _, _, rfl⟩ (fun i x σ w2 hi hx hI => ?_) (fun x σ w2 hx hI => ?_)
 ·obtain ⟨x2, hs, s3, s4, rfl⟩ := hI
  obtain ⟨d, hd, rfl⟩ := nK hx
  obtain ⟨ws, hw, rfl⟩ := hat hd
  rw [au hi] at hw
  simp only [zY, ah, ae, reduceCtorEq]
  have ei : sT k.aK ("goes_on" : Str) (.ref a) w2 = some a := by
   cases i with
   | zero => exact mO k hs rfl
   | succ j =>
    obtain ⟨dd, h1, -⟩ := hs
    exact mO k h1 rfl
  simp only [lF, ei, zY, ah, ae, reduceCtorEq]
  refine W8 k o hs x2 la hw fun w3 x3 hs3 => ?_
  simp only [Bool.not_true, zY, ah, ae, reduceCtorEq]
  exact ⟨x3, hs3, _, _, rfl⟩
 ·obtain ⟨x2, hs, s3, s4, rfl⟩ := hI
  obtain ⟨d, hd, rfl⟩ := nK hx
  obtain ⟨ws, hw, rfl⟩ := hat hd
  rw [bg (av _), Nat.sub_self, List.getElem?_cons_zero, ai] at hw
  subst hw
  have el : (bB q).length = q.rows.length + q.cK.length + 1 := by simp [bB]
  rw [el] at hs
  obtain ⟨dd, h1, -⟩ := hs
  rw [List.take_of_length_le (by omega), List.take_of_length_le (by omega)] at h1
  have ei : sT k.aK ("goes_on" : Str) (.ref a) w2 = some a := mO k h1 rfl
  simp only [zY, ah, ae, reduceCtorEq]
  refine aCq ?_
  simp only [lF, ei, zY, ah, ae, reduceCtorEq]
  refine hb w2 a dd _ h1 ?_
  simp only [Bool.not_false, zY, ah, ae, reduceCtorEq]
  refine O6 ?_
  simp only [zY, ah, ae, reduceCtorEq]
  exact hP w2 x2
theorem aDr (o : kH q H) {PX : XD → W → Prop} (hP : ∀ w', cW w w' → PX ⟨.ref k.cM, some [(("line" : Str), .int 1)]⟩ w') : TX (K06.cU k [.str (kP [lT q])] w) PX := by
 have lo := nN o
 have ok : mX [lT q] := ⟨fun ws hw => by
  rw [cc.mp hw]
  exact lo.w _ (bf ..), by simp, by simp⟩
 refine UH k ok fun a w1 x1 la ha => ?_
 obtain ⟨tx, et⟩ : ∃ tx, tx = kP [lT q] := ⟨_, rfl⟩
 rw [← et]
 clear et
 unfold R8
 refine KL ?_
 simp only [R0, zY, ah, ae, reduceCtorEq]
 refine Lb.DM (it := ⟨kY (([lT q].map b6).map D.str), always⟩) (fun i σ w' => cW w w' ∧ (i = 0 → gJ k w' a .non [] []) ∧ (i = 1 → ∃ dd, gJ k w' a (.ref dd) [] []) ∧ ∃ s3 s4, σ = [some (.str tx), some (.ref a), some (.lst (([lT q].map b6).map D.str)), s3, s4]) (fun _ _ _ _ => trivial) ⟨x1, (fun _ => ha), (fun h => absurd h (by decide)), _, _, rfl⟩ (fun i x σ w2 hx hI => ?_) (fun σ w2 hI => ?_)
 ·obtain ⟨x2, h0, -, s3, s4, rfl⟩ := hI
  obtain ⟨d, hd, rfl⟩ := nK hx
  have hi : i < 1 := (aj.mp hd).1
  obtain rfl : i = 0 := by omega
  cases hd
  have ha2 := h0 rfl
  simp only [zY, ah, ae, reduceCtorEq]
  have ei : sT k.aK ("goes_on" : Str) (.ref a) w2 = some a := mO k ha2 rfl
  simp only [lF, ei, zY, ah, ae, reduceCtorEq]
  refine IC k o ha2 x2 la fun w3 dd x3 h1 _ _ _ => ?_
  simp only [Bool.not_true, zY, ah, ae, reduceCtorEq]
  exact ⟨x3, (fun h => h.elim), (fun _ => ⟨dd, h1⟩), _, _, rfl⟩
 ·obtain ⟨x2, -, h1, s3, s4, rfl⟩ := hI
  obtain ⟨dd, h1⟩ := h1 rfl
  refine ⟨_, rfl, TF (aCq ?_)⟩
  simp only [h1.rows, List.map_nil, eq_nil, List.isEmpty_nil, zY, ah, ae, reduceCtorEq]
  refine O6 ?_
  simp only [zY, ah, ae, reduceCtorEq]
  exact hP w2 x2
theorem aE1 (x : D) : begin kA [x] = [some x, none, none] := rfl
theorem K5 {x : Str} (h : ∀ Q : D → W → Prop, (∀ w' p, cW w w' → Q (.ref p) w') → T (K06.cU k [.str x] w) Q) (hP : ∀ w', cW w w' → P .non w') : T (K06.cN k [.str x] w) P := by
 unfold K06.cN K06.jX
 rw [eA, aE1, aX]
 simp only [zY, ah, ae, reduceCtorEq]
 rw [aX]
 refine WR ?_
 simp only [zY, ah, ae, reduceCtorEq]
 refine h _ fun w' p x' => ?_
 try simp only [zY, ah, ae, reduceCtorEq]
 exact hP _ x'
theorem rB {x : Str} {i : Int} (h : ∀ PX : XD → W → Prop, (∀ w', cW w w' → PX ⟨.ref k.cM, some [(("line" : Str), .int i)]⟩ w') → TX (K06.cU k [.str x] w) PX) (hP : ∀ w', cW w w' → P (.int i) w') : T (K06.cN k [.str x] w) P := by
 unfold K06.cN K06.jX
 rw [eA, aE1, aX]
 simp only [zY, ah, ae, reduceCtorEq]
 rw [aX]
 refine ZH (X9 (aAV ?_))
 simp only [zY, ah, ae, reduceCtorEq]
 refine h _ fun w' x' => ?_
 refine ⟨by simp [kmL, AV], ?_⟩
 have e1 : ∀ σ : Sg, OV (gZ k) ("line" : Str) 1 ⟨.ref k.cM, some [(("line" : Str), .int i)]⟩ σ w' = .ok (.nx (σ.set 1 (some (.int i)))) w' := fun σ => by
  have e2 : A2 (gZ k) ("line" : Str) ⟨.ref k.cM, some [(("line" : Str), .int i)]⟩ = some (.int i) := by
   unfold A2 gZ
   show (if [k.cM].contains k.cM = true then _ else _) = _
   rw [if_pos (by simp)]
   rfl
  unfold OV
  rw [e2]
 rw [e1]
 simp only [b5, Pc.unI, Pc.forget, List.replicate, List.length_cons, List.length_nil, List.set_cons_zero, List.set_cons_succ, zY, ah, ae, reduceCtorEq]
 exact hP _ x'
theorem DS : ∀ {ts : List (Int × Int)} (n : Nat), iI ts = true → iI (ts.take n) = true
 | [], n, _ => by rw [List.take_nil]; rfl
 | [a], n, _ => by cases n <;> simp [iI]
 | a :: b :: ts, 0, _ => rfl
 | a :: b :: ts, 1, _ => rfl
 | a :: b :: ts, n + 2, h => by
  simp only [iI, ar] at h
  have := DS (ts := b :: ts) (n + 1) h.2
  simp only [List.take_succ_cons, iI, ar] at this ⊢
  exact ⟨h.1, this⟩
def sub (q : Pn) (m j : Nat) : Pn := { q with rows := q.rows.take m, cK := q.cK.take j }
theorem QJ (o : kH q H) {m : Nat} (hm : 1 ≤ m) (j : Nat) : kH (sub q m j) H := by
 have n1 := o.n1
 have n4 := o.n4
 have t6 := o.BF
 refine ⟨o.H1, o.H6, ?_, ?_, fun r hr => o.rows r (List.mem_of_mem_take hr), o.e, o.l, o.s, o.b, o.g, o.h, ?_, fun t ht => o.cK t (List.mem_of_mem_take ht), ?_, o.c⟩
 ·show 1 ≤ (q.rows.take m).length
  rw [cj]
  omega
 ·show (q.rows.take m).length ≤ 4
  rw [cj]
  omega
 ·show (q.cK.take j).length ≤ 6
  rw [cj]
  omega
 ·show iI ((q.cK.take j).map fun t => (t.1, t.2.1)) = true
  rw [List.map_take]
  exact DS j o.rise
theorem HM (m : Nat) (h : q.rows.length = 4) : bB (sub q m (m - 4)) = (bB q).take (m + 1) := by
 show lT q :: ((q.rows.take m).map qN ++ (q.cK.take (m - 4)).map pV) = _
 unfold bB
 rw [List.take_succ_cons, List.take_append, ak, h, List.map_take, List.map_take]
theorem XH (o : kH q H) : ∃ u, (∀ w, (D.tup (q.rows.map eT)).py w = some u) ∧ Q5 u := by
 have h6 := o.H6
 have n4 := o.n4
 have fr : c9 100 6 (.tup (q.rows.map eT)) := (c9.wO (n := 6) (d := 2) (c := 4) (fun y hy => by
  obtain ⟨r, hr, rfl⟩ := bz.mp hy
  obtain ⟨e1, e2⟩ := o.rows r hr
  exact c9.row (fun z hz => eW (by have := e2 z hz; omega) (by have := e2 z hz; omega)) (by omega)) (by rw [ak]; omega)).mono (by omega) (by omega)
 exact fr.fit (by omega) (by omega)
theorem YO (o : kH q H) : ∃ u, (∀ w, (D.tup (q.cK.map dU)).py w = some u) ∧ Q5 u := by
 have h6 := o.H6
 have t6 := o.BF
 have ft : c9 100 6 (.tup (q.cK.map dU)) := (c9.wO (n := 3) (d := 2) (c := 6) (fun y hy => by
  obtain ⟨t, ht, rfl⟩ := bz.mp hy
  obtain ⟨⟨a1, a2⟩, ⟨a3, a4⟩, a5, a6⟩ := o.cK t ht
  exact (c9.tup (cG.cons (c9.int (eW (v := t.1) (by omega) (by omega))) (cG.cons (c9.int (eW (v := t.2.1) (by omega) (by omega))) (cG.cons (c9.int (eW (v := t.2.2) (by omega) (by omega))) (cG.nil.mono (av _) (by omega)))))).mono (by omega) (av _)) (by rw [ak]; omega)).mono (by omega) (by omega)
 exact ft.fit (by omega) (by omega)
theorem OB {d : D} (h : ∃ u, (∀ w, d.py w = some u) ∧ Q5 u) : T (mQ d d w) P = P (.bl false) w := by
 obtain ⟨u, py, hf⟩ := h
 rw [P4, XI (py w) hf]
 simp
theorem RT {o : MO} (x : cW w w') (h : w[p]? = some o) : w'[p]? = some o := by rw [x.at_ p (aj.mp h).1]; exact h
structure IJ (f : Fd) (q : Pn) : Prop where
 g : Gd f
 t : Tells f q
 o : kH q 6
 n : q.rows.length = 4
 m : q.cK.length = 6
 be : f.be = .int q.b
theorem IJ.told (h : IJ f q) : D.tup (eV f) = C4 q := by
 have t := h.t
 unfold eV C4 EK
 rw [t.r, t.ev, t.lo, t.sl, h.be, t.ga, t.ho, t.ta, t.ti, t.hs]
 rfl
def dJ (ls : List (List Str)) : List D := (ls.map b6).map D.str
theorem OU {ls : List (List Str)} (ok : mX ls) : T (joinM (.str ("\n" : Str)) [.lst (dJ ls)] w) P = P (.str (kP ls)) w :=
 JP (fun p hp => by have := ok.aBh p hp; omega) (by rw [ak]; have := ok.l; omega) (by rw [SM]; omega)
def R5 : MS := (aH (aT (aM (cN k) 1 aP (aA (b7 "str" joinM (eC (.str ("\n" : Str))) (aA (lE iU (aB 2) cJ (bX (aC bQ (aB 3) (eC (.int 1))))) aD)) aD)) (aU 4))
 (aH (dW (bA (aC mQ (aB 4) (T3 (bA (aC fG (aB 3) (eC (.int 0)))) (eC (.int 1)) (eC .non)))) (aZ (eC (.bl false))) aW)
 (dW (bA (aC II (aB 3) (eC (.int 0)))) (aH (aT (aM (cU k) 1 aP (aA (b7 "str" joinM (eC (.str ("\n" : Str))) (aA (lE iU (aB 2) cJ (bX (aC bQ (aB 3) (eC (.int 1))))) aD)) aD)) (aU 5))
 (dW (gH (bA (aC mQ (aC aV (aM (eI k) 1 aP (aA (aB 5) aD)) (eC (.int 0))) (lE iU (aC aV (aB 0) (eC (.int 0))) cJ (bX (aB 3))))) (bA (aC mQ (aC aV (aM (eI k) 1 aP (aA (aB 5) aD)) (eC (.int 8))) (lE iU (aC aV (aB 0) (eC (.int 8))) cJ (bX (aQ max2 (aA (eC (.int 0)) (aA (aC mU (aB 3) (eC (.int 4))) aD)))))))) (aZ (eC (.bl false))) aW)) aW)))
theorem aDz {p : Nat} {i : Nat} {s4 s5 s6 : Option D} (h : IJ f q) (hi : i < 11) (hP : ∀ w' s4 s5, cW w w' → PF (.nx [some (.lst (eV f)), some (.ref p), some (.lst (dJ (bB q))), some (.int (0 + (i : Nat))), s4, s5, s6]) w') : T (R5 k [some (.lst (eV f)), some (.ref p), some (.lst (dJ (bB q))), some (.int (0 + (i : Nat))), s4, s5, s6] w) PF := by
 have ok := nN h.o
 have tk : mX ((bB q).take (i + 1)) := ⟨fun ws hw => ok.w ws (List.mem_of_mem_take hw), by have := ok.l; rw [cj]; omega, by simp [bB]⟩
 have ci : Pc.cutD (dJ (bB q)) none (some (0 + (i : Int) + 1)) = dJ ((bB q).take (i + 1)) := by
  have e : (0 + (i : Int) + 1) = ((i + 1 : Nat) : Int) := by omega
  rw [e, Lw.KG, dJ, dJ, List.map_take, List.map_take]
 have ty : ∀ (z : Str) (w : W), LZ (.str z) w = some "str" := fun _ _ => rfl
 unfold R5
 rw [aX]
 simp only [ty, slL, b5, qW, ci, OU tk, zY, ah, ae, reduceCtorEq]
 cases i with
 | zero =>
  have e0 : (bB q).take 1 = [lT q] := rfl
  rw [e0]
  refine rB k (i := 1) (fun PX hX => aDr k h.o hX) fun w1 x1 => ?_
  try simp only [zY, ah, ae, reduceCtorEq]
  rw [aX]
  have z0 : ((0 : Int) + ((0 : Nat) : Int) == 0) = true := rfl
  have z1 : decide ((0 : Int) < 0 + ((0 : Nat) : Int)) = false := rfl
  simp only [AH, P4, lN, z0, beq_self_eq_true, Bool.not_true, ai, bb, zY, ah, ae, reduceCtorEq]
  rw [z1]
  simp only [bj, ae]
  exact hP _ _ _ x1
 | succ j =>
  have sl := HM (q := q) (j + 1) h.n
  have so := QJ (q := q) h.o (m := j + 1) (by omega) (j + 1 - 4)
  have et : kP ((bB q).take (j + 1 + 1)) = m1 (sub q (j + 1) (j + 1 - 4)) := by
   unfold m1
   rw [sl]
  rw [et]
  refine K5 k (fun Q hQ => Q0 k so fun w' p x' _ => hQ w' p x') fun w1 x1 => ?_
  try simp only [zY, ah, ae, reduceCtorEq]
  rw [aX]
  have z0 : ((0 : Int) + ((j + 1 : Nat) : Int) == 0) = false := by
   rw [beq_eq_false_iff_ne]
   omega
  have z1 : decide ((0 : Int) < 0 + ((j + 1 : Nat) : Int)) = true := by rw [aq]; omega
  have nn : vR .non .non w1 = some true := UG (n := 2) rfl (by omega)
  simp only [AH, P4, lN, z0, nn, Bool.not_true, ai, bb, zY, ah, ae, reduceCtorEq]
  rw [z1]
  simp only [ah]
  rw [aX]
  simp only [ty, slL, b5, qW, ci, OU tk, zY, ah, ae, reduceCtorEq]
  rw [et]
  refine Q0 k so fun w2 p2 x2 hp2 => ?_
  try simp only [zY, ah, ae, reduceCtorEq]
  refine zS k hp2 ?_
  have a0 : atI (EK (fdOf (sub q (j + 1) (j + 1 - 4)))) 0 = some (.tup ((q.rows.take (j + 1)).map eT)) := hD (j := 0) rfl
  have a8 : atI (EK (fdOf (sub q (j + 1) (j + 1 - 4)))) 8 = some (.tup ((q.cK.take (j + 1 - 4)).map dU)) := hD (j := 8) rfl
  have c0 : Pc.cutD (q.rows.map eT) none (some (0 + ((j + 1 : Nat) : Int))) = (q.rows.take (j + 1)).map eT := by
   rw [Int.zero_add, Lw.KG, List.map_take]
  have mx : (if (0 + ((j + 1 : Nat) : Int) - 4) > 0 then (0 + ((j + 1 : Nat) : Int) - 4) else 0) = ((j + 1 - 4 : Nat) : Int) := by
   split <;> omega
  have c8 : Pc.cutD (q.cK.map dU) none (some ((j + 1 - 4 : Nat) : Int)) = (q.cK.take (j + 1 - 4)).map dU := by
   rw [Lw.KG, List.map_take]
  have n0 : ∀ (w : W) (P : D → W → Prop), T (mQ (.tup ((q.rows.take (j + 1)).map eT)) (.tup ((q.rows.take (j + 1)).map eT)) w) P = P (.bl false) w := fun w P => OB (XH so)
  have n8 : ∀ (w : W) (P : D → W → Prop), T (mQ (.tup ((q.cK.take (j + 1 - 4)).map dU)) (.tup ((q.cK.take (j + 1 - 4)).map dU)) w) P = P (.bl false) w := fun w P => OB (YO so)
  simp only [a0, aDy, h.t.r, aEA, b5, c0, n0, ai, bb, zY, ah, ae, reduceCtorEq]
  refine zS k hp2 ?_
  simp only [a8, aDa, h.t.ti, aEA, b5, DT, aF9, mx, c8, n8, ai, bb, zY, ah, ae, reduceCtorEq]
  exact hP _ _ _ (x1.trans x2)
theorem aBy (x : D) : begin iA [x] = [some x, none, none, none, none, none, none] := rfl
theorem aAf : jZ k = aH (HD 1 2 (aA (aM (jD k) 1 aP (aA (aB 0) aD)) (aA (b7 "str" splitM (aM (lR k) 1 aP (aA (aB 0) aD)) (aA (eC (.str ("\n" : Str))) aD)) aD)))
 (aH (dW (gH (bA (aC mQ (aQ (NR rE k.aJ (iY k)) (aA (aB 1) aD)) (b7 "str" joinM (eC (.str ("\n" : Str))) (aA (aB 2) aD)))) (gH (bA (aC mQ (aQ sM (aA (aM (eI k) 1 aP (aA (aM (cU k) 1 aP (aA (aQ (NR rE k.aJ (iY k)) (aA (aB 1) aD)) aD)) aD)) aD)) (aQ sM (aA (aQ eU (aA (aB 0) aD)) aD)))) (bA (aC mQ (aQ (wX k.aJ (dO k)) (aA (aB 1) aD)) (eC (.int 6)))))) (aZ (eC (.bl false))) aW)
 (aH (gM (eY mN (aA (aQ cY (aA (aB 2) aD)) aD)) (aU 3) (R5 k))
 (aH (aT (b7 "str" joinM (eC (.str ("\n" : Str))) (aA (aC bQ (aC bQ (lE iU (aB 2) cJ (bX (eC (.int 5)))) (lE iU (aB 2) (bX (eC (.int 1))) (bX (eC (.int 2))))) (lE iU (aB 2) (bX (eC (.int 5))) cJ)) aD)) (aU 6))
 (aZ (jM (aC fG (aM (cN k) 1 aP (aA (aB 6) aD)) (eC (.int 5))) (aC fG (aM (cN k) 1 aP (aA (b7 "str" joinM (eC (.str ("\n" : Str))) (aA (aC bQ (aB 2) (gT (aA (eC (.str ("tie 5 9 11" : Str))) aD))) aD)) aD)) (eC (.int 11)))))))) := rfl
theorem aFx {α : Type} {l : List α} (h : l.length = 4) : ∃ a b c d, l = [a, b, c, d] := by
 match l, h with
 | [a, b, c, d], _ => exact ⟨a, b, c, d, rfl⟩
theorem XN : b6 (pV (5, 9, 11)) = ("tie 5 9 11" : Str) := by decide +kernel
theorem aFY (x : D) : begin kT [x] = [some x] := rfl
theorem aEH {p : Nat} (hp : w[p]? = some (.ins k.aJ (iJ f))) (t : Tells f q) (o : kH q 6) (hP : P (.int 6) w) : T (wX k.aJ (K06.dO k) [.ref p] w) P := by
 rw [aDx hp]
 unfold K06.dO K06.nY
 rw [eA, aFY]
 have n1 := o.n1
 obtain ⟨r0, rest, er⟩ : ∃ r0 rest, q.rows = r0 :: rest := by
  cases hq : q.rows with
  | nil => rw [hq] at n1; simp at n1
  | cons r0 rest => exact ⟨r0, rest, rfl⟩
 have l0 : r0.length = 6 := (o.rows r0 (by rw [er]; exact bf ..)).1
 have o1 := fun (P : D → W → Prop) => aAg k (P := P) hp (show (iJ f).lookup ("ranks" : Str) = some f.r from rfl)
 simp only [o1, t.r, er, List.map_cons, eT, XS, ai, bb, ak, l0, zY, ah, ae, reduceCtorEq]
 first | exact hP | exact ⟨⟨by decide, by decide⟩, hP⟩ | skip
theorem aBY (h : IJ f q) (hP : ∀ w', cW w w' → P (.bl true) w') : T (K06.kG k [.lst (eV f)] w) P := by
 have o := h.o
 have t := h.t
 have tq := DR q
 have ok := aBE o
 have lk := nN o
 have ll := lk.len
 unfold K06.kG
 rw [eA, aBy, aAf, aX, aES]
 simp only [zY, ah, ae, reduceCtorEq]
 refine aDh k h.g.ok h.g.first fun w1 x1 hp => ?_
 obtain ⟨p, ep⟩ : ∃ p, p = w.length := ⟨_, rfl⟩
 rw [← ep] at hp ⊢
 try simp only [zY, ah, ae, reduceCtorEq]
 refine aCT k o t ?_
 have ty : ∀ (z : Str) (w : W), LZ (.str z) w = some "str" := fun _ _ => rfl
 have es : (Txt.split (m1 q) ("\n" : Str)).map D.str = dJ (bB q) := by
  show (Txt.split (kP (bB q)) ("\n" : Str)).map D.str = _
  rw [lk.split]
  rfl
 simp only [ty, C3 (b := ("\n" : Str)) (by decide +kernel) (show (m1 q).length ≤ 10000 by show (kP (bB q)).length ≤ 10000; omega), es, zY, ah, ae, reduceCtorEq]
 rw [aX]
 simp only [zY, ah, ae, reduceCtorEq]
 refine XU hp (aCx k hp o t fun w2 x2 => ⟨_, rfl, ?_⟩)
 have hp2 := RT x2 hp
 have jd : ∀ (w : W) (P : D → W → Prop), T (joinM (.str ("\n" : Str)) [.lst (dJ (bB q))] w) P = P (.str (m1 q)) w := fun w P => OU lk
 simp only [ty, jd, S1 ok, zY, ah, ae, reduceCtorEq]
 refine XU hp2 (aCx k hp2 o t fun w3 x3 => ⟨_, rfl, ?_⟩)
 have hp3 := RT x3 hp2
 try simp only [zY, ah, ae, reduceCtorEq]
 refine Q0 k o fun w4 p4 x4 h4 => ?_
 have hp4 := RT x4 hp3
 try simp only [zY, ah, ae, reduceCtorEq]
 refine zS k h4 ?_
 obtain ⟨u, py, hf⟩ := FR o
 have su : PyData.strOk u.shown = true := B5 u hf.plain
 have ef : D.tup (EK (fdOf q)) = C4 q := rfl
 rw [ef]
 simp only [aDE (py w4) hf, N4, h.told, S1 su, zY, ah, ae, reduceCtorEq]
 refine aEH k hp4 t o ?_
 simp only [P4, lN, beq_self_eq_true, Bool.not_true, ai, bb, zY, ah, ae, reduceCtorEq]
 rw [aX]
 have l11 : (bB q).length = 11 := by simp [bB, h.n, h.m]
 have l11D : ((dJ (bB q)).length : Int) = 11 := by rw [dJ, ak, ak, l11]; rfl
 simp only [l11D, FD (n := 11) (by omega) (by omega), zY, ah, ae, reduceCtorEq]
 refine Lb.DM (it := pX 0 (11 : Int).toNat) (fun i σ w' => cW w4 w' ∧ ∃ s3 s4 s5, σ = [some (.lst (eV f)), some (.ref p), some (.lst (dJ (bB q))), s3, s4, s5, none]) (fun _ _ _ _ => trivial) ⟨cW.refl, _, _, _, rfl⟩ (fun i x σ w5 hx hI => ?_) (fun σ w5 hI => ?_)
 ·obtain ⟨x5, s3, s4, s5, rfl⟩ := hI
  obtain ⟨hz, rfl⟩ := uG hx
  have hz : i < 11 := hz
  simp only [zY, ah, ae, reduceCtorEq]
  refine aDz k h hz fun w6 s4 s5 x6 => ?_
  exact ⟨x5.trans x6, _, _, _, rfl⟩
 ·obtain ⟨x5, s3, s4, s5, rfl⟩ := hI
  try simp only [eN]
  obtain ⟨r0, r1, r2, r3, er⟩ := aFx h.n
  have so := QJ (q := q) o (m := 4) (by omega) 0
  have sl : bB (sub q 4 0) = (bB q).take 5 := HM (q := q) 4 h.n
  have c5 : Pc.cutD (dJ (bB q)) none (some 5) = dJ (bB (sub q 4 0)) := by
   have := Lw.KG (dJ (bB q)) 5
   rw [sl]
   show _ = (((bB q).take 5).map b6).map D.str
   rw [List.map_take, List.map_take]
   exact this
  have el : bB q = lT q :: qN r0 :: qN r1 :: qN r2 :: qN r3 :: q.cK.map pV := by
   unfold bB
   rw [er]
   rfl
  have c1 : Pc.cutD (dJ (bB q)) (some 1) (some 2) = dJ [qN r0] := by
   have lt : (q.cK.map pV).length = 6 := by rw [ak]; exact h.m
   obtain ⟨ts, et⟩ : ∃ ts, ts = q.cK.map pV := ⟨_, rfl⟩
   rw [← et] at lt el
   rw [el]
   match ts, lt with
   | [t0, t1, t2, t3, t4, t5], _ => rfl
  have c2 : Pc.cutD (dJ (bB q)) (some 5) none = dJ (q.cK.map pV) := by
   have lt : (q.cK.map pV).length = 6 := by rw [ak]; exact h.m
   obtain ⟨ts, et⟩ : ∃ ts, ts = q.cK.map pV := ⟨_, rfl⟩
   rw [← et] at lt el ⊢
   rw [el]
   match ts, lt with
   | [t0, t1, t2, t3, t4, t5], _ => rfl
  have ea : dJ (bB (sub q 4 0)) ++ dJ [qN r0] ++ dJ (q.cK.map pV) = dJ (bB (sub q 4 0) ++ qN r0 :: q.cK.map pV) := by
   unfold dJ
   simp only [cg, List.map_cons, List.map_nil, cb, List.cons_append, List.nil_append]
  have eb : dJ (bB q) ++ [D.str ("tie 5 9 11" : Str)] = dJ (bB q ++ [pV (5, 9, 11)]) := by
   unfold dJ
   simp only [cg, List.map_cons, List.map_nil, XN]
  have hr0 : r0 ∈ q.rows := by rw [er]; exact bf ..
  have l5 : (bB (sub q 4 0)).length = 5 := by rw [sl, cj, l11]; rfl
  have la : mX (bB (sub q 4 0) ++ qN r0 :: q.cK.map pV) := ⟨fun ws hw => by
   rcases cf.mp hw with hw | hw
   ·exact lk.w ws (by rw [sl] at hw; exact List.mem_of_mem_take hw)
   ·refine lk.w ws ?_
    rw [el]
    rcases bh.mp hw with rfl | hw
    ·simp
    ·simp only [bh]
     exact .inr (.inr (.inr (.inr (.inr hw)))), by rw [bw, List.length_cons, ak, l5, h.m]; omega, by simp⟩
  have wt : ∀ x ∈ pV (5, 9, 11), iP x = true := by decide +kernel
  have lb : mX (bB q ++ [pV (5, 9, 11)]) := ⟨fun ws hw => by
   rcases cf.mp hw with hw | hw
   ·exact lk.w ws hw
   ·rw [cc.mp hw]
    exact ⟨wt, by decide, by decide⟩, by rw [bw, l11]; simp, by simp⟩
  have lD : ∀ ls : List (List Str), (dJ ls).length = ls.length := fun ls => by rw [dJ, ak, ak]
  rw [aX]
  simp only [ty, slL, b5, c5, c1, c2, fS, zY, ah, ae, reduceCtorEq]
  refine ⟨qS _ (by rw [lD, lD, l5]; simp), qS _ (by rw [bw, lD, lD, lD, l5, ak, h.m]; simp), ?_⟩
  rw [ea, OU la]
  refine rB k (i := 5) (fun PX hX => ZJ k so la (fun w2 a dd Q ha hQ => ?_) fun w' x' => ?_) fun w6 x6 => ?_
  ·have hr : r0 ∈ (sub q 4 0).rows := by
    show r0 ∈ q.rows.take 4
    rw [er]
    exact bf ..
   refine CO k so ha hr ?_ hQ
   show (q.rows.take 4).length = 4
   rw [cj, h.n]
   rfl
  ·have := hX w' x'
   rw [l5]
   exact this
  have e5 : vR (.int 5) (.int 5) w6 = some true := by rw [lN]; rfl
  simp only [AH, e5, ty, fS, ai, bb, zY, ah, ae, reduceCtorEq]
  refine ⟨qS _ (by rw [lD, l11]; simp), ?_⟩
  rw [eb, OU lb]
  refine rB k (i := 11) (fun PX hX => ZJ k o lb (fun w2 a dd Q ha hQ => ?_) fun w' x' => ?_) fun w7 x7 => ?_
  ·refine GO k (H := 6) (t := (5, 9, 11)) (by omega) ha (by decide) (fun z => by rw [er] at z; cases z) (fun y hy => (o.rows y hy).1) h.m hQ
  ·have := hX w' x'
   rw [l11]
   exact this
  have e11 : vR (.int 11) (.int 11) w7 = some true := by rw [lN]; rfl
  simp only [AH, e11, ai, bb, zY, ah, ae, reduceCtorEq]
  exact hP _ (((((x1.trans x2).trans x3).trans (x4.trans x5)).trans x6).trans x7)
theorem aGo (x : D) : begin m8 [x] = [some x, none, none, none, none, none] := rfl
theorem ix2 {x y v : Int} (h0 : 0 ≤ v) (h1 : v < 2) : ∃ z, atI [D.int x, .int y] v = some (.int z) ∧ (z = x ∨ z = y) := by
 rcases (show v = 0 ∨ v = 1 by omega) with rfl | rfl
 ·exact ⟨x, XS, .inl rfl⟩
 ·exact ⟨y, hD (j := 1) rfl, .inr rfl⟩
theorem ix4 {v : Int} (h0 : 0 ≤ v) (h1 : v < 4) : ∃ z, atI [D.int 1, .int 12, .int 9, .int 10] v = some (.int z) ∧ 1 ≤ z ∧ z ≤ 12 := by
 rcases (show v = 0 ∨ v = 1 ∨ v = 2 ∨ v = 3 by omega) with rfl | rfl | rfl | rfl
 ·exact ⟨1, XS, by omega, by omega⟩
 ·exact ⟨12, hD (j := 1) rfl, by omega, by omega⟩
 ·exact ⟨9, hD (j := 2) rfl, by omega, by omega⟩
 ·exact ⟨10, hD (j := 3) rfl, by omega, by omega⟩
def aEz (n : Nat) (us : List (Int × Int × Int)) : Prop := us.length = n ∧ ∀ (j : Nat) (u : Int × Int × Int), us[j]? = some u → u.1 = (j : Int) ∧ (0 ≤ u.2.1 ∧ u.2.1 ≤ 9) ∧ (1 ≤ u.2.2 ∧ u.2.2 ≤ 11)
theorem P8 : ∀ {ts : List (Int × Int × Int)}, (∀ (j : Nat) (x y : Int × Int × Int), ts[j]? = some x → ts[j + 1]? = some y → x.1 < y.1) → iI (ts.map fun t => (t.1, t.2.1)) = true
 | [], _ => rfl
 | [a], _ => rfl
 | a :: b :: ts, h => by
  simp only [List.map_cons, iI, ar]
  refine ⟨aC2 (.inl (h 0 a b rfl rfl)), P8 (ts := b :: ts) fun j x y h1 h2 => h (j + 1) x y h1 h2⟩
theorem aAU {r c b : Nat} (dk : iN w r c (b + 100)) (hP : ∀ q w', IJ (fdOf q) q → iN w' r c b → P (.lst (eV (fdOf q))) w') : T (K06.m6 k [.ref r] w) P := by
 unfold K06.m6 K06.r9
 rw [eA, aGo, aX]
 simp only [FD (n := 4) (by omega) (by omega), zY, ah, ae, reduceCtorEq]
 refine ⟨qS _ (by rw [jJ]; exact aa rfl), ?_⟩
 refine z3 (it := pX 0 (4 : Int).toNat) (fun i acc w' => iN w' r c (b + 50 + 10 * (4 - i)) ∧ ∃ rs : List (List Int), acc = rs.map eT ∧ rs.length = i ∧ ∀ r ∈ rs, r.length = 6 ∧ ∀ x ∈ r, 1 ≤ x ∧ x ≤ 12) (fun _ _ _ _ => trivial) ⟨dk.less (by omega), [], rfl, rfl, fun _ h => nomatch h⟩ (fun i x acc w1 hx hI => ?_) (fun acc w1 hI => ?_)
 ·obtain ⟨d1, rs, rfl, ln, hr⟩ := hI
  obtain ⟨hz, rfl⟩ := uG hx
  have hz : i < 4 := hz
  simp only [dP, FD (n := 6) (by omega) (by omega), zY, ah, ae, reduceCtorEq]
  refine ⟨qS _ (by rw [jJ]; exact aa rfl), ?_⟩
  refine z3 (it := pX 0 (6 : Int).toNat) (fun j acc w' => iN w' r c (b + 50 + 10 * (4 - (i + 1)) + (6 - j)) ∧ ∃ ns : List Int, acc = ns.map D.int ∧ ns.length = j ∧ ∀ x ∈ ns, 1 ≤ x ∧ x ≤ 12) (fun _ _ _ _ => trivial) ⟨d1.less (by omega), [], rfl, rfl, fun _ h => nomatch h⟩ (fun j x acc w2 hx hI => ?_) (fun acc w2 hI => ?_)
  ·obtain ⟨d2, ns, rfl, l2, hn⟩ := hI
   obtain ⟨hz2, rfl⟩ := uG hx
   have hz2 : j < 6 := hz2
   simp only [dP, RK, zY, ah, ae, reduceCtorEq]
   refine iS (b := b + 50 + 10 * (4 - (i + 1)) + (6 - (j + 1))) (d2.less (by omega)) (by omega) (by omega) fun v w3 v0 v1 d3 k3 => ?_
   obtain ⟨z, ez, z0, z1⟩ := ix4 v0 v1
   simp only [oF, nO, ez, ai, bb, zY, ah, ae, reduceCtorEq]
   refine ⟨d3, ns ++ [z], by rw [cg]; rfl, by rw [bw, l2]; rfl, fun x hx => ?_⟩
   rcases cf.mp hx with h | h
   ·exact hn x h
   ·rw [cc.mp h]
    exact ⟨z0, z1⟩
  ·obtain ⟨d2, ns, rfl, l2, hn⟩ := hI
   rw [jJ] at l2
   simp only [N4]
   refine ⟨d2.less (by omega), rs ++ [ns], by rw [cg]; rfl, by rw [bw, ln]; rfl, fun y hy => ?_⟩
   rcases cf.mp hy with h | h
   ·exact hr y h
   ·rw [cc.mp h]
    exact ⟨l2, hn⟩
 ·obtain ⟨d1, rs, rfl, ln, hr⟩ := hI
  rw [jJ] at ln
  simp only [N4, zY, ah, ae, reduceCtorEq]
  rw [aX]
  simp only [FD (n := 6) (by omega) (by omega), zY, ah, ae, reduceCtorEq]
  refine ⟨qS _ (by rw [jJ]; exact aa rfl), ?_⟩
  refine z3 (it := pX 0 (6 : Int).toNat) (fun j acc w' => iN w' r c (b + 20 + 3 * (6 - j)) ∧ ∃ us : List (Int × Int × Int), acc = us.map dU ∧ aEz j us) (fun _ _ _ _ => trivial) ⟨d1.less (by omega), [], rfl, rfl, fun j u h => by simp at h⟩ (fun j x acc w2 hx hI => ?_) (fun acc w2 hI => ?_)
  ·obtain ⟨d2, us, rfl, l2, hu⟩ := hI
   obtain ⟨hz2, rfl⟩ := uG hx
   have hz2 : j < 6 := hz2
   simp only [dP, RK, zY, ah, ae, reduceCtorEq]
   refine iS (b := b + 20 + 3 * (6 - (j + 1)) + 2) (d2.less (by omega)) (by omega) (by omega) fun v w3 v0 v1 d3 k3 => ?_
   obtain ⟨z, ez, hz⟩ := ix2 (x := 0) (y := 9) v0 v1
   simp only [oF, nO, ez, ai, bb, zY, ah, ae, reduceCtorEq]
   refine iS (b := b + 20 + 3 * (6 - (j + 1)) + 1) (d3.less (by omega)) (by omega) (by omega) fun v' w4 v0' v1' d4 k4 => ?_
   obtain ⟨z', ez', hz'⟩ := ix2 (x := 1) (y := 11) v0' v1'
   simp only [oF, nO, ez', ai, bb, zY, ah, ae, reduceCtorEq]
   refine ⟨d4.less (by omega), us ++ [((j : Int), z, z')], by rw [cg]; simp [dU], by rw [bw, l2]; rfl, fun m u hm => ?_⟩
   by_cases c1 : m < us.length
   ·rw [au c1] at hm
    exact hu m u hm
   ·have c2 : m < (us ++ [((j : Int), z, z')]).length := (aj.mp hm).1
    rw [bw, List.length_singleton] at c2
    obtain rfl : m = us.length := by omega
    rw [bg (av _), Nat.sub_self, List.getElem?_cons_zero, ai] at hm
    subst hm
    exact ⟨by show (j : Int) = _; omega, by show 0 ≤ z ∧ z ≤ 9; omega, by show 1 ≤ z' ∧ z' ≤ 11; omega⟩
  ·obtain ⟨d2, us, rfl, l2, hu⟩ := hI
   rw [jJ] at l2
   simp only [N4, zY, ah, ae, reduceCtorEq]
   rw [aX]
   simp only [RK, zY, ah, ae, reduceCtorEq]
   have pick : ∀ {x y : Int} {w' : W} {n : Nat} {Q : D → W → Prop}, iN w' r c (n + 1) → (∀ z w'', (z = x ∨ z = y) → iN w'' r c n → Q (.int z) w'') → T (JU [.ref r, .int 2] w') fun y' w'' => ∃ d, (∃ k, y' = .int k ∧ atI [D.int x, .int y] k = some d) ∧ Q d w'' := fun {x y w' n Q} dk hq =>
    iS (b := n) dk (by omega) (by omega) fun v w3 v0 v1 d3 k3 => by
     obtain ⟨z, ez, hz⟩ := ix2 (x := x) (y := y) v0 v1
     exact ⟨_, ⟨v, rfl, ez⟩, hq z w3 hz d3⟩
   refine iS (b := b + 19) (d2.less (by omega)) (by omega) (by omega) fun v1 w3 h0 h1 d3 k3 => ?_
   obtain ⟨e, ee, he⟩ := ix2 (x := 1) (y := 5) h0 h1
   simp only [oF, nO, ee, ai, bb, zY, ah, ae, reduceCtorEq]
   refine iS (b := b + 18) d3 (by omega) (by omega) fun v2 w4 h0 h1 d4 k4 => ?_
   obtain ⟨l, el, hl⟩ := ix2 (x := 0) (y := 3) h0 h1
   simp only [oF, nO, el, ai, bb, zY, ah, ae, reduceCtorEq]
   refine iS (b := b + 17) d4 (by omega) (by omega) fun v3 w5 h0 h1 d5 k5 => ?_
   obtain ⟨s, es, hs⟩ := ix2 (x := 1) (y := 4) h0 h1
   simp only [oF, nO, es, ai, bb, zY, ah, ae, reduceCtorEq]
   rw [aX]
   simp only [zY, ah, ae, reduceCtorEq]
   refine iS (b := b + 16) d5 (by omega) (by omega) fun v4 w6 h0 h1 d6 k6 => ?_
   obtain ⟨be, ebe, hbe⟩ := ix2 (x := 0) (y := 3) h0 h1
   simp only [oF, nO, ebe, ai, bb, zY, ah, ae, reduceCtorEq]
   refine iS (b := b + 15) d6 (by omega) (by omega) fun v5 w7 h0 h1 d7 k7 => ?_
   obtain ⟨g, eg, hg⟩ := ix2 (x := 0) (y := 3) h0 h1
   simp only [oF, nO, eg, ai, bb, zY, ah, ae, reduceCtorEq]
   refine iS (b := b + 14) d7 (by omega) (by omega) fun v6 w8 h0 h1 d8 k8 => ?_
   obtain ⟨ho, eho, hho⟩ := ix2 (x := 0) (y := 20) h0 h1
   simp only [oF, nO, eho, fS, ai, bb, zY, ah, ae, reduceCtorEq]
   try (refine ⟨qS _ (by simp), ?_⟩)
   try rw [aX]
   try simp only [zY, ah, ae, reduceCtorEq]
   refine iS (b := b + 13) d8 (by omega) (by omega) fun v7 w9 h0 h1 d9 k9 => ?_
   simp only [AH, lN, ai, bb, zY, ah, ae, reduceCtorEq]
   refine iS (b := b + 12) d9 (by omega) (by omega) fun v8 w10 h0 h1 d10 k10 => ?_
   obtain ⟨hs2, ehs, hhs⟩ := ix2 (x := 0) (y := 4) h0 h1
   simp only [oF, nO, ehs, fS, ai, bb, zY, ah, ae, reduceCtorEq]
   have l6 : us.length = 6 := l2
   have l4 : rs.length = 4 := ln
   have ok : kH (⟨rs, e, l, s, be, g, ho, v7 == 1, us, hs2⟩ : Pn) 6 := by
    refine ⟨by omega, by omega, by show 1 ≤ rs.length; omega, by show rs.length ≤ 4; omega, hr, by show 1 ≤ e ∧ e ≤ 5; omega, by show 0 ≤ l ∧ l ≤ 3; omega, by show 1 ≤ s ∧ s ≤ 4; omega, by show 0 ≤ be ∧ be ≤ 3; omega, by show 0 ≤ g ∧ g ≤ 3; omega, by show 0 ≤ ho ∧ ho ≤ 20; omega, by show us.length ≤ 6; omega, fun t ht => ?_, ?_, by show 0 ≤ hs2 ∧ hs2 ≤ 4; omega⟩
    ·obtain ⟨j, hj⟩ := List.getElem?_of_mem ht
     have lj := (aj.mp hj).1
     have lj : j < us.length := lj
     obtain ⟨a1, a2, a3⟩ := hu j t hj
     exact ⟨⟨by omega, by omega⟩, a2, a3⟩
    ·exact P8 fun j x y h1 h2 => by
      have a1 := (hu j x h1).1
      have a2 := (hu (j + 1) y h2).1
      omega
   first
    | exact hP ⟨rs, e, l, s, be, g, ho, v7 == 1, us, hs2⟩ w10 ⟨LC ok, DR _, ok, l4, l6, rfl⟩ (d10.less (by omega))
    | exact ⟨qS _ (by simp), hP ⟨rs, e, l, s, be, g, ho, v7 == 1, us, hs2⟩ w10 ⟨LC ok, DR _, ok, l4, l6, rfl⟩ (d10.less (by omega))⟩
theorem bel (x0 : D) : begin S6 [x0] = [some x0, none, none, none, none] := rfl
theorem good (ns : List Int) (hl : ns.length ≤ 63) (hP : ∀ w', P (.bl true) w') : T (K06.M3 k [.qF (ns.map D.int)] []) P := by
 unfold K06.M3 K06.YN
 rw [eA, bel, aX]
 simp only [aEf, zY, ah, ae, reduceCtorEq]
 refine (aAE hl).mono fun r w0 _ ⟨er, l0, d0⟩ => ?_
 subst er
 try simp only [zY, ah, ae, reduceCtorEq]
 rw [aX]
 simp only [FD (n := 3) (by omega) (by omega), zY, ah, ae, reduceCtorEq]
 have d00 : iN w0 1 0 (10000 - 1000 * 0) := d0.less (by decide)
 refine ⟨qS _ (by rw [jJ]; exact aa rfl), ?_⟩
 refine z3 (it := pX 0 (3 : Int).toNat) (fun i acc w' => iN w' 1 0 (10000 - 1000 * i) ∧ acc.length = i ∧ ∀ d ∈ acc, ∃ q, IJ (fdOf q) q ∧ d = .lst (eV (fdOf q))) (fun _ _ _ _ => trivial) ⟨d00, rfl, fun d hd => nomatch hd⟩ (fun z dz acc w1 hx hI => ?_) (fun acc w1 hI => ?_)
 ·obtain ⟨d1, la, hf⟩ := hI
  obtain ⟨hz, rfl⟩ := uG hx
  have hz4 : z < 3 := hz
  simp only [dP, zY, ah, ae, reduceCtorEq]
  refine aAU k (b := 9600 - 1000 * z) (d1.less (by omega)) fun q w3 hg d3 => ?_
  try simp only [zY, ah, ae, reduceCtorEq]
  refine ⟨d3.less (by omega), by rw [bw, la]; rfl, fun d hd => ?_⟩
  rcases cf.mp hd with h | h
  ·exact hf d h
  ·exact ⟨q, hg, cc.mp h⟩
 ·obtain ⟨d1, la, hf⟩ := hI
  rw [jJ] at la
  have la : acc.length = 3 := la
  have lc := Lw.aB7 (xs := acc) (lo := none) (hi := some 1)
  simp only [slL, b5, fS, FT, zY, ah, ae, reduceCtorEq]
  refine ⟨qS _ (by omega), qS _ (by rw [bw]; omega), ?_⟩
  refine z3 (it := ⟨acc ++ Pc.cutD acc none (some 1), always⟩) (fun i out w' => out = []) (fun _ _ _ _ => trivial) rfl (fun z dz out w2 hz hI => ?_) (fun out w2 hI => ?_)
  ·subst hI
   have hm := bu hz
   obtain ⟨q, hg, rfl⟩ := hf dz (by
    rcases cf.mp hm with h | h
    ·exact h
    ·exact Lw.aAW h)
   simp only [dP, zY, ah, ae, reduceCtorEq]
   refine aBY k hg fun w3 x3 => ?_
   simp only [Bool.not_true, zY, ah, ae, reduceCtorEq]
  ·subst hI
   have e : vR (.lst []) (.lst []) w2 = some true := UG (n := 2) rfl (by omega)
   simp only [AH, e, ai, bb, zY, ah, ae, reduceCtorEq]
   exact hP _
end
end
theorem aAl (k : K06.bN) (ns : List Int) (h : ns.length ≤ 63) : ∃ w', K06.M3 k [.qF (ns.map Pc.D.int)] [] = .ok (.bl true) w' := by
 obtain ⟨a, w, e, p⟩ := (good k (P := fun d _ => d = .bl true) ns h fun _ => rfl).ex
 exact ⟨w, by rw [e, p]⟩
end K06
namespace K06H
open PySem PySem.Spec PyProof.Rows L2 Pc K06
open PySem PySem.W PySem.Calls PyProof.Rows HandSHeadRun in
open PySem PySem.W PySem.Calls PyProof.Rows in
open PySem PySem.W PySem.Calls PyProof.Rows in
open PySem PySem.W PySem.Calls PyProof.Rows in
open PySem PySem.W PySem.Calls PyProof.Rows in
abbrev St (w : World) (K : PySem.W.Frag) (mg : Str → Option Value) (base : Heap) : aR := ⟨PySem.Challenge.pw_onemaster_k06_great_plans, w, K, mg, base, 0, [], defScope (top 44), fun _ => true⟩
theorem facts {w : World} {K : PySem.W.Frag} {h : Heap} {mg : Str → Option Value} (X : K.In h) (G : h.Ns mainGlobals mg) (c : He.SaysX fa fn ts [] ex w h K) :
  ∃ (d : FuncData) (kk : bN), (FunD K ("law" : Str) ("law" : Str) (defArgs (top 44)) (defBody (top 44)) (defScope (top 44)) [] [] (He.ga K "law") d) ∧ ∀ base, ∃ x : Fx (St w K mg base), x.k = kk ∧ x.HY = He.ga K "law" ∧ x.TH = d := by
 obtain ⟨d0, F0⟩ := c.t.d.def_ 0 (d := t8) rfl
 obtain ⟨d1, F1⟩ := c.t.d.def_ 1 (d := uV) rfl
 obtain ⟨d2, F2⟩ := c.t.d.def_ 2 (d := rK) rfl
 obtain ⟨d3, F3⟩ := c.t.d.def_ 3 (d := wY) rfl
 obtain ⟨d4, F4⟩ := c.t.d.def_ 4 (d := xX) rfl
 obtain ⟨d5, F5⟩ := c.t.d.def_ 5 (d := wN) rfl
 obtain ⟨d6, F6⟩ := c.t.d.def_ 6 (d := pU) rfl
 obtain ⟨d7, F7⟩ := c.t.d.def_ 7 (d := xB) rfl
 obtain ⟨d8, F8⟩ := c.t.d.def_ 8 (d := tG) rfl
 obtain ⟨d9, F9⟩ := c.t.d.def_ 9 (d := uY) rfl
 obtain ⟨d10, F10⟩ := c.t.d.def_ 10 (d := E1) rfl
 obtain ⟨d11, F11⟩ := c.t.d.def_ 11 (d := xO) rfl
 obtain ⟨d12, F12⟩ := c.t.d.def_ 12 (d := yC) rfl
 obtain ⟨d13, F13⟩ := c.t.d.def_ 13 (d := sX) rfl
 obtain ⟨d14, F14⟩ := c.t.d.def_ 14 (d := uF) rfl
 obtain ⟨d15, F15⟩ := c.t.d.def_ 15 (d := oO) rfl
 obtain ⟨d16, F16⟩ := c.t.d.def_ 16 (d := uR) rfl
 obtain ⟨d17, F17⟩ := c.t.d.def_ 17 (d := g6) rfl
 obtain ⟨d18, F18⟩ := c.t.d.def_ 18 (d := gK) rfl
 obtain ⟨d19, F19⟩ := c.t.d.def_ 19 (d := iG) rfl
 obtain ⟨d20, F20⟩ := c.t.d.def_ 20 (d := kI) rfl
 obtain ⟨d21, F21⟩ := c.t.d.def_ 21 (d := nL) rfl
 obtain ⟨d22, F22⟩ := c.t.d.def_ 22 (d := sV) rfl
 obtain ⟨d23, F23⟩ := c.t.d.def_ 23 (d := nM) rfl
 obtain ⟨d24, F24⟩ := c.t.d.def_ 24 (d := uO) rfl
 obtain ⟨d25, F25⟩ := c.t.d.def_ 25 (d := sC) rfl
 obtain ⟨d26, F26⟩ := c.t.d.def_ 26 (d := X8) rfl
 obtain ⟨d27, F27⟩ := c.t.d.def_ 27 (d := lH) rfl
 refine ⟨d26, { n5 := He.ga K "NetError", cM := He.ga K "NoText", aJ := He.ga K "Plan", aK := He.ga K "Reading", dS := He.ga K "NUMBERS", oY := He.ga K "TAKES", kU := kwAt ("Plan", some "__init__") "ties" K }, F26, fun base => ⟨{
  k := { n5 := He.ga K "NetError", cM := He.ga K "NoText", aJ := He.ga K "Plan", aK := He.ga K "Reading", dS := He.ga K "NUMBERS", oY := He.ga K "TAKES", kU := kwAt ("Plan", some "__init__") "ties" K },
  GF := He.free_ok X G (c.t.d.fact 0 (f := .free "all") rfl),
  RG := He.free_ok X G (c.t.d.fact 1 (f := .free "bool") rfl),
  BG := He.free_ok X G (c.t.d.fact 2 (f := .free "enumerate") rfl),
  S0 := He.free_ok X G (c.t.d.fact 3 (f := .free "int") rfl),
  eS := He.free_ok X G (c.t.d.fact 4 (f := .free "isinstance") rfl),
  iD := He.free_ok X G (c.t.d.fact 5 (f := .free "len") rfl),
  QO := He.free_ok X G (c.t.d.fact 6 (f := .free "list") rfl),
  aCo := He.free_ok X G (c.t.d.fact 7 (f := .free "max") rfl),
  vO := He.free_ok X G (c.t.d.fact 8 (f := .free "range") rfl),
  QT := He.free_ok X G (c.t.d.fact 9 (f := .free "repr") rfl),
  zJ := He.free_ok X G (c.t.d.fact 10 (f := .free "str") rfl),
  aCA := He.free_ok X G (c.t.d.fact 11 (f := .free "sum") rfl),
  iQ := He.free_ok X G (c.t.d.fact 12 (f := .free "tuple") rfl),
  X7 := He.free_ok X G (c.t.d.fact 13 (f := .free "zip") rfl),
  IT := m9 X G (qR c.more 0 rfl),
  SQ := m9 X G (qR c.more 1 rfl),
  ID := m9 X G (qR c.more 2 rfl),
  kW := m9 X G (qR c.more 3 rfl),
  qA := m9 X G (qR c.more 4 rfl),
  BC := m9 X G (qR c.more 5 rfl),
  E8 := m9 X G (qR c.more 6 rfl),
  u4 := m9 X G (qR c.more 7 rfl),
  UW := m9 X G (qR c.more 8 rfl),
  vC := ⟨.ref _, .ref _, He.glo_ok X G (c.t.d.fact 32 (f := .glo "NUMBERS") rfl), rfl, fun _ _ => by simp [aF]⟩,
  vL := MM (c.t.tab 0 rfl) (qR c.more 9 rfl),
  K8 := ⟨.ref _, .ref _, He.glo_ok X G (c.t.d.fact 33 (f := .glo "TAKES") rfl), rfl, fun _ _ => by simp [aF]⟩,
  K6 := MM (c.t.tab 1 rfl) (qR c.more 10 rfl),
  BB := He.glo_ok X G (c.t.d.fact 34 (f := .glo "NetError") rfl),
  SO := ⟨.ref _, .ref _, He.glo_ok X G (c.t.d.fact 34 (f := .glo "NetError") rfl), rfl, fun _ _ => by simp [aF]⟩,
  qZ := He.glo_ok X G (c.t.d.fact 35 (f := .glo "NoText") rfl),
  W2 := ⟨.ref _, .ref _, He.glo_ok X G (c.t.d.fact 35 (f := .glo "NoText") rfl), rfl, fun _ _ => by simp [aF]⟩,
  IW := He.glo_ok X G (c.t.d.fact 36 (f := .glo "Plan") rfl),
  aDm := ⟨.ref _, .ref _, He.glo_ok X G (c.t.d.fact 36 (f := .glo "Plan") rfl), rfl, fun _ _ => by simp [aF]⟩,
  cR := He.cls_ok (c.t.d.fact 37 (f := .cls "Plan") rfl),
  m5 := He.noat_ok (c.t.d.fact 40 (f := .noat "Plan" "bears") rfl),
  nB := He.noat_ok (c.t.d.fact 41 (f := .noat "Plan" "every") rfl),
  sH := He.noat_ok (c.t.d.fact 42 (f := .noat "Plan" "gap") rfl),
  pL := He.noat_ok (c.t.d.fact 43 (f := .noat "Plan" "hold") rfl),
  nE := He.noat_ok (c.t.d.fact 44 (f := .noat "Plan" "hosts") rfl),
  pM := He.noat_ok (c.t.d.fact 45 (f := .noat "Plan" "lost") rfl),
  j5 := He.noat_ok (c.t.d.fact 46 (f := .noat "Plan" "ranks") rfl),
  o6 := He.noat_ok (c.t.d.fact 47 (f := .noat "Plan" "slow") rfl),
  nF := He.noat_ok (c.t.d.fact 48 (f := .noat "Plan" "takes") rfl),
  oV := He.noat_ok (c.t.d.fact 49 (f := .noat "Plan" "ties") rfl),
  E9 := He.glo_ok X G (c.t.d.fact 51 (f := .glo "Reading") rfl),
  V6 := ⟨.ref _, .ref _, He.glo_ok X G (c.t.d.fact 51 (f := .glo "Reading") rfl), rfl, fun _ _ => by simp [aF]⟩,
  bH := He.cls_ok (c.t.d.fact 52 (f := .cls "Reading") rfl),
  c6 := He.noat_ok (c.t.d.fact 58 (f := .noat "Reading" "cords") rfl),
  gA := He.noat_ok (c.t.d.fact 59 (f := .noat "Reading" "head") rfl),
  cL := He.noat_ok (c.t.d.fact 60 (f := .noat "Reading" "rows") rfl),
  mK := He.fAd K t8.at_,
  oX := d0,
  uS := F0,
  BQ := He.glo_ok X G (c.t.d.fact 14 (f := .glo "_law_deck") rfl),
  yX := F0.kp,
  lQ := He.fAd K uV.at_,
  pQ := d1,
  tW := F1,
  dX := He.glo_ok X G (c.t.d.fact 15 (f := .glo "_law_draw") rfl),
  cZ := F1.kp,
  kD := He.fAd K rK.at_,
  nG := d2,
  rF := F2,
  z9 := He.glo_ok X G (c.t.d.fact 16 (f := .glo "_law_great") rfl),
  vY := F2.kp,
  rH := He.fAd K wY.at_,
  r7 := d3,
  xT := F3,
  GG := He.meth_ok (c.t.d.fact 38 (f := .meth "Plan" "__len__") rfl),
  nU := He.fAd K xX.at_,
  rP := d4,
  xK := F4,
  r4 := He.glo_ok X G (c.t.d.fact 17 (f := .glo "in_words") rfl),
  o5 := F4.kp,
  sJ := He.fAd K wN.at_,
  rQ := d5,
  yB := F5,
  xI := He.meth_ok (c.t.d.fact 39 (f := .meth "Plan" "__str__") rfl),
  iO := He.fAd K pU.at_,
  lM := d6,
  pT := F6,
  lG := He.glo_ok X G (c.t.d.fact 18 (f := .glo "_law_fields") rfl),
  jU := F6.kp,
  oL := He.fAd K xB.at_,
  r8 := d7,
  wR := F7,
  DO := He.glo_ok X G (c.t.d.fact 19 (f := .glo "is_whole") rfl),
  BU := F7.kp,
  mB := He.fAd K tG.at_,
  o8 := d8,
  sZ := F8,
  jF := He.glo_ok X G (c.t.d.fact 20 (f := .glo "is_within") rfl),
  hZ := F8.kp,
  lZ := He.fAd K uY.at_,
  pF := d9,
  u3 := F9,
  BZ := He.glo_ok X G (c.t.d.fact 21 (f := .glo "are_ranks") rfl),
  zD := F9.kp,
  qK := He.fAd K E1.at_,
  zR := d10,
  EI := F10,
  DF := He.glo_ok X G (c.t.d.fact 22 (f := .glo "is_tie") rfl),
  AO := F10.kp,
  oH := He.fAd K xO.at_,
  r5 := d11,
  xH := F11,
  DU := He.glo_ok X G (c.t.d.fact 23 (f := .glo "are_ties") rfl),
  BO := F11.kp,
  nV := He.fAd K yC.at_,
  rS := d12,
  xR := F12,
  DK := He.glo_ok X G (c.t.d.fact 24 (f := .glo "is_field") rfl),
  BX := F12.kp,
  oW := He.fAd K sX.at_,
  l9 := d13,
  pI := F13,
  RH := He.mkr_ok (c.t.d.fact 50 (f := .mkr "Plan") rfl),
  mC := He.fAd K uF.at_,
  pA := d14,
  uB := F14,
  BN := He.glo_ok X G (c.t.d.fact 25 (f := .glo "_law_made") rfl),
  yS := F14.kp,
  j3 := He.fAd K oO.at_,
  j7 := d15,
  oD := F15,
  HK := He.mkr_ok (c.t.d.fact 61 (f := .mkr "Reading") rfl),
  mJ := He.fAd K uR.at_,
  o4 := d16,
  tY := F16,
  pN := He.glo_ok X G (c.t.d.fact 26 (f := .glo "number_in") rfl),
  nD := F16.kp,
  fO := He.fAd K g6.at_,
  fK := d17,
  g0 := F17,
  mI := He.meth_ok (c.t.d.fact 55 (f := .meth "Reading" "takes_head") rfl),
  fB := He.fAd K gK.at_,
  fC := d18,
  gO := F18,
  kO := He.meth_ok (c.t.d.fact 56 (f := .meth "Reading" "takes_ranks") rfl),
  f9 := He.fAd K iG.at_,
  f7 := d19,
  iF := F19,
  mY := He.meth_ok (c.t.d.fact 57 (f := .meth "Reading" "takes_tie") rfl),
  gQ := He.fAd K kI.at_,
  gS := d20,
  jS := F20,
  pO := He.meth_ok (c.t.d.fact 53 (f := .meth "Reading" "goes_on") rfl),
  jW := He.fAd K nL.at_,
  jN := d21,
  oJ := F21,
  tR := He.meth_ok (c.t.d.fact 54 (f := .meth "Reading" "made") rfl),
  lY := He.fAd K sV.at_,
  o7 := d22,
  tL := F22,
  pR := He.glo_ok X G (c.t.d.fact 27 (f := .glo "read_plan") rfl),
  m4 := F22.kp,
  gW := He.fAd K nM.at_,
  jV := d23,
  oA := F23,
  jO := He.glo_ok X G (c.t.d.fact 28 (f := .glo "_law_refused") rfl),
  iT := F23.kp,
  lV := He.fAd K uO.at_,
  pG := d24,
  tH := F24,
  BD := He.glo_ok X G (c.t.d.fact 29 (f := .glo "_law_text") rfl),
  y6 := F24.kp,
  jY := He.fAd K sC.at_,
  nC := d25,
  rW := F25,
  yO := He.glo_ok X G (c.t.d.fact 30 (f := .glo "_law_right") rfl),
  vX := F25.kp,
  HY := He.fAd K X8.at_,
  TH := d26,
  aCC := F26,
  aCt := He.glo_ok X G (c.t.d.fact 31 (f := .glo "law") rfl),
  aEa := F26.kp,
  lI := He.fAd K lH.at_,
  lO := d27,
  pZ := F27,
  qL := aA3 (qR c.more 11 rfl),
  sN := aBs (qR c.more 12 rfl) }, rfl, rfl, rfl⟩⟩
end K06H
set_option maxHeartbeats 0
open PySem PySem.W PySem.Calls PyProof.Rows
theorem PySem.Challenge.cw_onemaster_k06_great_plans_holds : PySem.Challenge.rw_onemaster_k06_great_plans.Holds := by
 refine K06H.early.2 ?_
 ·refine Pc.YC (l := PySem.Challenge.rw_onemaster_k06_great_plans) (n := 63) (k := 13) (x := "_law_script") rfl (by decide) (by kernel_rfl) ⟨rfl, by decide, by decide⟩ ?F
  intro w mg fa h Y G hmg0
  obtain ⟨K, KX, c⟩ := Y
  have hmg : mg ("law" : PySem.Str) = some (.ref fa) := by
   have e : (HandSHeadRun.topDef (OpenLaw.row PySem.Challenge.rw_onemaster_k06_great_plans).prog 44).name = ("law" : PySem.Str) := by kernel_rfl
   rw [← e]
   exact hmg0
  obtain ⟨d, kk, F, fx⟩ := K06H.facts KX G c
  have hx : fa = He.ga K "law" := by
   obtain ⟨x0, _, e1, _⟩ := fx {}
   have z := x0.aCt
   rw [e1] at z
   have z2 := hmg.symm.trans z
   cases z2
   rfl
  have bd := L2.FunD.bindsA (ps := ["_law_script"]) F fun _ _ _ _ _ _ us hl => match us, hl with | [_], _ => rfl
  refine ⟨K, d, K06.M3 kk, KX, fun s v => bd s [v] rfl, fun ns hl => K06.aAl kk ns hl, fun base _ _ => ?_⟩
  obtain ⟨x, e0, e1, e2⟩ := fx base
  have z := K06.aDT x
  rw [e0, e1, e2] at z
  rw [hx]
  exact z
end
