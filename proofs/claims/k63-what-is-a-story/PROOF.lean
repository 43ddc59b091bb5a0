import PyProof.Rows.All
import Wide.All
import OpenK.AllK
import Wide.FinOn
import HandS.ForMost
import HandS.ForExc
import HandS.TupAny
import HandS.Style
import HandS.Flow
import HandS.Deep
import PyProof.NeKinds
import HandS.Defaults
import HandS.WordsDict
import HandS.IsInst
import HandS.Conv
import KE.SortKeyHeap
import HandS.MakeKwOnly
import HandS.More
import HandS.ListItems
import HandS.Zip
import KE.GoesEnumKw
import HandS.Head0
import HandS.Head1
import HandS.Head2
import HandS.HeadEnd
import HandS.HeadHook1
import HandS.HeadHook2
import HandS.HeadHook3
import HandS.HeadHook4
import HandS.NamedTupGet
import PyProof.FactsLen
import HandS.TupMul
import KE.GoesEnum
import HandS.Zip0
import HandS.SetFor
import HandS.Strs
import KE.DataAny
import KE.KDictPairs
import HandS.DictComp
import HandS.NoneIn
import KE.KEqDict
import HandS.TupLe
import KE.KAssignIn
import HandS.Finally
import HandS.SlotsOwn
import PyProof.InstNe
import HandS.Dict
import HandS.Iter
import KE.KDictCopyH
import KE.DataMinMax
import KE.SortData
import PyProof.Rows.RowBridgeK
import HandS.Exc
import HandS.ExcInit
import HandS.ExcField
import HandS.ClsMeth
import HandS.Text
import HandS.TryMany
import HandS.ExcIs
import HandS.RaiseMore
import HandS.DictTup
import PyProof.ExcBaseAll.IndexError
import HandS.ExcBuiltin
import KE.KExcInit
import KE.SortUse
import HandS.SortKw
import HandS.TupLen
import PyProof.Rows.IntBool
import HandS.FStr
import KE.KCallOwn
import PyProof.Walks
import HandS.Ends
import PySem.Challenge.RW_onemaster_k63_what_is_a_story
import KE.KStateDown
import PyProof.Rows.ReprOcc
noncomputable section
set_option linter.all false
def aa := @if_false
def ab := @Nat.le_of_ble_eq_true
def ae := @if_true
def af := @Option.some.injEq
def ag := @Bool.and_eq_true
def ah := @decide_eq_true_eq
def ai := @Option.map_eq_some_iff
def aj := @List.getElem?_eq_some_iff
def ak := @List.all_eq_true
def ao := @List.mem_cons
def aq := @List.mem_cons_self
def au := @List.getElem?_set_ne
def av := @List.getElem?_eq_getElem
def aw := @List.mem_cons_of_mem
def ay := @Nat.le_refl
def az := @List.getElem?_append_left
def bc := @List.length_append
def bf := @List.mem_append
def bg := @List.not_mem_nil
def bh := @List.getElem?_append_right
def bj := @exists_eq_left'
def bo := @List.mem_of_getElem?
def bp := @List.append_assoc
def bq := @List.mem_singleton
def br := @Bool.false_eq_true
def bt := @List.getElem?_set_self
def bu := @List.length_map
def bw := @Nat.le_trans
def bx := @List.getElem?_map
def cb := @Option.bind_eq_some_iff
set_option Elab.async false
set_option linter.all false
set_option maxRecDepth 100000
set_option maxHeartbeats 4000000
set_option autoImplicit false
namespace Pc
open PySem PySem.Spec PyProof.Rows L2
inductive D where
 | non | bl (b : Bool) | int (i : Int) | str (x : Str) | ty (n : String) | con (a : Addr)
 | tup (xs : List D) | lst (xs : List D) | jR (xs : List D) | nX (xs : List D) | sF (ks vs : List D) | ref (i : Nat)
inductive MO where
 | lst (xs : List D) | dK (kvs : List (Key × D)) | dT (kvs : List (List Key × D)) | dF (kvs : List (Key × D)) | dG (kvs : List (List Key × D)) | ins (C : Addr) (fs : List (Str × D))
def MO.fz : MO → Bool
 | .dF _ => true
 | .dG _ => true
 | _ => false
abbrev W := List MO
structure XD where
 cls : Value
 fs : Option (List (Str × D))
inductive Res (α : Type) where
 | ok (a : α) (w : W)
 | AG (x : XD) (w : W)
 | bad
def Res.bind {α β : Type} (r : Res α) (f : α → W → Res β) : Res β := match r with
 | .ok a w => f a w
 | .AG x w => .AG x w
 | .bad => .bad
@[simp] theorem Res.P4 {α β : Type} (a : α) (w : W) (f : α → W → Res β) : (Res.ok a w).bind f = f a w := rfl
@[simp] theorem Res.YJ {α β : Type} (x : XD) (w : W) (f : α → W → Res β) : (Res.AG x w : Res α).bind f = .AG x w := rfl
@[simp] theorem Res.YN {α β : Type} (f : α → W → Res β) : (Res.bad : Res α).bind f = .bad := rfl
theorem Res.bind_assoc {α β γ : Type} (r : Res α) (f : α → W → Res β) (g : β → W → Res γ) : (r.bind f).bind g = r.bind fun a w => (f a w).bind g := by
 cases r <;> rfl
mutual
def aG (K : PySem.W.Frag) (I : List Addr) (F : Hp) : D → V → Prop
 | .non, v => v = .non
 | .bl b, v => v = .bl b
 | .int i, v => v = .int i
 | .str x, v => v = .str x
 | .ty n, v => v = .ty n
 | .con a, v => v = .ref a
 | .tup xs, v => ∃ a vs, v = .ref a ∧ F a = some (.tup vs) ∧ RepL K I F xs vs
 | .lst xs, v => ∃ a vs, v = .ref a ∧ F a = some (.lst vs) ∧ RepL K I F xs vs
 | .jR xs, v => ∃ a vs, v = .ref a ∧ SqL K F a vs ∧ RepL K I F xs vs
 | .nX xs, v => ∃ a vs, v = .ref a ∧ SqT K F a vs ∧ RepL K I F xs vs
 | .sF ks xs, v => ∃ a kvs, v = .ref a ∧ Rd F a (.dK kvs) ∧ RepL K I F ks (kvs.map fun p => kV p.1) ∧ RepL K I F xs (kvs.map fun p => p.2)
 | .ref i, v => ∃ a, v = .ref a ∧ I[i]? = some a
def RepL (K : PySem.W.Frag) (I : List Addr) (F : Hp) : List D → List V → Prop
 | [], vs => vs = []
 | d :: ds, vs => ∃ v r, vs = v :: r ∧ aG K I F d v ∧ RepL K I F ds r
end
def aP {κ : Type} (K : PySem.W.Frag) (I : List Addr) (F : Hp) : List (κ × D) → List (κ × V) → Prop
 | [], vs => vs = []
 | (k, d) :: ds, vs => ∃ v r, vs = (k, v) :: r ∧ aG K I F d v ∧ aP K I F ds r
def kT (K : PySem.W.Frag) (I : List Addr) (F : Hp) : MO → HO → Prop
 | .lst xs, u => ∃ vs, u = .lst vs ∧ RepL K I F xs vs
 | .dK kvs, u => ∃ r, u = .dK r ∧ aP K I F kvs r
 | .dT kvs, u => ∃ r, u = .dT r ∧ aP K I F kvs r
 | .dF kvs, u => ∃ o r, u = .frz o (.dK r) ∧ aP K I F kvs r
 | .dG kvs, u => ∃ o r, u = .frz o (.dT r) ∧ aP K I F kvs r
 | .ins C fs, u => ∃ dx r, u = .ins C dx r ∧ aP K I F fs r
structure Rel (K : PySem.W.Frag) (I : List Addr) (F : Hp) (G : Hp) (w : W) (H : Hp) : Prop where
 len : I.length = w.length
 nd : I.Nodup
 ob : ∀ (i : Nat) (a : Addr) (o : MO), I[i]? = some a → w[i]? = some o → ∃ u, H a = some u ∧ kT K I F o u
 fz : ∀ a u, F a = some u → H a = some u
 ap : ∀ (i : Nat) (a : Addr) (o : MO), I[i]? = some a → w[i]? = some o → o.fz = false → F a = none
 gz : ∀ a u, G a = some u → H a = some u
 gf : ∀ a u, G a = some u → F a = none ∧ a ∉ I
 gt : ∀ a xs, ¬ G a = some (.tup xs)
structure Ext (I : List Addr) (F : Hp) (I' : List Addr) (F' : Hp) : Prop where
 i : I <+: I'
 f : ∀ a u, F a = some u → F' a = some u
theorem Ext.refl {I : List Addr} {F : Hp} : Ext I F I F := ⟨List.prefix_refl _, fun _ _ h => h⟩
theorem Ext.trans {I I1 I2 : List Addr} {F F1 F2 : Hp} (a : Ext I F I1 F1) (b : Ext I1 F1 I2 F2) : Ext I F I2 F2 := ⟨a.i.trans b.i, fun x u h => b.f x u (a.f x u h)⟩
theorem Ext.get {I I1 : List Addr} {F F1 : Hp} (e : Ext I F I1 F1) {i : Nat} {a : Addr} (h : I[i]? = some a) : I1[i]? = some a := by
 obtain ⟨t, rfl⟩ := e.i
 have hi : i < I.length := (aj.mp h).1
 rw [az hi]; exact h
section
variable {K : PySem.W.Frag} {I I1 I2 : List Addr} {F F1 F2 : Hp}
theorem FV (e : Ext I F I1 F1) {a : Addr} {u : HO} (h : Rd F a u) : Rd F1 a u := by
 rcases h with h | ⟨o, h⟩
 ·exact .inl (e.f _ _ h)
 ·exact .inr ⟨o, e.f _ _ h⟩
theorem v9 (e : Ext I F I1 F1) {a : Addr} {vs : List V} (h : SqT K F a vs) : SqT K F1 a vs := by
 rcases h with h | h
 ·exact .inl (FV e h)
 ·exact .inr h
theorem J7 (e : Ext I F I1 F1) {a : Addr} {vs : List V} (h : SqL K F a vs) : SqL K F1 a vs := by
 rcases h with h | h
 ·exact .inl (FV e h)
 ·exact .inr h
mutual
theorem aG.ext (e : Ext I F I1 F1) : ∀ (d : D) (v : V), aG K I F d v → aG K I1 F1 d v
 | .non, _, h => h
 | .bl _, _, h => h
 | .int _, _, h => h
 | .str _, _, h => h
 | .ty _, _, h => h
 | .con _, _, h => h
 | .tup xs, v, h => by
  simp only [aG] at h ⊢
  obtain ⟨a, vs, h1, h2, h3⟩ := h
  exact ⟨a, vs, h1, e.f _ _ h2, RepL.ext e xs vs h3⟩
 | .nX xs, v, h => by
  simp only [aG] at h ⊢
  obtain ⟨a, vs, h1, h2, h3⟩ := h
  exact ⟨a, vs, h1, v9 e h2, RepL.ext e xs vs h3⟩
 | .lst xs, v, h => by
  simp only [aG] at h ⊢
  obtain ⟨a, vs, h1, h2, h3⟩ := h
  exact ⟨a, vs, h1, e.f _ _ h2, RepL.ext e xs vs h3⟩
 | .jR xs, v, h => by
  simp only [aG] at h ⊢
  obtain ⟨a, vs, h1, h2, h3⟩ := h
  exact ⟨a, vs, h1, J7 e h2, RepL.ext e xs vs h3⟩
 | .sF ks xs, v, h => by
  simp only [aG] at h ⊢
  obtain ⟨a, kvs, h1, h2, h3, h4⟩ := h
  exact ⟨a, kvs, h1, FV e h2, RepL.ext e ks _ h3, RepL.ext e xs _ h4⟩
 | .ref i, v, h => by
  simp only [aG] at h ⊢
  obtain ⟨a, h1, h2⟩ := h
  exact ⟨a, h1, e.get h2⟩
theorem RepL.ext (e : Ext I F I1 F1) : ∀ (ds : List D) (vs : List V), RepL K I F ds vs → RepL K I1 F1 ds vs
 | [], _, h => h
 | d :: ds, vs, h => by
  simp only [RepL] at h ⊢
  obtain ⟨v, r, h1, h2, h3⟩ := h
  exact ⟨v, r, h1, aG.ext e d v h2, RepL.ext e ds r h3⟩
end
theorem aP.ext {κ : Type} (e : Ext I F I1 F1) : ∀ (ds : List (κ × D)) (vs : List (κ × V)), aP K I F ds vs → aP K I1 F1 ds vs
 | [], _, h => h
 | (k, d) :: ds, vs, h => by
  simp only [aP] at h ⊢
  obtain ⟨v, r, h1, h2, h3⟩ := h
  exact ⟨v, r, h1, aG.ext e d v h2, aP.ext e ds r h3⟩
theorem kT.ext (e : Ext I F I1 F1) {o : MO} {u : HO} (h : kT K I F o u) : kT K I1 F1 o u := by
 cases o with
 | lst xs => obtain ⟨vs, h1, h2⟩ := h; exact ⟨vs, h1, RepL.ext e _ _ h2⟩
 | dK xs => obtain ⟨vs, h1, h2⟩ := h; exact ⟨vs, h1, aP.ext e _ _ h2⟩
 | dT xs => obtain ⟨vs, h1, h2⟩ := h; exact ⟨vs, h1, aP.ext e _ _ h2⟩
 | dF xs => obtain ⟨o, vs, h1, h2⟩ := h; exact ⟨o, vs, h1, aP.ext e _ _ h2⟩
 | dG xs => obtain ⟨o, vs, h1, h2⟩ := h; exact ⟨o, vs, h1, aP.ext e _ _ h2⟩
 | ins C xs => obtain ⟨dx, vs, h1, h2⟩ := h; exact ⟨dx, vs, h1, aP.ext e _ _ h2⟩
theorem RepL.length : ∀ {ds : List D} {vs : List V}, RepL K I F ds vs → ds.length = vs.length
 | [], vs, h => by simp only [RepL] at h; subst h; rfl
 | d :: ds, vs, h => by
  simp only [RepL] at h
  obtain ⟨v, r, rfl, _, h3⟩ := h
  simp [RepL.length h3]
theorem RepL.cons {d : D} {ds : List D} {v : V} {vs : List V} (h : aG K I F d v) (t : RepL K I F ds vs) : RepL K I F (d :: ds) (v :: vs) := by
 simp only [RepL]; exact ⟨v, vs, rfl, h, t⟩
theorem RepL.append : ∀ {ds es : List D} {vs us : List V}, RepL K I F ds vs → RepL K I F es us → RepL K I F (ds ++ es) (vs ++ us)
 | [], _, _, _, h, t => by simp only [RepL] at h; subst h; exact t
 | d :: ds, es, vs, us, h, t => by
  simp only [RepL] at h
  obtain ⟨v, r, rfl, h2, h3⟩ := h
  exact RepL.cons h2 (RepL.append h3 t)
theorem RepL.get : ∀ {ds : List D} {vs : List V} {i : Nat} {d : D}, RepL K I F ds vs → ds[i]? = some d → ∃ v, vs[i]? = some v ∧ aG K I F d v
 | [], _, _, _, _, e => by simp at e
 | d :: ds, vs, 0, x, h, e => by
  simp only [RepL] at h
  obtain ⟨v, r, rfl, h2, _⟩ := h
  simp at e; subst e
  exact ⟨v, rfl, h2⟩
 | d :: ds, vs, i + 1, x, h, e => by
  simp only [RepL] at h
  obtain ⟨v, r, rfl, _, h3⟩ := h
  obtain ⟨u, h4, h5⟩ := RepL.get (i := i) h3 (by simpa using e)
  exact ⟨u, by simpa using h4, h5⟩
theorem RepL.set : ∀ {ds : List D} {vs : List V} (i : Nat) {d : D} {v : V}, RepL K I F ds vs → aG K I F d v → RepL K I F (ds.set i d) (vs.set i v)
 | [], vs, _, _, _, h, _ => by simp only [RepL] at h; subst h; simp [RepL]
 | d :: ds, vs, 0, x, u, h, hv => by
  simp only [RepL] at h
  obtain ⟨v, r, rfl, _, h3⟩ := h
  exact RepL.cons hv h3
 | d :: ds, vs, i + 1, x, u, h, hv => by
  simp only [RepL] at h
  obtain ⟨v, r, rfl, h2, h3⟩ := h
  exact RepL.cons h2 (RepL.set i h3 hv)
theorem RepL.take : ∀ {ds : List D} {vs : List V} (n : Nat), RepL K I F ds vs → RepL K I F (ds.take n) (vs.take n)
 | _, _, 0, _ => by simp [RepL]
 | [], vs, n + 1, h => by simp only [RepL] at h; subst h; simp [RepL]
 | d :: ds, vs, n + 1, h => by
  simp only [RepL] at h
  obtain ⟨v, r, rfl, h2, h3⟩ := h
  exact RepL.cons h2 (RepL.take n h3)
theorem RepL.drop : ∀ {ds : List D} {vs : List V} (n : Nat), RepL K I F ds vs → RepL K I F (ds.drop n) (vs.drop n)
 | _, _, 0, h => h
 | [], vs, n + 1, h => by simp only [RepL] at h; subst h; simp [RepL]
 | d :: ds, vs, n + 1, h => by
  simp only [RepL] at h
  obtain ⟨v, r, rfl, h2, h3⟩ := h
  exact RepL.drop n h3
theorem RepL.ints (ns : List Int) : RepL K I F (ns.map D.int) (ns.map V.int) := by
 induction ns with
 | nil => simp [RepL]
 | cons n ns ih => exact RepL.cons (by simp [aG]) ih
end
abbrev Sg := List (Option D)
def fC (K : PySem.W.Frag) (I : List Addr) (F : Hp) (ds : Sg) (s : L2.St) : Prop := ds.length = s.length ∧ ∀ (i : Nat) (d : D), ds[i]? = some (some d) → ∃ v, s[i]? = some (some v) ∧ aG K I F d v
theorem fC.ext {K : PySem.W.Frag} {I I1 : List Addr} {F F1 : Hp} {ds : Sg} {s : L2.St} (h : fC K I F ds s) (e : Ext I F I1 F1) : fC K I1 F1 ds s :=
 ⟨h.1, fun i d q => let ⟨v, h1, h2⟩ := h.2 i d q; ⟨v, h1, aG.ext e d v h2⟩⟩
theorem fC.set {K : PySem.W.Frag} {I : List Addr} {F : Hp} {ds : Sg} {s : L2.St} (h : fC K I F ds s) (i : Nat) {d : D} {v : V} (hv : aG K I F d v) : fC K I F (ds.set i (some d)) (s.set i (some v)) := by
 refine ⟨by simp [h.1], fun j e q => ?_⟩
 by_cases hj : i = j
 ·subst hj
  by_cases hl : i < ds.length
  ·rw [bt hl] at q
   cases q
   exact ⟨v, bt (by rw [← h.1]; exact hl), hv⟩
  ·rw [List.getElem?_eq_none (by simpa using hl)] at q; cases q
 ·rw [au hj] at q
  rw [au hj]
  exact h.2 j e q
theorem fC.unset {K : PySem.W.Frag} {I : List Addr} {F : Hp} {ds : Sg} {s : L2.St} (h : fC K I F ds s) (i : Nat) (x : Option V) : fC K I F (ds.set i none) (s.set i x) := by
 refine ⟨by simp [h.1], fun j e q => ?_⟩
 by_cases hj : i = j
 ·subst hj
  by_cases hl : i < ds.length
  ·rw [bt hl] at q; cases q
  ·rw [List.getElem?_eq_none (by simpa using hl)] at q; cases q
 ·rw [au hj] at q
  rw [au hj]
  exact h.2 j e q
def yI (K : PySem.W.Frag) (I : List Addr) (F H : Hp) (x : XD) (c : Value) (d : Option Addr) : Prop :=
 c = x.cls ∧ match x.fs with
  | none => d = none
  | some fs => ∃ a r, d = some a ∧ H a = some (.xd r) ∧ aP K I F fs r
def bE {α : Type} (K : PySem.W.Frag) (I : List Addr) (F G : Hp) (E : XK) (R : List Addr → Hp → Hp → α → W → Prop) : Res α → Prop
 | .ok a w => ∀ I' F' H', Ext I F I' F' → Rel K I' F' G w H' → R I' F' H' a w
 | .AG x w => ∀ I' F' H' c d, Ext I F I' F' → Rel K I' F' G w H' → yI K I' F' H' x c d → E c d H'
 | .bad => False
section
variable {α β : Type} {K : PySem.W.Frag} {I I1 : List Addr} {F F1 G : Hp} {E : XK} {R R' : List Addr → Hp → Hp → α → W → Prop} {r : Res α}
theorem bE.ext (h : bE K I F G E R r) (e : Ext I F I1 F1) : bE K I1 F1 G E R r := by
 cases r with
 | ok a w => exact fun I' F' H' e' q => h I' F' H' (e.trans e') q
 | AG x w => exact fun I' F' H' c d e' q y => h I' F' H' c d (e.trans e') q y
 | bad => exact h
theorem bE.mono (h : bE K I F G E R r) (k : ∀ I' F' H' a w, r = .ok a w → Ext I F I' F' → Rel K I' F' G w H' → R I' F' H' a w → R' I' F' H' a w) : bE K I F G E R' r := by
 cases r with
 | ok a w => exact fun I' F' H' e' q => k I' F' H' a w rfl e' q (h I' F' H' e' q)
 | AG x w => exact h
 | bad => exact h
theorem bE.bind {f : α → W → Res β} {R2 : List Addr → Hp → Hp → β → W → Prop} (h : bE K I F G E R2 (r.bind f)) : bE K I F G E (fun I' F' _ a w => bE K I' F' G E R2 (f a w)) r := by
 cases r with
 | ok a w => exact fun I' F' H' e' q => bE.ext (K := K) (R := R2) h e'
 | AG x w => exact h
 | bad => exact h
end
def RV (K : PySem.W.Frag) (Q : VK) : List Addr → Hp → Hp → D → W → Prop := fun I' F' H' d _ => ∀ v, aG K I' F' d v → Q v H'
structure aQ where
 P : Program
 w : World
 K : PySem.W.Frag
 mg : Str → Option Value
 base : Heap
 k : Nat
 N : List Str
 sc : Scope
 fn : Str → Bool
structure Ctx (S : aQ) (X : Cx) : Prop where
 P : X.prog = S.P
 w : X.w = S.w
 K : X.K = S.K
 mg : X.mg = S.mg
 base : X.base = S.base
 N : X.N = S.N
 sc : X.env.scope = S.sc
 fn : ∀ x, S.fn x = true → X.fn x = true
 calm : X.calm = true
 room : Room S.k X.A
 Y4 : X.A.guards = some []
 nd : X.N.Nodup
structure nQ (X : Cx) (E : XK) : Prop where
 tk : Takes X (fun cls d _ H => E cls d H)
 own : PassesOwn (model X.prog X.w) X.A X.env X.xe
abbrev ME := Sg → W → Res D
abbrev MT := Sg → W → Res Bool
abbrev MA := Sg → W → Res (List D)
inductive Fl where
 | nx (s : Sg) | rt (d : D) | bk (s : Sg) | ct (s : Sg)
abbrev MS := Sg → W → Res Fl
def RL (K : PySem.W.Frag) (Q : List V → Hp → Prop) : List Addr → Hp → Hp → List D → W → Prop := fun I' F' H' ds _ => ∀ vs, RepL K I' F' ds vs → Q vs H'
def RB (Q : Bool → Hp → Prop) : List Addr → Hp → Hp → Bool → W → Prop := fun _ _ H' b _ => Q b H'
def ZD (K : PySem.W.Frag) (Z : Ends) : List Addr → Hp → Hp → Fl → W → Prop := fun I' F' H' f _ => match f with
 | .nx s => ∀ s', fC K I' F' s s' → Z.nx s' H'
 | .rt d => ∀ v, aG K I' F' d v → Z.rt v H'
 | .bk s => ∀ s', fC K I' F' s s' → Z.bk s' H'
 | .ct s => ∀ s', fC K I' F' s s' → Z.ct s' H'
def p6 (K : PySem.W.Frag) (E : XK) (m : ME) : TE := fun σ H Q => ∃ I F G ds w, Rel K I F G w H ∧ fC K I F ds σ ∧ bE K I F G E (RV K Q) (m ds w)
def O6 (K : PySem.W.Frag) (E : XK) (m : MT) : TT := fun σ H Q => ∃ I F G ds w, Rel K I F G w H ∧ fC K I F ds σ ∧ bE K I F G E (RB Q) (m ds w)
def SD (K : PySem.W.Frag) (E : XK) (m : MA) : TA := fun σ H Q => ∃ I F G ds w, Rel K I F G w H ∧ fC K I F ds σ ∧ bE K I F G E (RL K Q) (m ds w)
def zC (K : PySem.W.Frag) (E : XK) (m : MS) : TS := fun Z σ H => ∃ I F G ds w, Rel K I F G w H ∧ fC K I F ds σ ∧ bE K I F G E (ZD K Z) (m ds w)
def JE (S : aQ) (e : Expr) (m : ME) : Prop := ∀ X E, Ctx S X → nQ X E → PE X e (p6 X.K E m)
def JT (S : aQ) (e : Expr) (m : MT) : Prop := ∀ X E, Ctx S X → nQ X E → PT X e (O6 X.K E m)
def JW (S : aQ) (e : Expr) (m : MT) : Prop := ∀ X E, Ctx S X → nQ X E → PW X e (O6 X.K E m)
def JA (S : aQ) (es : List Expr) (m : MA) : Prop := ∀ X E, Ctx S X → nQ X E → PA X es (SD X.K E m)
def JS (S : aQ) (st : Stmt) (m : MS) : Prop := ∀ X E, Ctx S X → nQ X E → PS X st (zC X.K E m)
def lD (S : aQ) (st : List Stmt) (m : MS) : Prop := ∀ X E, Ctx S X → nQ X E → PSs X st (zC X.K E m)
section
variable {X : Cx} {e : Expr} {es : List Expr} {st : Stmt} {sts : List Stmt}
theorem cG {t t' : TE} (h : PE X e t) (k : ∀ σ H Q, t' σ H Q → t σ H Q) : PE X e t' := ⟨fun pins s σ H Q I q => h.run pins s σ H Q I (k σ H Q q)⟩
theorem AZ {t t' : TT} (h : PT X e t) (k : ∀ σ H Q, t' σ H Q → t σ H Q) : PT X e t' := ⟨fun pins s σ H Q I q => h.run pins s σ H Q I (k σ H Q q)⟩
theorem JZ {t t' : TT} (h : PW X e t) (k : ∀ σ H Q, t' σ H Q → t σ H Q) : PW X e t' := ⟨fun wh pins s σ H Q I q => h.run wh pins s σ H Q I (k σ H Q q)⟩
theorem IV {t t' : TA} (h : PA X es t) (k : ∀ σ H Q, t' σ H Q → t σ H Q) : PA X es t' := ⟨fun pos pins s σ H Q I q => h.run pos pins s σ H Q I (k σ H Q q)⟩
theorem nH {t t' : TS} (h : PS X st t) (k : ∀ D σ H, t' D σ H → t D σ H) : PS X st t' := ⟨fun pins s σ H D I q => h.run pins s σ H D I (k D σ H q)⟩
theorem DE {t t' : TS} (h : PSs X sts t) (k : ∀ D σ H, t' D σ H → t D σ H) : PSs X sts t' := ⟨fun pins s σ H D I q => h.run pins s σ H D I (k D σ H q)⟩
end
def aB (i : Nat) : ME := fun σ w => match σ[i]? with
 | some (some d) => .ok d w
 | _ => .bad
def eC (d : D) : ME := fun _ w => .ok d w
section
variable {S : aQ} {pos : Pos}
theorem U9 (i : Nat) {x : Str} (hN : S.N[i]? = some x) (hv : Vis S.sc x) (hd : (x == ("__debug__" : Str)) = false := by decide) (hcd : (x == ("__classdict__" : Str)) = false := by decide) : JE S (.Name x pos) (aB i) := by
 intro X E c xo
 refine cG (pe_var (i := i) (by rw [c.N]; exact hN) (by rw [c.sc]; exact hv) hd hcd) fun σ H Q h => ?_
 obtain ⟨I, F, G, ds, w, rel, rs, p⟩ := h
 unfold aB at p
 split at p
 ·rename_i d hi
  obtain ⟨v, hv, hr⟩ := rs.2 i d hi
  exact ⟨v, hv, p I F H .refl rel v hr⟩
 ·exact p.elim
theorem RA {e : Expr} {d : D} {v : V} (h : ∀ X, PE X e (tC v)) (hr : ∀ K I F, aG K I F d v) : JE S e (eC d) := by
 intro X E c xo
 refine cG (h X) fun σ H Q h => ?_
 obtain ⟨I, F, G, ds, w, rel, rs, p⟩ := h
 exact p I F H .refl rel v (hr _ _ _)
theorem aH {i : Int} {j : Nat} : JE S (.Constant (.int i) j pos) (eC (.int i)) := RA (fun _ => pe_int) fun _ _ _ => by simp [aG]
theorem kI {b : Bool} {j : Nat} : JE S (.Constant (.bool b) j pos) (eC (.bl b)) := RA (fun _ => pe_bl) fun _ _ _ => by simp [aG]
theorem LS {j : Nat} : JE S (.Constant .none j pos) (eC .non) := RA (fun _ => pe_non) fun _ _ _ => by simp [aG]
theorem bK {x : Str} {j : Nat} : JE S (.Constant (.str x) j pos) (eC (.str x)) := RA (fun _ => pe_str) fun _ _ _ => by simp [aG]
theorem SH {x : Str} {d : D} {v : V} {u : Value} (hg : S.sc.names.lookup x = some .globalImplicit) (hm : S.mg x = some u) (r : RelV v u) (hr : ∀ I F, aG S.K I F d v) (hd : (x == ("__debug__" : Str)) = false := by decide) : JE S (.Name x pos) (eC d) := by
 intro X E c xo
 refine cG (pe_glob (x := x) (v := v) (u := u) (by show X.env.scope.names.lookup x = _; rw [c.sc]; exact hg) (by rw [c.mg]; exact hm) r hd) fun σ H Q h => ?_
 obtain ⟨I, F, G, ds, w, rel, rs, p⟩ := h
 exact p I F H .refl rel v (by rw [c.K]; exact hr _ _)
end
def aE (f : D → D → W → Res D) (a b : ME) : ME := fun σ w => (a σ w).bind fun x w1 => (b σ w1).bind fun y w2 => f x y w2
def sT (f : D → W → Res D) (a : ME) : ME := fun σ w => (a σ w).bind fun x w1 => f x w1
def NX (K : PySem.W.Frag) (E : XK) (f : D → D → W → Res D) : R2 := fun x y H Q => ∃ I F G d e w, Rel K I F G w H ∧ aG K I F d x ∧ aG K I F e y ∧ bE K I F G E (RV K Q) (f d e w)
def ZG (K : PySem.W.Frag) (E : XK) (f : D → W → Res D) : V → Hp → VK → Prop := fun x H Q => ∃ I F G d w, Rel K I F G w H ∧ aG K I F d x ∧ bE K I F G E (RV K Q) (f d w)
def O2 (S : aQ) (o : Value → Value → Sem Value) (f : D → D → W → Res D) : Prop := ∀ X E, Ctx S X → nQ X E → OpR X o (NX X.K E f)
def O1 (S : aQ) (o : Value → Sem Value) (f : D → W → Res D) : Prop := ∀ X E, Ctx S X → nQ X E → UnR X o (ZG X.K E f)
section
variable {S : aQ} {pos : Pos} {a b : Expr} {ma mb : ME}
theorem rT {K : PySem.W.Frag} {E : XK} {f : D → D → W → Res D} {σ : L2.St} {H : Hp} {Q : VK} (h : p6 K E (aE f ma mb) σ H Q) : tOp (NX K E f) (p6 K E ma) (p6 K E mb) σ H Q := by
 obtain ⟨I, F, G, ds, w, rel, rs, p⟩ := h
 refine ⟨I, F, G, ds, w, rel, rs, (bE.bind p).mono fun I1 F1 H1 x w1 _ e1 rel1 p1 v rv => ?_⟩
 refine ⟨I1, F1, G, ds, w1, rel1, rs.ext e1, (bE.bind p1).mono fun I2 F2 H2 y w2 _ e2 rel2 p2 u ru => ?_⟩
 exact ⟨I2, F2, G, x, y, w2, rel2, aG.ext e2 _ _ rv, ru, p2⟩
theorem a6 {op : Operator} {f : D → D → W → Res D} (ho : O2 S (binaryOp op) f) (ha : JE S a ma) (hb : JE S b mb) : JE S (.BinOp a op b pos) (aE f ma mb) := fun X E c xo =>
 cG (pe_op (ho X E c xo) (ha X E c xo) (hb X E c xo)) fun _ _ _ h => rT h
theorem gK {op : CmpOp} {f : D → D → W → Res D} (ho : O2 S (compareOp op) f) (ha : JE S a ma) (hb : JE S b mb) (hm : behindInMarks op b = false := by first | exact nobehind _ (by decide) (by decide) | rfl) : JE S (.Compare a [op] [b] pos) (aE f ma mb) := fun X E c xo =>
 cG (pe_cmpR (ho X E c xo) (ha X E c xo) (hb X E c xo) hm) fun _ _ _ h => rT h
theorem NR {op : UnaryOp} {f : D → W → Res D} (ho : O1 S (unaryOp op) f) (ha : JE S a ma) : JE S (.UnaryOp op a pos) (sT f ma) := fun X E c xo =>
 cG (pe_un (ho X E c xo) (ha X E c xo)) fun σ H Q h => by
  obtain ⟨I, F, G, ds, w, rel, rs, p⟩ := h
  refine ⟨I, F, G, ds, w, rel, rs, (bE.bind p).mono fun I1 F1 H1 x w1 _ e1 rel1 p1 v rv => ?_⟩
  exact ⟨I1, F1, G, x, w1, rel1, rv, p1⟩
def X2 (d : D) (w : W) : Res Bool := match d with
 | .bl b => .ok b w
 | _ => .bad
def bG (m : ME) : MT := fun σ w => (m σ w).bind X2
theorem b5 {op : CmpOp} {f : D → D → W → Res D} (ho : O2 S (compareOp op) f) (ha : JE S a ma) (hb : JE S b mb) (hm : behindInMarks op b = false := by first | exact nobehind _ (by decide) (by decide) | rfl) : JT S (.Compare a [op] [b] pos) (bG (aE f ma mb)) := fun X E c xo =>
 AZ (pt_cmpR (ho X E c xo) (ha X E c xo) (hb X E c xo) hm) fun σ H Q h => by
  obtain ⟨I, F, G, ds, w, rel, rs, p⟩ := h
  show tOp _ _ _ σ H fun x H' => ∃ k, x = .bl k ∧ Q k H'
  refine rT ⟨I, F, G, ds, w, rel, rs, (bE.bind p).mono fun I1 F1 H1 x w1 _ e1 rel1 p1 v rv => ?_⟩
  cases x <;> first | exact p1.elim | skip
  simp only [aG] at rv
  exact ⟨_, rv, p1 I1 F1 H1 .refl rel1⟩
end
mutual
def D.e7 (f : Nat → Option PyData) : D → Option PyData
 | .non => some .none
 | .bl b => some (.bool b)
 | .int i => some (.int i)
 | .str x => some (.str x)
 | .ty _ => none
 | .con _ => none
 | .tup xs => (D.pysR f xs).map .tuple
 | .lst xs => (D.pysR f xs).map .list
 | .jR xs => (D.pysR f xs).map .list
 | .nX xs => (D.pysR f xs).map .tuple
 | .sF _ _ => none
 | .ref i => f i
def D.pysR (f : Nat → Option PyData) : List D → Option (List PyData)
 | [] => some []
 | d :: ds => match D.e7 f d, D.pysR f ds with
  | some p, some ps => some (p :: ps)
  | _, _ => none
end
def DI : Nat → W → Nat → Option PyData
 | 0, _, _ => none
 | n + 1, w, i => match w[i]? with
  | some (.lst xs) => (D.pysR (DI n w) xs).map .list
  | _ => none
def D.py (w : W) (d : D) : Option PyData := d.e7 (DI 8 w)
section
variable {K : PySem.W.Frag} {I : List Addr} {F G H : Hp} {w : W}
theorem Rel.LQ (rel : Rel K I F G w H) {a : Addr} {vs : List V} (h : SqL K F a vs) : SqL K H a vs := by
 rcases h with (h | ⟨o, h⟩) | h
 ·exact .inl (.inl (rel.fz _ _ h))
 ·exact .inl (.inr ⟨o, rel.fz _ _ h⟩)
 ·exact .inr h
theorem Rel.EN (rel : Rel K I F G w H) {a : Addr} {vs : List V} (h : SqT K F a vs) : SqT K H a vs := by
 rcases h with (h | ⟨o, h⟩) | h
 ·exact .inl (.inl (rel.fz _ _ h))
 ·exact .inl (.inr ⟨o, rel.fz _ _ h⟩)
 ·exact .inr h
mutual
theorem OH (rel : Rel K I F G w H) {f : Nat → Option PyData} (hf : ∀ i a p, I[i]? = some a → f i = some p → Dp K H (.ref a) p) : ∀ (d : D) (v : V) (p : PyData), aG K I F d v → d.e7 f = some p → Dp K H v p
 | .non, v, p, h, e => by simp only [aG] at h; simp only [D.e7, af] at e; subst h; subst e; exact .non
 | .bl b, v, p, h, e => by simp only [aG] at h; simp only [D.e7, af] at e; subst h; subst e; exact .bl b
 | .int i, v, p, h, e => by simp only [aG] at h; simp only [D.e7, af] at e; subst h; subst e; exact .int i
 | .str x, v, p, h, e => by simp only [aG] at h; simp only [D.e7, af] at e; subst h; subst e; exact .str x
 | .ty _, v, p, h, e => by simp [D.e7] at e
 | .con _, v, p, h, e => by simp [D.e7] at e
 | .sF _ _, v, p, h, e => by simp [D.e7] at e
 | .tup xs, v, p, h, e => by
  simp only [aG] at h
  obtain ⟨a, vs, rfl, h2, h3⟩ := h
  simp only [D.e7, ai] at e
  obtain ⟨ps, e1, rfl⟩ := e
  exact .tup (.of (rel.fz _ _ h2)) (dp_pysR rel hf xs vs ps h3 e1)
 | .nX xs, v, p, h, e => by
  simp only [aG] at h
  obtain ⟨a, vs, rfl, h2, h3⟩ := h
  simp only [D.e7, ai] at e
  obtain ⟨ps, e1, rfl⟩ := e
  exact .tup (rel.EN h2) (dp_pysR rel hf xs vs ps h3 e1)
 | .lst xs, v, p, h, e => by
  simp only [aG] at h
  obtain ⟨a, vs, rfl, h2, h3⟩ := h
  simp only [D.e7, ai] at e
  obtain ⟨ps, e1, rfl⟩ := e
  exact .lst (.of (rel.fz _ _ h2)) (dp_pysR rel hf xs vs ps h3 e1)
 | .jR xs, v, p, h, e => by
  simp only [aG] at h
  obtain ⟨a, vs, rfl, h2, h3⟩ := h
  simp only [D.e7, ai] at e
  obtain ⟨ps, e1, rfl⟩ := e
  exact .lst (rel.LQ h2) (dp_pysR rel hf xs vs ps h3 e1)
 | .ref i, v, p, h, e => by
  simp only [aG] at h
  obtain ⟨a, rfl, h2⟩ := h
  simp only [D.e7] at e
  exact hf i a p h2 e
theorem dp_pysR (rel : Rel K I F G w H) {f : Nat → Option PyData} (hf : ∀ i a p, I[i]? = some a → f i = some p → Dp K H (.ref a) p) : ∀ (ds : List D) (vs : List V) (ps : List PyData), RepL K I F ds vs → D.pysR f ds = some ps → DpAll K H vs ps
 | [], vs, ps, h, e => by simp only [RepL] at h; simp only [D.pysR, af] at e; subst h; subst e; exact .nil
 | d :: ds, vs, ps, h, e => by
  simp only [RepL] at h
  obtain ⟨v, r, rfl, h2, h3⟩ := h
  simp only [D.pysR] at e
  split at e
  ·rename_i p ps' e1 e2
   cases e
   exact .cons (OH rel hf d v p h2 e1) (dp_pysR rel hf ds r ps' h3 e2)
  ·cases e
end
theorem S5 (rel : Rel K I F G w H) : ∀ (n : Nat) (i : Nat) (a : Addr) (p : PyData), I[i]? = some a → DI n w i = some p → Dp K H (.ref a) p
 | 0, i, a, p, _, e => by simp [DI] at e
 | n + 1, i, a, p, h, e => by
  simp only [DI] at e
  split at e
  ·rename_i xs hw
   simp only [ai] at e
   obtain ⟨ps, e1, rfl⟩ := e
   obtain ⟨u, hu, ho⟩ := rel.ob i a _ h hw
   obtain ⟨vs, rfl, h3⟩ := ho
   exact .lst (.of hu) (dp_pysR rel (fun i a p => S5 rel n i a p) xs vs ps h3 e1)
  ·cases e
theorem JJ (rel : Rel K I F G w H) {d : D} {v : V} {p : PyData} (h : aG K I F d v) (e : d.py w = some p) : Dp K H v p :=
 OH rel (fun i a p => S5 rel 8 i a p) d v p h e
end
def cB (x y : D) (w : W) : Res D := match x, y with
 | .int a, .int b => .ok (.int (a + b)) w
 | .str a, .str b => if a.length + b.length ≤ sizeLine then .ok (.str (a ++ b)) w else .bad
 | .tup a, .tup b => if a.length + b.length ≤ sizeLine then .ok (.tup (a ++ b)) w else .bad
 | .lst a, .lst b => if a.length + b.length ≤ sizeLine then .ok (.lst (a ++ b)) w else .bad
 | _, _ => .bad
def kP (x y : D) (w : W) : Res D := match x, y with
 | .int a, .int b => .ok (.int (a - b)) w
 | _, _ => .bad
def wV (a b : Int) : Bool := (decide (-(2 ^ 64) < a) && decide (a < 2 ^ 64)) || (decide (-(2 ^ 64) < b) && decide (b < 2 ^ 64))
def mulM (x y : D) (w : W) : Res D := match x, y with
 | .int a, .int b => if wV a b then .ok (.int (a * b)) w else .bad
 | .lst a, .int k => if -(2 ^ 63) ≤ k ∧ k < 2 ^ 63 ∧ a.length * k.toNat ≤ sizeLine then .ok (.lst (List.replicate k.toNat a).flatten) w else .bad
 | _, _ => .bad
def qF (x y : D) (w : W) : Res D := match x, y with
 | .int a, .int b => if 0 < b ∧ b < 1073741824 then .ok (.int (a / b)) w else .bad
 | _, _ => .bad
def hH (x y : D) (w : W) : Res D := match x, y with
 | .int a, .int b => if 0 < b then .ok (.int (a % b)) w else .bad
 | _, _ => .bad
def yO (x y : D) (w : W) : Res D := match x, y with
 | .int a, .int b => if 0 ≤ b ∧ b ≤ 1000000 ∧ a.natAbs < 2 ^ 64 then .ok (.int (a ^ b.toNat)) w else .bad
 | _, _ => .bad
def uO (x : D) (w : W) : Res D := match x with
 | .int a => .ok (.int (-a)) w
 | _ => .bad
def qS (x y : D) (w : W) : Option Bool := match x.py w, y.py w with
 | some p, some q => if SeqAt.shaped p = true ∧ SeqAt.shaped q = true then some (PyData.eqv p q) else none
 | _, _ => none
def TR (x y : D) (w : W) : Res D := match qS x y w with
 | some b => .ok (.bl b) w
 | none => .bad
def UN (x y : D) (w : W) : Res D := match qS x y w with
 | some b => .ok (.bl (!b)) w
 | none => .bad
def ML : D → D → Option Bool
 | .tup xs, .tup [] => some xs.isEmpty
 | .lst xs, .lst [] => some xs.isEmpty
 | _, _ => none
def yU (x y : D) (w : W) : Option Bool := match qS x y w with
 | some b => some b
 | none => ML x y
def eR (x y : D) (w : W) : Res D := match yU x y w with
 | some b => .ok (.bl b) w
 | none => .bad
def p7 (x y : D) (w : W) : Res D := match yU x y w with
 | some b => .ok (.bl (!b)) w
 | none => .bad
def ON (x y : D) (w : W) : Res D := match x, y with
 | .int a, .int b => .ok (.bl (decide (a ≤ b))) w
 | _, _ => .bad
def JM (x y : D) (w : W) : Res D := match x, y with
 | .int a, .int b => .ok (.bl (decide (b < a))) w
 | _, _ => .bad
def QW (x y : D) (w : W) : Res D := match x, y with
 | .int a, .int b => .ok (.bl (decide (b ≤ a))) w
 | _, _ => .bad
def D.isNon : D → Bool
 | .non => true
 | _ => false
def isM (x y : D) (w : W) : Res D := match x, y with
 | x, .non => .ok (.bl x.isNon) w
 | .bl a, .bl b => .ok (.bl (decide (a = b))) w
 | _, _ => .bad
def nK (x y : D) (w : W) : Res D := match x, y with
 | x, .non => .ok (.bl (!x.isNon)) w
 | .bl a, .bl b => .ok (.bl (!decide (a = b))) w
 | _, _ => .bad
def D.items (w : W) : D → Option (List D)
 | .tup xs => some xs
 | .lst xs => some xs
 | .jR xs => some xs
 | .nX xs => some xs
 | .ref i => match w[i]? with
  | some (.lst xs) => some xs
  | _ => none
 | _ => none
section
variable {S : aQ}
theorem iE {o : Value → Value → Sem Value} {f : D → D → W → Res D}
  (h : ∀ (X : Cx) (E : XK), Ctx S X → nQ X E → ∀ (I : List Addr) (F G : Hp) (d e : D) (w : W) (H : Hp) (x y : V) (Q : VK), Rel X.K I F G w H → aG X.K I F d x → aG X.K I F e y → bE X.K I F G E (RV X.K Q) (f d e w) →
   ∃ r : R2, OpR X o r ∧ r x y H Q) : O2 S o f := fun X E c xo pins s σ H x y v u Q I rx ry ⟨J, F, G, d, e, w, rel, rd, re, p⟩ => by
 obtain ⟨r, ho, hr⟩ := h X E c xo J F G d e w H x y Q rel rd re p
 exact ho pins s σ H x y v u Q I rx ry hr
theorem tF {o : Value → Value → Sem Value} {f : D → D → W → Res D} {C : Int → Int → Prop} {g : Int → Int → V} {gd : Int → Int → D} (ho : ∀ X : Cx, OpR X o (rI C g))
  (hg : ∀ K I F a b, aG K I F (gd a b) (g a b)) (hf : ∀ d e w r, f d e w = r → r = .bad ∨ ∃ a b, d = .int a ∧ e = .int b ∧ C a b ∧ r = .ok (gd a b) w) : O2 S o f :=
 iE fun X E c xo I F G d e w H x y Q rel rd re p => by
  rcases hf d e w _ rfl with h | ⟨a, b, rfl, rfl, hc, h⟩
  ·rw [h] at p; exact p.elim
  ·rw [h] at p
   simp only [aG] at rd re
   exact ⟨_, ho X, a, b, rd, re, hc, p I F H .refl rel _ (hg _ _ _ _ _)⟩
theorem MH {o : Value → Value → Sem Value} {X : Cx} {g : Int → Int → V} (h : OpR X o (rI0 g)) : OpR X o (rI (fun _ _ => True) g) := fun pins s σ H x y v u Q I rx ry ⟨i, j, e1, e2, _, q⟩ => h pins s σ H x y v u Q I rx ry ⟨i, j, e1, e2, q⟩
theorem PR : O2 S (binaryOp .Sub) kP := tF (gd := fun a b => .int (a - b)) (fun _ => MH op_sub) (fun _ _ _ _ _ => by simp [aG]) fun d e w r h => by
 subst h; cases d <;> cases e <;> simp [kP]
theorem J8 : O2 S (compareOp .LtE) ON := tF (gd := fun a b => .bl (decide (a ≤ b))) (fun _ => MH op_le) (fun _ _ _ _ _ => by simp [aG]) fun d e w r h => by
 subst h; cases d <;> cases e <;> simp [ON]
theorem WL : O2 S (compareOp .GtE) QW := tF (gd := fun a b => .bl (decide (b ≤ a))) (fun _ => MH op_ge) (fun _ _ _ _ _ => by simp [aG]) fun d e w r h => by
 subst h; cases d <;> cases e <;> simp [QW]
theorem KC : O2 S (binaryOp .FloorDiv) qF := tF (gd := fun a b => .int (a / b)) (fun _ => op_fdiv) (fun _ _ _ _ _ => by simp [aG]) fun d e w r h => by
 subst h; cases d <;> cases e <;> simp only [qF, true_or, reduceCtorEq, false_and, and_false, exists_const, or_false]
 rename_i a b
 by_cases hc : 0 < b ∧ b < 1073741824
 ·rw [if_pos hc]; exact .inr ⟨a, b, rfl, rfl, hc, rfl⟩
 ·rw [if_neg hc]; exact .inl rfl
theorem rA : O2 S (binaryOp .Mod) hH := tF (gd := fun a b => .int (a % b)) (fun _ => op_mod) (fun _ _ _ _ _ => by simp [aG]) fun d e w r h => by
 subst h; cases d <;> cases e <;> simp only [hH, true_or, reduceCtorEq, false_and, and_false, exists_const, or_false]
 rename_i a b
 by_cases hc : 0 < b
 ·rw [if_pos hc]; exact .inr ⟨a, b, rfl, rfl, hc, rfl⟩
 ·rw [if_neg hc]; exact .inl rfl
theorem LZ : O2 S (binaryOp .Pow) yO := tF (gd := fun a b => .int (a ^ b.toNat)) (fun _ => op_pow) (fun _ _ _ _ _ => by simp [aG]) fun d e w r h => by
 subst h; cases d <;> cases e <;> simp only [yO, true_or, reduceCtorEq, false_and, and_false, exists_const, or_false]
 rename_i a b
 by_cases hc : 0 ≤ b ∧ b ≤ 1000000 ∧ a.natAbs < 2 ^ 64
 ·rw [if_pos hc]; exact .inr ⟨a, b, rfl, rfl, hc, rfl⟩
 ·rw [if_neg hc]; exact .inl rfl
theorem iG {K : PySem.W.Frag} {I : List Addr} {F G H : Hp} {E : XK} {w : W} {ds : List D} {vs : List V} {Q : VK} (rel : Rel K I F G w H) (r : RepL K I F ds vs) (p : bE K I F G E (RV K Q) (.ok (.lst ds) w)) : ∀ q, H q = none → Q (.ref q) (upd H q (.lst vs)) := fun q hq => by
 have hF : F q = none := by
  cases h : F q with
  | none => rfl
  | some u => rw [rel.fz _ _ h] at hq; cases hq
 have e : Ext I F I (upd F q (.lst vs)) := ⟨List.prefix_refl _, fun a u h => by rw [upd_ne (ne_of_none h hF)]; exact h⟩
 refine p I (upd F q (.lst vs)) (upd H q (.lst vs)) e ⟨rel.len, rel.nd, fun i a o h1 h2 => ?_, fun a u h => ?_, fun i a o h h0 hf => ?_, fun a u h => ?_, fun a u h => ?_, rel.gt⟩ _ ?_
 ·obtain ⟨u, h3, h4⟩ := rel.ob i a o h1 h2
  exact ⟨u, by rw [upd_ne (ne_of_none h3 hq)]; exact h3, kT.ext e h4⟩
 ·by_cases ha : a = q
  ·subst ha; rw [upd_same] at h ⊢; exact h
  ·rw [upd_ne ha] at h ⊢; exact rel.fz a u h
 ·obtain ⟨u, h3, _⟩ := rel.ob i a o h h0
  rw [upd_ne (ne_of_none h3 hq)]; exact rel.ap i a o h h0 hf
 ·rw [upd_ne (ne_of_none (rel.gz a u h) hq)]; exact rel.gz a u h
 ·rw [upd_ne (ne_of_none (rel.gz a u h) hq)]; exact rel.gf a u h
 ·simp only [aG]
  exact ⟨q, vs, rfl, upd_same, RepL.ext e _ _ r⟩
theorem r5 {K : PySem.W.Frag} {I : List Addr} {F G H : Hp} {E : XK} {w : W} {ds : List D} {vs : List V} {Q : VK} (rel : Rel K I F G w H) (r : RepL K I F ds vs) (p : bE K I F G E (RV K Q) (.ok (.tup ds) w)) : ∀ q, H q = none → Q (.ref q) (upd H q (.tup vs)) := fun q hq => by
 have hF : F q = none := by
  cases h : F q with
  | none => rfl
  | some u => rw [rel.fz _ _ h] at hq; cases hq
 have e : Ext I F I (upd F q (.tup vs)) := ⟨List.prefix_refl _, fun a u h => by rw [upd_ne (ne_of_none h hF)]; exact h⟩
 refine p I (upd F q (.tup vs)) (upd H q (.tup vs)) e ⟨rel.len, rel.nd, fun i a o h1 h2 => ?_, fun a u h => ?_, fun i a o h h0 hf => ?_, fun a u h => ?_, fun a u h => ?_, rel.gt⟩ _ ?_
 ·obtain ⟨u, h3, h4⟩ := rel.ob i a o h1 h2
  exact ⟨u, by rw [upd_ne (ne_of_none h3 hq)]; exact h3, kT.ext e h4⟩
 ·by_cases ha : a = q
  ·subst ha; rw [upd_same] at h ⊢; exact h
  ·rw [upd_ne ha] at h ⊢; exact rel.fz a u h
 ·obtain ⟨u, h3, _⟩ := rel.ob i a o h h0
  rw [upd_ne (ne_of_none h3 hq)]; exact rel.ap i a o h h0 hf
 ·rw [upd_ne (ne_of_none (rel.gz a u h) hq)]; exact rel.gz a u h
 ·rw [upd_ne (ne_of_none (rel.gz a u h) hq)]; exact rel.gf a u h
 ·simp only [aG]
  exact ⟨q, vs, rfl, upd_same, RepL.ext e _ _ r⟩
theorem RepL.eq_nil {K : PySem.W.Frag} {I : List Addr} {F : Hp} {ds : List D} (r : RepL K I F ds []) : ds = [] := by
 have := r.length
 exact List.eq_nil_of_length_eq_zero (by simpa using this)
theorem b6 : O2 S (binaryOp .Add) cB := iE fun X E c xo I F G d e w H x y Q rel rd re p => by
 cases d <;> cases e <;> first | exact p.elim | skip
 ·simp only [aG] at rd re
  exact ⟨_, op_add, _, _, rd, re, p I F H .refl rel _ (by simp [aG])⟩
 ·rename_i a b
  simp only [aG] at rd re
  simp only [cB] at p
  split at p
  ·rename_i hl
   exact ⟨_, op_add_str, _, _, rd, re, hl, p I F H .refl rel _ (by simp [aG])⟩
  ·exact p.elim
 ·rename_i a b
  simp only [aG] at rd re
  obtain ⟨q, vs, rfl, h1, h2⟩ := rd
  obtain ⟨q', vs', rfl, h1', h2'⟩ := re
  simp only [cB] at p
  split at p
  ·rename_i hl
   refine ⟨_, op_catA, q, q', vs, vs', rfl, rfl, .of (rel.fz _ _ h1), .of (rel.fz _ _ h1'), by rw [← h2.length, ← h2'.length]; exact hl, fun hn => ?_, fun _ hn => ?_, fun _ _ => ?_⟩
   ·subst hn
    obtain rfl := h2.eq_nil
    exact p I F H .refl rel _ (by simp only [aG, List.nil_append]; exact ⟨_, _, rfl, h1', h2'⟩)
   ·subst hn
    obtain rfl := h2'.eq_nil
    exact p I F H .refl rel _ (by simp only [aG, List.append_nil]; exact ⟨_, _, rfl, h1, h2⟩)
   ·exact r5 rel (h2.append h2') p
  ·exact p.elim
 ·rename_i a b
  simp only [aG] at rd re
  obtain ⟨q, vs, rfl, h1, h2⟩ := rd
  obtain ⟨q', vs', rfl, h1', h2'⟩ := re
  simp only [cB] at p
  split at p
  ·rename_i hl
   exact ⟨_, op_cat, q, q', vs, vs', rfl, rfl, rel.fz _ _ h1, rel.fz _ _ h1', by rw [← h2.length, ← h2'.length]; exact hl, iG rel (h2.append h2') p⟩
  ·exact p.elim
theorem RepL.rep {K : PySem.W.Frag} {I : List Addr} {F : Hp} {ds : List D} {vs : List V} (r : RepL K I F ds vs) : ∀ n : Nat, RepL K I F (List.replicate n ds).flatten (List.replicate n vs).flatten
 | 0 => by simp [RepL]
 | n + 1 => by
  rw [List.replicate_succ, List.replicate_succ, List.flatten_cons, List.flatten_cons]
  exact r.append (r.rep n)
theorem qY : O2 S (binaryOp .Mult) mulM := iE fun X E c xo I F G d e w H x y Q rel rd re p => by
 cases d <;> cases e <;> first | exact p.elim | skip
 ·rename_i a b
  simp only [aG] at rd re
  simp only [mulM] at p
  split at p
  ·rename_i hl
   refine ⟨_, op_mul, _, _, rd, re, ?_, p I F H .refl rel _ (by simp [aG])⟩
   simpa [wV, CMul] using hl
  ·exact p.elim
 ·rename_i a b
  simp only [aG] at rd re
  obtain ⟨q, vs, rfl, h1, h2⟩ := rd
  simp only [mulM] at p
  split at p
  ·rename_i hl
   exact ⟨_, op_rep, q, b, vs, rfl, re, rel.fz _ _ h1, hl.1, hl.2.1, by rw [← h2.length]; exact hl.2.2, iG rel (h2.rep _) p⟩
  ·exact p.elim
theorem VO : O2 S (compareOp .Eq) TR := iE fun X E c xo I F G d e w H x y Q rel rd re p => by
 unfold TR qS at p
 split at p
 ·rename_i b hb
  split at hb
  ·rename_i p1 q1 e1 e2
   split at hb
   ·rename_i hs
    cases hb
    exact ⟨_, op_eqD c.room.units, p1, q1, JJ rel rd e1, JJ rel re e2, hs.1, hs.2, p I F H .refl rel _ (by simp [aG])⟩
   ·cases hb
  ·cases hb
 ·exact p.elim
theorem UA : O2 S (compareOp .NotEq) UN := iE fun X E c xo I F G d e w H x y Q rel rd re p => by
 unfold UN qS at p
 split at p
 ·rename_i b hb
  split at hb
  ·rename_i p1 q1 e1 e2
   split at hb
   ·rename_i hs
    cases hb
    exact ⟨_, op_neD c.room.units, p1, q1, JJ rel rd e1, JJ rel re e2, hs.1, hs.2, p I F H .refl rel _ (by simp [aG])⟩
   ·cases hb
  ·cases hb
 ·exact p.elim
theorem LF {K : PySem.W.Frag} {I : List Addr} {F : Hp} {d : D} {v : V} (h : aG K I F d v) : decide (v = .non) = d.isNon := by
 cases d <;> simp only [aG] at h
 case non => subst h; rfl
 case bl => subst h; rfl
 case int => subst h; rfl
 case str => subst h; rfl
 case ty => subst h; rfl
 case con => subst h; rfl
 case tup => obtain ⟨a, vs, rfl, _⟩ := h; rfl
 case lst => obtain ⟨a, vs, rfl, _⟩ := h; rfl
 case jR => obtain ⟨a, vs, rfl, _⟩ := h; rfl
 case nX => obtain ⟨a, vs, rfl, _⟩ := h; rfl
 case sF => obtain ⟨a, vs, rfl, _⟩ := h; rfl
 case ref => obtain ⟨a, rfl, _⟩ := h; rfl
theorem HI {x : D} {w : W} : nK x .non w = .ok (.bl (!x.isNon)) w := by cases x <;> rfl
theorem x5 {n : Nat} {xs : List D} (h : n = xs.length) : ((List.range (min n 0)).all (fun _ => true) && n == 0) = xs.isEmpty := by
 subst h
 cases xs <;> simp
theorem v7 {X : Cx} {pins : List (Addr × Obj)} {σ : L2.St} {H : Hp} {s : Shared} (J : Inv X pins σ H s) {a : Addr} {vs : List V} (h : H a = some (.tup vs)) : ∃ its : Array Value, s.heap.IsTuple a its ∧ its.size = vs.length := by
 obtain ⟨its, rv, ht, _⟩ := J.tuple (show SqT X.K H a vs from .of h)
 refine ⟨its.toArray, ht, ?_⟩
 rw [List.size_toArray]
 exact (Vals.length rv).symm
theorem vZ {X : Cx} {pins : List (Addr × Obj)} {σ : L2.St} {H : Hp} {s : Shared} (J : Inv X pins σ H s) {a : Addr} {vs : List V} (h : H a = some (.lst vs)) : ∃ its : Array Value, s.heap.IsList a its ∧ its.size = vs.length := by
 obtain ⟨its, rv, ⟨o, n, ho, hc, _, hd⟩, _⟩ := J.list (show SqL X.K H a vs from .of h)
 refine ⟨its.toArray, ⟨o, ho, hc, n, hd⟩, ?_⟩
 rw [List.size_toArray]
 exact (Vals.length rv).symm
theorem cS : O2 S (compareOp .Eq) eR := fun X E c xo pins s σ H x y v u Q J rx ry ⟨I, F, G, d, e, w, rel, rd, re, p⟩ => by
 unfold eR yU at p
 cases h0 : qS d e w with
 | some b =>
  rw [h0] at p
  exact VO X E c xo pins s σ H x y v u Q J rx ry ⟨I, F, G, d, e, w, rel, rd, re, by unfold TR; rw [h0]; exact p⟩
 | none =>
  rw [h0] at p
  simp only at p
  have hu : X.A.units < cLine := by have := c.room.units; omega
  unfold ML at p
  split at p
  ·rename_i b hb
   split at hb
   ·rename_i xs
    cases hb
    simp only [aG, RepL] at rd re
    obtain ⟨a, vs, rfl, h2, h3⟩ := rd
    obtain ⟨b, us, rfl, h4, rfl⟩ := re
    obtain rfl : v = Value.ref a := rx
    obtain rfl : u = Value.ref b := ry
    obtain ⟨i1, t1, l1⟩ := v7 J (rel.fz _ _ h2)
    obtain ⟨i2, t2, l2⟩ := v7 J (rel.fz _ _ h4)
    have z : i2.size = 0 := l2
    refine SeqAt.eq_tupleAt (e := fun _ => true) t1 t2 hu (fun j h1 h2 => absurd h2 (by omega)) ?_
    rw [z, x5 (l1.trans h3.length.symm)]
    exact ⟨.bl xs.isEmpty, H, J, rfl, p I F H .refl rel _ (by simp [aG])⟩
   ·rename_i xs
    cases hb
    simp only [aG, RepL] at rd re
    obtain ⟨a, vs, rfl, h2, h3⟩ := rd
    obtain ⟨b, us, rfl, h4, rfl⟩ := re
    obtain rfl : v = Value.ref a := rx
    obtain rfl : u = Value.ref b := ry
    obtain ⟨i1, t1, l1⟩ := vZ J (rel.fz _ _ h2)
    obtain ⟨i2, t2, l2⟩ := vZ J (rel.fz _ _ h4)
    have z : i2.size = 0 := l2
    have lx : i1.size = xs.length := l1.trans h3.length.symm
    cases xs with
    | nil =>
     refine SeqAt.eq_listAt (e := fun _ => true) t1 t2 (lx.trans z.symm) hu (fun j h1 h2 => absurd h2 (by omega)) ?_
     have : (List.range i1.size).all (fun _ => true) = true := by simp
     rw [this]
     exact ⟨.bl true, H, J, rfl, p I F H .refl rel _ (by simp [aG])⟩
    | cons x xs =>
     refine SeqAt.eq_list_lengthsAt t1 t2 (by rw [lx, z]; rfl) hu ?_
     exact ⟨.bl false, H, J, rfl, p I F H .refl rel _ (by simp [aG])⟩
   ·cases hb
  ·exact p.elim
theorem vA : O2 S (compareOp .NotEq) p7 := fun X E c xo pins s σ H x y v u Q J rx ry ⟨I, F, G, d, e, w, rel, rd, re, p⟩ => by
 unfold p7 yU at p
 cases h0 : qS d e w with
 | some b =>
  rw [h0] at p
  exact UA X E c xo pins s σ H x y v u Q J rx ry ⟨I, F, G, d, e, w, rel, rd, re, by unfold UN; rw [h0]; exact p⟩
 | none =>
  rw [h0] at p
  simp only at p
  have hu : X.A.units < cLine := by have := c.room.units; omega
  unfold ML at p
  split at p
  ·rename_i b hb
   split at hb
   ·rename_i xs
    cases hb
    simp only [aG, RepL] at rd re
    obtain ⟨a, vs, rfl, h2, h3⟩ := rd
    obtain ⟨b, us, rfl, h4, rfl⟩ := re
    obtain rfl : v = Value.ref a := rx
    obtain rfl : u = Value.ref b := ry
    obtain ⟨i1, t1, l1⟩ := v7 J (rel.fz _ _ h2)
    obtain ⟨i2, t2, l2⟩ := v7 J (rel.fz _ _ h4)
    have z : i2.size = 0 := l2
    refine SeqAt.RcNeAt.tuples (e := fun _ => true) t1 t2 hu (fun j h1 h2 => absurd h2 (by omega)) _ _ _ _ ?_
    rw [z, x5 (l1.trans h3.length.symm)]
    exact ⟨.bl (!xs.isEmpty), H, J, rfl, p I F H .refl rel _ (by simp [aG])⟩
   ·rename_i xs
    cases hb
    simp only [aG, RepL] at rd re
    obtain ⟨a, vs, rfl, h2, h3⟩ := rd
    obtain ⟨b, us, rfl, h4, rfl⟩ := re
    obtain rfl : v = Value.ref a := rx
    obtain rfl : u = Value.ref b := ry
    obtain ⟨i1, t1, l1⟩ := vZ J (rel.fz _ _ h2)
    obtain ⟨i2, t2, l2⟩ := vZ J (rel.fz _ _ h4)
    have z : i2.size = 0 := l2
    have lx : i1.size = xs.length := l1.trans h3.length.symm
    cases xs with
    | nil =>
     refine SeqAt.RcNeAt.lists (e := fun _ => true) t1 t2 (lx.trans z.symm) hu (fun j h1 h2 => absurd h2 (by omega)) _ _ _ _ ?_
     have : (List.range i1.size).all (fun _ => true) = true := by simp
     rw [this]
     exact ⟨.bl false, H, J, rfl, p I F H .refl rel _ (by simp [aG])⟩
    | cons x xs =>
     refine SeqAt.RcNeAt.lists_lengths t1 t2 (by rw [lx, z]; rfl) hu _ _ _ _ ?_
     exact ⟨.bl true, H, J, rfl, p I F H .refl rel _ (by simp [aG])⟩
   ·cases hb
  ·exact p.elim
theorem OL : O2 S (compareOp .IsNot) nK := iE fun X E c xo I F G d e w H x y Q rel rd re p => by
 cases e
 case non =>
  simp only [HI] at p
  simp only [aG] at re
  exact ⟨_, op_notN, re, p I F H .refl rel _ (by simp [aG, LF rd])⟩
 case bl b =>
  cases d <;> first | exact p.elim | skip
  simp only [aG] at rd re
  exact ⟨_, op_notBl, _, _, rd, re, p I F H .refl rel _ (by simp [aG])⟩
 all_goals (cases d <;> exact p.elim)
theorem GR : O1 S (unaryOp .USub) uO := fun X E c xo pins s σ H x v Q I rx ⟨J, F, G, d, w, rel, rd, p⟩ => by
 cases d <;> first | exact p.elim | skip
 simp only [aG] at rd
 exact un_neg pins s σ H x v Q I rx ⟨_, rd, p J F H .refl rel _ (by simp [aG])⟩
end
def kA (d : D) (w : W) : Option Bool := match d with
 | .non => some false
 | .bl b => some b
 | .int i => some (i != 0)
 | .str x => if x.length ≤ sizeLine then some ((x.length : Int) != 0) else none
 | .tup xs => some (!xs.isEmpty)
 | .lst xs => some (!xs.isEmpty)
 | .jR xs => some (!xs.isEmpty)
 | .nX xs => some (!xs.isEmpty)
 | .ref i => (match w[i]? with
  | some (.lst xs) => some (!xs.isEmpty)
  | some (.dK kvs) => some (!kvs.isEmpty)
  | _ => none)
 | _ => none
theorem RepL.isEmpty {K : PySem.W.Frag} {I : List Addr} {F : Hp} {ds : List D} {vs : List V} (r : RepL K I F ds vs) : vs.isEmpty = ds.isEmpty := by
 cases ds with
 | nil => simp only [RepL] at r; subst r; rfl
 | cons d ds => simp only [RepL] at r; obtain ⟨v, t, rfl, _⟩ := r; rfl
theorem aP.isEmpty {κ : Type} {K : PySem.W.Frag} {I : List Addr} {F : Hp} {ds : List (κ × D)} {vs : List (κ × V)} (r : aP K I F ds vs) : vs.isEmpty = ds.isEmpty := by
 cases ds with
 | nil => simp only [aP] at r; subst r; rfl
 | cons d ds => obtain ⟨k, d⟩ := d; simp only [aP] at r; obtain ⟨v, t, rfl, _⟩ := r; rfl
theorem P9 {K : PySem.W.Frag} {I : List Addr} {F G H : Hp} {w : W} (rel : Rel K I F G w H) {d : D} {v : V} (h : aG K I F d v) {b : Bool} (e : kA d w = some b) : TruV K v H b := by
 cases d <;> simp only [aG] at h
 case non => subst h; simp only [kA, af] at e; exact e.symm
 case bl => subst h; simp only [kA, af] at e; exact e.symm
 case int => subst h; simp only [kA, af] at e; exact e.symm
 case str x =>
  subst h
  simp only [kA] at e
  split at e
  ·rename_i hl
   cases e; exact ⟨hl, rfl⟩
  ·cases e
 case ty => cases e
 case con => cases e
 case sF => cases e
 case tup xs =>
  obtain ⟨a, vs, rfl, h1, h2⟩ := h
  simp only [kA, af] at e
  exact .inr (.inl ⟨vs, .of (rel.fz _ _ h1), by rw [h2.isEmpty]; exact e.symm⟩)
 case nX xs =>
  obtain ⟨a, vs, rfl, h1, h2⟩ := h
  simp only [kA, af] at e
  exact .inr (.inl ⟨vs, rel.EN h1, by rw [h2.isEmpty]; exact e.symm⟩)
 case lst xs =>
  obtain ⟨a, vs, rfl, h1, h2⟩ := h
  simp only [kA, af] at e
  exact .inl ⟨vs, .of (rel.fz _ _ h1), by rw [h2.isEmpty]; exact e.symm⟩
 case jR xs =>
  obtain ⟨a, vs, rfl, h1, h2⟩ := h
  simp only [kA, af] at e
  exact .inl ⟨vs, rel.LQ h1, by rw [h2.isEmpty]; exact e.symm⟩
 case ref i =>
  obtain ⟨a, rfl, h1⟩ := h
  simp only [kA] at e
  split at e
  ·rename_i xs hw
   cases e
   obtain ⟨u, hu, vs, rfl, h2⟩ := rel.ob i a _ h1 hw
   exact .inl ⟨vs, .of hu, by rw [h2.isEmpty]⟩
  ·rename_i kvs hw
   cases e
   obtain ⟨u, hu, vs, rfl, h2⟩ := rel.ob i a _ h1 hw
   exact .inr (.inr ⟨vs, hu, by rw [h2.isEmpty]⟩)
  ·cases e
def fH (d : D) (w : W) : Res Bool := match kA d w with
 | some b => .ok b w
 | none => .bad
def cV (m : ME) : MT := fun σ w => (m σ w).bind fH
def gC (a b : MT) : MT := fun σ w => (a σ w).bind fun c w1 => if c = true then b σ w1 else .ok false w1
def eQ (a b : MT) : MT := fun σ w => (a σ w).bind fun c w1 => if c = true then .ok true w1 else b σ w1
def cH (a : MT) : MT := fun σ w => (a σ w).bind fun c w1 => .ok (!c) w1
def gP (a b : ME) : ME := fun σ w => (a σ w).bind fun x w1 => (fH x w1).bind fun c _ => if c = true then b σ w1 else .ok x w1
def Y2 (a b : ME) : ME := fun σ w => (a σ w).bind fun x w1 => (fH x w1).bind fun c _ => if c = true then .ok x w1 else b σ w1
def notM (x : D) (w : W) : Res D := (fH x w).bind fun c _ => .ok (.bl (!c)) w
def UC (t : MT) (a b : ME) : ME := fun σ w => (t σ w).bind fun c w1 => if c = true then a σ w1 else b σ w1
section
variable {S : aQ} {pos : Pos} {a b c : Expr} {ma mb : ME} {ta tb : MT} {rest : List Expr}
theorem b7 {α : Type} {K : PySem.W.Frag} {E : XK} {m : ME} {f : Sg → D → W → Res α} {I : List Addr} {F G H : Hp} {ds : Sg} {w : W} {σ : L2.St} {R : List Addr → Hp → Hp → α → W → Prop} (rel : Rel K I F G w H) (rs : fC K I F ds σ)
  (p : bE K I F G E R ((m ds w).bind (f ds))) {Q : VK} (k : ∀ I1 F1 H1 x w1 v, Ext I F I1 F1 → Rel K I1 F1 G w1 H1 → fC K I1 F1 ds σ → aG K I1 F1 x v → bE K I1 F1 G E R (f ds x w1) → Q v H1) : p6 K E m σ H Q :=
 ⟨I, F, G, ds, w, rel, rs, (bE.bind p).mono fun I1 F1 H1 x w1 _ e1 rel1 p1 v rv => k I1 F1 H1 x w1 v e1 rel1 (rs.ext e1) rv p1⟩
theorem mM {α : Type} {K : PySem.W.Frag} {E : XK} {m : MT} {f : Sg → Bool → W → Res α} {I : List Addr} {F G H : Hp} {ds : Sg} {w : W} {σ : L2.St} {R : List Addr → Hp → Hp → α → W → Prop} (rel : Rel K I F G w H) (rs : fC K I F ds σ)
  (p : bE K I F G E R ((m ds w).bind (f ds))) {Q : Bool → Hp → Prop} (k : ∀ I1 F1 H1 c w1, Ext I F I1 F1 → Rel K I1 F1 G w1 H1 → fC K I1 F1 ds σ → bE K I1 F1 G E R (f ds c w1) → Q c H1) : O6 K E m σ H Q :=
 ⟨I, F, G, ds, w, rel, rs, (bE.bind p).mono fun I1 F1 H1 x w1 _ e1 rel1 p1 => k I1 F1 H1 x w1 e1 rel1 (rs.ext e1) p1⟩
theorem eO {α : Type} {K : PySem.W.Frag} {E : XK} {m : MA} {f : Sg → List D → W → Res α} {I : List Addr} {F G H : Hp} {ds : Sg} {w : W} {σ : L2.St} {R : List Addr → Hp → Hp → α → W → Prop} (rel : Rel K I F G w H) (rs : fC K I F ds σ)
  (p : bE K I F G E R ((m ds w).bind (f ds))) {Q : List V → Hp → Prop} (k : ∀ I1 F1 H1 xs w1 vs, Ext I F I1 F1 → Rel K I1 F1 G w1 H1 → fC K I1 F1 ds σ → RepL K I1 F1 xs vs → bE K I1 F1 G E R (f ds xs w1) → Q vs H1) : SD K E m σ H Q :=
 ⟨I, F, G, ds, w, rel, rs, (bE.bind p).mono fun I1 F1 H1 x w1 _ e1 rel1 p1 v rv => k I1 F1 H1 x w1 v e1 rel1 (rs.ext e1) rv p1⟩
theorem bE.nO {K : PySem.W.Frag} {I : List Addr} {F G H : Hp} {E : XK} {Q : VK} {d : D} {w : W} (p : bE K I F G E (RV K Q) (.ok d w)) (rel : Rel K I F G w H) {v : V} (h : aG K I F d v) : Q v H := p I F H .refl rel v h
theorem bE.Y6 {K : PySem.W.Frag} {I : List Addr} {F G H : Hp} {E : XK} {Q : Bool → Hp → Prop} {b : Bool} {w : W} (p : bE K I F G E (RB Q) (.ok b w)) (rel : Rel K I F G w H) : Q b H := p I F H .refl rel
theorem bE.truth {α : Type} {K : PySem.W.Frag} {I : List Addr} {F G H : Hp} {E : XK} {R : List Addr → Hp → Hp → α → W → Prop} {d : D} {w : W} {v : V} {f : Bool → W → Res α} (p : bE K I F G E R ((fH d w).bind f)) (rel : Rel K I F G w H) (h : aG K I F d v) :
  ∃ b, TruV K v H b ∧ bE K I F G E R (f b w) := by
 unfold fH at p
 split at p
 ·rename_i b e
  exact ⟨b, P9 rel h e, p⟩
 ·exact p.elim
theorem bH (ha : JE S a ma) (he : ∀ (env : Env) (whole : Sem Value), isTrue a env whole = (do let v ← whole; standAt a.pos; holding [v] (truthy v)) := by intro _ _; rfl) : JT S a (cV ma) := fun X E cx xo =>
 AZ (pt_truth (ha X E cx xo) (he X.env)) fun σ H Q ⟨I, F, G, ds, w, rel, rs, p⟩ => b7 (f := fun _ => fH) rel rs p fun I1 F1 H1 x w1 v e1 rel1 rs1 rv p1 => by
  have p2 : bE X.K I1 F1 G E (RB Q) ((fH x w1).bind fun b w => .ok b w) := by
   cases h : fH x w1 <;> rw [h] at p1 <;> exact p1
  obtain ⟨b, hb, p3⟩ := p2.truth rel1 rv
  exact ⟨b, hb, p3.Y6 rel1⟩
theorem mU (h : JW S a ta) : JT S a ta := fun X E cx xo => (h X E cx xo).pt
theorem SJ (ha : JT S a ta) : JW S (.BoolOp .And [a] pos) ta := fun X E cx xo => pw_and1 (ha X E cx xo)
theorem fA (ha : JT S a ta) : JW S (.BoolOp .Or [a] pos) ta := fun X E cx xo => pw_or1 (ha X E cx xo)
theorem UX (ha : JT S a ta) (hb : JW S (.BoolOp .And (b :: rest) pos) tb) : JW S (.BoolOp .And (a :: b :: rest) pos) (gC ta tb) := fun X E cx xo =>
 JZ (pw_and (ha X E cx xo) (hb X E cx xo)) fun σ H Q ⟨I, F, G, ds, w, rel, rs, p⟩ => mM (f := fun ds c w1 => if c = true then tb ds w1 else .ok false w1) rel rs p fun I1 F1 H1 c w1 e1 rel1 rs1 p1 => by
  cases c with
  | true => exact ⟨I1, F1, G, ds, w1, rel1, rs1, p1⟩
  | false => exact p1.Y6 rel1
theorem cW (ha : JT S a ta) (hb : JW S (.BoolOp .Or (b :: rest) pos) tb) : JW S (.BoolOp .Or (a :: b :: rest) pos) (eQ ta tb) := fun X E cx xo =>
 JZ (pw_or (ha X E cx xo) (hb X E cx xo)) fun σ H Q ⟨I, F, G, ds, w, rel, rs, p⟩ => mM (f := fun ds c w1 => if c = true then .ok true w1 else tb ds w1) rel rs p fun I1 F1 H1 c w1 e1 rel1 rs1 p1 => by
  cases c with
  | true => exact p1.Y6 rel1
  | false => exact ⟨I1, F1, G, ds, w1, rel1, rs1, p1⟩
theorem cM (ha : JT S a ta) : JT S (.UnaryOp .Not a pos) (cH ta) := fun X E cx xo =>
 AZ (pt_not (ha X E cx xo)) fun σ H Q ⟨I, F, G, ds, w, rel, rs, p⟩ => mM (f := fun _ c w1 => .ok (!c) w1) rel rs p fun I1 F1 H1 c w1 e1 rel1 rs1 p1 => p1.Y6 rel1
theorem kF {op : BoolOp} (h : JE S a ma) : JE S (.BoolOp op [a] pos) ma := fun X E cx xo => pe_one (h X E cx xo)
theorem fV (ha : JE S a ma) (hb : JE S (.BoolOp .And (b :: rest) pos) mb) : JE S (.BoolOp .And (a :: b :: rest) pos) (gP ma mb) := fun X E cx xo =>
 cG (pe_andT (ha X E cx xo) (hb X E cx xo)) fun σ H Q ⟨I, F, G, ds, w, rel, rs, p⟩ => b7 (f := fun ds x w1 => (fH x w1).bind fun c _ => if c = true then mb ds w1 else .ok x w1) rel rs p fun I1 F1 H1 x w1 v e1 rel1 rs1 rv p1 => by
  obtain ⟨k, hk, p2⟩ := p1.truth rel1 rv
  refine ⟨k, hk, ?_⟩
  cases k with
  | true => exact ⟨I1, F1, G, ds, w1, rel1, rs1, p2⟩
  | false => exact p2.nO rel1 rv
theorem L3 (ha : JE S a ma) : JE S (.UnaryOp .Not a pos) (sT notM ma) := fun X E cx xo =>
 cG (pe_notT (ha X E cx xo)) fun σ H Q ⟨I, F, G, ds, w, rel, rs, p⟩ => b7 (f := fun _ => notM) rel rs p fun I1 F1 H1 x w1 v e1 rel1 rs1 rv p1 => by
  obtain ⟨k, hk, p2⟩ := bE.truth p1 rel1 rv
  exact ⟨k, hk, p2.nO rel1 (by simp [aG])⟩
theorem WY (ht : JT S c ta) (ha : JE S a ma) (hb : JE S b mb) : JE S (.IfExp c a b pos) (UC ta ma mb) := fun X E cx xo =>
 cG (pe_ifExp (ht X E cx xo) (ha X E cx xo) (hb X E cx xo)) fun σ H Q ⟨I, F, G, ds, w, rel, rs, p⟩ => mM (f := fun ds c w1 => if c = true then ma ds w1 else mb ds w1) rel rs p fun I1 F1 H1 c w1 e1 rel1 rs1 p1 => by
  cases c with
  | true => exact ⟨I1, F1, G, ds, w1, rel1, rs1, p1⟩
  | false => exact ⟨I1, F1, G, ds, w1, rel1, rs1, p1⟩
end
def aD : MA := fun _ w => .ok [] w
def aA (a : ME) (r : MA) : MA := fun σ w => (a σ w).bind fun x w1 => (r σ w1).bind fun xs w2 => .ok (x :: xs) w2
def bA (a : MA) : ME := fun σ w => (a σ w).bind fun xs w1 => if xs.length ≤ sizeLine then .ok (.tup xs) w1 else .bad
def hY (a : MA) : ME := fun σ w => (a σ w).bind fun xs w1 => if xs.length ≤ sizeLine then .ok (.lst xs) w1 else .bad
def eNew (a : MA) : ME := fun σ w => (a σ w).bind fun xs w1 => if xs.length ≤ sizeLine then .ok (.ref w1.length) (w1 ++ [.lst xs]) else .bad
theorem BP {K : PySem.W.Frag} {I : List Addr} {F G H : Hp} {E : XK} {w : W} {o : MO} {u : HO} {Q : VK} (rel : Rel K I F G w H) (r : kT K I F o u) (p : bE K I F G E (RV K Q) (.ok (.ref w.length) (w ++ [o]))) : ∀ q, H q = none → Q (.ref q) (upd H q u) := fun q hq => by
 have hF : F q = none := by
  cases h : F q with
  | none => rfl
  | some u => rw [rel.fz _ _ h] at hq; cases hq
 have hI : q ∉ I := fun z => by
  obtain ⟨i, hi⟩ := List.mem_iff_getElem?.mp z
  have hl : i < w.length := by rw [← rel.len]; exact (aj.mp hi).1
  obtain ⟨u, h3, _⟩ := rel.ob i q _ hi (av hl)
  rw [h3] at hq; cases hq
 have e : Ext I F (I ++ [q]) F := ⟨List.prefix_append _ _, fun _ _ h => h⟩
 refine p (I ++ [q]) F (upd H q u) e ⟨by simp [rel.len], ?_, fun i a o' h1 h2 => ?_, fun a u' h => ?_, fun i a o' h h0 hf => ?_, fun a u' h => ?_, fun a u' h => ?_, rel.gt⟩ _ ?_
 ·rw [List.nodup_append]
  exact ⟨rel.nd, by simp, fun a ha b hb => by simp at hb; subst hb; exact fun z => hI (z ▸ ha)⟩
 ·by_cases hi : i < I.length
  ·rw [az hi] at h1
   rw [az (by rw [← rel.len]; exact hi)] at h2
   obtain ⟨u', h3, h4⟩ := rel.ob i a o' h1 h2
   exact ⟨u', by rw [upd_ne (ne_of_none h3 hq)]; exact h3, kT.ext e h4⟩
  ·have hi2 : i = I.length := by
    have := (aj.mp h1).1
    simp at this; omega
   subst hi2
   rw [bh (ay _)] at h1
   simp at h1
   rw [rel.len, bh (ay _)] at h2
   simp at h2
   subst h1 h2
   exact ⟨u, upd_same, kT.ext e r⟩
 ·rw [upd_ne (ne_of_none h hF)]; exact rel.fz a u' h
 ·by_cases hi : i < I.length
  ·rw [az hi] at h
   rw [az (by rw [← rel.len]; exact hi)] at h0
   exact rel.ap i a o' h h0 hf
  ·have hi2 : i = I.length := by
    have := (aj.mp h).1
    simp at this; omega
   subst hi2
   rw [bh (ay _)] at h
   simp at h
   subst h; exact hF
 ·rw [upd_ne (ne_of_none (rel.gz a u' h) hq)]; exact rel.gz a u' h
 ·refine ⟨(rel.gf a u' h).1, fun z => ?_⟩
  rcases bf.mp z with z | z
  ·exact (rel.gf a u' h).2 z
  ·simp at z; subst z; rw [rel.gz a u' h] at hq; cases hq
 ·simp only [aG]
  refine ⟨q, rfl, ?_⟩
  rw [← rel.len, bh (ay _)]
  simp
section
variable {S : aQ} {pos : Pos} {e : Expr} {es : List Expr} {m : ME} {ma : MA}
theorem aF : JA S [] aD := fun X E cx xo => IV pa_nil fun σ H Q ⟨I, F, G, ds, w, rel, rs, p⟩ => p I F H .refl rel [] (by simp [RepL])
theorem aC (he : JE S e m) (hr : JA S es ma) (hs : ∀ env : Env, starEach (e :: es) env = (false, eval e env) :: starEach es env := by intro _; rfl) : JA S (e :: es) (aA m ma) := fun X E cx xo =>
 IV (pa_cons (he X E cx xo) (hr X E cx xo) (hs X.env)) fun σ H Q ⟨I, F, G, ds, w, rel, rs, p⟩ =>
  b7 (f := fun ds x w1 => (ma ds w1).bind fun xs w2 => .ok (x :: xs) w2) rel rs p fun I1 F1 H1 x w1 v e1 rel1 rs1 rv p1 =>
   eO (f := fun _ xs w2 => .ok (x :: xs) w2) rel1 rs1 p1 fun I2 F2 H2 xs w2 vs e2 rel2 rs2 rvs p2 => p2 I2 F2 H2 .refl rel2 _ (RepL.cons (aG.ext e2 _ _ rv) rvs)
theorem aZ {k : Nat} (h : JA S es ma) : JE S (.Tuple es k pos) (bA ma) := fun X E cx xo =>
 cG (pe_tup (h X E cx xo)) fun σ H Q ⟨I, F, G, ds, w, rel, rs, p⟩ =>
  eO (f := fun _ xs w1 => if xs.length ≤ sizeLine then Res.ok (D.tup xs) w1 else .bad) rel rs p fun I1 F1 H1 xs w1 vs e1 rel1 rs1 rvs p1 => by
   split at p1
   ·rename_i hl
    exact ⟨by rw [← rvs.length]; exact hl, r5 rel1 rvs p1⟩
   ·exact p1.elim
theorem eM (h : JA S es ma) : JE S (.List es pos) (hY ma) := fun X E cx xo =>
 cG (pe_lst (h X E cx xo)) fun σ H Q ⟨I, F, G, ds, w, rel, rs, p⟩ =>
  eO (f := fun _ xs w1 => if xs.length ≤ sizeLine then Res.ok (D.lst xs) w1 else .bad) rel rs p fun I1 F1 H1 xs w1 vs e1 rel1 rs1 rvs p1 => by
   split at p1
   ·rename_i hl
    exact ⟨by rw [← rvs.length]; exact hl, iG rel1 rvs p1⟩
   ·exact p1.elim
theorem MV (h : JA S es ma) : JE S (.List es pos) (eNew ma) := fun X E cx xo =>
 cG (pe_lst (h X E cx xo)) fun σ H Q ⟨I, F, G, ds, w, rel, rs, p⟩ =>
  eO (f := fun _ xs w1 => if xs.length ≤ sizeLine then Res.ok (D.ref w1.length) (w1 ++ [.lst xs]) else .bad) rel rs p fun I1 F1 H1 xs w1 vs e1 rel1 rs1 rvs p1 => by
   split at p1
   ·rename_i hl
    exact ⟨by rw [← rvs.length]; exact hl, BP (o := .lst xs) rel1 ⟨vs, rfl, rvs⟩ p1⟩
   ·exact p1.elim
end
def a9 : MS := fun σ w => .ok (.nx σ) w
def aK (a b : MS) : MS := fun σ w => (a σ w).bind fun f w1 => match f with
 | .nx σ1 => b σ1 w1
 | f => .ok f w1
def bB (e : ME) : MS := fun σ w => (e σ w).bind fun d w1 => .ok (.rt d) w1
def cX (e : ME) : MS := fun σ w => (e σ w).bind fun _ w1 => .ok (.nx σ) w1
def dN (t : MT) (a b : MS) : MS := fun σ w => (t σ w).bind fun c w1 => if c = true then a σ w1 else b σ w1
abbrev MG := D → Sg → W → Res Sg
def a7 (i : Nat) : MG := fun d σ w => .ok (σ.set i (some d)) w
def aX (e : ME) (g : MG) : MS := fun σ w => (e σ w).bind fun d w1 => (g d σ w1).bind fun σ2 w2 => .ok (.nx σ2) w2
def X1 : MS := fun _ _ => .bad
def RSg (K : PySem.W.Frag) (Q : L2.St → Hp → Prop) : List Addr → Hp → Hp → Sg → W → Prop := fun I' F' H' s _ => ∀ s', fC K I' F' s s' → Q s' H'
def lowG (K : PySem.W.Frag) (E : XK) (g : MG) : TG := fun v σ H Q => ∃ I F G d ds w, Rel K I F G w H ∧ fC K I F ds σ ∧ aG K I F d v ∧ bE K I F G E (RSg K Q) (g d ds w)
def JG (S : aQ) (t : Expr) (g : MG) : Prop := ∀ X E, Ctx S X → nQ X E → PG X t (lowG X.K E g)
theorem pK {X : Cx} {e : Expr} {t t' : TG} (h : PG X e t) (k : ∀ v σ H Q, t' v σ H Q → t v σ H Q) : PG X e t' := ⟨fun pins s σ H v u Q I r q => h.run pins s σ H v u Q I r (k v σ H Q q)⟩
section
variable {S : aQ} {pos pos' : Pos} {e : Expr} {st : Stmt} {sts : List Stmt} {m : ME} {a b : MS} {g : MG} {t : MT}
theorem b8 : lD S [] a9 := fun X E cx xo => DE pss_nil fun Z σ H ⟨I, F, G, ds, w, rel, rs, p⟩ => p I F H .refl rel _ rs
theorem OK {K : PySem.W.Frag} {E : XK} {Z : Ends} {σ : L2.St} {H : Hp} (h : zC K E (aK a b) Z σ H) : zC K E a { Z with nx := zC K E b Z } σ H := by
 obtain ⟨I, F, G, ds, w, rel, rs, p⟩ := h
 refine ⟨I, F, G, ds, w, rel, rs, (bE.bind p).mono fun I1 F1 H1 f w1 _ e1 rel1 p1 => ?_⟩
 cases f with
 | nx s => exact fun s' rs' => ⟨I1, F1, G, s, w1, rel1, rs', p1⟩
 | rt d => exact fun v rv => p1 I1 F1 H1 .refl rel1 v rv
 | bk s => exact fun s' rs' => p1 I1 F1 H1 .refl rel1 s' rs'
 | ct s => exact fun s' rs' => p1 I1 F1 H1 .refl rel1 s' rs'
theorem aM (h1 : JS S st a) (h2 : lD S sts b) : lD S (st :: sts) (aK a b) := fun X E cx xo =>
 DE (pss_cons (h1 X E cx xo) (h2 X E cx xo)) fun Z σ H h => OK h
theorem aV (h1 : JS S st a) : lD S [st] a := fun X E cx xo => pss_one (h1 X E cx xo)
theorem bD (he : JE S e m) : JS S (.Return (some e) pos) (bB m) := fun X E cx xo =>
 nH (ps_ret (he X E cx xo)) fun Z σ H ⟨I, F, G, ds, w, rel, rs, p⟩ => b7 (f := fun _ d w1 => Res.ok (Fl.rt d) w1) rel rs p fun I1 F1 H1 x w1 v e1 rel1 rs1 rv p1 => p1 I1 F1 H1 .refl rel1 v rv
theorem CL (he : JE S e m) (hs : ∀ env : Env, swapsWith e none pos.line env = pure false := by intro _; rfl) : JS S (.Expr e pos) (cX m) := fun X E cx xo =>
 nH (ps_expr (he X E cx xo) (hs X.env)) fun Z σ H ⟨I, F, G, ds, w, rel, rs, p⟩ => b7 (f := fun ds _ w1 => Res.ok (Fl.nx ds) w1) rel rs p fun I1 F1 H1 x w1 v e1 rel1 rs1 rv p1 => p1 I1 F1 H1 .refl rel1 σ rs1
theorem eG {x : Expr} {sa sb : List Stmt} (ht : JT S x t) (ha : lD S sa a) (hb : lD S sb b) : JS S (.If x sa sb pos) (dN t a b) := fun X E cx xo =>
 nH (ps_if (ht X E cx xo) (ha X E cx xo) (hb X E cx xo)) fun Z σ H ⟨I, F, G, ds, w, rel, rs, p⟩ => mM (f := fun ds c w1 => if c = true then a ds w1 else b ds w1) rel rs p fun I1 F1 H1 c w1 e1 rel1 rs1 p1 => by
  cases c with
  | true => exact ⟨I1, F1, G, ds, w1, rel1, rs1, p1⟩
  | false => exact ⟨I1, F1, G, ds, w1, rel1, rs1, p1⟩
def Sto (S : aQ) (x : Str) : Prop := Loc S.sc x ∧ (S.fn x = true ∨ S.sc.names.lookup x = some .local)
theorem RX {i : Nat} {x : Str} (hi : S.N[i]? = some x) (hx : Sto S x) : JG S (.Name x pos) (a7 i) := fun X E cx xo =>
 pK (pg_name (i := i) (x := x) cx.nd (by rw [cx.N]; exact hi) (by rw [cx.sc]; exact hx.1) (by rw [cx.sc]; exact hx.2.imp (cx.fn x) id)) fun v σ H Q ⟨I, F, G, d, ds, w, rel, rs, rv, p⟩ => p I F H .refl rel _ (rs.set i rv)
theorem Q6 {K : PySem.W.Frag} {E : XK} {Z : Ends} {σ : L2.St} {H : Hp} (h : zC K E (aX m g) Z σ H) : p6 K E m σ H fun v H1 => lowG K E g v σ H1 Z.nx := by
 obtain ⟨I, F, G, ds, w, rel, rs, p⟩ := h
 exact b7 (f := fun ds d w1 => (g d ds w1).bind fun σ2 w2 => Res.ok (Fl.nx σ2) w2) rel rs p fun I1 F1 H1 x w1 v e1 rel1 rs1 rv p1 =>
  ⟨I1, F1, G, x, ds, w1, rel1, rs1, rv, (bE.bind p1).mono fun I2 F2 H2 s w2 _ e2 rel2 p2 s' rs2 => p2 I2 F2 H2 .refl rel2 s' rs2⟩
theorem UY {i : Nat} {x : Str} (hi : S.N[i]? = some x) (hx : Sto S x) (he : JE S e m) (hs : ∀ env : Env, swapsWith e (some (.Name x pos')) pos.line env = pure false := by intro _; rfl) : JS S (.Assign [.Name x pos'] e pos) (aX m (a7 i)) := fun X E cx xo =>
 nH (ps_set (i := i) (x := x) cx.nd (by rw [cx.N]; exact hi) (by rw [cx.sc]; exact hx.1) (he X E cx xo) (hs X.env) (by rw [cx.sc]; exact hx.2.imp (cx.fn x) id)) fun Z σ H ⟨I, F, G, ds, w, rel, rs, p⟩ =>
  b7 (f := fun ds d w1 => (a7 i d ds w1).bind fun σ2 w2 => Res.ok (Fl.nx σ2) w2) rel rs p fun I1 F1 H1 x w1 v e1 rel1 rs1 rv p1 => p1 I1 F1 H1 .refl rel1 _ (rs1.set i rv)
theorem H9 {tg : Expr} (he : JE S e m) (hg : JG S tg g) (hs : ∀ env : Env, swapsWithSole [tg] e pos.line env = pure false := by intro _; rfl) (hw : ∀ env : Env, swappedStores [tg] e env = pure none := by intro _; rfl)
  (h1 : ∀ env : Env, (assignEach [tg] env).map (·.2) = [assign tg env] := by intro _; rfl) : JS S (.Assign [tg] e pos) (aX m g) := fun X E cx xo =>
 nH (ps_asg (he X E cx xo) (hg X E cx xo) (hs X.env) (hw X.env) (h1 X.env)) fun Z σ H h => Q6 h
end
abbrev HV := List D → Sg → W → Res Sg
def bZ : HV := fun ds σ w => match ds with
 | [] => .ok σ w
 | _ => .bad
def aI (g : MG) (r : HV) : HV := fun ds σ w => match ds with
 | d :: ds => (g d σ w).bind fun σ1 w1 => r ds σ1 w1
 | [] => .bad
def cC (n : Nat) (r : HV) : MG := fun d σ w => match d with
 | .tup xs => if xs.length = n then r xs σ w else .bad
 | .nX xs => if xs.length = n then r xs σ w else .bad
 | _ => .bad
def YA (K : PySem.W.Frag) (E : XK) (g : HV) : TGs := fun vs σ H Q => ∃ I F G xs ds w, Rel K I F G w H ∧ fC K I F ds σ ∧ RepL K I F xs vs ∧ bE K I F G E (RSg K Q) (g xs ds w)
def WC (S : aQ) (ts : List Expr) (g : HV) : Prop := ∀ X E, Ctx S X → nQ X E → PGs X ts (YA X.K E g)
theorem oB {X : Cx} {e : List Expr} {t t' : TGs} (h : PGs X e t) (k : ∀ v σ H Q, t' v σ H Q → t v σ H Q) : PGs X e t' := ⟨fun pins s σ H v u Q I r q => h.run pins s σ H v u Q I r (k v σ H Q q)⟩
section
variable {S : aQ} {pos pos' : Pos} {e : Expr} {es : List Expr} {g : MG} {r : HV}
theorem RD : WC S [] bZ := fun X E cx xo => oB pgs_nil fun vs σ H Q ⟨I, F, G, xs, ds, w, rel, rs, rv, p⟩ => by
 cases xs with
 | nil =>
  simp only [RepL] at rv
  exact ⟨rv, p I F H .refl rel _ rs⟩
 | cons => exact p.elim
theorem yM (h1 : JG S e g) (h2 : WC S es r) (hs : ∀ env : Env, (assignEach (e :: es) env).map (·.2) = assign e env :: (assignEach es env).map (·.2) := by intro _; rfl) : WC S (e :: es) (aI g r) := fun X E cx xo =>
 oB (pgs_cons (h1 X E cx xo) (h2 X E cx xo) (hs X.env)) fun vs σ H Q ⟨I, F, G, xs, ds, w, rel, rs, rv, p⟩ => by
  cases xs with
  | nil => exact p.elim
  | cons x xs =>
   simp only [RepL] at rv
   obtain ⟨v, t, rfl, rv1, rvs⟩ := rv
   exact ⟨v, t, rfl, I, F, G, x, ds, w, rel, rs, rv1, (bE.bind p).mono fun I1 F1 H1 s w1 _ e1 rel1 p1 s' rs1 => ⟨I1, F1, G, xs, s, w1, rel1, rs1, RepL.ext e1 _ _ rvs, p1⟩⟩
theorem U4 {k n : Nat} (h : WC S es r) (hn : ∀ env : Env, (assignEach es env).length = n := by intro _; rfl) (hst : ∀ env : Env, (assignEach es env).findIdx? (·.1) = none := by intro _; rfl) : JG S (.Tuple es k pos) (cC n r) := fun X E cx xo =>
 pK (pg_tup cx.calm (h X E cx xo) (hn X.env) (hst X.env)) fun v σ H Q ⟨I, F, G, d, ds, w, rel, rs, rv, p⟩ => by
  cases d <;> first | exact p.elim | skip
  all_goals
   rename_i xs
   simp only [aG] at rv
   obtain ⟨a, vs, rfl, h1, h2⟩ := rv
   simp only [cC] at p
   split at p
   ·rename_i hl
    exact ⟨a, vs, rfl, (by first | exact .of (rel.fz _ _ h1) | exact rel.EN h1), by rw [← h2.length]; exact hl, I, F, G, xs, ds, w, rel, rs, h2, p⟩
   ·exact p.elim
end
mutual
def D.cl (n : Nat) : D → Bool
 | .tup xs => D.cls n xs
 | .lst xs => D.cls n xs
 | .jR xs => D.cls n xs
 | .nX xs => D.cls n xs
 | .sF ks xs => D.cls n ks && D.cls n xs
 | .ref i => decide (i < n)
 | .non => true
 | .bl _ => true
 | .int _ => true
 | .str _ => true
 | .ty _ => true
 | .con _ => true
def D.cls (n : Nat) : List D → Bool
 | [] => true
 | d :: ds => D.cl n d && D.cls n ds
end
def MO.cl (n : Nat) : MO → Bool
 | .lst xs => D.cls n xs
 | .dK kvs => D.cls n (kvs.map (·.2))
 | .dT kvs => D.cls n (kvs.map (·.2))
 | .dF kvs => D.cls n (kvs.map (·.2))
 | .dG kvs => D.cls n (kvs.map (·.2))
 | .ins _ fs => D.cls n (fs.map (·.2))
section
variable {K : PySem.W.Frag} {I : List Addr} {F : Hp} {n : Nat}
theorem NO {n i : Nat} {a : Addr} (h : I[i]? = some a) (hi : i < n) : (I.take n)[i]? = some a := by
 rw [List.getElem?_take_of_lt hi]; exact h
mutual
theorem aG.cut : ∀ (d : D) (v : V), aG K I F d v → d.cl n = true → aG K (I.take n) F d v
 | .non, _, h, _ => by simpa only [aG] using h
 | .bl _, _, h, _ => by simpa only [aG] using h
 | .int _, _, h, _ => by simpa only [aG] using h
 | .str _, _, h, _ => by simpa only [aG] using h
 | .ty _, _, h, _ => by simpa only [aG] using h
 | .con _, _, h, _ => by simpa only [aG] using h
 | .tup xs, v, h, c => by
  simp only [aG, D.cl] at h c ⊢
  obtain ⟨a, vs, h1, h2, h3⟩ := h
  exact ⟨a, vs, h1, h2, RepL.cut xs vs h3 c⟩
 | .lst xs, v, h, c => by
  simp only [aG, D.cl] at h c ⊢
  obtain ⟨a, vs, h1, h2, h3⟩ := h
  exact ⟨a, vs, h1, h2, RepL.cut xs vs h3 c⟩
 | .jR xs, v, h, c => by
  simp only [aG, D.cl] at h c ⊢
  obtain ⟨a, vs, h1, h2, h3⟩ := h
  exact ⟨a, vs, h1, h2, RepL.cut xs vs h3 c⟩
 | .nX xs, v, h, c => by
  simp only [aG, D.cl] at h c ⊢
  obtain ⟨a, vs, h1, h2, h3⟩ := h
  exact ⟨a, vs, h1, h2, RepL.cut xs vs h3 c⟩
 | .sF ks xs, v, h, c => by
  simp only [aG, D.cl, ag] at h c ⊢
  obtain ⟨a, kvs, h1, h2, h3, h4⟩ := h
  exact ⟨a, kvs, h1, h2, RepL.cut ks _ h3 c.1, RepL.cut xs _ h4 c.2⟩
 | .ref i, v, h, c => by
  simp only [aG, D.cl, ah] at h c ⊢
  obtain ⟨a, h1, h2⟩ := h
  exact ⟨a, h1, NO h2 c⟩
theorem RepL.cut : ∀ (ds : List D) (vs : List V), RepL K I F ds vs → D.cls n ds = true → RepL K (I.take n) F ds vs
 | [], _, h, _ => by simpa only [RepL] using h
 | d :: ds, vs, h, c => by
  simp only [RepL, D.cls, ag] at h c ⊢
  obtain ⟨v, r, h1, h2, h3⟩ := h
  exact ⟨v, r, h1, aG.cut d v h2 c.1, RepL.cut ds r h3 c.2⟩
end
theorem aP.cut {κ : Type} : ∀ (ds : List (κ × D)) (vs : List (κ × V)), aP K I F ds vs → D.cls n (ds.map (·.2)) = true → aP K (I.take n) F ds vs
 | [], _, h, _ => by simpa only [aP] using h
 | (k, d) :: ds, vs, h, c => by
  simp only [aP, List.map_cons, D.cls, ag] at h c ⊢
  obtain ⟨v, r, h1, h2, h3⟩ := h
  exact ⟨v, r, h1, aG.cut d v h2 c.1, aP.cut ds r h3 c.2⟩
theorem kT.cut {o : MO} {u : HO} (h : kT K I F o u) (c : o.cl n = true) : kT K (I.take n) F o u := by
 cases o with
 | lst xs => obtain ⟨vs, h1, h2⟩ := h; exact ⟨vs, h1, RepL.cut _ _ h2 c⟩
 | dK xs => obtain ⟨vs, h1, h2⟩ := h; exact ⟨vs, h1, aP.cut _ _ h2 c⟩
 | dT xs => obtain ⟨vs, h1, h2⟩ := h; exact ⟨vs, h1, aP.cut _ _ h2 c⟩
 | dF xs => obtain ⟨o, vs, h1, h2⟩ := h; exact ⟨o, vs, h1, aP.cut _ _ h2 c⟩
 | dG xs => obtain ⟨o, vs, h1, h2⟩ := h; exact ⟨o, vs, h1, aP.cut _ _ h2 c⟩
 | ins C xs => obtain ⟨dx, vs, h1, h2⟩ := h; exact ⟨dx, vs, h1, aP.cut _ _ h2 c⟩
mutual
theorem aG.cl : ∀ (d : D) (v : V), aG K I F d v → I.length ≤ n → d.cl n = true
 | .non, _, _, _ => by simp [D.cl]
 | .bl _, _, _, _ => by simp [D.cl]
 | .int _, _, _, _ => by simp [D.cl]
 | .str _, _, _, _ => by simp [D.cl]
 | .ty _, _, _, _ => by simp [D.cl]
 | .con _, _, _, _ => by simp [D.cl]
 | .tup xs, v, h, l => by
  simp only [aG, D.cl] at h ⊢
  obtain ⟨a, vs, h1, h2, h3⟩ := h
  exact RepL.cl xs vs h3 l
 | .lst xs, v, h, l => by
  simp only [aG, D.cl] at h ⊢
  obtain ⟨a, vs, h1, h2, h3⟩ := h
  exact RepL.cl xs vs h3 l
 | .jR xs, v, h, l => by
  simp only [aG, D.cl] at h ⊢
  obtain ⟨a, vs, h1, h2, h3⟩ := h
  exact RepL.cl xs vs h3 l
 | .nX xs, v, h, l => by
  simp only [aG, D.cl] at h ⊢
  obtain ⟨a, vs, h1, h2, h3⟩ := h
  exact RepL.cl xs vs h3 l
 | .sF ks xs, v, h, l => by
  simp only [aG, D.cl, ag] at h ⊢
  obtain ⟨a, kvs, h1, h2, h3, h4⟩ := h
  exact ⟨RepL.cl ks _ h3 l, RepL.cl xs _ h4 l⟩
 | .ref i, v, h, l => by
  simp only [aG, D.cl, ah] at h ⊢
  obtain ⟨a, h1, h2⟩ := h
  have := (aj.mp h2).1
  omega
theorem RepL.cl : ∀ (ds : List D) (vs : List V), RepL K I F ds vs → I.length ≤ n → D.cls n ds = true
 | [], _, _, _ => by simp [D.cls]
 | d :: ds, vs, h, l => by
  simp only [RepL, D.cls, ag] at h ⊢
  obtain ⟨v, r, h1, h2, h3⟩ := h
  exact ⟨aG.cl d v h2 l, RepL.cl ds r h3 l⟩
end
theorem aP.cl {κ : Type} : ∀ (ds : List (κ × D)) (vs : List (κ × V)), aP K I F ds vs → I.length ≤ n → D.cls n (ds.map (·.2)) = true
 | [], _, _, _ => by simp [D.cls]
 | (k, d) :: ds, vs, h, l => by
  simp only [aP, List.map_cons, D.cls, ag] at h ⊢
  obtain ⟨v, r, h1, h2, h3⟩ := h
  exact ⟨aG.cl d v h2 l, aP.cl ds r h3 l⟩
theorem kT.cl {o : MO} {u : HO} (h : kT K I F o u) (l : I.length ≤ n) : o.cl n = true := by
 cases o with
 | lst xs => obtain ⟨vs, h1, h2⟩ := h; exact RepL.cl _ _ h2 l
 | dK xs => obtain ⟨vs, h1, h2⟩ := h; exact aP.cl _ _ h2 l
 | dT xs => obtain ⟨vs, h1, h2⟩ := h; exact aP.cl _ _ h2 l
 | dF xs => obtain ⟨o, vs, h1, h2⟩ := h; exact aP.cl _ _ h2 l
 | dG xs => obtain ⟨o, vs, h1, h2⟩ := h; exact aP.cl _ _ h2 l
 | ins C xs => obtain ⟨dx, vs, h1, h2⟩ := h; exact aP.cl _ _ h2 l
end
def VP (w0 w : W) : Prop := w0.length ≤ w.length ∧ ∀ (i : Nat) (o : MO), w[i]? = some o → w0[i]? = some o ∨ o.cl w.length = true
def XD.cl (n : Nat) (x : XD) : Bool := match x.fs with
 | none => true
 | some fs => D.cls n (fs.map (·.2))
def Fits (w0 : W) (r r' : Res D) : Prop := match r with
 | .bad => True
 | .ok d w => ∃ g, r' = .ok d (w ++ g) ∧ (g = [] ∨ (d.cl w.length = true ∧ VP w0 w))
 | .AG x w => ∃ g, r' = .AG x (w ++ g) ∧ (g = [] ∨ (x.cl w.length = true ∧ VP w0 w))
theorem Fits.fW {w0 : W} {r : Res D} : Fits w0 r r := by
 cases r with
 | ok d w => exact ⟨[], by simp, .inl rfl⟩
 | AG x w => exact ⟨[], by simp, .inl rfl⟩
 | bad => trivial
theorem Fits.of_eq {w0 : W} {r r' : Res D} (h : r' = r) : Fits w0 r r' := h ▸ Fits.fW
theorem IZ {K : PySem.W.Frag} {I I' : List Addr} {F F' G H H' : Hp} {w0 w g : W} (rel0 : Rel K I F G w0 H) (e : Ext I F I' F') (rel : Rel K I' F' G (w ++ g) H') (s : VP w0 w) : Ext I F (I'.take w.length) F' ∧ Rel K (I'.take w.length) F' G w H' := by
 have hl : I'.length = w.length + g.length := by rw [rel.len, bc]
 have e2 : Ext I F (I'.take w.length) F' := ⟨by
  obtain ⟨t, rfl⟩ := e.i
  rw [List.take_append, List.take_of_length_le (by rw [rel0.len]; exact s.1)]
  exact List.prefix_append _ _, e.f⟩
 refine ⟨e2, ⟨by simp [hl], rel.nd.sublist (List.take_sublist _ _), fun i a o h1 h2 => ?_, rel.fz, fun i a o h h0 hf => rel.ap i a o (List.getElem?_take_of_lt (aj.mp h0).1 ▸ h) (by rw [az (aj.mp h0).1]; exact h0) hf, rel.gz, fun a u h => ⟨(rel.gf a u h).1, fun z => (rel.gf a u h).2 (List.mem_of_mem_take z)⟩, rel.gt⟩⟩
 have hi : i < w.length := (aj.mp h2).1
 rw [List.getElem?_take_of_lt hi] at h1
 obtain ⟨u, h3, h4⟩ := rel.ob i a o h1 (by rw [az hi]; exact h2)
 refine ⟨u, h3, ?_⟩
 rcases s.2 i o h2 with q | q
 ·refine kT.cut h4 ?_
  have hi0 : i < w0.length := (aj.mp q).1
  obtain ⟨u0, _, h6⟩ := rel0.ob i _ o (av (by rw [rel0.len]; exact hi0)) q
  exact h6.cl (by rw [rel0.len]; exact s.1)
 ·exact kT.cut h4 q
theorem yI.cut {K : PySem.W.Frag} {I : List Addr} {F H : Hp} {x : XD} {c : Value} {d : Option Addr} {n : Nat} (h : yI K (I.take n) F H x c d) (hn : n ≤ I.length) : yI K I F H x c d := by
 have e : Ext (I.take n) F I F := ⟨List.take_prefix _ _, fun _ _ h => h⟩
 obtain ⟨h1, h2⟩ := h
 refine ⟨h1, ?_⟩
 cases hf : x.fs with
 | none => rw [hf] at h2; exact h2
 | some fs =>
  rw [hf] at h2
  obtain ⟨a, r, q1, q2, q3⟩ := h2
  exact ⟨a, r, q1, q2, aP.ext e _ _ q3⟩
theorem yI.aAa {K : PySem.W.Frag} {I : List Addr} {F H : Hp} {x : XD} {c : Value} {d : Option Addr} {n : Nat} (h : yI K I F H x c d) (hx : x.cl n = true) : yI K (I.take n) F H x c d := by
 obtain ⟨h1, h2⟩ := h
 refine ⟨h1, ?_⟩
 unfold XD.cl at hx
 cases hf : x.fs with
 | none => rw [hf] at h2; exact h2
 | some fs =>
  rw [hf] at h2 hx
  obtain ⟨a, r, q1, q2, q3⟩ := h2
  exact ⟨a, r, q1, q2, aP.cut _ _ q3 hx⟩
theorem bE.fits {K : PySem.W.Frag} {I : List Addr} {F G H : Hp} {E : XK} {Q : VK} {w0 : W} {r r' : Res D} (rel0 : Rel K I F G w0 H) (p : bE K I F G E (RV K Q) r) (f : Fits w0 r r') : bE K I F G E (RV K Q) r' := by
 cases r with
 | bad => exact p.elim
 | ok d w =>
  obtain ⟨g, rfl, hg⟩ := f
  rcases hg with rfl | ⟨hd, hs⟩
  ·rw [List.append_nil]; exact p
  ·intro I' F' H' e rel v rv
   obtain ⟨e2, rel2⟩ := IZ rel0 e rel hs
   exact p _ F' H' e2 rel2 v (aG.cut d v rv hd)
 | AG x w =>
  obtain ⟨g, rfl, hg⟩ := f
  rcases hg with rfl | ⟨hd, hs⟩
  ·rw [List.append_nil]; exact p
  ·intro I' F' H' c d e rel rx
   obtain ⟨e2, rel2⟩ := IZ rel0 e rel hs
   exact p _ F' H' c d e2 rel2 (yI.aAa rx hd)
abbrev MF := List D → W → Res D
def spM (K : PySem.W.Frag) (m : MF) : Sp := fun vs H Q E => ∃ I F G ds w, Rel K I F G w H ∧ RepL K I F ds vs ∧ bE K I F G E (RV K Q) (m ds w)
structure eL (P : Program) (w : World) (K : PySem.W.Frag) (mg : Str → Option Value) (base : Heap) (k : Nat) (f : Addr) (fd : FuncData) (ps : List Str) (m : MF) : Prop where
 run : ∀ (A : Around) (outer : List Env) (s : Shared) (H : Hp) (args : Args) (us : List Value) (vs : List V) (Q : VK) (E : XK), Room k A → A.guards = some [] → Env0 P w K mg base A outer s H → BindsTo s fd args (ps.zip us) → Vals vs us →
  vs.length = ps.length → spM K m vs H Q E → codeAny (model P w) A (.call (.ref f) args) (CR (L2.CX P w) outer P w H s Q E) s
theorem eL.mono {P : Program} {w : World} {K : PySem.W.Frag} {mg : Str → Option Value} {base : Heap} {j k : Nat} {f : Addr} {fd : FuncData} {ps : List Str} {m : MF} (G : eL P w K mg base j f fd ps m) (h : j ≤ k) : eL P w K mg base k f fd ps m :=
 ⟨fun A outer s H args us vs Q E hr => G.run A outer s H args us vs Q E (hr.mono h)⟩
def begin (N : List Str) (ds : List D) : Sg := ds.map some ++ List.replicate (N.length - ds.length) none
def bI (mb : MS) (N : List Str) (ds : List D) (w : W) : Res D := (mb (begin N ds) w).bind fun f w1 => match f with
 | .nx _ => .ok .non w1
 | .rt d => .ok d w1
 | _ => .bad
theorem RepL.US {K : PySem.W.Frag} {I : List Addr} {F : Hp} {ds : List D} {vs : List V} (r : RepL K I F ds vs) (N : List Str) : fC K I F (begin N ds) (L2.start N vs) := by
 unfold begin L2.start
 refine ⟨by simp [r.length], fun i d h => ?_⟩
 by_cases hi : i < ds.length
 ·rw [az (by simpa using hi), bx] at h
  cases q : ds[i]? with
  | none => rw [q] at h; cases h
  | some x =>
   rw [q] at h; cases h
   obtain ⟨v, h1, h2⟩ := r.get q
   exact ⟨v, by rw [az (by simpa [← r.length] using hi), bx, h1]; rfl, h2⟩
 ·rw [bh (by simpa using hi), List.getElem?_replicate] at h
  split at h <;> cases h
abbrev aQ.body (S : aQ) (k : Nat) (N : List Str) (sc : Scope) : aQ := { S with k := k, N := N, sc := sc, fn := fun _ => true }
theorem eL.of {S : aQ} {x qual : Str} {params : Arguments} {body : List Stmt} {scope : Scope} {dvs : List V} {kws : List (Str × V)} {f : Addr} {fd : FuncData} {N ps : List Str} {k : Nat} {mb : MS} {m : MF}
  (F : FunD S.K x qual params body scope dvs kws f fd) (Sc : FnScope N ps scope) (hb : lD (S.body k N scope) body mb) (hm : ∀ ds w, ds.length = ps.length → Fits w (m ds w) (bI mb N ds w)) : eL S.P S.w S.K S.mg S.base (k + 1) f fd ps m := by
 refine ⟨fun A outer s H args us vs Q E hr hg e0 hbt r hl hsp => ?_⟩
 obtain ⟨oc, od, dV, kV, doc, pm, an, cdv, ct, osl, rfl, lk, hcd, _, _⟩ := F.ex
 have KX : S.K.In s.heap := e0.mod.kin.keeps fun b o e => (e0.bs b o e).1
 have lim : s.heap.NoLimit := e0.mod.nolimit.keeps fun b o e => (e0.bs b o e).1
 have kinds : ∀ y ∈ ps.zip us, scope.names.lookup y.1 = some .local ∨ (scope.names.lookup y.1 = some .cell ∧ ((cellsFrom (s.heap.objs.size + 1) scope.names []).lookup y.1).isSome = true) := by
  rintro ⟨n, v⟩ hy
  have hn : n ∈ ps := (List.of_mem_zip hy).1
  rcases Sc.par n hn with q | q
  ·exact Or.inl q
  ·exact Or.inr ⟨q, PySem.W.cellsFrom_some _ _ _ (.inl q)⟩
 refine codeAny_call_function hr.depth (KX _ _ lk) rfl Sc.co Sc.gen rfl (PySem.W.codeRec_of KX hcd) (hbt _ _ _ _ ?_)
 refine wpAny_newFunctionEnv_cells Sc.kind kinds fun env he s1 y => ?_
 subst he
 refine ⟨lim.keeps y.toInCall.keep, codeAny_func ?_⟩
 obtain ⟨I, F0, G, ds, w, rel, rl, p⟩ := hsp
 have J : Inv (cxOf (L2.CX S.P S.w) S.P S.w S.K S.mg S.base N qual scope f cdv A outer s H E) [] (start N vs) H s1 := inv_start Sc hr.hd e0 hl r y
 have cx : Ctx (S.body k N scope) (cxOf (L2.CX S.P S.w) S.P S.w S.K S.mg S.base N qual scope f cdv A outer s H E) := ⟨rfl, rfl, rfl, rfl, rfl, rfl, rfl, fun _ _ => rfl, rfl, hr.deeper _, hg, Sc.nd⟩
 have xo : nQ (cxOf (L2.CX S.P S.w) S.P S.w S.K S.mg S.base N qual scope f cdv A outer s H E) E := ⟨takes_of rfl rfl rfl rfl, passes_of rfl⟩
 have p' : bE S.K I F0 G E (RV S.K Q) (bI mb N ds w) := p.fits rel (hm ds w (by rw [rl.length]; exact hl))
 have go := (hb _ E cx xo).run [] s1 (start N vs) H { nx := fun _ H' => Q .non H', rt := Q } J ⟨I, F0, G, begin N ds, w, rel, rl.US N, (bE.bind p').mono fun I1 F1 H1 fl w1 _ e1 rel1 p1 => ?_⟩
 ·refine wpAny_mono go (fun fl s' hs => ?_) fun e s' hs => hs
  cases fl with
  | ret u =>
   obtain ⟨v, σ', H', J', rv, q⟩ := hs
   exact ⟨v, H', J'.os, J'.bare, J'.base, J'.hok, rv, q⟩
  | next =>
   obtain ⟨σ', H', J', q⟩ := hs
   exact ⟨V.non, H', J'.os, J'.bare, J'.base, J'.hok, rfl, q⟩
  | brk =>
   obtain ⟨_, _, _, q⟩ := hs
   exact q.elim
  | cont =>
   obtain ⟨_, _, _, q⟩ := hs
   exact q.elim
 ·cases fl with
  | nx z => exact fun s' _ => p1.nO rel1 (by simp [aG])
  | rt d => exact fun v rv => p1.nO rel1 rv
  | bk z => exact p1.elim
  | ct z => exact p1.elim
structure c7 (K : PySem.W.Frag) (fd : FuncData) (ps : List Str) (n : Nat) (ks : List Str) (gd : List D → List D → List D) : Prop where
 ex : ∃ (g : List Value → List Value → List Value) (gV : List V → List V → List V), KBn K fd ps n ks g gV ∧
  ∀ I F xs vs zs us, RepL K I F xs vs → RepL K I F zs us → RepL K I F (gd xs zs) (gV vs us)
 len : ∀ xs zs, xs.length = n → zs.length = ks.length → (gd xs zs).length = ps.length
def aJ (m : MF) (n : Nat) (gd : List D → List D → List D) (ma : MA) : ME := fun σ w => (ma σ w).bind fun xs w1 => if xs.length = n then m (gd xs []) w1 else .bad
def sY (m : MF) (n j : Nat) (gd : List D → List D → List D) (ma mk : MA) : ME := fun σ w => (ma σ w).bind fun xs w1 => (mk σ w1).bind fun zs w2 => if xs.length = n ∧ zs.length = j then m (gd xs zs) w2 else .bad
def JK (S : aQ) (kws : List Keyword) (m : MA) : Prop := ∀ X E, Ctx S X → nQ X E → PK X kws (SD X.K E m)
theorem TB {X : Cx} {pins : List (Addr × Obj)} {σ : L2.St} {H : Hp} {s : Shared} {Q : VK} {E : XK} {k : Nat} {f : Addr} {fd : FuncData} {ps ks : List Str} {m : MF} {n : Nat} {gd : List D → List D → List D} {I : List Addr} {F G : Hp} {xs zs : List D} {w : W} {us ws : List Value} {vs ys : List V}
  (xo : nQ X E) (Gf : eL X.prog X.w X.K X.mg X.base k f fd ps m) (B : c7 X.K fd ps n ks gd) (hr : Room k X.A) (hg : X.A.guards = some []) (J : Inv X pins σ H s) (rel : Rel X.K I F G w H) (rx : RepL X.K I F xs vs) (rz : RepL X.K I F zs ys)
  (r : Vals vs us) (q : Vals ys ws) (h1 : xs.length = n) (h2 : zs.length = ks.length) (p : bE X.K I F G E (RV X.K Q) (m (gd xs zs) w)) : wpAny (model X.prog X.w) X.A (call (.ref f) us (ks.zip ws)) (EP X pins σ Q) X.xe s := by
 obtain ⟨g, gV, kb, rep⟩ := B.ex
 have r2 := kb.rel r q
 have r3 := rep I F xs vs zs ys rx rz
 have hl : (gV vs ys).length = ps.length := by rw [← r3.length]; exact B.len xs zs h1 h2
 refine wpAny_call (codeAny_mono (Gf.run X.A X.stack s H ⟨us, ks.zip ws⟩ (g us ws) (gV vs ys) Q E hr hg J.env0 (kb.to s us ws J.kIn (by rw [← r.length, ← rx.length]; exact h1) (by rw [← q.length, ← rz.length]; exact h2)) r2 hl ⟨I, F, G, _, w, rel, r3, p⟩) fun fl s' hq => ?_)
 cases fl with
 | error e => exact passes_call xo.tk (fun _ _ _ _ h => h) pins σ H s e s' J hq
 | ok fl =>
  cases fl with
  | ret u => exact J.after hq
  | next => exact hq.elim
  | brk => exact hq.elim
  | cont => exact hq.elim
section
variable {S : aQ} {k n : Nat} {f : Addr} {fd : FuncData} {ps ks : List Str} {m : MF} {gd : List D → List D → List D} {x : Str} {p pos kpos : Pos} {e : Expr} {es : List Expr} {kws : List Keyword} {ma mk : MA} {me : ME} {nm : Option Str}
theorem UZ : JK S [] aD := fun X E cx xo => ⟨fun pos pins s σ H Q J ⟨I, F, G, ds, w, rel, rs, p⟩ => pk_nil.run pos pins s σ H Q J (p I F H .refl rel [] (by simp [RepL]))⟩
theorem RW (he : JE S e me) (hr : JK S kws mk) : JK S (⟨nm, e, kpos⟩ :: kws) (aA me mk) := fun X E cx xo =>
 ⟨fun pos pins s σ H Q J ⟨I, F, G, ds, w, rel, rs, p⟩ => (pk_cons (he X E cx xo) (hr X E cx xo)).run pos pins s σ H Q J
  (b7 (f := fun ds x w1 => (mk ds w1).bind fun xs w2 => Res.ok (x :: xs) w2) rel rs p fun I1 F1 H1 x w1 v e1 rel1 rs1 rv p1 =>
   eO (f := fun _ xs w2 => Res.ok (x :: xs) w2) rel1 rs1 p1 fun I2 F2 H2 xs w2 vs e2 rel2 rs2 rvs p2 => p2 I2 F2 H2 .refl rel2 _ (RepL.cons (aG.ext e2 _ _ rv) rvs))⟩
theorem aL (hk : k ≤ S.k) (Gf : eL S.P S.w S.K S.mg S.base k f fd ps m) (B : c7 S.K fd ps n [] gd) (hg : S.sc.names.lookup x = some .globalImplicit) (hm : S.mg x = some (.ref f)) (kp : PySem.W.keepIn S.K (.ref f) = true) (ha : JA S (e :: es) ma)
  (hdb : (x == ("__debug__" : Str)) = false := by decide) (he : ∀ env : Env, starEach (e :: es) env = (false, eval e env) :: starEach es env := by intro _; rfl) (hpl : ∀ env : Env, (backTo pos (starEach es env)).any (·.1) = false := by intro _; rfl) :
  JE S (.Call (.Name x p) (e :: es) [] pos) (aJ m n gd ma) := fun X E cx xo => by
 refine ⟨fun pins s σ H Q J ⟨I, F, G, ds, w, rel, rs, p⟩ => ?_⟩
 refine wpAny_Call_Name_kw (ld_glob J (by show X.env.scope.names.lookup x = _; rw [cx.sc]; exact hg) (by rw [cx.mg]; exact hm) ?_ hdb)
 refine PySem.W.callWith_K (h₀ := X.base) J.ok.mod.kin (by rw [cx.K]; exact kp) (thn ((ha X E cx xo).run pos pins s σ H _ J (eO (f := fun _ xs w1 => if xs.length = n then m (gd xs []) w1 else .bad) (Q := fun vs H1 => ∃ I1 F1 xs w1, Rel X.K I1 F1 G w1 H1 ∧ RepL X.K I1 F1 xs vs ∧ xs.length = n ∧ bE X.K I1 F1 G E (RV X.K Q) (m (gd xs []) w1)) rel rs p fun I1 F1 H1 xs w1 vs e1 rel1 rs1 rvs p1 => ?_)) fun us s1 hq => ?_) (he X.env) (hpl X.env)
 ·split at p1
  ·rename_i hl
   exact ⟨I1, F1, xs, w1, rel1, rvs, hl, p1⟩
  ·exact p1.elim
 ·obtain ⟨vs, H1, J1, r, I1, F1, xs, w1, rel1, rvs, hl, p1⟩ := hq
  refine ⟨J1.kIn, ?_⟩
  have Gf' : eL X.prog X.w X.K X.mg X.base k f fd ps m := by rw [cx.P, cx.w, cx.K, cx.mg, cx.base]; exact Gf
  have B' : c7 X.K fd ps n [] gd := by rw [cx.K]; exact B
  exact TB (ks := []) (ws := []) (zs := []) (ys := []) xo Gf' B' (cx.room.mono hk) cx.Y4 J1 rel1 rvs (by simp [RepL]) r .nil hl rfl p1
end
theorem bQ {K : PySem.W.Frag} {x qual : Str} {params : Arguments} {body : List Stmt} {scope : Scope} {kws : List (Str × V)} {f : Addr} {fd : FuncData} {ps : List Str} (F : FunD K x qual params body scope [] kws f fd)
  (h : ∀ (kV doc pm : Value) (an : Option Addr) (cdv ct : Value) (us : List Value), us.length = ps.length → bindArgs (PySem.W.fnOf x qual params body scope .none kV doc pm an cdv ct) ⟨us, []⟩ = pure (ps.zip us)) : c7 K fd ps ps.length [] fun xs _ => xs := by
 refine ⟨⟨fun us _ => us, fun vs _ => vs, ⟨fun s us ws KX h1 h2 => ?_, fun r _ => r⟩, fun _ _ _ _ _ _ r _ => r⟩, fun xs zs h1 _ => h1⟩
 have e : ws = [] := List.eq_nil_of_length_eq_zero (by simpa using h2)
 subst e
 exact F.bindsA h s us h1
theorem OZ {K : PySem.W.Frag} {x qual : Str} {params : Arguments} {body : List Stmt} {scope : Scope} {kws : List (Str × V)} {f : Addr} {fd : FuncData} {ps : List Str} (F : FunD K x qual params body scope [] kws f fd) (n : Nat) (ks : List Str) (g : {α : Type} → List α → List α → List α)
  (h : ∀ (kV doc pm : Value) (an : Option Addr) (cdv ct : Value) (us ws : List Value), us.length = n → ws.length = ks.length → bindArgs (PySem.W.fnOf x qual params body scope .none kV doc pm an cdv ct) ⟨us, ks.zip ws⟩ = pure (ps.zip (g us ws)))
  (hrel : ∀ {vs zs : List V} {us ws : List Value}, Vals vs us → Vals zs ws → Vals (g vs zs) (g us ws)) (hrep : ∀ I F' xs vs zs us, RepL K I F' xs vs → RepL K I F' zs us → RepL K I F' (g xs zs) (g vs us))
  (hlen : ∀ xs zs : List D, xs.length = n → zs.length = ks.length → (g xs zs).length = ps.length) : c7 K fd ps n ks g := by
 refine ⟨⟨fun us ws => g us ws, fun vs zs => g vs zs, ⟨fun s us ws KX h1 h2 => ?_, hrel⟩, hrep⟩, hlen⟩
 obtain ⟨oc, od, dV, kV, doc, pm, an, cdv, ct, osl, rfl, lk, hcd, hD, hK⟩ := F.ex
 rcases hD with ⟨_, rfl⟩ | ⟨e, _⟩
 ·exact .of_eq (h kV doc pm an cdv ct us ws h1 h2)
 ·exact absurd rfl e
structure lA where
 xs : List D
 okp : W → Prop
def lA.ok (it : lA) (w : W) : Prop := it.okp w
def always : W → Prop := fun _ => True
def holds (i : Nat) (o : MO) : W → Prop := fun w => w[i]? = some o
def CI (K : PySem.W.Frag) (I : List Addr) (F : Hp) (J : It) (it : lA) : Prop :=
 ∀ I' F' G w H j, Ext I F I' F' → Rel K I' F' G w H → it.ok w →
  (∀ x, it.xs[j]? = some x → J.go j H ∧ ∀ v H', J.yld j H v H' → ∃ F2, Ext I' F' I' F2 ∧ Rel K I' F2 G w H' ∧ aG K I' F2 x v) ∧ (it.xs.length = j → J.stop j H)
abbrev MI := Sg → W → Res lA
def RI (K : PySem.W.Frag) (R : It → Hp → Prop) : List Addr → Hp → Hp → lA → W → Prop := fun I' F' H' it w' => it.ok w' → ∀ J, CI K I' F' J it → R J H'
def XO (K : PySem.W.Frag) (E : XK) (m : MI) : TI := fun σ H R => ∃ I F G ds w, Rel K I F G w H ∧ fC K I F ds σ ∧ bE K I F G E (RI K R) (m ds w)
def JI (S : aQ) (tg iter : Expr) (m : MI) : Prop := ∀ X E, Ctx S X → nQ X E → PI X tg iter (XO X.K E m)
theorem A6 {X : Cx} {tg e : Expr} {t t' : TI} (h : PI X tg e t) (k : ∀ σ H R, t' σ H R → t σ H R) : PI X tg e t' := ⟨fun pins s σ H R I q => h.run pins s σ H R I (k σ H R q)⟩
def XJ (K : PySem.W.Frag) (tl : TE) : TI := fun σ H R => tl σ H fun x H1 => ∃ a, x = .ref a ∧ (((∃ xs, SqL K H1 a xs) ∧ R (Itl K a) H1) ∨ ((∃ xs, SqT K H1 a xs) ∧ R (Itt K a) H1))
theorem R9 {X : Cx} {tg l : Expr} {tl : TE} (hl : PE X l tl) : PI X tg l (XJ X.K tl) := by
 constructor
 intro pins s σ H R J h
 apply thn (hl.run pins s σ H _ J h)
 rintro v s1 ⟨x, H1, J1, r1, a, ex, q⟩
 subst ex
 cases r1
 have fp : ∀ b ∈ [s1.heap.objs.size], FpOk X pins H1 b := fun b hb => by
  rw [bq.mp hb]
  exact J1.fpOk (ay _) (J1.hok.fresh (ay _))
 rcases q with ⟨⟨xs, hq⟩, q⟩ | ⟨⟨xs, hq⟩, q⟩
 ·obtain ⟨its, rv, p, hz⟩ := J1.list hq
  apply wpAny_pyIter_list p.isList
  exact ⟨s1.heap.objs.size, [s1.heap.objs.size], _, _, H1, rfl, J1.kept (t' := s1.toks) fun b o e => Heap.get?_push_of_some _ e, turn_list a _, ⟨_, Heap.get?_push_size _ rfl, rfl, rfl⟩, fp, q⟩
 ·obtain ⟨its, rv, p, hz⟩ := J1.tuple hq
  apply wpAny_pyIter_tuple (show s1.heap.IsTuple a its.toArray from p)
  exact ⟨s1.heap.objs.size, [s1.heap.objs.size], _, _, H1, rfl, J1.kept (t' := s1.toks) fun b o e => Heap.get?_push_of_some _ e, turn_tuple a _, ⟨_, Heap.get?_push_size _ rfl, rfl, rfl⟩, fp, q⟩
def iterM (d : D) (w : W) : Res lA := match d with
 | .tup xs => .ok ⟨xs, always⟩ w
 | .nX xs => .ok ⟨xs, always⟩ w
 | .lst xs => .ok ⟨xs, always⟩ w
 | .jR xs => .ok ⟨xs, always⟩ w
 | .ref i => (match w[i]? with
  | some (.lst xs) => .ok ⟨xs, holds i (.lst xs)⟩ w
  | _ => .bad)
 | _ => .bad
def dP (m : ME) : MI := fun σ w => (m σ w).bind iterM
section
variable {K : PySem.W.Frag} {I : List Addr} {F : Hp} {a : Addr} {it : lA}
theorem GH (h : ∀ I' F' G w H, Ext I F I' F' → Rel K I' F' G w H → it.ok w → ∃ vs, SqL K H a vs ∧ RepL K I' F' it.xs vs) : CI K I F (Itl K a) it := fun I' F' G w H j e rel ok => by
 obtain ⟨vs, hq, r⟩ := h I' F' G w H e rel ok
 refine ⟨fun x hx => ?_, fun hl => ⟨vs, hq, by rw [← r.length, hl]; exact ay _⟩⟩
 obtain ⟨v, hv, rv⟩ := r.get hx
 refine ⟨⟨vs, v, hq, hv⟩, fun u H' y => ?_⟩
 obtain ⟨rfl, y⟩ := y
 have := y vs hq
 rw [hv] at this; cases this
 exact ⟨F', .refl, rel, rv⟩
theorem OS (h : ∀ I' F' G w H, Ext I F I' F' → Rel K I' F' G w H → it.ok w → ∃ vs, SqT K H a vs ∧ RepL K I' F' it.xs vs) : CI K I F (Itt K a) it := fun I' F' G w H j e rel ok => by
 obtain ⟨vs, hq, r⟩ := h I' F' G w H e rel ok
 refine ⟨fun x hx => ?_, fun hl => ⟨vs, hq, by rw [← r.length, hl]; exact ay _⟩⟩
 obtain ⟨v, hv, rv⟩ := r.get hx
 refine ⟨⟨vs, v, hq, hv⟩, fun u H' y => ?_⟩
 obtain ⟨rfl, y⟩ := y
 have := y vs hq
 rw [hv] at this; cases this
 exact ⟨F', .refl, rel, rv⟩
theorem V8 {lo : Int} {n : Nat} (hx : it.xs = (List.range n).map fun k : Nat => D.int (lo + (k : Int))) : CI K I F (Itr lo n) it := fun I' F' G w H j e rel ok => by
 refine ⟨fun x h => ?_, fun hl => ?_⟩
 ·rw [hx, bx] at h
  by_cases hj : j < n
  ·rw [List.getElem?_range hj] at h
   cases h
   refine ⟨hj, fun v H' y => ?_⟩
   obtain ⟨rfl, rfl⟩ := y
   exact ⟨F', .refl, rel, by simp [aG]⟩
  ·rw [List.getElem?_eq_none (by simpa using hj)] at h; cases h
 ·rw [hx] at hl
  simp at hl
  show n ≤ j
  omega
end
section
variable {S : aQ} {pos p : Pos} {tg l e e2 : Expr} {m : ME} {ma : MA} {x : Str}
theorem jG (hl : JE S l m) : JI S tg l (dP m) := fun X E cx xo =>
 A6 (R9 (hl X E cx xo)) fun σ H R ⟨I, F, G, ds, w, rel, rs, p⟩ => b7 (f := fun _ => iterM) rel rs p fun I1 F1 H1 d w1 v e1 rel1 rs1 rv p1 => by
  cases d <;> first | exact p1.elim | skip
  case tup xs =>
   simp only [aG] at rv
   obtain ⟨a, vs, rfl, h1, h2⟩ := rv
   exact ⟨a, rfl, .inr ⟨⟨vs, .of (rel1.fz _ _ h1)⟩, p1 I1 F1 H1 .refl rel1 trivial _ (OS fun I' F' G w H e rel ok => ⟨vs, .of (rel.fz _ _ (e.f _ _ h1)), RepL.ext e _ _ h2⟩)⟩⟩
  case nX xs =>
   simp only [aG] at rv
   obtain ⟨a, vs, rfl, h1, h2⟩ := rv
   exact ⟨a, rfl, .inr ⟨⟨vs, rel1.EN h1⟩, p1 I1 F1 H1 .refl rel1 trivial _ (OS fun I' F' G w H e rel ok => ⟨vs, rel.EN (v9 e h1), RepL.ext e _ _ h2⟩)⟩⟩
  case lst xs =>
   simp only [aG] at rv
   obtain ⟨a, vs, rfl, h1, h2⟩ := rv
   exact ⟨a, rfl, .inl ⟨⟨vs, .of (rel1.fz _ _ h1)⟩, p1 I1 F1 H1 .refl rel1 trivial _ (GH fun I' F' G w H e rel ok => ⟨vs, .of (rel.fz _ _ (e.f _ _ h1)), RepL.ext e _ _ h2⟩)⟩⟩
  case jR xs =>
   simp only [aG] at rv
   obtain ⟨a, vs, rfl, h1, h2⟩ := rv
   exact ⟨a, rfl, .inl ⟨⟨vs, rel1.LQ h1⟩, p1 I1 F1 H1 .refl rel1 trivial _ (GH fun I' F' G w H e rel ok => ⟨vs, rel.LQ (J7 e h1), RepL.ext e _ _ h2⟩)⟩⟩
  case ref i =>
   simp only [aG] at rv
   obtain ⟨a, rfl, h1⟩ := rv
   simp only [iterM] at p1
   split at p1
   ·rename_i xs hw
    obtain ⟨u, hu, vs, rfl, h2⟩ := rel1.ob i a _ h1 hw
    refine ⟨a, rfl, .inl ⟨⟨vs, .of hu⟩, p1 I1 F1 H1 .refl rel1 hw _ (GH fun I' F' G w H e rel ok => ?_)⟩⟩
    obtain ⟨u', hu', vs', rfl, h2'⟩ := rel.ob i a _ (e.get h1) ok
    exact ⟨vs', .of hu', h2'⟩
   ·exact p1.elim
def fD (lo : Int) (n : Nat) : lA := ⟨(List.range n).map fun k : Nat => D.int (lo + (k : Int)), always⟩
def hE (ds : List D) (w : W) : Res lA := match ds with
 | [.int n] => if -(2 ^ 62) ≤ n ∧ n < 2 ^ 62 then .ok (fD 0 n.toNat) w else .bad
 | _ => .bad
def dS (f : List D → W → Res lA) (ma : MA) : MI := fun σ w => (ma σ w).bind f
theorem gO (hg : S.sc.names.lookup ("range" : Str) = some .globalImplicit) (hm : S.mg "range" = none) (ha : JA S [e] ma) (hs : ∀ env : Env, starEach [e] env = [(false, eval e env)] := by intro _; rfl) : JI S tg (.Call (.Name "range" p) [e] [] pos) (dS hE ma) := fun X E cx xo =>
 A6 (pi_range1 (by show X.env.scope.names.lookup _ = _; rw [cx.sc]; exact hg) (by rw [cx.mg]; exact hm) (ha X E cx xo) (hs X.env)) fun σ H R ⟨I, F, G, ds, w, rel, rs, p⟩ => eO (f := fun _ => hE) rel rs p fun I1 F1 H1 xs w1 vs e1 rel1 rs1 rv p1 => by
  unfold hE at p1
  split at p1
  ·rename_i n
   split at p1
   ·rename_i hn
    simp only [RepL, aG] at rv
    obtain ⟨v, r, rfl, rfl, rfl⟩ := rv
    exact ⟨n, rfl, hn.1, hn.2, p1 I1 F1 H1 .refl rel1 trivial _ (V8 rfl)⟩
   ·exact p1.elim
  ·exact p1.elim
end
open Classical in
def forL (it : lA) (g : MG) (body : MS) : List D → Sg → W → Res Fl
 | [], σ, w => if it.ok w then .ok (.nx σ) w else .bad
 | x :: xs, σ, w => if it.ok w then (g x σ w).bind fun σ1 w1 => (body σ1 w1).bind fun f w2 => match f with
   | .nx s => forL it g body xs s w2
   | .ct s => forL it g body xs s w2
   | .bk s => .ok (.nx s) w2
   | .rt d => .ok (.rt d) w2
  else .bad
def fY (m : MI) (g : MG) (body : MS) : MS := fun σ w => (m σ w).bind fun it w1 => forL it g body it.xs σ w1
section
variable {S : aQ} {pos : Pos} {tg iter : Expr} {body : List Stmt} {m : MI} {g : MG} {b : MS}
theorem B2 (hi : JI S tg iter m) (hg : JG S tg g) (hb : lD S body b) (hs : ∀ (env : Env) x, foldedSetIterable iter env x = pure x := by intro _ _; rfl) : JS S (.For tg iter body [] pos) (fY m g b) := fun X E cx xo =>
 nH (ps_for xo.own cx.calm (hi X E cx xo) (hg X E cx xo) (hb X E cx xo) (hs X.env)) fun Z σ H ⟨I, F, G, ds, w, rel, rs, p⟩ => by
  refine ⟨I, F, G, ds, w, rel, rs, (bE.bind p).mono fun I1 F1 H1 it w1 _ e1 rel1 p1 hok J hJ => ?_⟩
  refine ⟨fun i n σ' H' => n = it.xs.length - i ∧ i ≤ it.xs.length ∧ ∃ I' F' ds' w', Ext I1 F1 I' F' ∧ Rel X.K I' F' G w' H' ∧ fC X.K I' F' ds' σ' ∧ bE X.K I' F' G E (ZD X.K Z) (forL it g b (it.xs.drop i) ds' w'),
   ⟨it.xs.length, by simp, Nat.zero_le _, I1, F1, ds, w1, .refl, rel1, rs.ext e1, p1⟩, ?_⟩
  rintro i n σ' H' ⟨rfl, hi, I', F', ds', w', e', rel', rs', p'⟩
  by_cases hlt : i < it.xs.length
  ·rw [List.drop_eq_getElem_cons hlt] at p'
   unfold forL at p'
   split at p'
   ·rename_i hw
    obtain ⟨h1, _⟩ := hJ I' F' G w' H' i e' rel' hw
    obtain ⟨hgo, hy⟩ := h1 _ (av hlt)
    refine .inr ⟨hgo, fun σ2 H2 => ∃ I2 F2 ds2 w2, Ext I1 F1 I2 F2 ∧ Rel X.K I2 F2 G w2 H2 ∧ fC X.K I2 F2 ds2 σ2 ∧ bE X.K I2 F2 G E (ZD X.K Z) (forL it g b (it.xs.drop (i + 1)) ds2 w2), fun σ2 H2 q => ⟨it.xs.length - (i + 1), by omega, rfl, hlt, q⟩, fun v H2 y => ?_⟩
    obtain ⟨F2, e2, rel2, rv⟩ := hy v H2 y
    refine ⟨I', F2, G, _, ds', w', rel2, rs'.ext e2, rv, (bE.bind (p'.ext e2)).mono fun I3 F3 H3 s3 w3 _ e3 rel3 p3 σ3 rs3 => ?_⟩
    refine ⟨I3, F3, G, s3, w3, rel3, rs3, (bE.bind p3).mono fun I4 F4 H4 f w4 _ e4 rel4 p4 => ?_⟩
    have ee : Ext I1 F1 I4 F4 := ((e'.trans e2).trans e3).trans e4
    cases f with
    | nx s => exact fun s' rs4 => ⟨I4, F4, s, w4, ee, rel4, rs4, p4⟩
    | ct s => exact fun s' rs4 => ⟨I4, F4, s, w4, ee, rel4, rs4, p4⟩
    | bk s => exact fun s' rs4 => p4 I4 F4 H4 .refl rel4 s' rs4
    | rt d => exact fun v rv => p4 I4 F4 H4 .refl rel4 v rv
   ·exact p'.elim
  ·have hl : i = it.xs.length := by omega
   subst hl
   rw [List.drop_length] at p'
   unfold forL at p'
   split at p'
   ·rename_i hw
    exact .inl ⟨(hJ I' F' G w' H' _ e' rel' hw).2 rfl, p' I' F' H' .refl rel' σ' rs'⟩
   ·exact p'.elim
end
def Res.LP {α : Type} (r : Res α) : Res α := match r with
 | .AG _ _ => .bad
 | r => r
@[simp] theorem Res.ZW {α : Type} (a : α) (w : W) : (Res.ok a w).LP = .ok a w := rfl
@[simp] theorem Res.Y8 {α : Type} (x : XD) (w : W) : (Res.AG x w : Res α).LP = .bad := rfl
@[simp] theorem Res.Y3 {α : Type} : (Res.bad : Res α).LP = .bad := rfl
abbrev E0 : XK := fun _ _ _ => False
theorem bE.OA {α β : Type} {K : PySem.W.Frag} {I : List Addr} {F G : Hp} {E : XK} {r : Res α} {f : α → W → Res β} {R2 : List Addr → Hp → Hp → β → W → Prop} (h : bE K I F G E R2 (r.LP.bind f)) :
  bE K I F G E0 (fun I' F' _ a w => bE K I' F' G E R2 (f a w)) r := by
 cases r with
 | ok a w => exact fun I' F' H' e' q => bE.ext (K := K) (R := R2) h e'
 | AG x w => exact h.elim
 | bad => exact h
theorem Rel.keep {K : PySem.W.Frag} {I : List Addr} {F G H : Hp} {w : W} (rel : Rel K I F G w H) {q : Addr} {u : HO} (hq : H q = none) (hu : ∀ xs, u ≠ .tup xs := by intro _ h; cases h) : Rel K I F (upd G q u) w (upd H q u) := by
 have hI : q ∉ I := fun z => by
  obtain ⟨i, hi⟩ := List.mem_iff_getElem?.mp z
  have hl : i < w.length := by rw [← rel.len]; exact (aj.mp hi).1
  obtain ⟨u, h3, _⟩ := rel.ob i q _ hi (av hl)
  rw [h3] at hq; cases hq
 have hF : F q = none := by
  cases h : F q with
  | none => rfl
  | some u => rw [rel.fz _ _ h] at hq; cases hq
 refine ⟨rel.len, rel.nd, fun i a o h1 h2 => ?_, fun a u' h => ?_, rel.ap, fun a u' h => ?_, fun a u' h => ?_, fun a xs h => ?_⟩
 ·obtain ⟨u', h3, h4⟩ := rel.ob i a o h1 h2
  exact ⟨u', by rw [upd_ne (ne_of_none h3 hq)]; exact h3, h4⟩
 ·rw [upd_ne (ne_of_none h hF)]; exact rel.fz a u' h
 ·by_cases ha : a = q
  ·subst ha; rw [upd_same] at h ⊢; exact h
  ·rw [upd_ne ha] at h ⊢; exact rel.gz a u' h
 ·by_cases ha : a = q
  ·subst ha; exact ⟨hF, hI⟩
  ·rw [upd_ne ha] at h; exact rel.gf a u' h
 ·by_cases ha : a = q
  ·subst ha; rw [upd_same] at h; exact hu xs (Option.some.inj h)
  ·rw [upd_ne ha] at h; exact rel.gt a xs h
theorem Rel.FN {K : PySem.W.Frag} {I : List Addr} {F G H : Hp} {w : W} {q : Addr} {u u' : HO} (rel : Rel K I F (upd G q u) w H) (hu : ∀ xs, u' ≠ .tup xs := by intro _ h; cases h) : Rel K I F (upd G q u') w (upd H q u') := by
 obtain ⟨hF, hI⟩ := rel.gf q u upd_same
 refine ⟨rel.len, rel.nd, fun i a o h1 h2 => ?_, fun a v h => ?_, rel.ap, fun a v h => ?_, fun a v h => ?_, fun a xs h => ?_⟩
 ·obtain ⟨v, h3, h4⟩ := rel.ob i a o h1 h2
  have ha : a ≠ q := fun z => hI (by rw [← z]; exact bo h1)
  exact ⟨v, by rw [upd_ne ha]; exact h3, h4⟩
 ·rw [upd_ne (ne_of_none h hF)]; exact rel.fz a v h
 ·by_cases ha : a = q
  ·subst ha; rw [upd_same] at h ⊢; exact h
  ·rw [upd_ne ha] at h ⊢; exact rel.gz a v (by rw [upd_ne ha]; exact h)
 ·by_cases ha : a = q
  ·subst ha; exact ⟨hF, hI⟩
  ·rw [upd_ne ha] at h; exact rel.gf a v (by rw [upd_ne ha]; exact h)
 ·by_cases ha : a = q
  ·subst ha; rw [upd_same] at h; exact hu xs (Option.some.inj h)
  ·rw [upd_ne ha] at h; exact rel.gt a xs (by rw [upd_ne ha]; exact h)
theorem Rel.PQ {K : PySem.W.Frag} {I : List Addr} {F G H : Hp} {w : W} {q : Addr} {u : HO} (rel : Rel K I F (upd G q u) w H) (hG : G q = none) : Ext I F I (upd F q u) ∧ Rel K I (upd F q u) G w H := by
 obtain ⟨hF, hI⟩ := rel.gf q u upd_same
 have e : Ext I F I (upd F q u) := ⟨List.prefix_refl _, fun a v h => by rw [upd_ne (ne_of_none h hF)]; exact h⟩
 refine ⟨e, rel.len, rel.nd, fun i a o h1 h2 => ?_, fun a v h => ?_, fun i a o h h0 hf => ?_, fun a v h => ?_, fun a v h => ?_, fun a xs h => rel.gt a xs (by rw [upd_ne (ne_of_none h hG)]; exact h)⟩
 ·obtain ⟨v, h3, h4⟩ := rel.ob i a o h1 h2
  exact ⟨v, h3, kT.ext e h4⟩
 ·by_cases ha : a = q
  ·subst ha; rw [upd_same] at h; cases h; exact rel.gz a u upd_same
  ·rw [upd_ne ha] at h; exact rel.fz a v h
 ·have ha : a ≠ q := fun z => hI (by rw [← z]; exact bo h)
  rw [upd_ne ha]; exact rel.ap i a o h h0 hf
 ·have ha : a ≠ q := ne_of_none h hG
  exact rel.gz a v (by rw [upd_ne ha]; exact h)
 ·have ha : a ≠ q := ne_of_none h hG
  rw [upd_ne ha]
  exact rel.gf a v (by rw [upd_ne ha]; exact h)
theorem Rel.owned {K : PySem.W.Frag} {I : List Addr} {F G H : Hp} {w : W} {q : Addr} {u : HO} {o : MO} (rel : Rel K I F (upd G q u) w H) (hG : G q = none) (r : kT K I F o u) : Ext I F (I ++ [q]) F ∧ Rel K (I ++ [q]) F G (w ++ [o]) H := by
 obtain ⟨hF, hI⟩ := rel.gf q u upd_same
 have e : Ext I F (I ++ [q]) F := ⟨List.prefix_append _ _, fun _ _ h => h⟩
 refine ⟨e, by simp [rel.len], ?_, fun i a o' h1 h2 => ?_, rel.fz, fun i a o' h h0 hf => ?_, fun a v h => ?_, fun a v h => ?_, fun a xs h => rel.gt a xs (by rw [upd_ne (ne_of_none h hG)]; exact h)⟩
 ·rw [List.nodup_append]
  exact ⟨rel.nd, by simp, fun a ha b hb => by simp at hb; subst hb; exact fun z => hI (z ▸ ha)⟩
 ·by_cases hi : i < I.length
  ·rw [az hi] at h1
   rw [az (by rw [← rel.len]; exact hi)] at h2
   obtain ⟨v, h3, h4⟩ := rel.ob i a o' h1 h2
   exact ⟨v, h3, kT.ext e h4⟩
  ·have hi2 : i = I.length := by
    have := (aj.mp h1).1
    simp at this; omega
   subst hi2
   rw [bh (ay _)] at h1
   simp at h1
   rw [rel.len, bh (ay _)] at h2
   simp at h2
   subst h1 h2
   exact ⟨u, rel.gz _ _ upd_same, kT.ext e r⟩
 ·by_cases hi : i < I.length
  ·rw [az hi] at h
   rw [az (by rw [← rel.len]; exact hi)] at h0
   exact rel.ap i a o' h h0 hf
  ·have hi2 : i = I.length := by
    have := (aj.mp h).1
    simp at this; omega
   subst hi2
   rw [bh (ay _)] at h
   simp at h
   subst h; exact hF
 ·have ha : a ≠ q := ne_of_none h hG
  exact rel.gz a v (by rw [upd_ne ha]; exact h)
 ·have ha : a ≠ q := ne_of_none h hG
  have := rel.gf a v (by rw [upd_ne ha]; exact h)
  refine ⟨this.1, fun z => ?_⟩
  rcases bf.mp z with z | z
  ·exact this.2 z
  ·simp at z; exact ha z
def dO (σ : Sg) : List Nat → Sg
 | [] => σ
 | v :: vs => (dO σ vs).set v none
theorem fC.wipe {K : PySem.W.Frag} {I : List Addr} {F : Hp} {ds : Sg} {s : L2.St} (h : fC K I F ds s) : ∀ vs : List Nat, fC K I F (dO ds vs) (L2.wipe s vs)
 | [] => h
 | v :: vs => (h.wipe vs).unset v none
theorem wL {s : L2.St} {i : Nat} {x : Option V} : ∀ {vs : List Nat}, i ∈ vs → L2.wipe (s.set i x) vs = L2.wipe s vs
 | [], h => by cases h
 | v :: vs, h => by
  show (L2.wipe (s.set i x) vs).set v none = (L2.wipe s vs).set v none
  by_cases hi : i ∈ vs
  ·rw [wL hi]
  ·have hv : i = v := by
    rcases ao.mp h with e | e
    ·exact e
    ·exact absurd e hi
   subst hv
   have key : ∀ ws : List Nat, i ∉ ws → L2.wipe (s.set i x) ws = (L2.wipe s ws).set i x := by
    intro ws
    induction ws with
    | nil => intro _; rfl
    | cons b bs ih =>
     intro hn
     show (L2.wipe (s.set i x) bs).set b none = ((L2.wipe s bs).set b none).set i x
     rw [ih (fun z => hn (aw _ z))]
     rw [List.set_comm _ _ (fun z => hn (by rw [z]; exact aq ..))]
   rw [key vs hi, List.set_set]
theorem LI {s : L2.St} : ∀ {vs : List Nat}, L2.wipe (L2.wipe s vs) vs = L2.wipe s vs := by
 intro vs
 have key : ∀ ws : List Nat, (∀ v ∈ ws, v ∈ vs) → L2.wipe (L2.wipe s ws) vs = L2.wipe s vs := by
  intro ws
  induction ws with
  | nil => intro _; rfl
  | cons b bs ih =>
   intro h
   show L2.wipe ((L2.wipe s bs).set b none) vs = _
   rw [wL (h b (aq ..)), ih fun v hv => h v (aw _ hv)]
 exact key vs fun _ h => h
def RSw (K : PySem.W.Frag) (vs : List Nat) (σ : L2.St) (Q : L2.St → Hp → Prop) : List Addr → Hp → Hp → Sg → W → Prop := fun I' F' H' s _ => ∀ s', fC K I' F' s s' → L2.wipe s' vs = L2.wipe σ vs → Q s' H'
def WR (K : PySem.W.Frag) (E : XK) (vs : List Nat) (g : MG) : TG := fun v σ H Q => ∃ I F G d ds w, Rel K I F G w H ∧ fC K I F ds σ ∧ aG K I F d v ∧ bE K I F G E (RSw K vs σ Q) (g d ds w)
def W0 (K : PySem.W.Frag) (E : XK) (vs : List Nat) (g : HV) : TGs := fun v σ H Q => ∃ I F G d ds w, Rel K I F G w H ∧ fC K I F ds σ ∧ RepL K I F d v ∧ bE K I F G E (RSw K vs σ Q) (g d ds w)
def JC (S : aQ) (vs : List Nat) (t : Expr) (g : MG) : Prop := ∀ X E, Ctx S X → nQ X E → PG X t (WR X.K E vs g)
def Y5 (S : aQ) (vs : List Nat) (t : List Expr) (g : HV) : Prop := ∀ X E, Ctx S X → nQ X E → PGs X t (W0 X.K E vs g)
section
variable {S : aQ} {pos : Pos} {vs : List Nat} {e : Expr} {es : List Expr} {g : MG} {r : HV}
theorem P7 {i : Nat} {x : Str} (hi : S.N[i]? = some x) (hx : Sto S x) (hv : i ∈ vs) : JC S vs (.Name x pos) (a7 i) := fun X E cx xo =>
 pK (pg_name (i := i) (x := x) cx.nd (by rw [cx.N]; exact hi) (by rw [cx.sc]; exact hx.1) (by rw [cx.sc]; exact hx.2.imp (cx.fn x) id)) fun v σ H Q ⟨I, F, G, d, ds, w, rel, rs, rv, p⟩ => p I F H .refl rel _ (rs.set i rv) (wL hv)
theorem R7 : Y5 S vs [] bZ := fun X E cx xo => oB pgs_nil fun v σ H Q ⟨I, F, G, xs, ds, w, rel, rs, rv, p⟩ => by
 cases xs with
 | nil =>
  simp only [RepL] at rv
  exact ⟨rv, p I F H .refl rel _ rs rfl⟩
 | cons => exact p.elim
theorem EE (h1 : JC S vs e g) (h2 : Y5 S vs es r) (hs : ∀ env : Env, (assignEach (e :: es) env).map (·.2) = assign e env :: (assignEach es env).map (·.2) := by intro _; rfl) : Y5 S vs (e :: es) (aI g r) := fun X E cx xo =>
 oB (pgs_cons (h1 X E cx xo) (h2 X E cx xo) (hs X.env)) fun v σ H Q ⟨I, F, G, xs, ds, w, rel, rs, rv, p⟩ => by
  cases xs with
  | nil => exact p.elim
  | cons x xs =>
   simp only [RepL] at rv
   obtain ⟨v, t, rfl, rv1, rvs⟩ := rv
   refine ⟨v, t, rfl, I, F, G, x, ds, w, rel, rs, rv1, (bE.bind p).mono fun I1 F1 H1 s w1 _ e1 rel1 p1 s' rs1 ew => ⟨I1, F1, G, xs, s, w1, rel1, rs1, RepL.ext e1 _ _ rvs, p1.mono fun I2 F2 H2 s2 w2 _ e2 rel2 p2 s3 rs3 ew3 => p2 s3 rs3 (ew3.trans ew)⟩⟩
theorem T4 {k n : Nat} (h : Y5 S vs es r) (hn : ∀ env : Env, (assignEach es env).length = n := by intro _; rfl) (hst : ∀ env : Env, (assignEach es env).findIdx? (·.1) = none := by intro _; rfl) : JC S vs (.Tuple es k pos) (cC n r) := fun X E cx xo =>
 pK (pg_tup cx.calm (h X E cx xo) (hn X.env) (hst X.env)) fun v σ H Q ⟨I, F, G, d, ds, w, rel, rs, rv, p⟩ => by
  cases d <;> first | exact p.elim | skip
  all_goals
   rename_i xs
   simp only [aG] at rv
   obtain ⟨a, us, rfl, h1, h2⟩ := rv
   simp only [cC] at p
   split at p
   ·rename_i hl
    exact ⟨a, us, rfl, (by first | exact .of (rel.fz _ _ h1) | exact rel.EN h1), by rw [← h2.length]; exact hl, I, F, G, xs, ds, w, rel, rs, h2, p⟩
   ·exact p.elim
end
open Classical in
def gU (it : lA) (vs : List Nat) (g : MG) (t : MT) (e : ME) : List D → Sg → W → Res (List D)
 | [], σ, w => if it.ok w then .ok [] w else .bad
 | x :: xs, σ, w => if it.ok w then (g x (dO σ vs) w).LP.bind fun σ1 w1 => (t σ1 w1).LP.bind fun b w2 =>
   if b = true then (e σ1 w2).LP.bind fun y w3 => (gU it vs g t e xs σ w3).bind fun ys w4 => .ok (y :: ys) w4 else gU it vs g t e xs σ w2
  else .bad
def IJ (m : MI) (vs : List Nat) (g : MG) (t : MT) (e : ME) : MA := fun σ w => (m σ w).bind fun it w1 => if it.xs.length ≤ sizeLine then gU it vs g t e it.xs σ w1 else .bad
def bR (m : MI) (vs : List Nat) (g : MG) (t : MT) (e : ME) : ME := fun σ w => (IJ m vs g t e σ w).bind fun ys w1 => .ok (.lst ys) w1
def GZ (m : MI) (vs : List Nat) (g : MG) (t : MT) (e : ME) : ME := fun σ w => (IJ m vs g t e σ w).bind fun ys w1 => .ok (.ref w1.length) (w1 ++ [.lst ys])
def XW (S : aQ) (ifs : List Expr) (t : MT) : Prop := ∀ X E, Ctx S X → nQ X E → PTs X ifs (O6 X.K E t)
def cF : MT := fun _ w => .ok true w
abbrev aQ.blk (S : aQ) (scope : Scope) : aQ := { S with sc := relS scope S.sc, fn := fun x => scope.names.lookup x == some .cell }
theorem pM {S : aQ} {X : Cx} (c : Ctx S X) (s : Shared) (H : Hp) (scope : Scope) (C : Addr) (cl : List (Str × Addr)) (fp : List Addr) : Ctx (S.blk scope) (X.blk s H scope (compEnvC scope cl C X.env) fp) :=
 ⟨c.P, c.w, c.K, c.mg, c.base, c.N, by show relS scope X.env.scope = relS scope S.sc; rw [c.sc], fun _ h => h, c.calm, c.room, c.Y4, c.nd⟩
theorem pP {X : Cx} (s : Shared) (H : Hp) (scope : Scope) (cenv : Env) (fp : List Addr) : nQ (X.blk s H scope cenv fp) E0 :=
 ⟨fun _ _ ⟨_, _, _, _, _, _, _, _, _, _, _, _, _, _, _, _, h⟩ => h.elim, PassesOwn.never⟩
section
variable {S : aQ} {pos : Pos} {elt tg iter c : Expr} {ifs : List Expr} {scope : Scope} {own : List (Str × Nat)} {mi : MI} {g : MG} {t : MT} {me : ME}
theorem gG : XW S [] cF := fun X E cx xo => ⟨fun pins s σ H Q J ⟨I, F, G, ds, w, rel, rs, p⟩ => pts_nil.run pins s σ H Q J (p I F H .refl rel)⟩
theorem sQ (h : JT S c t) : XW S [c] t := fun X E cx xo => pts_one (h X E cx xo)
theorem DL {K : PySem.W.Frag} {E : XK} {vs : List Nat} {f : List D → W → Res D} {σ : L2.St} {H : Hp} {Q : VK} (h : p6 K E (fun σ w => (IJ mi vs g t me σ w).bind f) σ H Q)
  (fin : ∀ I F G w H q xs us, Rel K I F (upd G q (.lst us)) w H → G q = none → RepL K I F xs us → bE K I F G E (RV K Q) (f xs w) → Q (.ref q) H) :
  tLc (XO K E mi) (WR K E0 vs g) (O6 K E0 t) (p6 K E0 me) vs σ H Q := by
 obtain ⟨I, F, G, ds, w, rel, rs, p⟩ := h
 have p0 : bE K I F G E (RV K Q) ((mi ds w).bind fun it w1 => (if it.xs.length ≤ sizeLine then gU it vs g t me it.xs ds w1 else .bad).bind f) := by
  rw [← Res.bind_assoc]; exact p
 refine ⟨I, F, G, ds, w, rel, rs, (bE.bind p0).mono fun I1 F1 H1 it w1 _ e1 rel1 p1 hok J hJ q hq => ?_⟩
 have hG : G q = none := by
  cases h : G q with
  | none => rfl
  | some u => rw [rel1.gz _ _ h] at hq; cases hq
 split at p1
 ·rename_i hz
  refine ⟨fun i n H' => n = it.xs.length - i ∧ i ≤ it.xs.length ∧ ∃ I' F' w' xs us, Ext I1 F1 I' F' ∧ Rel K I' F' (upd G q (.lst us)) w' H' ∧ RepL K I' F' xs us ∧ xs.length ≤ i ∧
    bE K I' F' G E (RV K Q) ((gU it vs g t me (it.xs.drop i) ds w').bind fun ys w2 => f (xs ++ ys) w2),
   ⟨it.xs.length, by simp, Nat.zero_le _, I1, F1, w1, [], [], .refl, rel1.keep hq, by simp [RepL], ay _, by simpa using p1⟩, ?_⟩
  rintro i n H' ⟨rfl, hi, I', F', w', xs, us, e', rel', rx, hxi, p'⟩
  by_cases hlt : i < it.xs.length
  ·rw [List.drop_eq_getElem_cons hlt] at p'
   unfold gU at p'
   split at p'
   ·rename_i hw
    obtain ⟨h1, _⟩ := hJ I' F' _ w' H' i e' rel' hw
    obtain ⟨hgo, hy⟩ := h1 _ (av hlt)
    refine .inr ⟨hgo, fun H2 => ∃ I2 F2 w2 xs2 us2, Ext I1 F1 I2 F2 ∧ Rel K I2 F2 (upd G q (.lst us2)) w2 H2 ∧ RepL K I2 F2 xs2 us2 ∧ xs2.length ≤ i + 1 ∧ bE K I2 F2 G E (RV K Q) ((gU it vs g t me (it.xs.drop (i + 1)) ds w2).bind fun ys w2 => f (xs2 ++ ys) w2),
     fun H2 q => ⟨it.xs.length - (i + 1), by omega, rfl, hlt, q⟩, fun v H2 y => ?_⟩
    obtain ⟨F2, e2, rel2, rv⟩ := hy v H2 y
    have p2 := p'.ext e2
    rw [Res.bind_assoc] at p2
    -- from here on the list at q lies still
    have still : ∀ {α : Type} {R : List Addr → Hp → Hp → α → W → Prop} {r : Res α} {I3 : List Addr} {F3 : Hp}, bE K I3 F3 G E0 R r → bE K I3 F3 (upd G q (.lst us)) E0 (fun I' F' H' a w => Rel K I' F' (upd G q (.lst us)) w H' ∧ ∀ H'', Rel K I' F' G w H'' → R I' F' H'' a w) r := by
     intro α R r I3 F3 hp
     cases r with
     | ok a w => exact fun I' F' H' e q => ⟨q, fun H'' q' => hp I' F' H'' e q'⟩
     | AG x w =>
      intro I' F' H' c d e q rx
      exact hp I' F' H' c d e ⟨q.len, q.nd, q.ob, q.fz, q.ap, fun a u h => q.gz a u (by rw [upd_ne (ne_of_none h hG)]; exact h), fun a u h => q.gf a u (by rw [upd_ne (ne_of_none h hG)]; exact h), fun a xs h => q.gt a xs (by rw [upd_ne (ne_of_none h hG)]; exact h)⟩ rx
     | bad => exact hp
    have less : ∀ {I3 : List Addr} {F3 : Hp} {w3 : W} {H3 : Hp}, Rel K I3 F3 (upd G q (.lst us)) w3 H3 → Rel K I3 F3 G w3 H3 := fun {I3 F3 w3 H3} q => ⟨q.len, q.nd, q.ob, q.fz, q.ap, fun a u h => q.gz a u (by rw [upd_ne (ne_of_none h hG)]; exact h), fun a u h => q.gf a u (by rw [upd_ne (ne_of_none h hG)]; exact h), fun a xs h => q.gt a xs (by rw [upd_ne (ne_of_none h hG)]; exact h)⟩
    refine ⟨I', F2, upd G q (.lst us), _, dO ds vs, w', rel2, (((rs.ext e1).ext e').ext e2).wipe vs, rv, (still (bE.OA p2)).mono fun I3 F3 H3 s3 w3 _ e3 rel3 p3 σ3 rs3 ew => ⟨ew.trans LI, ?_⟩⟩
    have p3' := p3.2 H3 (less rel3)
    rw [Res.bind_assoc] at p3'
    refine ⟨I3, F3, upd G q (.lst us), s3, w3, rel3, rs3, (still (bE.OA p3')).mono fun I4 F4 H4 b w4 _ e4 rel4 p4 => ?_⟩
    have p4' := p4.2 H4 (less rel4)
    cases b with
    | true =>
     simp only [ae] at p4' ⊢
     rw [Res.bind_assoc] at p4'
     refine ⟨I4, F4, upd G q (.lst us), s3, w4, rel4, rs3.ext e4, (still (bE.OA p4')).mono fun I5 F5 H5 y w5 _ e5 rel5 p5 u ru => ?_⟩
     have p5' := p5.2 H5 (less rel5)
     rw [Res.bind_assoc] at p5'
     have ee : Ext I' F' I5 F5 := ((e2.trans e3).trans e4).trans e5
     refine ⟨us, rel5.gz _ _ upd_same, by rw [← rx.length]; omega, I5, F5, w5, xs ++ [y], us ++ [u], e'.trans ee, rel5.FN, (RepL.ext ee _ _ rx).append (RepL.cons ru (by simp [RepL])), by simp; omega, ?_⟩
     simpa using p5'
    | false =>
     simp only [br, aa] at p4' ⊢
     exact ⟨I4, F4, w4, xs, us, (e'.trans e2).trans (e3.trans e4), rel4, RepL.ext ((e2.trans e3).trans e4) _ _ rx, by omega, p4'⟩
   ·exact p'.elim
  ·have hl : i = it.xs.length := by omega
   subst hl
   rw [List.drop_length] at p'
   unfold gU at p'
   split at p'
   ·rename_i hw
    refine .inl ⟨(hJ I' F' _ w' H' _ e' rel' hw).2 rfl, fin I' F' G w' H' q xs us rel' hG rx ?_⟩
    simpa using p'
   ·exact p'.elim
 ·exact p1.elim
theorem IE {K : PySem.W.Frag} {E : XK} {Q : VK} (I : List Addr) (F G : Hp) (w : W) (H : Hp) (q : Addr) (xs : List D) (us : List V) (rel : Rel K I F (upd G q (.lst us)) w H) (hG : G q = none) (rx : RepL K I F xs us)
  (p : bE K I F G E (RV K Q) (.ok (.lst xs) w)) : Q (.ref q) H := by
 obtain ⟨e, rel2⟩ := rel.PQ hG
 exact p _ _ H e rel2 _ (by simp only [aG]; exact ⟨q, us, rfl, upd_same, RepL.ext e _ _ rx⟩)
theorem eT (hi : JI S tg iter mi) (hb : blkC S.N S.sc scope own = true) (hg : JC (S.blk scope) (own.map (·.2)) tg g) (ht : XW (S.blk scope) ifs t) (he : JE (S.blk scope) elt me)
  (hs : ∀ (env : Env) x, foldedSetIterable iter env x = pure x := by intro _ _; rfl) : JE S (.ListComp elt [⟨tg, iter, ifs, 0⟩] scope pos) (bR mi (own.map (·.2)) g t me) := fun X E cx xo =>
 cG (pe_lc (own := own) cx.calm cx.nd (hi X E cx xo) (blkOk_by (by rw [cx.N, cx.sc]; exact hb)) (fun s H C cl fp => hg _ E0 (pM cx s H scope C cl fp) (pP ..)) (fun s H C cl fp => ht _ E0 (pM cx s H scope C cl fp) (pP ..))
  (fun s H C cl fp => he _ E0 (pM cx s H scope C cl fp) (pP ..)) (hs X.env)) fun σ H Q h => DL h IE
theorem FO {i : Nat} {y : Str} {py spos : Pos} (hy : S.N[i]? = some y) (hyl : S.sc.names.lookup y = some .local) (hsw : ∀ env : Env, env.scope = S.sc → env.scope.kind = .function → swapsWith (.ListComp elt [⟨tg, iter, ifs, 0⟩] scope pos) (some (.Name y py)) spos.line env = pure true)
  (hi : JI S tg iter mi) (hb : blkC S.N S.sc scope own = true) (hg : JC (S.blk scope) (own.map (·.2)) tg g) (ht : XW (S.blk scope) ifs t) (he : JE (S.blk scope) elt me)
  (hk : S.sc.kind = .function) (hs : ∀ (env : Env) x, foldedSetIterable iter env x = pure x := by intro _ _; rfl) : JS S (.Assign [.Name y py] (.ListComp elt [⟨tg, iter, ifs, 0⟩] scope pos) spos) (aX (bR mi (own.map (·.2)) g t me) (a7 i)) := fun X E cx xo =>
 nH (ps_setLc (i := i) (own := own) cx.calm cx.nd (by rw [cx.N]; exact hy) (by rw [cx.sc]; exact hyl) (hsw X.env cx.sc (by rw [cx.sc]; exact hk)) (hi X E cx xo) (blkOk_by (by rw [cx.N, cx.sc]; exact hb)) (fun s H C cl fp => hg _ E0 (pM cx s H scope C cl fp) (pP ..)) (fun s H C cl fp => ht _ E0 (pM cx s H scope C cl fp) (pP ..))
  (fun s H C cl fp => he _ E0 (pM cx s H scope C cl fp) (pP ..)) (hs X.env)) fun Z σ H ⟨I, F, G, ds, w, rel, rs, p⟩ => by
  obtain ⟨I, F, G, ds, w, rel, rs, q⟩ : p6 X.K E (bR mi (own.map (·.2)) g t me) σ H (fun x H1 => gName i x σ H1 Z.nx) := b7 (f := fun ds d w1 => (a7 i d ds w1).bind fun σ2 w2 => Res.ok (Fl.nx σ2) w2) rel rs p fun I1 F1 H1 x w1 v e1 rel1 rs1 rv p1 => p1 I1 F1 H1 .refl rel1 _ (rs1.set i rv)
  exact DL (f := fun ys w1 => Res.ok (D.lst ys) w1) ⟨I, F, G, ds, w, rel, rs, q⟩ IE
end
def keyD : D → Option Key
 | .int i => some (.inl i)
 | .str x => some (.inr x)
 | _ => none
def sD : List D → Option (List Key)
 | [] => some []
 | d :: ds => match keyD d, sD ds with
  | some k, some ks => some (k :: ks)
  | _, _ => none
def fM {κ : Type} [DecidableEq κ] : List (κ × D) → κ → Option D
 | [], _ => none
 | (j, d) :: r, k => if j = k then some d else fM r k
def putD {κ : Type} [DecidableEq κ] (kvs : List (κ × D)) (k : κ) (d : D) : List (κ × D) :=
 if (fM kvs k).isSome then kvs.map (fun p => if p.1 = k then (p.1, d) else p) else kvs ++ [(k, d)]
section
variable {K : PySem.W.Frag} {I : List Addr} {F G H : Hp} {w : W} {κ : Type} [DecidableEq κ]
def DQ (K : PySem.W.Frag) (I : List Addr) (F : Hp) : Option D → Option V → Prop
 | some d, q => ∃ v, q = some v ∧ aG K I F d v
 | none, q => q = none
theorem aP.look : ∀ {kvs : List (κ × D)} {r : List (κ × V)} (k : κ), aP K I F kvs r → DQ K I F (fM kvs k) (valV r k)
 | [], r, k, h => by simp only [aP] at h; subst h; rfl
 | (j, d) :: kvs, r, k, h => by
  simp only [aP] at h
  obtain ⟨v, t, rfl, h1, h2⟩ := h
  simp only [fM]
  by_cases e : j = k
  ·rw [if_pos e]; exact ⟨v, by rw [valV_pos e], h1⟩
  ·rw [if_neg e]
   have := aP.look k h2
   rw [valV_neg (by exact e)]
   exact this
theorem aP.length : ∀ {kvs : List (κ × D)} {r : List (κ × V)}, aP K I F kvs r → kvs.length = r.length
 | [], r, h => by simp only [aP] at h; subst h; rfl
 | (j, d) :: kvs, r, h => by
  simp only [aP] at h
  obtain ⟨v, t, rfl, h1, h2⟩ := h
  simp [aP.length h2]
theorem aP.repl {d : D} {v : V} (k : κ) (hv : aG K I F d v) : ∀ {kvs : List (κ × D)} {r : List (κ × V)}, aP K I F kvs r → aP K I F (kvs.map (fun p => if p.1 = k then (p.1, d) else p)) (r.map (fun p => if p.1 = k then (p.1, v) else p))
 | [], r, h => by simp only [aP] at h; subst h; simp [aP]
 | (j, x) :: kvs, r, h => by
  simp only [aP] at h
  obtain ⟨u, t, rfl, h1, h2⟩ := h
  simp only [List.map_cons]
  by_cases e : j = k
  ·rw [if_pos e, if_pos e]; simp only [aP]; exact ⟨v, _, rfl, hv, aP.repl k hv h2⟩
  ·rw [if_neg e, if_neg e]; simp only [aP]; exact ⟨u, _, rfl, h1, aP.repl k hv h2⟩
theorem aP.snoc {d : D} {v : V} (k : κ) (hv : aG K I F d v) : ∀ {kvs : List (κ × D)} {r : List (κ × V)}, aP K I F kvs r → aP K I F (kvs ++ [(k, d)]) (r ++ [(k, v)])
 | [], r, h => by simp only [aP] at h; subst h; simp only [List.nil_append, aP]; exact ⟨v, [], rfl, hv, rfl⟩
 | (j, x) :: kvs, r, h => by
  simp only [aP] at h
  obtain ⟨u, t, rfl, h1, h2⟩ := h
  simp only [List.cons_append, aP]
  exact ⟨u, _, rfl, h1, aP.snoc k hv h2⟩
theorem RJ (r : List (κ × V)) (k : κ) (v : V) : putK r k v = if (valV r k).isSome then r.map (fun p => if p.1 = k then (p.1, v) else p) else r ++ [(k, v)] := by
 unfold putK
 rw [valV_any]
theorem aP.put {d : D} {v : V} (k : κ) (hv : aG K I F d v) {kvs : List (κ × D)} {r : List (κ × V)} (h : aP K I F kvs r) : aP K I F (putD kvs k d) (putK r k v) := by
 rw [RJ]
 unfold putD
 have hl := h.look k
 cases e : fM kvs k with
 | some x =>
  rw [e] at hl
  obtain ⟨u, hu, _⟩ := hl
  rw [hu]
  exact h.repl k hv
 | none =>
  rw [e] at hl
  rw [hl]
  exact h.snoc k hv
theorem oK {d : D} {v : V} {k : Key} (h : aG K I F d v) (e : keyD d = some k) : v = kV k := by
 cases d <;> simp only [keyD, af, reduceCtorEq] at e
 ·subst e; simp only [aG] at h; exact h
 ·subst e; simp only [aG] at h; exact h
theorem pT : ∀ {ds : List D} {vs : List V} {ks : List Key}, RepL K I F ds vs → sD ds = some ks → vs = ks.map kV
 | [], vs, ks, h, e => by simp only [sD, af] at e; subst e; simp only [RepL] at h; exact h
 | d :: ds, vs, ks, h, e => by
  simp only [RepL] at h
  obtain ⟨v, r, rfl, h1, h2⟩ := h
  simp only [sD] at e
  split at e
  ·rename_i k ks' e1 e2
   cases e
   rw [oK h1 e1, pT h2 e2]
   rfl
  ·cases e
theorem Rel.upd {i : Nat} {a : Addr} {o o' : MO} {u' : HO} (rel : Rel K I F G w H) (hi : I[i]? = some a) (ho : w[i]? = some o) (r : kT K I F o' u') (hf : o.fz = false := by rfl) : Rel K I F G (w.set i o') (upd H a u') := by
 have hF : F a = none := rel.ap i a o hi ho hf
 have hil : i < w.length := (aj.mp ho).1
 refine ⟨by simp [rel.len], rel.nd, fun j b q h1 h2 => ?_, fun b u h => ?_, fun j b q h1 h2 h3 => ?_, fun b u h => ?_, rel.gf, rel.gt⟩
 ·by_cases hj : i = j
  ·subst hj
   rw [bt hil] at h2
   cases h2
   rw [hi] at h1; cases h1
   exact ⟨u', upd_same, r⟩
  ·rw [au hj] at h2
   obtain ⟨u, h3, h4⟩ := rel.ob j b q h1 h2
   have hb : b ≠ a := fun z => by
    subst z
    obtain ⟨l1, e1⟩ := aj.mp hi
    obtain ⟨l2, e2⟩ := aj.mp h1
    exact hj ((List.getElem_inj rel.nd).mp (e1.trans e2.symm))
   exact ⟨u, by rw [upd_ne hb]; exact h3, h4⟩
 ·rw [upd_ne (ne_of_none h hF)]; exact rel.fz b u h
 ·by_cases hj : i = j
  ·subst hj
   rw [hi] at h1; cases h1; exact hF
  ·rw [au hj] at h2
   exact rel.ap j b q h1 h2 h3
 ·have hb : b ≠ a := fun z => (rel.gf b u h).2 (z ▸ bo hi)
  rw [upd_ne hb]; exact rel.gz b u h
end
theorem RepL.at' {K : PySem.W.Frag} {I : List Addr} {F : Hp} {ds : List D} {vs : List V} (r : RepL K I F ds vs) {i : Int} {d : D} (h : atI ds i = some d) : ∃ v, atI vs i = some v ∧ aG K I F d v := by
 unfold atI at h ⊢
 rw [← r.length]
 cases e : ixN ds.length i with
 | none => rw [e] at h; cases h
 | some j => rw [e] at h; exact r.get h
def lH (o : MO) (y : D) : Option (Option D) := match o, y with
 | .dK kvs, y => (keyD y).map (fM kvs)
 | .dF kvs, y => (keyD y).map (fM kvs)
 | .dT kvs, .tup ys => (sD ys).map (fM kvs)
 | .dG kvs, .tup ys => (sD ys).map (fM kvs)
 | _, _ => none
def LO (xs : List D) (y : D) (w : W) : Res D := match y with
 | .int i => (match atI xs i with
  | some d => .ok d w
  | none => .bad)
 | _ => .bad
def atS (z : Str) (y : D) (w : W) : Res D := match y with
 | .int i => if z.length ≤ sizeLine then (match atI z.cps.toList i with
   | some c => .ok (.str ⟨#[c]⟩) w
   | none => .bad) else .bad
 | _ => .bad
def a8 (x y : D) (w : W) : Res D := match x with
 | .tup xs => LO xs y w
 | .nX xs => LO xs y w
 | .lst xs => LO xs y w
 | .jR xs => LO xs y w
 | .str z => atS z y w
 | .ref r => (match w[r]? with
  | some (.lst xs) => LO xs y w
  | some o => (match lH o y with
   | some (some d) => .ok d w
   | _ => .bad)
  | none => .bad)
 | _ => .bad
theorem SM {X : Cx} (hu : X.A.units + 1 < cLine) : IxR X (fun x y H Q => ∃ a v, x = .ref a ∧ DGet H a y (some v) ∧ Q v H) := by
 intro value slice pins s σ H x y ov iv Q J rx ry h hs
 obtain ⟨a, v, ex, g, q⟩ := h
 subst ex
 cases rx
 have hT : s.TypeIs (.ref a) "dict" := dict_typeIs J g
 unfold subscriptTail
 apply wpAny_bind
 rw [getitemInPython_of_ne hT.not_modules]
 apply wpAny_bind
 apply wpAny_specialOf hT PySem.F.slot_dict_getitem.lookup
 have fin : wpAny (model X.prog X.w) X.A (subscripted slice false (.ref a) iv) (fun r s₃ => wpAny (model X.prog X.w) X.A (letTemporaryGo value (.ref a) r >>= fun _ => pure r) (EP X pins σ Q) X.xe s₃) X.xe s := by
  rw [hs]
  apply wpAny_operating
  exact d_getItem hu J g ry fun w' s3 J3 rw' => wpAny_bind (wpAny_letTemporaryGo (wpAny_pure ⟨v, H, J3, rw', q⟩))
 first
  | exact wpAny_pure (wpAny_bind fin)
  | exact wpAny_bind (wpAny_pure (wpAny_bind fin))
  | exact wpAny_bind fin
theorem J4 {K : PySem.W.Frag} {I : List Addr} {F G H : Hp} {w : W} (rel : Rel K I F G w H) {i : Nat} {a : Addr} {o : MO} {y : D} {v : V} {r : Option D} (hi : I[i]? = some a) (ho : w[i]? = some o) (ry : aG K I F y v) (e : lH o y = some r) :
  ∃ q, DGet H a v q ∧ DQ K I F r q := by
 obtain ⟨u, hu, ro⟩ := rel.ob i a o hi ho
 cases o with
 | lst => simp [lH] at e
 | ins => simp [lH] at e
 | dK kvs =>
  obtain ⟨t, rfl, rk⟩ := ro
  simp only [lH, ai] at e
  obtain ⟨k, ek, rfl⟩ := e
  exact ⟨valV t k, .inl ⟨t, k, .inl hu, oK ry ek, rfl⟩, rk.look k⟩
 | dF kvs =>
  obtain ⟨ob, t, rfl, rk⟩ := ro
  simp only [lH, ai] at e
  obtain ⟨k, ek, rfl⟩ := e
  exact ⟨valV t k, .inl ⟨t, k, .inr ⟨ob, hu⟩, oK ry ek, rfl⟩, rk.look k⟩
 | dT kvs =>
  obtain ⟨t, rfl, rk⟩ := ro
  cases y <;> simp only [lH, ai, reduceCtorEq] at e
  obtain ⟨k, ek, rfl⟩ := e
  simp only [aG] at ry
  obtain ⟨b, us, rfl, hb, rl⟩ := ry
  obtain rfl := pT rl ek
  exact ⟨valV t k, .inr ⟨t, k, b, .inl hu, rfl, rel.fz _ _ hb, rfl⟩, rk.look k⟩
 | dG kvs =>
  obtain ⟨ob, t, rfl, rk⟩ := ro
  cases y <;> simp only [lH, ai, reduceCtorEq] at e
  obtain ⟨k, ek, rfl⟩ := e
  simp only [aG] at ry
  obtain ⟨b, us, rfl, hb, rl⟩ := ry
  obtain rfl := pT rl ek
  exact ⟨valV t k, .inr ⟨t, k, b, .inr ⟨ob, hu⟩, rfl, rel.fz _ _ hb, rfl⟩, rk.look k⟩
def MD (S : aQ) (f : D → D → W → Res D) : Prop := ∀ X E, Ctx S X → nQ X E → IxR X (NX X.K E f)
section
variable {S : aQ} {pos : Pos} {a b : Expr} {ma mb : ME}
theorem E9 {f : D → D → W → Res D}
  (h : ∀ (X : Cx) (E : XK), Ctx S X → nQ X E → ∀ (I : List Addr) (F G : Hp) (d e : D) (w : W) (H : Hp) (x y : V) (Q : VK), Rel X.K I F G w H → aG X.K I F d x → aG X.K I F e y → bE X.K I F G E (RV X.K Q) (f d e w) →
   ∃ r : R2, IxR X r ∧ r x y H Q) : MD S f := fun X E c xo value slice pins s σ H x y v u Q J rx ry ⟨I, F, G, d, e, w, rel, rd, re, p⟩ hs => by
 obtain ⟨r, ho, hr⟩ := h X E c xo I F G d e w H x y Q rel rd re p
 exact ho value slice pins s σ H x y v u Q J rx ry hr hs
theorem xG {X : Cx} {E : XK} {I : List Addr} {F G : Hp} {e : D} {w : W} {H : Hp} {x y : V} {Q : VK} (rel : Rel X.K I F G w H) (re : aG X.K I F e y) {xs : List D} {vs : List V} {q : Addr} (h1 : SqL X.K H q vs ∨ SqT X.K H q vs) (h2 : RepL X.K I F xs vs) (ex : x = .ref q)
  (p : bE X.K I F G E (RV X.K Q) (LO xs e w)) : ∃ r : R2, IxR X r ∧ r x y H Q := by
 cases e <;> first | exact p.elim | skip
 rename_i i
 simp only [aG] at re
 simp only [LO] at p
 cases ha : atI xs i with
 | none => rw [ha] at p; exact p.elim
 | some d =>
  rw [ha] at p
  obtain ⟨v, hv, rv⟩ := h2.at' ha
  rcases h1 with h1 | h1
  ·exact ⟨_, ix_list, q, vs, i, v, ex, re, h1, hv, p.nO rel rv⟩
  ·exact ⟨_, ix_tup, q, vs, i, v, ex, re, h1, hv, p.nO rel rv⟩
theorem WN : MD S a8 := E9 fun X E c xo I F G d e w H x y Q rel rd re p => by
 cases d <;> first | exact p.elim | skip
 case str z =>
  cases e <;> first | exact p.elim | skip
  rename_i i
  simp only [aG] at rd re
  simp only [a8, atS] at p
  split at p
  ·rename_i hz
   split at p
   ·rename_i c hc
    exact ⟨_, ix_str, z, i, c, rd, re, hz, hc, p.nO rel (by simp [aG])⟩
   ·exact p.elim
  ·exact p.elim
 case tup xs =>
  simp only [aG] at rd
  obtain ⟨q, vs, ex, h1, h2⟩ := rd
  exact xG rel re (.inr (.of (rel.fz _ _ h1))) h2 ex p
 case nX xs =>
  simp only [aG] at rd
  obtain ⟨q, vs, ex, h1, h2⟩ := rd
  exact xG rel re (.inr (rel.EN h1)) h2 ex p
 case lst xs =>
  simp only [aG] at rd
  obtain ⟨q, vs, ex, h1, h2⟩ := rd
  exact xG rel re (.inl (.of (rel.fz _ _ h1))) h2 ex p
 case jR xs =>
  simp only [aG] at rd
  obtain ⟨q, vs, ex, h1, h2⟩ := rd
  exact xG rel re (.inl (rel.LQ h1)) h2 ex p
 case ref i =>
  simp only [aG] at rd
  obtain ⟨q, ex, h1⟩ := rd
  simp only [a8] at p
  split at p
  ·rename_i xs hw
   obtain ⟨u, hu, vs, rfl, h2⟩ := rel.ob i q _ h1 hw
   exact xG rel re (.inl (.of hu)) h2 ex p
  ·rename_i o hn hw
   split at p
   ·rename_i d hd
    obtain ⟨r, hr, u, rfl, ru⟩ := J4 rel h1 hw re hd
    exact ⟨_, SM (by have := c.room.units; omega), q, u, ex, hr, p.nO rel ru⟩
   ·exact p.elim
  ·exact p.elim
theorem cZ (ha : JE S a ma) (hb : JE S b mb) (hs : PlainIx b := by intro _ _; rfl) : JE S (.Subscript a b pos) (aE a8 ma mb) := fun X E c xo =>
 cG (pe_ix (WN X E c xo) (ha X E c xo) (hb X E c xo) hs) fun _ _ _ h => rT h
end
abbrev UM := Sg → W → Res (Option Int)
def c8 : UM := fun _ w => .ok none w
def cQ (m : ME) : UM := fun σ w => (m σ w).bind fun d w1 => match d with
 | .int i => .ok (some i) w1
 | _ => .bad
def RO (Q : Option Int → Hp → Prop) : List Addr → Hp → Hp → Option Int → W → Prop := fun _ _ H' o _ => Q o H'
def ZI (K : PySem.W.Frag) (E : XK) (m : UM) : TO := fun σ H Q => ∃ I F G ds w, Rel K I F G w H ∧ fC K I F ds σ ∧ bE K I F G E (RO Q) (m ds w)
def JO (S : aQ) (e : Option Expr) (m : UM) : Prop := ∀ X E, Ctx S X → nQ X E → PO X e (ZI X.K E m)
def cutD (xs : List D) (lo hi : Option Int) : List D := (xs.drop (HT.sIx xs.length 0 lo)).take (HT.sIx xs.length xs.length hi - HT.sIx xs.length 0 lo)
def kX (x : D) (lo hi : Option Int) (w : W) : Res D := match x with
 | .tup xs => .ok (.tup (cutD xs lo hi)) w
 | .str z => if z.length ≤ sizeLine then .ok (.str (cutS z lo hi)) w else .bad
 | .lst xs => .ok (.lst (cutD xs lo hi)) w
 | .jR xs => .ok (.lst (cutD xs lo hi)) w
 | .ref i => (match w[i]? with
  | some (.lst xs) => .ok (.lst (cutD xs lo hi)) w
  | _ => .bad)
 | _ => .bad
def nW (f : D → Option Int → Option Int → W → Res D) (a : ME) (lo hi : UM) : ME := fun σ w => (a σ w).bind fun x w1 => (lo σ w1).bind fun l w2 => (hi σ w2).bind fun u w3 => f x l u w3
theorem RepL.cutV {K : PySem.W.Frag} {I : List Addr} {F : Hp} {ds : List D} {vs : List V} (r : RepL K I F ds vs) (lo hi : Option Int) : RepL K I F (cutD ds lo hi) (L2.cutV vs lo hi) := by
 unfold cutD L2.cutV
 rw [← r.length]
 exact (r.drop _).take _
theorem LL {xs : List D} {lo hi : Option Int} (h : HT.sIx xs.length 0 lo = 0 ∧ HT.sIx xs.length xs.length hi = xs.length) : cutD xs lo hi = xs := by
 unfold cutD
 rw [h.1, h.2]
 simp
def SlM (S : aQ) (f : D → Option Int → Option Int → W → Res D) : Prop := ∀ X E, Ctx S X → nQ X E → ∀ (I : List Addr) (F G : Hp) (d : D) (w : W) (H : Hp) (x : V) (lo hi : Option Int) (Q : VK), Rel X.K I F G w H → aG X.K I F d x → bE X.K I F G E (RV X.K Q) (f d lo hi w) →
   ∃ r, SlR X r ∧ r x lo hi H Q
def YM (K : PySem.W.Frag) (E : XK) (f : D → Option Int → Option Int → W → Res D) : V → Option Int → Option Int → Hp → VK → Prop := fun x lo hi H Q => ∃ I F G d w, Rel K I F G w H ∧ aG K I F d x ∧ bE K I F G E (RV K Q) (f d lo hi w)
section
variable {S : aQ} {pos p2 : Pos} {a e : Expr} {ma m : ME} {lo hi : Option Expr} {ml mh : UM} {f : D → Option Int → Option Int → W → Res D}
theorem b9 : JO S none c8 := fun X E c xo => ⟨fun pins s σ H Q J ⟨I, F, G, ds, w, rel, rs, p⟩ => po_none.run pins s σ H Q J (p I F H .refl rel)⟩
theorem bV (h : JE S e m) : JO S (some e) (cQ m) := fun X E c xo => ⟨fun pins s σ H Q J ⟨I, F, G, ds, w, rel, rs, p⟩ => (po_some (h X E c xo)).run pins s σ H Q J
 (b7 (f := fun _ d w1 => match d with
  | .int i => Res.ok (some i) w1
  | _ => .bad) rel rs p fun I1 F1 H1 x w1 v e1 rel1 rs1 rv p1 => by
  cases x <;> first | exact p1.elim | skip
  simp only [aG] at rv
  exact ⟨_, rv, p1 I1 F1 H1 .refl rel1⟩)⟩
theorem dW : SlM S kX := fun X E c xo I F G d w H x lo hi Q rel rd p => by
 cases d <;> first | exact p.elim | skip
 case tup xs =>
  simp only [aG] at rd
  obtain ⟨q, vs, ex, h1, h2⟩ := rd
  refine ⟨_, sl_tupA, q, vs, ex, .of (rel.fz _ _ h1), fun hw => ?_, fun hw => ?_⟩
  ·rw [← h2.length] at hw
   refine p.nO rel ?_
   rw [LL hw]
   simp only [aG]
   exact ⟨q, vs, ex ▸ rfl, h1, h2⟩
  ·exact r5 rel (h2.cutV lo hi) p
 case str z =>
  simp only [aG] at rd
  simp only [kX] at p
  split at p
  ·rename_i hz
   exact ⟨_, sl_str, z, rd, hz, p.nO rel (by simp [aG])⟩
  ·exact p.elim
 case lst xs =>
  simp only [aG] at rd
  obtain ⟨q, vs, ex, h1, h2⟩ := rd
  exact ⟨_, sl_list, q, vs, ex, .of (rel.fz _ _ h1), iG rel (h2.cutV lo hi) p⟩
 case jR xs =>
  simp only [aG] at rd
  obtain ⟨q, vs, ex, h1, h2⟩ := rd
  exact ⟨_, sl_list, q, vs, ex, rel.LQ h1, iG rel (h2.cutV lo hi) p⟩
 case ref i =>
  simp only [aG] at rd
  obtain ⟨q, ex, h1⟩ := rd
  simp only [kX] at p
  split at p
  ·rename_i xs hw
   obtain ⟨u, hu, vs, rfl, h2⟩ := rel.ob i q _ h1 hw
   exact ⟨_, sl_list, q, vs, ex, .of hu, iG rel (h2.cutV lo hi) p⟩
  ·exact p.elim
theorem dY (hf : SlM S f) (ha : JE S a ma) (hl : JO S lo ml) (hh : JO S hi mh) : JE S (.Subscript a (.Slice lo hi none p2) pos) (nW f ma ml mh) := fun X E c xo => by
 have hr : SlR X (YM X.K E f) := fun pins s σ H x v vl vu l u sl Q J rx hs pl pu ⟨I, F, G, d, w, rel, rd, p⟩ => by
  obtain ⟨r, h1, h2⟩ := hf X E c xo I F G d w H x l u Q rel rd p
  exact h1 pins s σ H x v vl vu l u sl Q J rx hs pl pu h2
 refine cG (pe_slice hr (ha X E c xo) (hl X E c xo) (hh X E c xo)) fun σ H Q ⟨I, F, G, ds, w, rel, rs, p⟩ => ?_
 refine b7 (f := fun ds x w1 => (ml ds w1).bind fun l w2 => (mh ds w2).bind fun u w3 => f x l u w3) rel rs p fun I1 F1 H1 x w1 v e1 rel1 rs1 rv p1 => ?_
 refine ⟨I1, F1, G, ds, w1, rel1, rs1, (bE.bind p1).mono fun I2 F2 H2 l w2 _ e2 rel2 p2 => ?_⟩
 refine ⟨I2, F2, G, ds, w2, rel2, rs1.ext e2, (bE.bind p2).mono fun I3 F3 H3 u w3 _ e3 rel3 p3 => ?_⟩
 exact ⟨I3, F3, G, x, w3, rel3, aG.ext (e2.trans e3) _ _ rv, p3⟩
end
def setM (o i d : D) (w : W) : Res Unit := match o with
 | .ref r => (match w[r]? with
  | some (.lst xs) => (match i with
   | .int k => (match ixN xs.length k with
    | some j => .ok () (w.set r (.lst (xs.set j d)))
    | none => .bad)
   | _ => .bad)
  | some (.dK kvs) => (match keyD i with
   | some k => if kvs.length < sizeLine then .ok () (w.set r (.dK (putD kvs k d))) else .bad
   | none => .bad)
  | some (.dT kvs) => (match i with
   | .tup ys => (match sD ys with
    | some k => if kvs.length < sizeLine then .ok () (w.set r (.dT (putD kvs k d))) else .bad
    | none => .bad)
   | _ => .bad)
  | _ => .bad)
 | _ => .bad
def dC (mo mi : ME) : MG := fun d σ w => (mo σ w).bind fun o w1 => (mi σ w1).bind fun i w2 => (setM o i d w2).bind fun _ w3 => .ok σ w3
def UG (K : PySem.W.Frag) (E : XK) : TSet := fun o i v H Q => ∃ I F G x y d w, Rel K I F G w H ∧ aG K I F x o ∧ aG K I F y i ∧ aG K I F d v ∧ bE K I F G E (fun _ _ H' _ _ => Q H') (setM x y d w)
theorem UL {X : Cx} {E : XK} (hu : X.A.units + 1 < cLine) : PSet X (UG X.K E) := by
 intro pins s σ H o i v ov iv u Q J ro ri rv ⟨I, F, G, x, y, d, w, rel, rx, ry, rd, p⟩
 cases x <;> first | exact p.elim | skip
 rename_i r
 simp only [aG] at rx
 obtain ⟨a, rfl, h1⟩ := rx
 simp only [setM] at p
 split at p
 ·rename_i xs hw
  obtain ⟨t, hu', vs, rfl, h2⟩ := rel.ob r a _ h1 hw
  cases y <;> first | exact p.elim | skip
  rename_i k
  simp only [aG] at ry
  subst ry
  dsimp only at p
  split at p
  ·rename_i j hj
   exact set_list pins s σ H _ _ v ov iv u Q J ro ri rv ⟨a, vs, k, j, rfl, rfl, hu', by rw [← h2.length]; exact hj, p I F _ .refl (rel.upd h1 hw ⟨_, rfl, h2.set j rd⟩)⟩
  ·exact p.elim
 ·rename_i kvs hw
  obtain ⟨t, hu', vs, rfl, h2⟩ := rel.ob r a _ h1 hw
  split at p
  ·rename_i k hk
   split at p
   ·rename_i hl
    obtain rfl := oK ry hk
    cases ro
    exact d_setItem hu J (.inl ⟨vs, k, hu', rfl, by rw [← h2.length]; exact hl, rfl⟩) ri rv fun s' J' => ⟨_, J', p I F _ .refl (rel.upd h1 hw ⟨_, rfl, h2.put k rd⟩)⟩
   ·exact p.elim
  ·exact p.elim
 ·rename_i kvs hw
  obtain ⟨t, hu', vs, rfl, h2⟩ := rel.ob r a _ h1 hw
  cases y <;> first | exact p.elim | skip
  rename_i ys
  dsimp only at p
  split at p
  ·rename_i k hk
   split at p
   ·rename_i hl
    simp only [aG] at ry
    obtain ⟨b, us, rfl, hb, rl⟩ := ry
    obtain rfl := pT rl hk
    cases ro
    exact d_setItem hu J (.inr ⟨vs, k, b, hu', rfl, rel.fz _ _ hb, by rw [← h2.length]; exact hl, rfl⟩) ri rv fun s' J' => ⟨_, J', p I F _ .refl (rel.upd h1 hw ⟨_, rfl, h2.put k rd⟩)⟩
   ·exact p.elim
  ·exact p.elim
 ·exact p.elim
section
variable {S : aQ} {pos : Pos} {o i : Expr} {mo mi : ME}
theorem VE (ho : JE S o mo) (hi : JE S i mi)
  (ha : ∀ (env : Env) v, assign (.Subscript o i pos) env v = (do
   let ov ← holding [v] (eval o env)
   let iv ← holding [v, ov] (eval i env)
   standAt pos
   holding [v, ov, iv] (setItem ov iv v)
   release [v, ov, iv] []) := by intro _ _; rfl) : JG S (.Subscript o i pos) (dC mo mi) := fun X E c xo =>
 pK (pg_sub (ho X E c xo) (hi X E c xo) (UL (E := E) (by have := c.room.units; omega)) (ha X.env)) fun v σ H Q ⟨I, F, G, d, ds, w, rel, rs, rv, p⟩ => by
  refine b7 (f := fun ds x w1 => (mi ds w1).bind fun y w2 => (setM x y d w2).bind fun _ w3 => Res.ok ds w3) rel rs p fun I1 F1 H1 x w1 u e1 rel1 rs1 ru p1 => ?_
  refine b7 (f := fun ds y w2 => (setM x y d w2).bind fun _ w3 => Res.ok ds w3) rel1 rs1 p1 fun I2 F2 H2 y w2 t e2 rel2 rs2 rt p2 => ?_
  exact ⟨I2, F2, G, x, y, d, w2, rel2, aG.ext e2 _ _ ru, rt, aG.ext (e1.trans e2) _ _ rv, (bE.bind p2).mono fun I3 F3 H3 z w3 _ e3 rel3 p3 => p3 I3 F3 H3 .refl rel3 σ (rs2.ext e3)⟩
end
def XH (K : PySem.W.Frag) (E : XK) (m : MF) : List V → Hp → VK → Prop := fun vs H Q => ∃ I F G ds w, Rel K I F G w H ∧ RepL K I F ds vs ∧ bE K I F G E (RV K Q) (m ds w)
def CB (S : aQ) (f : Value) (m : MF) : Prop := ∀ X E, Ctx S X → nQ X E → CallR X f (XH X.K E m)
def aS (m : MF) (ma : MA) : ME := fun σ w => (ma σ w).bind fun xs w1 => m xs w1
section
variable {S : aQ} {m : MF} {x : Str} {p pos : Pos} {e : Expr} {es : List Expr} {ma : MA} {f : Value}
theorem uY (h : ∀ (X : Cx) (E : XK), Ctx S X → nQ X E → ∀ (I : List Addr) (F G : Hp) (ds : List D) (w : W) (H : Hp) (vs : List V) (Q : VK), Rel X.K I F G w H → RepL X.K I F ds vs → bE X.K I F G E (RV X.K Q) (m ds w) → ∃ r, CallR X f r ∧ r vs H Q) : CB S f m :=
 fun X E c xo pins s σ H vs us Q J r ⟨I, F, G, ds, w, rel, rl, p⟩ => by
  obtain ⟨r', h1, h2⟩ := h X E c xo I F G ds w H vs Q rel rl p
  exact h1 pins s σ H vs us Q J r h2
theorem IT {K : PySem.W.Frag} {E : XK} {σ : L2.St} {H : Hp} {Q : VK} (h : p6 K E (aS m ma) σ H Q) : tCB (XH K E m) (SD K E ma) σ H Q := by
 obtain ⟨I, F, G, ds, w, rel, rs, p⟩ := h
 exact eO (f := fun _ xs w1 => m xs w1) rel rs p fun I1 F1 H1 xs w1 vs e1 rel1 rs1 rvs p1 => ⟨I1, F1, G, xs, w1, rel1, rvs, p1⟩
theorem aO {id : String} (hc : CB S (.builtin id) m) (hg : S.sc.names.lookup x = some .globalImplicit) (hm : S.mg x = none) (hv : bootBuiltins x = some (.builtin id)) (ha : JA S (e :: es) ma) (hn : x ≠ "__name__" := by decide) (hdb : (x == ("__debug__" : Str)) = false := by decide)
  (he : ∀ env : Env, starEach (e :: es) env = (false, eval e env) :: starEach es env := by intro _; rfl) (hpl : ∀ env : Env, (backTo pos (starEach es env)).any (·.1) = false := by intro _; rfl) : JE S (.Call (.Name x p) (e :: es) [] pos) (aS m ma) := fun X E c xo =>
 cG (pe_callB (hc X E c xo) (by show X.env.scope.names.lookup x = _; rw [c.sc]; exact hg) (by rw [c.mg]; exact hm) hv (ha X E c xo) hn hdb (he X.env) (hpl X.env)) fun _ _ _ h => IT h
theorem gA {id : String} (hc : CB S (.type id) m) (hg : S.sc.names.lookup x = some .globalImplicit) (hm : S.mg x = none) (hv : bootBuiltins x = some (.type id)) (ha : JA S (e :: es) ma) (hn : x ≠ "__name__" := by decide) (hdb : (x == ("__debug__" : Str)) = false := by decide)
  (he : ∀ env : Env, starEach (e :: es) env = (false, eval e env) :: starEach es env := by intro _; rfl) (hpl : ∀ env : Env, (backTo pos (starEach es env)).any (·.1) = false := by intro _; rfl) : JE S (.Call (.Name x p) (e :: es) [] pos) (aS m ma) := fun X E c xo =>
 cG (pe_callTy (hc X E c xo) (by show X.env.scope.names.lookup x = _; rw [c.sc]; exact hg) (by rw [c.mg]; exact hm) hv (ha X E c xo) hn hdb (he X.env) (hpl X.env)) fun _ _ _ h => IT h
end
theorem RepL.one {K : PySem.W.Frag} {I : List Addr} {F : Hp} {d : D} {vs : List V} (h : RepL K I F [d] vs) : ∃ v, vs = [v] ∧ aG K I F d v := by
 simp only [RepL] at h
 obtain ⟨v, r, rfl, h1, rfl⟩ := h
 exact ⟨v, rfl, h1⟩
theorem RepL.two {K : PySem.W.Frag} {I : List Addr} {F : Hp} {d e : D} {vs : List V} (h : RepL K I F [d, e] vs) : ∃ v u, vs = [v, u] ∧ aG K I F d v ∧ aG K I F e u := by
 simp only [RepL] at h
 obtain ⟨v, r, rfl, h1, u, r2, rfl, h2, rfl⟩ := h
 exact ⟨v, u, rfl, h1, h2⟩
theorem rW {K : PySem.W.Frag} {I : List Addr} {F G H : Hp} {w : W} (rel : Rel K I F G w H) {d : D} {v : V} {xs : List D} (h : aG K I F d v) (e : d.items w = some xs) : ∃ a vs, v = .ref a ∧ (SqL K H a vs ∨ SqT K H a vs) ∧ RepL K I F xs vs := by
 cases d <;> simp only [D.items, af, reduceCtorEq] at e <;> simp only [aG] at h
 case tup => subst e; obtain ⟨a, vs, h0, h1, h2⟩ := h; exact ⟨a, vs, h0, .inr (.of (rel.fz _ _ h1)), h2⟩
 case nX => subst e; obtain ⟨a, vs, h0, h1, h2⟩ := h; exact ⟨a, vs, h0, .inr (rel.EN h1), h2⟩
 case lst => subst e; obtain ⟨a, vs, h0, h1, h2⟩ := h; exact ⟨a, vs, h0, .inl (.of (rel.fz _ _ h1)), h2⟩
 case jR => subst e; obtain ⟨a, vs, h0, h1, h2⟩ := h; exact ⟨a, vs, h0, .inl (rel.LQ h1), h2⟩
 case ref i =>
  split at e
  ·rename_i ys hw
   cases e
   obtain ⟨a, h0, h1⟩ := h
   obtain ⟨u, hu, vs, rfl, h2⟩ := rel.ob i a _ h1 hw
   exact ⟨a, vs, h0, .inl (.of hu), h2⟩
  ·cases e
def BZ (d : D) (w : W) : Option Nat := match d with
 | .str z => if z.length ≤ sizeLine then some z.length else none
 | .ref i => (match w[i]? with
  | some (.lst xs) => some xs.length
  | some (.dK kvs) => some kvs.length
  | _ => none)
 | d => (d.items w).map List.length
def dI : MF := fun ds w => match ds with
 | [d] => (match BZ d w with
  | some n => .ok (.int n) w
  | none => .bad)
 | _ => .bad
def iT : List D → Option (List Int)
 | [] => some []
 | .int i :: r => (iT r).map (i :: ·)
 | _ :: _ => none
theorem mJ {K : PySem.W.Frag} {I : List Addr} {F : Hp} : ∀ {ds : List D} {vs : List V} {ns : List Int}, RepL K I F ds vs → iT ds = some ns → vs = ns.map V.int
 | [], vs, ns, h, e => by simp only [iT, af] at e; subst e; simp only [RepL] at h; exact h
 | d :: ds, vs, ns, h, e => by
  cases d <;> simp only [iT, ai, reduceCtorEq] at e
  obtain ⟨r, e1, rfl⟩ := e
  simp only [RepL, aG] at h
  obtain ⟨v, t, rfl, rfl, h2⟩ := h
  rw [mJ h2 e1]
  rfl
def r4 (d : D) (w : W) : Option (List D) := match d with
 | .lst xs => some xs
 | .jR xs => some xs
 | .ref i => (match w[i]? with
  | some (.lst xs) => some xs
  | _ => none)
 | _ => none
def qT (d : D) : Option (List D) := match d with
 | .tup xs => some xs
 | .nX xs => some xs
 | _ => none
theorem BD {K : PySem.W.Frag} {I : List Addr} {F G H : Hp} {w : W} (rel : Rel K I F G w H) {d : D} {v : V} {xs : List D} (h : aG K I F d v) (e : r4 d w = some xs) : ∃ a vs, v = .ref a ∧ SqL K H a vs ∧ RepL K I F xs vs := by
 cases d <;> simp only [r4, af, reduceCtorEq] at e <;> simp only [aG] at h
 case lst => subst e; obtain ⟨a, vs, h0, h1, h2⟩ := h; exact ⟨a, vs, h0, .of (rel.fz _ _ h1), h2⟩
 case jR => subst e; obtain ⟨a, vs, h0, h1, h2⟩ := h; exact ⟨a, vs, h0, rel.LQ h1, h2⟩
 case ref i =>
  split at e
  ·rename_i ys hw
   cases e
   obtain ⟨a, h0, h1⟩ := h
   obtain ⟨u, hu, vs, rfl, h2⟩ := rel.ob i a _ h1 hw
   exact ⟨a, vs, h0, .of hu, h2⟩
  ·cases e
theorem O9 {K : PySem.W.Frag} {I : List Addr} {F G H : Hp} {w : W} (rel : Rel K I F G w H) {d : D} {v : V} {xs : List D} (h : aG K I F d v) (e : qT d = some xs) : ∃ a vs, v = .ref a ∧ SqT K H a vs ∧ RepL K I F xs vs := by
 cases d <;> simp only [qT, af, reduceCtorEq] at e <;> simp only [aG] at h
 case tup => subst e; obtain ⟨a, vs, h0, h1, h2⟩ := h; exact ⟨a, vs, h0, .of (rel.fz _ _ h1), h2⟩
 case nX => subst e; obtain ⟨a, vs, h0, h1, h2⟩ := h; exact ⟨a, vs, h0, rel.EN h1, h2⟩
def EY : MF := fun ds w => match ds with
 | [d] => (match (r4 d w).bind iT with
  | some ns => .ok (.int ns.sum) w
  | none => .bad)
 | _ => .bad
def xN : MF := fun ds w => match ds with
 | [d] => (match d.items w with
  | some xs => .ok (.lst xs) w
  | none => .bad)
 | _ => .bad
def yP : MF := fun ds w => match ds with
 | [d] => (match d.items w with
  | some xs => .ok (.ref w.length) (w ++ [.lst xs])
  | none => .bad)
 | _ => .bad
def dM : MF := fun ds w => match ds with
 | [.tup xs] => .ok (.tup xs) w
 | [d] => (match r4 d w with
  | some xs => .ok (.tup xs) w
  | none => .bad)
 | _ => .bad
def YF (d : D) (w : W) : Option Str := match d.py w with
 | some p => if p.showable = true ∧ p.hasDict = false ∧ p.depth ≤ 60 ∧ p.shown.length ≤ sizeLine then some p.shown else none
 | none => none
def JV : MF := fun ds w => match ds with
 | [d] => (match YF d w with
  | some z => .ok (.str z) w
  | none => .bad)
 | _ => .bad
def K6 : MF := fun ds w => match ds with
 | [.int i] => .ok (.int i) w
 | [.bl b] => .ok (.int (if b then 1 else 0)) w
 | _ => .bad
def max2 : MF := fun ds w => match ds with
 | [.int i, .int j] => .ok (.int (if j > i then j else i)) w
 | _ => .bad
def min2 : MF := fun ds w => match ds with
 | [.int i, .int j] => .ok (.int (if j < i then j else i)) w
 | _ => .bad
section
variable {S : aQ}
theorem dQ : CB S (.builtin "len") dI := uY fun X E c xo I F G ds w H vs Q rel rl p => by
 unfold dI at p
 split at p
 ·rename_i d
  obtain ⟨v, rfl, rv⟩ := rl.one
  split at p
  ·rename_i n hn
   have go : ∀ {xs : List D}, d.items w = some xs → n = xs.length → ∃ r, CallR X (.builtin "len") r ∧ r [v] H Q := fun {xs} h1 h2 => by
    obtain ⟨a, us, rfl, hq, hr⟩ := rW rel rv h1
    refine ⟨_, call_len, .ref a, n, rfl, ?_, p.nO rel (by simp [aG])⟩
    rw [h2, hr.length]
    rcases hq with hq | hq
    ·exact .inl ⟨us, hq, rfl⟩
    ·exact .inr ⟨us, hq, rfl⟩
   cases d <;> simp only [BZ, D.items, Option.map_some, Option.map_none, af, reduceCtorEq] at hn
   case str z =>
    split at hn
    ·rename_i hz
     cases hn
     simp only [aG] at rv
     subst rv
     exact ⟨_, call_len, .str z, z.length, rfl, ⟨hz, rfl⟩, p.nO rel (by simp [aG])⟩
    ·cases hn
   case tup => exact go (by simp [D.items]) hn.symm
   case nX => exact go (by simp [D.items]) hn.symm
   case lst => exact go (by simp [D.items]) hn.symm
   case jR => exact go (by simp [D.items]) hn.symm
   case ref i =>
    split at hn
    ·rename_i xs hw
     exact go (by simp [D.items, hw]) (Option.some.inj hn).symm
    ·rename_i kvs hw
     cases hn
     simp only [aG] at rv
     obtain ⟨a, rfl, h1⟩ := rv
     obtain ⟨u, hu, us, rfl, h2⟩ := rel.ob i a _ h1 hw
     exact ⟨_, call_lenD, a, us, rfl, hu, p.nO rel (by simp [aG, h2.length])⟩
    ·cases hn
  ·exact p.elim
 ·exact p.elim
theorem UJ : CB S (.builtin "sum") EY := uY fun X E c xo I F G ds w H vs Q rel rl p => by
 unfold EY at p
 split at p
 ·rename_i d
  obtain ⟨v, rfl, rv⟩ := rl.one
  split at p
  ·rename_i ns hn
   obtain ⟨xs, h1, h2⟩ := cb.mp hn
   obtain ⟨a, us, rfl, hq, hr⟩ := BD rel rv h1
   obtain rfl := mJ hr h2
   exact ⟨_, cr_sum c.calm, a, ns, rfl, hq, p.nO rel (by simp [aG])⟩
  ·exact p.elim
 ·exact p.elim
theorem IS : CB S (.type "list") xN := uY fun X E c xo I F G ds w H vs Q rel rl p => by
 unfold xN at p
 split at p
 ·rename_i d
  obtain ⟨v, rfl, rv⟩ := rl.one
  split at p
  ·rename_i xs hn
   obtain ⟨a, us, rfl, hq, hr⟩ := rW rel rv hn
   exact ⟨_, call_list_of, a, us, rfl, hq, iG rel hr p⟩
  ·exact p.elim
 ·exact p.elim
theorem NP : CB S (.type "list") yP := uY fun X E c xo I F G ds w H vs Q rel rl p => by
 unfold yP at p
 split at p
 ·rename_i d
  obtain ⟨v, rfl, rv⟩ := rl.one
  split at p
  ·rename_i xs hn
   obtain ⟨a, us, rfl, hq, hr⟩ := rW rel rv hn
   exact ⟨_, call_list_of, a, us, rfl, hq, BP (o := .lst xs) rel ⟨us, rfl, hr⟩ p⟩
  ·exact p.elim
 ·exact p.elim
theorem mI : CB S (.type "tuple") dM := uY fun X E c xo I F G ds w H vs Q rel rl p => by
 unfold dM at p
 split at p
 ·rename_i xs
  obtain ⟨v, rfl, rv⟩ := rl.one
  have rv' := rv
  simp only [aG] at rv'
  obtain ⟨a, us, rfl, h1, h2⟩ := rv'
  exact ⟨_, call_tuple_of, a, us, rfl, .inr ⟨.of (rel.fz _ _ h1), p.nO rel rv⟩⟩
 ·rename_i d _
  obtain ⟨v, rfl, rv⟩ := rl.one
  split at p
  ·rename_i xs hn
   obtain ⟨a, us, rfl, hq, hr⟩ := BD rel rv hn
   exact ⟨_, call_tuple_of, a, us, rfl, .inl ⟨hq, r5 rel hr p⟩⟩
  ·exact p.elim
 ·exact p.elim
end
abbrev PY := D → List D → W → Res D
def ZO (K : PySem.W.Frag) (E : XK) (m : PY) : V → List V → Hp → VK → Prop := fun x vs H Q => ∃ I F G d ds w, Rel K I F G w H ∧ aG K I F d x ∧ RepL K I F ds vs ∧ bE K I F G E (RV K Q) (m d ds w)
def MB (S : aQ) (id : String) (m : PY) : Prop := ∀ X E, Ctx S X → nQ X E → MtR X id (ZO X.K E m)
def M7 (d : D) (w : W) : Option String := match d with
 | .str _ => some "str"
 | .lst _ => some "list"
 | .jR _ => some "list"
 | .ref i => (match w[i]? with
  | some (.lst _) => some "list"
  | some (.dK _) => some "dict"
  | some (.dT _) => some "dict"
  | some (.dG _) => some "dict"
  | _ => none)
 | _ => none
def T3 (K : PySem.W.Frag) (T : String) (x : V) (H : Hp) : Prop := tyV K T x H ∨ (T = "dict" ∧ ∃ p o kvs, x = .ref p ∧ H p = some (.frz o (.dT kvs)))
theorem Q1 {X : Cx} {pins : List (Addr × Obj)} {σ : L2.St} {H : Hp} {s : Shared} {T : String} {x : V} {v : Value} (I : Inv X pins σ H s) (r : RelV x v) (ty : T3 X.K T x H) :
  s.TypeIs v T ∧ ∀ a, v = .ref a → ∃ ob, s.heap.get? a = some ob ∧ ob.dict = none := by
 rcases ty with ty | ⟨rfl, p, o, kvs, rfl, hp⟩
 ·exact tyV_is I r ty
 ·cases r
  obtain ⟨_, hgd, ex, _⟩ := I.frzT hp
  exact ⟨⟨o, hgd, ex.1⟩, fun a e => by cases e; exact ⟨o, hgd, ex.2.1⟩⟩
def Z5 (K : PySem.W.Frag) (T : String) (r : V → List V → Hp → VK → Prop) (to : TE) (t : TA) : TE := fun σ H Q => to σ H fun x H1 => T3 K T x H1 ∧ t σ H1 fun xs H2 => r x xs H2 Q
section
variable {X : Cx} {o e : Expr} {es : List Expr} {to : TE} {t : TA} {name : Str} {apos cpos : Pos} {T id : String} {r : V → List V → Hp → VK → Prop}
theorem VX (pa : PlainAttrs T) (slot : Slot T name id) (hty : typeOf (.builtin id) = pure (.type "method_descriptor")) (hm : MtR X id r) (ho : PE X o to) (ha : PA X (e :: es) t)
  (hbase : attributeBase o name X.env (eval o X.env) = eval o X.env := by rfl)
  (hfew : ((backTo cpos (starEach (e :: es) X.env)).all (fun x => !x.1) && (backToKw cpos (keywordEach [] X.env)).all (fun x => x.1.isSome)
   && decide ((e :: es).length + ([] : List Keyword).length + (if ([] : List Keyword).isEmpty then 0 else 1) < 30)) = true := by rfl)
  (hline : (apos.endLine == cpos.line) = true := by rfl) (hs : starEach (e :: es) X.env = (false, eval e X.env) :: starEach es X.env := by rfl) (hplain : (backTo cpos (starEach es X.env)).any (·.1) = false := by rfl) :
  PE X (.Call (.Attribute o name apos) (e :: es) [] cpos) (Z5 X.K T r to t) := by
 refine ⟨fun pins s σ H Q I h => ?_⟩
 refine wpAny_Call_method_late hbase hfew hline rfl (thn (ho.run pins s σ H _ I h) fun v s1 ⟨x, H1, I1, r1, ty, q1⟩ => ?_)
 obtain ⟨h1, h2⟩ := Q1 I1 r1 ty
 refine ⟨T, id, pa, slot, hty, h1, h2, ?_⟩
 have hA := ha.run cpos pins s1 σ H1 _ I1 q1
 rw [hs] at hA ⊢
 refine Calls.callWith_builtin (by show (false || (backTo cpos (starEach es X.env)).any (·.1)) = false; rw [hplain] <;> rfl) (Calls.evalArgs_plain ?_)
 exact thn hA fun us s2 ⟨vs, H2, I2, r2, q2⟩ => hm pins s2 σ H2 x vs v us Q I2 r1 r2 q2
end
theorem VC {K : PySem.W.Frag} {I : List Addr} {F G H : Hp} {w : W} (rel : Rel K I F G w H) {d : D} {v : V} (h : aG K I F d v) {T : String} (e : M7 d w = some T) : T3 K T v H := by
 cases d <;> simp only [M7, af, reduceCtorEq] at e <;> simp only [aG] at h
 case str => subst h; exact .inl e.symm
 case lst => obtain ⟨a, vs, rfl, h1, h2⟩ := h; exact .inl (.inl ⟨e.symm, vs, .of (rel.fz _ _ h1)⟩)
 case jR => obtain ⟨a, vs, rfl, h1, h2⟩ := h; exact .inl (.inl ⟨e.symm, vs, rel.LQ h1⟩)
 case ref i =>
  obtain ⟨a, rfl, h1⟩ := h
  split at e
  ·rename_i xs hw
   cases e
   obtain ⟨u, hu, vs, rfl, _⟩ := rel.ob i a _ h1 hw
   exact .inl (.inl ⟨rfl, vs, .of hu⟩)
  ·rename_i xs hw
   cases e
   obtain ⟨u, hu, vs, rfl, _⟩ := rel.ob i a _ h1 hw
   exact .inl (.inr (.inr (.inl ⟨rfl, .inl ⟨vs, hu⟩⟩)))
  ·rename_i xs hw
   cases e
   obtain ⟨u, hu, vs, rfl, _⟩ := rel.ob i a _ h1 hw
   exact .inl (.inr (.inr (.inl ⟨rfl, .inr ⟨vs, hu⟩⟩)))
  ·rename_i xs hw
   cases e
   obtain ⟨u, hu, ob, vs, rfl, _⟩ := rel.ob i a _ h1 hw
   exact .inr ⟨rfl, a, ob, vs, rfl, hu⟩
  ·cases e
def c5 (T : String) (m : PY) (mo : ME) (ma : MA) : ME := fun σ w => (mo σ w).bind fun d w1 => if M7 d w1 = some T then (ma σ w1).bind fun xs w2 => m d xs w2 else .bad
section
variable {S : aQ} {m : PY} {o e : Expr} {es : List Expr} {mo : ME} {ma : MA} {name : Str} {apos cpos : Pos} {T id : String}
theorem pL (pa : PlainAttrs T) (slot : Slot T name id) (hm : MB S id m) (ho : JE S o mo) (ha : JA S (e :: es) ma) (hty : typeOf (.builtin id) = pure (.type "method_descriptor") := by rfl)
  (hbase : ∀ env : Env, attributeBase o name env (eval o env) = eval o env := by intro _; rfl)
  (hfew : ∀ env : Env, ((backTo cpos (starEach (e :: es) env)).all (fun x => !x.1) && (backToKw cpos (keywordEach [] env)).all (fun x => x.1.isSome)
   && decide ((e :: es).length + ([] : List Keyword).length + (if ([] : List Keyword).isEmpty then 0 else 1) < 30)) = true := by intro _; rfl)
  (hline : (apos.endLine == cpos.line) = true := by rfl) (hs : ∀ env : Env, starEach (e :: es) env = (false, eval e env) :: starEach es env := by intro _; rfl) (hplain : ∀ env : Env, (backTo cpos (starEach es env)).any (·.1) = false := by intro _; rfl) :
  JE S (.Call (.Attribute o name apos) (e :: es) [] cpos) (c5 T m mo ma) := fun X E c xo =>
 cG (VX pa slot hty (hm X E c xo) (ho X E c xo) (ha X E c xo) (hbase X.env) (hfew X.env) hline (hs X.env) (hplain X.env)) fun σ H Q ⟨I, F, G, ds, w, rel, rs, p⟩ =>
  b7 (f := fun ds d w1 => if M7 d w1 = some T then (ma ds w1).bind fun xs w2 => m d xs w2 else .bad) rel rs p fun I1 F1 H1 d w1 v e1 rel1 rs1 rv p1 => by
   split at p1
   ·rename_i ht
    refine ⟨VC rel1 rv ht, ?_⟩
    exact eO (f := fun _ xs w2 => m d xs w2) rel1 rs1 p1 fun I2 F2 H2 xs w2 vs e2 rel2 rs2 rvs p2 => ⟨I2, F2, G, d, xs, w2, rel2, aG.ext e2 _ _ rv, rvs, p2⟩
   ·exact p1.elim
theorem J0 {id : String} (h : ∀ (X : Cx) (E : XK), Ctx S X → nQ X E → ∀ (I : List Addr) (F G : Hp) (d : D) (ds : List D) (w : W) (H : Hp) (x : V) (vs : List V) (Q : VK), Rel X.K I F G w H → aG X.K I F d x → RepL X.K I F ds vs → bE X.K I F G E (RV X.K Q) (m d ds w) →
  ∃ r, MtR X id r ∧ r x vs H Q) : MB S id m := fun X E c xo pins s σ H x vs v us Q J rx rv ⟨I, F, G, d, ds, w, rel, rd, rl, p⟩ => by
 obtain ⟨r', h1, h2⟩ := h X E c xo I F G d ds w H x vs Q rel rd rl p
 exact h1 pins s σ H x vs v us Q J rx rv h2
end
def cU : PY := fun d ds w => match d, ds with
 | .ref i, [y] => (match w[i]? with
  | some (.lst xs) => if xs.length < sizeLine then .ok .non (w.set i (.lst (xs ++ [y]))) else .bad
  | _ => .bad)
 | _, _ => .bad
def tT : PY := fun d ds w => match d, ds with
 | .ref i, [.int n] => (match w[i]? with
  | some (.lst xs) => if -(2 ^ 63) ≤ n ∧ n < 2 ^ 63 then (match seqIndex? n xs.length with
   | some k => (match xs[k]? with
    | some y => .ok y (w.set i (.lst (xs.eraseIdx k)))
    | none => .bad)
   | none => .bad) else .bad
  | _ => .bad)
 | _, _ => .bad
section
variable {K : PySem.W.Frag} {I : List Addr} {F : Hp}
theorem RepL.dropLast {ds : List D} {vs : List V} (r : RepL K I F ds vs) : RepL K I F ds.dropLast vs.dropLast := by
 rw [List.dropLast_eq_take, List.dropLast_eq_take, ← r.length]
 exact r.take _
theorem RepL.eraseIdx {ds : List D} {vs : List V} (r : RepL K I F ds vs) (i : Nat) : RepL K I F (ds.eraseIdx i) (vs.eraseIdx i) := by
 rw [List.eraseIdx_eq_take_drop_succ, List.eraseIdx_eq_take_drop_succ]
 exact (r.take _).append (r.drop _)
theorem RepL.reverse : ∀ {ds : List D} {vs : List V}, RepL K I F ds vs → RepL K I F ds.reverse vs.reverse
 | [], vs, h => by simp only [RepL] at h; subst h; simp [RepL]
 | d :: ds, vs, h => by
  simp only [RepL] at h
  obtain ⟨v, r, rfl, h2, h3⟩ := h
  rw [List.reverse_cons, List.reverse_cons]
  exact h3.reverse.append (RepL.cons h2 (by simp [RepL]))
end
section
variable {S : aQ}
theorem AF : MB S "list.append" cU := J0 fun X E c xo I F G d ds w H x vs Q rel rd rl p => by
 unfold cU at p
 split at p
 ·rename_i i y
  simp only [aG] at rd
  obtain ⟨a, rfl, hi⟩ := rd
  obtain ⟨v, rfl, rv⟩ := rl.one
  split at p
  ·rename_i xs hw
   obtain ⟨u, hu, us, rfl, hr⟩ := rel.ob i a _ hi hw
   split at p
   ·rename_i hl
    exact ⟨_, mt_append, a, us, v, rfl, rfl, hu, by rw [← hr.length]; exact hl, p.nO (rel.upd hi hw ⟨_, rfl, hr.append (RepL.cons rv (by simp [RepL]))⟩) (by simp [aG])⟩
   ·exact p.elim
  ·exact p.elim
 ·exact p.elim
theorem LU : MB S "list.pop" tT := J0 fun X E c xo I F G d ds w H x vs Q rel rd rl p => by
 unfold tT at p
 split at p
 ·rename_i i n
  simp only [aG] at rd
  obtain ⟨a, rfl, hi⟩ := rd
  obtain ⟨t, rfl, rt⟩ := rl.one
  simp only [aG] at rt
  subst rt
  split at p
  ·rename_i xs hw
   obtain ⟨u, hu, us, rfl, hr⟩ := rel.ob i a _ hi hw
   split at p
   ·rename_i hn
    split at p
    ·rename_i k hk
     split at p
     ·rename_i y hy
      obtain ⟨v, hv, rv⟩ := hr.get hy
      exact ⟨_, mt_popAt, a, us, n, k, v, rfl, rfl, hu, hn.1, hn.2, by rw [← hr.length]; exact hk, hv, p.nO (rel.upd hi hw ⟨_, rfl, hr.eraseIdx k⟩) rv⟩
     ·exact p.elim
    ·exact p.elim
   ·exact p.elim
  ·exact p.elim
 ·exact p.elim
end
def PV (x y : D) (w : W) : Option Bool := match x.py w, y.py w with
 | some p, some (.list qs) => if SeqAt.shaped p = true ∧ SeqAt.shaped (.list qs) = true then some (qs.any fun z => PyData.eqv z p) else none
 | some p, some (.tuple qs) => if SeqAt.shaped p = true ∧ SeqAt.shaped (.tuple qs) = true then some (qs.any fun z => PyData.eqv z p) else none
 | _, _ => none
def inD (x y : D) (w : W) : Option Bool := match y with
 | .ref i => (match w[i]? with
  | some (.dK kvs) => (lH (.dK kvs) x).map Option.isSome
  | some (.dT kvs) => (lH (.dT kvs) x).map Option.isSome
  | _ => PV x y w)
 | y => PV x y w
def L1 (x y : D) (w : W) : Res D := match inD x y w with
 | some b => .ok (.bl b) w
 | none => .bad
def N4 (x y : D) (w : W) : Res D := match inD x y w with
 | some b => .ok (.bl (!b)) w
 | none => .bad
theorem DQ.isSome {K : PySem.W.Frag} {I : List Addr} {F : Hp} {d : Option D} {q : Option V} (h : DQ K I F d q) : q.isSome = d.isSome := by
 cases d with
 | none => rw [show q = none from h]; rfl
 | some d => obtain ⟨v, rfl, _⟩ := h; rfl
open PySem.W (EachIs AllAlike Sortable alike dataLe)
def W6 (w : W) (d : D) : PyData := (d.py w).getD .none
def NY : PyData → Bool
 | .tuple (_ :: _) => true
 | _ => false
def JF : PyData → Bool
 | .none => false
 | .tuple _ => false
 | _ => true
def l9 (ps : List PyData) : Bool := (ps.all fun p => ps.all fun q => alike p q) && (ps.all NY || ps.all JF) && ps.all fun p => decide (p.depth ≤ 60)
theorem l9.h1 {ps : List PyData} (h : l9 ps = true) : AllAlike ps := by
 simp only [l9, ag, ak] at h
 exact fun d hd e he => h.1.1 d hd e he
theorem l9.h2 {ps : List PyData} (h : l9 ps = true) : Sortable ps := by
 simp only [l9, ag, Bool.or_eq_true, ak] at h
 rcases h.1.2 with h | h
 ·refine .inl fun d hd => ?_
  have := h d hd
  unfold NY at this
  split at this
  ·exact ⟨_, _, rfl⟩
  ·cases this
 ·refine .inr fun d hd => ?_
  have := h d hd
  unfold JF at this
  split at this
  ·cases this
  ·cases this
  ·rename_i n1 n2
   exact ⟨n1, fun xs z => n2 xs z⟩
theorem l9.h3 {ps : List PyData} (h : l9 ps = true) : ∀ p ∈ ps, p.depth ≤ 60 := by
 simp only [l9, ag, ak, ah] at h
 exact h.2
def WZ (xs : List D) (w : W) : Option (List D) := if xs.all (fun d => (d.py w).isSome) = true ∧ l9 (xs.map (W6 w)) = true ∧ xs.length ≤ sizeLine then some (xs.mergeSort (dataLe false (W6 w))) else none
def JB : MF := fun ds w => match ds with
 | [d] => (match (r4 d w).bind fun xs => WZ xs w with
  | some ys => .ok (.lst ys) w
  | none => .bad)
 | _ => .bad
def wJ (f : Str) (v : D) : List (Str × D) → List (Str × D)
 | [] => [(f, v)]
 | (g, x) :: r => if g = f then (g, v) :: r else (g, x) :: wJ f v r
theorem aP.lookup {K : PySem.W.Frag} {I : List Addr} {F : Hp} {κ : Type} [BEq κ] (k : κ) : ∀ {kvs : List (κ × D)} {r : List (κ × V)}, aP K I F kvs r → DQ K I F (kvs.lookup k) (r.lookup k)
 | [], r, h => by simp only [aP] at h; subst h; rfl
 | (j, d) :: kvs, r, h => by
  simp only [aP] at h
  obtain ⟨v, t, rfl, h1, h2⟩ := h
  simp only [List.lookup]
  cases e : (k == j) with
  | true => exact ⟨v, rfl, h1⟩
  | false => exact aP.lookup k h2
theorem aP.wJ {K : PySem.W.Frag} {I : List Addr} {F : Hp} (f : Str) {d : D} {v : V} (hv : aG K I F d v) : ∀ {kvs : List (Str × D)} {r : List (Str × V)}, aP K I F kvs r → aP K I F (Pc.wJ f d kvs) (putF f v r)
 | [], r, h => by simp only [aP] at h; subst h; simp only [Pc.wJ, putF, aP]; exact ⟨v, [], rfl, hv, rfl⟩
 | (j, x) :: kvs, r, h => by
  simp only [aP] at h
  obtain ⟨u, t, rfl, h1, h2⟩ := h
  simp only [Pc.wJ, putF]
  by_cases e : j = f
  ·rw [if_pos e, if_pos e]; simp only [aP]; exact ⟨v, t, rfl, hv, h2⟩
  ·rw [if_neg e, if_neg e]; simp only [aP]; exact ⟨u, _, rfl, h1, aP.wJ f hv h2⟩
def WM (C : Addr) (f : Str) (d : D) (w : W) : Res D := match d with
 | .ref i => (match w[i]? with
  | some (.ins C' fs) => if C' = C then (match fs.lookup f with
   | some x => .ok x w
   | none => .bad) else .bad
  | _ => .bad)
 | _ => .bad
def J6 (C : Addr) (f : Str) (d x : D) (w : W) : Res Unit := match d with
 | .ref i => (match w[i]? with
  | some (.ins C' fs) => if C' = C ∧ fs.length < 1000 then .ok () (w.set i (.ins C (wJ f x fs))) else .bad
  | _ => .bad)
 | _ => .bad
def c6 (C : Addr) (f : Str) (m : ME) : ME := sT (WM C f) m
def rL (C : Addr) (f : Str) (mo mv : ME) : MS := fun σ w => (mv σ w).bind fun x w1 => (mo σ w1).bind fun d w2 => (J6 C f d x w2).bind fun _ w3 => .ok (.nx σ) w3
theorem HF {K : PySem.W.Frag} {I : List Addr} {F G H : Hp} {w : W} (rel : Rel K I F G w H) {q : Addr} (hq : H q = none) (u : HO) : Rel K I F G w (upd H q u) := by
 refine ⟨rel.len, rel.nd, fun i a o h1 h2 => ?_, fun a t h => ?_, rel.ap, fun a t h => ?_, rel.gf, rel.gt⟩
 ·obtain ⟨t, h3, h4⟩ := rel.ob i a o h1 h2
  exact ⟨t, by rw [upd_ne (ne_of_none h3 hq)]; exact h3, h4⟩
 ·rw [upd_ne (ne_of_none (rel.fz a t h) hq)]; exact rel.fz a t h
 ·rw [upd_ne (ne_of_none (rel.gz a t h) hq)]; exact rel.gz a t h
def OF (m : MF) (C : Addr) (xs : List D → List D) (w : W) : Res D := (m (xs [.ref w.length]) (w ++ [.ins C []])).bind fun r w1 => match r with
 | .non => .ok (.ref w.length) w1
 | _ => .bad
def X6 (C : Addr) (m : MF) (n : Nat) (gd : List D → List D → List D) (ma : MA) : ME := fun σ w => (ma σ w).bind fun xs w1 => if xs.length = n then OF m C (fun s => gd (s ++ xs) []) w1 else .bad
def MC (C : Addr) (m : MF) (n j : Nat) (gd : List D → List D → List D) (ma mk : MA) : ME := fun σ w => (ma σ w).bind fun xs w1 => (mk σ w1).bind fun zs w2 => if xs.length = n ∧ zs.length = j then OF m C (fun s => gd (s ++ xs) zs) w2 else .bad
section
variable {S : aQ} {pos pos' : Pos} {e : Expr} {m : ME}
theorem jv (i : Nat) {x : Str} (hN : S.N[i]? = some x := by rfl) (hv : Vis S.sc x := by first | exact Or.inl rfl | exact Or.inr (Or.inl rfl) | exact Or.inr (Or.inr rfl)) (hd : (x == ("__debug__" : Str)) = false := by decide) (hcd : (x == ("__classdict__" : Str)) = false := by decide) : JE S (.Name x pos) (aB i) :=
 U9 i hN hv hd hcd
theorem SR (i : Nat) {x : Str} (hN : S.N[i]? = some x := by rfl) (h1 : Loc S.sc x := by first | exact Or.inl rfl | exact Or.inr rfl) (h2 : S.fn x = true ∨ S.sc.names.lookup x = some .local := by first | exact Or.inl rfl | exact Or.inr rfl) : JG S (.Name x pos) (a7 i) := RX hN ⟨h1, h2⟩
theorem CU {vs : List Nat} (i : Nat) {x : Str} (hN : S.N[i]? = some x := by rfl) (h1 : Loc S.sc x := by first | exact Or.inl rfl | exact Or.inr rfl) (h2 : S.fn x = true ∨ S.sc.names.lookup x = some .local := by first | exact Or.inl rfl | exact Or.inr rfl) (hv : i ∈ vs := by decide) : JC S vs (.Name x pos) (a7 i) := P7 hN ⟨h1, h2⟩ hv
theorem oG (i : Nat) {x : Str} (he : JE S e m) (hN : S.N[i]? = some x := by rfl) (h1 : Loc S.sc x := by first | exact Or.inl rfl | exact Or.inr rfl) (h2 : S.fn x = true ∨ S.sc.names.lookup x = some .local := by first | exact Or.inl rfl | exact Or.inr rfl) (hs : ∀ env : Env, swapsWith e (some (.Name x pos')) pos.line env = pure false := by intro _; rfl) :
  JS S (.Assign [.Name x pos'] e pos) (aX m (a7 i)) := UY hN ⟨h1, h2⟩ he hs
end
def aN : List D → List D → List D := fun xs _ => xs
def pick {α : Type} (is : List (Bool × Nat)) (us ws : List α) : List α := is.filterMap fun p => if p.1 = true then ws[p.2]? else us[p.2]?
theorem Vals.WO {vs : List V} {us : List Value} (r : Vals vs us) (i : Nat) : (vs[i]? = none ∧ us[i]? = none) ∨ ∃ v u, vs[i]? = some v ∧ us[i]? = some u ∧ RelV v u := by
 induction r generalizing i with
 | nil => exact .inl ⟨by simp, by simp⟩
 | cons h _ ih =>
  cases i with
  | zero => exact .inr ⟨_, _, rfl, rfl, h⟩
  | succ i => simpa using ih i
theorem RepL.WO {K : PySem.W.Frag} {I : List Addr} {F : Hp} {ds : List D} {vs : List V} (r : RepL K I F ds vs) (i : Nat) : (ds[i]? = none ∧ vs[i]? = none) ∨ ∃ d v, ds[i]? = some d ∧ vs[i]? = some v ∧ aG K I F d v := by
 cases h : ds[i]? with
 | none => exact .inl ⟨rfl, by rw [List.getElem?_eq_none_iff] at h ⊢; rw [← r.length]; exact h⟩
 | some d => obtain ⟨v, h1, h2⟩ := r.get h; exact .inr ⟨d, v, rfl, h1, h2⟩
theorem K5 (is : List (Bool × Nat)) {vs zs : List V} {us ws : List Value} (h1 : Vals vs us) (h2 : Vals zs ws) : Vals (pick is vs zs) (pick is us ws) := by
 induction is with
 | nil => exact .nil
 | cons p is ih =>
  obtain ⟨b, i⟩ := p
  unfold pick at ih ⊢
  cases b with
  | true =>
   rcases Vals.WO h2 i with ⟨e1, e2⟩ | ⟨v, u, e1, e2, r⟩
   ·simpa [List.filterMap_cons, e1, e2] using ih
   ·simpa [List.filterMap_cons, e1, e2] using (show Vals (v :: _) (u :: _) from .cons r ih)
  | false =>
   rcases Vals.WO h1 i with ⟨e1, e2⟩ | ⟨v, u, e1, e2, r⟩
   ·simpa [List.filterMap_cons, e1, e2] using ih
   ·simpa [List.filterMap_cons, e1, e2] using (show Vals (v :: _) (u :: _) from .cons r ih)
theorem O7 (is : List (Bool × Nat)) {K : PySem.W.Frag} {I : List Addr} {F : Hp} {xs zs : List D} {vs us : List V} (h1 : RepL K I F xs vs) (h2 : RepL K I F zs us) : RepL K I F (pick is xs zs) (pick is vs us) := by
 induction is with
 | nil => simp [pick, RepL]
 | cons p is ih =>
  obtain ⟨b, i⟩ := p
  unfold pick at ih ⊢
  cases b with
  | true =>
   rcases RepL.WO h2 i with ⟨e1, e2⟩ | ⟨v, u, e1, e2, r⟩
   ·simpa [List.filterMap_cons, e1, e2] using ih
   ·simpa [List.filterMap_cons, e1, e2] using RepL.cons r ih
  | false =>
   rcases RepL.WO h1 i with ⟨e1, e2⟩ | ⟨v, u, e1, e2, r⟩
   ·simpa [List.filterMap_cons, e1, e2] using ih
   ·simpa [List.filterMap_cons, e1, e2] using RepL.cons r ih
theorem KR {K : PySem.W.Frag} {x qual : Str} {params : Arguments} {body : List Stmt} {scope : Scope} {kws : List (Str × V)} {f : Addr} {fd : FuncData} {ps : List Str} (F : FunD K x qual params body scope [] kws f fd) (n : Nat) (ks : List Str) (is : List (Bool × Nat))
  (h : ∀ (kV doc pm : Value) (an : Option Addr) (cdv ct : Value) (us ws : List Value), us.length = n → ws.length = ks.length → bindArgs (PySem.W.fnOf x qual params body scope .none kV doc pm an cdv ct) ⟨us, ks.zip ws⟩ = pure (ps.zip (pick is us ws)))
  (hlen : ∀ xs zs : List D, xs.length = n → zs.length = ks.length → (pick is xs zs).length = ps.length) : c7 K fd ps n ks (pick is) :=
 OZ F n ks (fun us ws => pick is us ws) h (fun h1 h2 => K5 is h1 h2) (fun I F' xs vs zs us h1 h2 => O7 is h1 h2) hlen
section
variable {S : aQ} {k : Nat} {f : Addr} {fd : FuncData} {ps ks : List Str} {m : MF} {gd : List D → List D → List D} {x : Str} {p pos : Pos} {kws : List Keyword} {mk : MA}
theorem KQ (hk : k ≤ S.k) (Gf : eL S.P S.w S.K S.mg S.base k f fd ps m) (B : c7 S.K fd ps 0 ks gd) (hg : S.sc.names.lookup x = some .globalImplicit) (hm : S.mg x = some (.ref f)) (kp : PySem.W.keepIn S.K (.ref f) = true) (hkw : JK S kws mk)
  (hall : ∀ env : Env, (backToKw pos (keywordEach kws env)).all (·.1.isSome) = true := by intro _; rfl) (hks : ∀ env : Env, (backToKw pos (keywordEach kws env)).filterMap (·.1) = ks := by intro _; rfl)
  (hdb : (x == ("__debug__" : Str)) = false := by decide)
  (hpl : ∀ env : Env, ((backTo pos (starEach [] env)).any (·.1) || (backToKw pos (keywordEach kws env)).any (·.1.isNone)) = false := by intro _; rfl) :
  JE S (.Call (.Name x p) [] kws pos) (sY m 0 ks.length gd aD mk) := fun X E cx xo => by
 refine ⟨fun pins s σ H Q J ⟨I, F, G, ds, w, rel, rs, p⟩ => ?_⟩
 refine wpAny_Call_Name_kw (ld_glob J (by show X.env.scope.names.lookup x = _; rw [cx.sc]; exact hg) (by rw [cx.mg]; exact hm) ?_ hdb)
 refine PySem.W.callWith_KW0 (h₀ := X.base) J.ok.mod.kin (by rw [cx.K]; exact kp) (hall X.env) ?_ (hpl X.env)
 refine thn ((hkw X E cx xo).run pos pins s σ H _ J (eO (f := fun _ zs w2 => if ([] : List D).length = 0 ∧ zs.length = ks.length then m (gd [] zs) w2 else .bad)
  (Q := fun ys H2 => ∃ I2 F2 zs w2, Rel X.K I2 F2 G w2 H2 ∧ RepL X.K I2 F2 zs ys ∧ zs.length = ks.length ∧ bE X.K I2 F2 G E (RV X.K Q) (m (gd [] zs) w2)) rel rs p fun I2 F2 H2 zs w2 ys e2 rel2 rs2 rvs2 p2 => ?_)) fun ws s2 hq2 => ?_
 ·split at p2
  ·rename_i hl
   exact ⟨I2, F2, zs, w2, rel2, rvs2, hl.2, p2⟩
  ·exact p2.elim
 ·obtain ⟨ys, H2, J2, r2, I2, F2, zs, w2, rel2, rvs2, hl, p2⟩ := hq2
  refine ⟨J2.kIn, ?_⟩
  have Gf' : eL X.prog X.w X.K X.mg X.base k f fd ps m := by rw [cx.P, cx.w, cx.K, cx.mg, cx.base]; exact Gf
  have B' : c7 X.K fd ps 0 ks gd := by rw [cx.K]; exact B
  rw [hks X.env]
  exact TB (ks := ks) (us := []) (vs := []) (xs := []) xo Gf' B' (cx.room.mono hk) cx.Y4 J2 rel2 (by simp [RepL]) rvs2 .nil r2 rfl hl p2
end
section
variable {S : aQ} {k n j : Nat} {f : Addr} {fd : FuncData} {ps ks : List Str} {m : MF} {gd : List D → List D → List D} {x : Str} {p pos : Pos} {e : Expr} {es : List Expr} {kws : List Keyword} {ma mk : MA}
theorem ZQ (hk : k ≤ S.k) (Gf : eL S.P S.w S.K S.mg S.base k f fd ps m) (B : c7 S.K fd ps 0 ks gd) (hg : S.sc.names.lookup x = some .globalImplicit) (hm : S.mg x = some (.ref f)) (kp : PySem.W.keepIn S.K (.ref f) = true) (hkw : JK S kws mk) (hj : ks.length = j := by rfl)
  (hall : ∀ env : Env, (backToKw pos (keywordEach kws env)).all (·.1.isSome) = true := by intro _; rfl) (hks : ∀ env : Env, (backToKw pos (keywordEach kws env)).filterMap (·.1) = ks := by intro _; rfl)
  (hdb : (x == ("__debug__" : Str)) = false := by decide)
  (hpl : ∀ env : Env, ((backTo pos (starEach [] env)).any (·.1) || (backToKw pos (keywordEach kws env)).any (·.1.isNone)) = false := by intro _; rfl) :
  JE S (.Call (.Name x p) [] kws pos) (sY m 0 j gd aD mk) := by subst hj; exact KQ hk Gf B hg hm kp hkw hall hks hdb hpl
end
def MU (N ps : List Str) (sc : Scope) : Bool := (match sc.kind with
 | .function => true
 | _ => false) && !sc.isCoroutine && !sc.isGenerator && decide N.Nodup && decide (N.take ps.length = ps) && (ps.all fun x => decide (sc.names.lookup x = some .local) || decide (sc.names.lookup x = some .cell)) && sc.names.all fun y => decide (y.2 ≠ .free)
theorem b0 {N ps : List Str} {sc : Scope} (h : MU N ps sc = true) : FnScope N ps sc := by
 unfold MU at h
 simp only [ag, ah, ak, Bool.or_eq_true, Bool.not_eq_true'] at h
 obtain ⟨⟨⟨⟨⟨⟨h1, h2⟩, h3⟩, h4⟩, h5⟩, h6⟩, h7⟩ := h
 refine ⟨?_, h2, h3, h4, h5, h6, h7⟩
 split at h1
 ·assumption
 ·cases h1
def Q3 (f g : D → D → W → Res D) (ma mb mc : ME) : ME := fun σ w => (ma σ w).bind fun x w1 => (mb σ w1).bind fun y w2 => (f x y w2).bind fun r w3 => match r with
 | .bl b => if b = true then (mc σ w3).bind fun z w4 => g y z w4 else .ok (.bl false) w3
 | _ => .bad
section
variable {S : aQ} {pos : Pos} {a b c : Expr} {ma mb mc : ME} {f g : D → D → W → Res D}
theorem VZ {K : PySem.W.Frag} {E : XK} {σ : L2.St} {H : Hp} {Q : VK} (h : p6 K E (Q3 f g ma mb mc) σ H Q) : tChain (NX K E f) (NX K E g) (p6 K E ma) (p6 K E mb) (p6 K E mc) σ H Q := by
 obtain ⟨I, F, G, ds, w, rel, rs, p⟩ := h
 refine ⟨I, F, G, ds, w, rel, rs, (bE.bind p).mono fun I1 F1 H1 x w1 _ e1 rel1 p1 v rv => ?_⟩
 refine ⟨I1, F1, G, ds, w1, rel1, rs.ext e1, (bE.bind p1).mono fun I2 F2 H2 y w2 _ e2 rel2 p2 u ru => ?_⟩
 refine ⟨I2, F2, G, x, y, w2, rel2, aG.ext e2 _ _ rv, ru, (bE.bind p2).mono fun I3 F3 H3 r w3 _ e3 rel3 p3 t rt => ?_⟩
 cases r <;> first | exact p3.elim | skip
 rename_i k _
 simp only [aG] at rt
 refine ⟨k, rt, ?_⟩
 cases k with
 | false => exact p3.nO rel3 (by simp [aG])
 | true =>
  refine ⟨I3, F3, G, ds, w3, rel3, (rs.ext e1).ext (e2.trans e3), (bE.bind p3).mono fun I4 F4 H4 z w4 _ e4 rel4 p4 q rq => ?_⟩
  exact ⟨I4, F4, G, y, z, w4, rel4, aG.ext (e3.trans e4) _ _ ru, rq, p4⟩
theorem E5 {op op' : CmpOp} (ho : O2 S (compareOp op) f) (ho' : O2 S (compareOp op') g) (ha : JE S a ma) (hb : JE S b mb) (hc : JE S c mc) (hm : lastMarks [op, op'] [b, c] = false := by with_unfolding_all rfl) :
  JE S (.Compare a [op, op'] [b, c] pos) (Q3 f g ma mb mc) := fun X E cx xo => cG (pe_chain (ho X E cx xo) (ho' X E cx xo) (ha X E cx xo) (hb X E cx xo) (hc X E cx xo) hm) fun _ _ _ h => VZ h
end
theorem cK {S : aQ} {x : Str} {n : String} {pos : Pos} (hg : S.sc.names.lookup x = some .globalImplicit) (hm : S.mg x = none) (hv : bootBuiltins x = some (.type n)) (hn : x ≠ "__name__" := by decide) (hd : (x == ("__debug__" : Str)) = false := by decide) : JE S (.Name x pos) (eC (.ty n)) := fun X E cx xo =>
 cG (pe_bltn (v := .ty n) (by show X.env.scope.names.lookup x = _; rw [cx.sc]; exact hg) (by rw [cx.mg]; exact hm) hv rfl hn hd) fun σ H Q ⟨I, F, G, ds, w, rel, rs, p⟩ => p I F H .refl rel _ (by simp [aG])
inductive vT where
 | b (n : String) | o (C : Addr)
 deriving DecidableEq
def vT.v : vT → Value
 | .b n => .type n
 | .o C => .ref C
def LX (d : D) (w : W) : Option vT := match d with
 | .non => some (.b "NoneType")
 | .bl _ => some (.b "bool")
 | .int _ => some (.b "int")
 | .str _ => some (.b "str")
 | .tup _ => some (.b "tuple")
 | .nX _ => some (.b "tuple")
 | .lst _ => some (.b "list")
 | .jR _ => some (.b "list")
 | .ref i => (match w[i]? with
  | some (.lst _) => some (.b "list")
  | some (.dK _) => some (.b "dict")
  | some (.dT _) => some (.b "dict")
  | some (.dF _) => some (.b "dict")
  | some (.dG _) => none
  | some (.ins C _) => some (.o C)
  | none => none)
 | .sF _ _ => some (.b "dict")
 | _ => none
def names7 : List String := ["NoneType", "bool", "int", "str", "tuple", "list", "dict"]
def PD (t n : String) : Bool := t == n || (t == "bool" && n == "int")
theorem IG : ∀ t ∈ names7, ∀ n ∈ ["bool", "int", "str", "tuple", "list", "dict"], kitB t n = some (PD t n) := by decide +kernel
structure SU (K : PySem.W.Frag) (C : Addr) : Prop where
 cl : Cls K C
 ha : PySem.W.findIn K (.ref C) "__class__" = some (some (.builtin "object.__class__"))
 hn : PySem.W.specialIn K (.builtin "object.__class__") "__get__" = some (some (.builtin "getset_descriptor.__get__"))
 tk : PySem.W.takesIn K (.builtin "object.__class__") = some true
 hm : PySem.W.mroIn K C (.type "object") = some true
def OM : List D → Option (List String)
 | [] => some []
 | .ty n :: ds => (OM ds).map fun ns => n :: ns
 | _ :: _ => none
def fP (kc : vT → vT → Option Bool) : MF := fun ds w => match ds with
 | [d, .ty n] => (match LX d w with
  | some (.b t) => if t ∈ names7 ∧ n ∈ ["bool", "int", "str", "tuple", "list", "dict"] then .ok (.bl (PD t n)) w else .bad
  | some (.o C) => (match kc (.o C) (.b n) with
   | some r => .ok (.bl r) w
   | none => .bad)
  | none => .bad)
 | [d, .con C] => (match LX d w with
  | some t => (match kc t (.o C) with
   | some r => .ok (.bl r) w
   | none => .bad)
  | none => .bad)
 | [d, .tup cs] => (match LX d w, OM cs with
  | some (.b t), some ns => if t ∈ names7 ∧ ∀ n ∈ ns, n ∈ ["bool", "int", "str", "tuple", "list", "dict"] then .ok (.bl (ns.any (PD t))) w else .bad
  | _, _ => .bad)
 | _ => .bad
structure YZ (K : PySem.W.Frag) (kc : vT → vT → Option Bool) : Prop where
 one : ∀ t c r, kc t c = some r → PySem.W.kitOne K t.v c.v = some r
 ins : ∀ C c r, kc (.o C) c = some r → SU K C
def fX : vT → vT → Option Bool := fun _ _ => none
theorem bX {K : PySem.W.Frag} : YZ K fX := ⟨fun _ _ _ h => (by cases h), fun _ _ _ h => (by cases h)⟩
theorem BF {K : PySem.W.Frag} {I : List Addr} {F G H : Hp} {w : W} (rel : Rel K I F G w H) {d : D} {v : V} (h : aG K I F d v) {t : vT} (e : LX d w = some t) (hi : ∀ C, t = .o C → SU K C) : TyX K H v t.v := by
 have hT : ∀ {a : Addr} {vs : List V}, SqT K H a vs → TyX K H (.ref a) (.type "tuple") := fun {a vs} q => by
  rcases q with (q | ⟨o, q⟩) | q
  ·exact .base (.tup q)
  ·exact .fTuple q
  ·obtain ⟨o, its, n, q1, q2, _⟩ := q
   exact .kTuple q1 q2
 have hL : ∀ {a : Addr} {vs : List V}, SqL K H a vs → TyX K H (.ref a) (.type "list") := fun {a vs} q => by
  rcases q with (q | ⟨o, q⟩) | q
  ·exact .base (.lst q)
  ·exact .base (.frz q)
  ·obtain ⟨o, its, n, q1, q2, _⟩ := q
   exact .kList q1 q2
 cases d <;> simp only [LX, af, reduceCtorEq] at e <;> simp only [aG] at h
 case non => subst h; subst e; exact .base .non
 case bl => subst h; subst e; exact .base (.bl _)
 case int => subst h; subst e; exact .base (.int _)
 case str => subst h; subst e; exact .base (.str _)
 case tup => obtain ⟨a, vs, rfl, h1, _⟩ := h; subst e; exact hT (.of (rel.fz _ _ h1))
 case nX => obtain ⟨a, vs, rfl, h1, _⟩ := h; subst e; exact hT (rel.EN h1)
 case lst => obtain ⟨a, vs, rfl, h1, _⟩ := h; subst e; exact hL (.of (rel.fz _ _ h1))
 case jR => obtain ⟨a, vs, rfl, h1, _⟩ := h; subst e; exact hL (rel.LQ h1)
 case ref i =>
  obtain ⟨a, rfl, hi'⟩ := h
  split at e
  ·rename_i hw; cases e; obtain ⟨u, hu, vs, rfl, _⟩ := rel.ob i a _ hi' hw; exact .base (.lst hu)
  ·rename_i hw; cases e; obtain ⟨u, hu, vs, rfl, _⟩ := rel.ob i a _ hi' hw; exact .base (.dK hu)
  ·rename_i hw; cases e; obtain ⟨u, hu, vs, rfl, _⟩ := rel.ob i a _ hi' hw; exact .base (.dT hu)
  ·rename_i hw; cases e; obtain ⟨u, hu, o, vs, rfl, _⟩ := rel.ob i a _ hi' hw; exact .fDict hu
  ·cases e
  ·rename_i C fs hw
   cases e
   obtain ⟨u, hu, dx, r, rfl, _⟩ := rel.ob i a _ hi' hw
   have z := hi C rfl
   exact .base (.ins hu z.cl z.ha z.hn z.tk z.hm)
  ·cases e
 case sF =>
  obtain ⟨a, kvs, rfl, h1, _⟩ := h
  subst e
  rcases h1 with h1 | ⟨o, h1⟩
  ·exact .base (.dK (rel.fz _ _ h1))
  ·exact .fDict (rel.fz _ _ h1)
theorem FG {K : PySem.W.Frag} {I : List Addr} {F : Hp} {t : String} (ht : t ∈ names7) : ∀ {cs : List D} {ns : List String} {vs : List V}, OM cs = some ns → RepL K I F cs vs → (∀ n ∈ ns, n ∈ ["bool", "int", "str", "tuple", "list", "dict"]) → ∃ ws, Paired ClsV vs ws ∧ PySem.W.kitAny K (.type t) ws = some (ns.any (PD t))
 | [], ns, vs, e, r, _ => by
  simp only [OM, af] at e
  subst e
  simp only [RepL] at r
  subst r
  exact ⟨[], .nil, kitAny_nil⟩
 | d :: ds, ns, vs, e, r, hn => by
  cases d <;> simp only [OM, ai, reduceCtorEq] at e
  rename_i n
  obtain ⟨ns', e1, rfl⟩ := e
  simp only [RepL, aG] at r
  obtain ⟨v, r', rfl, rfl, r2⟩ := r
  obtain ⟨ws, p, q⟩ := FG ht e1 r2 fun m hm => hn m (aw _ hm)
  refine ⟨.type n :: ws, .cons (.ty n) p, ?_⟩
  have k1 : PySem.W.kitOne K (.type t) (.type n) = some (PD t n) := kit_ty (IG t ht n (hn n (aq ..)))
  rw [List.any_cons]
  refine kitAny_cons k1 (fun hb => ?_) fun hb => ?_
  ·rw [hb, Bool.false_or]; exact q
  ·rw [hb, Bool.true_or]
theorem cL {S : aQ} {kc : vT → vT → Option Bool} (hk : YZ S.K kc) : CB S (.builtin "isinstance") (fP kc) := uY fun X E c xo I F G ds w H vs Q rel rl p => by
 unfold fP at p
 split at p
 ·rename_i d n
  obtain ⟨v, u, rfl, rv, ru⟩ := rl.two
  simp only [aG] at ru
  subst ru
  split at p
  ·rename_i t ht
   split at p
   ·rename_i hc
    exact ⟨_, call_isi, v, .ty n, _, .type n, _, rfl, .ty n, BF rel rv ht (fun C z => by cases z), kit_ty (IG t hc.1 n hc.2), p.nO rel (by simp [aG])⟩
   ·exact p.elim
  ·rename_i C hC
   split at p
   ·rename_i r hr
    exact ⟨_, call_isi, v, .ty n, _, .type n, _, rfl, .ty n, BF rel rv hC (fun C' z => by cases z; rw [c.K]; exact hk.ins _ _ _ hr), by rw [c.K]; exact hk.one _ _ _ hr, p.nO rel (by simp [aG])⟩
   ·exact p.elim
  ·exact p.elim
 ·rename_i d C
  obtain ⟨v, u, rfl, rv, ru⟩ := rl.two
  simp only [aG] at ru
  subst ru
  split at p
  ·rename_i t ht
   split at p
   ·rename_i r hr
    exact ⟨_, call_isi, v, .ref C, _, .ref C, _, rfl, .own C, BF rel rv ht (fun C' z => by subst z; rw [c.K]; exact hk.ins _ _ _ hr), by rw [c.K]; exact hk.one _ _ _ hr, p.nO rel (by simp [aG])⟩
   ·exact p.elim
  ·exact p.elim
 ·rename_i d cs
  obtain ⟨v, u, rfl, rv, ru⟩ := rl.two
  simp only [aG] at ru
  obtain ⟨tp, vs, rfl, h2, h3⟩ := ru
  split at p
  ·rename_i t ns ht hn
   split at p
   ·rename_i hc
    obtain ⟨ws, hp, hk2⟩ := FG (K := X.K) hc.1 hn h3 hc.2
    exact ⟨_, call_isiT, v, tp, vs, _, ws, _, rfl, rel.fz _ _ h2, hp, BF rel rv ht (fun C z => by cases z), hk2, p.nO rel (by simp [aG])⟩
   ·exact p.elim
  ·exact p.elim
 ·exact p.elim
def n9 : List D → Option (List Bool)
 | [] => some []
 | .bl b :: r => (n9 r).map (b :: ·)
 | _ :: _ => none
theorem wM {K : PySem.W.Frag} {I : List Addr} {F : Hp} : ∀ {ds : List D} {vs : List V} {ns : List Bool}, RepL K I F ds vs → n9 ds = some ns → vs = ns.map V.bl
 | [], vs, ns, h, e => by simp only [n9, af] at e; subst e; simp only [RepL] at h; exact h
 | d :: ds, vs, ns, h, e => by
  cases d <;> simp only [n9, ai, reduceCtorEq] at e
  obtain ⟨r, e1, rfl⟩ := e
  simp only [RepL, aG] at h
  obtain ⟨v, t, rfl, rfl, h2⟩ := h
  rw [wM h2 e1]
  rfl
def allM : MF := fun ds w => match ds with
 | [d] => (match (r4 d w).bind n9 with
  | some bs => .ok (.bl (bs.all id)) w
  | none => .bad)
 | _ => .bad
theorem uK {S : aQ} : CB S (.builtin "all") allM := uY fun X E c xo I F G ds w H vs Q rel rl p => by
 unfold allM at p
 split at p
 ·rename_i d
  obtain ⟨v, rfl, rv⟩ := rl.one
  split at p
  ·rename_i bs hn
   obtain ⟨xs, h1, h2⟩ := cb.mp hn
   obtain ⟨a, us, rfl, hq, hr⟩ := BD rel rv h1
   obtain rfl := wM hr h2
   exact ⟨_, cr_all c.calm, a, bs, rfl, hq, p.nO rel (by simp [aG])⟩
  ·exact p.elim
 ·exact p.elim
def FR (x y : D) (w : W) : Res D := match x, y with
 | .int a, .int b => .ok (.bl (decide (a < b))) w
 | x, y => match (qT x).bind iT, (qT y).bind iT with
  | some ns, some ms => .ok (.bl (HT.lexLt ns ms)) w
  | _, _ => .bad
theorem MR {S : aQ} : O2 S (compareOp .Lt) FR := iE fun X E c xo I F G d e w H x y Q rel rd re p => by
 unfold FR at p
 split at p
 ·simp only [aG] at rd re
  exact ⟨_, op_lt, _, _, rd, re, p.nO rel (by simp [aG])⟩
 ·split at p
  ·rename_i ns ms h1 h2
   obtain ⟨xs, q1, q2⟩ := cb.mp h1
   obtain ⟨ys, q3, q4⟩ := cb.mp h2
   obtain ⟨a, us, rfl, g1, g2⟩ := O9 rel rd q1
   obtain ⟨b, ts, rfl, g3, g4⟩ := O9 rel re q3
   obtain rfl := mJ g2 q2
   obtain rfl := mJ g4 q4
   exact ⟨_, op_ltT (by have := c.room.un; omega), a, b, ns, ms, rfl, rfl, g1, g3, p.nO rel (by simp [aG])⟩
  ·exact p.elim
theorem xP {K : PySem.W.Frag} {I : List Addr} {F G H : Hp} {w : W} {q : Addr} {u : HO} (rel : Rel K I F (upd G q u) w H) (hG : G q = none) : Rel K I F G w H :=
 ⟨rel.len, rel.nd, rel.ob, rel.fz, rel.ap, fun a v h => rel.gz a v (by rw [upd_ne (ne_of_none h hG)]; exact h), fun a v h => rel.gf a v (by rw [upd_ne (ne_of_none h hG)]; exact h), fun a xs h => rel.gt a xs (by rw [upd_ne (ne_of_none h hG)]; exact h)⟩
theorem bE.more {α : Type} {K : PySem.W.Frag} {I : List Addr} {F G : Hp} {E : XK} {R R' : List Addr → Hp → Hp → α → W → Prop} {r : Res α} {q : Addr} {u : HO} (p : bE K I F G E R r) (hG : G q = none)
  (k : ∀ I' F' H' a w, r = .ok a w → Ext I F I' F' → Rel K I' F' (upd G q u) w H' → R I' F' H' a w → R' I' F' H' a w) : bE K I F (upd G q u) E R' r := by
 cases r with
 | ok a w => exact fun I' F' H' e rel => k I' F' H' a w rfl e rel (p I' F' H' e (xP rel hG))
 | AG x w => exact fun I' F' H' c d e rel rx => p I' F' H' c d e (xP rel hG) rx
 | bad => exact p
abbrev MP := Sg → W → Res (List (D × D))
def FI : MP := fun _ w => .ok [] w
def fU (mk mv : ME) (r : MP) : MP := fun σ w => (mk σ w).bind fun k w1 => (mv σ w1).bind fun v w2 => (r σ w2).bind fun ps w3 => .ok ((k, v) :: ps) w3
def keyed : List (D × D) → Option (List (Key × D))
 | [] => some []
 | (k, v) :: r => match keyD k, keyed r with
  | some j, some t => some ((j, v) :: t)
  | _, _ => none
def j5 {κ : Type} [DecidableEq κ] (kvs more : List (κ × D)) : List (κ × D) := more.foldl (fun acc kv => putD acc kv.1 kv.2) kvs
def G5 (m : MP) : ME := fun σ w => (m σ w).bind fun ps w1 => match keyed ps with
 | some kvs => if kvs.length ≤ 15 then .ok (.ref w1.length) (w1 ++ [.dK (j5 [] kvs)]) else .bad
 | none => .bad
def CS : ME := fun _ w => .ok (.ref w.length) (w ++ [.dT []])
def WK (K : PySem.W.Frag) (I : List Addr) (F : Hp) (ps : List (D × D)) (vs : List (V × V)) : Prop := RepL K I F (ps.map (·.1)) (vs.map (·.1)) ∧ RepL K I F (ps.map (·.2)) (vs.map (·.2))
def RPs (K : PySem.W.Frag) (Q : List (V × V) → Hp → Prop) : List Addr → Hp → Hp → List (D × D) → W → Prop := fun I' F' H' ps _ => ∀ vs, WK K I' F' ps vs → Q vs H'
def lowP (K : PySem.W.Frag) (E : XK) (m : MP) : L2.St → Hp → (List (V × V) → Hp → Prop) → Prop := fun σ H Q => ∃ I F G ds w, Rel K I F G w H ∧ fC K I F ds σ ∧ bE K I F G E (RPs K Q) (m ds w)
def JD (S : aQ) (pos : Pos) (ks : List (Option Expr)) (vs : List Expr) (m : MP) : Prop := ∀ X E, Ctx S X → nQ X E → ∃ trs, PPs X pos ks vs trs ∧ ∀ σ H Q, lowP X.K E m σ H Q → tPairs trs σ H Q
theorem aP.merge {K : PySem.W.Frag} {I : List Addr} {F : Hp} {κ : Type} [DecidableEq κ] : ∀ {more : List (κ × D)} {rs : List (κ × V)} {kvs : List (κ × D)} {vs : List (κ × V)}, aP K I F more rs → aP K I F kvs vs → aP K I F (j5 kvs more) (rs.foldl (fun acc kv => putK acc kv.1 kv.2) vs)
 | [], rs, kvs, vs, h, g => by simp only [aP] at h; subst h; exact g
 | (k, d) :: more, rs, kvs, vs, h, g => by
  simp only [aP] at h
  obtain ⟨v, r, rfl, h1, h2⟩ := h
  exact aP.merge (more := more) (rs := r) h2 (g.put k h1)
theorem uG {K : PySem.W.Frag} {I : List Addr} {F : Hp} : ∀ {ps : List (D × D)} {vs : List (V × V)} {kvs : List (Key × D)}, WK K I F ps vs → keyed ps = some kvs → ∃ r : List (Key × V), vs = r.map (fun kv => (kV kv.1, kv.2)) ∧ aP K I F kvs r
 | [], vs, kvs, h, e => by
  simp only [keyed, af] at e
  subst e
  have := h.1
  simp only [List.map_nil, RepL, List.map_eq_nil_iff] at this
  subst this
  exact ⟨[], rfl, by simp [aP]⟩
 | (k, d) :: ps, vs, kvs, h, e => by
  obtain ⟨h1, h2⟩ := h
  cases vs with
  | nil => simp only [List.map_cons, List.map_nil, RepL] at h1; obtain ⟨_, _, z, _⟩ := h1; cases z
  | cons x vs =>
   obtain ⟨x1, x2⟩ := x
   simp only [List.map_cons, RepL] at h1 h2
   obtain ⟨v, r, z1, g1, g2⟩ := h1
   obtain ⟨u, t, z2, g3, g4⟩ := h2
   cases z1
   cases z2
   simp only [keyed] at e
   split at e
   ·rename_i j tt e1 e2
    cases e
    obtain ⟨rr, e3, e4⟩ := uG ⟨g2, g4⟩ e2
    refine ⟨(j, x2) :: rr, ?_, ?_⟩
    ·rw [List.map_cons, ← e3, oK g1 e1]
    ·simp only [aP]; exact ⟨x2, rr, rfl, g3, e4⟩
   ·cases e
section
variable {S : aQ} {pos : Pos} {k v : Expr} {ks : List (Option Expr)} {vs : List Expr} {mk mv : ME} {m : MP}
theorem AS : JD S pos [] [] FI := fun X E cx xo => ⟨[], pps_nil, fun σ H Q ⟨I, F, G, ds, w, rel, rs, p⟩ => p I F H .refl rel [] ⟨by simp [RepL], by simp [RepL]⟩⟩
theorem eU (hk : JE S k mk) (hv : JE S v mv) (hr : JD S pos ks vs m) : JD S pos (some k :: ks) (v :: vs) (fU mk mv m) := fun X E cx xo => by
 obtain ⟨trs, h1, h2⟩ := hr X E cx xo
 refine ⟨(p6 X.K E mk, p6 X.K E mv) :: trs, pps_cons (hk X E cx xo) (hv X E cx xo) h1, fun σ H Q ⟨I, F, G, ds, w, rel, rs, p⟩ => ?_⟩
 refine b7 (f := fun ds x w1 => (mv ds w1).bind fun y w2 => (m ds w2).bind fun ps w3 => .ok ((x, y) :: ps) w3) rel rs p fun I1 F1 H1 x w1 a e1 rel1 rs1 ra p1 => ?_
 refine b7 (f := fun ds y w2 => (m ds w2).bind fun ps w3 => .ok ((x, y) :: ps) w3) rel1 rs1 p1 fun I2 F2 H2 y w2 b e2 rel2 rs2 rb p2 => ?_
 refine h2 σ H2 _ ⟨I2, F2, G, ds, w2, rel2, rs2, (bE.bind p2).mono fun I3 F3 H3 ps w3 _ e3 rel3 p3 us ru => ?_⟩
 refine p3 I3 F3 H3 .refl rel3 ((a, b) :: us) ⟨?_, ?_⟩
 ·exact RepL.cons (aG.ext (e2.trans e3) _ _ ra) ru.1
 ·exact RepL.cons (aG.ext e3 _ _ rb) ru.2
theorem H6 (h : JD S pos ks vs m) (hall : ks.all (·.isSome) = true := by rfl) (hl : ks.length = vs.length := by rfl) (h0 : ks ≠ [] := by simp) (h15 : ks.length ≤ 15 := by exact ab rfl) : JE S (.Dict ks vs pos) (G5 m) := fun X E cx xo => by
 obtain ⟨trs, g1, g2⟩ := h X E cx xo
 refine cG (pe_disp g1 hall hl h0 h15) fun σ H Q ⟨I, F, G, ds, w, rel, rs, p⟩ q hq => ?_
 have hG : G q = none := by
  cases z : G q with
  | none => rfl
  | some u => rw [rel.gz _ _ z] at hq; cases hq
 refine g2 σ _ _ ⟨I, F, upd G q (.dK []), ds, w, rel.keep hq, rs, (bE.bind p).more hG fun I1 F1 H1 ps w1 _ e1 rel1 p1 us ru => ?_⟩
 refine ⟨rel1.gz q _ upd_same, ?_⟩
 split at p1
 ·rename_i kvs hk
  split at p1
  ·rename_i hl'
   obtain ⟨r, e2, e3⟩ := uG ru hk
   refine ⟨r, e2, by rw [← e3.length]; exact hl', ?_⟩
   obtain ⟨ee, rel2⟩ := (rel1.FN (u' := .dK (mergeK [] r))).owned hG (o := .dK (j5 [] kvs)) ⟨_, rfl, aP.merge e3 (by simp [aP])⟩
   refine p1 _ _ _ ee rel2 _ ?_
   simp only [aG]
   refine ⟨q, rfl, ?_⟩
   rw [← rel1.len, bh (ay _)]
   simp
  ·exact p1.elim
 ·exact p1.elim
end
def getM : PY := fun d ds w => match d, ds with
 | .ref i, [k, z] => (match w[i]? with
  | some o => (match lH o k with
   | some r => .ok (r.getD z) w
   | none => .bad)
  | none => .bad)
 | _, _ => .bad
theorem N7 {S : aQ} : MB S "dict.get" getM := J0 fun X E c xo I F G d ds w H x vs Q rel rd rl p => by
 unfold getM at p
 split at p
 ·rename_i i k z
  simp only [aG] at rd
  obtain ⟨a, rfl, hi⟩ := rd
  obtain ⟨vk, vz, rfl, rk, rz⟩ := rl.two
  split at p
  ·rename_i o hw
   split at p
   ·rename_i r hr
    obtain ⟨q, g, hq⟩ := J4 rel hi hw rk hr
    refine ⟨fun x xs H Q => ∃ a k z o, x = .ref a ∧ xs = [k, z] ∧ DGet H a k o ∧ Q (o.getD z) H, fun pins s σ H x xs v us Q J rx rxs h => ?_, a, vk, vz, q, rfl, rfl, g, ?_⟩
    ·obtain ⟨a, k, z, o, rfl, rfl, g, q⟩ := h
     cases rx
     obtain ⟨u1, u2, rfl, r1, r2⟩ := rxs.two
     exact d_get2 (by have := c.room.un; omega) J g r1 r2 fun w' s' J' r' => ⟨_, H, J', r', q⟩
    ·refine p.nO rel ?_
     cases r with
     | none => rw [show q = none from hq]; exact rz
     | some d => obtain ⟨v, rfl, hv⟩ := hq; exact hv
   ·exact p.elim
  ·exact p.elim
 ·exact p.elim
def rK : Key → D
 | .inl i => .int i
 | .inr x => .str x
theorem D4 {K : PySem.W.Frag} {I : List Addr} {F : Hp} (k : Key) : aG K I F (rK k) (kV k) := by
 cases k <;> simp [rK, aG, kV]
def OE (d : D) (w : W) : Res lA := match d with
 | .ref i => (match w[i]? with
  | some (.dK kvs) => .ok ⟨kvs.map fun p => .tup [rK p.1, p.2], always⟩ (w.set i (.dF kvs))
  | _ => .bad)
 | _ => .bad
def JU (m : ME) : MI := fun σ w => (m σ w).bind OE
theorem aP.get {K : PySem.W.Frag} {I : List Addr} {F : Hp} {κ : Type} : ∀ {kvs : List (κ × D)} {r : List (κ × V)} {i : Nat} {k : κ} {v : V}, aP K I F kvs r → r[i]? = some (k, v) → ∃ d, kvs[i]? = some (k, d) ∧ aG K I F d v
 | [], r, i, k, v, h, e => by simp only [aP] at h; subst h; simp at e
 | (j, d) :: kvs, r, 0, k, v, h, e => by
  simp only [aP] at h
  obtain ⟨u, t, rfl, h1, h2⟩ := h
  simp at e
  obtain ⟨rfl, rfl⟩ := e
  exact ⟨d, rfl, h1⟩
 | (j, d) :: kvs, r, i + 1, k, v, h, e => by
  simp only [aP] at h
  obtain ⟨u, t, rfl, h1, h2⟩ := h
  obtain ⟨d', h3, h4⟩ := aP.get (i := i) h2 (by simpa using e)
  exact ⟨d', by simpa using h3, h4⟩
theorem K7 {K : PySem.W.Frag} {I : List Addr} {F G H : Hp} {w : W} {ds : List D} {vs : List V} (rel : Rel K I F G w H) (r : RepL K I F ds vs) {q : Addr} (hq : H q = none) : ∃ F2, Ext I F I F2 ∧ Rel K I F2 G w (upd H q (.tup vs)) ∧ aG K I F2 (.tup ds) (.ref q) := by
 have hF : F q = none := by
  cases h : F q with
  | none => rfl
  | some u => rw [rel.fz _ _ h] at hq; cases hq
 have e : Ext I F I (upd F q (.tup vs)) := ⟨List.prefix_refl _, fun a u h => by rw [upd_ne (ne_of_none h hF)]; exact h⟩
 refine ⟨_, e, ⟨rel.len, rel.nd, fun i a o h1 h2 => ?_, fun a u h => ?_, fun i a o h h0 hf => ?_, fun a u h => ?_, fun a u h => ?_, rel.gt⟩, ?_⟩
 ·obtain ⟨u, h3, h4⟩ := rel.ob i a o h1 h2
  exact ⟨u, by rw [upd_ne (ne_of_none h3 hq)]; exact h3, kT.ext e h4⟩
 ·by_cases ha : a = q
  ·subst ha; rw [upd_same] at h ⊢; exact h
  ·rw [upd_ne ha] at h ⊢; exact rel.fz a u h
 ·obtain ⟨u, h3, _⟩ := rel.ob i a o h h0
  rw [upd_ne (ne_of_none h3 hq)]; exact rel.ap i a o h h0 hf
 ·rw [upd_ne (ne_of_none (rel.gz a u h) hq)]; exact rel.gz a u h
 ·rw [upd_ne (ne_of_none (rel.gz a u h) hq)]; exact rel.gf a u h
 ·simp only [aG]
  exact ⟨q, vs, rfl, upd_same, RepL.ext e _ _ r⟩
open Classical in
open Classical in
theorem still {α : Type} {K : PySem.W.Frag} {R : List Addr → Hp → Hp → α → W → Prop} {r : Res α} {I : List Addr} {F G : Hp} {q : Addr} {u : HO} (hG : G q = none) (p : bE K I F G E0 R r) :
  bE K I F (upd G q u) E0 (fun I' F' H' a w => Rel K I' F' (upd G q u) w H' ∧ ∀ H'', Rel K I' F' G w H'' → R I' F' H'' a w) r := by
 cases r with
 | ok a w => exact fun I' F' H' e q => ⟨q, fun H'' q' => p I' F' H'' e q'⟩
 | AG x w => exact fun I' F' H' c d e q rx => p I' F' H' c d e (xP q hG) rx
 | bad => exact p
structure KTab (K : PySem.W.Frag) (w : World) (d : Addr) (tab : List (Str × Option D)) : Prop where
 ex : ∃ es n, KDict K w d es n
 hit : ∀ z x, tab.lookup z = some (some x) → ∃ u v, PySem.W.nsIn K d z = some (some u) ∧ RelV v u ∧ ∀ I F, aG K I F x v
 miss : ∀ z, tab.lookup z = some none → PySem.W.nsIn K d z = some none
 out : ∀ z, tab.lookup z = none → PySem.W.nsIn K d z = some none
def FT (d : Addr) (tab : List (Str × Option D)) (x y : D) (w : W) : Res D := match x, y with
 | .str z, .con a => if a = d then (match tab.lookup z with
  | some o => .ok (.bl o.isSome) w
  | none => .ok (.bl false) w) else .bad
 | _, _ => .bad
def KZ (d : Addr) (tab : List (Str × Option D)) (x y : D) (w : W) : Res D := match x, y with
 | .con a, .str z => if a = d then (match tab.lookup z with
  | some (some v) => .ok v w
  | _ => .bad) else .bad
 | _, _ => .bad
theorem U8 {S : aQ} {d : Addr} {tab : List (Str × Option D)} (T : KTab S.K S.w d tab) : O2 S (compareOp .In) (FT d tab) := iE fun X E c xo I F G a b w H x y Q rel rd re p => by
 unfold FT at p
 split at p
 ·rename_i z a'
  simp only [aG] at rd re
  subst rd re
  split at p
  ·rename_i hd
   subst hd
   obtain ⟨es, n, T1⟩ := T.ex
   rw [← c.K, ← c.w] at T1
   cases h : tab.lookup z with
   | none => rw [h] at p; exact ⟨_, op_in_kd T1, z, none, rfl, rfl, by rw [c.K]; exact T.out z h, p.nO rel (by simp [aG])⟩
   | some o =>
    rw [h] at p
    cases o with
    | none => exact ⟨_, op_in_kd T1, z, none, rfl, rfl, by rw [c.K]; exact T.miss z h, p.nO rel (by simp [aG])⟩
    | some v =>
     obtain ⟨u, v', h1, h2, h3⟩ := T.hit z v h
     exact ⟨_, op_in_kd T1, z, some u, rfl, rfl, by rw [c.K]; exact h1, p.nO rel (by simp [aG])⟩
  ·exact p.elim
 ·exact p.elim
theorem TX {S : aQ} {d : Addr} {tab : List (Str × Option D)} (T : KTab S.K S.w d tab) : MD S (KZ d tab) := E9 fun X E c xo I F G a b w H x y Q rel rd re p => by
 unfold KZ at p
 split at p
 ·rename_i a' z
  simp only [aG] at rd re
  subst rd re
  split at p
  ·rename_i hd
   subst hd
   obtain ⟨es, n, T1⟩ := T.ex
   rw [← c.K, ← c.w] at T1
   cases h : tab.lookup z with
   | none => rw [h] at p; exact p.elim
   | some o =>
    cases o with
    | none => rw [h] at p; exact p.elim
    | some v =>
    rw [h] at p
    obtain ⟨u, v', h1, h2, h3⟩ := T.hit z v h
    exact ⟨_, ix_kdict, a', z, v', rfl, rfl, ⟨es, n, u, T1.at_, T1.lit, by rw [c.K]; exact h1, h2⟩, p.nO rel (by rw [c.K]; exact h3 _ _)⟩
  ·exact p.elim
 ·exact p.elim
theorem V2 {S : aQ} {d : Addr} {tab : List (Str × Option D)} {a b : Expr} {ma mb : ME} {pos : Pos} (T : KTab S.K S.w d tab) (ha : JE S a ma) (hb : JE S b mb) (hs : PlainIx b := by intro _ _; rfl) : JE S (.Subscript a b pos) (aE (KZ d tab) ma mb) := fun X E c xo =>
 cG (pe_ix (TX T X E c xo) (ha X E c xo) (hb X E c xo) hs) fun _ _ _ h => rT h
open RZ (nextOf_tuple_item nextOf_tuple_end zipTH1 zipTH2 zipTH3 zipTH4)
abbrev nV (h : Heap) (z TI TO : Addr) (f0 : Value) : Prop :=
 h.get? z = some { cls := .type "zip", dict := none, data := .fields #[f0, .bool false, .bool true, .ref TI, .ref TO], slots := #[] }
abbrev PZ (h : Heap) (l1 l2 : Addr) : Heap := (zipTH4 h l1 l2).push { cls := .type "zip", data := .fields #[.none, .bool false, .bool true, .ref (zipTH2 h l1 l2).objs.size, .ref (zipTH3 h l1 l2).objs.size] }
theorem E7 (a b c : Value) : checkTypeCall "zip" ⟨[a, b], [(Str.ofString "strict", c)]⟩ = pure () := by kernel_rfl
theorem G7 (a b c : Value) : checkBuiltinCall "zip.__new__" ⟨[.type "zip", a, b], [(Str.ofString "strict", c)]⟩ = pure () := by kernel_rfl
theorem RQ (x a b c : Value) : argsOk "object.__init__" ⟨[x, a, b], [(Str.ofString "strict", c)]⟩ := by unfold argsOk; kernel_rfl
theorem UK (l1 l2 : Addr) (xs ys : Array Value) : Meets (Builtin.«zip.__new__» ⟨[.type "zip", .ref l1, .ref l2], [(Str.ofString "strict", .bool true)]⟩) (fun _ R s => s.heap.IsTuple l1 xs ∧ s.heap.IsTuple l2 ys ∧
   R (.ok (.ret (.ref (zipTH4 s.heap l1 l2).objs.size))) { s with heap := PZ s.heap l1 l2 }) :=
 .of_wp fun prog w A R s ⟨t1, t2, fin⟩ => by
  obtain ⟨hp, gs, dr, tk, os⟩ := s
  have sub0 := sub_zip
  have T1 : Heap.IsTuple (Shared.heap ⟨hp, gs, dr, tk, os⟩) l1 xs := t1
  have T2 : Heap.IsTuple (Shared.heap ⟨hp.push { cls := .type "tuple_iterator", data := .fields #[.ref l1, .int 0 0] }, gs, dr, tk, os⟩) l2 ys := Heap.IsTuple.push t2 _
  have s1 : (Str.ofString "strict" == ("strict" : Str)) = true := by decide +kernel
  have s2 : (Str.ofString "strict" != ("strict" : Str)) = false := by decide +kernel
  wp_walk using wpAny_pyIter_tuple T1, wpAny_pyIter_tuple T2
  exact ⟨_, rfl, fin⟩
open RZ (nextOf_tuple_item nextOf_tuple_end zipTH1 zipTH2 zipTH3 zipTH4)
section
variable {prog : Program} {w : World} {A : Around} {E : Value → Shared → Prop} {s : Shared}
theorem P2 {l1 l2 : Addr} {xs ys : Array Value} {Q : Value → Shared → Prop} (t1 : s.heap.IsTuple l1 xs) (t2 : s.heap.IsTuple l2 ys)
  (fin : ∀ g, nV g (s.heap.objs.size + 4) (s.heap.objs.size + 2) (s.heap.objs.size + 3) .none → IsPair g (s.heap.objs.size + 2) (.ref s.heap.objs.size) (.ref (s.heap.objs.size + 1)) → IsPair g (s.heap.objs.size + 3) .none .none →
   g.IsTupleIter s.heap.objs.size l1 0 → g.IsTupleIter (s.heap.objs.size + 1) l2 0 → (∀ c o, s.heap.get? c = some o → g.get? c = some o) → Q (.ref (s.heap.objs.size + 4)) { s with heap := g }) :
  wpAny (model prog w) A (call (.type "zip") [.ref l1, .ref l2] [(Str.ofString "strict", .bool true)]) Q E s := by
 refine callType_newKw F.called_zip (by decide) (E7 _ _ _) (G7 _ _ _) (fun x => RQ x _ _ _) F.entry_zip_new (UK l1 l2 xs ys) ⟨t1, t2, ?_⟩
 have n1 : (zipTH1 s.heap l1).objs.size = s.heap.objs.size + 1 := Heap.size_push ..
 have n2 : (zipTH2 s.heap l1 l2).objs.size = s.heap.objs.size + 2 := by rw [Heap.size_push, n1]
 have n3 : (zipTH3 s.heap l1 l2).objs.size = s.heap.objs.size + 3 := by rw [Heap.size_push, n2]
 have n4 : (zipTH4 s.heap l1 l2).objs.size = s.heap.objs.size + 4 := by rw [Heap.size_push, n3]
 have up1 : ∀ {c o}, (zipTH4 s.heap l1 l2).get? c = some o → (PZ s.heap l1 l2).get? c = some o := fun h => Heap.get?_push_of_some _ h
 have up2 : ∀ {c o}, (zipTH3 s.heap l1 l2).get? c = some o → (PZ s.heap l1 l2).get? c = some o := fun h => up1 (Heap.get?_push_of_some _ h)
 have up3 : ∀ {c o}, (zipTH2 s.heap l1 l2).get? c = some o → (PZ s.heap l1 l2).get? c = some o := fun h => up2 (Heap.get?_push_of_some _ h)
 have up4 : ∀ {c o}, (zipTH1 s.heap l1).get? c = some o → (PZ s.heap l1 l2).get? c = some o := fun h => up3 (Heap.get?_push_of_some _ h)
 have k5 : (PZ s.heap l1 l2).get? (zipTH4 s.heap l1 l2).objs.size = some _ := Heap.get?_push_size _ rfl
 have k4 : (PZ s.heap l1 l2).get? (zipTH3 s.heap l1 l2).objs.size = some _ := up1 (Heap.get?_push_size _ rfl)
 have k3 : (PZ s.heap l1 l2).get? (zipTH2 s.heap l1 l2).objs.size = some _ := up2 (Heap.get?_push_size _ rfl)
 have k2 : (PZ s.heap l1 l2).get? (zipTH1 s.heap l1).objs.size = some _ := up3 (Heap.get?_push_size _ rfl)
 have k1 : (PZ s.heap l1 l2).get? s.heap.objs.size = some _ := up4 (Heap.get?_push_size _ rfl)
 show _ ∧ _
 rw [n2, n3, n4] at k5
 rw [n1, n2] at k3
 rw [n3] at k4
 rw [n1] at k2
 rw [n4]
 exact ⟨⟨_, k5, rfl⟩, fin _ k5 k3 k4 ⟨_, k1, rfl, rfl⟩ ⟨_, k2, rfl, rfl⟩ fun c o h => up4 (Heap.get?_push_of_some _ h)⟩
theorem DT {it l : Addr} {i : Nat} {items : Array Value} {x : Value} {Q : Option Value → Shared → Prop} (a : s.heap.IsTupleIter it l i) (b : s.heap.IsTuple l items) (c : items[i]? = some x)
  (q : ∀ g, g.IsTupleIter it l (i + 1) → Heap.SameBut it s.heap g → Q (some x) { s with heap := g }) : wpAny (model prog w) A (Builtin.SmallTypes.nextOrEnd (.ref it)) Q E s := by
 unfold Builtin.SmallTypes.nextOrEnd
 exact wpAny_bind (wpAny_attempt (nextOf_tuple_item a b c fun g g1 g2 => wpAny_pure (q g g1 g2)))
theorem II {it l : Addr} {i : Nat} {items : Array Value} {Q : Option Value → Shared → Prop} (hh : A.handled = none) (a : s.heap.IsTupleIter it l i) (b : s.heap.IsTuple l items) (c : items[i]? = none)
  (q : ∀ g, Heap.ExtBut it s.heap g → Q none { s with heap := g }) : wpAny (model prog w) A (Builtin.SmallTypes.nextOrEnd (.ref it)) Q E s := by
 unfold Builtin.SmallTypes.nextOrEnd
 refine wpAny_bind (wpAny_attempt (nextOf_tuple_end hh a b c fun g e g1 ⟨o, g2, g3⟩ => ?_))
 refine wpAny_bind (wpAny_isInstance (T := "StopIteration") (b := true) ⟨o, g2, g3⟩ isSubtype_stop ?_)
 exact wpAny_pure (q g g1)
theorem wR {T : Addr} {a b x : Value} {k : Nat} {Q : Unit → Shared → Prop} (h : IsPair s.heap T a b) (q : ∀ g, g.get? T = some { cls := .type "tuple", data := .seq ((#[a, b] : Array Value).setIfInBounds k x) } → Heap.SameBut T s.heap g → Q () { s with heap := g }) :
  wpAny (model prog w) A (updateSeq T (·.setIfInBounds k x)) Q E s := wpAny_updateSeq_pair h q
theorem Q9 {z TI TO i1 i2 l1 l2 : Addr} {k : Nat} {xs ys : Array Value} {x y a b : Value} {Q : Value → Shared → Prop} (D : ZipApart z TI TO i1 i2 l1 l2)
  (hz : nV s.heap z TI TO .none) (hI : IsPair s.heap TI (.ref i1) (.ref i2)) (hO : IsPair s.heap TO a b) (a1 : s.heap.IsTupleIter i1 l1 k) (a2 : s.heap.IsTupleIter i2 l2 k) (b1 : s.heap.IsTuple l1 xs) (b2 : s.heap.IsTuple l2 ys) (c1 : xs[k]? = some x) (c2 : ys[k]? = some y)
  (fin : ∀ g, nV g z TI TO (rawInt s.heap.objs.size) → IsPair g TO x y → g.IsTupleIter i1 l1 (k + 1) → g.IsTupleIter i2 l2 (k + 1) → IsPair g s.heap.objs.size x y → (∀ c o, c ≠ z → c ≠ TO → c ≠ i1 → c ≠ i2 → s.heap.get? c = some o → g.get? c = some o) → Q (.ref s.heap.objs.size) { s with heap := g }) :
  wpAny (model prog w) A (Builtin.«zip.__next__» ⟨[.ref z], []⟩) (fun f t => ∃ v, f = .done (.ret v) ∧ Q v t) E s := by
 show wpAny _ _ (field (.ref z) 2 >>= _) _ _ _
 refine wpAny_bind (wpAny_field hz rfl (x := .bool true) rfl ?_)
 show wpAny _ _ (field (.ref z) 3 >>= _) _ _ _
 refine wpAny_bind (wpAny_field hz rfl (x := .ref TI) rfl ?_)
 refine wpAny_bind (wpAny_seqItems hI rfl ?_)
 show wpAny _ _ (Builtin.SmallTypes.ownedTupleIsFree (.ref z) >>= _) _ _ _
 refine wpAny_bind ?_
 unfold Builtin.SmallTypes.ownedTupleIsFree
 refine wpAny_bind (wpAny_field hz rfl (x := .none) rfl (wpAny_pure ?_))
 simp only [ae]
 refine wpAny_bind (wpAny_rule ?_)
 refine wpAny_bind (wpAny_field hz rfl (x := .ref TO) rfl ?_)
 refine wpAny_bind (wpAny_setField_rec hz (by simp) fun g1 z1 s1 => ?_)
 have z1' : nV g1 z TI TO .ellipsis := z1
 refine wpAny_bind ?_
 simp only [List.zipIdx_cons, List.zipIdx_nil, List.forIn_cons, List.forIn_nil]
 refine wpAny_bind (wpAny_bind (wpAny_onRaise ?_))
 show wpAny _ _ (Builtin.SmallTypes.nextOrEnd (.ref i1)) _ _ _
 refine DT (a1.extBut s1.extBut D.i1z) (b1.extBut s1.extBut D.l1z) c1 fun g2 d1 s2 => ?_
 have O2 : IsPair g2 TO a b := s2.extBut _ _ D.TOi1 (s1.extBut _ _ D.TOz hO)
 refine wpAny_bind (wpAny_seqItems O2 rfl ?_)
 refine wpAny_bind (wR O2 fun g3 O3 s3 => ?_)
 have O3' : IsPair g3 TO x b := O3
 refine wpAny_bind (wpAny_letGo (wpAny_pure ?_))
 refine wpAny_bind (wpAny_bind (wpAny_onRaise ?_))
 show wpAny _ _ (Builtin.SmallTypes.nextOrEnd (.ref i2)) _ _ _
 refine DT (((a2.extBut s1.extBut D.i2z).extBut s2.extBut D.i12.symm).extBut s3.extBut D.TOi2.symm) (((b2.extBut s1.extBut D.l2z).extBut s2.extBut D.l2i1).extBut s3.extBut D.l2TO) c2 fun g4 d2 s4 => ?_
 have O4 : IsPair g4 TO x b := s4.extBut _ _ D.TOi2 O3'
 refine wpAny_bind (wpAny_seqItems O4 rfl ?_)
 refine wpAny_bind (wR O4 fun g5 O5 s5 => ?_)
 have O5' : IsPair g5 TO x y := O5
 refine wpAny_bind (wpAny_letGo (wpAny_pure (wpAny_pure ?_)))
 refine wpAny_bind (wpAny_seqItems O5' rfl ?_)
 refine wpAny_bind (wpAny_newTuple ?_)
 have size5 : g5.objs.size = s.heap.objs.size := by rw [s5.1, s4.1, s3.1, s2.1, s1.1]
 have z5 : nV g5 z TI TO .ellipsis := s5.extBut _ _ D.TOz.symm (s4.extBut _ _ D.i2z.symm (s3.extBut _ _ D.TOz.symm (s2.extBut _ _ D.i1z.symm z1')))
 have kp : ∀ c o, c ≠ z → c ≠ TO → c ≠ i1 → c ≠ i2 → s.heap.get? c = some o → g5.get? c = some o := fun c o n1 n2 n3 n4 e =>
  s5.extBut _ _ n2 (s4.extBut _ _ n4 (s3.extBut _ _ n2 (s2.extBut _ _ n3 (s1.extBut _ _ n1 e))))
 have d1' : g5.IsTupleIter i1 l1 (k + 1) := ((d1.extBut s3.extBut D.TOi1.symm).extBut s4.extBut D.i12).extBut s5.extBut D.TOi1.symm
 have d2' : g5.IsTupleIter i2 l2 (k + 1) := d2.extBut s5.extBut D.TOi2.symm
 have zl : z < g5.objs.size := Heap.lt_size z5
 show wpAny _ _ (Builtin.SmallTypes.ownedTupleHandOut (.ref z) (.ref g5.objs.size) >>= _) _ _ _
 refine wpAny_bind ?_
 unfold Builtin.SmallTypes.ownedTupleHandOut
 have z6 : nV (g5.push { cls := .type "tuple", data := .seq #[x, y] }) z TI TO .ellipsis := Heap.get?_push_of_some _ z5
 refine wpAny_bind (wpAny_setField_rec z6 (by simp) fun g7 z7 s7 => ?_)
 have z7' : nV g7 z TI TO (rawInt g5.objs.size) := z7
 refine wpAny_setField_rec z7' (by simp) fun g8 z8 s8 => ?_
 have z8' : nV g8 z TI TO (rawInt g5.objs.size) := z8
 have up : ∀ c o, c ≠ z → g5.get? c = some o → g8.get? c = some o := fun c o n e => s8.extBut _ _ n (s7.extBut _ _ n (Heap.get?_push_of_some _ e))
 have T8 : IsPair g8 g5.objs.size x y := s8.extBut _ _ (Nat.ne_of_gt zl) (s7.extBut _ _ (Nat.ne_of_gt zl) (Heap.get?_push_size _ rfl))
 rw [size5] at z8' T8
 refine wpAny_pure ⟨_, rfl, ?_⟩
 show Q (.ref g5.objs.size) _
 rw [size5]
 exact fin g8 z8' (up _ _ D.TOz O5') (d1'.at fun o e => up _ o D.i1z e) (d2'.at fun o e => up _ o D.i2z e) T8 fun c o n1 n2 n3 n4 e => up c o n1 (kp c o n1 n2 n3 n4 e)
theorem TZ {z TI TO i1 i2 l1 l2 : Addr} {k : Nat} {xs ys : Array Value} {a b : Value} {Q : Fin → Shared → Prop} (hh : A.handled = none) (D : ZipApart z TI TO i1 i2 l1 l2)
  (hz : nV s.heap z TI TO .none) (hI : IsPair s.heap TI (.ref i1) (.ref i2)) (hO : IsPair s.heap TO a b) (a1 : s.heap.IsTupleIter i1 l1 k) (a2 : s.heap.IsTupleIter i2 l2 k) (b1 : s.heap.IsTuple l1 xs) (b2 : s.heap.IsTuple l2 ys) (c1 : xs[k]? = none) (c2 : ys[k]? = none)
  (fin : ∀ g e, (∀ c o, c ≠ z → c ≠ TO → c ≠ i1 → c ≠ i2 → s.heap.get? c = some o → g.get? c = some o) → (∃ o, g.get? e = some o ∧ o.cls = .type "StopIteration") → E (.ref e) { s with heap := g }) :
  wpAny (model prog w) A (Builtin.«zip.__next__» ⟨[.ref z], []⟩) Q E s := by
 show wpAny _ _ (field (.ref z) 2 >>= _) _ _ _
 refine wpAny_bind (wpAny_field hz rfl (x := .bool true) rfl ?_)
 show wpAny _ _ (field (.ref z) 3 >>= _) _ _ _
 refine wpAny_bind (wpAny_field hz rfl (x := .ref TI) rfl ?_)
 refine wpAny_bind (wpAny_seqItems hI rfl ?_)
 show wpAny _ _ (Builtin.SmallTypes.ownedTupleIsFree (.ref z) >>= _) _ _ _
 refine wpAny_bind ?_
 unfold Builtin.SmallTypes.ownedTupleIsFree
 refine wpAny_bind (wpAny_field hz rfl (x := .none) rfl (wpAny_pure ?_))
 simp only [ae]
 refine wpAny_bind (wpAny_rule ?_)
 refine wpAny_bind (wpAny_field hz rfl (x := .ref TO) rfl ?_)
 refine wpAny_bind (wpAny_setField_rec hz (by simp) fun g1 z1 s1 => ?_)
 have z1' : nV g1 z TI TO .ellipsis := z1
 refine wpAny_bind ?_
 simp only [List.zipIdx_cons, List.zipIdx_nil, List.forIn_cons, List.forIn_nil]
 refine wpAny_bind (wpAny_bind (wpAny_onRaise ?_))
 show wpAny _ _ (Builtin.SmallTypes.nextOrEnd (.ref i1)) _ _ _
 refine II hh (a1.extBut s1.extBut D.i1z) (b1.extBut s1.extBut D.l1z) c1 fun g2 s2 => ?_
 have z2 : nV g2 z TI TO .ellipsis := s2 _ _ D.i1z.symm z1'
 refine wpAny_bind (wpAny_setField_rec z2 (by simp) fun g3 _ s3 => ?_)
 refine wpAny_bind (wpAny_bind ?_)
 show wpAny _ _ (forIn ((List.drop 1 [Value.ref i1, Value.ref i2]).zipIdx 1) PUnit.unit _) _ _ _
 simp only [List.drop_succ_cons, List.drop_zero, List.zipIdx_cons, List.zipIdx_nil, List.forIn_cons, List.forIn_nil]
 refine wpAny_bind (wpAny_bind (II hh (((a2.extBut s1.extBut D.i2z).extBut s2 D.i12.symm).extBut s3.extBut D.i2z) (((b2.extBut s1.extBut D.l2z).extBut s2 D.l2i1).extBut s3.extBut D.l2z) c2 fun g4 s4 => ?_))
 show wpAny _ _ (pure (ForInStep.yield PUnit.unit)) _ _ _
 refine wpAny_pure ?_
 refine wpAny_pure ?_
 refine wpAny_bind (wpAny_rule ?_)
 unfold Builtin.SmallTypes.stopIteration
 refine wpAny_bind ?_
 simp only [newExc, newTuple]
 refine wpAny_bind (wpAny_newObj_type ?_ (by size_fits))
 refine wpAny_bind (m := firstArgMember _ _) (wpAny_of_eq (a := Value.none) (by first | rfl | (simp only [firstArgMember]; rfl)) ?_)
 refine wpAny_newObj_type ?_ (by size_fits)
 simp only [raiseNew]
 refine wpAny_bind (wpAny_handled ?_)
 rw [hh]
 refine wpAny_bind (wpAny_pure (wpAny_throw ?_))
 refine fin _ _ (fun c o n1 _ n3 n4 e => ?_) ⟨_, Heap.get?_push_size _ rfl, rfl⟩
 exact Heap.get?_push_of_some _ (Heap.get?_push_of_some _ (s4 _ _ n4 (s3.extBut _ _ n1 (s2 _ _ n3 (s1.extBut _ _ n1 e)))))
theorem C0 {z TI TO i1 i2 l1 l2 : Addr} {k : Nat} {xs ys : Array Value} {x y a b : Value} {Q : Option Value → Shared → Prop} (D : ZipApart z TI TO i1 i2 l1 l2)
  (hz : nV s.heap z TI TO .none) (hI : IsPair s.heap TI (.ref i1) (.ref i2)) (hO : IsPair s.heap TO a b) (a1 : s.heap.IsTupleIter i1 l1 k) (a2 : s.heap.IsTupleIter i2 l2 k) (b1 : s.heap.IsTuple l1 xs) (b2 : s.heap.IsTuple l2 ys) (c1 : xs[k]? = some x) (c2 : ys[k]? = some y)
  (fin : ∀ g, nV g z TI TO (rawInt s.heap.objs.size) → IsPair g TO x y → g.IsTupleIter i1 l1 (k + 1) → g.IsTupleIter i2 l2 (k + 1) → IsPair g s.heap.objs.size x y → (∀ c o, c ≠ z → c ≠ TO → c ≠ i1 → c ≠ i2 → s.heap.get? c = some o → g.get? c = some o) → Q (some (.ref s.heap.objs.size)) { s with heap := g }) :
  wpAny (model prog w) A (pyNext (.ref z)) Q E s := by
 have ty : s.TypeIs (.ref z) "zip" := ⟨_, hz, rfl⟩
 unfold pyNext
 exact wpAny_bind (wpAny_attempt (wpAny_callSpecial?_slot (name := Str.ofString "__next__") ty F.slot_zip_next (wpAny_call_entry F.slot_zip_next ty F.entry_zip_next (Q9 D hz hI hO a1 a2 b1 b2 c1 c2 fun g e1 e2 e3 e4 e5 e6 => wpAny_pure (fin g e1 e2 e3 e4 e5 e6)) (F.args_zip_next_1 _))))
theorem GA {z TI TO i1 i2 l1 l2 : Addr} {k : Nat} {xs ys : Array Value} {a b : Value} {Q : Option Value → Shared → Prop} (hh : A.handled = none) (D : ZipApart z TI TO i1 i2 l1 l2)
  (hz : nV s.heap z TI TO .none) (hI : IsPair s.heap TI (.ref i1) (.ref i2)) (hO : IsPair s.heap TO a b) (a1 : s.heap.IsTupleIter i1 l1 k) (a2 : s.heap.IsTupleIter i2 l2 k) (b1 : s.heap.IsTuple l1 xs) (b2 : s.heap.IsTuple l2 ys) (c1 : xs[k]? = none) (c2 : ys[k]? = none)
  (fin : ∀ g, (∀ c o, c ≠ z → c ≠ TO → c ≠ i1 → c ≠ i2 → s.heap.get? c = some o → g.get? c = some o) → Q none { s with heap := g }) : wpAny (model prog w) A (pyNext (.ref z)) Q E s := by
 have ty : s.TypeIs (.ref z) "zip" := ⟨_, hz, rfl⟩
 unfold pyNext
 refine wpAny_bind (wpAny_attempt (wpAny_callSpecial?_slot (name := Str.ofString "__next__") ty F.slot_zip_next (wpAny_call_entry F.slot_zip_next ty F.entry_zip_next (TZ hh D hz hI hO a1 a2 b1 b2 c1 c2 fun g e kp he => ?_) (F.args_zip_next_1 _))))
 obtain ⟨o, h1, h2⟩ := he
 refine wpAny_bind (wpAny_isInstance (T := "StopIteration") (b := true) ⟨o, h1, h2⟩ isSubtype_stop ?_)
 exact wpAny_pure (fin _ kp)
theorem JP {z TI TO : Addr} {f0 : Value} {Q : Value → Shared → Prop} (hz : nV s.heap z TI TO f0) (h : Q (.ref z) s) : wpAny (model prog w) A (pyIter (.ref z)) Q E s := by
 have ty : s.TypeIs (.ref z) "zip" := ⟨_, hz, rfl⟩
 refine wpAny_pyIter_slot ty F.slot_zip_iter (wpAny_call_entry F.slot_zip_iter ty F.entry_zip_iter ?_ (F.args_zip_iter_1 _))
 show wpAny _ _ (ret (.ref z)) _ _ s
 exact wpAny_pure ⟨_, rfl, "zip", _, ty, F.slot_zip_next.lookup, h⟩
theorem N9 {elts : List Expr} {x1 : Nat} {pos : Pos} {z TI TO T : Addr} {Q : Unit → Shared → Prop} (hz : nV s.heap z TI TO (rawInt T))
  (fin : ∀ g, nV g z TI TO .none → Heap.SameBut z s.heap g → Q () { s with heap := g }) : wpAny (model prog w) A (letOwnedTupleGo (.Tuple elts x1 pos) (.ref z) (.ref T)) Q E s := by
 unfold letOwnedTupleGo
 refine wpAny_bind (wpAny_load hz ?_)
 show wpAny _ _ (if (["enumerate", "zip", "dict_itemiterator", "dict_reverseitemiterator", "odict_iterator", "itertools.zip_longest", "itertools.pairwise"].contains "zip" &&
   (#[rawInt T, .bool false, .bool true, .ref TI, .ref TO] : Array Value)[0]? == some (rawInt T)) = true then _ else _) Q E s
 rw [if_pos (by simp)]
 refine wpAny_bind (wpAny_rule ?_)
 show wpAny _ _ (setField (.ref z) 0 .none) Q E s
 exact wpAny_setField_rec hz (by simp) fun g h1 h2 => fin g h1 h2
end
def YG (K : PySem.W.Frag) (a b : Addr) : It :=
 ⟨fun i H => ∃ (xs ys : List V) (x y : V), SqT K H a xs ∧ SqT K H b ys ∧ xs[i]? = some x ∧ ys[i]? = some y,
  fun i H v H' => ∃ T x y, v = .ref T ∧ H T = none ∧ H' = upd H T (.tup [x, y]) ∧ (∀ xs, SqT K H a xs → xs[i]? = some x) ∧ ∀ ys, SqT K H b ys → ys[i]? = some y,
  fun i H => ∃ xs ys : List V, SqT K H a xs ∧ SqT K H b ys ∧ xs.length ≤ i ∧ ys.length ≤ i⟩
theorem Q7 {P : Program} {w : World} {K : PySem.W.Frag} {elts : List Expr} {kk : Nat} {tpos : Pos} {a b z TI TO i1 i2 : Addr} (D : ZipApart z TI TO i1 i2 a b) :
  Turn P w K (.Tuple elts kk tpos) (YG K a b) [z, TI, TO, i1, i2] z (fun i h => nV h z TI TO .none ∧ IsPair h TI (.ref i1) (.ref i2) ∧ (∃ x y, IsPair h TO x y) ∧ h.IsTupleIter i1 a i ∧ h.IsTupleIter i2 b i) where
 mem := by simp
 obj := fun i h st c hc => by
  obtain ⟨f1, f2, ⟨x, y, f3⟩, ⟨o1, e1, _, d1⟩, ⟨o2, e2, _, d2⟩⟩ := st
  have cs : c = z ∨ c = TI ∨ c = TO ∨ c = i1 ∨ c = i2 := by simpa using hc
  rcases cs with rfl | rfl | rfl | rfl | rfl
  ·exact ⟨_, f1, fun v q => nomatch q⟩
  ·exact ⟨_, f2, fun v q => nomatch q⟩
  ·exact ⟨_, f3, fun v q => nomatch q⟩
  ·exact ⟨o1, e1, fun v q => by rw [d1] at q; cases q⟩
  ·exact ⟨o2, e2, fun v q => by rw [d2] at q; cases q⟩
 keep := fun i h h' st k => by
  obtain ⟨f1, f2, ⟨x, y, f3⟩, f4, f5⟩ := st
  exact ⟨k z (by simp) _ f1, k TI (by simp) _ f2, ⟨x, y, k TO (by simp) _ f3⟩, f4.at fun o q => k i1 (by simp) o q, f5.at fun o q => k i2 (by simp) o q⟩
 item := by
  intro X hP hw hK hc i pins s σ H E I fp st go
  subst hP hw hK
  obtain ⟨f1, f2, ⟨x0, y0, f3⟩, f4, f5⟩ := st
  obtain ⟨xs, ys, x, y, qx, qy, gx, gy⟩ := go
  obtain ⟨us, rv, p, _⟩ := I.tuple qx
  obtain ⟨us2, rv2, p2, _⟩ := I.tuple qy
  obtain ⟨u, hu, ru⟩ := rv.get gx
  obtain ⟨u2, hu2, ru2⟩ := rv2.get gy
  have zl : z < s.heap.objs.size := Heap.lt_size f1
  refine C0 D f1 f2 f3 f4 f5 p p2 (x := u) (y := u2) (by simpa using hu) (by simpa using hu2) fun g z' TO' h1' h2' hT hk => ?_
  refine ⟨_, rfl, N9 (s := { s with heap := g }) z' fun g2 z'' sb => ?_⟩
  have hT2 : g2.get? s.heap.objs.size = some { cls := .type "tuple", data := .seq #[u, u2] } := (sb.2 _ (Nat.ne_of_gt zl)).trans hT
  have new : ObjOk X.prog X.w (upd H s.heap.objs.size (.tup [x, y])) g2 s.heap.objs.size (.tup [x, y]) := ⟨by show 2 ≤ sizeLine; decide, [u, u2], .cons ru (.cons ru2 .nil), ⟨_, hT2, rfl, _, rfl⟩⟩
  have I1 : Inv X pins σ (upd H s.heap.objs.size (.tup [x, y])) { s with heap := g2 } :=
   I.turnedNew (t' := s.toks) (ch := [z, TI, TO, i1, i2]) (fun c o hb q => by
    simp only [ao, bg, or_false, not_or] at hb
    exact (sb.2 c hb.1).trans (hk c o hb.1 hb.2.2.1 hb.2.2.2.1 hb.2.2.2.2 q)) fp (ay _) new
  refine ⟨.ref s.heap.objs.size, _, I1, rfl, ⟨_, x, y, rfl, I.hok.fresh (ay _), rfl, fun l hl => by rw [I.tuple_inj hl qx]; exact gx, fun l hl => by rw [I.tuple_inj hl qy]; exact gy⟩, ⟨z'', ?_, ⟨u, u2, ?_⟩, ?_, ?_⟩, fun c hcm => ?_⟩
  ·exact (sb.2 _ D.TIz).trans (hk _ _ D.TIz D.TITO D.TIi1 D.TIi2 f2)
  ·exact (sb.2 _ D.TOz).trans TO'
  ·exact h1'.at fun o q => (sb.2 _ D.i1z).trans q
  ·exact h2'.at fun o q => (sb.2 _ D.i2z).trans q
  ·have hlt : c < s.heap.objs.size := by
    have cs : c = z ∨ c = TI ∨ c = TO ∨ c = i1 ∨ c = i2 := by simpa using hcm
    rcases cs with rfl | rfl | rfl | rfl | rfl
    ·exact zl
    ·exact Heap.lt_size f2
    ·exact Heap.lt_size f3
    ·obtain ⟨_, e1, _⟩ := f4; exact Heap.lt_size e1
    ·obtain ⟨_, e2, _⟩ := f5; exact Heap.lt_size e2
   rw [upd_ne (Nat.ne_of_lt hlt)]
   exact (fp c hcm).1
 done := by
  intro X hP hw hK hc i pins s σ H E I fp st go
  subst hP hw hK
  obtain ⟨f1, f2, ⟨x0, y0, f3⟩, f4, f5⟩ := st
  obtain ⟨xs, ys, qx, qy, e1, e2⟩ := go
  obtain ⟨us, rv, p, _⟩ := I.tuple qx
  obtain ⟨us2, rv2, p2, _⟩ := I.tuple qy
  have l1 := rv.length
  have l2 := rv2.length
  refine GA (I.ok.hd hc) D f1 f2 f3 f4 f5 p p2 (by simp; omega) (by simp; omega) fun g hk => ⟨rfl, I.turnedL (t' := s.toks) (ch := [z, TI, TO, i1, i2]) (fun c o hb q => ?_) fp⟩
  simp only [ao, bg, or_false, not_or] at hb
  exact hk c o hb.1 hb.2.2.1 hb.2.2.2.1 hb.2.2.2.2 q
 self := fun A i s Q E st h => JP st.1 h
section
variable {M : Model} {A : Around} {E : Value → Shared → Prop} {s : Shared} {env : Env}
theorem zK {pos : Pos} {T : String} {first : List Value} {args : List (Bool × Sem Value)} {kws : List (Option Str × Sem Value)} {Q : Value → Shared → Prop} (p1 : args.any (·.1) = false) (p2 : kws.any (·.1.isNone) = false)
  (h : wpAny M A (evalArgs (.type T) true args kws) (fun a t => wpAny M A (call (.type T) (first ++ a.pos) a.kw) Q E t) E s) : wpAny M A (callWith pos (.type T) first args kws) Q E s := by
 unfold callWith
 refine wpAny_bind (wpAny_holding (wpAny_mono h (fun a t g => wpAny_bind (wpAny_standAt ?_)) fun _ _ z => z))
 simp only [p1, p2, Bool.or_false]
 refine wpAny_bind (wpAny_pure ?_)
 exact wpAny_bind (wpAny_mono g (fun r t2 hr => wpAny_bind (wpAny_holding (wpAny_point (wpAny_pure hr)))) fun _ _ z => z)
end
section
variable {X : Cx} {e e2 : Expr} {ta : TA} {p pos tpos cp kp : Pos} {elts : List Expr} {kk k : Nat}
def iZs (K : PySem.W.Frag) (ta : TA) : TI := fun σ H R => ta σ H fun vs H1 => ∃ a b xs ys, vs = [V.ref a, V.ref b] ∧ SqT K H1 a xs ∧ SqT K H1 b ys ∧ R (YG K a b) H1
theorem XG (hg : Gl X "zip") (hm : X.mg "zip" = none) (ha : PA X [e, e2] ta) (hs : starEach [e, e2] X.env = (false, eval e X.env) :: starEach [e2] X.env := by rfl) (hpl : (backTo pos (starEach [e, e2] X.env)).any (·.1) = false := by rfl)
  (hk1 : (backToKw pos (keywordEach [⟨some "strict", .Constant (.bool true) k cp, kp⟩] X.env)).any (·.1.isNone) = false := by rfl) (hk2 : (backToKw pos (keywordEach [⟨some "strict", .Constant (.bool true) k cp, kp⟩] X.env)).all (·.1.isSome) = true := by rfl)
  (hk3 : (backToKw pos (keywordEach [⟨some "strict", .Constant (.bool true) k cp, kp⟩] X.env)).filterMap (·.1) = [Str.ofString "strict"] := by rfl) :
  PI X (.Tuple elts kk tpos) (.Call (.Name "zip" p) [e, e2] [⟨some "strict", .Constant (.bool true) k cp, kp⟩] pos) (iZs X.K ta) := by
 refine ⟨fun pins s σ H R I h => ?_⟩
 refine wpAny_Call_Name_kw (ld_blt I hg hm PyProof.Rows.boot_zip (zK hpl hk1 ?_))
 have hA := ha.run pos pins s σ H _ I h
 rw [hs] at hA ⊢
 refine evalArgs_kwB hk2 (thn hA fun us s1 ⟨vs, H1, I1, r1, a, b, xs, ys, ex, qx, qy, q⟩ => ?_)
 subst ex
 rw [hk3]
 refine thn ((pk_cons (nm := some "strict") (kpos := kp) (pe_bl (b := true) (j := k) (pos := cp)) pk_nil).run pos pins s1 σ H1 (fun zs H2 => zs = [V.bl true] ∧ H2 = H1) I1 ⟨rfl, rfl⟩) fun ws s2 ⟨zs, H2, I2, rz, ez, eH⟩ => ?_
 subst ez eH
 obtain ⟨w1, rfl, rw1⟩ := rz.one
 cases rw1
 obtain ⟨u1, u2, rfl, ra, rb⟩ := r1.two
 cases ra
 cases rb
 obtain ⟨us1, rv, p1, _⟩ := I2.tuple qx
 obtain ⟨us2, rv2, p2, _⟩ := I2.tuple qy
 obtain ⟨o1, ho1, _⟩ := id p1
 obtain ⟨o2, ho2, _⟩ := id p2
 refine P2 (show s2.heap.IsTuple a us1.toArray from p1) (show s2.heap.IsTuple b us2.toArray from p2) fun g hz hI hO h1 h2 hk => JP hz ?_
 have I3 : Inv X pins σ H2 { s2 with heap := g } := I2.kept (t' := s2.toks) hk
 refine ⟨s2.heap.objs.size + 4, [s2.heap.objs.size + 4, s2.heap.objs.size + 2, s2.heap.objs.size + 3, s2.heap.objs.size, s2.heap.objs.size + 1], _, _, H2, rfl, I3, Q7 (PySem.W.ktu_apart s2.heap.objs.size a b (Heap.lt_size ho1) (Heap.lt_size ho2)), ⟨hz, hI, ⟨_, _, hO⟩, h1, h2⟩, fun c hc => ?_, q⟩
 have le : s2.heap.objs.size ≤ c := by
  simp only [ao, bg, or_false] at hc
  rcases hc with rfl | rfl | rfl | rfl | rfl <;> omega
 exact I2.fpOk le (I2.hok.fresh le)
end
def VF (ds : List D) (w : W) : Res lA := match ds with
 | [x, y] => (match qT x, qT y with
  | some xs, some ys => if xs.length = ys.length then .ok ⟨(xs.zip ys).map fun p => .tup [p.1, p.2], always⟩ w else .bad
  | _, _ => .bad)
 | _ => .bad
theorem EI {K : PySem.W.Frag} {I : List Addr} {F : Hp} {d : D} {v : V} {xs : List D} (h : aG K I F d v) (e : qT d = some xs) : ∃ a vs, v = .ref a ∧ SqT K F a vs ∧ RepL K I F xs vs := by
 cases d <;> simp only [qT, af, reduceCtorEq] at e <;> simp only [aG] at h
 case tup => subst e; obtain ⟨a, vs, h0, h1, h2⟩ := h; exact ⟨a, vs, h0, .of h1, h2⟩
 case nX => subst e; obtain ⟨a, vs, h0, h1, h2⟩ := h; exact ⟨a, vs, h0, h1, h2⟩
theorem YE {S : aQ} {e e2 : Expr} {ma : MA} {p pos tpos cp kp : Pos} {elts : List Expr} {kk k : Nat} (hg : S.sc.names.lookup ("zip" : Str) = some .globalImplicit) (hm : S.mg "zip" = none) (ha : JA S [e, e2] ma)
  (hs : ∀ env : Env, starEach [e, e2] env = (false, eval e env) :: starEach [e2] env := by intro _; rfl) (hpl : ∀ env : Env, (backTo pos (starEach [e, e2] env)).any (·.1) = false := by intro _; rfl) :
  JI S (.Tuple elts kk tpos) (.Call (.Name "zip" p) [e, e2] [⟨some "strict", .Constant (.bool true) k cp, kp⟩] pos) (dS VF ma) := fun X E cx xo =>
 A6 (XG (by show X.env.scope.names.lookup _ = _; rw [cx.sc]; exact hg) (by rw [cx.mg]; exact hm) (ha X E cx xo) (hs X.env) (hpl X.env)) fun σ H R ⟨I, F, G, ds, w, rel, rs, p⟩ => eO (f := fun _ => VF) rel rs p fun I1 F1 H1 xs w1 vs e1 rel1 rs1 rv p1 => by
  unfold VF at p1
  split at p1
  ·rename_i x y
   obtain ⟨v, u, rfl, rx, ry⟩ := rv.two
   split at p1
   ·rename_i xs ys hx hy
    split at p1
    ·rename_i hl
     obtain ⟨a, us, rfl, q1, q2⟩ := EI rx hx
     obtain ⟨b, ts, rfl, q3, q4⟩ := EI ry hy
     refine ⟨a, b, us, ts, rfl, rel1.EN q1, rel1.EN q3, p1 I1 F1 H1 .refl rel1 trivial _ fun I' F' G' w' H' j e' rel' _ => ?_⟩
     have t1 := rel'.EN (v9 e' q1)
     have t2 := rel'.EN (v9 e' q3)
     have r1 := RepL.ext e' _ _ q2
     have r2 := RepL.ext e' _ _ q4
     have l1 : xs.length = us.length := r1.length
     have l2 : ys.length = ts.length := r2.length
     refine ⟨fun x hx => ?_, fun hj => ⟨us, ts, t1, t2, ?_, ?_⟩⟩
     ·rw [bx] at hx
      cases hz : (xs.zip ys)[j]? with
      | none => rw [hz] at hx; cases hx
      | some pr =>
       rw [hz] at hx
       cases hx
       obtain ⟨pa, pb⟩ := pr
       rw [List.getElem?_zip_eq_some] at hz
       obtain ⟨v1, g1, g2⟩ := r1.get hz.1
       obtain ⟨v2, g3, g4⟩ := r2.get hz.2
       refine ⟨⟨us, ts, v1, v2, t1, t2, g1, g3⟩, fun v H'' y => ?_⟩
       obtain ⟨T, x', y', rfl, k1, rfl, k2, k3⟩ := y
       have z1 := k2 us t1
       have z2 := k3 ts t2
       rw [g1] at z1
       rw [g3] at z2
       cases z1
       cases z2
       exact K7 rel' (RepL.cons g2 (RepL.cons g4 (by simp [RepL]))) k1
     ·simp only [bu, List.length_zip] at hj; omega
     ·simp only [bu, List.length_zip] at hj; omega
    ·exact p1.elim
   ·exact p1.elim
  ·exact p1.elim
def JH : D → Value → Bool
 | .non, .none => true
 | .bl b, .bool c => b == c
 | .int i, .int j _ => decide (i = j)
 | .str x, .str y _ => decide (x = y)
 | _, _ => false
def vL : D → V
 | .bl b => .bl b
 | .int i => .int i
 | .str x => .str x
 | _ => .non
theorem FF {d : D} {u : Value} (h : JH d u = true) : RelV (vL d) u ∧ ∀ K I F, aG K I F d (vL d) := by
 cases d <;> cases u <;> simp only [JH, br, beq_iff_eq, ah] at h
 ·exact ⟨rfl, fun _ _ _ => by simp [aG, vL]⟩
 ·subst h; exact ⟨rfl, fun _ _ _ => by simp [aG, vL]⟩
 ·subst h; exact ⟨⟨_, rfl⟩, fun _ _ _ => by simp [aG, vL]⟩
 ·subst h; exact ⟨⟨_, rfl⟩, fun _ _ _ => by simp [aG, vL]⟩
def uM : List D → List Value → Bool
 | [], [] => true
 | d :: ds, u :: us => JH d u && uM ds us
 | _, _ => false
theorem AE : ∀ {ds : List D} {us : List Value}, uM ds us = true → Vals (ds.map vL) us ∧ ∀ K I F, RepL K I F ds (ds.map vL)
 | [], [], _ => ⟨.nil, fun _ _ _ => by simp [RepL]⟩
 | d :: ds, u :: us, h => by
  simp only [uM, ag] at h
  obtain ⟨h1, h2⟩ := FF h.1
  obtain ⟨h3, h4⟩ := AE h.2
  exact ⟨.cons h1 h3, fun K I F => RepL.cons (h2 K I F) (h4 K I F)⟩
 | [], _ :: _, h => by simp [uM] at h
 | _ :: _, [], h => by simp [uM] at h
def BG (K : PySem.W.Frag) (d : D) (u : Value) : Bool := match d, u with
 | .nX ds, .ref a => (match K.lookup a with
  | some ⟨.type c, _, .seq its _, _⟩ => decide (c = "tuple") && (decide (its.size ≤ sizeLine) && uM ds its.toList)
  | _ => false)
 | .con a, .ref b => decide (a = b)
 | d, u => JH d u
theorem AB {K : PySem.W.Frag} {d : D} {u : Value} (h : BG K d u = true) : ∃ v, RelV v u ∧ ∀ I F, aG K I F d v := by
 unfold BG at h
 split at h
 ·rename_i ds a
  split at h
  ·rename_i c od its n sl hl
   simp only [ag, ah] at h
   obtain ⟨rfl, h2, h3⟩ := h
   obtain ⟨h4, h5⟩ := AE h3
   refine ⟨.ref a, rfl, fun I F => ?_⟩
   simp only [aG]
   exact ⟨a, _, rfl, .inr ⟨_, its, n, hl, rfl, rfl, h2, h4⟩, h5 K I F⟩
  ·cases h
 ·rename_i a b
  simp only [ah] at h
  subst h
  exact ⟨.ref a, rfl, fun I F => by simp [aG]⟩
 ·obtain ⟨h1, h2⟩ := FF h
  exact ⟨_, h1, h2 K⟩
def WG (S : aQ) (x : Str) (d : D) : Prop := ∃ v u, S.mg x = some u ∧ RelV v u ∧ ∀ I F, aG S.K I F d v
theorem C4 {S : aQ} {x : Str} {d : D} {pos : Pos} (G : WG S x d) (hg : S.sc.names.lookup x = some .globalImplicit := by rfl) (hd : (x == ("__debug__" : Str)) = false := by decide) : JE S (.Name x pos) (eC d) := by
 obtain ⟨v, u, h1, h2, h3⟩ := G
 exact SH hg h1 h2 h3 hd
def NK (K : PySem.W.Frag) (x : Str) (d : D) : Bool := match PySem.W.nsIn K mainGlobals x with
 | some (some u) => BG K d u
 | _ => false
theorem BO {S : aQ} {h : Heap} {x : Str} {d : D} (kin : S.K.In h) (ns : h.Ns mainGlobals S.mg) (c : NK S.K x d = true) : WG S x d := by
 unfold NK at c
 split at c
 ·rename_i u hu
  obtain ⟨v, h1, h2⟩ := AB c
  exact ⟨v, u, PySem.W.mg_of kin ns hu, h1, h2⟩
 ·cases c
def MY (K : PySem.W.Frag) (a : Addr) (tab : List (Str × Option D)) : Bool := match K.lookup a with
 | some ⟨_, _, .dict es _, _⟩ => es.toList.all fun e => !e.refKey && tab.any fun p => e.key.isStr p.1
 | _ => false
def NL (K : PySem.W.Frag) (a : Addr) (tab : List (Str × Option D)) : Bool := MY K a tab && tab.all fun p => match p.2 with
 | some d => (match PySem.W.nsIn K a p.1 with
  | some (some u) => BG K d u
  | _ => false)
 | none => He.eqO (PySem.W.nsIn K a p.1) (some none)
theorem KG {v : Value} {x y : Str} (h1 : v.isStr x = true) (h2 : v.isStr y = true) : x = y := by
 cases v <;> simp only [Value.isStr, br] at h1 h2
 simp only [beq_iff_eq] at h1 h2
 rw [← h1, ← h2]
theorem NM {K : PySem.W.Frag} {a : Addr} {tab : List (Str × Option D)} (h : MY K a tab = true) (z : Str) (hz : tab.lookup z = none) : PySem.W.nsIn K a z = some none := by
 unfold MY at h
 unfold PySem.W.nsIn
 split at h
 ·rename_i c od es n sl hl
  simp only [hl]
  rw [ak] at h
  have no : ∀ p ∈ tab, p.1 ≠ z := fun p hp e => by
   rw [List.lookup_eq_none_iff] at hz
   have := hz p hp
   rw [e] at this
   simp at this
  have h1 : es.toList.find? (·.key.isStr z) = none := by
   rw [List.find?_eq_none]
   intro e he q
   have := h e he
   simp only [ag, List.any_eq_true] at this
   obtain ⟨_, p, hp, hk⟩ := this
   exact no p hp (KG hk q)
  have h2 : es.toList.any (·.refKey) = false := by
   rw [List.any_eq_false]
   intro e he
   have := h e he
   simp only [ag, Bool.not_eq_true'] at this
   simp [this.1]
  rw [h1, h2]
  rfl
 ·cases h
theorem lookup_mem {α : Type} {k : Str} {x : α} : ∀ {l : List (Str × α)}, l.lookup k = some x → (k, x) ∈ l
 | [], h => by simp at h
 | (j, y) :: r, h => by
  simp only [List.lookup] at h
  split at h
  ·rename_i e
   cases h
   rw [beq_iff_eq] at e
   subst e
   exact aq ..
  ·exact aw _ (lookup_mem h)
theorem MW {K : PySem.W.Frag} {w : World} {a : Addr} {tab : List (Str × Option D)} (ex : ∃ es n, KDict K w a es n) (c : NL K a tab = true) : KTab K w a tab := by
 unfold NL at c
 rw [ag] at c
 obtain ⟨c0, c⟩ := c
 rw [ak] at c
 refine ⟨ex, fun z x h => ?_, fun z h => ?_, fun z h => NM c0 z h⟩
 ·have := c _ (lookup_mem h)
  dsimp only at this
  split at this
  ·rename_i u hu
   obtain ⟨v, h1, h2⟩ := AB this
   exact ⟨u, v, hu, h1, h2⟩
  ·cases this
 ·exact He.eqO_ok (c _ (lookup_mem h))
def XB {α : Type} (is : List (Nat × Nat)) (us ws mv : List α) : List α := is.filterMap fun p => match p.1 with
 | 0 => us[p.2]?
 | 1 => ws[p.2]?
 | _ => mv[p.2]?
def NZ (i j : Nat) (ma : MA) : MS := fun σ w => (ma σ w).bind fun xs w1 => match xs with
 | [u, v] => .ok (.nx ((σ.set i (some u)).set j (some v))) w1
 | _ => .bad
section
variable {S : aQ} {elt tg iter : Expr} {ifs : List Expr} {scope : Scope} {pos py spos : Pos} {y : Str} {mi : MI} {g : MG} {t : MT} {me : ME} {own : List (Str × Nat)}
theorem jsc (i : Nat) (hi : JI S tg iter mi) (hb : blkC S.N S.sc scope own = true) (hg : JC (S.blk scope) (own.map (·.2)) tg g) (ht : XW (S.blk scope) ifs t) (he : JE (S.blk scope) elt me)
  (hy : S.N[i]? = some y := by rfl) (hyl : S.sc.names.lookup y = some .local := by rfl) (hl : (py.line == pos.line) = true := by rfl) (ha : (scope.names.any fun (n, k) => n == y && (k == .local || k == .cell)) = false := by rfl)
  (hk : S.sc.kind = .function := by rfl) (hs : ∀ (env : Env) x, foldedSetIterable iter env x = pure x := by intro _ _; rfl) : JS S (.Assign [.Name y py] (.ListComp elt [⟨tg, iter, ifs, 0⟩] scope pos) spos) (aX (bR mi (own.map (·.2)) g t me) (a7 i)) :=
 FO hy hyl (fun env e k => sw_true k (by rw [e]; exact hyl) hl ha) hi hb hg ht he hk hs
end
def C8 (C : Addr) (m : MF) : MF := fun ds w => match ds with
 | [.ref i] => (match w[i]? with
  | some (.ins C' _) => if C' = C then (m [.ref i] w).bind fun d w1 => (match d with
    | .int n => if 0 ≤ n ∧ n < 2 ^ 62 then .ok (.int n) w1 else .bad
    | _ => .bad) else .bad
  | _ => dI [.ref i] w)
 | _ => dI ds w
open AutoSeq1 (wpAny_loadPart')
open RZ (nextOf_tuple_item nextOf_tuple_end)
def wN (ds : List D) (w : W) : Res lA := match ds with
 | [x] => (match qT x with
  | some xs => .ok ⟨(List.range xs.length).zipWith (fun i x => D.tup [.int (i : Nat), x]) xs, always⟩ w
  | none => .bad)
 | _ => .bad
def qX (d : D) (w : W) : Option (List D) := match d with
 | .lst xs => some xs
 | .ref i => (match w[i]? with
  | some (.lst xs) => some xs
  | _ => none)
 | _ => none
theorem rR {K : PySem.W.Frag} {I : List Addr} {F G H : Hp} {w : W} (rel : Rel K I F G w H) {d : D} {v : V} {xs : List D} (h : aG K I F d v) (e : qX d w = some xs) : ∃ a vs, v = .ref a ∧ H a = some (.lst vs) ∧ RepL K I F xs vs := by
 cases d <;> simp only [qX, af, reduceCtorEq] at e <;> simp only [aG] at h
 case lst =>
  subst e
  obtain ⟨a, vs, h0, h1, h2⟩ := h
  exact ⟨a, vs, h0, rel.fz _ _ h1, h2⟩
 case ref i =>
  obtain ⟨a, h0, h1⟩ := h
  split at e
  ·rename_i ys hw
   cases e
   obtain ⟨u, h2, vs, rfl, h3⟩ := rel.ob i a _ h1 hw
   exact ⟨a, vs, h0, h2, h3⟩
  ·cases e
def LG (x y : D) (w : W) : Res D := match qX x w, qX y w with
 | some a, some b => if a.length + b.length ≤ sizeLine then .ok (.lst (a ++ b)) w else .bad
 | _, _ => .bad
theorem Q4 {S : aQ} : O2 S (binaryOp .Add) LG := iE fun X E c xo I F G d e w H x y Q rel rd re p => by
 unfold LG at p
 split at p
 ·rename_i a b ha hb
  obtain ⟨q, vs, rfl, h1, h2⟩ := rR rel rd ha
  obtain ⟨q', vs', rfl, h1', h2'⟩ := rR rel re hb
  split at p
  ·rename_i hl
   exact ⟨_, op_cat, q, q', vs, vs', rfl, rfl, h1, h1', by rw [← h2.length, ← h2'.length]; exact hl, iG rel (h2.append h2') p⟩
  ·exact p.elim
 ·exact p.elim
section
variable {P : Program} {w : World} {A : Around} {E : Value → Shared → Prop} {s : Shared}
set_option maxRecDepth 100000 in
set_option maxHeartbeats 3200000 in
theorem zM {l : Addr} {items : Array Value} (ns : List Int) {Q : Value → Shared → Prop} (hh : A.handled = none) (hl : s.heap.IsList l items) (hit : IntsAre items.toList ns) (hb : ns.length + 1 < scanBound)
  (h : ∀ (h' : Heap) (tk c : Nat), SetR w h' s.heap.objs.size (fun j => decide (j ∈ ns)) c → c ≤ ns.length → (∀ b o, s.heap.get? b = some o → h'.get? b = some o) → Q (.ref s.heap.objs.size) { s with heap := h', toks := tk }) :
  wpAny (model P w) A (call (.type "set") [.ref l]) Q E s := by
 have hisz : items.size = ns.length := by
  have q := IntsAre.length hit
  rw [Array.length_toList] at q
  exact q
 obtain ⟨c, tl, hmro⟩ := F.called_set.mro
 have hmade := F.called_set.made
 have hsub := F.called_set.sub
 refine wpAny_call (codeAny_of_tree ?_)
 show wpAny _ _ (callAny (.type "set") _) _ _ _
 refine wpAny_pure ⟨Code.quiet_builtin _ (by decide +kernel), codeAny_builtin F.entry_type_call ?_⟩
 rw [Around.under_plain (weight_type_call_type "set" [.ref l] []) rfl]
 have h1 := F.called_set.notType
 have h2 := F.called_set.canCreate
 have hct := F.typeCall_set_1 (.ref l)
 repeat (any_goals (first | assumption | wp_step))
 refine codeAny_mono (code_set_led1 (.ref l) (E := E) (Q₁ := fun obj s₁ => obj = .ref s.heap.objs.size ∧ s₁ = { s with heap := s.heap.push { cls := .type "set", dict := none, data := .set #[] 0 (.fresh 0 0 (!w.params.followText "set-order")) } }) ⟨rfl, rfl⟩) fun r s₁ hr => ?_
 cases r with
 | error e => exact hr
 | ok fl =>
  cases fl with
  | ret obj =>
   obtain ⟨rfl, rfl⟩ := hr
   have hS : (s.heap.push { cls := .type "set", dict := none, data := .set #[] 0 (.fresh 0 0 (!w.params.followText "set-order")) }).get? s.heap.objs.size = some { cls := .type "set", dict := none, data := .set #[] 0 (.fresh 0 0 (!w.params.followText "set-order")) } := Heap.get?_push_size _ rfl
   have hT : Shared.TypeIs { s with heap := s.heap.push { cls := .type "set", dict := none, data := .set #[] 0 (.fresh 0 0 (!w.params.followText "set-order")) } } (.ref s.heap.objs.size) "set" := ⟨_, hS, rfl⟩
   have hli := F.called_set.init.lookup
   have hbi := F.called_set.init.bind (.ref s.heap.objs.size)
   repeat (any_goals (first | assumption | wp_step))
   refine codeAny_mono (codeAny_call_builtin (R := wants (fun r s₂ => r = .none ∧ ∃ h' tk c, s₂ = { s with heap := h', toks := tk } ∧ SetR w h' s.heap.objs.size (fun j => decide (j ∈ ns)) c ∧ c ≤ ns.length ∧
     (∀ b o, s.heap.get? b = some o → h'.get? b = some o)) E) F.called_set.init.plain F.entry_set_init (check_set_init_1 hT ?_)) fun r₂ s₂ hr₂ => ?_
   ·obtain ⟨ol, hol, hcl, nl, hdl⟩ := hl
    obtain ⟨ocls, odict, odata, oslots⟩ := ol
    simp only at hcl hdl
    subst hcl; subst hdl
    have hol' : (s.heap.push { cls := .type "set", dict := none, data := .set #[] 0 (.fresh 0 0 (!w.params.followText "set-order")) }).get? l = some { cls := .type "list", dict := odict, data := .seq items nl, slots := oslots } := Heap.get?_push_of_some _ hol
    have hsls := PySem.F.sub_list_set
    have hslf := PySem.F.sub_list_frozenset
    have hne : (Value.type "list" == Value.type "dict") = false := by decide
    have hl1 : (s.heap.push { cls := .type "set", dict := none, data := .set #[] 0 (.fresh 0 0 (!w.params.followText "set-order")) }).IsList l items := ⟨_, hol', rfl, nl, rfl⟩
    unfold Builtin.«set.__init__» noKeywords Builtin.Frozenset.updateFrom
    generalize hPI : pyIter = PI
    wp_walk
    subst hPI
    refine wpAny_pyIter_list hl1 ?_
    refine wpAny_bind (wpAny_runValue ?_)
    have hlS : l < s.heap.objs.size := Heap.lt_size hol
    have hh3 : A.in1.in1.in1.handled = none := by simp [hh]
    have hz1 : (s.heap.push { cls := .type "set", dict := none, data := .set #[] 0 (.fresh 0 0 (!w.params.followText "set-order")) }).objs.size = s.heap.objs.size + 1 := Heap.size_push ..
    have hneI : l ≠ (s.heap.push { cls := .type "set", dict := none, data := .set #[] 0 (.fresh 0 0 (!w.params.followText "set-order")) }).objs.size := by
     rw [Heap.size_push]; exact Nat.ne_of_lt (Nat.lt_succ_of_lt hlS)
    have hSf : s.heap.objs.size ∉ [(s.heap.push { cls := .type "set", dict := none, data := .set #[] 0 (.fresh 0 0 (!w.params.followText "set-order")) }).objs.size, l] := by
     rw [Heap.size_push]; simp only [ao, bq, bg, or_false, not_or]
     exact ⟨Nat.ne_of_lt (Nat.lt_succ_self _), Nat.ne_of_gt hlS⟩
    have hval : ∀ (i : Nat) (v : Value), items[i]? = some v → ∃ k t, ns[i]? = some k ∧ v = .int k t := fun i v hv => by
     have hi : i < ns.length := by rw [← hisz]; exact (Array.getElem?_eq_some_iff.mp hv).1
     obtain ⟨t, e⟩ := PyProof.Rows.IntsAre.int_at hit i v (by rw [Array.getElem?_toList]; exact hv)
     refine ⟨ns[i], t, av hi, ?_⟩
     rw [e, List.getD_eq_getElem?_getD, av hi] <;> rfl
    refine set_update_ints ((Walks.list hh3 _ l hneI items).toS) s.heap.objs.size
     hSf ns hisz hb hval (items.size - 0) 0 _ (by omega) (Nat.zero_le _)
     ⟨⟨_, Heap.get?_push_size _ rfl, rfl, rfl⟩, (hl1.push _)⟩ ?hS0 ?hR
    case hS0 =>
     have hget : ((s.heap.push { cls := .type "set", dict := none, data := .set #[] 0 (.fresh 0 0 (!w.params.followText "set-order")) }).push { cls := .type "list_iterator", data := .fields #[.ref l, .int 0 0] }).get? s.heap.objs.size
       = some { cls := .type "set", dict := none, data := .set #[] 0 (.fresh 0 0 (!w.params.followText "set-order")) } := Heap.get?_push_of_some _ hS
     exact ⟨0, ay 0, setR_new_at hget⟩
    case hR =>
     intro s' c' hm hc' hS'
     obtain ⟨h', g2, d', tk', os'⟩ := s'
     have eg : g2 = s.gens := hm.gens
     have ed : d' = s.drawn := hm.drawn
     have eo : os' = s.os := hm.os
     subst eg; subst ed; subst eo
     show wpAny _ _ _ _ _ _
     refine wpAny_pure ?_
     show wpAny _ _ (ret Value.none) _ _ _
     rw [hisz] at hc'
     refine wpAny_pure ⟨rfl, h', tk', c', rfl, hS', hc', fun b o e => ?_⟩
     have hb0 : b < s.heap.objs.size := Heap.lt_size e
     have hb1 : b ≠ s.heap.objs.size := Nat.ne_of_lt hb0
     have hb2 : b ≠ (s.heap.push { cls := .type "set", dict := none, data := .set #[] 0 (.fresh 0 0 (!w.params.followText "set-order")) }).objs.size := by
      rw [Heap.size_push]; exact Nat.ne_of_lt (Nat.lt_succ_of_lt hb0)
     exact hm.heap b o (by simp only [ao, bq, bg, or_false, not_or]; exact ⟨hb1, hb2⟩) (Heap.get?_push_of_some _ (Heap.get?_push_of_some _ e))
   ·cases r₂ with
    | error e => exact hr₂
    | ok fl₂ =>
     cases fl₂ with
     | ret r =>
      obtain ⟨rfl, h', tk, c', rfl, hS', hc', hk'⟩ := hr₂
      repeat (any_goals (first | assumption | wp_step))
      exact h _ _ _ hS' hc' hk'
     | _ => exact hr₂.elim
  | _ => exact hr.elim
end
section
variable {X : Cx}
def S9 (K : PySem.W.Frag) (w : World) : List V → Hp → VK → Prop := fun xs H Q => ∃ (a : Addr) (ns : List Int), xs = [V.ref a] ∧ (SqL K H a (ns.map V.int) ∨ SqT K H a (ns.map V.int)) ∧ ns.length + 1 < scanBound ∧
 ∀ p c, c ≤ ns.length → H p = none → Q (.ref p) (upd H p (SetO w p (fun j => decide (j ∈ ns)) c))
theorem P1 (hc : X.calm = true) : CallR X (.type "set") (S9 X.K X.w) := by
 intro pins s σ H xs us Q I r h
 obtain ⟨a, ns, rfl, hs, hb, q⟩ := h
 rw [Vals.ref1 r]
 rcases hs with hs | hs
 ·obtain ⟨its, rv, hl, hlen⟩ := I.list hs
  have hi := ints_of_vals rv
  refine zM ns (I.ok.hd hc) hl.isList (by simpa using hi) hb fun h' tk c R hc' k => ?_
  exact ⟨.ref _, upd H s.heap.objs.size (SetO X.w s.heap.objs.size (fun j => decide (j ∈ ns)) c), I.laid (t' := tk) k (ay _) (setO_new R), rfl, q _ c hc' (I.hok.fresh (ay _))⟩
 ·obtain ⟨its, rv, hl, hlen⟩ := I.tuple hs
  have hi := ints_of_vals rv
  refine call_set_tupI ns (I.ok.hd hc) hl (by simpa using hi) hb fun h' tk c R hc' k => ?_
  exact ⟨.ref _, upd H s.heap.objs.size (SetO X.w s.heap.objs.size (fun j => decide (j ∈ ns)) c), I.laid (t' := tk) k (ay _) (setO_new R), rfl, q _ c hc' (I.hok.fresh (ay _))⟩
end
def tU (k : Int) : List Int → List Int
 | [] => [k]
 | x :: xs => if k < x then k :: x :: xs else if k = x then x :: xs else x :: tU k xs
def gB (ns : List Int) : List Int := ns.foldr tU []
theorem xC {k j : Int} : ∀ {xs : List Int}, j ∈ tU k xs ↔ j = k ∨ j ∈ xs
 | [] => by simp [tU]
 | x :: xs => by
  unfold tU
  split
  ·simp
  ·split
   ·rename_i h; subst h; simp
   ·rw [ao, xC (xs := xs), ao]
    constructor
    ·rintro (h | h | h)
     ·exact .inr (.inl h)
     ·exact .inl h
     ·exact .inr (.inr h)
    ·rintro (h | h | h)
     ·exact .inr (.inl h)
     ·exact .inl h
     ·exact .inr (.inr h)
theorem xW {k : Int} : ∀ {xs : List Int}, xs.Pairwise (· < ·) → (tU k xs).Pairwise (· < ·)
 | [], _ => by simp [tU]
 | x :: xs, h => by
  obtain ⟨h1, h2⟩ := List.pairwise_cons.mp h
  unfold tU
  split
  ·rename_i hk
   refine List.pairwise_cons.mpr ⟨fun y hy => ?_, h⟩
   rcases ao.mp hy with rfl | hy
   ·exact hk
   ·have := h1 y hy; omega
  ·split
   ·exact h
   ·refine List.pairwise_cons.mpr ⟨fun y hy => ?_, xW h2⟩
    rcases xC.mp hy with rfl | hy
    ·omega
    ·exact h1 y hy
theorem jW {j : Int} : ∀ {ns : List Int}, j ∈ gB ns ↔ j ∈ ns
 | [] => by simp [gB]
 | n :: ns => by
  have : gB (n :: ns) = tU n (gB ns) := rfl
  rw [this, xC, jW (ns := ns), ao]
theorem gM : ∀ {ns : List Int}, (gB ns).Pairwise (· < ·)
 | [] => List.Pairwise.nil
 | n :: ns => xW (gM (ns := ns))
theorem pN : ∀ {xs ys : List Int}, xs.Pairwise (· < ·) → ys.Pairwise (· < ·) → (∀ k, k ∈ xs ↔ k ∈ ys) → xs = ys
 | [], [], _, _, _ => rfl
 | [], y :: ys, _, _, h => by have := (h y).mpr (aq ..); simp at this
 | x :: xs, [], _, _, h => by have := (h x).mp (aq ..); simp at this
 | x :: xs, y :: ys, hx, hy, h => by
  obtain ⟨x1, x2⟩ := List.pairwise_cons.mp hx
  obtain ⟨y1, y2⟩ := List.pairwise_cons.mp hy
  have e : x = y := by
   have a := (h x).mp (aq ..)
   have b := (h y).mpr (aq ..)
   rcases ao.mp a with a | a
   ·exact a
   ·rcases ao.mp b with b | b
    ·exact b.symm
    ·have := y1 x a; have := x1 y b; omega
  subst e
  rw [pN x2 y2 fun k => ?_]
  constructor
  ·intro hk
   have := (h k).mp (aw _ hk)
   rcases ao.mp this with e | e
   ·have := x1 k hk; omega
   ·exact e
  ·intro hk
   have := (h k).mpr (aw _ hk)
   rcases ao.mp this with e | e
   ·have := y1 k hk; omega
   ·exact e
def sE (d : D) (w : W) : Res D := match (d.items w).bind iT with
 | some ns => if ns.length < 64 then .ok (.lst ((gB ns).map D.int)) w else .bad
 | none => .bad
theorem Rel.less {K : PySem.W.Frag} {I : List Addr} {F G H : Hp} {w : W} {q : Addr} {u : HO} (rel : Rel K I F (L2.upd G q u) w H) (hG : G q = none) : Rel K I F G w H :=
 ⟨rel.len, rel.nd, rel.ob, rel.fz, rel.ap, fun a v h => rel.gz a v (by rw [upd_ne (ne_of_none h hG)]; exact h), fun a v h => rel.gf a v (by rw [upd_ne (ne_of_none h hG)]; exact h), fun a xs h => rel.gt a xs (by rw [upd_ne (ne_of_none h hG)]; exact h)⟩
theorem Rel.W8 {K : PySem.W.Frag} {I : List Addr} {F G H : Hp} {w : W} (rel : Rel K I F G w H) {q : Addr} {u : HO} (hq : H q = none) : Rel K I F G w (L2.upd H q u) := HF rel hq u
section
variable {S : aQ} {p p2 pos pos2 : Pos} {e : Expr} {me : ME}
theorem PH {X : Cx} {E : XK} {I1 : List Addr} {F1 G H1 : Hp} {x : D} {w1 : W} {v : V} {Q : VK} {ns : List Int} (rel1 : Rel X.K I1 F1 G w1 H1) (rv : aG X.K I1 F1 x v) (hx : (x.items w1).bind iT = some ns) (hn : ns.length < 64)
  (k : ∀ H2, Rel X.K I1 F1 G w1 H2 → ∀ p, H2 p = none → Q (.ref p) (upd H2 p (.lst ((gB ns).map V.int)))) :
  S9 X.K X.w [v] H1 fun y H2 => rSortedSet X.w [y] H2 Q := by
 obtain ⟨xs, e1, e2⟩ := cb.mp hx
 obtain ⟨a, vs, rfl, hq, hr⟩ := rW rel1 rv e1
 obtain rfl := mJ hr e2
 refine ⟨a, ns, rfl, hq, by unfold scanBound; omega, fun p c hc hp => ⟨p, _, c, rfl, by rw [upd_same], by omega, fun ms q hm1 hm2 hm3 hq2 => ?_⟩⟩
 have : ms = gB ns := pN hm1 gM fun k => by rw [hm2, jW, ah]
 rw [this]
 exact k _ (rel1.W8 hp) q hq2
theorem JQ (hl : S.sc.names.lookup ("sorted" : Str) = some .globalImplicit) (hm : S.mg "sorted" = none) (hg : S.sc.names.lookup ("set" : Str) = some .globalImplicit) (hn : S.mg "set" = none) (he : JE S e me)
  (n1 : ∀ env : Env, starEach [e] env = (false, eval e env) :: starEach [] env := by intro _; rfl) (n2 : ∀ env : Env, starEach [.Call (.Name "set" p2) [e] [] pos2] env = (false, eval (.Call (.Name "set" p2) [e] [] pos2) env) :: starEach [] env := by intro _; rfl) :
  JE S (.Call (.Name "sorted" p) [.Call (.Name "set" p2) [e] [] pos2] [] pos) (sT sE me) := fun X E cx xo =>
 cG (pe_callB (cr_sortedSet cx.calm) (by show X.env.scope.names.lookup _ = _; rw [cx.sc]; exact hl) (by rw [cx.mg]; exact hm) rfl
  (pa_cons (hs := n2 X.env) (pe_callTy (P1 cx.calm) (by show X.env.scope.names.lookup _ = _; rw [cx.sc]; exact hg) (by rw [cx.mg]; exact hn) rfl (pa_cons (hs := n1 X.env) (he X E cx xo) pa_nil) (he := n1 X.env)) pa_nil) (he := n2 X.env)) fun σ H Q ⟨I, F, G, ds, w, rel, rs, p⟩ =>
  b7 (f := fun _ x w1 => sE x w1) rel rs p fun I1 F1 H1 x w1 v e1 rel1 rs1 rv pp => by
   unfold sE at pp
   split at pp
   ·rename_i ns hx
    split at pp
    ·rename_i hlt
     exact PH (E := E) rel1 rv hx hlt fun H2 rel2 => iG rel2 (RepL.ints _) pp
    ·exact pp.elim
   ·exact pp.elim
end
end Pc
namespace Pc
open PySem PySem.Spec PyProof.Rows L2 HT
theorem DR {α β : Type} {f g : α → Option β} : ∀ {l : List α}, (∀ x ∈ l, f x = g x) → l.filterMap f = l.filterMap g
 | [], _ => rfl
 | a :: l, h => by
  rw [List.filterMap_cons, List.filterMap_cons, h a (aq ..), DR fun x hx => h x (aw _ hx)]
theorem L8 (xs : Array Value) : ((List.range xs.size).filterMap fun (m : Nat) => xs[(((xs.size : Int) - 1) + (m : Int) * (-1)).toNat]?).toArray = xs.toList.reverse.toArray := by
 rw [← PySem.W.krv_pick]
 unfold slicePick
 rw [PySem.W.krv_bounds]
 show _ = ((sliceRange ((xs.size : Int) - 1) (-1) (-1)).filterMap (xs[·]?)).toArray
 rw [PySem.W.krv_sliceRange, List.filterMap_map]
 congr 1
 refine DR fun m hm => ?_
 have := List.mem_range.mp hm
 have e : (((xs.size : Int) - 1) + (m : Int) * (-1)).toNat = xs.size - 1 - m := by omega
 rw [e]; rfl
theorem HJ (n : Nat) : Builtin.Slice.slicePlaces ((n : Int) - 1) (-1) (-1) = n := by
 unfold Builtin.Slice.slicePlaces
 have h1 : ¬ ((-1 : Int) > 0) := by decide
 simp only [h1, aa]
 split
 ·rw [show (- -1 : Int) = 1 by decide, Int.ediv_one]; omega
 ·omega
section
variable {prog : Program} {w : World} {A : Around} {E : Value → Shared → Prop} {s : Shared}
theorem tP {sl : Addr} {vl vu vs : Value} {n : Nat} {Q : Int × Int × Nat → Shared → Prop} (hs : s.heap.IsSliceOf sl vl vu vs) (pl : IsPart vl none) (pu : IsPart vu none) (ps : IsPart vs (some (-1)))
  (h : Q ((n : Int) - 1, -1, n) s) : wpAny (model prog w) A (Builtin.Slice.sliceApplied (.ref sl) (pure (n : Int))) Q E s := by
 obtain ⟨os, hos, hcs, hds⟩ := id hs
 unfold Builtin.Slice.sliceApplied Builtin.Slice.sliceFields
 refine wpAny_bind (wpAny_bind (wpAny_field hos hds (x := vl) rfl (wpAny_bind (wpAny_field hos hds (x := vu) rfl (wpAny_bind (wpAny_field hos hds (x := vs) rfl (wpAny_pure ?_)))))))
 refine wpAny_bind (slicePart_ ps ?_)
 show wpAny _ _ (if ((-1 : Int) == 0) = true then _ else _) _ _ s
 rw [if_neg (by decide)]
 refine wpAny_bind (slicePart_ pl (wpAny_bind (slicePart_ pu (wpAny_bind (wpAny_pure ?_)))))
 show wpAny _ _ (pure ((n : Int) - 1, (-1 : Int), Builtin.Slice.slicePlaces ((n : Int) - 1) (-1) (-1))) _ _ s
 rw [HJ]
 exact wpAny_pure h
theorem rP {t sl : Addr} {items : Array Value} {vl vu vs : Value} {Q : Value → Shared → Prop} (ht : IsTup s.heap t items) (hs : s.heap.IsSliceOf sl vl vu vs) (pl : IsPart vl none) (pu : IsPart vu none) (ps : IsPart vs (some (-1)))
  (h : Q (.ref s.heap.objs.size) { s with heap := s.heap.push { cls := .type "tuple", data := .seq items.toList.reverse.toArray } })
  (hsz : items.size ≤ sizeLine) : wpAny (model prog w) A (getItem (.ref t) (.ref sl)) Q E s := by
 have htake : sizeOk (.seq items.toList.reverse.toArray) := by
  show (items.toList.reverse.toArray).size ≤ sizeLine
  rw [List.size_toArray, List.length_reverse, Array.length_toList]
  exact hsz
 obtain ⟨os, hos, hcs, hds⟩ := id hs
 have hTs : s.TypeIs (.ref sl) "slice" := ⟨os, hos, hcs⟩
 unfold getItem
 try with_reducible refine wpAny_holding ?_
 first | refine wpAny_bind (wpAny_pure ?_) | skip
 refine wpAny_bind (wpAny_sequenceKey ht.typeIs (by decide) ?_)
 refine wpAny_bind (wpAny_callSpecial?_slot (name := Str.ofString "__getitem__") ht.typeIs PyProof.Rows.slot_tuple_getitem
  (wpAny_call_entry PyProof.Rows.slot_tuple_getitem ht.typeIs entry_tuple_getitem ?_ (args_tuple_getitem _ _)))
 show wpAny _ _ (Builtin.Tuple.tupleItemsOf (.ref t) >>= _) _ _ s
 refine wpAny_bind (tupleItemsOf_ ht ?_)
 refine wpAny_bind (wpAny_typeOf hTs ?_)
 rw [if_pos (by decide)]
 refine wpAny_bind (tP hs pl pu ps ?_)
 have hno : ¬ ((((items.size : Int) - 1) == 0 && (-1 : Int) == 1 && items.size == items.size) = true) := by
  intro q
  rw [ag, ag] at q
  exact absurd q.1.2 (by decide)
 show wpAny _ _ (if (((items.size : Int) - 1) == 0 && (-1 : Int) == 1 && items.size == items.size) = true then _ else _) _ _ s
 rw [if_neg hno, L8]
 first
  | exact wpAny_bind (m := Builtin.Tuple.tupleExact _) (wpAny_newObj_type (wpAny_pure ⟨_, rfl, wpAny_pure h⟩) htake)
  | exact wpAny_bind (m := Builtin.Tuple.tupleExact _) (wpAny_newObj_type (wpAny_bind (wpAny_pure (wpAny_pure ⟨_, rfl, wpAny_pure h⟩))) htake)
  | exact wpAny_bind (wpAny_bind (m := Builtin.Tuple.tupleExact _) (wpAny_newObj_type (wpAny_pure (wpAny_pure ⟨_, rfl, wpAny_pure h⟩)) htake))
  | exact wpAny_bind (wpAny_bind (m := Builtin.Tuple.tupleExact _) (wpAny_newObj_type (wpAny_pure ⟨_, rfl, wpAny_pure h⟩) htake))
end
section
variable {X : Cx}
def YH (K : PySem.W.Frag) (te : TE) : TE := fun σ H Q => te σ H fun x H1 => ∃ a xs, x = .ref a ∧ SqT K H1 a xs ∧ ∀ p, H1 p = none → Q (.ref p) (upd H1 p (.tup xs.reverse))
theorem R0 {e : Expr} {te : TE} {k : Nat} {p1 p2 p3 pos : Pos} (he : PE X e te) : PE X (.Subscript e (.Slice none none (some (.UnaryOp .USub (.Constant (.int 1) k p1) p2)) p3) pos) (YH X.K te) := by
 refine ⟨fun pins s σ H Q I h => ?_⟩
 refine Subscript_ (thn (he.run pins s σ H _ I h) fun v s1 ⟨x, H1, I1, r1, q1⟩ => ?_)
 obtain ⟨a, xs, ex, hx, q⟩ := q1
 subst ex
 cases r1
 have hst : PO X (some (.UnaryOp .USub (.Constant (.int 1) k p1) p2)) (tPart (tUn (rU fun i => .int (-i)) (tC (.int 1)))) := po_some (pe_un un_neg pe_int)
 refine wpAny_Slice (thn (po_none.run pins s1 σ H1 (fun o H2 => o = none ∧ H2 = H1) I1 ⟨rfl, rfl⟩) fun vl s2 ⟨l, H2, I2, pl, el, e2⟩ => ?_)
 subst el e2
 refine thn (po_none.run pins s2 σ H2 (fun o H3 => o = none ∧ H3 = H2) I2 ⟨rfl, rfl⟩) fun vu s3 ⟨u, H3, I3, pu, eu, e3⟩ => ?_
 subst eu e3
 refine thn (hst.run pins s3 σ H3 (fun o H4 => o = some (-1) ∧ H4 = H3) I3 ⟨1, rfl, -1, rfl, rfl, rfl⟩) fun vs s4 ⟨o, H4, I4, ps, eo, e4⟩ => ?_
 subst eo e4
 have I5 : Inv X pins σ H4 { s4 with heap := s4.heap.push { cls := .type "slice", data := .fields #[vl, vu, vs] } } := I4.kept (t' := s4.toks) fun b ob q => Heap.get?_push_of_some _ q
 obtain ⟨its, r, ht, hz⟩ := I5.tuple hx
 have hlen := r.length
 show wpAny (model X.prog X.w) X.A (subscriptTail e (.Slice none none (some (.UnaryOp .USub (.Constant (.int 1) k p1) p2)) p3) (.ref a) (.ref s4.heap.objs.size)) (EP X pins σ Q) X.xe { s4 with heap := s4.heap.push { cls := .type "slice", data := .fields #[vl, vu, vs] } }
 refine tail_any (ops := [.ref a, .ref s4.heap.objs.size]) ht.typeIs (PyProof.Rows.slot_tuple_getitem.lookup) ?_ (by with_unfolding_all rfl)
 refine rP ht (Heap.IsSliceOf.new _ vl vu vs) pl pu ps ?_ (by rw [List.size_toArray]; omega)
 refine ⟨.ref _, _, I5.laid (t' := s4.toks) (o := .tup xs.reverse) (fun b ob q => Heap.get?_push_of_some _ q) (ay _) ?_, rfl, q _ (I5.hok.fresh (ay _))⟩
 exact ⟨by rw [List.length_reverse]; exact hz, _, r.reverse, ⟨_, Heap.get?_push_size _ rfl, rfl, 0, by simp⟩⟩
end
def KJ (d : D) (w : W) : Res D := match d with
 | .tup xs => .ok (.tup xs.reverse) w
 | _ => .bad
theorem IH {S : aQ} {e : Expr} {m : ME} {k : Nat} {p1 p2 p3 pos : Pos} (h : JE S e m) : JE S (.Subscript e (.Slice none none (some (.UnaryOp .USub (.Constant (.int 1) k p1) p2)) p3) pos) (sT KJ m) := fun X E c xo =>
 cG (R0 (h X E c xo)) fun σ H Q ⟨I, F, G, ds, w, rel, rs, p⟩ => b7 (f := fun _ d w1 => KJ d w1) rel rs p fun I1 F1 H1 d w1 v e1 rel1 rs1 rv p => by
  unfold KJ at p
  split at p
  ·simp only [aG] at rv
   obtain ⟨a, us, rfl, h1, h2⟩ := rv
   exact ⟨a, us, rfl, .of (rel1.fz _ _ h1), r5 rel1 h2.reverse p⟩
  ·exact p.elim
end Pc
namespace Pc
open PySem PySem.Spec PyProof.Rows L2
def ZN : MF := fun _ _ => .bad
theorem eL.bad {P : Program} {w : World} {K : PySem.W.Frag} {mg : Str → Option Value} {base : Heap} {k : Nat} {f : Addr} {fd : FuncData} {ps : List Str} : eL P w K mg base k f fd ps ZN :=
 ⟨fun A outer s H args us vs Q E hr hg e0 hb r hl ⟨_, _, _, _, _, _, _, p⟩ => p.elim⟩
end Pc
namespace L2
open PySem PySem.Spec PyProof.Rows
section
variable {prog : Program} {w : World} {A : Around} {E : Value → Shared → Prop} {s : Shared}
theorem CJ (hh : A.handled = none) (I ax : Addr) (hne : ax ≠ I) (items : Array Value) (i0 : Nat) (h0 : i0 ≤ items.size) :
  Walks prog w A I [I, ax] [I] (items.size - i0) (fun i v => items[i0 + i]? = some v) (fun i h => IsTupIter h I ax (i0 + i) ∧ IsTup h ax items) where
 sub := fun b hb => by simp at hb; simp [hb]
 frame := fun _ _ _ st hk => ⟨Heap.IsTupleIter.at st.1 fun o e => hk I (by simp) o e, Heap.IsTuple.at st.2 fun o e => hk ax (by simp) o e⟩
 item := fun i s Q E hi st hQ => by
  refine next_tuple_item st.1 st.2 (x := items[i0 + i]'(by omega)) (by rw [Array.getElem?_eq_getElem]) fun h' hit' hs' => ?_
  exact hQ _ h' s.toks (by rw [Array.getElem?_eq_getElem]) ⟨hit', st.2.extBut hs'.extBut hne⟩ fun b o hb e => hs'.extBut b o (fun h => hb (by simp [h])) e
 done := fun s Q E st hQ => next_tuple_end hh st.1 st.2 (by simp; omega) fun h' he' => hQ h' s.toks fun b o hb e => he' b o (fun h => hb (by simp [h])) e
 self := fun _ _ _ _ st hQ => wpAny_pyIter_tupleiter st.1 hQ
theorem tK {t : Addr} {items : Array Value} {n : Nat} {Q : List Value → Shared → Prop} (hh : A.handled = none) (ht : IsTup s.heap t items) (hn : n ≤ items.size) (hz : items.size ≤ sizeLine)
  (hQ : ∀ (h' : Heap) (tk : Nat), (∀ b o, s.heap.get? b = some o → h'.get? b = some o) → Q (items.toList.take n ++ [.ref h'.objs.size]) { s with heap := h'.push { cls := .type "list", data := .seq (items.toList.drop n).toArray }, toks := tk }) :
  wpAny (model prog w) A (unpackItems (.ref t) (n + 1) (some n)) Q E s := by
 have hlt : t ≠ s.heap.objs.size := by obtain ⟨o, ho, _⟩ := ht; exact Nat.ne_of_lt (Heap.lt_size ho)
 have hltt : t < s.heap.objs.size := by obtain ⟨o, ho, _⟩ := ht; exact Heap.lt_size ho
 unfold unpackItems
 refine wpAny_bind ?_
 unfold notIterableAtAll
 refine wpAny_bind (wpAny_specialOf ht.typeIs slot_tuple_iter.lookup ?_)
 refine wpAny_pure ?_
 simp only [br, aa]
 refine wpAny_bind (wpAny_holding (iter_tuple ht ?_))
 refine wpAny_bind (wpAny_holding (draw_tuple hlt n 0 _ _ ⟨_, Heap.get?_push_size _ rfl, rfl, rfl⟩ (ht.push _) (by omega) fun h₁ hit₁ hs₁ => ?_))
 have hl : (List.take n (List.drop 0 items.toList)).length = n := by simp; omega
 rw [if_neg (by rw [hl]; omega)]
 have ht₁ : IsTup h₁ t items := (ht.push _).extBut hs₁.extBut hlt
 rw [Nat.zero_add] at hit₁
 have hk1 : ∀ b o, s.heap.get? b = some o → h₁.get? b = some o := fun b o e => hs₁.extBut b o (Nat.ne_of_lt (Heap.lt_size e)) (Heap.get?_push_of_some _ e)
 have hsz : s.heap.objs.size < h₁.objs.size := by obtain ⟨o, ho, _⟩ := hit₁; exact Heap.lt_size ho
 refine wpAny_bind (wpAny_holding (wpAny_collect_iter (T := "tuple_iterator") (.inr (.inr (.inr rfl))) (CJ (A := A.in1) hh s.heap.objs.size t hlt items n hn).toS (fun i s' st => Heap.IsTupleIter.typeIs st.1) ⟨by rw [Nat.add_zero]; exact hit₁, ht₁⟩ (fun b hb => ?_) (by simp) (fun s' acc mv hi => ?_) (by omega)))
 ·simp only [ao, bg, or_false] at hb
  rcases hb with rfl | rfl
  ·exact hsz
  ·exact Nat.lt_trans hltt hsz
 have ha : acc.toList = items.toList.drop n := by
  refine List.ext_getElem? fun i => ?_
  rw [List.getElem?_drop, Array.getElem?_toList, Array.getElem?_toList]
  by_cases h : i < acc.size
  ·obtain ⟨v, hv⟩ : ∃ v, acc[i]? = some v := ⟨acc[i], by simp [h]⟩
   rw [hv, hi.2 i v hv]
  ·have h1 := hi.1
   rw [Array.getElem?_eq_none (by omega), Array.getElem?_eq_none (by omega)]
 rw [ha]
 have hm : n + 1 - 1 - n = 0 := by omega
 simp only [hm, Nat.sub_zero, Nat.not_lt_zero, aa]
 rw [List.take_of_length_le (ay _), List.drop_of_length_le (ay _)]
 refine wpAny_bind (wpAny_newList ?_ (by simp; omega))
 refine wpAny_pure ?_
 rw [List.append_nil, List.drop_zero]
 have hk2 : ∀ b o, s.heap.get? b = some o → s'.heap.get? b = some o := fun b o e => mv.heap b o (fun hb => absurd (Heap.lt_size e) (by rw [bq.mp hb]; exact Nat.lt_irrefl _)) (hk1 b o e)
 have := hQ s'.heap s'.toks hk2
 obtain ⟨hp, g, d, tk, os⟩ := s'
 have h1 : g = s.gens := mv.gens
 have h2 : d = s.drawn := mv.drawn
 have h3 : os = s.os := mv.os
 subst h1
 subst h2
 subst h3
 exact this
end
section
variable {X : Cx} {pos : Pos}
def UD (K : PySem.W.Frag) (n : Nat) (t : TGs) : TG := fun v σ H Q => ∃ a xs, v = .ref a ∧ SqT K H a xs ∧ n ≤ xs.length ∧ xs.length ≤ sizeLine ∧ ∀ q, H q = none → t (xs.take n ++ [.ref q]) σ (upd H q (.lst (xs.drop n))) Q
theorem QI {es : List Expr} {k : Nat} {t : TGs} {n : Nat} (hc : X.calm = true) (h : PGs X es t)
  (hn : (assignEach es X.env).length = n + 1) (hst : (assignEach es X.env).findIdx? (·.1) = some n) : PG X (.Tuple es k pos) (UD X.K n t) := by
 refine ⟨fun pins s σ H v u Q I r hw => ?_⟩
 obtain ⟨a, xs, e1, hq, hl, hz, hw⟩ := hw
 subst e1
 cases r
 obtain ⟨its, rv, ht, hz'⟩ := I.tuple hq
 rw [assign_Tuple]
 refine wpAny_bind (wpAny_standAt ?_)
 unfold unpack
 rw [hn, hst]
 refine wpAny_bind (wpAny_holding (tK (I.ok.hd hc) ht (by simp [← rv.length]; exact hl) (by simp [← rv.length]; exact hz) fun h' tk hx => ?_))
 have I1 : Inv X pins σ H { s with heap := h', toks := tk } := I.kept (t' := tk) hx
 have hf : H h'.objs.size = none := I1.hok.fresh (ay _)
 have I2 : Inv X pins σ (upd H h'.objs.size (.lst (xs.drop n))) { s with heap := h'.push { cls := .type "list", data := .seq (its.drop n).toArray }, toks := tk } :=
  I1.laid (t' := tk) (fun b u e => Heap.get?_push_of_some _ e) (ay _) ⟨by simp; omega, its.drop n, 0, rv.drop n, Heap.get?_push_size _ rfl⟩
 have vr : Vals (xs.take n ++ [.ref h'.objs.size]) (its.take n ++ [.ref h'.objs.size]) := (rv.take n).append (.cons rfl .nil)
 exact h.run pins _ σ _ _ _ Q I2 (by simpa using vr) (hw _ hf)
theorem OC {e : Expr} {p : Pos} {t : TG} (h1 : PG X e t) : PGs X [.Starred e p] (gCons t gNil) := by
 refine ⟨fun pins s σ H vs us Q I r h => ?_⟩
 obtain ⟨v, vr, e1, h⟩ := h
 subst e1
 cases r with
 | cons r rr =>
  have e : (assignEach [.Starred e p] X.env).map (·.2) = [assign e X.env] := rfl
  rw [e]
  refine assignInOrder_cons (thn (h1.run pins s σ H _ _ _ I r h) fun _ s1 ⟨σ1, H1, I1, q1⟩ => ?_)
  exact pgs_nil.run pins s1 σ1 H1 _ _ Q I1 rr q1
end
end L2
namespace Pc
open PySem PySem.Spec PyProof.Rows L2
def sO (n : Nat) (r : HV) : MG := fun d σ w => match qT d with
 | some xs => if n ≤ xs.length ∧ xs.length ≤ sizeLine then r (xs.take n ++ [.lst (xs.drop n)]) σ w else .bad
 | none => .bad
section
variable {S : aQ} {pos pos' : Pos} {e : Expr} {es : List Expr} {g : MG} {r : HV}
theorem MQ (h1 : JG S e g) : WC S [.Starred e pos] (aI g bZ) := fun X E cx xo =>
 oB (OC (h1 X E cx xo)) fun vs σ H Q ⟨I, F, G, xs, ds, w, rel, rs, rv, p⟩ => by
  cases xs with
  | nil => exact p.elim
  | cons d ds' =>
   simp only [RepL] at rv
   obtain ⟨v, u, rfl, h2, h3⟩ := rv
   simp only [aI] at p
   refine ⟨v, u, rfl, I, F, G, d, ds, w, rel, rs, h2, bE.mono (bE.bind p) fun I1 F1 H1 s1 w1 _ e1 rel1 q => ?_⟩
   intro s' rs'
   cases ds' with
   | cons _ _ => exact q.elim
   | nil =>
    simp only [RepL] at h3
    subst h3
    exact ⟨rfl, q I1 F1 H1 .refl rel1 s' rs'⟩
theorem RY {k n : Nat} (h : WC S es r) (hn : ∀ env : Env, (assignEach es env).length = n + 1 := by intro _; rfl) (hst : ∀ env : Env, (assignEach es env).findIdx? (·.1) = some n := by intro _; rfl) : JG S (.Tuple es k pos) (sO n r) := fun X E cx xo =>
 pK (QI cx.calm (h X E cx xo) (hn X.env) (hst X.env)) fun v σ H Q ⟨I, F, G, d, ds, w, rel, rs, rv, p⟩ => by
  simp only [sO] at p
  cases e : qT d with
  | none => rw [e] at p; exact p.elim
  | some xs =>
   rw [e] at p
   obtain ⟨a, vs, rfl, h1, h2⟩ : ∃ a vs, v = .ref a ∧ SqT X.K H a vs ∧ RepL X.K I F xs vs := by
    cases d <;> simp only [qT, af, reduceCtorEq] at e <;> subst e <;> simp only [aG] at rv
    ·obtain ⟨a, vs, h0, h1, h2⟩ := rv; exact ⟨a, vs, h0, .of (rel.fz _ _ h1), h2⟩
    ·obtain ⟨a, vs, h0, h1, h2⟩ := rv; exact ⟨a, vs, h0, rel.EN h1, h2⟩
   simp only at p
   split at p
   ·rename_i hl
    refine ⟨a, vs, rfl, h1, by rw [← h2.length]; exact hl.1, by rw [← h2.length]; exact hl.2, fun q hq => ?_⟩
    have hd := h2.drop n
    obtain ⟨I', F', e1, rel1, rl⟩ := iG (E := E) (w := w) (Q := fun v H' => ∃ I' F', Ext I F I' F' ∧ Rel X.K I' F' G w H' ∧ aG X.K I' F' (.lst (xs.drop n)) v) rel hd (fun I' F' H' e1 rel' v rv => ⟨I', F', e1, rel', rv⟩) q hq
    exact ⟨I', F', G, _, ds, w, rel1, rs.ext e1, ((h2.take n).ext e1).append (RepL.cons rl (by simp [RepL])), p.ext e1⟩
   ·exact p.elim
end
def anyM : MF := fun ds w => match ds with
 | [d] => (match (qT d).bind iT with
  | some ns => .ok (.bl (ns.any fun n => n != 0)) w
  | none => match (r4 d w).bind n9 with
   | some bs => .ok (.bl (bs.any id)) w
   | none => .bad)
 | _ => .bad
def OO (xs : List D) : List D := (List.range xs.length).zipWith (fun i x => D.tup [.int (i : Nat), x]) xs
def vC (ds : List D) (w : W) : Res lA := match ds with
 | [.lst xs] => .ok ⟨OO xs, always⟩ w
 | [.ref i] => (match w[i]? with
  | some (.lst xs) => .ok ⟨OO xs, holds i (.lst xs)⟩ w
  | _ => .bad)
 | _ => .bad
end Pc
namespace L2
open PySem PySem.Spec PyProof.Rows
def smallKey : List Key → Bool
 | [.inl a, .inl s, .inl r] => (decide (0 ≤ a) && decide (a < 4)) && ((decide (0 ≤ s) && decide (s < 6)) && (decide (0 ≤ r) && decide (r < 10)))
 | _ => false
end L2
namespace Pc
open PySem PySem.Spec PyProof.Rows L2
open Classical in
def ZX (it : lA) (vs : List Nat) (g : MG) (t : MT) (ek ev : ME) : List D → List (List Key × D) → Sg → W → Res (List (List Key × D))
 | [], acc, σ, w => if it.ok w then .ok acc w else .bad
 | x :: xs, acc, σ, w => if it.ok w then (g x (dO σ vs) w).LP.bind fun σ1 w1 => (t σ1 w1).LP.bind fun b w2 =>
   if b = true then (ek σ1 w2).LP.bind fun k w3 => (ev σ1 w3).LP.bind fun v w4 => match k with
    | .tup ks => (match sD ks with
     | some kk => if acc.length < sizeLine then ZX it vs g t ek ev xs (putD acc kk v) σ w4 else .bad
     | none => .bad)
    | _ => .bad
   else ZX it vs g t ek ev xs acc σ w2
  else .bad
def Z8 (m : MI) (vs : List Nat) (g : MG) (t : MT) (ek ev : ME) : ME := fun σ w => (m σ w).bind fun it w1 => (ZX it vs g t ek ev it.xs [] σ w1).bind fun kvs w2 => .ok (.ref w2.length) (w2 ++ [.dT kvs])
theorem aP.len {κ : Type} {K : PySem.W.Frag} {I : List Addr} {F : Hp} : ∀ {ds : List (κ × D)} {vs : List (κ × V)}, aP K I F ds vs → ds.length = vs.length
 | [], vs, h => by simp only [aP] at h; subst h; rfl
 | (k, d) :: ds, vs, h => by
  simp only [aP] at h
  obtain ⟨v, r, rfl, _, h3⟩ := h
  simp [aP.len h3]
def pairOf : D → Option (List Key × D)
 | .tup [.tup ks, v] => (sD ks).map fun k => (k, v)
 | _ => none
def pairsOf : List D → Option (List (List Key × D))
 | [] => some []
 | d :: ds => match pairOf d, pairsOf ds with
  | some p, some ps => some (p :: ps)
  | _, _ => none
def X7 : MF := fun ds w => match ds with
 | [.ref i] => (match w[i]? with
  | some (.dK kvs) => .ok (.ref w.length) (w ++ [.dK kvs])
  | some (.dT kvs) => if (kvs.all fun p => smallKey p.1) = true then .ok (.ref w.length) (w ++ [.dT kvs]) else .bad
  | _ => .bad)
 | [.lst ps] => (match pairsOf ps with
  | some kvs => .ok (.ref w.length) (w ++ [.dT (j5 [] kvs)])
  | none => .bad)
 | _ => .bad
def Y0 (tab : List (Str × Option D)) (ys : List D) (w : W) : Res D := match ys with
 | [.str z, y] => (match tab.lookup z with
  | some o => .ok (o.getD y) w
  | none => .ok y w)
 | _ => .bad
def YI (d : Addr) (tab : List (Str × Option D)) (mo : ME) (ma : MA) : ME := fun σ w => (mo σ w).bind fun x w1 => match x with
 | .con a => if a = d then (ma σ w1).bind fun ys w2 => Y0 tab ys w2 else .bad
 | _ => .bad
end Pc
namespace L2
open PySem PySem.Spec PyProof.Rows
open PySem.W (EachIs AllAlike Sortable dataLe)
def leI (a b : Int) : Bool := decide (a ≤ b)
end L2
namespace Pc
open PySem PySem.Spec PyProof.Rows L2
def R5 : MF := fun ds w => match ds with
 | [.tup xs] => (match iT xs with
  | some ns => .ok (.lst ((ns.mergeSort leI).map D.int)) w
  | none => .bad)
 | ds => JB ds w
def S3 (n : Nat) (r : HV) : MG := fun d σ w => match qX d w with
 | some xs => if xs.length = n then r xs σ w else .bad
 | none => .bad
open RZ (nextOf_tuple_item nextOf_tuple_end)
def zmM (ds : List D) (w : W) : Res lA := match ds with
 | [.tup xs, .lst ys] => if xs.length = ys.length then .ok ⟨(xs.zip ys).map fun p => .tup [p.1, p.2], always⟩ w else .bad
 | _ => .bad
end Pc
namespace Pc
open PySem PySem.Spec PyProof.Rows L2 PySem.W
def eqE (x y : D) (w : W) : Res D := match x, y with
 | .ref i, .ref j => (match w[i]?, w[j]? with
  | some (.dT kvs), some (.dT []) => .ok (.bl kvs.isEmpty) w
  | _, _ => .bad)
 | _, _ => .bad
end Pc
namespace Pc
open PySem PySem.Spec PyProof.Rows L2
def aAh (C : Addr) (nm : Str) (x : D) (w : W) : Option Nat := match x with
 | .ref i => (match w[i]? with
  | some (.ins C' fs) => if C' = C ∧ fs.lookup nm = none then some i else none
  | _ => none)
 | _ => none
def tX (C : Addr) (nm : Str) (m : MF) (n : Nat) (gd : List D → List D → List D) (mo : ME) (ma : MA) : ME := fun σ w => (mo σ w).bind fun x w1 => match aAh C nm x w1 with
 | some i => (ma σ w1).bind fun xs w2 => if xs.length + 1 = n then m (gd (.ref i :: xs) []) w2 else .bad
 | none => .bad
def SI : PY := fun d ds w => match d, ds with
 | .ref i, [.tup zs] => (match w[i]? with
  | some (.lst xs) => if xs.length + zs.length ≤ sizeLine then .ok .non (w.set i (.lst (xs ++ zs))) else .bad
  | _ => .bad)
 | _, _ => .bad
def lexLeI (ns ms : List Int) : Bool := Ob.lexAt (fun j => decide (ns.getD j 0 = ms.getD j 0)) (fun j => decide (ns.getD j 0 ≤ ms.getD j 0)) (decide (ns.length ≤ ms.length)) 0 (min ns.length ms.length)
def leA (x y : D) (w : W) : Res D := match x, y with
 | .int a, .int b => .ok (.bl (decide (a ≤ b))) w
 | .tup a, .tup b => (match iT a, iT b with
  | some ns, some ms => .ok (.bl (lexLeI ns ms)) w
  | _, _ => .bad)
 | _, _ => .bad
def zT (x y : D) (w : W) : Res D := match qX x w, qX y w with
 | some a, some b => if a.length + b.length ≤ sizeLine then .ok (.ref w.length) (w ++ [.lst (a ++ b)]) else .bad
 | _, _ => .bad
theorem OU {S : aQ} : O2 S (binaryOp .Add) zT := iE fun X E c xo I F G d e w H x y Q rel rd re p => by
 unfold zT at p
 split at p
 ·rename_i a b ha hb
  obtain ⟨q, vs, rfl, h1, h2⟩ := rR rel rd ha
  obtain ⟨q', vs', rfl, h1', h2'⟩ := rR rel re hb
  split at p
  ·rename_i hl
   exact ⟨_, op_cat, q, q', vs, vs', rfl, rfl, h1, h1', by rw [← h2.length, ← h2'.length]; exact hl, BP (o := .lst (a ++ b)) rel ⟨_, rfl, h2.append h2'⟩ p⟩
  ·exact p.elim
 ·exact p.elim
end Pc
namespace He
open PySem PySem.Spec PyProof.Rows L2
abbrev WB : Type := AlT × Bool
def QD (as : List Addr) (fa : List Fa) (fn : List DefD) (ts : List Tab) (ex : PySem.W.Frag → Bool) (g : Addr → Option Obj) : WB := (obsT fa fn ts (frT g as), ex (frT g as))
def X4 (fn : List DefD) (ts : List Tab) (w : World) : WB := (valT fn ts w, true)
theorem PN {as : List Addr} {fa : List Fa} {fn : List DefD} {ts : List Tab} {ex : PySem.W.Frag → Bool} {w : World} {h : Heap} (e : QD as fa fn ts ex h.get? = X4 fn ts w) : SaysX fa fn ts [] ex w h (frT h.get? as) :=
 ⟨congrArg (fun z : WB => z.1) e, congrArg (fun z : WB => z.2) e, (fun _ hp => nomatch hp), (fun _ hp => nomatch hp), (fun _ hp => nomatch hp)⟩
def SQ (as : List Addr) (fa : List Fa) (fn : List DefD) (ts : List Tab) (ex : PySem.W.Frag → Bool) : PySem.W.Hook where
 α := WB
 obs := fun s => QD as fa fn ts ex s.heap.get?
 val := fun w => X4 fn ts w
 says := fun w h => ∃ K : PySem.W.Frag, K.In h ∧ SaysX fa fn ts [] ex w h K
 of := fun _ _ e => ⟨_, frT_in, PN e⟩
 keeps := fun _ _ _ ⟨K, hK, c⟩ k => ⟨K, PySem.W.Frag.In.keeps hK k, ⟨c.t, c.more, c.hd, c.out, (fun _ hp => nomatch hp)⟩⟩
theorem R4 {as : List Addr} {fa : List Fa} {fn : List DefD} {ts : List Tab} {ex : PySem.W.Frag → Bool} {g : Addr → Option Obj} {s : Shared} (h : ∀ a, g a = s.heap.get? a) : QD as fa fn ts ex g = (SQ as fa fn ts ex).obs s := by
 have e : g = s.heap.get? := funext h
 rw [e]
 rfl
theorem S6 {α β γ δ : Type} {e : Option α} {f : α → β} {g : α → γ} {h : α → δ} {a : β} {b : γ} {c : δ} (h1 : e.map (fun s => (f s, g s)) = some (a, b)) (h2 : e.map h = some c) : e.map (fun s => (f s, g s, h s)) = some (a, b, c) := by
 cases e with
 | none => exact nomatch h1
 | some s => 
  have q : (f s, g s) = (a, b) := Option.some.inj h1
  have q2 : h s = c := Option.some.inj h2
  have q3 := congrArg Prod.fst q
  have q4 := congrArg Prod.snd q
  show some (f s, g s, h s) = some (a, b, c)
  rw [q2, show f s = a from q3, show g s = b from q4]
end He
namespace Pc
open PySem PySem.Spec PyProof.Rows L2
def pR : PY := fun d ds w => match d, ds with
 | .ref i, [.int j, y] => (match w[i]? with
  | some (.lst xs) => if xs.length < sizeLine ∧ 0 ≤ j ∧ j < 2 ^ 63 then .ok .non (w.set i (.lst (xs.take j.toNat ++ [y] ++ xs.drop j.toNat))) else .bad
  | _ => .bad)
 | _, _ => .bad
theorem LD {S : aQ} : MB S "list.insert" pR := J0 fun X E c xo I F G d ds w H x vs Q rel rd rl p => by
 unfold pR at p
 split at p
 ·rename_i i j y
  simp only [aG] at rd
  obtain ⟨a, rfl, hi⟩ := rd
  obtain ⟨v, u0, rfl, rj, ry⟩ := rl.two
  simp only [aG] at rj
  subst rj
  split at p
  ·rename_i xs hw
   obtain ⟨u, hu, us, rfl, hr⟩ := rel.ob i a _ hi hw
   split at p
   ·rename_i hl
    exact ⟨_, mt_insert, a, us, j, u0, rfl, rfl, hu, by rw [← hr.length]; exact hl.1, hl.2.1, hl.2.2, p.nO (rel.upd hi hw ⟨_, rfl, ((hr.take _).append (RepL.cons ry (by simp [RepL]))).append (hr.drop _)⟩) (by simp [aG])⟩
   ·exact p.elim
  ·exact p.elim
 ·exact p.elim
def calm {α : Type} : Res α → Res α
 | .ok a w => .ok a w
 | _ => .bad
def Top (X : Cx) : Prop := X.stack = X.env :: X.outer ∧ X.env.frame = some X.env.locals
def JST (S : aQ) (st : Stmt) (m : MS) : Prop := ∀ X E, Ctx S X → nQ X E → Top X → PS X st (zC X.K E m)
def Z0 (S : aQ) (st : List Stmt) (m : MS) : Prop := ∀ X E, Ctx S X → nQ X E → Top X → PSs X st (zC X.K E m)
theorem JS.t {S : aQ} {st : Stmt} {m : MS} (h : JS S st m) : JST S st m := fun X E cx xo _ => h X E cx xo
theorem lD.t {S : aQ} {st : List Stmt} {m : MS} (h : lD S st m) : Z0 S st m := fun X E cx xo _ => h X E cx xo
abbrev Ez : XK := fun _ _ _ => False
theorem bE.calm {α β : Type} {K : PySem.W.Frag} {I : List Addr} {F G : Hp} {E : XK} {R : List Addr → Hp → Hp → β → W → Prop} {r : Res α} {f : α → W → Res β} (p : bE K I F G E R ((Pc.calm r).bind f)) : bE K I F G Ez (fun I1 F1 _ x w1 => bE K I1 F1 G E R (f x w1)) r := by
 cases r with
 | ok a w => exact fun I' F' H' e rel => bE.ext p e
 | AG x w => exact False.elim p
 | bad => exact False.elim p
def WH (X : Cx) : Prop := Top X ∧ X.ex = []
def ZV (S : aQ) (st : Stmt) (m : MS) : Prop := ∀ X E, Ctx S X → nQ X E → WH X → PS X st (zC X.K E m)
def W5 (S : aQ) (st : List Stmt) (m : MS) : Prop := ∀ X E, Ctx S X → nQ X E → WH X → PSs X st (zC X.K E m)
theorem JS.t3 {S : aQ} {st : Stmt} {m : MS} (h : JS S st m) : ZV S st m := fun X E cx xo _ => h X E cx xo
theorem lD.t3 {S : aQ} {st : List Stmt} {m : MS} (h : lD S st m) : W5 S st m := fun X E cx xo _ => h X E cx xo
theorem Rel.hold {K : PySem.W.Frag} {I : List Addr} {F G H : Hp} {w : W} {x : XD} {c : Value} {d : Option Addr} (rel : Rel K I F G w H) (rx : yI K I F H x c d) :
  ∃ G', Rel K I F G' w H ∧ (∀ I2 F2 w2 H2, Ext I F I2 F2 → Rel K I2 F2 G' w2 H2 → Rel K I2 F2 G w2 H2 ∧ yI K I2 F2 H2 x c d) := by
 obtain ⟨ec, hx⟩ := rx
 cases hf : x.fs with
 | none =>
  rw [hf] at hx
  exact ⟨G, rel, fun I2 F2 w2 H2 e r2 => ⟨r2, ec, by rw [hf]; exact hx⟩⟩
 | some fs =>
  rw [hf] at hx
  obtain ⟨a, r, e1, e2, e3⟩ := hx
  have fin : ∀ {I2 F2 H2}, Ext I F I2 F2 → H2 a = some (.xd r) → yI K I2 F2 H2 x c d := fun e h => ⟨ec, by rw [hf]; exact ⟨a, r, e1, h, aP.ext e _ _ e3⟩⟩
  have nI : a ∉ I := fun hm => by
   obtain ⟨i, hi⟩ := List.mem_iff_getElem?.mp hm
   have li : i < w.length := by rw [← rel.len]; exact (aj.mp hi).1
   obtain ⟨u, h1, h2⟩ := rel.ob i a w[i] hi (av li)
   rw [e2] at h1
   cases h1
   cases hw : w[i] with
   | lst xs => rw [hw] at h2; obtain ⟨_, z, _⟩ := h2; cases z
   | dK xs => rw [hw] at h2; obtain ⟨_, z, _⟩ := h2; cases z
   | dT xs => rw [hw] at h2; obtain ⟨_, z, _⟩ := h2; cases z
   | dF xs => rw [hw] at h2; obtain ⟨_, _, z, _⟩ := h2; cases z
   | dG xs => rw [hw] at h2; obtain ⟨_, _, z, _⟩ := h2; cases z
   | ins C xs => rw [hw] at h2; obtain ⟨_, _, z, _⟩ := h2; cases z
  cases hF : F a with
  | some u =>
   have hu := rel.fz a u hF
   rw [e2] at hu
   cases hu
   exact ⟨G, rel, fun I2 F2 w2 H2 e r2 => ⟨r2, fin e (r2.fz a _ (e.f a _ hF))⟩⟩
  | none =>
   cases hG : G a with
   | some u =>
    have hu := rel.gz a u hG
    rw [e2] at hu
    cases hu
    exact ⟨G, rel, fun I2 F2 w2 H2 e r2 => ⟨r2, fin e (r2.gz a _ hG)⟩⟩
   | none =>
    refine ⟨L2.upd G a (.xd r), ⟨rel.len, rel.nd, rel.ob, rel.fz, rel.ap, fun b v hb => ?_, fun b v hb => ?_, fun b xs hb => ?_⟩, fun I2 F2 w2 H2 e r2 => ⟨r2.less hG, fin e (r2.gz a _ upd_same)⟩⟩
    ·by_cases q : b = a
     ·subst q
      rw [upd_same] at hb
      cases hb
      exact e2
     ·rw [upd_ne q] at hb
      exact rel.gz b v hb
    ·by_cases q : b = a
     ·subst q
      exact ⟨hF, nI⟩
     ·rw [upd_ne q] at hb
      exact rel.gf b v hb
    ·by_cases q : b = a
     ·subst q
      rw [upd_same] at hb
      cases hb
     ·rw [upd_ne q] at hb
      exact rel.gt b xs hb
def CQ (K : PySem.W.Frag) : Prop := ∃ o, K.lookup sysModules = some o ∧ o.cls = .type "dict"
def UQ (K : PySem.W.Frag) : Bool := match K.lookup sysModules with
 | some o => (match o.cls with
  | .type n => n == "dict"
  | _ => false)
 | none => false
theorem QF {K : PySem.W.Frag} (h : UQ K = true) : CQ K := by
 unfold UQ at h
 split at h
 ·rename_i o e
  split at h
  ·rename_i n e2
   exact ⟨o, e, by rw [e2]; exact congrArg Value.type (eq_of_beq h)⟩
  ·cases h
 ·cases h
mutual
inductive Dq (K : PySem.W.Frag) (H : Hp) : V → PyData → Prop
 | non : Dq K H .non .none
 | bl (b : Bool) : Dq K H (.bl b) (.bool b)
 | int (i : Int) : Dq K H (.int i) (.int i)
 | str (x : Str) : Dq K H (.str x) (.str x)
 | lst {a : Addr} {xs : List V} {ds : List PyData} : SqL K H a xs → DqAll K H xs ds → Dq K H (.ref a) (.list ds)
 | tup {a : Addr} {xs : List V} {ds : List PyData} : SqT K H a xs → DqAll K H xs ds → Dq K H (.ref a) (.tuple ds)
 | emp {a : Addr} : (H a = some (.dK []) ∨ H a = some (.dT [])) → Dq K H (.ref a) (.dict [])
inductive DqAll (K : PySem.W.Frag) (H : Hp) : List V → List PyData → Prop
 | nil : DqAll K H [] []
 | cons {v : V} {vs : List V} {d : PyData} {ds : List PyData} : Dq K H v d → DqAll K H vs ds → DqAll K H (v :: vs) (d :: ds)
end
theorem QK {P : Program} {w : World} {H : Hp} {h : Heap} {a : Addr} {o : HO} (x : ObjOk P w H h a o) (e : o = .dK [] ∨ o = .dT []) : (a == sysModules) = false ∧ ∃ ob es n, h.get? a = some ob ∧ ob.cls = .type "dict" ∧ ob.data = .dict es n ∧ es.toList = [] := by
 rcases e with rfl | rfl
 ·obtain ⟨_, ns, vs, kv, o, es, n, e1, e2, e3, e4, e5⟩ := x
  cases kv
  have e6 := e5.1
  refine ⟨ns, o, es, n, e1, e2.1, e3, ?_⟩
  generalize es.toList = l at e6
  cases l with
  | nil => rfl
  | cons x l => cases e6
 ·obtain ⟨_, ns, xs, pr, o, es, n, e1, e2, e3, e4, e5⟩ := x
  cases pr
  exact ⟨ns, o, es, n, e1, e2.1, e3, by rw [e4]; rfl⟩
section
variable {X : Cx} {pins : List (Addr × Obj)} {σ : L2.St} {H : Hp} {s : Shared}
mutual
theorem Dq.reads (hS : CQ X.K) (I : Inv X pins σ H s) : ∀ (d : PyData) (v : V) (u : Value), Dq X.K H v d → RelV v u → ∃ as, Reads s.heap u d as ∧ sysModules ∉ as
 | .none, _, _, h, r => by
  cases h
  cases r
  exact ⟨_, Reads.none, by simp⟩
 | .bool b, _, _, h, r => by
  cases h
  cases r
  exact ⟨_, Reads.bool b, by simp⟩
 | .int i, _, _, h, r => by
  cases h
  obtain ⟨t, rfl⟩ := r
  exact ⟨_, Reads.int i t, by simp⟩
 | .str x, _, _, h, r => by
  cases h
  obtain ⟨t, rfl⟩ := r
  exact ⟨_, Reads.str x t, by simp⟩
 | .list ds, _, _, h, r => by
  cases h with
  | lst hs ha =>
   cases r
   obtain ⟨its, rv, ⟨o, n, ho, hc, _, hd⟩, _⟩ := I.list hs
   obtain ⟨as, hr, ns⟩ := Dq.readsAll hS I ds _ its ha rv
   refine ⟨_, Reads.list ho hc hd hr, fun hm => ?_⟩
   rcases ao.mp hm with e | e
   ·obtain ⟨o2, h1, h2⟩ := hS
    have := I.kIn _ _ h1
    rw [e, ho] at this
    cases this
    rw [h2] at hc
    exact absurd (Value.type.inj hc) (by decide)
   ·exact ns e
 | .tuple ds, _, _, h, r => by
  cases h with
  | tup hs ha =>
   cases r
   obtain ⟨its, rv, ⟨o, ho, hc, n, hd⟩, _⟩ := I.tuple hs
   obtain ⟨as, hr, ns⟩ := Dq.readsAll hS I ds _ its ha rv
   exact ⟨_, Reads.tuple ho hc hd hr, ns⟩
 | .dict kvs, _, _, h, r => by
  cases h with
  | emp he =>
   cases r
   rename_i a
   have hx : ∃ o, H a = some o ∧ (o = .dK [] ∨ o = .dT []) := by
    rcases he with he | he
    ·exact ⟨_, he, .inl rfl⟩
    ·exact ⟨_, he, .inr rfl⟩
   obtain ⟨o, h1, h2⟩ := hx
   obtain ⟨ne, ob, es, n, e1, e2, e3, e4⟩ := QK (I.hok a o h1) h2
   have r0 : ReadsAll s.heap (es.toList.map (·.key)) (([] : List (PyData × PyData)).map (·.1)) [] := by rw [e4]; exact .nil
   have r1 : ReadsAll s.heap (es.toList.map (·.val)) (([] : List (PyData × PyData)).map (·.2)) [] := by rw [e4]; exact .nil
   refine ⟨_, Reads.dict e1 e2 e3 r0 r1, fun hm => ?_⟩
   have : sysModules = a := by simpa using hm
   rw [← this] at ne
   simp at ne
theorem Dq.readsAll (hS : CQ X.K) (I : Inv X pins σ H s) : ∀ (ds : List PyData) (vs : List V) (us : List Value), DqAll X.K H vs ds → Vals vs us → ∃ as, ReadsAll s.heap us ds as ∧ sysModules ∉ as
 | [], _, _, h, r => by
  cases h
  cases r
  exact ⟨_, ReadsAll.nil, by simp⟩
 | d :: ds, _, _, h, r => by
  cases h with
  | cons h1 h2 =>
   cases r with
   | cons r1 r2 =>
    obtain ⟨as, q1, n1⟩ := Dq.reads hS I d _ _ h1 r1
    obtain ⟨bs, q2, n2⟩ := Dq.readsAll hS I ds _ _ h2 r2
    exact ⟨_, ReadsAll.cons q1 q2, fun hm => by
     rcases bf.mp hm with e | e
     ·exact n1 e
     ·exact n2 e⟩
end
end
section
variable {K : PySem.W.Frag} {I : List Addr} {F G H : Hp} {w : W}
mutual
theorem WA (rel : Rel K I F G w H) {f : Nat → Option PyData} (hf : ∀ i a p, I[i]? = some a → f i = some p → Dq K H (.ref a) p) : ∀ (d : D) (v : V) (p : PyData), aG K I F d v → d.e7 f = some p → Dq K H v p
 | .non, v, p, h, e => by simp only [aG] at h; simp only [D.e7, af] at e; subst h; subst e; exact .non
 | .bl b, v, p, h, e => by simp only [aG] at h; simp only [D.e7, af] at e; subst h; subst e; exact .bl b
 | .int i, v, p, h, e => by simp only [aG] at h; simp only [D.e7, af] at e; subst h; subst e; exact .int i
 | .str x, v, p, h, e => by simp only [aG] at h; simp only [D.e7, af] at e; subst h; subst e; exact .str x
 | .ty _, v, p, h, e => by simp [D.e7] at e
 | .con _, v, p, h, e => by simp [D.e7] at e
 | .sF _ _, v, p, h, e => by simp [D.e7] at e
 | .tup xs, v, p, h, e => by
  simp only [aG] at h
  obtain ⟨a, vs, rfl, h2, h3⟩ := h
  simp only [D.e7, ai] at e
  obtain ⟨ps, e1, rfl⟩ := e
  exact .tup (.of (rel.fz _ _ h2)) (dq_pysR rel hf xs vs ps h3 e1)
 | .nX xs, v, p, h, e => by
  simp only [aG] at h
  obtain ⟨a, vs, rfl, h2, h3⟩ := h
  simp only [D.e7, ai] at e
  obtain ⟨ps, e1, rfl⟩ := e
  exact .tup (rel.EN h2) (dq_pysR rel hf xs vs ps h3 e1)
 | .lst xs, v, p, h, e => by
  simp only [aG] at h
  obtain ⟨a, vs, rfl, h2, h3⟩ := h
  simp only [D.e7, ai] at e
  obtain ⟨ps, e1, rfl⟩ := e
  exact .lst (.of (rel.fz _ _ h2)) (dq_pysR rel hf xs vs ps h3 e1)
 | .jR xs, v, p, h, e => by
  simp only [aG] at h
  obtain ⟨a, vs, rfl, h2, h3⟩ := h
  simp only [D.e7, ai] at e
  obtain ⟨ps, e1, rfl⟩ := e
  exact .lst (rel.LQ h2) (dq_pysR rel hf xs vs ps h3 e1)
 | .ref i, v, p, h, e => by
  simp only [aG] at h
  obtain ⟨a, rfl, h2⟩ := h
  simp only [D.e7] at e
  exact hf i a p h2 e
theorem dq_pysR (rel : Rel K I F G w H) {f : Nat → Option PyData} (hf : ∀ i a p, I[i]? = some a → f i = some p → Dq K H (.ref a) p) : ∀ (ds : List D) (vs : List V) (ps : List PyData), RepL K I F ds vs → D.pysR f ds = some ps → DqAll K H vs ps
 | [], vs, ps, h, e => by simp only [RepL] at h; simp only [D.pysR, af] at e; subst h; subst e; exact .nil
 | d :: ds, vs, ps, h, e => by
  simp only [RepL] at h
  obtain ⟨v, r, rfl, h2, h3⟩ := h
  simp only [D.pysR] at e
  split at e
  ·rename_i p ps' e1 e2
   cases e
   exact .cons (WA rel hf d v p h2 e1) (dq_pysR rel hf ds r ps' h3 e2)
  ·cases e
end
end
def K9 : MF := fun ds w => match ds with
 | [.int i] => if i.natAbs.log2 < 1920 then .ok (.str (toString i)) w else .bad
 | [.str a] => .ok (.str a) w
 | _ => .bad
theorem VG {S : aQ} : CB S (.type "str") K9 := uY fun X E c xo I F G ds w H vs Q rel rl p => by
 unfold K9 at p
 split at p
 ·rename_i i
  obtain ⟨v, rfl, rv⟩ := rl.one
  simp only [aG] at rv
  subst rv
  split at p
  ·rename_i hi
   exact ⟨_, call_str_int, i, rfl, hi, p.nO rel (by simp [aG])⟩
  ·exact p.elim
 ·rename_i a
  obtain ⟨v, rfl, rv⟩ := rl.one
  simp only [aG] at rv
  subst rv
  exact ⟨_, SkE.call_str_str, a, rfl, p.nO rel (by simp [aG])⟩
 ·exact p.elim
def I0 (kvs : List (Key × D)) : D := .sF (kvs.map fun p => rK p.1) (kvs.map fun p => p.2)
def AJ (m : MP) : ME := fun σ w => (m σ w).bind fun ps w1 => match keyed ps with
 | some kvs => if kvs.length ≤ 15 then .ok (I0 (j5 [] kvs)) w1 else .bad
 | none => .bad
def xX : ME := fun _ w => .ok (.sF [] []) w
section
variable {K : PySem.W.Frag} {I : List Addr} {F G H : Hp} {w : W}
theorem D2 : ∀ {kvs : List (Key × D)} {r : List (Key × V)}, aP K I F kvs r → RepL K I F (kvs.map fun p => rK p.1) (r.map fun p => kV p.1)
 | [], r, h => by simp only [aP] at h; subst h; simp [RepL]
 | (k, d) :: kvs, r, h => by
  simp only [aP] at h
  obtain ⟨v, t, rfl, h1, h2⟩ := h
  exact RepL.cons (D4 k) (D2 h2)
theorem DW : ∀ {kvs : List (Key × D)} {r : List (Key × V)}, aP K I F kvs r → RepL K I F (kvs.map fun p => p.2) (r.map fun p => p.2)
 | [], r, h => by simp only [aP] at h; subst h; simp [RepL]
 | (k, d) :: kvs, r, h => by
  simp only [aP] at h
  obtain ⟨v, t, rfl, h1, h2⟩ := h
  exact RepL.cons h1 (DW h2)
end
section
variable {S : aQ} {pos : Pos} {ks : List (Option Expr)} {vs : List Expr} {m : MP}
theorem QC (h : JD S pos ks vs m) (hall : ks.all (·.isSome) = true := by rfl) (hl : ks.length = vs.length := by rfl) (h0 : ks ≠ [] := by simp) (h15 : ks.length ≤ 15 := by exact ab rfl) : JE S (.Dict ks vs pos) (AJ m) := fun X E cx xo => by
 obtain ⟨trs, g1, g2⟩ := h X E cx xo
 refine cG (pe_disp g1 hall hl h0 h15) fun σ H Q ⟨I, F, G, ds, w, rel, rs, p⟩ q hq => ?_
 have hG : G q = none := by
  cases z : G q with
  | none => rfl
  | some u => rw [rel.gz _ _ z] at hq; cases hq
 refine g2 σ _ _ ⟨I, F, upd G q (.dK []), ds, w, rel.keep hq, rs, (bE.bind p).more hG fun I1 F1 H1 ps w1 _ e1 rel1 p1 us ru => ?_⟩
 refine ⟨rel1.gz q _ upd_same, ?_⟩
 split at p1
 ·rename_i kvs hk
  split at p1
  ·rename_i hl'
   obtain ⟨r, e2, e3⟩ := uG ru hk
   refine ⟨r, e2, by rw [← e3.length]; exact hl', ?_⟩
   have e4 : aP X.K I1 F1 (j5 [] kvs) (mergeK [] r) := aP.merge e3 (by simp [aP])
   obtain ⟨ee, rel2⟩ := (rel1.FN (u' := .dK (mergeK [] r))).PQ hG
   refine p1 _ _ _ ee rel2 _ ?_
   have e5 := aP.ext ee _ _ e4
   simp only [I0, aG]
   exact ⟨q, _, rfl, .inl upd_same, D2 e5, DW e5⟩
  ·exact p1.elim
 ·exact p1.elim
theorem DD : JE S (.Dict [] [] pos) xX := fun X E cx xo => cG pe_dnewK fun σ H Q ⟨I, F, G, ds, w, rel, rs, p⟩ q hq => by
 have hG : G q = none := by
  cases z : G q with
  | none => rfl
  | some u => rw [rel.gz _ _ z] at hq; cases hq
 obtain ⟨e, rel2⟩ := (rel.keep (u := .dK []) hq).PQ hG
 refine p _ _ _ e rel2 _ ?_
 simp only [aG]
 exact ⟨q, [], rfl, .inl upd_same, by simp [RepL], by simp [RepL]⟩
end
def n5 : List D → Option (List PyData)
 | [] => some []
 | .int i :: ds => (n5 ds).map fun ps => .int i :: ps
 | .str x :: ds => (n5 ds).map fun ps => .str x :: ps
 | _ :: _ => none
mutual
def D.AO (f : Nat → Option PyData) : D → Option PyData
 | .non => some .none
 | .bl b => some (.bool b)
 | .int i => some (.int i)
 | .str x => some (.str x)
 | .ty _ => none
 | .con _ => none
 | .tup xs => (D.pysV f xs).map .tuple
 | .nX xs => (D.pysV f xs).map .tuple
 | .lst xs => (D.pysV f xs).map .list
 | .jR xs => (D.pysV f xs).map .list
 | .sF ks vs => (match n5 ks, D.pysV f vs with
  | some kp, some vp => if kp.length = vp.length then some (.dict (kp.zip vp)) else none
  | _, _ => none)
 | .ref i => f i
def D.pysV (f : Nat → Option PyData) : List D → Option (List PyData)
 | [] => some []
 | d :: ds => match D.AO f d, D.pysV f ds with
  | some p, some ps => some (p :: ps)
  | _, _ => none
end
theorem G8 {d : D} {ds : List D} {kp : List PyData} (h : n5 (d :: ds) = some kp) : ∃ p ps, kp = p :: ps ∧ n5 ds = some ps ∧ ((∃ i, d = .int i ∧ p = .int i) ∨ ∃ x, d = .str x ∧ p = .str x) := by
 cases d <;> simp only [n5, ai, reduceCtorEq] at h
 ·obtain ⟨ps, h1, rfl⟩ := h
  exact ⟨_, ps, rfl, h1, .inl ⟨_, rfl, rfl⟩⟩
 ·obtain ⟨ps, h1, rfl⟩ := h
  exact ⟨_, ps, rfl, h1, .inr ⟨_, rfl, rfl⟩⟩
theorem vP {h : Heap} {P : Program} {w : World} {K : PySem.W.Frag} {I : List Addr} {F : Hp} : ∀ {ks : List D} {kp : List PyData} {kvs : List (Key × V)} {kvs2 : List (Key × Value)} {es : List DictEntry}, n5 ks = some kp → RepL K I F ks (kvs.map fun p => kV p.1) → KV kvs kvs2 → Pairs (mixKind P w) es kvs2 → ReadsAll h (es.map (·.key)) kp []
 | [], kp, kvs, kvs2, es, e, r, kv, ps => by
  simp only [n5, af] at e
  subst e
  simp only [RepL, List.map_eq_nil_iff] at r
  subst r
  cases kv
  cases ps
  exact .nil
 | d :: ds, kp, kvs, kvs2, es, e, r, kv, ps => by
  obtain ⟨p, pp, rfl, e2, e3⟩ := G8 e
  cases kvs with
  | nil => simp only [List.map_nil, RepL] at r; obtain ⟨_, _, z, _⟩ := r; cases z
  | cons kv1 kvs =>
   simp only [List.map_cons, RepL] at r
   obtain ⟨v, t, z, r1, r2⟩ := r
   cases z
   cases kv with
   | cons k1 k2 =>
    cases ps with
    | @cons en kv0 es0 kvs0 p1 p2 p3 =>
     have ih := vP (h := h) e2 r2 k2 p3
     have hp : Reads h en.key p [] := by
      obtain ⟨q1, q2⟩ := k1
      obtain ⟨k, v0⟩ := kv1
      simp only at q1
      subst q1
      rcases keyIs_shape p1 with ⟨i, t, e5, e6⟩ | ⟨x, t, e5, e6⟩
      ·rw [e6]
       simp only [e5] at r1
       rcases e3 with ⟨j, rfl, rfl⟩ | ⟨x, rfl, rfl⟩
       ·simp only [aG, kV, V.int.injEq] at r1
        subst r1
        exact Reads.int _ t
       ·simp [aG, kV] at r1
      ·rw [e6]
       simp only [e5] at r1
       rcases e3 with ⟨j, rfl, rfl⟩ | ⟨y, rfl, rfl⟩
       ·simp [aG, kV] at r1
       ·simp only [aG, kV, V.str.injEq] at r1
        subst r1
        exact Reads.str _ t
     exact ReadsAll.cons (as := []) (bs := []) hp ih
theorem IL {P : Program} {w : World} : ∀ {kvs : List (Key × V)} {kvs2 : List (Key × Value)} {es : List DictEntry}, KV kvs kvs2 → Pairs (mixKind P w) es kvs2 → Vals (kvs.map fun p => p.2) (es.map (·.val))
 | [], _, _, kv, ps => by
  cases kv
  cases ps
  exact .nil
 | p :: kvs, _, _, kv, ps => by
  cases kv with
  | cons k1 k2 =>
   cases ps with
   | cons p1 p2 p3 =>
    exact .cons (by show L2.RelV p.2 (DictEntry.val _); rw [p2]; exact k1.2) (IL k2 p3)
section
variable {X : Cx} {pins : List (Addr × Obj)} {σ : L2.St} {H : Hp} {s : Shared} {I : List Addr} {F G : Hp} {w : W}
mutual
theorem zR (hS : CQ X.K) (J : Inv X pins σ H s) (rel : Rel X.K I F G w H) {f : Nat → Option PyData} (hf : ∀ i a p, I[i]? = some a → f i = some p → ∃ as, Reads s.heap (.ref a) p as ∧ sysModules ∉ as) : ∀ (d : D) (v : V) (u : Value) (p : PyData), aG X.K I F d v → RelV v u → d.AO f = some p → ∃ as, Reads s.heap u p as ∧ sysModules ∉ as
 | .non, v, u, p, h, r, e => by
  simp only [aG] at h
  simp only [D.AO, af] at e
  subst h e
  cases r
  exact ⟨_, Reads.none, by simp⟩
 | .bl b, v, u, p, h, r, e => by
  simp only [aG] at h
  simp only [D.AO, af] at e
  subst h e
  cases r
  exact ⟨_, Reads.bool b, by simp⟩
 | .int i, v, u, p, h, r, e => by
  simp only [aG] at h
  simp only [D.AO, af] at e
  subst h e
  obtain ⟨t, rfl⟩ := r
  exact ⟨_, Reads.int i t, by simp⟩
 | .str x, v, u, p, h, r, e => by
  simp only [aG] at h
  simp only [D.AO, af] at e
  subst h e
  obtain ⟨t, rfl⟩ := r
  exact ⟨_, Reads.str x t, by simp⟩
 | .ty _, v, u, p, h, r, e => by simp [D.AO] at e
 | .con _, v, u, p, h, r, e => by simp [D.AO] at e
 | .tup xs, v, u, p, h, r, e => by
  simp only [aG] at h
  obtain ⟨a, vs, rfl, h2, h3⟩ := h
  simp only [D.AO, ai] at e
  obtain ⟨ps, e1, rfl⟩ := e
  cases r
  obtain ⟨its, rv, ⟨o, ho, hc, n, hd⟩, _⟩ := J.tuple (show SqT X.K H a vs from .of (rel.fz _ _ h2))
  obtain ⟨as, hr, ns⟩ := pysV_reads hS J rel hf xs vs its ps h3 rv e1
  exact ⟨_, Reads.tuple ho hc hd hr, ns⟩
 | .nX xs, v, u, p, h, r, e => by
  simp only [aG] at h
  obtain ⟨a, vs, rfl, h2, h3⟩ := h
  simp only [D.AO, ai] at e
  obtain ⟨ps, e1, rfl⟩ := e
  cases r
  obtain ⟨its, rv, ⟨o, ho, hc, n, hd⟩, _⟩ := J.tuple (rel.EN h2)
  obtain ⟨as, hr, ns⟩ := pysV_reads hS J rel hf xs vs its ps h3 rv e1
  exact ⟨_, Reads.tuple ho hc hd hr, ns⟩
 | .lst xs, v, u, p, h, r, e => by
  simp only [aG] at h
  obtain ⟨a, vs, rfl, h2, h3⟩ := h
  simp only [D.AO, ai] at e
  obtain ⟨ps, e1, rfl⟩ := e
  cases r
  obtain ⟨its, rv, ⟨o, n, ho, hc, _, hd⟩, _⟩ := J.list (show SqL X.K H a vs from .of (rel.fz _ _ h2))
  obtain ⟨as, hr, ns⟩ := pysV_reads hS J rel hf xs vs its ps h3 rv e1
  refine ⟨_, Reads.list ho hc hd hr, fun hm => ?_⟩
  rcases ao.mp hm with e | e
  ·obtain ⟨o2, h1, h2⟩ := hS
   have := J.kIn _ _ h1
   rw [e, ho] at this
   cases this
   rw [h2] at hc
   exact absurd (Value.type.inj hc) (by decide)
  ·exact ns e
 | .jR xs, v, u, p, h, r, e => by
  simp only [aG] at h
  obtain ⟨a, vs, rfl, h2, h3⟩ := h
  simp only [D.AO, ai] at e
  obtain ⟨ps, e1, rfl⟩ := e
  cases r
  obtain ⟨its, rv, ⟨o, n, ho, hc, _, hd⟩, _⟩ := J.list (rel.LQ h2)
  obtain ⟨as, hr, ns⟩ := pysV_reads hS J rel hf xs vs its ps h3 rv e1
  refine ⟨_, Reads.list ho hc hd hr, fun hm => ?_⟩
  rcases ao.mp hm with e | e
  ·obtain ⟨o2, h1, h2⟩ := hS
   have := J.kIn _ _ h1
   rw [e, ho] at this
   cases this
   rw [h2] at hc
   exact absurd (Value.type.inj hc) (by decide)
  ·exact ns e
 | .sF ks xs, v, u, p, h, r, e => by
  simp only [aG] at h
  obtain ⟨a, kvs, rfl, h2, h3, h4⟩ := h
  simp only [D.AO] at e
  split at e
  ·rename_i kp vp e1 e2
   split at e
   ·rename_i el
    cases e
    cases r
    have hx : ∃ u, H a = some u ∧ (u = .dK kvs ∨ ∃ o, u = .frz o (.dK kvs)) := by
     rcases h2 with h2 | ⟨o, h2⟩
     ·exact ⟨_, rel.fz _ _ h2, .inl rfl⟩
     ·exact ⟨_, rel.fz _ _ h2, .inr ⟨o, rfl⟩⟩
    obtain ⟨u, h5, h6⟩ := hx
    have ok := J.hok a u h5
    have ok2 : ObjOk X.prog X.w H s.heap a (.dK kvs) := by
     rcases h6 with rfl | ⟨o, rfl⟩
     ·exact ok
     ·exact ok.2
    obtain ⟨_, ns, kv2, kv, o, es, n, q1, q2, q3, q4, q5, q6⟩ := ok2
    have rk := vP (h := s.heap) e1 h3 kv q5
    have hv : Vals (kvs.map fun p => p.2) (es.toList.map (·.val)) := IL kv q5
    obtain ⟨as, hr, ns2⟩ := pysV_reads hS J rel hf xs _ _ vp h4 hv e2
    have f1 : ((kp.zip vp).map fun p => p.1) = kp := by
     rw [List.map_fst_zip]
     omega
    have f2 : ((kp.zip vp).map fun p => p.2) = vp := by
     rw [List.map_snd_zip]
     omega
    refine ⟨_, Reads.dict (kvs := kp.zip vp) q1 q2.1 q3 (by rw [f1]; exact rk) (by rw [f2]; exact hr), fun hm => ?_⟩
    simp only [List.append_nil, List.cons_append, ao] at hm
    rcases hm with e | e
    ·rw [← e] at ns
     simp at ns
    ·exact ns2 e
   ·cases e
  ·cases e
 | .ref i, v, u, p, h, r, e => by
  simp only [aG] at h
  obtain ⟨a, rfl, h2⟩ := h
  simp only [D.AO] at e
  cases r
  exact hf i a p h2 e
theorem pysV_reads (hS : CQ X.K) (J : Inv X pins σ H s) (rel : Rel X.K I F G w H) {f : Nat → Option PyData} (hf : ∀ i a p, I[i]? = some a → f i = some p → ∃ as, Reads s.heap (.ref a) p as ∧ sysModules ∉ as) : ∀ (ds : List D) (vs : List V) (us : List Value) (ps : List PyData), RepL X.K I F ds vs → Vals vs us → D.pysV f ds = some ps → ∃ as, ReadsAll s.heap us ps as ∧ sysModules ∉ as
 | [], vs, us, ps, h, r, e => by
  simp only [RepL] at h
  simp only [D.pysV, af] at e
  subst h e
  cases r
  exact ⟨_, ReadsAll.nil, by simp⟩
 | d :: ds, vs, us, ps, h, r, e => by
  simp only [RepL] at h
  obtain ⟨v, t, rfl, h2, h3⟩ := h
  simp only [D.pysV] at e
  split at e
  ·rename_i p ps' e1 e2
   cases e
   cases r with
   | cons r1 r2 =>
    obtain ⟨as, q1, n1⟩ := zR hS J rel hf d v _ p h2 r1 e1
    obtain ⟨bs, q2, n2⟩ := pysV_reads hS J rel hf ds t _ ps' h3 r2 e2
    exact ⟨_, ReadsAll.cons q1 q2, fun hm => by
     rcases bf.mp hm with e | e
     ·exact n1 e
     ·exact n2 e⟩
  ·cases e
end
end
def EO : Nat → W → Nat → Option PyData
 | 0, _, _ => none
 | n + 1, w, i => match w[i]? with
  | some (.lst xs) => (D.pysV (EO n w) xs).map .list
  | _ => none
theorem uU {X : Cx} {pins : List (Addr × Obj)} {σ : L2.St} {H : Hp} {s : Shared} {I : List Addr} {F G : Hp} {w : W} (hS : CQ X.K) (J : Inv X pins σ H s) (rel : Rel X.K I F G w H) : ∀ (n i : Nat) (a : Addr) (p : PyData), I[i]? = some a → EO n w i = some p → ∃ as, Reads s.heap (.ref a) p as ∧ sysModules ∉ as
 | 0, i, a, p, _, e => by simp [EO] at e
 | n + 1, i, a, p, h, e => by
  simp only [EO] at e
  split at e
  ·rename_i xs hw
   simp only [ai] at e
   obtain ⟨ps, e1, rfl⟩ := e
   obtain ⟨u, hu, ho⟩ := rel.ob i a _ h hw
   obtain ⟨vs, rfl, h3⟩ := ho
   obtain ⟨its, rv, ⟨o, n', ho, hc, _, hd⟩, _⟩ := J.list (show SqL X.K H a vs from .of hu)
   obtain ⟨as, hr, ns⟩ := pysV_reads hS J rel (fun i a p => uU hS J rel n i a p) xs vs its ps h3 rv e1
   refine ⟨_, Reads.list ho hc hd hr, fun hm => ?_⟩
   rcases ao.mp hm with e | e
   ·obtain ⟨o2, h1, h2⟩ := hS
    have := J.kIn _ _ h1
    rw [e, ho] at this
    cases this
    rw [h2] at hc
    exact absurd (Value.type.inj hc) (by decide)
   ·exact ns e
  ·cases e
def CK (d : D) (w : W) : Option Str := match d.AO (EO 8 w) with
 | some p => if p.showable = true ∧ p.depth ≤ 60 ∧ p.shown.length ≤ sizeLine then some p.shown else none
 | none => none
def oE : MF := fun ds w => match ds with
 | [d] => (match CK d w with
  | some z => .ok (.str z) w
  | none => .bad)
 | _ => .bad
theorem sC {S : aQ} (hS : CQ S.K) : CB S (.builtin "repr") oE := fun X E c xo pins s σ H vs us Q J r ⟨I, F, G, ds, w, rel, rl, p⟩ => by
 have hS' : CQ X.K := by rw [c.K]; exact hS
 unfold oE at p
 split at p
 ·rename_i d
  obtain ⟨v, rfl, rv⟩ := rl.one
  obtain ⟨u, rfl, ru⟩ := vals1 r
  split at p
  ·rename_i z hz
   unfold CK at hz
   split at hz
   ·rename_i q hq
    split at hz
    ·rename_i hc
     cases hz
     obtain ⟨c1, c3, c4⟩ := hc
     obtain ⟨as, rd, ns⟩ := zR hS' J rel (fun i a p => uU hS' J rel 8 i a p) d v u q rv ru hq
     have fin : ∀ (h' : Heap) (t tk : Nat), (∀ b o, s.heap.get? b = some o → h'.get? b = some o) → EP X pins σ Q (.str q.shown t) { s with heap := h', toks := tk } := fun h' t tk hk => ⟨.str q.shown, H, J.kept hk, ⟨_, rfl⟩, p.nO rel (by simp [aG])⟩
     cases u with
     | ref a => exact repr_of_reads' rd c1 (fun _ => ns) c.Y4 (by have := c.room.units; omega) (fun _ _ h => h) (fun h' t tk hk => fin h' t tk hk) c4
     | none => cases rd; exact PySem.P.repr_of_none (by have := fin s.heap s.toks (s.toks + 1) fun _ _ h => h; simpa [PyData.shown] using this)
     | bool b => cases rd; exact PySem.P.repr_of_bool (by have := fin s.heap s.toks (s.toks + 1) fun _ _ h => h; simpa [PyData.shown] using this)
     | int i t => cases rd; exact PySem.P.repr_of_int (by simpa [PyData.showable] using c1) (by have := fin s.heap s.toks (s.toks + 1) fun _ _ h => h; simpa [PyData.shown] using this)
     | str x t => cases rd; exact PySem.P.repr_of_str (by have := fin s.heap s.toks (s.toks + 1) fun _ _ h => h; simpa [PyData.shown] using this) (by simpa [PyData.shown] using c4)
     | _ => cases rd
    ·cases hz
   ·cases hz
  ·exact p.elim
 ·exact p.elim
end Pc
namespace L2
open PySem PySem.Spec PyProof.Rows
section
variable {X : Cx}
theorem K4 : OpR X (binaryOp .Add) (fun x y H Q => ∃ k i, x = .bl k ∧ y = .int i ∧ Q (.int (b2i k + i)) H) := by
 intro pins s σ H x y v u Q I rx ry h
 obtain ⟨k, i, rfl, rfl, q⟩ := h
 cases rx
 obtain ⟨t, rfl⟩ := ry
 exact IntBool.add_bool_int ⟨.int (b2i k + i), H, I.tok _, ⟨_, rfl⟩, q⟩
theorem LM : OpR X (binaryOp .Sub) (fun x y H Q => ∃ k i, x = .bl k ∧ y = .int i ∧ Q (.int (b2i k - i)) H) := by
 intro pins s σ H x y v u Q I rx ry h
 obtain ⟨k, i, rfl, rfl, q⟩ := h
 cases rx
 obtain ⟨t, rfl⟩ := ry
 exact IntBool.sub_bool_int ⟨.int (b2i k - i), H, I.tok _, ⟨_, rfl⟩, q⟩
theorem LK : OpR X (binaryOp .Sub) (fun x y H Q => ∃ i k, x = .int i ∧ y = .bl k ∧ Q (.int (i - b2i k)) H) := by
 intro pins s σ H x y v u Q I rx ry h
 obtain ⟨i, k, rfl, rfl, q⟩ := h
 obtain ⟨t, rfl⟩ := rx
 cases ry
 exact IntBool.sub_int_bool ⟨.int (i - b2i k), H, I.tok _, ⟨_, rfl⟩, q⟩
theorem DY : CallR X (.type "str") (fun xs H Q => ∃ b, xs = [.bl b] ∧ Q (.str (if b then "True" else "False")) H) := by
 intro pins s σ H xs us Q I r h
 obtain ⟨b, rfl, q⟩ := h
 obtain ⟨u, rfl, rx⟩ := vals1 r
 cases rx
 exact PySem.P.str_of_bool ⟨.str _, H, I.tok _, ⟨_, rfl⟩, q⟩
end
end L2
namespace Pc
open PySem PySem.Spec PyProof.Rows L2
def nU (x y : D) (w : W) : Res D := match x, y with
 | .bl k, .int i => .ok (.int (b2i k + i)) w
 | x, y => cB x y w
def subB (x y : D) (w : W) : Res D := match x, y with
 | .bl k, .int i => .ok (.int (b2i k - i)) w
 | .int i, .bl k => .ok (.int (i - b2i k)) w
 | x, y => kP x y w
theorem gI {S : aQ} : O2 S (binaryOp .Add) nU := fun X E c xo pins s σ H x y v u Q J rx ry ⟨I, F, G, d, e, w, rel, rd, re, p⟩ => by
 unfold nU at p
 split at p
 ·simp only [aG] at rd re
  exact K4 pins s σ H x y v u Q J rx ry ⟨_, _, rd, re, p.nO rel (by simp [aG])⟩
 ·exact b6 X E c xo pins s σ H x y v u Q J rx ry ⟨I, F, G, _, _, w, rel, rd, re, p⟩
theorem r7 {S : aQ} : O2 S (binaryOp .Sub) subB := fun X E c xo pins s σ H x y v u Q J rx ry ⟨I, F, G, d, e, w, rel, rd, re, p⟩ => by
 unfold subB at p
 split at p
 ·simp only [aG] at rd re
  exact LM pins s σ H x y v u Q J rx ry ⟨_, _, rd, re, p.nO rel (by simp [aG])⟩
 ·simp only [aG] at rd re
  exact LK pins s σ H x y v u Q J rx ry ⟨_, _, rd, re, p.nO rel (by simp [aG])⟩
 ·exact PR X E c xo pins s σ H x y v u Q J rx ry ⟨I, F, G, _, _, w, rel, rd, re, p⟩
def ES : MF := fun ds w => match ds with
 | [.bl b] => .ok (.str (if b then "True" else "False")) w
 | ds => K9 ds w
theorem RS {S : aQ} : CB S (.type "str") ES := fun X E cx xo pins s σ H vs us Q J r ⟨I, F, G, ds, w, rel, rl, p⟩ => by
 unfold ES at p
 split at p
 ·obtain ⟨v, rfl, rv⟩ := rl.one
  simp only [aG] at rv
  exact DY pins s σ H _ us Q J r ⟨_, by rw [rv], p.nO rel (by simp [aG])⟩
 ·exact VG X E cx xo pins s σ H vs us Q J r ⟨I, F, G, _, w, rel, rl, p⟩
theorem NW {P : Program} {w : World} {K : PySem.W.Frag} {mg mb : Str → Option Value} {k : Nat} {fa a : Addr} {fd : FuncData} {x : Str} {m : MF} {s : Shared} {ns : List Int} (H : Hp)
  (kin : K.In s.heap) (glo : s.heap.Ns mainGlobals mg) (blt : s.heap.Ns builtinsNs mb) (boot : ∀ y : Str, y ≠ "__name__" → mb y = bootBuiltins y) (free : s.heap.NoLimit) (gens : s.gens = #[]) (room : Room k callerA)
  (prom : ∀ base : Heap, K.In base → base.Ns mainGlobals mg → eL P w K mg base k fa fd [x] m) (bind : ∀ (t : Shared) (u : Value), BindsTo t fd ⟨[u], []⟩ [(x, u)]) (w' : W) (good : m [.jR (ns.map D.int)] [] = .ok (.bl true) w')
  (only : Only H) (held : SqL K H a (ns.map V.int)) (ok : HOk P w H s.heap) (nod : ∀ b o, s.heap.get? b = some o → H b ≠ none → ∀ es ep, o.data ≠ .dict es ep) (nok : ∀ b, H b ≠ none → K.lookup b = none) :
  codeAny (model P w) callerA (.call (.ref fa) ⟨[.ref a], []⟩) (fun r t => r = .ok (.ret (.bool true)) ∧ OldK s.heap t.heap ∧ t.os = s.os ∧ AllBare t.gens) s := by
 have low : ∀ {b : Addr} {o : Obj}, s.heap.get? b = some o → H b = none → (hidT s.heap H).get? b = some o := hidT_get
 have dicts : ∀ {b : Addr} {f : Str → Option Value}, s.heap.Ns b f → (hidT s.heap H).Ns b f := by
  rintro b f ⟨o, es, ep, h1, h2, h3⟩
  refine ⟨o, es, ep, low h1 ?_, h2, h3⟩
  by_cases q : H b = none
  ·exact q
  ·exact absurd h2 (nod b o h1 q es ep)
 have kb : K.In (hidT s.heap H) := fun b o h => low (kin b o h) (by
  by_cases q : H b = none
  ·exact q
  ·rw [nok b q] at h; cases h)
 obtain ⟨mc, c1, c2⟩ := free
 have e0 : Env0 P w K mg (hidT s.heap H) callerA [] s H := {
  frames := rfl
  mod := ⟨kb, dicts glo, ⟨mb, dicts blt, boot⟩, ⟨mc, dicts c1, c2⟩⟩
  bs := fun b o h => of_hidT h
  bsz := Nat.le_of_eq (hidT_size _ _)
  funs := trivial
  frf := fun b hb => by simp [frs] at hb
  hok := ok
  bare := .of_eq gens }
 have rel : Rel K [] H (fun _ => none) [] H := ⟨rfl, List.nodup_nil, fun i b o h => by simp at h, fun _ _ h => h, fun i b o h => by simp at h, fun _ _ h => (by cases h), fun _ _ h => (by cases h), fun _ _ h => (by cases h)⟩
 have sp : spM K m [V.ref a] H (fun v _ => v = .bl true) fun _ _ _ => False := by
  refine ⟨[], H, fun _ => none, [.jR (ns.map D.int)], [], rel, RepL.cons ?_ (by simp [RepL]), ?_⟩
  ·simp only [aG]; exact ⟨a, _, rfl, held, RepL.ints ns⟩
  ·rw [good]
   intro I' F' H' _ _ v rv
   simpa only [aG] using rv
 refine codeAny_mono ((prom _ kb (dicts glo)).run callerA [] s H ⟨[.ref a], []⟩ [.ref a] [.ref a] _ _ room rfl e0 (bind s (.ref a)) (.cons rfl .nil) rfl sp) fun r t h => ?_
 match r, h with
 | .error e, h =>
  obtain ⟨_, _, _, _, _, h⟩ := h
  simp at h
 | .ok (.ret u), h =>
  obtain ⟨v, H2, h1, h2, h3, h4, h5, h6⟩ := h
  subst h6
  obtain rfl : u = Value.bool true := h5
  refine ⟨rfl, OldK.of_keep fun b o hb => ?_, h1, h2⟩
  rcases only b with q | ⟨ob, xs, q⟩
  ·exact h3.keep b o hb q (by intro z; simp [frs] at z) (by simp)
  ·obtain ⟨g1, _⟩ := ok b _ q
   obtain ⟨g2, _⟩ := h4 b _ (h3.frzs b ob _ q)
   rw [hb] at g1; cases g1
   exact g2
 | .ok .next, h => exact h.elim
 | .ok .brk, h => exact h.elim
 | .ok .cont, h => exact h.elim
theorem L0 {P : Program} {w : World} {K : PySem.W.Frag} {mg mb : Str → Option Value} {k : Nat} {fa a : Addr} {fd : FuncData} {x : Str} {m : MF} {s : Shared} {us : List Value} {ns : List Int}
  (kin : K.In s.heap) (glo : s.heap.Ns mainGlobals mg) (blt : s.heap.Ns builtinsNs mb) (boot : ∀ y : Str, y ≠ "__name__" → mb y = bootBuiltins y) (free : s.heap.NoLimit) (gens : s.gens = #[]) (room : Room k callerA)
  (laid : s.heap.get? a = some { cls := .type "list", data := .seq us.toArray }) (nums : IntsAre us ns) (few : ns.length ≤ sizeLine)
  (prom : ∀ base : Heap, K.In base → base.Ns mainGlobals mg → eL P w K mg base k fa fd [x] m) (bind : ∀ (t : Shared) (u : Value), BindsTo t fd ⟨[u], []⟩ [(x, u)]) (w' : W) (good : m [.jR (ns.map D.int)] [] = .ok (.bl true) w') :
  codeAny (model P w) callerA (.call (.ref fa) ⟨[.ref a], []⟩) (fun r t => r = .ok (.ret (.bool true)) ∧ OldK s.heap t.heap ∧ t.os = s.os ∧ AllBare t.gens) s := by
 have vals := vals_ints nums
 cases hk : K.lookup a with
 | some o =>
  have h := kin a o hk
  rw [laid] at h
  cases h
  refine NW (fun _ => none) kin glo blt boot free gens room prom bind w' good (fun _ => .inl rfl) (.inr ⟨_, us.toArray, _, hk, rfl, rfl, rfl, ?_, by simpa using vals⟩) (fun _ _ h => by cases h) (fun _ _ _ h => absurd rfl h) fun _ h => absurd rfl h
  rw [List.size_toArray]; have := nums.length; omega
 | none =>
  let ob : Obj := { cls := .type "list", data := .seq us.toArray }
  let H : Hp := fun b => if b = a then some (.frz ob (.lst (ns.map V.int))) else none
  have at1 : H a = some (.frz ob (.lst (ns.map V.int))) := if_pos rfl
  have at2 : ∀ {b : Addr}, H b ≠ none → b = a := fun {b} h => by
   by_cases e : b = a
   ·exact e
   ·exact absurd (if_neg e) h
  refine NW H kin glo blt boot free gens room prom bind w' good (fun b => ?_) (.inl (.inr ⟨ob, at1⟩)) (fun b u h => ?_) (fun b o h hb es ep hd => ?_) fun b hb => by rw [at2 hb]; exact hk
  ·by_cases e : b = a
   ·exact .inr ⟨ob, _, if_pos e⟩
   ·exact .inl (if_neg e)
  ·obtain rfl := at2 (b := b) (by rw [h]; simp)
   rw [at1] at h
   cases h
   exact ⟨laid, by rw [bu]; exact few, us, _, vals, laid⟩
  ·obtain rfl := at2 hb
   rw [laid] at h
   cases h
   cases hd
theorem LR {l : PySem.W.OpenLaw} {n k : Nat} {q : Program} {loose : List Str} {XP : (Str → Option Value) → Heap → Prop} {YP : World → Heap → Prop} {d : DefRec} {x : Str}
  (hn : l.most = some n) (hn2 : n ≤ sizeLine) (hdf : d.params.defaults = []) (hr : Room k callerA)
  (F : ∀ (w : World) (mg : Str → Option Value) (fa : Addr) (h : Heap), YP w h → h.Ns mainGlobals mg → mg d.name = some (.ref fa) →
   ∃ (K : PySem.W.Frag) (fd : FuncData) (m : MF), K.In h ∧ (∀ (s : Shared) (u : Value), BindsTo s fd ⟨[u], []⟩ [(x, u)]) ∧ (∀ ns : List Int, ns.length ≤ n → ∃ w', m [.jR (ns.map D.int)] [] = .ok (.bl true) w') ∧
    ∀ base : Heap, K.In base → base.Ns mainGlobals mg → eL l.prog w K mg base k fa fd [x] m) :
  PySem.W.WalkO q loose XP YP l.row.toRowW d [] (fun f vs => PySem.call f vs) :=
 Att.attach_call hn hdf fun w _ s mg _ fa _ _ _ _ _ us ns G Y _ _ _ hmg laid nums few gens => by
  obtain ⟨K, fd, m, kin, bind, good, prom⟩ := F w mg fa _ Y G.T.g hmg
  obtain ⟨w', hw⟩ := good ns few
  exact L0 kin G.T.g G.T.b G.T.builtins G.T.nolimit gens hr laid nums (bw few hn2) prom bind w' hw
end Pc
namespace K63
open PySem PySem.Spec PyProof.Rows L2 Pc
def top (i : Nat) : Stmt := PySem.Challenge.pw_onemaster_k63_what_is_a_story.main.body.getD i (.Pass ⟨0, 0, 0, 0⟩)
structure bM where
 gJ : Addr
 zz : Unit := ()
def bO : List (Str × Option D) := [(("fall" : Str), some (.int 1)), (("stop" : Str), some (.int 1)), (("rise" : Str), some (.int 1)), (("down" : Str), some (.int 1)), (("up" : Str), some (.int 1)), (("rank" : Str), some (.int 3)), (("heal" : Str), some (.int 0)), (("ask" : Str), some (.int 2))]
end K63
set_option maxHeartbeats 0
namespace K63H
open PySem PySem.Spec PyProof.Rows L2 Pc K63
def nZ : He.DefD := ⟨("_law_deck", none), "_law_deck", "_law_deck", defArgs (top 15), defBody (top 15), defScope (top 15), [], []⟩
def o6 : He.DefD := ⟨("_law_draw", none), "_law_draw", "_law_draw", defArgs (top 16), defBody (top 16), defScope (top 16), [], []⟩
def hX : He.DefD := ⟨("_law_is_number", none), "_law_is_number", "_law_is_number", defArgs (top 23), defBody (top 23), defScope (top 23), [], []⟩
def lN : He.DefD := ⟨("_law_is_lot", none), "_law_is_lot", "_law_is_lot", defArgs (top 24), defBody (top 24), defScope (top 24), [], []⟩
def lK : He.DefD := ⟨("_law_is_act", none), "_law_is_act", "_law_is_act", defArgs (top 25), defBody (top 25), defScope (top 25), [], []⟩
def i9 : He.DefD := ⟨("_law_is_story", none), "_law_is_story", "_law_is_story", defArgs (top 26), defBody (top 26), defScope (top 26), [], []⟩
def qQ : He.DefD := ⟨("is_whole", none), "is_whole", "is_whole", defArgs (top 1), defBody (top 1), defScope (top 1), [], []⟩
def oN : He.DefD := ⟨("is_within", none), "is_within", "is_within", defArgs (top 2), defBody (top 2), defScope (top 2), [], []⟩
def lU : He.DefD := ⟨("are_numbers", none), "are_numbers", "are_numbers", defArgs (top 8), defBody (top 8), defScope (top 8), [], []⟩
def tJ : He.DefD := ⟨("is_fate", none), "is_fate", "is_fate", defArgs (top 11), defBody (top 11), defScope (top 11), [], []⟩
def oT : He.DefD := ⟨("is_rising", none), "is_rising", "is_rising", defArgs (top 9), defBody (top 9), defScope (top 9), [], []⟩
def uQ : He.DefD := ⟨("is_form", none), "is_form", "is_form", defArgs (top 10), defBody (top 10), defScope (top 10), [], []⟩
def tV : He.DefD := ⟨("is_turn", none), "is_turn", "is_turn", defArgs (top 12), defBody (top 12), defScope (top 12), [], []⟩
def rC : He.DefD := ⟨("is_story", none), "is_story", "is_story", defArgs (top 13), defBody (top 13), defScope (top 13), [], []⟩
def m8 : He.DefD := ⟨("_law_right", none), "_law_right", "_law_right", defArgs (top 29), defBody (top 29), defScope (top 29), [], []⟩
def qP : He.DefD := ⟨("_law_odd", none), "_law_odd", "_law_odd", defArgs (top 27), defBody (top 27), defScope (top 27), [], []⟩
def mB : He.DefD := ⟨("_law_spoilt", none), "_law_spoilt", "_law_spoilt", defArgs (top 28), defBody (top 28), defScope (top 28), [], []⟩
def mC : He.DefD := ⟨("_law_number", none), "_law_number", "_law_number", defArgs (top 18), defBody (top 18), defScope (top 18), [], []⟩
def qL : He.DefD := ⟨("_law_lot", none), "_law_lot", "_law_lot", defArgs (top 19), defBody (top 19), defScope (top 19), [], []⟩
def oH : He.DefD := ⟨("_law_pick", none), "_law_pick", "_law_pick", defArgs (top 17), defBody (top 17), defScope (top 17), [], []⟩
def q0 : He.DefD := ⟨("_law_act", none), "_law_act", "_law_act", defArgs (top 20), defBody (top 20), defScope (top 20), [], []⟩
def pB : He.DefD := ⟨("_law_turn", none), "_law_turn", "_law_turn", defArgs (top 21), defBody (top 21), defScope (top 21), [], []⟩
def m7 : He.DefD := ⟨("_law_story", none), "_law_story", "_law_story", defArgs (top 22), defBody (top 22), defScope (top 22), [], []⟩
def N6 : He.DefD := ⟨("law", none), "law", "law", defArgs (top 30), defBody (top 30), defScope (top 30), [], []⟩
def fn : List He.DefD := [nZ, o6, hX, lN, lK, i9, qQ, oN, lU, tJ, oT, uQ, tV, rC, m8, qP, mB, mC, qL, oH, q0, pB, m7, N6]
def fa : List He.Fa := [.free "all", .free "bool", .free "int", .free "isinstance", .free "len", .free "list", .free "range", .free "repr", .free "set", .free "sorted", .free "str", .free "sum", .free "tuple", .free "zip", .glo "_law_deck", .glo "_law_draw", .glo "_law_is_number", .glo "_law_is_lot", .glo "_law_is_act", .glo "_law_is_story", .glo "is_whole", .glo "is_within", .glo "are_numbers", .glo "is_fate", .glo "is_rising", .glo "is_form", .glo "is_turn", .glo "is_story", .glo "_law_right", .glo "_law_odd", .glo "_law_spoilt", .glo "_law_number", .glo "_law_lot", .glo "_law_pick", .glo "_law_act", .glo "_law_turn", .glo "_law_story", .glo "law", .glo "FORMS"]
def ts : List He.Tab := [((fun K => He.ga K "FORMS"), [("fall" : Str), ("stop" : Str), ("rise" : Str), ("down" : Str), ("up" : Str), ("rank" : Str), ("heal" : Str), ("ask" : Str)])]
def exl (K : PySem.W.Frag) : List Bool := [NK K "MOST_NUMBER" (.int 999), NK K "OF_A_FATE" (.int 4), NK K "TEAR" (.str ("tear" : Str)), NL K (He.ga K "FORMS") bO, UQ K]
def ex (K : PySem.W.Frag) : Bool := (exl K).all id
theorem CZ {K : PySem.W.Frag} (h : ex K = true) (i : Nat) {b : Bool} (hi : (exl K)[i]? = some b) : b = true := by
 unfold ex at h
 rw [ak] at h
 exact h b (bo hi)
def loose : List PySem.Str := (["is_whole", "is_within", "MOST_NUMBER", "TEAR", "OF_A_FATE", "FORMS", "are_numbers", "is_rising", "is_form", "is_fate", "is_turn", "is_story", "_law_deck", "_law_draw", "_law_pick", "_law_number", "_law_lot", "_law_act", "_law_turn", "_law_story", "_law_is_number", "_law_is_lot", "_law_is_act", "_law_is_story", "_law_odd", "_law_spoilt", "_law_right"] : List PySem.Str)
abbrev R : PySem.W.OpenRow := PySem.W.OpenLaw.row PySem.Challenge.rw_onemaster_k63_what_is_a_story
def as : List Nat := ([3, 6, 4, 21, 28, 29, 34, 39, 46, 53, 58, 63, 70, 77, 84, 91, 96, 101, 106, 111, 118, 123, 128, 133, 140, 147, 154, 159, 0, 20, 27, 33, 38, 45, 52, 57, 62, 69, 76, 83, 90, 95, 100, 105, 110, 117, 122, 127, 132, 139, 146, 153, 158, 15, 17, 18, 19, 22, 24, 25] : List Nat) ++ ([26, 30, 32, 35, 37, 40, 42, 43, 44, 47, 49, 50, 51, 54, 56, 59, 61, 64, 66, 67, 68, 71, 73, 74, 75, 78, 80, 81, 82, 85, 87, 88, 89, 92, 94, 97, 99, 102, 104, 107, 109, 112, 114, 115, 116, 119, 121, 124, 126, 129, 131, 134, 136, 137, 138, 141, 143, 144, 145, 148] : List Nat) ++ ([150, 151, 152, 155, 157, 2, 1] : List Nat)
abbrev hk : PySem.W.Hook := He.SQ as fa fn ts ex
def ob (s : PySem.W.SharedT) : He.WB := He.QD as fa fn ts ex (HandSHeadRun.getT s)
theorem XT (s : PySem.W.SharedT) : ob s = hk.obs s.abs := He.R4 (HandSHeadRun.getT_eq s)
open PySem PySem.W PySem.Calls PyProof.Rows HandSHeadRun in
abbrev eF (w : World) (os : OsState) : Option SharedT := endF (stepQ (denQ tabQ) R.prog w) 8000 R.prog w os
open PySem PySem.W PySem.Calls PyProof.Rows in
theorem D1 (w : World) (os : OsState) : (eF (w.withFollow "special-get-raises" false) os).map (fun s => (HandSHeadRun.looksF R.prog (boot_heap (w.withFollow "special-get-raises" false).params) s.abs, HandSHeadRun.seenQ (PySem.W.view R.prog [30]) loose (importedModules R.prog.main.body) (fun s => xlAt (PySem.W.view R.prog [30]) [] s && recOk R.toRowW.records s) s.abs)) = some (true, openGood (PySem.W.view R.prog [30]) loose) := by
 kernel_rfl
open PySem PySem.W PySem.Calls PyProof.Rows in
theorem GB (w : World) (os : OsState) : (eF (w.withFollow "special-get-raises" false) os).map (ob) = some (hk.val (w.withFollow "special-get-raises" false)) := by
 kernel_rfl
theorem K1 (w : World) : HandSHeadRun.RunEq R (PySem.W.view R.prog [30]) hk ob 8000 loose (w.withFollow "special-get-raises" false) := fun os => He.S6 (D1 w os) (GB w os)
open PySem PySem.W PySem.Calls PyProof.Rows in
theorem HS (w : World) (os : OsState) : (eF (w.withFollow "special-get-raises" true) os).map (fun s => (HandSHeadRun.looksF R.prog (boot_heap (w.withFollow "special-get-raises" true).params) s.abs, HandSHeadRun.seenQ (PySem.W.view R.prog [30]) loose (importedModules R.prog.main.body) (fun s => xlAt (PySem.W.view R.prog [30]) [] s && recOk R.toRowW.records s) s.abs)) = some (true, openGood (PySem.W.view R.prog [30]) loose) := by
 kernel_rfl
open PySem PySem.W PySem.Calls PyProof.Rows in
theorem KI (w : World) (os : OsState) : (eF (w.withFollow "special-get-raises" true) os).map (ob) = some (hk.val (w.withFollow "special-get-raises" true)) := by
 kernel_rfl
theorem MK (w : World) : HandSHeadRun.RunEq R (PySem.W.view R.prog [30]) hk ob 8000 loose (w.withFollow "special-get-raises" true) := fun os => He.S6 (HS w os) (KI w os)
theorem run (w : World) : HandSHeadRun.RunEq R (PySem.W.view R.prog [30]) hk ob 8000 loose w := PySem.W.byRow2 "special-get-raises" (P := fun w => HandSHeadRun.RunEq R (PySem.W.view R.prog [30]) hk ob 8000 loose w) K1 MK w
section
 open PySem PySem.W PySem.Calls PyProof.Rows
def early : { E : Prop // E → PySem.Challenge.rw_onemaster_k63_what_is_a_story.Holds } := ⟨_, fun hc => by
 w_on; o_law
 refine HandSHeadRun.head_any (r := OpenLaw.row PySem.Challenge.rw_onemaster_k63_what_is_a_story) (q := view (OpenLaw.row PySem.Challenge.rw_onemaster_k63_what_is_a_story).prog [30]) (H := hk) (ob := ob) (M := 8000) (loose := loose) (d := HandSHeadRun.topDef (OpenLaw.row PySem.Challenge.rw_onemaster_k63_what_is_a_story).prog 30) (kwd := []) XT
  (by kernel_rfl) (fun s => by kernel_rfl) run (by kernel_rfl) (by kernel_rfl) (by kernel_rfl) (by rfl) (by first | assumption | decide +kernel) (by decide +kernel) ⟨rfl, rfl, rfl, rfl, rfl, by decide +kernel⟩ ?hw ?hc
 case hw => w_witness2
 case hc => exact hc⟩
end
end K63H
set_option maxHeartbeats 4000000
namespace Pc
open PySem PySem.Spec PyProof.Rows L2
def tG (w : W) (d c : Nat) : Prop := d ≠ c ∧ ∃ (cells : List Int) (sm n : Int), w[d]? = some (.lst [.ref c, .int sm, .int n]) ∧ w[c]? = some (.lst (cells.map .int)) ∧ cells.length ≤ 63
def Kept (w w' : W) (d c : Nat) : Prop := w'.length = w.length ∧ ∀ i, i ≠ d → i ≠ c → w'[i]? = w[i]?
theorem CY : ∀ cells : List Int, PyData.canLayAll0 (cells.map PyData.int) = true
 | [] => rfl
 | x :: xs => by simp [PyData.canLayAll0, PyData.canLay0, CY xs]
theorem EB : ∀ cells : List Int, PyData.depthAll (cells.map PyData.int) ≤ 1
 | [] => by simp [PyData.depthAll]
 | x :: xs => by
  have := EB xs
  simp only [List.map_cons, PyData.depthAll, PyData.depth]
  omega
theorem lay_ints (cells : List Int) : SeqAt.shaped (.list (cells.map PyData.int)) = true := by
 have h1 := CY cells
 have h2 := EB cells
 unfold SeqAt.shaped
 simp [PyData.canLay0, PyData.depth, h1]
 omega
theorem N5 (f : Nat → Option PyData) (cells : List Int) : D.pysR f (cells.map D.int) = some (cells.map PyData.int) := by
 induction cells with
 | nil => rfl
 | cons x xs ih => simp [D.pysR, D.e7, ih]
theorem UU {w : W} {c : Nat} {cells : List Int} (h : w[c]? = some (.lst (cells.map D.int))) : D.py w (.ref c) = some (.list (cells.map PyData.int)) := by
 show DI 8 w c = _
 simp [DI, h, N5]
theorem ne_nil {w : W} {c : Nat} {cells : List Int} (h : w[c]? = some (.lst (cells.map D.int))) : p7 (.ref c) (.lst []) w = .ok (.bl (!cells.isEmpty)) w := by
 unfold p7 yU qS
 rw [UU h]
 have e : D.py w (.lst []) = some (.list []) := rfl
 rw [e]
 have l2 : SeqAt.shaped (.list []) = true := lay_ints []
 simp only [lay_ints, l2, and_self, ae]
 cases cells <;> simp [PyData.eqv, PyData.eqvAll]
@[irreducible] def T {α : Type} (r : Res α) (P : α → W → Prop) : Prop := match r with
 | .ok a w => P a w
 | _ => False
section
variable {α β : Type} {P Q : α → W → Prop} {r : Res α}
theorem T.ex (h : T r P) : ∃ a w, r = .ok a w ∧ P a w := by
 unfold T at h
 cases r with
 | ok a w => exact ⟨a, w, rfl, h⟩
 | AG x w => exact h.elim
 | bad => exact h.elim
theorem T.of {a : α} {w : W} (h : r = .ok a w) (p : P a w) : T r P := by unfold T; rw [h]; exact p
theorem T.mono (h : T r P) (k : ∀ a w, r = .ok a w → P a w → Q a w) : T r Q := by
 obtain ⟨a, w, e, p⟩ := h.ex
 exact T.of e (k a w e p)
theorem cR {a : α} {w : W} : T (.ok a w) P = P a w := by unfold T; rfl
theorem WS : T .bad P = False := by unfold T; rfl
theorem bJ {r : Res α} {f : α → W → Res β} {P : β → W → Prop} : T (r.bind f) P = T r fun a w => T (f a w) P := by cases r <;> (first | rfl | (unfold T; rfl) | (unfold Then; rfl))
theorem NA : T r.LP P = T r P := by cases r <;> (first | rfl | (unfold T; rfl) | (unfold Then; rfl))
theorem AA {c : Prop} [Decidable c] {a b : Res α} : T (if c then a else b) P = (if c then T a P else T b P) := by split <;> (first | rfl | (unfold T; rfl) | (unfold Then; rfl))
theorem cY {c : Prop} [Decidable c] {a : Res α} : T (if c then a else .bad) P = (c ∧ T a P) := by
 by_cases h : c
 ·rw [if_pos h]; exact propext ⟨fun z => ⟨h, z⟩, fun z => z.2⟩
 ·rw [if_neg h]; exact propext ⟨fun z => by unfold T at z; exact z.elim, fun z => absurd z.1 h⟩
end
section
variable {σ : Sg} {w : W} {P : D → W → Prop} {PA : List D → W → Prop} {PB : Bool → W → Prop} {PF : Fl → W → Prop} {a b c : ME} {ma mk : MA} {ta tb : MT} {sa sb : MS} {g : MG} {gs : HV} {f : D → D → W → Res D} {d x y : D}
theorem T_C : T (eC d σ w) P = P d w := by unfold T; rfl
theorem ZJ {i : Nat} : T (aB i σ w) P = (match σ[i]? with
 | some (some d) => P d w
 | _ => False) := by
 unfold aB
 cases h : σ[i]? with
 | none => unfold T; rfl
 | some o => cases o <;> (first | rfl | (unfold T; rfl) | (unfold Then; rfl))
theorem X3 : T (aE f a b σ w) P = T (a σ w) fun x w1 => T (b σ w1) fun y w2 => T (f x y w2) P := by unfold aE; simp only [bJ]
theorem ZF {f : D → W → Res D} : T (sT f a σ w) P = T (a σ w) fun x w1 => T (f x w1) P := by unfold sT; simp only [bJ]
theorem X9 : T (gP a b σ w) P = T (a σ w) fun x w1 => T (fH x w1) fun c _ => if c = true then T (b σ w1) P else P x w1 := by unfold gP; simp only [bJ, AA, cR]
theorem ZZ : T (Y2 a b σ w) P = T (a σ w) fun x w1 => T (fH x w1) fun c _ => if c = true then P x w1 else T (b σ w1) P := by unfold Y2; simp only [bJ, AA, cR]
theorem ZH : T (UC ta a b σ w) P = T (ta σ w) fun c w1 => if c = true then T (a σ w1) P else T (b σ w1) P := by unfold UC; simp only [bJ, AA]
theorem VS : T (aD σ w) PA = PA [] w := by unfold T; rfl
theorem RM : T (aA a ma σ w) PA = T (a σ w) fun x w1 => T (ma σ w1) fun xs w2 => PA (x :: xs) w2 := by unfold aA; simp only [bJ, cR]
theorem YC : T (bA ma σ w) P = T (ma σ w) fun xs w1 => xs.length ≤ sizeLine ∧ P (.tup xs) w1 := by unfold bA; simp only [bJ, cY, cR]
theorem XY : T (hY ma σ w) P = T (ma σ w) fun xs w1 => xs.length ≤ sizeLine ∧ P (.lst xs) w1 := by unfold hY; simp only [bJ, cY, cR]
theorem WT : T (eNew ma σ w) P = T (ma σ w) fun xs w1 => xs.length ≤ sizeLine ∧ P (.ref w1.length) (w1 ++ [.lst xs]) := by unfold eNew; simp only [bJ, cY, cR]
theorem XN {m : MF} : T (aS m ma σ w) P = T (ma σ w) fun xs w1 => T (m xs w1) P := by unfold aS; simp only [bJ]
theorem TU {t : String} {m : PY} : T (c5 t m a ma σ w) P = T (a σ w) fun d w1 => M7 d w1 = some t ∧ T (ma σ w1) fun xs w2 => T (m d xs w2) P := by unfold c5; simp only [bJ, cY]
theorem U5 {m : MF} {n : Nat} {gd : List D → List D → List D} : T (aJ m n gd ma σ w) P = T (ma σ w) fun xs w1 => xs.length = n ∧ T (m (gd xs []) w1) P := by unfold aJ; simp only [bJ, cY]
theorem QB {m : MF} {n j : Nat} {gd : List D → List D → List D} : T (sY m n j gd ma mk σ w) P = T (ma σ w) fun xs w1 => T (mk σ w1) fun zs w2 => (xs.length = n ∧ zs.length = j) ∧ T (m (gd xs zs) w2) P := by unfold sY; simp only [bJ, cY]
theorem VA {m : MF} {C : Addr} {n j : Nat} {gd : List D → List D → List D} : T (MC C m n j gd ma mk σ w) P = T (ma σ w) fun xs w1 => T (mk σ w1) fun zs w2 => (xs.length = n ∧ zs.length = j) ∧ T (OF m C (fun s => gd (s ++ xs) zs) w2) P := by unfold MC; simp only [bJ, cY]
theorem YQ {C : Addr} {z : Str} : T (c6 C z a σ w) P = T (a σ w) fun x w1 => T (WM C z x w1) P := by unfold c6 sT; simp only [bJ]
theorem aAe {g : D → D → W → Res D} : T (Q3 f g a b c σ w) P = T (a σ w) fun x w1 => T (b σ w1) fun y w2 => T (f x y w2) fun r w3 => match r with
 | .bl k => if k = true then T (c σ w3) fun z w4 => T (g y z w4) P else P (.bl false) w3
 | _ => False := by
 unfold Q3
 simp only [bJ]
 congr 1; funext x w1; congr 1; funext y w2; congr 1; funext r w3
 cases r <;> first | (unfold T; rfl) | skip
 rename_i k
 cases k
 ·unfold T; rfl
 ·exact bJ
theorem YX : T (bG a σ w) PB = T (a σ w) fun x w1 => match x with
 | .bl k => PB k w1
 | _ => False := by
 unfold bG
 simp only [bJ]
 congr 1; funext x w1
 cases x <;> (first | rfl | (unfold T; rfl) | (unfold Then; rfl))
theorem MX : T (cV a σ w) PB = T (a σ w) fun x w1 => T (fH x w1) PB := by unfold cV; simp only [bJ]
theorem UH : T (cH ta σ w) PB = T (ta σ w) fun k w1 => PB (!k) w1 := by unfold cH; simp only [bJ, cR]
theorem UP : T (gC ta tb σ w) PB = T (ta σ w) fun k w1 => if k = true then T (tb σ w1) PB else PB false w1 := by unfold gC; simp only [bJ, AA, cR]
theorem XQ : T (eQ ta tb σ w) PB = T (ta σ w) fun k w1 => if k = true then PB true w1 else T (tb σ w1) PB := by unfold eQ; simp only [bJ, AA, cR]
theorem QA : T (cF σ w) PB = PB true w := by unfold T; rfl
def Then (b : MS) (PF : Fl → W → Prop) : Fl → W → Prop := fun f w => match f with
 | .nx σ => T (b σ w) PF
 | f => PF f w
theorem bP : T (aK sa sb σ w) PF = T (sa σ w) (Then sb PF) := by
 unfold aK
 simp only [bJ]
 congr 1; funext f w1
 cases f <;> (first | rfl | (unfold T; rfl) | (unfold Then; rfl))
theorem IW {σ : Sg} : Then sb PF (.nx σ) w = T (sb σ w) PF := by first | rfl | (unfold Then; rfl)
theorem SE {d : D} : Then sb PF (.rt d) w = PF (.rt d) w := by first | rfl | (unfold Then; rfl)
theorem W7 : T (bB a σ w) PF = T (a σ w) fun d w1 => PF (.rt d) w1 := by unfold bB; simp only [bJ, cR]
theorem V0 : T (cX a σ w) PF = T (a σ w) fun _ w1 => PF (.nx σ) w1 := by unfold cX; simp only [bJ, cR]
theorem NS : T (dN ta sa sb σ w) PF = T (ta σ w) fun k w1 => if k = true then T (sa σ w1) PF else T (sb σ w1) PF := by unfold dN; simp only [bJ, AA]
theorem VR : T (a9 σ w) PF = PF (.nx σ) w := by unfold T; rfl
theorem X5 : T (aX a g σ w) PF = T (a σ w) fun d w1 => T (g d σ w1) fun s w2 => PF (.nx s) w2 := by unfold aX; simp only [bJ, cR]
theorem OR {i : Nat} {PS : Sg → W → Prop} : T (a7 i d σ w) PS = PS (σ.set i (some d)) w := by unfold T; rfl
theorem VH {PS : Sg → W → Prop} : T (dC a b d σ w) PS = T (a σ w) fun o w1 => T (b σ w1) fun i w2 => T (setM o i d w2) fun _ w3 => PS σ w3 := by unfold dC; simp only [bJ, cR]
theorem T5 {C : Addr} {z : Str} : T (rL C z a b σ w) PF = T (b σ w) fun x w1 => T (a σ w1) fun d w2 => T (J6 C z d x w2) fun _ w3 => PF (.nx σ) w3 := by unfold rL; simp only [bJ, cR]
theorem V7 {n : Nat} {xs : List D} {PS : Sg → W → Prop} : T (cC n gs (.tup xs) σ w) PS = (xs.length = n ∧ T (gs xs σ w) PS) := by simp only [cC, cY]
theorem RG {n : Nat} {xs : List D} {PS : Sg → W → Prop} : T (cC n gs (.nX xs) σ w) PS = (xs.length = n ∧ T (gs xs σ w) PS) := by simp only [cC, cY]
theorem VU {PS : Sg → W → Prop} : T (bZ [] σ w) PS = PS σ w := by unfold T; rfl
theorem QL {xs : List D} {PS : Sg → W → Prop} : T (aI g gs (d :: xs) σ w) PS = T (g d σ w) fun s w1 => T (gs xs s w1) PS := by simp only [aI, bJ]
theorem eY {mb : MS} {N : List Str} {ds : List D} : T (bI mb N ds w) P = T (mb (begin N ds) w) fun f w1 => match f with
 | .nx _ => P .non w1
 | .rt d => P d w1
 | _ => False := by
 unfold bI
 simp only [bJ]
 congr 1; funext f w1
 cases f <;> (first | rfl | (unfold T; rfl) | (unfold Then; rfl))
end
section
variable {w : W} {P : D → W → Prop} {a b : Int} {x y d : D}
theorem sI : T (cB (.int a) (.int b) w) P = P (.int (a + b)) w := by unfold T; rfl
theorem TQ : T (kP (.int a) (.int b) w) P = P (.int (a - b)) w := by unfold T; rfl
theorem C2 : T (mulM (.int a) (.int b) w) P = (wV a b = true ∧ P (.int (a * b)) w) := by unfold mulM; simp only [cY, cR]
theorem zS : T (hH (.int a) (.int b) w) P = (0 < b ∧ P (.int (a % b)) w) := by unfold hH; simp only [cY, cR]
theorem x6 : T (qF (.int a) (.int b) w) P = ((0 < b ∧ b < 1073741824) ∧ P (.int (a / b)) w) := by unfold qF; simp only [cY, cR]
theorem L5 : T (uO (.int a) w) P = P (.int (-a)) w := by unfold T; rfl
theorem Z1 : T (FR (.int a) (.int b) w) P = P (.bl (decide (a < b))) w := by unfold T; rfl
theorem Z3 : T (ON (.int a) (.int b) w) P = P (.bl (decide (a ≤ b))) w := by unfold T; rfl
theorem ZC : T (JM (.int a) (.int b) w) P = P (.bl (decide (b < a))) w := by unfold T; rfl
theorem WQ : T (QW (.int a) (.int b) w) P = P (.bl (decide (b ≤ a))) w := by unfold T; rfl
theorem OQ {xs ys : List D} : T (cB (.tup xs) (.tup ys) w) P = (xs.length + ys.length ≤ sizeLine ∧ P (.tup (xs ++ ys)) w) := by unfold cB; simp only [cY, cR]
theorem V6 {xs ys : List D} : T (cB (.lst xs) (.lst ys) w) P = (xs.length + ys.length ≤ sizeLine ∧ P (.lst (xs ++ ys)) w) := by unfold cB; simp only [cY, cR]
theorem WW : T (isM x .non w) P = P (.bl x.isNon) w := by cases x <;> (first | rfl | (unfold T; rfl))
theorem YY {p q : Bool} : T (isM (.bl p) (.bl q) w) P = P (.bl (decide (p = q))) w := by unfold T; rfl
theorem N3 : T (nK x .non w) P = P (.bl (!x.isNon)) w := by cases x <;> (first | rfl | (unfold T; rfl))
theorem OV {p q : Bool} : T (nK (.bl p) (.bl q) w) P = P (.bl (!decide (p = q))) w := by unfold T; rfl
theorem XR : T (notM x w) P = T (fH x w) fun c _ => P (.bl (!c)) w := by unfold notM; simp only [bJ, cR]
theorem V4 {p : Bool} {PB : Bool → W → Prop} : T (fH (.bl p) w) PB = PB p w := by unfold T; rfl
theorem T9 {PB : Bool → W → Prop} : T (fH (.int a) w) PB = PB (a != 0) w := by unfold T; rfl
theorem U3 {PB : Bool → W → Prop} : T (fH .non w) PB = PB false w := by unfold T; rfl
theorem L6 {xs : List D} : T (LO xs (.int a) w) P = ∃ d, atI xs a = some d ∧ P d w := by
 show T (match atI xs a with
  | some d => Res.ok d w
  | none => .bad) P = _
 cases atI xs a with
 | none => simp [T]
 | some d => simp [T]
theorem SX {xs : List D} : T (a8 (.tup xs) y w) P = T (LO xs y w) P := by unfold T; rfl
theorem XX {xs : List D} : T (a8 (.nX xs) y w) P = T (LO xs y w) P := by unfold T; rfl
theorem TF {xs : List D} : T (a8 (.lst xs) y w) P = T (LO xs y w) P := by unfold T; rfl
theorem W2 {i : Nat} {xs : List D} (h : w[i]? = some (.lst xs)) : T (a8 (.ref i) y w) P = T (LO xs y w) P := by simp only [a8, h]
theorem IX {i : Nat} {kvs : List (Key × D)} {z : Str} (h : w[i]? = some (.dK kvs)) : T (a8 (.ref i) (.str z) w) P = ∃ d, fM kvs (.inr z) = some d ∧ P d w := by
 simp only [a8, h, lH, keyD, Option.map_some]
 cases fM kvs (Sum.inr z) with
 | none => simp [T]
 | some d => simp [T]
theorem kN : T (eR x y w) P = ∃ r, yU x y w = some r ∧ P (.bl r) w := by
 unfold eR
 cases yU x y w with
 | none => simp [T]
 | some r => simp [T]
theorem KY : T (p7 x y w) P = ∃ r, yU x y w = some r ∧ P (.bl (!r)) w := by
 unfold p7
 cases yU x y w with
 | none => simp [T]
 | some r => simp [T]
theorem eV : yU (.int a) (.int b) w = some (a == b) := by simp [yU, qS, D.py, D.e7, SeqAt.shaped, PyData.canLay0, PyData.depth, PyData.eqv]
theorem NI : T (dI [d] w) P = ∃ n, BZ d w = some n ∧ P (.int n) w := by
 show T (match BZ d w with
  | some n => Res.ok (D.int n) w
  | none => .bad) P = _
 cases BZ d w with
 | none => simp [T]
 | some n => simp [T]
theorem FH {i : Nat} {xs : List D} (h : w[i]? = some (.lst xs)) : T (cU (.ref i) [d] w) P = (xs.length < sizeLine ∧ P .non (w.set i (.lst (xs ++ [d])))) := by
 simp only [cU, h, cY, cR]
theorem VJ {i : Nat} {kvs : List (Key × D)} {z : Str} {PU : Unit → W → Prop} (h : w[i]? = some (.dK kvs)) : T (setM (.ref i) (.str z) d w) PU = (kvs.length < sizeLine ∧ PU () (w.set i (.dK (putD kvs (.inr z) d)))) := by
 simp only [setM, h, keyD, cY, cR]
end
theorem V9 {it : lA} {g : MG} {body : MS} {P : Fl → W → Prop} (Inv : Nat → Sg → W → Prop) (ok : ∀ i σ w, Inv i σ w → it.ok w)
  (step : ∀ i x σ w, it.xs[i]? = some x → Inv i σ w → T (g x σ w) fun σ1 w1 => T (body σ1 w1) fun f w2 => match f with
   | .nx s => Inv (i + 1) s w2
   | .ct s => Inv (i + 1) s w2
   | .bk s => P (.nx s) w2
   | .rt d => P (.rt d) w2) (fin : ∀ σ w, Inv it.xs.length σ w → P (.nx σ) w) : ∀ {i : Nat} {σ : Sg} {w : W}, i ≤ it.xs.length → Inv i σ w → T (forL it g body (it.xs.drop i) σ w) P := by
 intro i
 generalize hn : it.xs.length - i = n
 induction n generalizing i with
 | zero =>
  intro σ w hi h
  have e : i = it.xs.length := by omega
  subst e
  rw [List.drop_length]
  unfold forL
  rw [if_pos (ok _ _ _ h)]
  rw [cR]; exact fin σ w h
 | succ n ih =>
  intro σ w hi h
  have hlt : i < it.xs.length := by omega
  rw [List.drop_eq_getElem_cons hlt]
  unfold forL
  rw [if_pos (ok _ _ _ h), bJ]
  refine (step i _ σ w (av hlt) h).mono fun s1 w1 _ q => ?_
  rw [bJ]
  refine T.mono q fun f w2 _ q2 => ?_
  cases f with
  | nx s => exact ih (by omega) (by omega) q2
  | ct s => exact ih (by omega) (by omega) q2
  | bk s => rw [cR]; exact q2
  | rt d => rw [cR]; exact q2
theorem XZ {m : MI} {g : MG} {body : MS} {σ : Sg} {w : W} {P : Fl → W → Prop} : T (fY m g body σ w) P = T (m σ w) fun it w1 => T (forL it g body it.xs σ w1) P := by unfold fY; simp only [bJ]
theorem A7 {it : lA} {vs : List Nat} {g : MG} {t : MT} {e : ME} {σ : Sg} {P : List D → W → Prop} (Inv : Nat → List D → W → Prop) (ok : ∀ i acc w, Inv i acc w → it.ok w)
  (step : ∀ i x acc w, it.xs[i]? = some x → Inv i acc w → T (g x (dO σ vs) w) fun σ1 w1 => T (t σ1 w1) fun b w2 => if b = true then T (e σ1 w2) fun y w3 => Inv (i + 1) (acc ++ [y]) w3 else Inv (i + 1) acc w2)
  (fin : ∀ acc w, Inv it.xs.length acc w → P acc w) : ∀ {i : Nat} {acc : List D} {w : W}, i ≤ it.xs.length → Inv i acc w → T (gU it vs g t e (it.xs.drop i) σ w) fun ys w1 => P (acc ++ ys) w1 := by
 intro i
 generalize hn : it.xs.length - i = n
 induction n generalizing i with
 | zero =>
  intro acc w hi h
  have e : i = it.xs.length := by omega
  subst e
  rw [List.drop_length]
  unfold gU
  rw [if_pos (ok _ _ _ h)]
  rw [cR, List.append_nil]
  exact fin acc w h
 | succ n ih =>
  intro acc w hi h
  have hlt : i < it.xs.length := by omega
  rw [List.drop_eq_getElem_cons hlt]
  unfold gU
  rw [if_pos (ok _ _ _ h), bJ, NA]
  refine (step i _ acc w (av hlt) h).mono fun s1 w1 _ q => ?_
  rw [bJ, NA]
  refine T.mono q fun b w2 _ q2 => ?_
  cases b with
  | true =>
   simp only [ae] at q2 ⊢
   rw [bJ, NA]
   refine T.mono q2 fun y w3 _ q3 => ?_
   rw [bJ]
   refine (ih (by omega) (by omega) q3).mono fun ys w4 _ q4 => ?_
   rw [cR]
   simpa using q4
  | false =>
   simp only [br, aa] at q2 ⊢
   exact ih (by omega) (by omega) q2
theorem UR {m : MI} {vs : List Nat} {g : MG} {t : MT} {e : ME} {σ : Sg} {w : W} {P : D → W → Prop} : T (bR m vs g t e σ w) P = T (m σ w) fun it w1 => it.xs.length ≤ sizeLine ∧ T (gU it vs g t e it.xs σ w1) fun ys w2 => P (.lst ys) w2 := by
 unfold bR IJ
 simp only [bJ, cY, cR]
section
variable {w w1 w2 : W} {d c i : Nat} {o : MO}
theorem Kept.refl : Kept w w d c := ⟨rfl, fun _ _ _ => rfl⟩
theorem Kept.trans (a : Kept w w1 d c) (b : Kept w1 w2 d c) : Kept w w2 d c := ⟨b.1.trans a.1, fun i h1 h2 => (b.2 i h1 h2).trans (a.2 i h1 h2)⟩
theorem Kept.obj (a : Kept w w1 d c) (h : w[i]? = some o) (h1 : i ≠ d) (h2 : i ≠ c) : w1[i]? = some o := by rw [a.2 i h1 h2]; exact h
theorem tG.lt (h : tG w d c) : d < w.length ∧ c < w.length := by
 obtain ⟨_, cells, sm, n, h1, h2, _⟩ := h
 exact ⟨(aj.mp h1).1, (aj.mp h2).1⟩
theorem tG.set (h : tG w d c) (h1 : i ≠ d) (h2 : i ≠ c) : tG (w.set i o) d c := by
 obtain ⟨hne, cells, sm, n, g1, g2, g3⟩ := h
 exact ⟨hne, cells, sm, n, by rw [au h1]; exact g1, by rw [au h2]; exact g2, g3⟩
end
theorem atI_nat {xs : List D} {r : Int} (h0 : 0 ≤ r) (h1 : r < xs.length) : ∃ (i : Nat) (x : D), xs[i]? = some x ∧ atI xs r = some x ∧ (i : Int) = r := by
 have l : r.toNat < xs.length := by omega
 refine ⟨r.toNat, xs[r.toNat], av l, ?_, by omega⟩
 unfold atI ixN
 rw [if_pos h0, if_pos h1]
 show xs[r.toNat]? = _
 exact av l
section
variable {σ : Sg} {w : W} {PI : lA → W → Prop} {P : D → W → Prop}
theorem TV {m : ME} : T (dP m σ w) PI = T (m σ w) fun d w1 => T (iterM d w1) PI := by unfold dP; simp only [bJ]
theorem U1 {f : List D → W → Res lA} {ma : MA} : T (dS f ma σ w) PI = T (ma σ w) fun xs w1 => T (f xs w1) PI := by unfold dS; simp only [bJ]
theorem Y1 {xs : List D} : T (iterM (.tup xs) w) PI = PI ⟨xs, always⟩ w := by unfold T; rfl
theorem WU {xs : List D} : T (iterM (.lst xs) w) PI = PI ⟨xs, always⟩ w := by unfold T; rfl
theorem n7 {n : Int} (h : 0 ≤ n) (h2 : n < 1073741824) : T (hE [.int n] w) PI = PI (fD 0 n.toNat) w := by
 simp only [hE]
 rw [if_pos (by constructor <;> omega)]
 unfold T; rfl
theorem QT {PO : Option Int → W → Prop} : T (c8 σ w) PO = PO none w := by unfold T; rfl
theorem QO {m : ME} {PO : Option Int → W → Prop} : T (cQ m σ w) PO = T (m σ w) fun d w1 => match d with
 | .int i => PO (some i) w1
 | _ => False := by
 unfold cQ
 simp only [bJ]
 congr 1; funext d w1
 cases d <;> (unfold T; rfl)
theorem ZR {f : D → Option Int → Option Int → W → Res D} {a : ME} {lo hi : UM} : T (nW f a lo hi σ w) P = T (a σ w) fun x w1 => T (lo σ w1) fun l w2 => T (hi σ w2) fun u w3 => T (f x l u w3) P := by unfold nW; simp only [bJ]
theorem jZ : ∀ ns : List Int, iT (ns.map D.int) = some ns
 | [] => rfl
 | n :: ns => by simp [iT, jZ ns]
theorem Q2 {ns : List Int} {lo hi : Option Int} : ∃ ms : List Int, cutD (ns.map D.int) lo hi = ms.map D.int ∧ ms.length ≤ ns.length := by
 unfold cutD
 rw [← List.map_drop, ← List.map_take]
 exact ⟨_, rfl, by simp; omega⟩
end
def CN (r : List Int) : D := .tup (r.map .int)
def aAd (t : Int × Int × Int) : D := .tup [.int t.1, .int t.2.1, .int t.2.2]
structure Mo where
 eN : List (List Int)
 vM : Int
 FP : Int
 CG : Int
 bears : D
 gap : Int
 hold : Int
 takes : Bool
 M8 : List (Int × Int × Int)
 nM : Int
def Mo.kvs (m : Mo) : List (Key × D) := [(.inr "ranks", .tup (m.eN.map CN)), (.inr "every", .int m.vM), (.inr "lost", .int m.FP), (.inr "slow", .int m.CG), (.inr "bears", m.bears), (.inr "gap", .int m.gap), (.inr "hold", .int m.hold),
 (.inr "takes", .bl m.takes), (.inr "ties", .tup (m.M8.map aAd)), (.inr "hosts", .int m.nM)]
structure QP (rs : List (List Int)) (h : Nat) : Prop where
 h1 : 1 ≤ h
 h6 : h ≤ 6
 row : ∀ r ∈ rs, r.length = h ∧ ∀ x ∈ r, 1 ≤ x ∧ x ≤ 12
structure VY (ts : List (Int × Int × Int)) (h : Nat) : Prop where
 few : ts.length ≤ 6
 each : ∀ t ∈ ts, (0 ≤ t.1 ∧ t.1 < h) ∧ (0 ≤ t.2.1 ∧ t.2.1 ≤ 9) ∧ (1 ≤ t.2.2 ∧ t.2.2 ≤ 11)
 up : ts.Pairwise fun a b => a.1 < b.1 ∨ (a.1 = b.1 ∧ a.2.1 < b.2.1)
theorem j2 {n : Nat} {lo : Int} : (fD lo n).xs.length = n := by simp [fD]
open PySem.W (dataLe)
def pairD (p : Int × Int) : D := .tup [.int p.1, .int p.2]
section
variable {σ : Sg} {w : W} {P : D → W → Prop} {PP : List (D × D) → W → Prop}
theorem HK : T (FI σ w) PP = PP [] w := by unfold T; rfl
theorem BU {a b : ME} {r : MP} : T (fU a b r σ w) PP = T (a σ w) fun k w1 => T (b σ w1) fun v w2 => T (r σ w2) fun ps w3 => PP ((k, v) :: ps) w3 := by unfold fU; simp only [bJ, cR]
theorem OD {m : MP} : T (G5 m σ w) P = T (m σ w) fun ps w1 => ∃ kvs, keyed ps = some kvs ∧ kvs.length ≤ 15 ∧ P (.ref w1.length) (w1 ++ [.dK (j5 [] kvs)]) := by
 unfold G5
 simp only [bJ]
 congr 1; funext ps w1
 cases keyed ps with
 | none => simp [T]
 | some kvs => simp [cY, cR]
end
section
variable {α β : Type} {it : lA} {vs : List Nat} {g : MG} {t : MT} {e : ME} {σ : Sg} {w : W} {P : List D → W → Prop}
theorem pX (ys : List α) (enc : α → D) (f : α → D) (hx : it.xs = ys.map enc) (hok : it.ok w)
  (h : ∀ y ∈ ys, T (g (enc y) (dO σ vs) w) fun σ1 w1 => T (t σ1 w1) fun b w2 => b = true ∧ T (e σ1 w2) fun z w3 => z = f y ∧ w3 = w) (k : P (ys.map f) w) :
  T (gU it vs g t e it.xs σ w) P := by
 have cl := A7 (it := it) (vs := vs) (g := g) (t := t) (e := e) (σ := σ) (P := P) (fun i acc w1 => w1 = w ∧ acc = (ys.take i).map f) (fun _ _ _ q => by rw [q.1]; exact hok)
  (fun i x acc w1 hi q => by
   obtain ⟨rfl, rfl⟩ := q
   rw [hx, bx] at hi
   cases hy : ys[i]? with
   | none => rw [hy] at hi; cases hi
   | some y =>
    rw [hy] at hi
    cases hi
    refine (h y (bo hy)).mono fun σ1 w2 _ q => q.mono fun b w3 _ q => ?_
    obtain ⟨rfl, q⟩ := q
    rw [if_pos rfl]
    refine q.mono fun z w4 _ q => ⟨q.2, ?_⟩
    rw [List.take_add_one, hy, q.1]
    simp)
  (fun acc w1 q => by
   obtain ⟨rfl, rfl⟩ := q
   rw [hx, bu, List.take_length]
   exact k) (i := 0) (acc := []) (w := w) (Nat.zero_le _) ⟨rfl, rfl⟩
 rw [List.drop_zero] at cl
 exact cl.mono fun _ _ _ q => by simpa using q
theorem QX (ys : List α) (enc : α → D) (f : α → D) (p : α → Bool) (hx : it.xs = ys.map enc) (hok : it.ok w)
  (h : ∀ y ∈ ys, T (g (enc y) (dO σ vs) w) fun σ1 w1 => T (t σ1 w1) fun b w2 => (w2 = w ∧ b = p y) ∧ (p y = true → T (e σ1 w2) fun z w3 => z = f y ∧ w3 = w)) (k : P ((ys.filter p).map f) w) :
  T (gU it vs g t e it.xs σ w) P := by
 have cl := A7 (it := it) (vs := vs) (g := g) (t := t) (e := e) (σ := σ) (P := P) (fun i acc w1 => w1 = w ∧ acc = ((ys.take i).filter p).map f) (fun _ _ _ q => by rw [q.1]; exact hok)
  (fun i x acc w1 hi q => by
   obtain ⟨rfl, rfl⟩ := q
   rw [hx, bx] at hi
   cases hy : ys[i]? with
   | none => rw [hy] at hi; cases hi
   | some y =>
    rw [hy] at hi
    cases hi
    refine (h y (bo hy)).mono fun σ1 w2 _ q => q.mono fun b w3 _ q => ?_
    obtain ⟨⟨rfl, rfl⟩, q⟩ := q
    rw [List.take_add_one, hy]
    by_cases hp : p y = true
    ·rw [if_pos hp]
     refine (q hp).mono fun z w4 _ q => ⟨q.2, ?_⟩
     rw [q.1]
     simp [List.filter_append, hp]
    ·rw [if_neg hp]
     refine ⟨rfl, ?_⟩
     simp [List.filter_append, hp])
  (fun acc w1 q => by
   obtain ⟨rfl, rfl⟩ := q
   rw [hx, bu, List.take_length]
   exact k) (i := 0) (acc := []) (w := w) (Nat.zero_le _) ⟨rfl, rfl⟩
 rw [List.drop_zero] at cl
 exact cl.mono fun _ _ _ q => by simpa using q
theorem FQ (ys : List α) (f : α → Bool) : n9 (ys.map fun y => D.bl (f y)) = some (ys.map f) := by
 induction ys with
 | nil => rfl
 | cons y ys ih => simp [n9, ih]
theorem uR {P : D → W → Prop} (ys : List α) (f : α → Bool) : T (allM [.lst (ys.map fun y => .bl (f y))] w) P = P (.bl (ys.all f)) w := by
 have e : allM [.lst (ys.map fun y => .bl (f y))] w = .ok (.bl (ys.all f)) w := by
  simp only [allM, r4, Option.bind_some, FQ]
  congr 2
  rw [List.all_map]
  rfl
 rw [e, cR]
end
end Pc
namespace Lb
open PySem PySem.Spec PyProof.Rows L2 Pc
structure bM where
 dA : Addr
 WD : Addr
def h8 : List Str := [("thing" : Str)]
def kG (k : bM) : MS :=
 (bB (gP (aS (fP fX) (aA (aB 0) (aA (eC (.ty "int")) aD))) (sT notM (aS (fP fX) (aA (aB 0) (aA (eC (.ty "bool")) aD))))))
def gL (k : bM) : MF := bI (kG k) h8
theorem DZ (x0 : D) : begin h8 [x0] = [some x0] := rfl
def gN : List Str := [("thing" : Str), ("least" : Str), ("most" : Str)]
def iQ (k : bM) : MS :=
 (bB (gP (aJ (gL k) 1 aN (aA (aB 0) aD)) (Q3 ON ON (aB 1) (aB 0) (aB 2))))
def cD (k : bM) : MF := bI (iQ k) gN
theorem B1 (x0 x1 x2 : D) : begin gN [x0, x1, x2] = [some x0, some x1, some x2] := rfl
def KU : List Str := [("plan" : Str), ("rank" : Str)]
def KH (k : bM) : MS :=
 (bB (aE cB (eC (.int 2)) (aE mulM (c6 k.dA ("gap" : Str) (aB 0)) (aE kP (eC (.int 12)) (aB 1)))))
def LH (k : bM) : MF := bI (KH k) KU
def yT : List Str := [("plan" : Str), ("lost" : Str)]
def wW (k : bM) : MS :=
 (bB (aE cB (aE mulM (aE cB (aB 1) (eC (.int 1))) (c6 k.dA ("every" : Str) (aB 0))) (c6 k.dA ("slow" : Str) (aB 0))))
def yH (k : bM) : MF := bI (wW k) yT
def KD : List Str := [("plan" : Str), ("rank" : Str)]
def KN (k : bM) : MS :=
 (bB (aE cB (aJ (yH k) 2 aN (aA (aB 0) (aA (c6 k.dA ("bears" : Str) (aB 0)) aD))) (aE mulM (c6 k.dA ("gap" : Str) (aB 0)) (aE kP (eC (.int 12)) (aB 1)))))
def zP (k : bM) : MF := bI (KN k) KD
def GL : List Str := [("self" : Str)]
def G2 (k : bM) : MS :=
 (bB (aS dI (aA (aE a8 (c6 k.dA ("ranks" : Str) (aB 0)) (eC (.int 0))) aD)))
def fN (k : bM) : MF := bI (G2 k) GL
section
variable {w : W} {P : D → W → Prop} (k : bM)
theorem sz (n : Nat) (h : n ≤ 1000) : n ≤ sizeLine := by rw [sizeLine_eq]; omega
theorem HA {a b : Int} : T (eR (.int a) (.int b) w) P = P (.bl (a == b)) w := by
 rw [kN, eV]
 simp
theorem BH {a b : Int} : T (p7 (.int a) (.int b) w) P = P (.bl (!(a == b))) w := by
 rw [KY, eV]
 simp
theorem yN {xs : List D} : T (dI [.tup xs] w) P = P (.int xs.length) w := by rw [NI]; simp [BZ, D.items]
theorem Q5 {xs : List D} : T (dI [.lst xs] w) P = P (.int xs.length) w := by rw [NI]; simp [BZ, D.items]
theorem aAg {xs : List D} : T (dI [.nX xs] w) P = P (.int xs.length) w := by rw [NI]; simp [BZ, D.items]
theorem Y7 {x : D} {xs : List D} : atI (x :: xs) 0 = some x := by
 unfold atI ixN
 rw [if_pos (by omega), if_pos (by simp)]
 rfl
end
section
variable {w : W} {P : D → W → Prop} (k : bM)
theorem ZU {xs ys : List D} {PI : lA → W → Prop} : T (VF [.tup xs, .tup ys] w) PI = (xs.length = ys.length ∧ PI ⟨(xs.zip ys).map fun p => .tup [p.1, p.2], always⟩ w) := by
 simp only [VF, qT, cY, cR]
theorem RP {xs : List D} : kX (.tup xs) none (some (-1)) w = .ok (.tup xs.dropLast) w := by
 simp only [kX, Pc.cutD, HT.sIx]
 congr 2
 rw [if_pos (by omega), List.drop_zero, List.dropLast_eq_take]
 congr 1
 omega
theorem J5 {xs : List D} : kX (.tup xs) (some 1) none w = .ok (.tup xs.tail) w := by
 simp only [kX, Pc.cutD, HT.sIx]
 congr 2
 rw [if_neg (by omega)]
 cases xs with
 | nil => simp
 | cons x xs => simp
theorem YW {a : Addr} {tab : List (Str × Option D)} {z : Str} {o : Option D} (h : tab.lookup z = some o) : T (FT a tab (.str z) (.con a) w) P = P (.bl o.isSome) w := by
 simp only [FT, ae, h, cR]
theorem YU {a : Addr} {tab : List (Str × Option D)} {z : Str} {d : D} (h : tab.lookup z = some (some d)) : T (KZ a tab (.con a) (.str z) w) P = P d w := by
 simp only [KZ, ae, h, cR]
theorem QH {a b : Str} (ha : PyData.strOk a = true) (hb : PyData.strOk b = true) : yU (.str a) (.str b) w = some (a == b) := by
 simp [yU, qS, D.py, D.e7, SeqAt.shaped, PyData.canLay0, PyData.depth, PyData.eqv, ha, hb]
end
section
variable {w : W} {P : D → W → Prop} {PF : Fl → W → Prop} {PI : lA → W → Prop} {σ : Sg}
theorem LW {m : ME} : T (JU m σ w) PI = T (m σ w) fun d w1 => T (OE d w1) PI := by unfold JU; simp only [bJ]
def Turn (next : Sg → W → Prop) (PF : Fl → W → Prop) : Fl → W → Prop := fun f w => match f with
 | .nx s => next s w
 | .ct s => next s w
 | .bk s => PF (.nx s) w
 | .rt d => PF (.rt d) w
open Classical in
open Classical in
structure MoB (m : Mo) (h : Nat) : Prop where
 eN : QP m.eN h
 n1 : 1 ≤ m.eN.length
 n4 : m.eN.length ≤ 4
 vM : 1 ≤ m.vM ∧ m.vM ≤ 5
 FP : 0 ≤ m.FP ∧ m.FP ≤ 3
 CG : 1 ≤ m.CG ∧ m.CG ≤ 4
 gap : 0 ≤ m.gap ∧ m.gap ≤ 3
 hold : 0 ≤ m.hold ∧ m.hold ≤ 20
 M8 : VY m.M8 h
 nM : 0 ≤ m.nM ∧ m.nM ≤ 4
variable (k : bM)
end
section
variable {w : W} {P : D → W → Prop} {PF : Fl → W → Prop} {PI : lA → W → Prop} {σ : Sg}
theorem sl0 : (0 ≤ sizeLine) = True := eq_true (sz _ (by omega))
theorem sl1 : (0 + 1 ≤ sizeLine) = True := eq_true (sz _ (by omega))
theorem sl2 : (0 + 1 + 1 ≤ sizeLine) = True := eq_true (sz _ (by omega))
theorem sl3 : (0 + 1 + 1 + 1 ≤ sizeLine) = True := eq_true (sz _ (by omega))
theorem sl4 : (0 + 1 + 1 + 1 + 1 ≤ sizeLine) = True := eq_true (sz _ (by omega))
theorem sl5 : (0 + 1 + 1 + 1 + 1 + 1 ≤ sizeLine) = True := eq_true (sz _ (by omega))
theorem sl6 : (0 + 1 + 1 + 1 + 1 + 1 + 1 ≤ sizeLine) = True := eq_true (sz _ (by omega))
theorem sl7 : (0 + 1 + 1 + 1 + 1 + 1 + 1 + 1 ≤ sizeLine) = True := eq_true (sz _ (by omega))
theorem sl8 : (0 + 1 + 1 + 1 + 1 + 1 + 1 + 1 + 1 ≤ sizeLine) = True := eq_true (sz _ (by omega))
theorem sl9 : (0 + 1 + 1 + 1 + 1 + 1 + 1 + 1 + 1 + 1 ≤ sizeLine) = True := eq_true (sz _ (by omega))
theorem ZY : (0 + 1 + 1 + 1 + 1 + 1 + 1 + 1 + 1 + 1 + 1 ≤ sizeLine) = True := eq_true (sz _ (by omega))
theorem ZK : (0 + 1 + 1 + 1 + 1 + 1 + 1 + 1 + 1 + 1 + 1 + 1 ≤ sizeLine) = True := eq_true (sz _ (by omega))
theorem ZA : (0 + 1 + 1 + 1 + 1 + 1 + 1 + 1 + 1 + 1 + 1 + 1 + 1 ≤ sizeLine) = True := eq_true (sz _ (by omega))
variable (k : bM)
variable {k} {p : Nat} {m : Mo} {b : Int}
def TC (m : Mo) (b r : Int) : Int := (b + 1) * m.vM + m.CG + m.gap * (12 - r)
variable (k)
end
theorem fI (a b : Str) : PyData.strOk (a ++ b) = (PyData.strOk a && PyData.strOk b) := by
 show Array.all (a.cps ++ b.cps) _ = _
 unfold PyData.strOk
 rw [Array.all_append]
theorem dX (s : String) : PyData.strOk (Str.ofString s) = true := by
 rw [Str.ofString_eq_toList]
 unfold PyData.strOk
 rw [Array.all_eq_true_iff_forall_mem]
 intro c hc
 simp only [List.mem_toArray, List.mem_map] at hc
 obtain ⟨ch, _, rfl⟩ := hc
 have := ch.valid
 simp only [ah]
 have h2 : ch.toNat < 0x110000 := by
  have h3 : ch.toNat = ch.val.toNat := rfl
  rcases this with h | ⟨_, h⟩
  ·rw [h3]; exact Nat.lt_trans h (by decide)
  ·rw [h3]; exact h
 exact h2
theorem k7 : ∀ (ts : List Str) (k : Nat) (acc : Str), PyData.strOk acc = true → (∀ t ∈ ts, PyData.strOk t = true) → PyData.strOk (textFrom k acc ts) = true
 | [], k, acc, h, _ => h
 | t :: ts, k, acc, h, ht => by
  unfold textFrom
  refine k7 ts (k + 1) _ ?_ fun x hx => ht x (aw _ hx)
  rw [fI, fI, h, ht t (aq ..), dX]
  rfl
theorem rQ (sep : Str) (hs : PyData.strOk sep = true) : ∀ ts : List Str, (∀ t ∈ ts, PyData.strOk t = true) → PyData.strOk (Str.join sep ts) = true
 | [], _ => by show PyData.strOk Str.empty = true; decide +kernel
 | [x], h => h x (aq ..)
 | x :: y :: r, h => by
  show PyData.strOk (x ++ sep ++ Str.join sep (y :: r)) = true
  rw [fI, fI, hs, h x (aq ..), rQ sep hs (y :: r) fun t ht => h t (aw _ ht)]
  rfl
mutual
/-- data of short numbers and fine short texts, lists and tuples of such -/
def fB : PyData → Bool
 | .none | .bool _ => true
 | .int i => decide (i.natAbs < 10 ^ 40)
 | .str x => PyData.strOk (reprText x) && PyData.strOk x && PyData.leavesShort 60 (.str x) && decide (x.length ≤ 100)
 | .list xs | .tuple xs => plainPs xs
 | .dict _ => false
def plainPs : List PyData → Bool
 | [] => true
 | x :: xs => fB x && plainPs xs
end
mutual
theorem D6 : ∀ p : PyData, fB p = true → PyData.strOk p.shown = true
 | .none, _ => dX _
 | .bool b, _ => by cases b <;> exact dX _
 | .int i, _ => dX _
 | .str x, h => by
  simp only [fB, ag] at h
  exact h.1.1.1
 | .list xs, h => by
  rw [fB] at h
  show PyData.strOk (textFrom 0 "[" (PyData.shownAll xs) ++ "]") = true
  rw [fI, k7 _ _ _ (dX _) (plains_shown xs h), dX]
  rfl
 | .tuple xs, h => by
  rw [fB] at h
  show PyData.strOk (tupleText (PyData.shownAll xs)) = true
  unfold tupleText
  rw [fI, fI, dX, rQ _ (dX _) _ (plains_shown xs h)]
  split <;> rw [dX] <;> rfl
 | .dict _, h => by simp [fB] at h
theorem plains_shown : ∀ ps : List PyData, plainPs ps = true → ∀ t ∈ PyData.shownAll ps, PyData.strOk t = true
 | [], _, t, ht => by simp [PyData.shownAll] at ht
 | p :: ps, h, t, ht => by
  simp only [plainPs, ag] at h
  simp only [PyData.shownAll, ao] at ht
  rcases ht with rfl | ht
  ·exact D6 p h.1
  ·exact plains_shown ps h.2 t ht
end
theorem pJ {i : Int} (h : i.natAbs < 10 ^ 40) : PyData.leavesShort 60 (.int i) = true := by
 have e := int_text_length_le10 (k := 40) (by decide) h
 simp only [PyData.leavesShort, ah]
 show (Str.ofString (toString i)).length ≤ 60
 rw [PySem.ofString_length]
 omega
theorem sH {i : Int} (h : i.natAbs < 10 ^ 40) : PyData.showable (.int i) = true := by
 simp only [PyData.showable, ah]
 by_cases h0 : i.natAbs = 0
 ·rw [h0]; decide
 ·rw [Nat.log2_lt h0]
  exact Nat.lt_of_lt_of_le h (by decide +kernel)
mutual
theorem plain_all : ∀ p : PyData, fB p = true → p.leavesShort 60 = true ∧ p.showable = true ∧ p.hasDict = false ∧ p.canLay0 = true
 | .none, _ => by simp [PyData.leavesShort, PyData.showable, PyData.hasDict, PyData.canLay0]
 | .bool b, _ => by simp [PyData.leavesShort, PyData.showable, PyData.hasDict, PyData.canLay0]
 | .int i, h => by
  simp only [fB, ah] at h
  exact ⟨pJ h, sH h, by simp [PyData.hasDict], by simp [PyData.canLay0]⟩
 | .str x, h => by
  simp only [fB, ag] at h
  exact ⟨h.1.2, by simp [PyData.showable], by simp [PyData.hasDict], by simp [PyData.canLay0, h.1.1.2]⟩
 | .list xs, h => by
  rw [fB] at h
  have := plains_all xs h
  simp only [PyData.leavesShort, PyData.showable, PyData.hasDict, PyData.canLay0]
  exact this
 | .tuple xs, h => by
  rw [fB] at h
  have := plains_all xs h
  simp only [PyData.leavesShort, PyData.showable, PyData.hasDict, PyData.canLay0]
  exact this
 | .dict _, h => by simp [fB] at h
theorem plains_all : ∀ p : List PyData, plainPs p = true → PyData.leavesShortAll 60 p = true ∧ PyData.showableAll p = true ∧ PyData.hasDictAll p = false ∧ PyData.canLayAll0 p = true
 | [], _ => by simp [PyData.leavesShortAll, PyData.showableAll, PyData.hasDictAll, PyData.canLayAll0]
 | p :: ps, h => by
  simp only [plainPs, ag] at h
  obtain ⟨a1, a2, a3, a4⟩ := plain_all p h.1
  obtain ⟨b1, b2, b3, b4⟩ := plains_all ps h.2
  simp only [PyData.leavesShortAll, PyData.showableAll, PyData.hasDictAll, PyData.canLayAll0, a1, a2, a3, a4, b1, b2, b3, b4]
  simp
end
section
variable {w : W} {P : D → W → Prop} {x y : D} {p q : PyData}
theorem pC {a b : Str} (ha : PyData.strOk a = true) (hb : PyData.strOk b = true) : yU (.str a) (.str b) w = some (decide (a = b)) := by
 rw [QH ha hb]
 rfl
end
theorem BN {it : lA} {g : MG} {body : MS} {P : Fl → W → Prop} {σ : Sg} {w : W} (Inv : Nat → Sg → W → Prop) (ok : ∀ i σ w, Inv i σ w → it.ok w) (init : Inv 0 σ w)
  (step : ∀ i x σ w, it.xs[i]? = some x → Inv i σ w → T (g x σ w) fun σ1 w1 => T (body σ1 w1) (Turn (Inv (i + 1)) P)) (fin : ∀ σ w, Inv it.xs.length σ w → P (.nx σ) w) : T (forL it g body it.xs σ w) P := by
 have fl := V9 (it := it) (g := g) (body := body) (P := P) Inv ok (fun i x σ w h1 h2 => (step i x σ w h1 h2).mono fun s1 w1 _ q => q.mono fun f w2 _ q2 => by cases f <;> exact q2) fin (i := 0) (σ := σ) (w := w) (Nat.zero_le _) init
 rw [List.drop_zero] at fl
 exact fl
theorem v3 {it : lA} {vs : List Nat} {g : MG} {t : MT} {e : ME} {σ : Sg} {w : W} {P : List D → W → Prop} (Inv : Nat → List D → W → Prop) (ok : ∀ i acc w, Inv i acc w → it.ok w) (init : Inv 0 [] w)
  (step : ∀ i x acc w, it.xs[i]? = some x → Inv i acc w → T (g x (dO σ vs) w) fun σ1 w1 => T (t σ1 w1) fun b w2 => if b = true then T (e σ1 w2) fun y w3 => Inv (i + 1) (acc ++ [y]) w3 else Inv (i + 1) acc w2)
  (fin : ∀ acc w, Inv it.xs.length acc w → P acc w) : T (gU it vs g t e it.xs σ w) P := by
 have cl := A7 (it := it) (vs := vs) (g := g) (t := t) (e := e) (σ := σ) (P := P) Inv ok step fin (i := 0) (acc := []) (w := w) (Nat.zero_le _) init
 rw [List.drop_zero] at cl
 exact cl.mono fun _ _ _ q => by simpa using q
inductive Role where
 | rests | SS | NH
deriving DecidableEq
def Role.s : Role → Str
 | .rests => "rests"
 | .SS => "waits"
 | .NH => "serves"
structure GF where
 left : Int
 a : Int
 s : Int
 r : Int
 rank : Int
structure E2 where
 living : List Int
 parts : List Int
 downs : List Int
 eN : List (List Int)
 dJ : List (List (Role × Int))
 wA : List GF
 uX : List (List (List Int))
 tables : List (List Int)
 asks : List (Int × Int)
def VI (p : Role × Int) : D := .tup [.str p.1.s, .int p.2]
def YT (r : List (Role × Int)) : D := .tup (r.map VI)
def TK (l : GF) : D := .tup [.int l.left, .int l.a, .int l.s, .int l.r, .int l.rank]
def SV (l : List (List Int)) : D := .tup (l.map CN)
section
variable {w : W} {P : D → W → Prop} {k : bM} {p h : Nat} {m : Mo} {b : Int}
theorem AD (n : Nat) (h : n ≤ 1000000) : n ≤ sizeLine := by rw [sizeLine_eq]; omega
end
section
variable {w : W} {P : D → W → Prop} {k : bM} {p h : Nat} {m : Mo} {b : Int}
theorem GG {xs : List D} {j : Nat} {d : D} (e : xs[j]? = some d) : atI xs (j : Int) = some d := by
 have hl := (aj.mp e).1
 unfold atI ixN
 rw [if_pos (by omega), if_pos (by omega)]
 exact e
end
section
variable {w : W} {P : D → W → Prop} {k : bM} {p h : Nat} {m : Mo} {b : Int}
def first (m : Mo) (b : Int) (h : Nat) : E2 where
 living := List.replicate h 1
 parts := List.replicate (h + m.nM.toNat) 0
 downs := []
 eN := m.eN
 dJ := m.eN.map fun r => r.map fun x => (.SS, TC m b x + m.hold)
 wA := []
 uX := m.eN.map fun _ => List.replicate h (List.replicate (h + m.nM.toNat) 0)
 tables := List.replicate m.nM.toNat (List.replicate m.eN.length (-1))
 asks := List.replicate m.nM.toNat (0, 0)
theorem K2 {xs : List D} : T (dM [.lst xs] w) P = P (.tup xs) w := by
 have e : dM [.lst xs] w = .ok (.tup xs) w := rfl
 rw [e, cR]
end
def zZ := And.intro @eY (And.intro @IW (And.intro @SE (And.intro @W7 (And.intro @V0 (And.intro @NS (And.intro @VR (And.intro @X5 (And.intro @OR (And.intro @VH (And.intro @T5 (And.intro @V7 (And.intro @RG (And.intro @VU (And.intro @QL (And.intro @T_C (And.intro @ZJ (And.intro @X3 (And.intro @ZF (And.intro @X9 (And.intro @ZZ (And.intro @ZH (And.intro @VS (And.intro @RM (And.intro @YC (And.intro @XY (And.intro @WT (And.intro @XN (And.intro @TU (And.intro @U5 (And.intro @QB (And.intro @VA (And.intro @YQ (And.intro @aAe (And.intro @YX (And.intro @MX (And.intro @UH (And.intro @UP (And.intro @XQ (And.intro @QA (And.intro @sI (And.intro @TQ (And.intro @C2 (And.intro @zS (And.intro @x6 (And.intro @L5 (And.intro @Z1 (And.intro @Z3 (And.intro @ZC (And.intro @WQ (And.intro @WW (And.intro @YY (And.intro @N3 (And.intro @OV (And.intro @XR (And.intro @V4 (And.intro @T9 (And.intro @U3 (And.intro @cR (And.intro @UR (And.intro @TV (And.intro @U1 (And.intro @ZR (And.intro @QT (And.intro @QO (And.intro @XZ (And.intro @OQ (And.intro @V6 (And.intro @Y1 (And.intro @WU (And.intro @SX (And.intro @TF (And.intro @XX (And.intro @L6 (And.intro @sl0 (And.intro @sl1 (And.intro @sl2 (And.intro @sl3 (And.intro @sl4 (And.intro @sl5 (And.intro @sl6 (And.intro @sl7 (And.intro @sl8 (And.intro @sl9 (And.intro @ZY (And.intro @ZK (And.intro @ZA (And.intro @OD (And.intro @BU (And.intro @HK (And.intro @yN (And.intro @Q5 (And.intro @aAg (And.intro @HA (And.intro @BH (@LW)))))))))))))))))))))))))))))))))))))))))))))))))))))))))))))))))))))))))))))))))))))))))))))))
theorem RE {xs ys : List D} : aN xs ys = xs := rfl
def zY := And.intro zZ (And.intro @List.getElem?_cons_zero.{0} (And.intro @List.getElem?_cons_succ.{0} (And.intro @List.set_cons_zero.{0} (And.intro @List.set_cons_succ.{0} (And.intro @List.length_cons.{0} (And.intro @List.length_nil.{0} (And.intro @RE (And.intro @true_and (And.intro @and_true (And.intro @br (And.intro @Bool.not_true (And.intro @Bool.not_false (And.intro @Bool.true_eq_false (And.intro @bj.{1} @af.{0}))))))))))))))
def k6 : Nat → D → Bool
 | 0, _ => false
 | _ + 1, .non => true
 | _ + 1, .bl _ => true
 | _ + 1, .int i => decide (i ≤ 100000000000000000000000000000000000000000000000000)
 | _ + 1, .str x => PyData.strOk x
 | n + 1, .tup xs => xs.all (k6 n) && decide (xs.length ≤ 70000)
 | n + 1, .lst xs => xs.all (k6 n) && decide (xs.length ≤ 70000)
 | n + 1, .sF ks vs => (ks.all (k6 n) && vs.all (k6 n)) && decide (ks.length ≤ 15)
 | _ + 1, _ => false
def isInt : D → Bool
 | .int _ => true
 | _ => false
def nC (lo hi : Int) : D → Bool
 | .int i => decide (lo ≤ i) && decide (i ≤ hi)
 | _ => false
def c9 : D → Bool
 | .tup _ => true
 | _ => false
def GQ : D → Bool
 | .str _ => true
 | _ => false
section
variable {w : W} {P : D → W → Prop} {k : bM} {p h n : Nat} {m : Mo} {b : Int} {d : D}
theorem fE {xs : List D} (e : k6 (n + 1) (.tup xs) = true) : (∀ x ∈ xs, k6 n x = true) ∧ xs.length ≤ 70000 := by
 simp only [k6, ag, ak, ah] at e
 exact e
theorem zW (e : k6 n d = true) : T (fP fX [d, .ty "int"] w) P = P (.bl (match d with | .int _ => true | .bl _ => true | _ => false)) w := by
 cases n with
 | zero => simp [k6] at e
 | succ n => cases d <;> first | (simp [k6] at e; done) | (unfold T; rfl)
theorem MZ (e : k6 n d = true) : T (fP fX [d, .ty "bool"] w) P = P (.bl (match d with | .bl _ => true | _ => false)) w := by
 cases n with
 | zero => simp [k6] at e
 | succ n => cases d <;> first | (simp [k6] at e; done) | (unfold T; rfl)
theorem j9 (e : k6 n d = true) : T (fP fX [d, .ty "tuple"] w) P = P (.bl (c9 d)) w := by
 cases n with
 | zero => simp [k6] at e
 | succ n => cases d <;> first | (simp [k6] at e; done) | (unfold T; rfl)
theorem TJ (e : k6 n d = true) : T (fP fX [d, .ty "str"] w) P = P (.bl (GQ d)) w := by
 cases n with
 | zero => simp [k6] at e
 | succ n => cases d <;> first | (simp [k6] at e; done) | (unfold T; rfl)
theorem P8 (e : k6 n d = true) : T (gL k [d] w) P = P (.bl (isInt d)) w := by
 unfold gL kG
 rw [eY, DZ]
 simp only [zW e, MZ e, zY, ae, aa, reduceCtorEq]
 cases d <;> simp [isInt]
theorem MM (lo hi : Int) (e : k6 n d = true) : T (cD k [d, .int lo, .int hi] w) P = P (.bl (nC lo hi d)) w := by
 unfold cD iQ
 rw [eY, B1]
 simp only [P8 e, zY, ae, aa, reduceCtorEq]
 cases d <;> simp only [isInt, nC, zY, ae, aa, reduceCtorEq]
 rename_i i
 by_cases h : lo ≤ i <;> simp [h]
end
section
variable {w : W} {P : D → W → Prop} {k : bM} {p h n : Nat} {m : Mo} {b : Int} {d : D}
def vC (ls : List D) : List D := (List.range ls.length).zipWith (fun i x => D.tup [.int (i : Nat), x]) ls
end
theorem BC {f : Nat → Option PyData} : ∀ {xs : List D} {ps : List PyData}, D.pysR f xs = some ps → ps.length = xs.length
 | [], ps, h => by simp only [D.pysR, af] at h; subst h; rfl
 | x :: xs, ps, h => by
  simp only [D.pysR] at h
  split at h
  ·rename_i p ps' e1 e2
   cases h
   simp [BC e2]
  ·cases h
theorem mG {w : W} {ys : List D} : yU (.lst ys) (.lst []) w = some ys.isEmpty := by
 unfold yU
 cases h : qS (.lst ys) (.lst []) w with
 | none => rfl
 | some b =>
  unfold qS at h
  have e2 : D.py w (.lst []) = some (.list []) := rfl
  rw [e2] at h
  split at h
  ·rename_i p q e3 e4
   cases e4
   split at h
   ·cases h
    unfold D.py D.e7 at e3
    obtain ⟨ps, q1, rfl⟩ := ai.mp e3
    have hl := BC q1
    cases ys with
    | nil => cases ps with
     | nil => rfl
     | cons => simp at hl
    | cons y ys => cases ps with
     | nil => simp at hl
     | cons => rfl
   ·cases h
  ·cases h
theorem jX {w : W} {ys : List D} : yU (.tup ys) (.tup []) w = some ys.isEmpty := by
 unfold yU
 cases h : qS (.tup ys) (.tup []) w with
 | none => rfl
 | some b =>
  unfold qS at h
  have e2 : D.py w (.tup []) = some (.tuple []) := rfl
  rw [e2] at h
  split at h
  ·rename_i p q e3 e4
   cases e4
   split at h
   ·cases h
    unfold D.py D.e7 at e3
    obtain ⟨ps, q1, rfl⟩ := ai.mp e3
    have hl := BC q1
    cases ys with
    | nil => cases ps with
     | nil => rfl
     | cons => simp at hl
    | cons y ys => cases ps with
     | nil => simp at hl
     | cons => rfl
   ·cases h
  ·cases h
section
variable {w : W} {P : D → W → Prop} {k : bM} {p h n i : Nat} {m : Mo} {b : Int} {d : D}
theorem JX {ys : List D} (h : ∀ y ∈ ys, k6 n y = true) (hn : n ≤ 60) : yU (.lst ys) (.lst []) w = some ys.isEmpty := mG
theorem ne_nil {ys : List D} (h : ∀ y ∈ ys, k6 n y = true) (hn : n ≤ 60) : T (p7 (.lst ys) (.lst []) w) P = P (.bl (!ys.isEmpty)) w := by
 rw [KY, JX h hn]
 simp
theorem eq_nil {ys : List D} (h : ∀ y ∈ ys, k6 n y = true) (hn : n ≤ 60) : T (eR (.lst ys) (.lst []) w) P = P (.bl ys.isEmpty) w := by
 rw [kN, JX h hn]
 simp
end
section
variable {w : W} {P : D → W → Prop} {k : bM} {p h n i : Nat} {m : Mo} {b : Int} {d : D}
theorem E3 {xs ys : List Int} : yU (.lst (xs.map D.int)) (.lst (ys.map D.int)) w = some (decide (xs = ys)) := by
 have py : ∀ l : List Int, D.pysR (DI 8 w) (l.map D.int) = some (l.map PyData.int) := by
  intro l
  induction l with
  | nil => rfl
  | cons a l ih => rw [List.map_cons, D.pysR, ih]; rfl
 have sh : ∀ l : List Int, SeqAt.shaped (.list (l.map PyData.int)) = true := by
  intro l
  have c : ∀ l : List Int, PyData.canLayAll0 (l.map PyData.int) = true ∧ PyData.depthAll (l.map PyData.int) ≤ 1 := by
   intro l
   induction l with
   | nil => exact ⟨rfl, Nat.zero_le _⟩
   | cons a l ih =>
    rw [List.map_cons]
    refine ⟨by rw [PyData.canLayAll0, ih.1]; rfl, ?_⟩
    have := ih.2
    rw [PyData.depthAll, PyData.depth]
    omega
  unfold SeqAt.shaped
  rw [ag, ah, PyData.canLay0, PyData.depth]
  have := (c l).2
  exact ⟨(c l).1, by omega⟩
 have ev : ∀ xs ys : List Int, PyData.eqvAll (xs.map PyData.int) (ys.map PyData.int) = decide (xs = ys) := by
  intro xs
  induction xs with
  | nil => intro ys; cases ys <;> rfl
  | cons x xs ih =>
   intro ys
   cases ys with
   | nil => rfl
   | cons y ys =>
    rw [List.map_cons, List.map_cons, PyData.eqvAll, ih, PyData.eqv, Bool.eq_iff_iff]
    simp
 have e : ∀ l : List Int, D.py w (.lst (l.map D.int)) = some (.list (l.map PyData.int)) := fun l => by unfold D.py D.e7; rw [py]; rfl
 unfold yU qS
 rw [e, e]
 simp only [sh, and_self, ae, PyData.eqv, ev]
theorem OI : ∀ {ds : List Int}, ((ds.dropLast.zip ds.tail).all fun q => decide (q.1 < q.2)) = decide (ds = gB ds) := by
 intro ds
 have pw : ∀ ds : List Int, ((ds.dropLast.zip ds.tail).all fun q => decide (q.1 < q.2)) = true ↔ ds.Pairwise (· < ·) := by
  intro ds
  induction ds with
  | nil => simp
  | cons a ds ih =>
   cases ds with
   | nil => simp
   | cons c ds =>
    simp only [List.dropLast_cons₂, List.tail_cons, List.zip_cons_cons, List.all_cons, ag, ah]
    have ih' : ((c :: ds).dropLast.zip ds).all (fun q => decide (q.1 < q.2)) = true ↔ (c :: ds).Pairwise (· < ·) := ih
    rw [ih']
    constructor
    ·rintro ⟨h1, h2⟩
     refine List.pairwise_cons.mpr ⟨fun y hy => ?_, h2⟩
     rcases ao.mp hy with rfl | hy
     ·exact h1
     ·have := (List.pairwise_cons.mp h2).1 y hy
      omega
    ·intro h
     obtain ⟨h1, h2⟩ := List.pairwise_cons.mp h
     exact ⟨h1 c (aq ..), h2⟩
 rw [Bool.eq_iff_iff, pw, ah]
 constructor
 ·intro h
  exact pN h gM fun k => jW.symm
 ·intro h
  rw [h]
  exact gM
end
section
variable {w : W} {P : D → W → Prop} {k : bM} {p h n i : Nat} {m : Mo} {b : Int} {d : D}
theorem jZ : ∀ {l : List Int}, iT (l.map D.int) = some l
 | [] => rfl
 | a :: l => by simp [iT, jZ (l := l)]
end
theorem mY {it : lA} {vs : List Nat} {g : MG} {t : MT} {e : ME} {σ : Sg} {w : W} {P : List D → W → Prop} (F : D → Prop) (hok : ∀ w, it.ok w) (hd : tG w 1 0)
  (step : ∀ (j : Nat) (x : D) (w' : W), it.xs[j]? = some x → tG w' 1 0 → Pc.Kept w w' 1 0 → T (g x (dO σ vs) w') fun σ1 w1 => T (t σ1 w1) fun b w2 => (tG w2 1 0 ∧ Pc.Kept w w2 1 0) ∧ (b = true → T (e σ1 w2) fun y w3 => F y ∧ tG w3 1 0 ∧ Pc.Kept w w3 1 0))
  (fin : ∀ ys w', (∀ y ∈ ys, F y) → ys.length ≤ it.xs.length → tG w' 1 0 → Pc.Kept w w' 1 0 → P ys w') : T (gU it vs g t e it.xs σ w) P := by
 refine v3 (fun j acc w' => (∀ y ∈ acc, F y) ∧ acc.length ≤ j ∧ tG w' 1 0 ∧ Pc.Kept w w' 1 0) (fun _ _ w' _ => hok w') ⟨by simp, by simp, hd, .refl⟩ (fun j x acc w' hx ⟨h1, h2, h3, h4⟩ => ?_) fun acc w' ⟨h1, h2, h3, h4⟩ => fin acc w' h1 h2 h3 h4
 refine (step j x w' hx h3 h4).mono fun σ1 w1 _ q => q.mono fun b w2 _ q => ?_
 obtain ⟨⟨q1, q2⟩, q⟩ := q
 by_cases hb : b = true
 ·rw [if_pos hb]
  refine (q hb).mono fun y w3 _ q => ⟨fun z hz => ?_, by simp; omega, q.2.1, q.2.2⟩
  rcases bf.mp hz with hz | hz
  ·exact h1 z hz
  ·simp at hz; subst hz; exact q.1
 ·rw [if_neg hb]
  exact ⟨h1, by omega, q1, q2⟩
theorem DF {k : Int} : ∀ {xs : List Int}, (tU k xs).length ≤ xs.length + 1
 | [] => by simp [tU]
 | x :: xs => by
  unfold tU
  split
  ·simp
  ·split
   ·simp
   ·have := DF (k := k) (xs := xs)
    simp only [List.length_cons]; omega
theorem zU : ∀ {xs : List Int}, (gB xs).length ≤ xs.length
 | [] => ay _
 | x :: xs => by
  have e : gB (x :: xs) = tU x (gB xs) := rfl
  have h1 := zU (xs := xs)
  have h2 := DF (k := x) (xs := gB xs)
  rw [e, List.length_cons]; omega
def LB : List (Str × Option D) := [(("fall" : Str), some (.int 1)), (("stop" : Str), some (.int 1)), (("rise" : Str), some (.int 1)), (("down" : Str), some (.int 1)), (("up" : Str), some (.int 1)), (("rank" : Str), some (.int 3)), (("tear" : Str), some (.int 2)), (("heal" : Str), some (.int 0)), (("ask" : Str), some (.int 2))]
def zF : List Str := [("plan" : Str), ("state" : Str), ("host" : Str), ("address" : Str), ("told" : Str)]
def zL (k : bM) : MS :=
 (aK (aX (aE a8 (aE a8 (aE a8 (aB 1) (eC (.int 7))) (aB 2)) (aB 3)) (a7 4))
 (aK (dN (eQ (bG (aE FR (aB 4) (eC (.int 0)))) (bG (aE p7 (aE a8 (aE a8 (aB 1) (eC (.int 1))) (aB 4)) (aE a8 (aE a8 (aB 1) (eC (.int 1))) (aE cB (aS (C8 k.dA (fN k)) (aA (aB 0) aD)) (aB 2)))))) (bB (eC (.bl false))) a9)
 (bB (aE eR (aE a8 (aE a8 (aE a8 (aE a8 (aB 1) (eC (.int 4))) (aB 3)) (aB 4)) (eC (.int 0))) (eC (.str ("serves" : Str)))))))
def y6 (k : bM) : MF := bI (zL k) zF
def WI : List Str := [("row" : Str), ("at" : Str), ("thing" : Str)]
def XA (k : bM) : MS :=
 (bB (aE cB (aE cB (nW kX (aB 0) c8 (cQ (aB 1))) (bA (aA (aB 2) aD))) (nW kX (aB 0) (cQ (aE cB (aB 1) (eC (.int 1)))) c8)))
def kE (k : bM) : MF := bI (XA k) WI
def GC : List Str := [("plan" : Str), ("state" : Str), ("host" : Str), ("address" : Str), ("many" : Str), ("dropped" : Str), ("told" : Str)]
def IC (k : bM) : MS :=
 (aK (aX (aE a8 (aE a8 (aB 1) (eC (.int 8))) (aB 2)) (cC 2 (aI (a7 4) (aI (a7 5) bZ))))
 (aK (aX (bA (aA (aE cB (aB 4) (eC (.int 1))) (aA (aE cB (aB 5) (aS K6 (aA (sT notM (aJ (y6 k) 4 aN (aA (aB 0) (aA (aB 1) (aA (aB 2) (aA (aB 3) aD)))))) aD))) aD))) (a7 6))
 (bB (aJ (kE k) 3 aN (aA (aB 1) (aA (eC (.int 8)) (aA (aJ (kE k) 3 aN (aA (aE a8 (aB 1) (eC (.int 8))) (aA (aB 2) (aA (aB 6) aD)))) aD)))))))
def HW (k : bM) : MF := bI (IC k) GC
def tH : List Str := [("plan" : Str)]
def tL (k : bM) : MS :=
 (bB (aS dI (aA (c6 k.dA ("ranks" : Str) (aB 0)) aD)))
def dE (k : bM) : MF := bI (tL k) tH
def EM : List Str := [("state" : Str), ("house" : Str), ("lives" : Str)]
def CW (k : bM) : MS :=
 (bB (aJ (kE k) 3 aN (aA (aB 0) (aA (eC (.int 0)) (aA (aJ (kE k) 3 aN (aA (aE a8 (aB 0) (eC (.int 0))) (aA (aB 1) (aA (aB 2) aD)))) aD)))))
def u6 (k : bM) : MF := bI (CW k) EM
def zG : List Str := [("state" : Str), ("house" : Str), ("stands" : Str), ("rows" : Str), ("row" : Str), ("stand" : Str)]
def y8 (k : bM) : MS :=
 (aK (aX (aS dM (aA (bR (dS zmM (aA (aE a8 (aB 0) (eC (.int 4))) (aA (aB 2) aD))) [4, 5] (cC 2 (aI (a7 4) (aI (a7 5) bZ))) cF (aJ (kE k) 3 aN (aA (aB 4) (aA (aB 1) (aA (aB 5) aD))))) aD)) (a7 3))
 (bB (aJ (kE k) 3 aN (aA (aB 0) (aA (eC (.int 4)) (aA (aB 3) aD))))))
def qH (k : bM) : MF := bI (y8 k) zG
def NJ : List Str := [("plan" : Str), ("state" : Str), ("house" : Str)]
def OT (k : bM) : MS :=
 (bB (aJ (qH k) 3 aN (aA (aJ (u6 k) 3 aN (aA (aB 1) (aA (aB 2) (aA (eC (.int 0)) aD)))) (aA (aB 2) (aA (aE mulM (hY (aA (bA (aA (eC (.str ("rests" : Str))) (aA (eC (.int 0)) aD))) aD)) (aJ (dE k) 1 aN (aA (aB 0) aD))) aD)))))
def DM (k : bM) : MF := bI (OT k) NJ
def G9 : List Str := [("plan" : Str), ("state" : Str), ("address" : Str), ("house" : Str), ("downs" : Str), ("ranks" : Str), ("taken" : Str), ("one" : Str), ("tie" : Str), ("less" : Str)]
def G4 (k : bM) : MS :=
 (aK (aX (bA (aA (aE a8 (aB 1) (eC (.int 2))) (aA (aE a8 (aB 1) (eC (.int 3))) aD))) (cC 2 (aI (a7 4) (aI (a7 5) bZ))))
 (aK (aX (aS EY (aA (bR (dP (c6 k.dA ("ties" : Str) (aB 0))) [7, 8, 9] (cC 3 (aI (a7 7) (aI (a7 8) (aI (a7 9) bZ)))) (gC (bG (aE eR (aB 7) (aB 3))) (bG (aE L1 (aB 8) (aB 4)))) (aB 9)) aD)) (a7 6))
 (bB (aS max2 (aA (eC (.int 1)) (aA (aE kP (aE a8 (aE a8 (aB 5) (aB 2)) (aB 3)) (aB 6)) aD))))))
def kQ (k : bM) : MF := bI (G4 k) G9
def zJ : List Str := [("plan" : Str), ("state" : Str), ("address" : Str), ("house" : Str)]
def y7 (k : bM) : MS :=
 (bB (aE cB (aJ (zP k) 2 aN (aA (aB 0) (aA (aJ (kQ k) 4 aN (aA (aB 0) (aA (aB 1) (aA (aB 2) (aA (aB 3) aD))))) aD))) (c6 k.dA ("hold" : Str) (aB 0))))
def lR (k : bM) : MF := bI (y7 k) zJ
def y5 : List Str := [("plan" : Str), ("ahead" : Str), ("state" : Str), ("address" : Str), ("house" : Str), ("role" : Str), ("clock" : Str), ("row" : Str)]
def zI (k : bM) : MS :=
 (aK (fY (dS hE (aA (aJ (dE k) 1 aN (aA (aB 0) aD)) aD)) (a7 3) (fY (dS hE (aA (aS (C8 k.dA (fN k)) (aA (aB 0) aD)) aD)) (a7 4) (aK (aX (aE a8 (aE a8 (aE a8 (aB 2) (eC (.int 4))) (aB 3)) (aB 4)) (cC 2 (aI (a7 5) (aI (a7 6) bZ))))
 (dN (gC (bG (aE eR (aB 5) (eC (.str ("waits" : Str))))) (bG (aE JM (aJ (kQ k) 4 aN (aA (aB 0) (aA (aB 2) (aA (aB 3) (aA (aB 4) aD))))) (aJ (kQ k) 4 aN (aA (aB 0) (aA (aB 1) (aA (aB 3) (aA (aB 4) aD)))))))) (aK (aX (aS max2 (aA (aB 6) (aA (aJ (lR k) 4 aN (aA (aB 0) (aA (aB 2) (aA (aB 3) (aA (aB 4) aD))))) aD))) (a7 6))
 (aK (aX (aJ (kE k) 3 aN (aA (aE a8 (aE a8 (aB 2) (eC (.int 4))) (aB 3)) (aA (aB 4) (aA (bA (aA (aB 5) (aA (aB 6) aD))) aD)))) (a7 7))
 (aX (aJ (kE k) 3 aN (aA (aB 2) (aA (eC (.int 4)) (aA (aJ (kE k) 3 aN (aA (aE a8 (aB 2) (eC (.int 4))) (aA (aB 3) (aA (aB 7) aD)))) aD)))) (a7 2)))) a9))))
 (bB (aB 2)))
def l8 (k : bM) : MF := bI (zI k) y5
def R6 : List Str := [("plan" : Str), ("state" : Str), ("house" : Str), ("stands" : Str), ("address" : Str)]
def Q0 (k : bM) : MS :=
 (aK (aX (bR (dS hE (aA (aJ (dE k) 1 aN (aA (aB 0) aD)) aD)) [4] (a7 4) cF (bA (aA (eC (.str ("waits" : Str))) (aA (aJ (lR k) 4 aN (aA (aB 0) (aA (aB 1) (aA (aB 4) (aA (aB 2) aD))))) aD)))) (a7 3))
 (bB (aJ (qH k) 3 aN (aA (aJ (u6 k) 3 aN (aA (aB 1) (aA (aB 2) (aA (eC (.int 1)) aD)))) (aA (aB 2) (aA (aB 3) aD))))))
def R8 (k : bM) : MF := bI (Q0 k) R6
def HB : List Str := [("lacks" : Str), ("sent" : Str), ("fates" : Str), ("found" : Str), ("address" : Str), ("sender" : Str), ("receiver" : Str), ("rank" : Str), ("lost" : Str), ("rows" : Str), ("own" : Str), ("houses" : Str), ("row" : Str), ("many" : Str)]
def HU (k : bM) : MS :=
 (aK (aX CS (a7 3))
 (aK (fY (dP (aB 1)) (cC 4 (aI (a7 4) (aI (a7 5) (aI (a7 6) (aI (a7 7) bZ))))) (aK (aX (aE eR (c5 "dict" getM (aB 2) (aA (bA (aA (aB 4) (aA (aB 5) (aA (aB 6) aD)))) (aA (eC (.int 1)) aD))) (eC (.int 0))) (a7 8))
 (aX (UC (cV (aB 8)) (aE cB (aE a8 (aE a8 (aE a8 (aB 0) (aB 4)) (aB 5)) (aB 6)) (eC (.int 1))) (eC (.int 0))) (dC (aB 3) (bA (aA (aB 4) (aA (aB 5) (aA (aB 6) aD))))))))
 (aK (dN (bG (aE eqE (aB 3) CS)) (bB (aB 0)) a9)
 (aK (aX (eNew aD) (a7 9))
 (aK (fY (dS wN (aA (aB 0) aD)) (cC 2 (aI (a7 4) (aI (a7 10) bZ))) (aK (aX (eNew aD) (a7 11))
 (aK (fY (dS wN (aA (aB 10) aD)) (cC 2 (aI (a7 5) (aI (a7 12) bZ))) (cX (c5 "list" cU (aB 11) (aA (aS dM (aA (bR (dS wN (aA (aB 12) aD)) [6, 13] (cC 2 (aI (a7 6) (aI (a7 13) bZ))) cF (c5 "dict" getM (aB 3) (aA (bA (aA (aB 4) (aA (aB 5) (aA (aB 6) aD)))) (aA (aB 13) aD)))) aD)) aD))))
 (cX (c5 "list" cU (aB 9) (aA (aS dM (aA (aB 11) aD)) aD))))))
 (bB (aS dM (aA (aB 9) aD))))))))
def wO (k : bM) : MF := bI (HU k) HB
def AN : List Str := [("sent" : Str), ("fates" : Str), ("found" : Str), ("address" : Str), ("sender" : Str), ("receiver" : Str), ("rank" : Str), ("fate" : Str)]
def CD (k : bM) : MS :=
 (aK (aX (eNew aD) (a7 2))
 (aK (fY (dP (aB 0)) (cC 4 (aI (a7 3) (aI (a7 4) (aI (a7 5) (aI (a7 6) bZ))))) (aK (aX (c5 "dict" getM (aB 1) (aA (bA (aA (aB 3) (aA (aB 4) (aA (aB 5) aD)))) (aA (eC (.int 1)) aD))) (a7 7))
 (dN (bG (aE JM (aB 7) (eC (.int 0)))) (cX (c5 "list" cU (aB 2) (aA (bA (aA (aB 7) (aA (aB 3) (aA (aB 4) (aA (aB 5) (aA (aB 6) aD)))))) aD))) a9)))
 (bB (aS dM (aA (aB 2) aD)))))
def rS (k : bM) : MF := bI (CD k) AN
def xY : List Str := [("plan" : Str), ("state" : Str), ("house" : Str), ("living" : Str), ("parts" : Str), ("found" : Str), ("receiver" : Str), ("part" : Str)]
def wY (k : bM) : MS :=
 (aK (NZ 3 4 (aA (aE a8 (aB 1) (eC (.int 0))) (aA (aE a8 (aB 1) (eC (.int 1))) aD)))
 (aK (aX (eNew aD) (a7 5))
 (aK (fY (dS wN (aA (aB 4) aD)) (cC 2 (aI (a7 6) (aI (a7 7) bZ))) (dN (gC (bG (aE p7 (aB 6) (aB 2))) (gC (bG (aE eR (aB 7) (aE a8 (aB 4) (aB 2)))) (eQ (bG (aE QW (aB 6) (aS (C8 k.dA (fN k)) (aA (aB 0) aD)))) (bG (aE eR (aE a8 (aB 3) (aB 6)) (eC (.int 1))))))) (cX (c5 "list" cU (aB 5) (aA (aB 6) aD))) a9))
 (bB (aS dM (aA (aB 5) aD))))))
def o7 (k : bM) : MF := bI (wY k) xY
def wQ : List Str := [("plan" : Str), ("state" : Str), ("address" : Str), ("house" : Str), ("rank" : Str), ("fates" : Str), ("sent" : Str), ("letters" : Str), ("receiver" : Str)]
def wU (k : bM) : MS :=
 (aK (aX (bR (dP (aJ (o7 k) 3 aN (aA (aB 0) (aA (aB 1) (aA (aB 3) aD))))) [8] (a7 8) cF (bA (aA (aB 2) (aA (aB 3) (aA (aB 8) (aA (aB 4) aD)))))) (a7 6))
 (aK (aX (aE cB (aE a8 (aB 1) (eC (.int 5))) (aJ (rS k) 2 aN (aA (aB 6) (aA (aB 5) aD)))) (a7 7))
 (bB (aE cB (aE cB (nW kX (aB 1) c8 (cQ (eC (.int 5)))) (bA (aA (aB 7) (aA (aJ (wO k) 3 aN (aA (aE a8 (aB 1) (eC (.int 6))) (aA (aB 6) (aA (aB 5) aD)))) aD)))) (nW kX (aB 1) (cQ (aE cB (eC (.int 6)) (eC (.int 1)))) c8)))))
def wD (k : bM) : MF := bI (wU k) wQ
def LN : List Str := [("plan" : Str), ("state" : Str), ("house" : Str), ("fates" : Str), ("address" : Str), ("row" : Str)]
def LC (k : bM) : MS :=
 (aK (fY (dS wN (aA (aE a8 (aB 1) (eC (.int 4))) aD)) (cC 2 (aI (a7 4) (aI (a7 5) bZ))) (dN (bG (aE eR (aE a8 (aE a8 (aB 5) (aB 2)) (eC (.int 0))) (eC (.str ("serves" : Str))))) (aX (aJ (wD k) 6 aN (aA (aB 0) (aA (aB 1) (aA (aB 4) (aA (aB 2) (aA (eC (.int 0)) (aA (aB 3) aD))))))) (a7 1)) a9))
 (bB (aJ (DM k) 3 aN (aA (aB 0) (aA (aB 1) (aA (aB 2) aD))))))
def KP (k : bM) : MF := bI (LC k) LN
def C1 : List Str := [("plan" : Str), ("state" : Str), ("houses" : Str), ("hosts" : Str), ("there" : Str), ("host" : Str), ("place" : Str)]
def EL (k : bM) : MS :=
 (aK (aX (aE cB (aB 2) (aS dM (aA (bR (dP (aB 3)) [5] (a7 5) cF (aE cB (aS (C8 k.dA (fN k)) (aA (aB 0) aD)) (aB 5))) aD))) (a7 4))
 (bB (aJ (kE k) 3 aN (aA (aB 1) (aA (eC (.int 1)) (aA (aS dM (aA (bR (dS hE (aA (aS dI (aA (aE a8 (aB 1) (eC (.int 1))) aD)) aD)) [6] (a7 6) cF (aS K6 (aA (aE L1 (aB 6) (aB 4)) aD))) aD)) aD))))))
def u5 (k : bM) : MF := bI (EL k) C1
def C7 : List Str := [("plan" : Str), ("state" : Str), ("deed" : Str), ("fates" : Str), ("word" : Str), ("rest" : Str), ("downs" : Str), ("address" : Str), ("house" : Str), ("rank" : Str), ("ranks" : Str), ("tie" : Str)]
def DX (k : bM) : MS :=
 (aK (aX (aB 2) (sO 1 (aI (a7 4) (aI (a7 5) bZ))))
 (aK (dN (bG (aE eR (aB 4) (eC (.str ("fall" : Str))))) (bB (aJ (DM k) 3 aN (aA (aB 0) (aA (aB 1) (aA (aE a8 (aB 5) (eC (.int 0))) aD))))) a9)
 (aK (dN (bG (aE eR (aB 4) (eC (.str ("stop" : Str))))) (bB (aJ (KP k) 4 aN (aA (aB 0) (aA (aB 1) (aA (aE a8 (aB 5) (eC (.int 0))) (aA (aB 3) aD)))))) a9)
 (aK (dN (bG (aE eR (aB 4) (eC (.str ("rise" : Str))))) (bB (aJ (R8 k) 3 aN (aA (aB 0) (aA (aB 1) (aA (aE a8 (aB 5) (eC (.int 0))) aD))))) a9)
 (aK (dN (bG (aE eR (aB 4) (eC (.str ("down" : Str))))) (bB (aJ (l8 k) 3 aN (aA (aB 0) (aA (aB 1) (aA (aJ (kE k) 3 aN (aA (aB 1) (aA (eC (.int 2)) (aA (aS dM (aA (aS R5 (aA (aE cB (aE a8 (aB 1) (eC (.int 2))) (bA (aA (aE a8 (aB 5) (eC (.int 0))) aD))) aD)) aD)) aD)))) aD))))) a9)
 (aK (dN (bG (aE eR (aB 4) (eC (.str ("up" : Str))))) (aK (aX (aS dM (aA (bR (dP (aE a8 (aB 1) (eC (.int 2)))) [11] (a7 11) (bG (aE p7 (aB 11) (aE a8 (aB 5) (eC (.int 0))))) (aB 11)) aD)) (a7 6))
 (bB (aJ (l8 k) 3 aN (aA (aB 0) (aA (aB 1) (aA (aJ (kE k) 3 aN (aA (aB 1) (aA (eC (.int 2)) (aA (aB 6) aD)))) aD)))))) a9)
 (aK (dN (bG (aE eR (aB 4) (eC (.str ("rank" : Str))))) (aK (aX (aB 5) (S3 3 (aI (a7 7) (aI (a7 8) (aI (a7 9) bZ)))))
 (aK (aX (aJ (kE k) 3 aN (aA (aE a8 (aB 1) (eC (.int 3))) (aA (aB 7) (aA (aJ (kE k) 3 aN (aA (aE a8 (aE a8 (aB 1) (eC (.int 3))) (aB 7)) (aA (aB 8) (aA (aB 9) aD)))) aD)))) (a7 10))
 (bB (aJ (l8 k) 3 aN (aA (aB 0) (aA (aB 1) (aA (aJ (kE k) 3 aN (aA (aB 1) (aA (eC (.int 3)) (aA (aB 10) aD)))) aD))))))) a9)
 (aK (dN (bG (aE eR (aB 4) (eC (.str ("tear" : Str))))) (bB (aJ (u5 k) 4 aN (aA (aB 0) (aA (aB 1) (aA (aE a8 (aB 5) (eC (.int 0))) (aA (aE a8 (aB 5) (eC (.int 1))) aD)))))) a9)
 (aK (dN (bG (aE eR (aB 4) (eC (.str ("heal" : Str))))) (bB (aJ (u5 k) 4 aN (aA (aB 0) (aA (aB 1) (aA (bA aD) (aA (bA aD) aD)))))) a9)
 (bB (aJ (HW k) 4 aN (aA (aB 0) (aA (aB 1) (aA (aE a8 (aB 5) (eC (.int 0))) (aA (aE a8 (aB 5) (eC (.int 1))) aD)))))))))))))))
def E8 (k : bM) : MF := bI (DX k) C7
def GW : List Str := [("thing" : Str), ("many" : Str), ("one" : Str), ("other" : Str)]
def HX (k : bM) : MS :=
 (aK (dN (eQ (cH (cV (aS (fP fX) (aA (aB 0) (aA (eC (.ty "tuple")) aD))))) (cH (cV (aS allM (aA (bR (dP (aB 0)) [2] (a7 2) cF (aJ (cD k) 3 aN (aA (aB 2) (aA (eC (.int 0)) (aA (aE kP (aB 1) (eC (.int 1))) aD))))) aD))))) (bB (eC (.bl false))) a9)
 (bB (aS allM (aA (bR (dS VF (aA (nW kX (aB 0) c8 (cQ (sT uO (eC (.int 1))))) (aA (nW kX (aB 0) (cQ (eC (.int 1))) c8) aD))) [2, 3] (cC 2 (aI (a7 2) (aI (a7 3) bZ))) cF (aE FR (aB 2) (aB 3))) aD))))
def wI (k : bM) : MF := bI (HX k) GW
def FU : List Str := [("plan" : Str), ("state" : Str), ("houses" : Str), ("hosts" : Str)]
def FX (k : bM) : MS :=
 (aK (dN (eQ (cV (aS anyM (aA (aE a8 (aB 1) (eC (.int 1))) aD))) (eQ (cH (cV (aJ (wI k) 2 aN (aA (aB 2) (aA (aS (C8 k.dA (fN k)) (aA (aB 0) aD)) aD))))) (cH (cV (aJ (wI k) 2 aN (aA (aB 3) (aA (c6 k.dA ("hosts" : Str) (aB 0)) aD))))))) (bB (eC (.bl false))) a9)
 (bB (Q3 FR FR (eC (.int 0)) (aS dI (aA (aB 2) aD)) (aS (C8 k.dA (fN k)) (aA (aB 0) aD)))))
def HZ (k : bM) : MF := bI (FX k) FU
def yF : List Str := [("plan" : Str), ("address" : Str), ("house" : Str), ("rank" : Str)]
def x3 (k : bM) : MS :=
 (aK (dN (eQ (cH (cV (aJ (cD k) 3 aN (aA (aB 1) (aA (eC (.int 0)) (aA (aE kP (aJ (dE k) 1 aN (aA (aB 0) aD)) (eC (.int 1))) aD)))))) (cH (cV (aJ (cD k) 3 aN (aA (aB 2) (aA (eC (.int 0)) (aA (aE kP (aS (C8 k.dA (fN k)) (aA (aB 0) aD)) (eC (.int 1))) aD))))))) (bB (eC (.bl false))) a9)
 (bB (aJ (cD k) 3 aN (aA (aB 3) (aA (eC (.int 1)) (aA (eC (.int 12)) aD))))))
def yE (k : bM) : MF := bI (x3 k) yF
def xV : List Str := [("plan" : Str), ("thing" : Str), ("house" : Str), ("tie" : Str), ("less" : Str)]
def x9 (k : bM) : MS :=
 (bB (gP (aJ (cD k) 3 aN (aA (aB 1) (aA (eC (.int 0)) (aA (eC (.int 9)) aD)))) (aE L1 (aB 1) (bR (dP (c6 k.dA ("ties" : Str) (aB 0))) [2, 3, 4] (cC 3 (aI (a7 2) (aI (a7 3) (aI (a7 4) bZ)))) cF (aB 3)))))
def xR (k : bM) : MF := bI (x9 k) xV
def K3 : List Str := [("plan" : Str), ("state" : Str), ("thing" : Str), ("word" : Str), ("rest" : Str)]
def KO (k : bM) (tS : Addr) : MS :=
 (aK (dN (eQ (cH (cV (aS (fP fX) (aA (aB 2) (aA (eC (.ty "tuple")) aD))))) (eQ (bG (aE eR (aB 2) (bA aD))) (cH (cV (aS (fP fX) (aA (aE a8 (aB 2) (eC (.int 0))) (aA (eC (.ty "str")) aD))))))) (bB (eC (.bl false))) a9)
 (aK (aX (aB 2) (sO 1 (aI (a7 3) (aI (a7 4) bZ))))
 (aK (dN (bG (aE p7 (aS dI (aA (aB 4) aD)) (YI tS LB (eC (.con tS)) (aA (aB 3) (aA (sT uO (eC (.int 1))) aD))))) (bB (eC (.bl false))) a9)
 (aK (dN (bG (aE L1 (aB 3) (bA (aA (eC (.str ("fall" : Str))) (aA (eC (.str ("stop" : Str))) (aA (eC (.str ("rise" : Str))) aD)))))) (bB (gP (aJ (cD k) 3 aN (aA (aE a8 (aB 4) (eC (.int 0))) (aA (eC (.int 0)) (aA (aE kP (aS (C8 k.dA (fN k)) (aA (aB 0) aD)) (eC (.int 1))) aD)))) (aE eR (aE a8 (aE a8 (aB 1) (eC (.int 0))) (aE a8 (aB 4) (eC (.int 0)))) (aS K6 (aA (aE p7 (aB 3) (eC (.str ("rise" : Str)))) aD))))) a9)
 (aK (dN (bG (aE L1 (aB 3) (bA (aA (eC (.str ("down" : Str))) (aA (eC (.str ("up" : Str))) aD))))) (bB (gP (aJ (xR k) 2 aN (aA (aB 0) (aA (aE a8 (aB 4) (eC (.int 0))) aD))) (aE eR (aE L1 (aE a8 (aB 4) (eC (.int 0))) (aE a8 (aB 1) (eC (.int 2)))) (aE eR (aB 3) (eC (.str ("up" : Str))))))) a9)
 (aK (dN (bG (aE eR (aB 3) (eC (.str ("rank" : Str))))) (bB (aJ (yE k) 4 aN (aA (aB 0) (aA (aE a8 (aB 4) (eC (.int 0))) (aA (aE a8 (aB 4) (eC (.int 1))) (aA (aE a8 (aB 4) (eC (.int 2))) aD)))))) a9)
 (aK (dN (bG (aE eR (aB 3) (eC (.str ("tear" : Str))))) (bB (aJ (HZ k) 4 aN (aA (aB 0) (aA (aB 1) (aA (aE a8 (aB 4) (eC (.int 0))) (aA (aE a8 (aB 4) (eC (.int 1))) aD)))))) a9)
 (aK (dN (bG (aE eR (aB 3) (eC (.str ("heal" : Str))))) (bB (aS anyM (aA (aE a8 (aB 1) (eC (.int 1))) aD))) a9)
 (bB (gP (aJ (cD k) 3 aN (aA (aE a8 (aB 4) (eC (.int 0))) (aA (eC (.int 0)) (aA (aE kP (c6 k.dA ("hosts" : Str) (aB 0)) (eC (.int 1))) aD)))) (aJ (cD k) 3 aN (aA (aE a8 (aB 4) (eC (.int 1))) (aA (eC (.int 0)) (aA (aE kP (aJ (dE k) 1 aN (aA (aB 0) aD)) (eC (.int 1))) aD))))))))))))))
def KS (k : bM) (tS : Addr) : MF := bI (KO k tS) K3
end Lb
namespace Lw
open PySem PySem.Spec PyProof.Rows L2 Pc Lb
def EH : List Str := [("_law_model_here" : Str), ("_law_world_here" : Str), ("_law_a" : Str), ("_law_h" : Str), ("_law_down" : Str), ("_law_house" : Str), ("_law_tie" : Str), ("_law_less" : Str)]
def FA (k : bM) : MS :=
 (aK (aX (aS EY (aA (bR (dP (aE a8 (aB 0) (eC (.str ("ties" : Str))))) [5, 6, 7] (cC 3 (aI (a7 5) (aI (a7 6) (aI (a7 7) bZ)))) (gC (bG (aE eR (aB 5) (aB 3))) (bG (aE L1 (aB 6) (aE a8 (aB 1) (eC (.str ("downs" : Str))))))) (aB 7)) aD)) (a7 4))
 (bB (aS max2 (aA (eC (.int 1)) (aA (aE kP (aE a8 (aE a8 (aE a8 (aB 1) (eC (.str ("ranks" : Str)))) (aB 2)) (aB 3)) (aB 4)) aD)))))
def iR (k : bM) : MF := bI (FA k) EH
def DN : List Str := [("_law_model_here" : Str), ("_law_rank_here" : Str), ("_law_whole" : Str)]
def D8 (k : bM) : MS :=
 (aK (aX (aE cB (aE mulM (aE cB (aE a8 (aB 0) (eC (.str ("bears" : Str)))) (eC (.int 1))) (aE a8 (aB 0) (eC (.str ("every" : Str))))) (aE a8 (aB 0) (eC (.str ("slow" : Str))))) (a7 2))
 (bB (aE cB (aB 2) (aE mulM (aE a8 (aB 0) (eC (.str ("gap" : Str)))) (aE kP (eC (.int 12)) (aB 1))))))
def vK (k : bM) : MF := bI (D8 k) DN
def BS : List Str := [("_law_model_here" : Str), ("_law_world_here" : Str), ("_law_a" : Str), ("_law_h" : Str)]
def BY (k : bM) : MS :=
 (bB (eNew (aA (eC (.str ("waits" : Str))) (aA (aE cB (aJ (vK k) 2 aN (aA (aB 0) (aA (aJ (iR k) 4 aN (aA (aB 0) (aA (aB 1) (aA (aB 2) (aA (aB 3) aD))))) aD))) (aE a8 (aB 0) (eC (.str ("hold" : Str))))) aD))))
def nG (k : bM) : MF := bI (BY k) BS
def rV : List Str := [("_law_lots" : Str), ("_law_one" : Str)]
def r6 (k : bM) : MS :=
 (bB (aS X7 (aA (bR (dP (aB 0)) [1] (a7 1) cF (bA (aA (nW kX (aB 1) c8 (cQ (eC (.int 3)))) (aA (aE a8 (aB 1) (eC (.int 3))) aD)))) aD)))
def rZ (k : bM) : MF := bI (r6 k) rV
def B4 : List Str := [("_law_world_here" : Str), ("_law_host" : Str), ("_law_a" : Str), ("_law_told" : Str), ("_law_many" : Str), ("_law_good" : Str)]
def A4 (k : bM) : MS :=
 (aK (aX (aE a8 (aE a8 (aE a8 (aB 0) (eC (.str ("tables" : Str)))) (aB 1)) (aB 2)) (a7 3))
 (aK (aX (aS dI (aA (aE a8 (aB 0) (eC (.str ("living" : Str)))) aD)) (a7 4))
 (aK (aX (gP (aE QW (aB 3) (eC (.int 0))) (aE eR (aE a8 (aE a8 (aB 0) (eC (.str ("parts" : Str)))) (aB 3)) (aE a8 (aE a8 (aB 0) (eC (.str ("parts" : Str)))) (aE cB (aB 4) (aB 1))))) (a7 5))
 (aK (aX (gP (aB 5) (aE eR (aE a8 (aE a8 (aE a8 (aE a8 (aB 0) (eC (.str ("stands" : Str)))) (aB 2)) (aB 3)) (eC (.int 0))) (eC (.str ("serves" : Str))))) (a7 5))
 (aX (eNew (aA (aE cB (aE a8 (aE a8 (aE a8 (aB 0) (eC (.str ("asks" : Str)))) (aB 1)) (eC (.int 0))) (eC (.int 1))) (aA (aE cB (aE a8 (aE a8 (aE a8 (aB 0) (eC (.str ("asks" : Str)))) (aB 1)) (eC (.int 1))) (aS K6 (aA (sT notM (aB 5)) aD))) aD))) (dC (aE a8 (aB 0) (eC (.str ("asks" : Str)))) (aB 1)))))))
def AQ (k : bM) : MF := bI (A4 k) B4
def CP : List Str := [("_law_world_here" : Str), ("_law_h" : Str), ("_law_news" : Str), ("_law_a" : Str), ("_law_row" : Str)]
def A3 (k : bM) : MS :=
 (aK (aX (eC (.int 0)) (dC (aE a8 (aB 0) (eC (.str ("living" : Str)))) (aB 1)))
 (fY (dS vC (aA (aE a8 (aB 0) (eC (.str ("stands" : Str)))) aD)) (cC 2 (aI (a7 3) (aI (a7 4) bZ))) (aK (aX (eNew (aA (eC (.str ("rests" : Str))) (aA (eC (.int 0)) aD))) (dC (aB 4) (aB 1)))
 (cX (c5 "list" cU (aB 2) (aA (bA (aA (aB 3) (aA (aB 1) (aA (eC (.str ("rests" : Str))) aD)))) aD))))))
def CM (k : bM) : MF := bI (A3 k) CP
def EF : List Str := [("_law_world_here" : Str), ("_law_a" : Str), ("_law_s" : Str), ("_law_rank_here" : Str), ("_law_lots" : Str), ("_law_r" : Str), ("_law_fate" : Str)]
def DJ (k : bM) : MS :=
 (fY (dS hE (aA (aS dI (aA (aE a8 (aB 0) (eC (.str ("parts" : Str)))) aD)) aD)) (a7 5) (dN (gC (bG (aE p7 (aB 5) (aB 2))) (gC (bG (aE eR (aE a8 (aE a8 (aB 0) (eC (.str ("parts" : Str)))) (aB 5)) (aE a8 (aE a8 (aB 0) (eC (.str ("parts" : Str)))) (aB 2)))) (bG (aE p7 (nW kX (aE a8 (aB 0) (eC (.str ("living" : Str)))) (cQ (aB 5)) (cQ (aE cB (aB 5) (eC (.int 1))))) (hY (aA (eC (.int 0)) aD)))))) (aK (aX (c5 "dict" getM (aB 4) (aA (bA (aA (aB 1) (aA (aB 2) (aA (aB 5) aD)))) (aA (eC (.int 1)) aD))) (a7 6))
 (aK (aX (UC (bG (aE eR (aB 6) (eC (.int 0)))) (aE cB (c5 "dict" getM (aE a8 (aB 0) (eC (.str ("lacks" : Str)))) (aA (bA (aA (aB 1) (aA (aB 2) (aA (aB 5) aD)))) (aA (eC (.int 0)) aD))) (eC (.int 1))) (eC (.int 0))) (dC (aE a8 (aB 0) (eC (.str ("lacks" : Str)))) (bA (aA (aB 1) (aA (aB 2) (aA (aB 5) aD))))))
 (aK (cX (c5 "list" cU (aE a8 (aB 0) (eC (.str ("sent" : Str)))) (aA (bA (aA (aB 1) (aA (aB 2) (aA (aB 5) aD)))) aD)))
 (dN (bG (aE JM (aB 6) (eC (.int 0)))) (cX (c5 "list" cU (aE a8 (aB 0) (eC (.str ("under" : Str)))) (aA (bA (aA (aB 6) (aA (aB 1) (aA (aB 2) (aA (aB 5) (aA (aB 3) aD)))))) aD))) a9)))) a9))
def u4 (k : bM) : MF := bI (DJ k) EF
def yV : List Str := [("_law_model_here" : Str), ("_law_world_here" : Str), ("_law_deed_here" : Str), ("_law_word" : Str), ("_law_rest" : Str), ("_law_many" : Str), ("_law_old" : Str), ("_law_a" : Str), ("_law_row" : Str), ("_law_h" : Str), ("_law_stand" : Str), ("_law_tie" : Str)]
def yX (k : bM) : MS :=
 (aK (aX (bA (aA (aE a8 (aB 2) (eC (.int 0))) (aA (nW kX (aB 2) (cQ (eC (.int 1))) c8) aD))) (cC 2 (aI (a7 3) (aI (a7 4) bZ))))
 (aK (aX (aS dI (aA (aE a8 (aB 1) (eC (.str ("living" : Str)))) aD)) (a7 5))
 (aK (aX (bR (dS hE (aA (aS dI (aA (aE a8 (aB 0) (eC (.str ("ranks" : Str)))) aD)) aD)) [7] (a7 7) cF (bR (dS hE (aA (aB 5) aD)) [9] (a7 9) cF (aJ (iR k) 4 aN (aA (aB 0) (aA (aB 1) (aA (aB 7) (aA (aB 9) aD))))))) (a7 6))
 (aK (dN (bG (aE eR (aB 3) (eC (.str ("down" : Str))))) (cX (c5 "list" cU (aE a8 (aB 1) (eC (.str ("downs" : Str)))) (aA (aE a8 (aB 4) (eC (.int 0))) aD))) a9)
 (aK (dN (bG (aE eR (aB 3) (eC (.str ("up" : Str))))) (aX (GZ (dP (aE a8 (aB 1) (eC (.str ("downs" : Str))))) [11] (a7 11) (bG (aE p7 (aB 11) (aE a8 (aB 4) (eC (.int 0))))) (aB 11)) (dC (aB 1) (eC (.str ("downs" : Str))))) a9)
 (aK (dN (bG (aE eR (aB 3) (eC (.str ("rank" : Str))))) (aX (aE a8 (aB 4) (eC (.int 2))) (dC (aE a8 (aE a8 (aB 1) (eC (.str ("ranks" : Str)))) (aE a8 (aB 4) (eC (.int 0)))) (aE a8 (aB 4) (eC (.int 1))))) a9)
 (fY (dS vC (aA (aE a8 (aB 1) (eC (.str ("stands" : Str)))) aD)) (cC 2 (aI (a7 7) (aI (a7 8) bZ))) (fY (dS vC (aA (aB 8) aD)) (cC 2 (aI (a7 9) (aI (a7 10) bZ))) (dN (gC (bG (aE eR (aE a8 (aB 10) (eC (.int 0))) (eC (.str ("waits" : Str))))) (bG (aE JM (aJ (iR k) 4 aN (aA (aB 0) (aA (aB 1) (aA (aB 7) (aA (aB 9) aD))))) (aE a8 (aE a8 (aB 6) (aB 7)) (aB 9))))) (aX (aS max2 (aA (aE a8 (aB 10) (eC (.int 1))) (aA (aE a8 (aJ (nG k) 4 aN (aA (aB 0) (aA (aB 1) (aA (aB 7) (aA (aB 9) aD))))) (eC (.int 1))) aD))) (dC (aB 10) (eC (.int 1)))) a9)))))))))
def yZ (k : bM) : MF := bI (yX k) yV
def FJ : List Str := [("_law_model_here" : Str), ("_law_world_here" : Str), ("_law_deed_here" : Str), ("_law_lots" : Str), ("_law_news" : Str), ("_law_word" : Str), ("_law_rest" : Str), ("_law_a" : Str), ("_law_row" : Str), ("_law_many" : Str), ("_law_there" : Str), ("_law_host" : Str), ("_law_k" : Str)]
def EX (k : bM) : MS :=
 (aK (NZ 5 6 (aA (aE a8 (aB 2) (eC (.int 0))) (aA (nW kX (aB 2) (cQ (eC (.int 1))) c8) aD)))
 (aK (dN (bG (aE eR (aB 5) (eC (.str ("stop" : Str))))) (fY (dS vC (aA (aE a8 (aB 1) (eC (.str ("stands" : Str)))) aD)) (cC 2 (aI (a7 7) (aI (a7 8) bZ))) (dN (bG (aE eR (aE a8 (aE a8 (aB 8) (aE a8 (aB 6) (eC (.int 0)))) (eC (.int 0))) (eC (.str ("serves" : Str))))) (cX (aJ (u4 k) 5 aN (aA (aB 1) (aA (aB 7) (aA (aE a8 (aB 6) (eC (.int 0))) (aA (eC (.int 0)) (aA (aB 3) aD))))))) a9)) a9)
 (aK (dN (bG (aE L1 (aB 5) (bA (aA (eC (.str ("stop" : Str))) (aA (eC (.str ("fall" : Str))) aD))))) (cX (aJ (CM k) 3 aN (aA (aB 1) (aA (aE a8 (aB 6) (eC (.int 0))) (aA (aB 4) aD))))) a9)
 (aK (dN (bG (aE eR (aB 5) (eC (.str ("rise" : Str))))) (aK (aX (eC (.int 1)) (dC (aE a8 (aB 1) (eC (.str ("living" : Str)))) (aE a8 (aB 6) (eC (.int 0)))))
 (fY (dS vC (aA (aE a8 (aB 1) (eC (.str ("stands" : Str)))) aD)) (cC 2 (aI (a7 7) (aI (a7 8) bZ))) (aX (aJ (nG k) 4 aN (aA (aB 0) (aA (aB 1) (aA (aB 7) (aA (aE a8 (aB 6) (eC (.int 0))) aD))))) (dC (aB 8) (aE a8 (aB 6) (eC (.int 0))))))) a9)
 (aK (dN (bG (aE L1 (aB 5) (bA (aA (eC (.str ("down" : Str))) (aA (eC (.str ("up" : Str))) (aA (eC (.str ("rank" : Str))) aD)))))) (cX (aJ (yZ k) 3 aN (aA (aB 0) (aA (aB 1) (aA (aB 2) aD))))) a9)
 (aK (dN (bG (aE L1 (aB 5) (bA (aA (eC (.str ("tear" : Str))) (aA (eC (.str ("heal" : Str))) aD))))) (aK (aX (aS dI (aA (aE a8 (aB 1) (eC (.str ("living" : Str)))) aD)) (a7 9))
 (aK (aX (UC (bG (aE eR (aB 5) (eC (.str ("tear" : Str))))) (aE cB (aS xN (aA (aE a8 (aB 6) (eC (.int 0))) aD)) (bR (dP (aE a8 (aB 6) (eC (.int 1)))) [11] (a7 11) cF (aE cB (aB 9) (aB 11)))) (hY aD)) (a7 10))
 (aX (GZ (dS hE (aA (aS dI (aA (aE a8 (aB 1) (eC (.str ("parts" : Str)))) aD)) aD)) [12] (a7 12) cF (aS K6 (aA (aE L1 (aB 12) (aB 10)) aD))) (dC (aB 1) (eC (.str ("parts" : Str))))))) a9)
 (dN (bG (aE eR (aB 5) (eC (.str ("ask" : Str))))) (cX (aJ (AQ k) 3 aN (aA (aB 1) (aA (aE a8 (aB 6) (eC (.int 0))) (aA (aE a8 (aB 6) (eC (.int 1))) aD))))) a9)))))))
def DB (k : bM) : MF := bI (EX k) FJ
def BW : List Str := [("_law_model_here" : Str), ("_law_world_here" : Str), ("_law_many" : Str), ("_law_receivers" : Str), ("_law_lacks" : Str), ("_law_a" : Str), ("_law_rows" : Str), ("_law_stands" : Str), ("_law_ranks" : Str), ("_law_tables" : Str), ("_law_asks" : Str), ("_law_parts" : Str), ("_law_downs" : Str), ("_law_s" : Str), ("_law_r" : Str), ("_law_row" : Str), ("_law_stand" : Str)]
def B6 (k : bM) : MS :=
 (aK (aX (bA (aA (aS dI (aA (aE a8 (aB 1) (eC (.str ("living" : Str)))) aD)) (aA (aS dI (aA (aE a8 (aB 1) (eC (.str ("parts" : Str)))) aD)) aD))) (cC 2 (aI (a7 2) (aI (a7 3) bZ))))
 (aK (aX (eNew aD) (a7 4))
 (aK (fY (dS hE (aA (aS dI (aA (aE a8 (aB 0) (eC (.str ("ranks" : Str)))) aD)) aD)) (a7 5) (aK (aX (bR (dS hE (aA (aB 2) aD)) [13] (a7 13) cF (aS dM (aA (bR (dS hE (aA (aB 3) aD)) [14] (a7 14) cF (c5 "dict" getM (aE a8 (aB 1) (eC (.str ("lacks" : Str)))) (aA (bA (aA (aB 5) (aA (aB 13) (aA (aB 14) aD)))) (aA (eC (.int 0)) aD)))) aD))) (a7 6))
 (cX (c5 "list" cU (aB 4) (aA (aS dM (aA (aB 6) aD)) aD)))))
 (aK (aX (aS dM (aA (bR (dP (aE a8 (aB 1) (eC (.str ("stands" : Str))))) [15] (a7 15) cF (aS dM (aA (bR (dP (aB 15)) [16] (a7 16) cF (aS dM (aA (aB 16) aD))) aD))) aD)) (a7 7))
 (aK (aX (aS dM (aA (bR (dP (aE a8 (aB 1) (eC (.str ("ranks" : Str))))) [15] (a7 15) cF (aS dM (aA (aB 15) aD))) aD)) (a7 8))
 (aK (NZ 9 10 (aA (aS dM (aA (bR (dP (aE a8 (aB 1) (eC (.str ("tables" : Str))))) [15] (a7 15) cF (aS dM (aA (aB 15) aD))) aD)) (aA (aS dM (aA (bR (dP (aE a8 (aB 1) (eC (.str ("asks" : Str))))) [15] (a7 15) cF (aS dM (aA (aB 15) aD))) aD)) aD)))
 (aK (NZ 11 12 (aA (aS dM (aA (aE a8 (aB 1) (eC (.str ("parts" : Str)))) aD)) (aA (aS dM (aA (aS JB (aA (aE a8 (aB 1) (eC (.str ("downs" : Str)))) aD)) aD)) aD)))
 (bB (bA (aA (aS dM (aA (aE a8 (aB 1) (eC (.str ("living" : Str)))) aD)) (aA (aB 11) (aA (aB 12) (aA (aB 8) (aA (aB 7) (aA (aS dM (aA (aE a8 (aB 1) (eC (.str ("under" : Str)))) aD)) (aA (aS dM (aA (aB 4) aD)) (aA (aB 9) (aA (aB 10) aD))))))))))))))))))
def rM (k : bM) : MF := bI (B6 k) BW
end Lw
namespace Lb
open PySem PySem.Spec PyProof.Rows L2 Pc
section
variable {w : W} {P : D → W → Prop} {PS : Sg → W → Prop} {PI : lA → W → Prop} {σ : Sg} {k : bM} {p h : Nat} {m : Mo} {b : Int} {s : E2}
theorem QM {n : Nat} {r : HV} {xs : List D} : T (sO n r (.tup xs) σ w) PS = ((n ≤ xs.length ∧ xs.length ≤ sizeLine) ∧ T (r (xs.take n ++ [.lst (xs.drop n)]) σ w) PS) := by simp only [sO, qT, cY]
end
def QV (s : E2) (a h : Nat) : Role × Int := ((s.dJ[a]?).getD []).getD h (.rests, 0)
inductive M6 where
 | K8 | stop | rise | down | up | rank | GV | H7 | ask
deriving DecidableEq
def M6.s : M6 → Str
 | .K8 => "fall" | .stop => "stop" | .rise => "rise" | .down => "down" | .up => "up" | .rank => "rank" | .GV => "tear" | .H7 => "heal" | .ask => "ask"
inductive vY where
 | down (t : Int) | up (t : Int) | rank (a c : Nat) (r : Int) | GV (hs cs : List Int) | H7 | ask (c a : Nat)
 | K8 (c : Nat) | stop (c : Nat) | rise (c : Nat)
def vY.word : vY → M6
 | .down _ => .down | .up _ => .up | .rank .. => .rank | .GV .. => .GV | .H7 => .H7 | .ask .. => .ask | .K8 _ => .K8 | .stop _ => .stop | .rise _ => .rise
def vY.args : vY → List D
 | .down t => [.int t] | .up t => [.int t] | .rank a c r => [.int (a : Nat), .int (c : Nat), .int r] | .GV hs cs => [CN hs, CN cs] | .H7 => [] | .ask c a => [.int (c : Nat), .int (a : Nat)]
 | .K8 c => [.int (c : Nat)] | .stop c => [.int (c : Nat)] | .rise c => [.int (c : Nat)]
section
variable {w : W} {P : D → W → Prop} {PL : List (List Key × D) → W → Prop} {σ : Sg} {k : bM} {tS : Addr} {p h : Nat} {m : Mo} {b : Int} {s : E2}
def M6.size : M6 → Int
 | .rank => 3
 | .GV => 2
 | .H7 => 0
 | .ask => 2
 | _ => 1
def N1 (n : Int) (xs : List Int) : Prop := (∀ x ∈ xs, 0 ≤ x ∧ x ≤ n - 1) ∧ xs.Pairwise (· < ·)
def Fits (m : Mo) (h : Nat) : vY → Prop
 | .down t => (0 ≤ t ∧ t ≤ 9) ∧ t ∈ m.M8.map fun t => t.2.1
 | .up t => (0 ≤ t ∧ t ≤ 9) ∧ t ∈ m.M8.map fun t => t.2.1
 | .rank a c r => a < m.eN.length ∧ c < h ∧ 1 ≤ r ∧ r ≤ 12
 | .GV hs cs => (N1 h hs ∧ N1 m.nM cs) ∧ (hs.length ≤ 100 ∧ cs.length ≤ 100) ∧ 0 < hs.length ∧ hs.length < h
 | .H7 => True
 | .ask c a => (c : Int) < m.nM ∧ a < m.eN.length
 | .K8 c => c < h
 | .stop c => c < h
 | .rise c => c < h
end
end Lb
namespace Lw
open PySem PySem.Spec PyProof.Rows L2 Pc Lb
inductive nT where
 | dict | living | parts | downs | under | uX | eN | dJ | tables | asks | DO
 | N0 (a : Nat) | H8 (a : Nat) | FC (a c : Nat) | OP (c : Nat) | ask (c : Nat)
deriving DecidableEq
abbrev x4 := nT → Nat
abbrev Con := nT → Option MO
def j4 {α : Type} (f : nT → α) (l : nT) (x : α) : nT → α := fun q => if q = l then x else f q
theorem k8 {α : Type} {f : nT → α} {l : nT} {x : α} : j4 f l x l = x := if_pos rfl
theorem eJ {α : Type} {f : nT → α} {l q : nT} {x : α} (h : q ≠ l) : j4 f l x q = f q := if_neg h
def QR (S : nT → Bool) (C : Con) : Con := fun l => if S l then C l else none
def qK (n : Nat) (w : W) (A : x4) (C : Con) : Prop := ∀ l o, C l = some o → n ≤ A l ∧ w[A l]? = some o ∧ ∀ l' o', C l' = some o' → A l' = A l → l' = l
section
variable {n : Nat} {w w' : W} {A A' : x4} {C C' : Con} {l : nT} {o : MO}
theorem qK.get (h : qK n w A C) (e : C l = some o) : w[A l]? = some o := (h l o e).2.1
theorem qK.lt (h : qK n w A C) (e : C l = some o) : A l < w.length := (aj.mp (h.get e)).1
theorem qK.keep (h : qK n w A C) (hk : ∀ i, n ≤ i → i < w.length → w'[i]? = w[i]?) : qK n w' A C := fun l o e =>
 ⟨(h l o e).1, by rw [hk _ (h l o e).1 (h.lt e)]; exact h.get e, (h l o e).2.2⟩
theorem qK.set (h : qK n w A C) (e : C l = some o) (o1 : MO) : qK n (w.set (A l) o1) A (j4 C l (some o1)) := fun q u eq => by
 have inj : ∀ l' o', j4 C l (some o1) l' = some o' → ∃ o2, C l' = some o2 := fun l' o' e' => by
  by_cases c : l' = l
  ·subst c; exact ⟨o, e⟩
  ·rw [eJ c] at e'; exact ⟨o', e'⟩
 obtain ⟨u2, e2⟩ := inj q u eq
 refine ⟨(h q u2 e2).1, ?_, fun l' o' e' ea => ?_⟩
 ·by_cases c : q = l
  ·subst c
   rw [k8] at eq
   cases eq
   rw [bt (h.lt e)]
  ·rw [eJ c] at eq
   rw [au (fun x => c ((h l o e).2.2 q u2 e2 x.symm))]
   exact h.get eq
 ·obtain ⟨o3, e3⟩ := inj l' o' e'
  exact (h q u2 e2).2.2 l' o3 e3 ea
theorem qK.new (h : qK n w A C) (hk : ∀ i, n ≤ i → i < w.length → w'[i]? = w[i]?) {r : Nat} (h1 : w.length ≤ r) (h0 : n ≤ w.length) (e : w'[r]? = some o) (l : nT) : qK n w' (j4 A l r) (j4 C l (some o)) := fun q u eq => by
 by_cases c : q = l
 ·subst c
  rw [k8] at eq ⊢
  cases eq
  refine ⟨bw h0 h1, e, fun l' o' e' ea => ?_⟩
  by_cases c' : l' = q
  ·exact c'
  ·rw [eJ c'] at e' ea
   have := h.lt e'
   omega
 ·rw [eJ c] at eq ⊢
  refine ⟨(h q u eq).1, by rw [hk _ (h q u eq).1 (h.lt eq)]; exact h.get eq, fun l' o' e' ea => ?_⟩
  by_cases c' : l' = l
  ·subst c'
   rw [k8] at ea
   have := h.lt eq
   omega
  ·rw [eJ c'] at e' ea
   exact (h q u eq).2.2 l' o' e' ea
theorem qK.add (h : qK n w A C) (h0 : n ≤ w.length) (l : nT) (o : MO) : qK n (w ++ [o]) (j4 A l w.length) (j4 C l (some o)) :=
 h.new (fun i _ hl => az hl) (ay _) h0 (by rw [bh (ay _)]; simp) l
theorem qK.sub (h : qK n w A C) (hs : ∀ l o, C' l = some o → C l = some o ∧ A' l = A l) : qK n w A' C' := fun l o e => by
 obtain ⟨e1, e2⟩ := hs l o e
 rw [e2]
 refine ⟨(h l o e1).1, h.get e1, fun l' o' e' ea => ?_⟩
 obtain ⟨e3, e4⟩ := hs l' o' e'
 rw [e4] at ea
 exact (h l o e1).2.2 l' o' e3 ea
theorem qK.nil : qK n w A fun _ => none := fun l o e => nomatch e
end
structure Wx where
 s : E2
 lk : List (List Key × D)
 DO : List D
def CV (A : x4) : List (Key × D) := [(.inr "living", .ref (A .living)), (.inr "parts", .ref (A .parts)), (.inr "downs", .ref (A .downs)), (.inr "under", .ref (A .under)), (.inr "lacks", .ref (A .uX)),
 (.inr "ranks", .ref (A .eN)), (.inr "stands", .ref (A .dJ)), (.inr "tables", .ref (A .tables)), (.inr "asks", .ref (A .asks)), (.inr "sent", .ref (A .DO))]
def eS (A : x4) (g : Nat → nT) (k : Nat) : List D := (List.range k).map fun i => .ref (A (g i))
def ER (xs : List Int) : MO := .lst (xs.map D.int)
def XM (q : Role × Int) : MO := .lst [.str q.1.s, .int q.2]
def ZM (q : Int × Int) : MO := .lst [.int q.1, .int q.2]
def cont (A : x4) (x : Wx) : Con
 | .dict => some (.dK (CV A))
 | .living => some (ER x.s.living)
 | .parts => some (ER x.s.parts)
 | .downs => some (ER x.s.downs)
 | .under => some (.lst (x.s.wA.map TK))
 | .uX => some (.dT x.lk)
 | .eN => some (.lst (eS A .N0 x.s.eN.length))
 | .dJ => some (.lst (eS A .H8 x.s.dJ.length))
 | .tables => some (.lst (eS A .OP x.s.tables.length))
 | .asks => some (.lst (eS A .ask x.s.asks.length))
 | .DO => some (.lst x.DO)
 | .N0 a => x.s.eN[a]?.map ER
 | .H8 a => x.s.dJ[a]?.map fun r => .lst (eS A (.FC a) r.length)
 | .FC a c => (x.s.dJ[a]?.bind (·[c]?)).map XM
 | .OP c => x.s.tables[c]?.map ER
 | .ask c => x.s.asks[c]?.map ZM
def World (n : Nat) (w : W) (A : x4) (x : Wx) : Prop := qK n w A (cont A x)
section
variable {n : Nat} {w w' : W} {A A' : x4} {x x' : Wx} {P : D → W → Prop} {PU : Unit → W → Prop} {l : nT} {o o1 : MO}
theorem World.set (h : World n w A x) (e : cont A x l = some o) (o1 : MO) (hc : ∀ q, cont A x' q = j4 (cont A x) l (some o1) q) : World n (w.set (A l) o1) A x' := by
 unfold World
 rw [funext hc]
 exact qK.set h e o1
theorem KW {g : Nat → nT} {k i v : Nat} (inj : ∀ i j, g i = g j → i = j) : (eS A g k).set i (.ref v) = eS (j4 A (g i) v) g k := by
 refine List.ext_getElem? fun j => ?_
 rw [List.getElem?_set]
 unfold eS
 by_cases c : i = j
 ·subst c
  rw [if_pos rfl]
  by_cases h : i < k
  ·simp [h, k8]
  ·simp [h]
 ·rw [if_neg c]
  simp only [bx]
  cases e : (List.range k)[j]? with
  | none => rfl
  | some y =>
   have : y = j := by
    have := aj.mp e
    obtain ⟨_, h⟩ := this
    rw [List.getElem_range] at h
    exact h.symm
   subst this
   simp only [Option.map_some]
   rw [eJ (fun z => c (inj _ _ z).symm)]
end
open PySem.W (dataLe)
section
variable {n : Nat} {w w' : W} {A A' : x4} {x x' : Wx} {P : D → W → Prop} {PU : Unit → W → Prop} {l : nT} {o o1 : MO} {k : bM} {i h : Nat} {m : Mo} {b : Int}
def JN (w : W) (i : Nat) (m : Mo) : Prop := w[i]? = some (.dK m.kvs)
end
def YK (lk : List (List Key × D)) : Prop := ∀ ks d, fM lk ks = some d → ∃ i, d = .int i
section
variable {n : Nat} {w w' : W} {A A' : x4} {C : Con} {x x' : Wx} {σ : Sg} {P : D → W → Prop} {PL : List D → W → Prop} {PF : Fl → W → Prop} {PU : Unit → W → Prop} {PI : lA → W → Prop} {l : nT} {o1 : MO} {k : bM} {i h : Nat} {m : Mo} {b : Int}
theorem qK.bind {S : nT → Bool} (h : qK n w A (QR S (cont A x))) (hS : S .dict = true) (hn : n ≤ w.length) (hl : l ≠ .dict) (hc : cont (j4 A l w.length) x' l = some o1)
  (hr : ∀ q, q ≠ .dict → q ≠ l → S q = true → cont (j4 A l w.length) x' q = cont A x q) :
  qK n ((w ++ [o1]).set (A .dict) (.dK (CV (j4 A l w.length)))) (j4 A l w.length) (QR (fun q => S q || q == l) (cont (j4 A l w.length) x')) := by
 have h1 := h.add hn l o1
 have e : j4 (QR S (cont A x)) l (some o1) .dict = some (.dK (CV A)) := by
  rw [eJ hl.symm, QR, hS]
  rfl
 have h3 := h1.set e (.dK (CV (j4 A l w.length)))
 rw [eJ hl.symm] at h3
 refine h3.sub fun q o e => ⟨?_, rfl⟩
 replace e : (if (S q || q == l) = true then cont (j4 A l w.length) x' q else none) = some o := e
 by_cases c : q = .dict
 ·subst c
  rw [k8]
  rw [hS] at e
  exact e
 ·rw [eJ c]
  by_cases c2 : q = l
  ·subst c2
   rw [k8]
   simp only [beq_self_eq_true, Bool.or_true, ae] at e
   rw [← hc]
   exact e
  ·rw [eJ c2]
   unfold QR
   have c3 : (q == l) = false := by simpa using c2
   rw [c3, Bool.or_false] at e
   cases s : S q with
   | false => rw [s] at e; exact nomatch e
   | true =>
    rw [s] at e
    simp only [ae] at e ⊢
    rw [← hr q c c2 s]
    exact e
end
def nT.top : nT → Bool
 | .living => true | .parts => true | .downs => true | .under => true | .uX => true | .eN => true | .dJ => true | .tables => true | .asks => true | .DO => true
 | _ => false
def dep : nT → nT → Prop
 | .dict, q => q.top = true
 | .eN, q => ∃ a, q = .N0 a
 | .dJ, q => ∃ a, q = .H8 a
 | .tables, q => ∃ a, q = .OP a
 | .asks, q => ∃ a, q = .ask a
 | .H8 a, q => ∃ c, q = .FC a c
 | _, _ => False
theorem iU {A A' : x4} {g : Nat → nT} {k : Nat} (h : ∀ i, A (g i) = A' (g i)) : eS A g k = eS A' g k := by
 unfold eS
 exact List.map_congr_left fun i _ => by rw [h i]
theorem HC {A A' : x4} {x : Wx} {l : nT} (h : ∀ q, dep l q → A q = A' q) : cont A x l = cont A' x l := by
 cases l with
 | dict =>
  show some (MO.dK (CV A)) = some (MO.dK (CV A'))
  unfold CV
  rw [h .living rfl, h .parts rfl, h .downs rfl, h .under rfl, h .uX rfl, h .eN rfl, h .dJ rfl, h .tables rfl, h .asks rfl, h .DO rfl]
 | eN =>
  show some (MO.lst (eS A .N0 x.s.eN.length)) = some (MO.lst (eS A' .N0 x.s.eN.length))
  rw [iU fun i => h _ ⟨i, rfl⟩]
 | dJ =>
  show some (MO.lst (eS A .H8 x.s.dJ.length)) = some (MO.lst (eS A' .H8 x.s.dJ.length))
  rw [iU fun i => h _ ⟨i, rfl⟩]
 | tables =>
  show some (MO.lst (eS A .OP x.s.tables.length)) = some (MO.lst (eS A' .OP x.s.tables.length))
  rw [iU fun i => h _ ⟨i, rfl⟩]
 | asks =>
  show some (MO.lst (eS A .ask x.s.asks.length)) = some (MO.lst (eS A' .ask x.s.asks.length))
  rw [iU fun i => h _ ⟨i, rfl⟩]
 | H8 a =>
  show x.s.dJ[a]?.map (fun r => MO.lst (eS A (.FC a) r.length)) = x.s.dJ[a]?.map (fun r => MO.lst (eS A' (.FC a) r.length))
  congr 1
  funext r
  rw [iU fun i => h _ ⟨i, rfl⟩]
 | _ => rfl
section
variable {n : Nat} {w w' w0 : W} {A A' A1 : x4} {C : Con} {x x' : Wx} {σ : Sg} {P : D → W → Prop} {PL : List D → W → Prop} {PF : Fl → W → Prop} {PU : Unit → W → Prop} {PI : lA → W → Prop} {l : nT} {o1 : MO} {k : bM} {i h : Nat} {m : Mo} {b : Int}
theorem M3 {v : Nat} {q : nT} (ht : l.top = true) (hq : q ≠ .dict) : cont (j4 A l v) x q = cont A x q := HC fun r d => eJ fun e => by
 subst e
 cases q <;> simp only [dep] at d
 case dict => exact hq rfl
 all_goals
  obtain ⟨a, rfl⟩ := d
  exact nomatch ht
end
section
variable {n : Nat} {w w' w0 : W} {A A' A1 : x4} {C : Con} {x x' : Wx} {σ : Sg} {P : D → W → Prop} {PL : List D → W → Prop} {PF : Fl → W → Prop} {PU : Unit → W → Prop} {PI : lA → W → Prop} {l : nT} {o1 : MO} {k : bM} {i h : Nat} {m : Mo} {b : Int}
theorem World.QR (hW : World n w A x) : qK n w A (Lw.QR (fun _ => true) (cont A x)) := hW
theorem World.le (hW : World n w A x) : n ≤ A .dict := (hW .dict _ rfl).1
theorem World.lt (hW : World n w A x) (l : nT) {o : MO} (e : cont A x l = some o) : A l < w.length := qK.lt hW e
theorem World.YB (hW : World n w A x) : n ≤ w.length := by
 have h1 := hW.le
 have h2 := hW.lt .dict rfl
 omega
theorem World.bind (hW : World n w A x) (l : nT) (ht : l.top = true) (hc : ∀ A, cont A x' l = some o1) (hr : ∀ A q, q ≠ .dict → q ≠ l → cont A x' q = cont A x q) :
  World n ((w ++ [o1]).set (A .dict) (.dK (CV (j4 A l w.length)))) (j4 A l w.length) x' := by
 have hl : l ≠ .dict := fun e => by subst e; exact nomatch ht
 have := qK.bind (x' := x') (l := l) (o1 := o1) hW.QR rfl hW.YB hl (hc _) fun q q1 q2 _ => by rw [hr _ q q1 q2, M3 ht q1]
 exact this.sub fun q o e => ⟨by unfold Lw.QR; exact e, rfl⟩
def Apart (A : x4) (x : Wx) (r : Nat) : Prop := ∀ l o, cont A x l = some o → A l ≠ r
theorem World.other (hW : World n w A x) {r : Nat} (ap : Apart A x r) (o : MO) : World n (w.set r o) A x := fun l u e => by
 obtain ⟨h1, h2, h3⟩ := hW l u e
 exact ⟨h1, by rw [au (Ne.symm (ap l u e))]; exact h2, h3⟩
end
section
variable {n : Nat} {w w' w0 : W} {A A' A1 : x4} {C : Con} {x x' : Wx} {σ : Sg} {P : D → W → Prop} {PL : List D → W → Prop} {PF : Fl → W → Prop} {PU : Unit → W → Prop} {PI : lA → W → Prop} {l : nT} {o1 : MO} {k : bM} {tS : Addr} {i h p : Nat} {m : Mo} {b : Int}
theorem RK : T (nK (.bl true) (.bl true) w) P = P (.bl false) w := by
 first | (unfold nK; simp; unfold T; rfl) | (unfold T; rfl)
end
section
variable {n d0 : Nat} {w w' w0 : W} {A A' A1 : x4} {C : Con} {x x' : Wx} {σ : Sg} {P : D → W → Prop} {PL : List D → W → Prop} {PF : Fl → W → Prop} {PU : Unit → W → Prop} {PI : lA → W → Prop} {l : nT} {o o1 u : MO} {k : bM} {tS : Addr} {i h p : Nat} {m : Mo} {b : Int}
theorem Kept.M9 (kk : Pc.Kept w w' 1 0) (h2 : 2 ≤ n) (hW : World n w A x) : World n w' A x := qK.keep hW fun i h1 _ => kk.2 i (by omega) (by omega)
theorem Kept.mod (kk : Pc.Kept w w' 1 0) (i2 : 2 ≤ i) (hM : JN w i m) : JN w' i m := kk.obj hM (by omega) (by omega)
theorem World.row {par : nT} {gl : Nat → nT} {kk c r : Nat} (hW : World n w A x) (hk : ∀ i, n ≤ i → i < w.length → w'[i]? = w[i]?) (hr : w.length ≤ r) (er : w'[r]? = some o) (inj : ∀ i j, gl i = gl j → i = j) (hne : par ≠ gl c)
  (hpar : cont A x par = some (.lst (eS A gl kk))) (hpar' : ∀ A', cont A' x' par = some (.lst (eS A' gl kk))) (hrow : ∀ A', cont A' x' (gl c) = some o) (hoth : ∀ A' q, q ≠ par → q ≠ gl c → (∀ l, l ≠ gl c → A' l = A l) → cont A' x' q = cont A x q) :
  World n (w'.set (A par) (.lst ((eS A gl kk).set c (.ref r)))) (j4 A (gl c) r) x' := by
 have h1 := qK.new hW hk hr hW.YB er (gl c)
 have ee : j4 (cont A x) (gl c) (some o) par = some (.lst (eS A gl kk)) := by rw [eJ hne]; exact hpar
 have h3 := h1.set ee (.lst ((eS A gl kk).set c (.ref r)))
 rw [eJ hne] at h3
 refine h3.sub fun q u e => ⟨?_, rfl⟩
 by_cases c1 : q = par
 ·subst c1
  rw [k8, KW inj]
  rw [hpar'] at e
  exact e
 rw [eJ c1]
 by_cases c2 : q = gl c
 ·subst c2
  rw [k8]
  rw [hrow] at e
  exact e
 rw [eJ c2, ← e]
 exact (hoth _ q c1 c2 fun l hl => eJ hl).symm
end
structure St (n i : Nat) (m : Mo) (w0 w : W) (A : x4) (x : Wx) : Prop where
 ZP : tG w 1 0
 mod : JN w i m
 M9 : World n w A x
 n2 : 2 ≤ n
 i2 : 2 ≤ i
 hi : i < n
 le : w0.length ≤ w.length
 fd : ∀ j, j < n → j ≠ 1 → j ≠ 0 → w[j]? = w0[j]?
section
variable {n d0 : Nat} {w w' w0 : W} {A A' A1 : x4} {C : Con} {x x' : Wx} {σ : Sg} {P : D → W → Prop} {PL : List D → W → Prop} {PF : Fl → W → Prop} {PU : Unit → W → Prop} {PI : lA → W → Prop} {l : nT} {o o1 u : MO} {k : bM} {tS : Addr} {i h p : Nat} {m : Mo} {b : Int}
theorem St.kept (s : St n i m w0 w A x) (d : tG w' 1 0) (kk : Pc.Kept w w' 1 0) : St n i m w0 w' A x :=
 ⟨d, Kept.mod kk s.i2 s.mod, Kept.M9 kk s.n2 s.M9, s.n2, s.i2, s.hi, by rw [kk.1]; exact s.le, fun j h1 h2 h3 => by rw [kk.2 j h2 h3]; exact s.fd j h1 h2 h3⟩
theorem St.set {j : Nat} (s : St n i m w0 w A x) (hj : n ≤ j) (hw : World n (w.set j o) A' x') : St n i m w0 (w.set j o) A' x' :=
 ⟨s.ZP.set (by have := s.n2; omega) (by have := s.n2; omega), by unfold JN; rw [au (by have := s.hi; omega)]; exact s.mod, hw, s.n2, s.i2, s.hi, by rw [List.length_set]; exact s.le, fun j' h1 h2 h3 => by rw [au (by omega)]; exact s.fd j' h1 h2 h3⟩
end
abbrev KL := Nat → Nat → Nat → Int
structure SG where
 a : Nat
 s : Nat
 r : Nat
 rank : Int
section
variable {n : Nat} {w w' : W} {x : Wx} {σ : Sg} {P : D → W → Prop} {PF : Fl → W → Prop} {PU : Unit → W → Prop} {k : bM} {i h p f : Nat} {m : Mo} {b : Int} {s : E2} {ts : List SG} {kv : List (List Key × D)}
theorem x7 {o : MO} : (w ++ [o])[w.length]? = some o := by rw [bh (ay _)]; simp
theorem Y9 {r : Nat} {xs : List D} (e : w[r]? = some (.lst xs)) : M7 (.ref r) w = some "list" := by simp only [M7, e]
end
section
variable {n : Nat} {w w' : W} {x : Wx} {σ : Sg} {P : D → W → Prop} {PF : Fl → W → Prop} {PU : Unit → W → Prop} {k : bM} {i h p f : Nat} {m : Mo} {b : Int} {s : E2} {ts : List SG} {kv : List (List Key × D)}
theorem EZ {κ : Type} [DecidableEq κ] {kvs : List (κ × D)} {ks q : κ} {d : D} : fM (kvs.map fun p => if p.1 = ks then (p.1, d) else p) q = if ks = q then (fM kvs q).map (fun _ => d) else fM kvs q := by
 induction kvs with
 | nil => simp [fM]
 | cons y ys ih =>
  obtain ⟨a, e⟩ := y
  rw [List.map_cons]
  by_cases h1 : a = ks
  ·subst h1
   simp only [ae, fM]
   by_cases h2 : a = q
   ·simp [h2]
   ·simp only [h2, aa]; rw [ih]; simp [h2]
  ·simp only [h1, aa, fM]
   by_cases h2 : a = q
   ·subst h2
    have : ¬ ks = a := fun e => h1 e.symm
    simp [this]
   ·simp only [h2, aa]; exact ih
end
section
variable {n B : Nat} {w w' : W} {x : Wx} {σ : Sg} {P : D → W → Prop} {PF : Fl → W → Prop} {PU : Unit → W → Prop} {PI : lA → W → Prop} {k : bM} {i h p f : Nat} {m : Mo} {b : Int} {s : E2} {ts : List SG} {kv : List (List Key × D)}
theorem nP {xs : List D} : T (iterM (.tup xs) w) PI = PI ⟨xs, always⟩ w := by unfold T; rfl
theorem TH {xs : List D} : T (iterM (.lst xs) w) PI = PI ⟨xs, always⟩ w := by unfold T; rfl
end
def keyD (a c r : Nat) : D := .tup [.int (a : Nat), .int (c : Nat), .int (r : Nat)]
structure nQ (m : Mo) (h B : Nat) (x : Wx) : Prop where
 living : x.s.living.length = h ∧ ∀ v ∈ x.s.living, 0 ≤ v ∧ v ≤ 1
 parts : (x.s.parts.length : Int) = h + m.nM
 dJ : x.s.dJ.length = m.eN.length ∧ ∀ r ∈ x.s.dJ, r.length = h
 lk : YK x.lk
 b1 : x.lk.length ≤ B
 b2 : x.DO.length ≤ B
 b3 : x.s.wA.length ≤ B
section
variable {n d0 B : Nat} {w w' w0 : W} {A A' A1 : x4} {C : Con} {x x' : Wx} {σ : Sg} {P : D → W → Prop} {PL : List D → W → Prop} {PF : Fl → W → Prop} {PU : Unit → W → Prop} {PI : lA → W → Prop} {l : nT} {o o1 u : MO} {k : bM} {i h p f : Nat} {m : Mo} {b : Int} {kv : List (List Key × D)} {fa : KL}
theorem nQ.le (o : MoB m h) (ok : nQ m h B x) : x.s.parts.length ≤ 10 := by
 have h6 := o.eN.h6
 have ho := o.nM
 have := ok.parts
 omega
theorem nQ.mono {B' : Nat} (ok : nQ m h B x) (hB : B ≤ B') : nQ m h B' x := ⟨ok.living, ok.parts, ok.dJ, ok.lk, bw ok.b1 hB, bw ok.b2 hB, bw ok.b3 hB⟩
end
section
variable {n d0 B : Nat} {w w' w0 : W} {A A' A1 : x4} {C : Con} {x x' : Wx} {σ : Sg} {P : D → W → Prop} {PL : List D → W → Prop} {PF : Fl → W → Prop} {PU : Unit → W → Prop} {PI : lA → W → Prop} {l : nT} {o o1 u : MO} {k : bM} {i h p f : Nat} {m : Mo} {b : Int} {kv : List (List Key × D)} {fa : KL}
theorem zipIdx {α β : Type} {f : α → β → α} {ss : Nat → β} : ∀ {xs : List α}, (xs.mapIdx fun a x => if a < xs.length then f x (ss a) else x) = List.zipWith f xs ((List.range xs.length).map ss) := fun {xs} => by
 refine List.ext_getElem? fun j => ?_
 rw [List.getElem?_mapIdx, List.getElem?_zipWith, bx]
 by_cases c : j < xs.length
 ·rw [av c, List.getElem?_range c]
  simp [c]
 ·rw [List.getElem?_eq_none (by omega)]
  rfl
end
structure Bd where
 k : bM
 B : Addr
 S : Addr
def EG : List Str := [("self" : Str), ("address" : Str), ("house" : Str), ("role" : Str), ("rank" : Str), ("receiver" : Str)]
def DG (k : Bd) : MS :=
 (aK (dN (bG (aE eR (aB 3) (eC (.str ("waits" : Str))))) (cX (c5 "list" cU (c6 k.B ("news_told" : Str) (aB 0)) (aA (bA (aA (aB 1) (aA (aB 2) (aA (eC (.str ("serves" : Str))) aD)))) aD))) a9)
 (aK (aX (bA (aA (eC (.str ("serves" : Str))) (aA (c6 k.k.dA ("every" : Str) (c6 k.B ("plan_here" : Str) (aB 0))) aD))) (dC (aE a8 (c6 k.B ("stands_now" : Str) (aB 0)) (aB 1)) (aB 2)))
 (aK (aX (aJ (kQ k.k) 4 aN (aA (c6 k.B ("plan_here" : Str) (aB 0)) (aA (c6 k.B ("state_here" : Str) (aB 0)) (aA (aB 1) (aA (aB 2) aD))))) (a7 4))
 (fY (dP (aJ (o7 k.k) 3 aN (aA (c6 k.B ("plan_here" : Str) (aB 0)) (aA (c6 k.B ("state_here" : Str) (aB 0)) (aA (aB 2) aD))))) (a7 5) (cX (c5 "list" cU (c6 k.B ("letters_sent" : Str) (aB 0)) (aA (bA (aA (aB 1) (aA (aB 2) (aA (aB 5) (aA (aB 4) aD))))) aD)))))))
def C9 (k : Bd) : MF := bI (DG k) EG
def rJ : List Str := [("self" : Str), ("address" : Str), ("row" : Str), ("house" : Str), ("role" : Str), ("clock" : Str)]
def rO (k : Bd) : MS :=
 (fY (dS vC (aA (c6 k.B ("stands_now" : Str) (aB 0)) aD)) (cC 2 (aI (a7 1) (aI (a7 2) bZ))) (fY (dS vC (aA (aS xN (aA (aB 2) aD)) aD)) (cC 2 (aI (a7 3) (aI (cC 2 (aI (a7 4) (aI (a7 5) bZ))) bZ))) (dN (gC (bG (aE p7 (aB 4) (eC (.str ("rests" : Str))))) (bG (aE JM (aB 5) (eC (.int 1))))) (aX (bA (aA (aB 4) (aA (aE kP (aB 5) (eC (.int 1))) aD))) (dC (aB 2) (aB 3))) (dN (bG (aE p7 (aB 4) (eC (.str ("rests" : Str))))) (cX (tX k.B ("send" : Str) (C9 k) 4 aN (aB 0) (aA (aB 1) (aA (aB 3) (aA (aB 4) aD))))) a9))))
def sR (k : Bd) : MF := bI (rO k) rJ
def G1 : List Str := [("one" : Str), ("other" : Str), ("rank" : Str), ("number" : Str), ("other_rank" : Str), ("other_number" : Str)]
def FY (k : Bd) : MS :=
 (aK (aX (aB 0) (cC 2 (aI (a7 2) (aI (a7 3) bZ))))
 (aK (aX (aB 1) (cC 2 (aI (a7 4) (aI (a7 5) bZ))))
 (bB (Y2 (aE JM (aB 2) (aB 4)) (gP (aE eR (aB 2) (aB 4)) (aE FR (aB 3) (aB 5)))))))
def HE (k : Bd) : MF := bI (FY k) G1
def DC : List Str := [("self" : Str), ("address" : Str), ("sender" : Str), ("house" : Str), ("rank" : Str), ("role" : Str), ("clock" : Str), ("own" : Str), ("is_sender_ahead" : Str)]
def C5 (k : Bd) : MS :=
 (aK (aX (aE a8 (aE a8 (c6 k.B ("stands_now" : Str) (aB 0)) (aB 1)) (aB 3)) (cC 2 (aI (a7 5) (aI (a7 6) bZ))))
 (aK (aX (aJ (kQ k.k) 4 aN (aA (c6 k.B ("plan_here" : Str) (aB 0)) (aA (c6 k.B ("state_here" : Str) (aB 0)) (aA (aB 1) (aA (aB 3) aD))))) (a7 7))
 (aK (aX (aJ (HE k) 2 aN (aA (bA (aA (aB 4) (aA (aB 2) aD))) (aA (bA (aA (aB 7) (aA (aB 3) aD))) aD))) (a7 8))
 (dN (bG (aE eR (aB 5) (eC (.str ("serves" : Str))))) (dN (gC (bG (aE JM (aB 4) (eC (.int 0)))) (cV (aB 8))) (aK (aX (bA (aA (eC (.str ("waits" : Str))) (aA (aJ (lR k.k) 4 aN (aA (c6 k.B ("plan_here" : Str) (aB 0)) (aA (c6 k.B ("state_here" : Str) (aB 0)) (aA (aB 1) (aA (aB 3) aD))))) aD))) (dC (aE a8 (c6 k.B ("stands_now" : Str) (aB 0)) (aB 1)) (aB 3)))
 (cX (c5 "list" cU (c6 k.B ("news_told" : Str) (aB 0)) (aA (bA (aA (aB 1) (aA (aB 3) (aA (eC (.str ("yields" : Str))) aD)))) aD)))) a9) (dN (bG (aE eR (aB 4) (eC (.int 0)))) (aX (bA (aA (aB 5) (aA (aS min2 (aA (aB 6) (aA (aJ (LH k.k) 2 aN (aA (c6 k.B ("plan_here" : Str) (aB 0)) (aA (aB 7) aD))) aD))) aD))) (dC (aE a8 (c6 k.B ("stands_now" : Str) (aB 0)) (aB 1)) (aB 3))) (dN (eQ (cV (aB 8)) (cH (cV (c6 k.k.dA ("takes" : Str) (c6 k.B ("plan_here" : Str) (aB 0)))))) (aX (bA (aA (aB 5) (aA (aS max2 (aA (aB 6) (aA (aJ (zP k.k) 2 aN (aA (c6 k.B ("plan_here" : Str) (aB 0)) (aA (aB 7) aD))) aD))) aD))) (dC (aE a8 (c6 k.B ("stands_now" : Str) (aB 0)) (aB 1)) (aB 3))) a9))))))
def EC (k : Bd) : MF := bI (C5 k) DC
def zB : List Str := [("self" : Str), ("address" : Str), ("sender" : Str), ("receiver" : Str), ("rank" : Str), ("living" : Str), ("parts" : Str), ("others" : Str)]
def zE (k : Bd) : MS :=
 (aK (aX (c6 k.B ("state_here" : Str) (aB 0)) (sO 2 (aI (a7 5) (aI (a7 6) (aI (a7 7) bZ)))))
 (aK (dN (bG (aE p7 (aE a8 (aB 6) (aB 2)) (aE a8 (aB 6) (aB 3)))) (bB (eC .non)) a9)
 (dN (bG (aE QW (aB 3) (aS dI (aA (aB 5) aD)))) (dN (bG (aE JM (aB 4) (eC (.int 0)))) (aX (aB 2) (dC (aE a8 (c6 k.B ("tables_now" : Str) (aB 0)) (aE kP (aB 3) (aS dI (aA (aB 5) aD)))) (aB 1))) a9) (dN (bG (aE eR (aE a8 (aB 5) (aB 3)) (eC (.int 1)))) (cX (tX k.B ("hear" : Str) (EC k) 5 aN (aB 0) (aA (aB 1) (aA (aB 2) (aA (aB 3) (aA (aB 4) aD)))))) a9))))
def zA (k : Bd) : MF := bI (zE k) zB
def x8 : List Str := [("self" : Str), ("letter" : Str), ("left" : Str), ("rest" : Str)]
def xJ (k : Bd) : MS :=
 (aK (aX (aB 1) (sO 1 (aI (a7 2) (aI (a7 3) bZ))))
 (dN (bG (aE JM (aB 2) (eC (.int 1)))) (cX (c5 "list" cU (c6 k.B ("still_under_way" : Str) (aB 0)) (aA (aE cB (bA (aA (aE kP (aB 2) (eC (.int 1))) aD)) (aS dM (aA (aB 3) aD))) aD))) (cX (tX k.B ("arrive" : Str) (zA k) 5 aN (aB 0) (aA (aE a8 (aB 3) (eC (.int 0))) (aA (aE a8 (aB 3) (eC (.int 1))) (aA (aE a8 (aB 3) (eC (.int 2))) (aA (aE a8 (aB 3) (eC (.int 3))) aD))))))))
def xD (k : Bd) : MF := bI (xJ k) x8
def FL : List Str := [("self" : Str), ("plan" : Str), ("state" : Str), ("many_old" : Str), ("living" : Str), ("parts" : Str), ("downs" : Str), ("ranks" : Str), ("stands" : Str), ("letters" : Str), ("lacks" : Str), ("tables" : Str), ("asks" : Str), ("letter" : Str), ("row" : Str)]
def EW (k : Bd) : MS :=
 (aK (aX (aB 2) (cC 9 (aI (a7 4) (aI (a7 5) (aI (a7 6) (aI (a7 7) (aI (a7 8) (aI (a7 9) (aI (a7 10) (aI (a7 11) (aI (a7 12) bZ)))))))))))
 (aK (rL k.B ("plan_here" : Str) (aB 0) (aB 1))
 (aK (rL k.B ("state_here" : Str) (aB 0) (aB 2))
 (aK (rL k.B ("stands_now" : Str) (aB 0) (bR (dP (aB 8)) [14] (a7 14) cF (aS yP (aA (aB 14) aD))))
 (aK (rL k.B ("tables_now" : Str) (aB 0) (bR (dP (aB 11)) [14] (a7 14) cF (aS yP (aA (aB 14) aD))))
 (aK (rL k.B ("still_under_way" : Str) (aB 0) (eNew aD))
 (aK (rL k.B ("letters_sent" : Str) (aB 0) (GZ (dP (nW kX (aB 9) (cQ (aB 3)) c8)) [13] (a7 13) cF (nW kX (aB 13) (cQ (eC (.int 1))) c8)))
 (aK (rL k.B ("news_told" : Str) (aB 0) (eNew aD))
 (aK (fY (dP (nW kX (aB 9) c8 (cQ (aB 3)))) (a7 13) (cX (tX k.B ("move_on" : Str) (xD k) 2 aN (aB 0) (aA (aB 13) aD))))
 (cX (tX k.B ("end_clocks" : Str) (sR k) 1 aN (aB 0) aD)))))))))))
def FD (k : Bd) : MF := bI (EW k) FL
def vW : List Str := [("self" : Str), ("lacks" : Str), ("fates" : Str), ("living" : Str), ("parts" : Str), ("downs" : Str), ("ranks" : Str), ("stands" : Str), ("letters" : Str), ("others" : Str), ("tables" : Str), ("asks" : Str), ("row" : Str)]
def vV (k : Bd) : MS :=
 (aK (aX (c6 k.B ("state_here" : Str) (aB 0)) (cC 9 (aI (a7 3) (aI (a7 4) (aI (a7 5) (aI (a7 6) (aI (a7 7) (aI (a7 8) (aI (a7 9) (aI (a7 10) (aI (a7 11) bZ)))))))))))
 (aK (aX (aS dM (aA (bR (dP (c6 k.B ("stands_now" : Str) (aB 0))) [12] (a7 12) cF (aS dM (aA (aB 12) aD))) aD)) (a7 7))
 (aK (aX (aE cB (aS dM (aA (c6 k.B ("still_under_way" : Str) (aB 0)) aD)) (aJ (rS k.k) 2 aN (aA (c6 k.B ("letters_sent" : Str) (aB 0)) (aA (aB 2) aD)))) (a7 8))
 (aK (aX (aS dM (aA (bR (dP (c6 k.B ("tables_now" : Str) (aB 0))) [12] (a7 12) cF (aS dM (aA (aB 12) aD))) aD)) (a7 10))
 (bB (bA (aA (aB 3) (aA (aB 4) (aA (aB 5) (aA (aB 6) (aA (aB 7) (aA (aB 8) (aA (aJ (wO k.k) 3 aN (aA (aB 1) (aA (c6 k.B ("letters_sent" : Str) (aB 0)) (aA (aB 2) aD)))) (aA (aB 10) (aA (aB 11) aD)))))))))))))))
def vU (k : Bd) : MF := bI (vV k) vW
def jY : List Str := [("plan" : Str), ("lacks" : Str), ("sent_here" : Str), ("ahead" : Str), ("thing" : Str), ("address" : Str), ("sender" : Str), ("receiver" : Str), ("fate" : Str), ("part" : Str)]
def mH (k : Bd) : MS :=
 (aK (dN (eQ (cH (cV (aS (fP fX) (aA (aB 4) (aA (eC (.ty "tuple")) aD))))) (eQ (bG (aE p7 (aS dI (aA (aB 4) aD)) (eC (.int 4)))) (cH (cV (aS allM (aA (bR (dP (aB 4)) [9] (a7 9) cF (aJ (gL k.k) 1 aN (aA (aB 9) aD))) aD)))))) (bB (eC (.bl false))) a9)
 (aK (aX (aB 4) (cC 4 (aI (a7 5) (aI (a7 6) (aI (a7 7) (aI (a7 8) bZ))))))
 (aK (dN (eQ (bG (aE N4 (nW kX (aB 4) c8 (cQ (sT uO (eC (.int 1))))) (aB 2))) (gC (bG (aE p7 (aB 3) (bA aD))) (bG (aE leA (nW kX (aB 4) c8 (cQ (sT uO (eC (.int 1))))) (nW kX (aB 3) c8 (cQ (sT uO (eC (.int 1))))))))) (bB (eC (.bl false))) a9)
 (aK (dN (bG (aE eR (aB 8) (eC (.int 0)))) (bB (aE FR (aE a8 (aE a8 (aE a8 (aB 1) (aB 5)) (aB 6)) (aB 7)) (c6 k.k.dA ("lost" : Str) (aB 0)))) a9)
 (bB (Q3 ON ON (eC (.int 1)) (aB 8) (c6 k.k.dA ("slow" : Str) (aB 0))))))))
def j0 (k : Bd) : MF := bI (mH k) jY
def IB : List Str := [("plan" : Str), ("lacks" : Str), ("sent_here" : Str), ("fates" : Str), ("found" : Str), ("ahead" : Str), ("place" : Str), ("thing" : Str)]
def GP (k : Bd) : MS :=
 (aK (aX CS (a7 4))
 (aK (aX (bA aD) (a7 5))
 (aK (fY (dS wN (aA (aB 3) aD)) (cC 2 (aI (a7 6) (aI (a7 7) bZ))) (aK (dN (cH (cV (aJ (j0 k) 5 aN (aA (aB 0) (aA (aB 1) (aA (aB 2) (aA (aB 5) (aA (aB 7) aD)))))))) X1 a9)
 (aK (aX (aE a8 (aB 7) (sT uO (eC (.int 1)))) (dC (aB 4) (nW kX (aB 7) c8 (cQ (sT uO (eC (.int 1)))))))
 (aX (aB 7) (a7 5)))))
 (bB (aB 4)))))
def G0 (k : Bd) : MF := bI (GP k) IB
def GX : List Str := [("plan" : Str), ("deed" : Str), ("address" : Str)]
def GO (k : Bd) : MS :=
 (aK (dN (bG (aE N4 (aE a8 (aB 1) (eC (.int 0))) (bA (aA (eC (.str ("fall" : Str))) (aA (eC (.str ("stop" : Str))) aD))))) (bB (bA aD)) a9)
 (bB (aS dM (aA (bR (dS hE (aA (aJ (dE k.k) 1 aN (aA (aB 0) aD)) aD)) [2] (a7 2) cF (bA (aA (aB 2) (aA (aE a8 (aB 1) (eC (.int 1))) (aA (eC (.str ("rests" : Str))) aD))))) aD))))
def G6 (k : Bd) : MF := bI (GO k) GX
def BK : List Str := [("plan" : Str), ("state" : Str), ("deeds" : Str), ("news" : Str), ("place" : Str), ("deed" : Str)]
def AY (k : Bd) : MS :=
 (aK (aX (eNew aD) (a7 3))
 (aK (fY (dS wN (aA (aB 2) aD)) (cC 2 (aI (a7 4) (aI (a7 5) bZ))) (aK (dN (cH (cV (aJ (KS k.k k.S) 3 aN (aA (aB 0) (aA (aB 1) (aA (aB 5) aD)))))) X1 a9)
 (aK (aX (aJ (E8 k.k) 4 aN (aA (aB 0) (aA (aB 1) (aA (aB 5) (aA CS aD))))) (a7 1))
 (cX (c5 "list" SI (aB 3) (aA (aJ (G6 k) 2 aN (aA (aB 0) (aA (aB 5) aD))) aD))))))
 (bB (bA (aA (aB 1) (aA (aS dM (aA (aB 3) aD)) aD))))))
def BV (k : Bd) : MF := bI (AY k) BK
def N8 : List Str := [("plan" : Str), ("state" : Str), ("deeds" : Str), ("fates" : Str), ("after" : Str), ("news" : Str), ("beat" : Str), ("sent_here" : Str), ("known" : Str), ("letter" : Str)]
def OY (k : Bd) : MS :=
 (aK (aX (aJ (BV k) 3 aN (aA (aB 0) (aA (aB 1) (aA (aB 2) aD)))) (cC 2 (aI (a7 4) (aI (a7 5) bZ))))
 (aK (aX (X6 k.B (FD k) 3 aN (aA (aB 0) (aA (aB 4) (aA (aS dI (aA (aE a8 (aB 1) (eC (.int 5))) aD)) aD)))) (a7 6))
 (aK (aX (Z8 (dP (c6 k.B ("letters_sent" : Str) (aB 6))) [9] (a7 9) cF (nW kX (aB 9) c8 (cQ (sT uO (eC (.int 1))))) (eC (.bl true))) (a7 7))
 (aK (aX (aJ (G0 k) 4 aN (aA (aB 0) (aA (aE a8 (aB 1) (eC (.int 6))) (aA (aB 7) (aA (aB 3) aD))))) (a7 8))
 (bB (bA (aA (aE cB (aB 5) (aS dM (aA (c6 k.B ("news_told" : Str) (aB 6)) aD))) (aA (tX k.B ("state_by" : Str) (vU k) 3 aN (aB 6) (aA (aE a8 (aB 1) (eC (.int 6))) (aA (aB 8) aD))) aD))))))))
def OB (k : Bd) : MF := bI (OY k) N8
abbrev mS (k : Bd) : List D → List D → List D := fun xs zs => XB [(0, 0), (0, 1), (1, 0), (1, 1)] xs zs []
def y9 : List Str := [("_law_one" : Str), ("_law_other" : Str)]
def yW (k : bM) : MS :=
 (bB (Y2 (aE JM (aE a8 (aB 0) (eC (.int 0))) (aE a8 (aB 1) (eC (.int 0)))) (gP (aE eR (aE a8 (aB 0) (eC (.int 0))) (aE a8 (aB 1) (eC (.int 0)))) (aE FR (aE a8 (aB 0) (eC (.int 1))) (aE a8 (aB 1) (eC (.int 1)))))))
def qG (k : bM) : MF := bI (yW k) y9
def yK : List Str := [("_law_model_here" : Str), ("_law_world_here" : Str), ("_law_letter" : Str), ("_law_news" : Str), ("_law_left" : Str), ("_law_a" : Str), ("_law_s" : Str), ("_law_r" : Str), ("_law_rank_here" : Str), ("_law_many" : Str), ("_law_stand" : Str), ("_law_own" : Str)]
def yA (k : bM) : MS :=
 (aK (aX (aB 2) (cC 5 (aI (a7 4) (aI (a7 5) (aI (a7 6) (aI (a7 7) (aI (a7 8) bZ)))))))
 (aK (aX (aS dI (aA (aE a8 (aB 1) (eC (.str ("living" : Str)))) aD)) (a7 9))
 (aK (dN (eQ (bG (aE p7 (aE a8 (aE a8 (aB 1) (eC (.str ("parts" : Str)))) (aB 6)) (aE a8 (aE a8 (aB 1) (eC (.str ("parts" : Str)))) (aB 7)))) (gC (bG (aE FR (aB 7) (aB 9))) (bG (aE eR (aE a8 (aE a8 (aB 1) (eC (.str ("living" : Str)))) (aB 7)) (eC (.int 0)))))) (bB (eC .non)) a9)
 (aK (dN (bG (aE QW (aB 7) (aB 9))) (aK (dN (bG (aE JM (aB 8) (eC (.int 0)))) (aX (aB 6) (dC (aE a8 (aE a8 (aB 1) (eC (.str ("tables" : Str)))) (aE kP (aB 7) (aB 9))) (aB 5))) a9)
 (bB (eC .non))) a9)
 (aK (NZ 10 11 (aA (aE a8 (aE a8 (aE a8 (aB 1) (eC (.str ("stands" : Str)))) (aB 5)) (aB 7)) (aA (bA (aA (aJ (iR k) 4 aN (aA (aB 0) (aA (aB 1) (aA (aB 5) (aA (aB 7) aD))))) (aA (aB 7) aD))) aD)))
 (dN (gC (bG (aE eR (aE a8 (aB 10) (eC (.int 0))) (eC (.str ("serves" : Str))))) (gC (bG (aE JM (aB 8) (eC (.int 0)))) (cV (aJ (qG k) 2 aN (aA (bA (aA (aB 8) (aA (aB 6) aD))) (aA (aB 11) aD)))))) (aK (aX (aJ (nG k) 4 aN (aA (aB 0) (aA (aB 1) (aA (aB 5) (aA (aB 7) aD))))) (dC (aE a8 (aE a8 (aB 1) (eC (.str ("stands" : Str)))) (aB 5)) (aB 7)))
 (cX (c5 "list" cU (aB 3) (aA (bA (aA (aB 5) (aA (aB 7) (aA (eC (.str ("yields" : Str))) aD)))) aD)))) (dN (gC (bG (aE eR (aE a8 (aB 10) (eC (.int 0))) (eC (.str ("waits" : Str))))) (bG (aE eR (aB 8) (eC (.int 0))))) (aX (aS min2 (aA (aE a8 (aB 10) (eC (.int 1))) (aA (aE cB (eC (.int 2)) (aE mulM (aE a8 (aB 0) (eC (.str ("gap" : Str)))) (aE kP (eC (.int 12)) (aE a8 (aB 11) (eC (.int 0)))))) aD))) (dC (aB 10) (eC (.int 1)))) (dN (gC (bG (aE eR (aE a8 (aB 10) (eC (.int 0))) (eC (.str ("waits" : Str))))) (eQ (cH (cV (aE a8 (aB 0) (eC (.str ("takes" : Str)))))) (cV (aJ (qG k) 2 aN (aA (bA (aA (aB 8) (aA (aB 6) aD))) (aA (aB 11) aD)))))) (aX (aS max2 (aA (aE a8 (aB 10) (eC (.int 1))) (aA (aJ (vK k) 2 aN (aA (aB 0) (aA (aE a8 (aB 11) (eC (.int 0))) aD))) aD))) (dC (aB 10) (eC (.int 1)))) a9))))))))
def yL (k : bM) : MF := bI (yA k) yK
def DV : List Str := [("_law_model_here" : Str), ("_law_world_here" : Str), ("_law_acts" : Str), ("_law_lots" : Str), ("_law_news" : Str), ("_law_letters" : Str), ("_law_deed_here" : Str), ("_law_one" : Str), ("_law_a" : Str), ("_law_h" : Str), ("_law_role" : Str), ("_law_clock" : Str)]
def E6 (k : bM) : MS :=
 (aK (aX (bA (aA (eNew aD) (aA (eNew aD) aD))) (cC 2 (aI (a7 4) (aI (dC (aB 1) (eC (.str ("sent" : Str)))) bZ))))
 (aK (aX (bA (aA (bR (dP (aE a8 (aB 1) (eC (.str ("under" : Str))))) [7] (a7 7) cF (aE cB (bA (aA (aE kP (aE a8 (aB 7) (eC (.int 0))) (eC (.int 1))) aD)) (nW kX (aB 7) (cQ (eC (.int 1))) c8))) (aA (eNew aD) aD))) (cC 2 (aI (a7 5) (aI (dC (aB 1) (eC (.str ("under" : Str)))) bZ))))
 (aK (fY (dP (aB 2)) (a7 6) (cX (aJ (DB k) 5 aN (aA (aB 0) (aA (aB 1) (aA (aB 6) (aA (aB 3) (aA (aB 4) aD))))))))
 (aK (aX (aE zT (bR (dP (aB 5)) [7] (a7 7) (bG (aE JM (aE a8 (aB 7) (eC (.int 0))) (eC (.int 0)))) (aB 7)) (aE a8 (aB 1) (eC (.str ("under" : Str))))) (dC (aB 1) (eC (.str ("under" : Str)))))
 (aK (fY (dP (aB 5)) (a7 7) (dN (bG (aE eR (aE a8 (aB 7) (eC (.int 0))) (eC (.int 0)))) (cX (aJ (yL k) 4 aN (aA (aB 0) (aA (aB 1) (aA (aB 7) (aA (aB 4) aD)))))) a9))
 (aK (fY (dS hE (aA (aS dI (aA (aE a8 (aB 0) (eC (.str ("ranks" : Str)))) aD)) aD)) (a7 8) (fY (dS hE (aA (aS dI (aA (aE a8 (aB 1) (eC (.str ("living" : Str)))) aD)) aD)) (a7 9) (aK (aX (aE a8 (aE a8 (aE a8 (aB 1) (eC (.str ("stands" : Str)))) (aB 8)) (aB 9)) (S3 2 (aI (a7 10) (aI (a7 11) bZ))))
 (aK (aX (eNew (aA (aB 10) (aA (aE kP (aB 11) (aS K6 (aA (aE p7 (aB 10) (eC (.str ("rests" : Str)))) aD))) aD))) (dC (aE a8 (aE a8 (aB 1) (eC (.str ("stands" : Str)))) (aB 8)) (aB 9)))
 (dN (gC (bG (aE p7 (aB 10) (eC (.str ("rests" : Str))))) (bG (aE eR (aB 11) (eC (.int 1))))) (aK (dN (bG (aE eR (aB 10) (eC (.str ("waits" : Str))))) (cX (c5 "list" cU (aB 4) (aA (bA (aA (aB 8) (aA (aB 9) (aA (eC (.str ("serves" : Str))) aD)))) aD))) a9)
 (aK (aX (eNew (aA (eC (.str ("serves" : Str))) (aA (aE a8 (aB 0) (eC (.str ("every" : Str)))) aD))) (dC (aE a8 (aE a8 (aB 1) (eC (.str ("stands" : Str)))) (aB 8)) (aB 9)))
 (cX (aJ (u4 k) 5 aN (aA (aB 1) (aA (aB 8) (aA (aB 9) (aA (aJ (iR k) 4 aN (aA (aB 0) (aA (aB 1) (aA (aB 8) (aA (aB 9) aD))))) (aA (aB 3) aD))))))))) a9)))))
 (bB (aS dM (aA (aB 4) aD)))))))))
def DA (k : bM) : MF := bI (E6 k) DV
structure Bt where
 dJ : List (List (Role × Int))
 tables : List (List Int)
 under : List GF
 DO : List SG
 news : List D
def W9 (y : Bt) (a c : Nat) : Role × Int := (y.dJ.getD a []).getD c (.rests, 0)
abbrev fa1 : KL := fun _ _ _ => 1
def Pos (y : Bt) : Prop := ∀ a c, (W9 y a c).1 ≠ .rests → 1 ≤ (W9 y a c).2
section
variable {n B0 : Nat} {w w' w0 : W} {A A' A0 : x4} {x X X0 : Wx} {y y' : Bt} {σ : Sg} {P : D → W → Prop} {PL : List D → W → Prop} {PF : Fl → W → Prop} {PU : Unit → W → Prop} {PI : lA → W → Prop} {k : bM} {i h p f q news : Nat} {m : Mo} {b : Int} {s s1 s2 : E2} {l : GF} {o o1 : MO} {kv : List (List Key × D)} {nw : List D} {fa : KL} {ts t1 t2 : List SG} {ls : List GF} {ds : List vY}
theorem P5 {a c : D} {xs zs : List D} (h1 : qX a w = some xs) (h2 : qX c w = some zs) : T (zT a c w) P = (xs.length + zs.length ≤ sizeLine ∧ P (.ref w.length) (w ++ [.lst (xs ++ zs)])) := by
 simp only [zT, h1, h2]
 by_cases c : xs.length + zs.length ≤ sizeLine
 ·rw [if_pos c, cR]; simp [c]
 ·rw [if_neg c, WS]; simp [c]
end
def fT : List Str := [("_law_model_here" : Str), ("_law_own_plan" : Str), ("_law_world_here" : Str), ("_law_acts" : Str), ("_law_lots" : Str), ("_law_state_here" : Str), ("_law_kept" : Str), ("_law_found" : Str), ("_law_news" : Str)]
def gR (k : Bd) : MS :=
 (aK (aX (aJ (rM k.k) 2 aN (aA (aB 0) (aA (aB 2) aD))) (a7 5))
 (aK (aX (aS JV (aA (bA (aA (aB 5) (aA (aB 3) (aA (aB 4) aD)))) aD)) (a7 6))
 (aK (aX (sY (OB k) 2 2 (mS k) (aA (aB 1) (aA (aB 5) aD)) (aA (aB 3) (aA (aB 4) aD))) (a7 7))
 (aK (aX (aJ (DA k.k) 4 aN (aA (aB 0) (aA (aB 2) (aA (aB 3) (aA (aJ (rZ k.k) 1 aN (aA (aB 4) aD)) aD))))) (a7 8))
 (bB (gP (aE eR (aS JV (aA (aB 7) aD)) (aS JV (aA (bA (aA (aB 8) (aA (aJ (rM k.k) 2 aN (aA (aB 0) (aA (aB 2) aD))) aD))) aD))) (aE eR (aS JV (aA (bA (aA (aB 5) (aA (aB 3) (aA (aB 4) aD)))) aD)) (aB 6))))))))
def cP (k : Bd) : MF := bI (gR k) fT
open PySem.W (dataLe)
abbrev Qd := Int × Int × Int × Int
def l4 (t : Qd) : List Int := [t.1, t.2.1, t.2.2.1, t.2.2.2]
def X8 (q : Role × Int) : Bool := decide (q.1 = .NH)
structure Nd where
 b : Bd
 N : Addr
section
variable {n n' nn Q : Nat} {w w' : W} {A : x4} {x : Wx} {P : D → W → Prop} {i h p q F S N r : Nat} {m : Mo} {b g l : Int} {ds : List vY} {ls : List SG} {ns : List (List D)} {nw : List D} {ys : List D}
theorem World.mono (hW : World n w A x) (h : n' ≤ n) : World n' w A x := fun l o e => by
 obtain ⟨h1, h2, h3⟩ := hW l o e
 exact ⟨by omega, h2, h3⟩
end
abbrev OW := List vY × List SG
section
variable {w w' : W} {P : D → W → Prop} {PF : Fl → W → Prop} {k : Nd} {q p S N q2 S2 N2 h j : Nat} {ss ss2 : List D} {cur cur2 : D} {ns ns2 : List (List D)} {g l g2 l2 b : Int} {m : Mo} {xs : List D}
theorem GI (xs : List D) (j : Nat) : Pc.cutD xs none (some (j : Int)) = xs.take j := by
 unfold Pc.cutD
 rw [HT.sIx_none, HT.sIx_nat, List.drop_zero, Nat.sub_zero]
 by_cases h : j ≤ xs.length
 ·rw [Nat.min_eq_left h]
 ·rw [Nat.min_eq_right (by omega), List.take_of_length_le (ay _), List.take_of_length_le (by omega)]
end
end Lw
namespace Pro
structure Dat where
 N : Nat
 mem : Nat → Prop
 R : Nat → Int
 takes : Bool
 vM : Nat
 FP : Nat
 CG : Nat
 B : Nat
 wait : Nat → Int
 srv : Nat → Nat → Prop
 clk : Nat → Nat → Int
 snd : Nat → Nat → Prop
 hit : Nat → Nat → Nat → Prop
 lk : Nat → Nat → Nat → Nat
def Dat.ahead (D : Dat) (d c : Nat) : Prop := D.R d > D.R c ∨ (D.R d = D.R c ∧ d < c)
def Dat.P (D : Dat) : Nat := (D.FP + 1) * D.vM + D.CG - 1
variable {D : Dat}
end Pro
namespace Lw
open PySem PySem.Spec PyProof.Rows L2 Pc Lb
section
variable {m : Mo} {b : Int} {h Q : Nat} {s : E2} {x e : Wx} {a c r : Nat} {q : Role × Int} {ds : List vY} {fa : KL} {l : GF}
def ZL (m : Mo) (b : Int) : Int := TC m b 1 + m.hold
end
section
variable {m : Mo} {b : Int} {h Q : Nat} {s : E2} {x x' e : Wx} {a c d r t : Nat} {p : Int} {q : Role × Int} {ds : List vY} {fa : KL} {l : GF} {ts : List OW}
open Classical in
def XI (m : Mo) (b : Int) (h : Nat) : Nat := (h + 1) * m.CG.toNat + (ZL m b).toNat
def YR (m : Mo) : Nat := (m.FP.toNat + 1) * m.vM.toNat + m.CG.toNat - 1
end
def NG (h : Nat) (s : E2) (v : Nat) : List Nat := (List.range h).filter fun c => s.living.getD c 0 == 1 && s.parts.getD c 0 == (v : Int)
section
variable {k : bM} {m : Mo} {b : Int} {h n i Q t F C : Nat} {w : W} {A : x4} {x e : Wx} {s : E2} {P : D → W → Prop} {kvs : List (List Key × D)} {xs ys : List D} {cs ds : List Nat}
theorem xM (xs : List D) (j : Nat) : Pc.cutD xs (some (j : Int)) none = xs.drop j := by
 unfold Pc.cutD
 rw [HT.sIx_none, HT.sIx_nat]
 rcases Nat.lt_or_ge j xs.length with c | c
 ·rw [Nat.min_eq_left (by omega), List.take_of_length_le (by rw [List.length_drop]; omega)]
 ·rw [Nat.min_eq_right c, List.drop_length, List.drop_of_length_le c]
  simp
end
section
variable {k : Nd} {m : Mo} {b : Int} {h n0 p q S N TT Q i a c r : Nat} {ss : List D} {ns : List (List D)} {w w' w0 : W} {x : Wx} {P : D → W → Prop} {PF : Fl → W → Prop} {ds : List vY} {ls : List SG} {dd ff : D}
theorem e6 (s : E2) : atI [CN s.living, CN s.parts, CN s.downs, .tup (s.eN.map CN), .tup (s.dJ.map YT), .tup (s.wA.map TK), .tup (s.uX.map SV), .tup (s.tables.map CN), .tup (s.asks.map Pc.pairD)] 6 = some (.tup (s.uX.map SV)) := rfl
end
end Lw
namespace Lw
open PySem PySem.Spec PyProof.Rows L2 Pc Lb TL
def I7 (z : Str) : Prop := tl (reprText z) = 39 :: (tl z ++ [39]) ∧ 39 ∉ tl z
mutual
def eE : PyData → Prop
 | .int _ => True
 | .str z => I7 z
 | .tuple xs => SimPs xs
 | _ => False
def SimPs : List PyData → Prop
 | [] => True
 | x :: xs => eE x ∧ SimPs xs
end
def iF : List PyData → List Nat
 | [] => [41]
 | y :: t => 44 :: 32 :: (tl y.shown ++ iF t)
def jA : List PyData → List Nat
 | [] => [41]
 | [x] => tl x.shown ++ [44, 41]
 | x :: y :: t => tl x.shown ++ (44 :: 32 :: (tl y.shown ++ iF t))
theorem AI : ∀ (x : PyData) (t : List PyData), joinL [44, 32] ((PyData.shownAll (x :: t)).map tl) ++ [41] = tl x.shown ++ iF t
 | x, [] => rfl
 | x, y :: t => by
  show (tl x.shown ++ ([44, 32] ++ joinL [44, 32] ((PyData.shownAll (y :: t)).map tl))) ++ [41] = _
  rw [bp, bp, AI y t]
  rfl
theorem sJ (xs : List PyData) : tl (PyData.tuple xs).shown = 40 :: jA xs := by
 have e : (PyData.tuple xs).shown = ("(" : Str) ++ Str.join ", " (PyData.shownAll xs) ++ (if (PyData.shownAll xs).length == 1 then ",)" else ")" : String) := by
  simp only [PyData.shown]
  rfl
 have e1 : tl ("(" : Str) = [40] := by decide +kernel
 have e2 : tl (", " : Str) = [44, 32] := by decide +kernel
 have e3 : tl (Str.ofString ",)") = [44, 41] := by decide +kernel
 have e4 : tl (Str.ofString ")") = [41] := by decide +kernel
 rw [e, tl_append, tl_append, tl_join, e1, e2]
 match xs with
 | [] => simp only [PyData.shownAll, List.length_nil, List.map_nil]; exact congrArg _ e4
 | [x] =>
  show ([40] ++ tl x.shown) ++ tl (Str.ofString ",)") = _
  rw [e3]; rfl
 | x :: y :: t =>
  show ([40] ++ joinL [44, 32] ((PyData.shownAll (x :: y :: t)).map tl)) ++ tl (Str.ofString ")") = _
  rw [e4, bp, AI]; rfl
theorem v5 (n : Nat) : tl (PyData.int (Int.negSucc n)).shown = 45 :: numL (n + 1) := by
 have e : (PyData.int (Int.negSucc n)).shown = Str.ofString ("-" ++ toString ((n + 1 : Nat) : Int)) := by
  simp only [PyData.shown]
  rfl
 rw [e, tl_ofString, String.toList_append, List.map_append, ← tl_ofString, ← tl_ofString, tl_num]
 have : tl (Str.ofString "-") = [45] := by decide +kernel
 rw [this]
 rfl
theorem A8 (n : Nat) : tl (PyData.int (n : Nat)).shown = numL n := by
 simp only [PyData.shown]
 exact tl_num n
def Dl (r : List Nat) : Prop := r = [] ∨ (∃ t, r = 44 :: t) ∨ ∃ t, r = 41 :: t
theorem V3 : ∀ (a b : List Nat) {r r' : List Nat}, (∀ c ∈ a, 48 ≤ c ∧ c ≤ 57) → (∀ c ∈ b, 48 ≤ c ∧ c ≤ 57) → Dl r → Dl r' → a ++ r = b ++ r' → a = b ∧ r = r'
 | [], [], r, r', _, _, _, _, h => ⟨rfl, h⟩
 | x :: a, y :: b, r, r', ha, hb, d, d', h => by
  rw [List.cons_append, List.cons_append] at h
  injection h with h1 h2
  obtain ⟨e1, e2⟩ := V3 a b (fun c hc => ha c (aw _ hc)) (fun c hc => hb c (aw _ hc)) d d' h2
  exact ⟨by rw [h1, e1], e2⟩
 | x :: a, [], r, r', ha, _, _, d', h => by
  exfalso
  have hx := ha x (aq ..)
  rw [List.nil_append] at h
  rcases d' with e | ⟨t, e⟩ | ⟨t, e⟩ <;> rw [e, List.cons_append] at h <;> injection h <;> omega
 | [], y :: b, r, r', _, hb, d, _, h => by
  exfalso
  have hy := hb y (aq ..)
  rw [List.nil_append] at h
  rcases d with e | ⟨t, e⟩ | ⟨t, e⟩ <;> rw [e, List.cons_append] at h <;> injection h <;> omega
theorem marks : ∀ (a b : List Nat) {r r' : List Nat}, 39 ∉ a → 39 ∉ b → a ++ 39 :: r = b ++ 39 :: r' → a = b ∧ r = r'
 | [], [], _, _, _, _, h => ⟨rfl, by injection h⟩
 | x :: a, y :: b, r, r', ha, hb, h => by
  rw [List.cons_append, List.cons_append] at h
  injection h with h1 h2
  obtain ⟨e1, e2⟩ := marks a b (fun c => ha (aw _ c)) (fun c => hb (aw _ c)) h2
  exact ⟨by rw [h1, e1], e2⟩
 | x :: a, [], r, r', ha, _, h => by
  rw [List.cons_append, List.nil_append] at h
  injection h with h1 h2
  exact absurd (by rw [h1]; exact aq ..) ha
 | [], y :: b, r, r', _, hb, h => by
  rw [List.cons_append, List.nil_append] at h
  injection h with h1 h2
  exact absurd (by rw [← h1]; exact aq ..) hb
theorem sP {z : Str} (h : I7 z) : tl (PyData.str z).shown = 39 :: (tl z ++ [39]) := by
 simp only [PyData.shown]
 exact h.1
theorem pU : ∀ (p : PyData), eE p → ∃ c l, tl p.shown = c :: l ∧ ((∃ n : Nat, p = .int (n : Nat)) ∧ (48 ≤ c ∧ c ≤ 57) ∨ (∃ n, p = .int (Int.negSucc n)) ∧ c = 45 ∨ (∃ z, p = .str z ∧ I7 z) ∧ c = 39 ∨ (∃ xs, p = .tuple xs ∧ SimPs xs) ∧ c = 40)
 | .int (Int.ofNat n), _ => by
  have e : tl (PyData.int (Int.ofNat n)).shown = numL n := A8 n
  obtain ⟨c, l, h⟩ := List.exists_cons_of_ne_nil (numL_ne n)
  refine ⟨c, l, e.trans h, .inl ⟨⟨n, rfl⟩, ?_⟩⟩
  have := numL_digits n c (by rw [h]; exact aq ..)
  omega
 | .int (Int.negSucc n), _ => ⟨45, _, v5 n, .inr (.inl ⟨⟨n, rfl⟩, rfl⟩)⟩
 | .str z, h => by
  rw [eE] at h
  exact ⟨39, _, sP h, .inr (.inr (.inl ⟨⟨z, rfl, h⟩, rfl⟩))⟩
 | .tuple xs, h => by
  rw [eE] at h
  exact ⟨40, _, sJ xs, .inr (.inr (.inr ⟨⟨xs, rfl, h⟩, rfl⟩))⟩
 | .none, h => by simp [eE] at h
 | .bool _, h => by simp [eE] at h
 | .list _, h => by simp [eE] at h
 | .dict _, h => by simp [eE] at h
theorem Dl.tail : ∀ (t : List PyData) (r : List Nat), Dl (iF t ++ r)
 | [], r => .inr (.inr ⟨r, rfl⟩)
 | y :: t, r => .inr (.inl ⟨_, rfl⟩)
theorem pI {p : PyData} (h : eE p) {s u : List Nat} (e : tl p.shown ++ s = 41 :: u) : False := by
 obtain ⟨c, l, e1, hc⟩ := pU p h
 rw [e1, List.cons_append] at e
 injection e with e2 _
 rcases hc with ⟨_, hc⟩ | ⟨_, hc⟩ | ⟨_, hc⟩ | ⟨_, hc⟩ <;> omega
mutual
theorem jV : ∀ (p : PyData), eE p → ∀ (q : PyData), eE q → ∀ (r r' : List Nat), Dl r → Dl r' → tl p.shown ++ r = tl q.shown ++ r' → p = q ∧ r = r'
 | .int (Int.ofNat n), hp, q, hq, r, r', d, d', h => by
  have e : tl (PyData.int (Int.ofNat n)).shown = numL n := A8 n
  have dg : ∀ n c, c ∈ numL n → 48 ≤ c ∧ c ≤ 57 := fun n c hc => by
   have := numL_digits n c hc
   omega
  obtain ⟨c', l', e', hc'⟩ := pU (.int (Int.ofNat n)) hp
  obtain ⟨c, l, eq, hc⟩ := pU q hq
  have hcc : c' = c := by rw [e', eq, List.cons_append, List.cons_append] at h; injection h
  have h48 : 48 ≤ c' ∧ c' ≤ 57 := dg n c' (by rw [← e, e']; exact aq ..)
  rcases hc with ⟨⟨k, rfl⟩, _⟩ | ⟨_, hc⟩ | ⟨_, hc⟩ | ⟨_, hc⟩
  ·rw [e, A8] at h
   obtain ⟨e1, e2⟩ := V3 _ _ (dg n) (dg k) d d' h
   rw [numL_inj e1]
   exact ⟨rfl, e2⟩
  all_goals exfalso; omega
 | .int (Int.negSucc n), hp, q, hq, r, r', d, d', h => by
  have dg : ∀ n c, c ∈ numL n → 48 ≤ c ∧ c ≤ 57 := fun n c hc => by
   have := numL_digits n c hc
   omega
  obtain ⟨c, l, eq, hc⟩ := pU q hq
  have hcc : 45 = c := by rw [v5, eq, List.cons_append, List.cons_append] at h; injection h
  rcases hc with ⟨_, hc⟩ | ⟨⟨k, rfl⟩, _⟩ | ⟨_, hc⟩ | ⟨_, hc⟩
  ·omega
  ·rw [v5, v5, List.cons_append, List.cons_append] at h
   injection h with _ h
   obtain ⟨e1, e2⟩ := V3 _ _ (dg (n + 1)) (dg (k + 1)) d d' h
   have := numL_inj e1
   rw [show n = k by omega]
   exact ⟨rfl, e2⟩
  all_goals exfalso; omega
 | .str z, hp, q, hq, r, r', d, d', h => by
  rw [eE] at hp
  obtain ⟨c, l, eq, hc⟩ := pU q hq
  have hcc : 39 = c := by rw [sP hp, eq, List.cons_append, List.cons_append] at h; injection h
  rcases hc with ⟨_, hc⟩ | ⟨_, hc⟩ | ⟨⟨k, rfl, hk⟩, _⟩ | ⟨_, hc⟩
  ·omega
  ·omega
  ·rw [sP hp, sP hk, List.cons_append, List.cons_append] at h
   injection h with _ h
   rw [bp, bp] at h
   obtain ⟨e1, e2⟩ := marks _ _ hp.2 hk.2 h
   rw [ext_tl e1]
   exact ⟨rfl, e2⟩
  ·omega
 | .tuple xs, hp, q, hq, r, r', d, d', h => by
  rw [eE] at hp
  obtain ⟨c, l, eq, hc⟩ := pU q hq
  have hcc : 40 = c := by rw [sJ, eq, List.cons_append, List.cons_append] at h; injection h
  rcases hc with ⟨_, hc⟩ | ⟨_, hc⟩ | ⟨_, hc⟩ | ⟨⟨ys, rfl, hk⟩, _⟩
  ·omega
  ·omega
  ·omega
  ·rw [sJ, sJ, List.cons_append, List.cons_append] at h
   injection h with _ h
   obtain ⟨e1, e2⟩ := tup_key xs hp ys hk r r' h
   exact ⟨by rw [e1], e2⟩
 | .none, h, _, _, _, _, _, _, _ => by simp [eE] at h
 | .bool _, h, _, _, _, _, _, _, _ => by simp [eE] at h
 | .list _, h, _, _, _, _, _, _, _ => by simp [eE] at h
 | .dict _, h, _, _, _, _, _, _, _ => by simp [eE] at h
theorem tup_key : ∀ (xs : List PyData), SimPs xs → ∀ (ys : List PyData), SimPs ys → ∀ (r r' : List Nat), jA xs ++ r = jA ys ++ r' → xs = ys ∧ r = r'
 | [], hx, [], hy, r, r', h => ⟨rfl, by simp only [jA, List.cons_append, List.nil_append] at h; injection h⟩
 | [], hx, [y], hy, r, r', h => by
  simp only [SimPs] at hy
  simp only [jA, List.cons_append, List.nil_append, bp] at h
  exact (pI hy.1 h.symm).elim
 | [], hx, y :: y2 :: ys, hy, r, r', h => by
  simp only [SimPs] at hy
  simp only [jA, List.cons_append, List.nil_append, bp] at h
  exact (pI hy.1 h.symm).elim
 | [x], hx, [], hy, r, r', h => by
  simp only [SimPs] at hx
  simp only [jA, List.cons_append, List.nil_append, bp] at h
  exact (pI hx.1 h).elim
 | [x], hx, [y], hy, r, r', h => by
  simp only [SimPs] at hx hy
  simp only [jA, List.cons_append, List.nil_append, bp] at h
  obtain ⟨e1, e2⟩ := jV x hx.1 y hy.1 _ _ (.inr (.inl ⟨_, rfl⟩)) (.inr (.inl ⟨_, rfl⟩)) h
  injection e2 with _ e2
  injection e2 with _ e2
  exact ⟨by rw [e1], e2⟩
 | [x], hx, y :: y2 :: ys, hy, r, r', h => by
  simp only [SimPs] at hx hy
  simp only [jA, List.cons_append, List.nil_append, bp] at h
  obtain ⟨e1, e2⟩ := jV x hx.1 y hy.1 _ _ (.inr (.inl ⟨_, rfl⟩)) (.inr (.inl ⟨_, rfl⟩)) h
  injection e2 with _ e2
  injection e2 with e2 _
  omega
 | x :: x2 :: xs, hx, [], hy, r, r', h => by
  simp only [SimPs] at hx
  simp only [jA, List.cons_append, List.nil_append, bp] at h
  exact (pI hx.1 h).elim
 | x :: x2 :: xs, hx, [y], hy, r, r', h => by
  simp only [SimPs] at hx hy
  simp only [jA, List.cons_append, List.nil_append, bp] at h
  obtain ⟨e1, e2⟩ := jV x hx.1 y hy.1 _ _ (.inr (.inl ⟨_, rfl⟩)) (.inr (.inl ⟨_, rfl⟩)) h
  injection e2 with _ e2
  injection e2 with e2 _
  omega
 | x :: x2 :: xs, hx, y :: y2 :: ys, hy, r, r', h => by
  simp only [SimPs] at hx hy
  simp only [jA, List.cons_append, List.nil_append, bp] at h
  obtain ⟨e1, e2⟩ := jV x hx.1 y hy.1 _ _ (.inr (.inl ⟨_, rfl⟩)) (.inr (.inl ⟨_, rfl⟩)) h
  injection e2 with _ e2
  injection e2 with _ e2
  obtain ⟨e3, e4⟩ := jV x2 hx.2.1 y2 hy.2.1 _ _ (Dl.tail _ _) (Dl.tail _ _) e2
  obtain ⟨e5, e6⟩ := tail_key xs hx.2.2 ys hy.2.2 r r' e4
  exact ⟨by rw [e1, e3, e5], e6⟩
theorem tail_key : ∀ (xs : List PyData), SimPs xs → ∀ (ys : List PyData), SimPs ys → ∀ (r r' : List Nat), iF xs ++ r = iF ys ++ r' → xs = ys ∧ r = r'
 | [], _, [], _, r, r', h => ⟨rfl, by simp only [iF, List.cons_append, List.nil_append] at h; injection h⟩
 | [], _, y :: ys, _, r, r', h => by
  simp only [iF, List.cons_append, List.nil_append] at h
  injection h with h _
  omega
 | x :: xs, _, [], _, r, r', h => by
  simp only [iF, List.cons_append, List.nil_append] at h
  injection h with h _
  omega
 | x :: xs, hx, y :: ys, hy, r, r', h => by
  simp only [SimPs] at hx hy
  simp only [iF, List.cons_append, List.nil_append, bp] at h
  injection h with _ h
  injection h with _ h
  obtain ⟨e1, e2⟩ := jV x hx.1 y hy.1 _ _ (Dl.tail _ _) (Dl.tail _ _) h
  obtain ⟨e3, e4⟩ := tail_key xs hx.2 ys hy.2 r r' e2
  exact ⟨by rw [e1, e3], e4⟩
end
mutual
theorem RU : ∀ (p : PyData), eE p → ∀ (q : PyData), eE q → (PyData.eqv p q = true ↔ p = q)
 | .int i, _, .int j, _ => by simp [PyData.eqv]
 | .str x, _, .str y, _ => by simp [PyData.eqv]
 | .tuple xs, hp, .tuple ys, hq => by
  rw [eE] at hp hq
  rw [PyData.eqv, eqvs_sim xs hp ys hq]
  simp
 | .int i, _, .str y, _ => by simp [PyData.eqv]
 | .int i, _, .tuple y, _ => by simp [PyData.eqv]
 | .str i, _, .int y, _ => by simp [PyData.eqv]
 | .str i, _, .tuple y, _ => by simp [PyData.eqv]
 | .tuple i, _, .int y, _ => by simp [PyData.eqv]
 | .tuple i, _, .str y, _ => by simp [PyData.eqv]
 | .none, h, _, _ => by simp [eE] at h
 | .bool _, h, _, _ => by simp [eE] at h
 | .list _, h, _, _ => by simp [eE] at h
 | .dict _, h, _, _ => by simp [eE] at h
 | _, _, .none, h => by simp [eE] at h
 | _, _, .bool _, h => by simp [eE] at h
 | _, _, .list _, h => by simp [eE] at h
 | _, _, .dict _, h => by simp [eE] at h
theorem eqvs_sim : ∀ (xs : List PyData), SimPs xs → ∀ (ys : List PyData), SimPs ys → (PyData.eqvAll xs ys = true ↔ xs = ys)
 | [], _, [], _ => by simp [PyData.eqvAll]
 | [], _, y :: ys, _ => by simp [PyData.eqvAll]
 | x :: xs, _, [], _ => by simp [PyData.eqvAll]
 | x :: xs, hx, y :: ys, hy => by
  simp only [SimPs] at hx hy
  rw [PyData.eqvAll, ag, RU x hx.1 y hy.1, eqvs_sim xs hx.2 ys hy.2, List.cons.injEq]
end
mutual
def eI : D → Prop
 | .int _ => True
 | .str z => I7 z
 | .tup xs => SimDs xs
 | _ => False
def SimDs : List D → Prop
 | [] => True
 | x :: xs => eI x ∧ SimDs xs
end
mutual
theorem AM : ∀ (d : D) {f : Nat → Option PyData} {p : PyData}, eI d → d.e7 f = some p → eE p
 | .int i, f, p, _, h1 => by
  simp only [D.e7, af] at h1
  subst h1
  simp [eE]
 | .str i, f, p, s1, h1 => by
  simp only [D.e7, af] at h1
  simp only [eI] at s1
  subst h1
  simp [eE, s1]
 | .tup i, f, p, s1, h1 => by
  simp only [D.e7, ai] at h1
  obtain ⟨ps, h1, rfl⟩ := h1
  simp only [eI] at s1
  simp only [eE]
  exact simps_of i s1 h1
 | .non, _, _, h, _ => by simp [eI] at h
 | .bl _, _, _, h, _ => by simp [eI] at h
 | .ty _, _, _, h, _ => by simp [eI] at h
 | .con _, _, _, h, _ => by simp [eI] at h
 | .lst _, _, _, h, _ => by simp [eI] at h
 | .jR _, _, _, h, _ => by simp [eI] at h
 | .nX _, _, _, h, _ => by simp [eI] at h
 | .sF _ _, _, _, h, _ => by simp [eI] at h
 | .ref _, _, _, h, _ => by simp [eI] at h
theorem simps_of : ∀ (xs : List D) {f : Nat → Option PyData} {ps : List PyData}, SimDs xs → D.pysR f xs = some ps → SimPs ps
 | [], f, ps, _, h1 => by
  simp only [D.pysR, af] at h1
  subst h1
  simp [SimPs]
 | x :: xs, f, ps, s1, h1 => by
  simp only [D.pysR] at h1
  split at h1
  ·rename_i p ps e1 e2
   cases h1
   simp only [SimDs] at s1
   simp only [SimPs]
   exact ⟨AM x s1.1 e1, simps_of xs s1.2 e2⟩
  ·cases h1
end
mutual
theorem VM : ∀ (d e : D) {f g : Nat → Option PyData} {p q : PyData}, eI d → eI e → d.e7 f = some p → e.e7 g = some q → eE p ∧ eE q ∧ (p = q ↔ d = e)
 | .int i, .int j, f, g, p, q, _, _, h1, h2 => by
  simp only [D.e7, af] at h1 h2
  subst h1 h2
  simp [eE]
 | .str i, .str j, f, g, p, q, s1, s2, h1, h2 => by
  simp only [D.e7, af] at h1 h2
  simp only [eI] at s1 s2
  subst h1 h2
  simp [eE, s1, s2]
 | .tup i, .tup j, f, g, p, q, s1, s2, h1, h2 => by
  simp only [D.e7, ai] at h1 h2
  obtain ⟨ps, h1, rfl⟩ := h1
  obtain ⟨qs, h2, rfl⟩ := h2
  simp only [eI] at s1 s2
  obtain ⟨a1, a2, a3⟩ := pys_sim i j s1 s2 h1 h2
  simp only [eE, PyData.tuple.injEq, D.tup.injEq]
  exact ⟨a1, a2, a3⟩
 | .int i, .str j, f, g, p, q, s1, s2, h1, h2 => by
  simp only [D.e7, af] at h1 h2
  simp only [eI] at s1 s2
  subst h1 h2
  simp [eE, s2]
 | .str i, .int j, f, g, p, q, s1, s2, h1, h2 => by
  simp only [D.e7, af] at h1 h2
  simp only [eI] at s1 s2
  subst h1 h2
  simp [eE, s1]
 | .tup i, .int j, f, g, p, q, s1, s2, h1, h2 => by
  simp only [D.e7, af, ai] at h1 h2
  obtain ⟨ps, h1, rfl⟩ := h1
  subst h2
  simp only [eI] at s1 s2
  have a1 := simps_of i s1 h1
  simp [eE, a1]
 | .tup i, .str j, f, g, p, q, s1, s2, h1, h2 => by
  simp only [D.e7, af, ai] at h1 h2
  obtain ⟨ps, h1, rfl⟩ := h1
  subst h2
  simp only [eI] at s1 s2
  have a1 := simps_of i s1 h1
  simp [eE, a1, s2]
 | .int i, .tup j, f, g, p, q, s1, s2, h1, h2 => by
  simp only [D.e7, af, ai] at h1 h2
  obtain ⟨ps, h2, rfl⟩ := h2
  subst h1
  simp only [eI] at s1 s2
  have a1 := simps_of j s2 h2
  simp [eE, a1]
 | .str i, .tup j, f, g, p, q, s1, s2, h1, h2 => by
  simp only [D.e7, af, ai] at h1 h2
  obtain ⟨ps, h2, rfl⟩ := h2
  subst h1
  simp only [eI] at s1 s2
  have a1 := simps_of j s2 h2
  simp [eE, a1, s1]
 | .non, _, _, _, _, _, h, _, _, _ => by simp [eI] at h
 | .bl _, _, _, _, _, _, h, _, _, _ => by simp [eI] at h
 | .ty _, _, _, _, _, _, h, _, _, _ => by simp [eI] at h
 | .con _, _, _, _, _, _, h, _, _, _ => by simp [eI] at h
 | .lst _, _, _, _, _, _, h, _, _, _ => by simp [eI] at h
 | .jR _, _, _, _, _, _, h, _, _, _ => by simp [eI] at h
 | .nX _, _, _, _, _, _, h, _, _, _ => by simp [eI] at h
 | .sF _ _, _, _, _, _, _, h, _, _, _ => by simp [eI] at h
 | .ref _, _, _, _, _, _, h, _, _, _ => by simp [eI] at h
 | _, .non, _, _, _, _, _, h, _, _ => by simp [eI] at h
 | _, .bl _, _, _, _, _, _, h, _, _ => by simp [eI] at h
 | _, .ty _, _, _, _, _, _, h, _, _ => by simp [eI] at h
 | _, .con _, _, _, _, _, _, h, _, _ => by simp [eI] at h
 | _, .lst _, _, _, _, _, _, h, _, _ => by simp [eI] at h
 | _, .jR _, _, _, _, _, _, h, _, _ => by simp [eI] at h
 | _, .nX _, _, _, _, _, _, h, _, _ => by simp [eI] at h
 | _, .sF _ _, _, _, _, _, _, h, _, _ => by simp [eI] at h
 | _, .ref _, _, _, _, _, _, h, _, _ => by simp [eI] at h
theorem pys_sim : ∀ (xs ys : List D) {f g : Nat → Option PyData} {ps qs : List PyData}, SimDs xs → SimDs ys → D.pysR f xs = some ps → D.pysR g ys = some qs → SimPs ps ∧ SimPs qs ∧ (ps = qs ↔ xs = ys)
 | [], [], f, g, ps, qs, s1, s2, h1, h2 => by
  simp only [D.pysR, af] at h1 h2
  subst h1 h2
  simp [SimPs]
 | x :: xs, [], f, g, ps, qs, s1, s2, h1, h2 => by
  simp only [D.pysR, af] at h1 h2
  subst h2
  split at h1
  ·rename_i p ps e1 e2
   cases h1
   simp only [SimDs] at s1
   have a1 := AM x s1.1 e1
   have b1 := simps_of xs s1.2 e2
   simp [SimPs, a1, b1]
  ·cases h1
 | [], y :: ys, f, g, ps, qs, s1, s2, h1, h2 => by
  simp only [D.pysR, af] at h1 h2
  subst h1
  split at h2
  ·rename_i p ps e1 e2
   cases h2
   simp only [SimDs] at s2
   have a1 := AM y s2.1 e1
   have b1 := simps_of ys s2.2 e2
   simp [SimPs, a1, b1]
  ·cases h2
 | x :: xs, y :: ys, f, g, ps, qs, s1, s2, h1, h2 => by
  simp only [D.pysR] at h1 h2
  split at h1
  ·split at h2
   ·rename_i p ps e1 e2 _ _ q qs e3 e4
    cases h1
    cases h2
    simp only [SimDs] at s1 s2
    obtain ⟨a1, a2, a3⟩ := VM x y s1.1 s2.1 e1 e3
    obtain ⟨b1, b2, b3⟩ := pys_sim xs ys s1.2 s2.2 e2 e4
    exact ⟨⟨a1, b1⟩, ⟨a2, b2⟩, by rw [List.cons.injEq, List.cons.injEq, a3, b3]⟩
   ·cases h2
  ·cases h1
end
section
variable {w : W} {d e : D} {u v : PyData}
theorem SimDs.all : ∀ {xs : List D}, (∀ x ∈ xs, eI x) → SimDs xs
 | [], _ => by simp only [SimDs]
 | x :: xs, h => by
  simp only [SimDs]
  exact ⟨h x (aq ..), SimDs.all fun y hy => h y (aw _ hy)⟩
end
mutual
/-- plain things, empty dicts among them -/
def fO : PyData → Bool
 | .none | .bool _ => true
 | .int i => decide (i.natAbs < 10 ^ 40)
 | .str x => PyData.strOk (reprText x) && PyData.strOk x && PyData.leavesShort 60 (.str x) && decide (x.length ≤ 100)
 | .list xs | .tuple xs => plainXs xs
 | .dict kvs => kvs.isEmpty
def plainXs : List PyData → Bool
 | [] => true
 | x :: xs => fO x && plainXs xs
end
mutual
theorem BX : ∀ p : PyData, fO p = true → PyData.strOk p.shown = true
 | .none, _ => dX _
 | .bool b, _ => by cases b <;> exact dX _
 | .int i, _ => dX _
 | .str x, h => by
  simp only [fO, ag] at h
  exact h.1.1.1
 | .list xs, h => by
  rw [fO] at h
  show PyData.strOk (textFrom 0 "[" (PyData.shownAll xs) ++ "]") = true
  rw [fI, k7 _ _ _ (dX _) (plainXs_shown xs h), dX]
  rfl
 | .tuple xs, h => by
  rw [fO] at h
  show PyData.strOk (tupleText (PyData.shownAll xs)) = true
  unfold tupleText
  rw [fI, fI, dX, rQ _ (dX _) _ (plainXs_shown xs h)]
  split <;> rw [dX] <;> rfl
 | .dict [], _ => by decide +kernel
 | .dict (_ :: _), h => by simp [fO] at h
theorem plainXs_shown : ∀ ps : List PyData, plainXs ps = true → ∀ t ∈ PyData.shownAll ps, PyData.strOk t = true
 | [], _, t, ht => by simp [PyData.shownAll] at ht
 | p :: ps, h, t, ht => by
  simp only [plainXs, ag] at h
  simp only [PyData.shownAll, ao] at ht
  rcases ht with rfl | ht
  ·exact BX p h.1
  ·exact plainXs_shown ps h.2 t ht
end
mutual
theorem G3 : ∀ p : PyData, fO p = true → p.leavesShort 60 = true ∧ p.showable = true
 | .none, _ => by simp [PyData.leavesShort, PyData.showable]
 | .bool b, _ => by simp [PyData.leavesShort, PyData.showable]
 | .int i, h => by
  simp only [fO, ah] at h
  exact ⟨pJ h, sH h⟩
 | .str x, h => by
  simp only [fO, ag] at h
  exact ⟨h.1.2, by simp [PyData.showable]⟩
 | .list xs, h => by
  rw [fO] at h
  have := plainXs_all xs h
  simp only [PyData.leavesShort, PyData.showable]
  exact this
 | .tuple xs, h => by
  rw [fO] at h
  have := plainXs_all xs h
  simp only [PyData.leavesShort, PyData.showable]
  exact this
 | .dict [], _ => by decide +kernel
 | .dict (_ :: _), h => by simp [fO] at h
theorem plainXs_all : ∀ p : List PyData, plainXs p = true → PyData.leavesShortAll 60 p = true ∧ PyData.showableAll p = true
 | [], _ => by simp [PyData.leavesShortAll, PyData.showableAll]
 | p :: ps, h => by
  simp only [plainXs, ag] at h
  obtain ⟨a1, a2⟩ := G3 p h.1
  obtain ⟨b1, b2⟩ := plainXs_all ps h.2
  simp only [PyData.leavesShortAll, PyData.showableAll, a1, a2, b1, b2]
  simp
end
mutual
theorem LJ : ∀ p : PyData, fB p = true → fO p = true
 | .none, _ => rfl
 | .bool b, _ => rfl
 | .int i, h => by rw [fB] at h; rw [fO]; exact h
 | .str x, h => by rw [fB] at h; rw [fO]; exact h
 | .list xs, h => by rw [fB] at h; rw [fO]; exact plainXs_of xs h
 | .tuple xs, h => by rw [fB] at h; rw [fO]; exact plainXs_of xs h
 | .dict _, h => by simp [fB] at h
theorem plainXs_of : ∀ p : List PyData, plainPs p = true → plainXs p = true
 | [], _ => rfl
 | p :: ps, h => by
  simp only [plainPs, ag] at h
  simp only [plainXs, LJ p h.1, plainXs_of ps h.2, Bool.and_self]
end
mutual
theorem T7 {f g : Nat → Option PyData} (hfg : ∀ i p, f i = some p → g i = some p) : ∀ (d : D) {p : PyData}, d.e7 f = some p → d.e7 g = some p
 | .non, _, h => by simpa only [D.e7] using h
 | .bl _, _, h => by simpa only [D.e7] using h
 | .int _, _, h => by simpa only [D.e7] using h
 | .str _, _, h => by simpa only [D.e7] using h
 | .ty _, _, h => by simp [D.e7] at h
 | .con _, _, h => by simp [D.e7] at h
 | .sF _ _, _, h => by simp [D.e7] at h
 | .ref i, _, h => by
  simp only [D.e7] at h ⊢
  exact hfg i _ h
 | .tup xs, _, h => by
  simp only [D.e7, ai] at h ⊢
  obtain ⟨ps, h1, h2⟩ := h
  exact ⟨ps, pysR_le hfg xs h1, h2⟩
 | .nX xs, _, h => by
  simp only [D.e7, ai] at h ⊢
  obtain ⟨ps, h1, h2⟩ := h
  exact ⟨ps, pysR_le hfg xs h1, h2⟩
 | .lst xs, _, h => by
  simp only [D.e7, ai] at h ⊢
  obtain ⟨ps, h1, h2⟩ := h
  exact ⟨ps, pysR_le hfg xs h1, h2⟩
 | .jR xs, _, h => by
  simp only [D.e7, ai] at h ⊢
  obtain ⟨ps, h1, h2⟩ := h
  exact ⟨ps, pysR_le hfg xs h1, h2⟩
theorem pysR_le {f g : Nat → Option PyData} (hfg : ∀ i p, f i = some p → g i = some p) : ∀ (ds : List D) {ps : List PyData}, D.pysR f ds = some ps → D.pysR g ds = some ps
 | [], _, h => by simpa only [D.pysR] using h
 | d :: ds, _, h => by
  simp only [D.pysR] at h ⊢
  split at h
  ·rename_i p ps e1 e2
   rw [T7 hfg d e1, pysR_le hfg ds e2]
   exact h
  ·cases h
end
end Lw
namespace Lw
open PySem PySem.Spec PyProof.Rows L2 Pc Lb
def VW (h : Nat) (s : E2) (a v : Nat) : List Nat := (NG h s v).filter fun c => X8 (QV s a c)
inductive Mark where
 | one (a v : Nat) | two (a v c d : Nat)
def Mark.a : Mark → Nat
 | .one a _ => a
 | .two a _ _ _ => a
def Mark.v : Mark → Nat
 | .one _ v => v
 | .two _ v _ _ => v
def Mark.key : Mark → List Key
 | .one a v => [.inl (a : Nat), .inl (v : Nat)]
 | .two a v c d => [.inl (a : Nat), .inl (v : Nat), .inl (c : Nat), .inl (d : Nat)]
def Mark.hold (h : Nat) (s : E2) : Mark → Prop
 | .one a v => NG h s v ≠ [] ∧ VW h s a v = []
 | .two a v c d => c ∈ VW h s a v ∧ d ∈ VW h s a v ∧ c ≠ d
section
variable {m : Mo} {b : Int} {h Q : Nat} {x : Wx} {ts : List OW} {u : OW} {a v c d t : Nat} {mk : Mark} {s1 s2 : E2} {ds : List vY} {ls : List SG}
def Mark.most (m : Mo) (b : Int) (h : Nat) : Mark → Nat
 | .one _ _ => XI m b h
 | .two _ _ _ _ => YR m
end
def M4 : MS :=
 (aK (aX (aE cB (aE a8 (aB 0) (eC (.str ("at" : Str)))) (eC (.int 1))) (dC (aB 0) (eC (.str ("at" : Str)))))
 (aK (aX (aE a8 (aB 0) (eC (.str ("at" : Str)))) (a7 2))
 (aK (aX (aE a8 (aB 0) (eC (.str ("cells" : Str)))) (a7 3))
 (aK (aX (aE cB (aE a8 (aB 0) (eC (.str ("sum" : Str)))) (aB 2)) (a7 4))
 (aK (dN (bG (aE p7 (aB 3) (hY aD))) (aK (aX (c5 "list" tT (aB 3) (aA (eC (.int 0)) aD)) (a7 4))
 (dN (bG (aE QW (aB 4) (aE yO (eC (.int 10)) (eC (.int 18))))) (aK (cX (c5 "list" pR (aB 3) (aA (eC (.int 0)) (aA (aE qF (aB 4) (aB 1)) aD))))
 (bB (aE hH (aB 4) (aB 1)))) a9)) a9)
 (aK (aX (aE hH (aE cB (aE cB (aE mulM (aE hH (aB 4) (eC (.int 2147483647))) (eC (.int 48271))) (aE mulM (aE mulM (eC (.int 69621)) (aB 2)) (aB 2))) (eC (.int 7919))) (eC (.int 2147483629))) (a7 5))
 (aK (aX (aE hH (aE mulM (aB 5) (aB 5)) (eC (.int 2147483587))) (a7 5))
 (bB (aE hH (aE qF (aE hH (aE mulM (aB 5) (aE cB (aB 5) (eC (.int 39373)))) (eC (.int 2147483563))) (eC (.int 64))) (aB 1))))))))))
def PX : List Str := [("_law_deck_here" : Str), ("_law_bound" : Str), ("_law_at" : Str), ("_law_cells" : Str), ("_law_seed" : Str), ("_law_number" : Str)]
def CF : MF := bI M4 PX
def oI (c : Nat) (a sm : Int) : List (L2.Key × D) := [(.inr ("cells" : Str), .ref c), (.inr ("at" : Str), .int a), (.inr ("sum" : Str), .int sm)]
def bT (w : W) (r c b : Nat) : Prop := r ≠ c ∧ ∃ (cells : List Int) (sm : Int) (a : Nat), w[r]? = some (.dK (oI c a sm)) ∧ w[c]? = some (.lst (cells.map D.int)) ∧ cells.length ≤ 63 ∧ a + b ≤ 2 ^ 60
section
variable {w w' : W} {P : D → W → Prop} {r c b : Nat} {size : Int}
theorem aAb (x0 x1 : D) : begin PX [x0, x1] = [some x0, some x1, none, none, none, none] := rfl
theorem YD : T (yO (.int 10) (.int 18) w) P = P (.int (10 ^ 18)) w := by
 have : yO (.int 10) (.int 18) w = .ok (.int (10 ^ 18)) w := by unfold yO; rfl
 rw [this, cR]
theorem v8 {a c : Int} (h : -(2 ^ 64) < a ∧ a < 2 ^ 64) : wV a c = true := by
 unfold wV
 rw [decide_eq_true h.1, decide_eq_true h.2]
 rfl
theorem IK {a c : Int} (h : -(2 ^ 64) < c ∧ c < 2 ^ 64) : wV a c = true := by
 unfold wV
 rw [decide_eq_true h.1, decide_eq_true h.2]
 simp
theorem K0 {cell a : Int} {s3 : Option D} (h0 : 0 < size) (ha : 0 ≤ a ∧ a < 2 ^ 61) (hP : ∀ v, 0 ≤ v → v < size → P (.int v) w) :
  T (aK (aX (aE hH (aE cB (aE cB (aE mulM (aE hH (aB 4) (eC (.int 2147483647))) (eC (.int 48271))) (aE mulM (aE mulM (eC (.int 69621)) (aB 2)) (aB 2))) (eC (.int 7919))) (eC (.int 2147483629))) (a7 5))
 (aK (aX (aE hH (aE mulM (aB 5) (aB 5)) (eC (.int 2147483587))) (a7 5))
 (bB (aE hH (aE qF (aE hH (aE mulM (aB 5) (aE cB (aB 5) (eC (.int 39373)))) (eC (.int 2147483563))) (eC (.int 64))) (aB 1))))
   [some (.ref r), some (.int size), some (.int a), s3, some (.int cell), none] w) fun f w1 => match f with
   | .nx _ => P .non w1
   | .rt d => P d w1
   | _ => False := by
 rw [bP]
 simp only [zS, C2, sI, x6, zY, ae, aa, reduceCtorEq]
 refine ⟨by omega, IK ⟨by omega, by omega⟩, v8 ⟨by omega, by omega⟩, IK ⟨by omega, by omega⟩, by omega, ?_⟩
 obtain ⟨n, en⟩ : ∃ n, n = (cell % 2147483647 * 48271 + 69621 * a * a + 7919) % 2147483629 := ⟨_, rfl⟩
 have n0 : 0 ≤ n ∧ n < 2147483629 := by
  rw [en]
  exact ⟨Int.emod_nonneg _ (by omega), Int.emod_lt_of_pos _ (by omega)⟩
 rw [← en, bP]
 simp only [zS, C2, sI, x6, zY, ae, aa, reduceCtorEq]
 obtain ⟨m, em⟩ : ∃ m, m = n * n % 2147483587 := ⟨_, rfl⟩
 have m0 : 0 ≤ m ∧ m < 2147483587 := by
  rw [em]
  exact ⟨Int.emod_nonneg _ (by omega), Int.emod_lt_of_pos _ (by omega)⟩
 rw [← em]
 refine ⟨v8 ⟨by omega, by omega⟩, by omega, ?_⟩
 try simp only [zS, C2, sI, x6, zY, ae, aa, reduceCtorEq]
 refine ⟨v8 ⟨by omega, by omega⟩, by omega, ⟨by omega, by omega⟩, h0, hP _ (Int.emod_nonneg _ (by omega)) (Int.emod_lt_of_pos _ h0)⟩
theorem eK (h : bT w r c (b + 1)) (h0 : 0 < size) (h1 : size < 1073741824) (hP : ∀ v w', 0 ≤ v → v < size → bT w' r c b → Pc.Kept w w' r c → P (.int v) w') : T (CF [.ref r, .int size] w) P := by
 obtain ⟨ne, cells, sm, a, hr, hc, hl, hb⟩ := h
 have lr := (aj.mp hr).1
 have lc := (aj.mp hc).1
 unfold CF M4
 rw [eY, aAb, bP]
 simp only [IX hr, zY, ae, aa, reduceCtorEq]
 refine ⟨.int a, rfl, ?_⟩
 simp only [sI, zY, ae, aa, reduceCtorEq]
 rw [VJ hr]
 have ek : putD (oI c a sm) (.inr ("at" : Str)) (.int ((a : Int) + 1)) = oI c ((a + 1 : Nat) : Int) sm := rfl
 rw [ek]
 refine ⟨by rw [sizeLine_eq]; unfold oI; simp, ?_⟩
 obtain ⟨w1, e1⟩ : ∃ w1, w1 = w.set r (.dK (oI c ((a + 1 : Nat) : Int) sm)) := ⟨_, rfl⟩
 have hr1 : w1[r]? = some (.dK (oI c ((a + 1 : Nat) : Int) sm)) := by rw [e1]; exact bt lr
 have hc1 : w1[c]? = some (.lst (cells.map D.int)) := by rw [e1, au ne]; exact hc
 have k1 : Pc.Kept w w1 r c := ⟨by rw [e1, List.length_set], fun i h2 _ => by rw [e1, au (Ne.symm h2)]⟩
 rw [← e1, bP]
 simp only [IX hr1, zY, ae, aa, reduceCtorEq]
 refine ⟨.int ((a + 1 : Nat) : Int), rfl, ?_⟩
 try simp only [zY, ae, aa, reduceCtorEq]
 rw [bP]
 simp only [IX hr1, zY, ae, aa, reduceCtorEq]
 refine ⟨.ref c, rfl, ?_⟩
 try simp only [zY, ae, aa, reduceCtorEq]
 rw [bP]
 simp only [IX hr1, zY, ae, aa, reduceCtorEq]
 refine ⟨.int sm, rfl, ?_⟩
 simp only [sI, zY, ae, aa, reduceCtorEq]
 rw [bP]
 have fin : ∀ (cell : Int) (w2 : W), bT w2 r c b → Pc.Kept w w2 r c → T (aK (aX (aE hH (aE cB (aE cB (aE mulM (aE hH (aB 4) (eC (.int 2147483647))) (eC (.int 48271))) (aE mulM (aE mulM (eC (.int 69621)) (aB 2)) (aB 2))) (eC (.int 7919))) (eC (.int 2147483629))) (a7 5))
 (aK (aX (aE hH (aE mulM (aB 5) (aB 5)) (eC (.int 2147483587))) (a7 5))
 (bB (aE hH (aE qF (aE hH (aE mulM (aB 5) (aE cB (aB 5) (eC (.int 39373)))) (eC (.int 2147483563))) (eC (.int 64))) (aB 1))))
   [some (.ref r), some (.int size), some (.int ((a + 1 : Nat) : Int)), some (.ref c), some (.int cell), none] w2) fun f w1 => match f with
   | .nx _ => P .non w1
   | .rt d => P d w1
   | _ => False := fun cell w2 d2 k2 => K0 h0 ⟨by omega, by omega⟩ fun v v0 v1 => hP v w2 v0 v1 d2 k2
 have d1 : bT w1 r c b := ⟨ne, cells, sm, a + 1, hr1, hc1, hl, by omega⟩
 rcases cells with _ | ⟨z, zs⟩
 ·simp only [Pc.ne_nil hc1, cR, List.isEmpty_nil, Bool.not_true, zY, ae, aa, reduceCtorEq]
  exact fin _ w1 d1 k1
 ·obtain ⟨w2, e2⟩ : ∃ w2, w2 = w1.set c (.lst (zs.map D.int)) := ⟨_, rfl⟩
  have lc1 : c < w1.length := by rw [k1.1]; exact lc
  have hr2 : w2[r]? = some (.dK (oI c ((a + 1 : Nat) : Int) sm)) := by rw [e2, au (Ne.symm ne)]; exact hr1
  have hc2 : w2[c]? = some (.lst (zs.map D.int)) := by rw [e2]; exact bt lc1
  have k2 : Pc.Kept w w2 r c := ⟨by rw [e2, List.length_set]; exact k1.1, fun i h2 h3 => by rw [e2, au (Ne.symm h3)]; exact k1.2 i h2 h3⟩
  have lz : zs.length + 1 ≤ 63 := by simpa using hl
  have d2 : bT w2 r c b := ⟨ne, zs, sm, a + 1, hr2, hc2, by omega, by omega⟩
  have ep : tT (.ref c) [.int 0] w1 = .ok (.int z) w2 := by
   unfold tT
   simp only [hc1]
   rw [if_pos (by omega), e2]
   have es : seqIndex? 0 ((z :: zs).map D.int).length = some 0 := by
    unfold seqIndex?
    simp
   rw [es]
   rfl
  simp only [Pc.ne_nil hc1, cR, List.isEmpty_cons, Bool.not_false, zY, ae, aa, reduceCtorEq]
  rw [bP]
  simp only [Y9 hc1, ep, cR, zY, ae, aa, reduceCtorEq]
  simp only [YD, WQ, zY, ae, aa, reduceCtorEq]
  split
  ·rw [bP]
   simp only [Y9 hc2, x6, zY, ae, aa, reduceCtorEq]
   refine ⟨⟨h0, h1⟩, ?_⟩
   obtain ⟨w3, e3⟩ : ∃ w3, w3 = w2.set c (.lst ((z / size :: zs).map D.int)) := ⟨_, rfl⟩
   have lc2 : c < w2.length := by rw [k2.1]; exact lc
   have ei : pR (.ref c) [.int 0, .int (z / size)] w2 = .ok .non w3 := by
    unfold pR
    simp only [hc2]
    rw [if_pos ⟨by rw [sizeLine_eq, bu]; omega, by omega, by omega⟩, e3]
    rfl
   have hr3 : w3[r]? = some (.dK (oI c ((a + 1 : Nat) : Int) sm)) := by rw [e3, au (Ne.symm ne)]; exact hr2
   have hc3 : w3[c]? = some (.lst ((z / size :: zs).map D.int)) := by rw [e3]; exact bt lc2
   have k3 : Pc.Kept w w3 r c := ⟨by rw [e3, List.length_set]; exact k2.1, fun i h2 h3 => by rw [e3, au (Ne.symm h3)]; exact k2.2 i h2 h3⟩
   simp only [ei, cR, zS, zY, ae, aa, reduceCtorEq]
   exact ⟨h0, hP _ w3 (Int.emod_nonneg _ (by omega)) (Int.emod_lt_of_pos _ h0) ⟨ne, z / size :: zs, sm, a + 1, hr3, hc3, by simpa using lz, by omega⟩ k3⟩
  ·exact fin _ w2 d2 k2
def LY : List Str := [("_law_deck_here" : Str), ("_law_some" : Str)]
def PM : MS := (bB (aE a8 (aB 1) (aJ CF 2 aN (aA (aB 0) (aA (aS dI (aA (aB 1) aD)) aD)))))
def HG : MF := bI PM LY
theorem Q8 {xs : List D} (h : bT w r c (b + 1)) (h0 : xs ≠ []) (h1 : xs.length < 1073741824) (hP : ∀ x w', x ∈ xs → bT w' r c b → Pc.Kept w w' r c → P x w') : T (HG [.ref r, .lst xs] w) P := by
 have bb : begin LY [.ref r, .lst xs] = [some (.ref r), some (.lst xs)] := rfl
 have l0 : 0 < xs.length := List.length_pos_iff.mpr h0
 unfold HG PM
 rw [eY, bb]
 simp only [Q5, zY, ae, aa, reduceCtorEq]
 refine eK h (by omega) (by omega) fun v w' v0 v1 d' k' => ?_
 obtain ⟨i, x, e1, e2, _⟩ := atI_nat v0 v1
 simp only [TF, L6, zY, ae, aa, reduceCtorEq]
 exact ⟨x, e2, hP x w' (bo e1) d' k'⟩
def NQ : List Str := [("_law_script" : Str), ("_law_cells" : Str)]
def M5 : MS :=
 (aK (aX (aS yP (aA (nW kX (aB 0) c8 (cQ (eC (.int 63)))) aD)) (a7 1))
 (bB (G5 (fU (eC (.str ("cells" : Str))) (aB 1) (fU (eC (.str ("at" : Str))) (eC (.int 0)) (fU (eC (.str ("sum" : Str))) (aE cB (aE hH (aS EY (aA (aB 1) aD)) (eC (.int 2147483629))) (aE mulM (eC (.int 17)) (aS dI (aA (aB 1) aD)))) FI))))))
def HY : MF := bI M5 NQ
theorem YL (x0 : D) : begin NQ [x0] = [some x0, none] := rfl
theorem RR {ns : List Int} (hn : ns.length ≤ 63) : T (HY [.jR (ns.map D.int)] []) fun d w => d = .ref 1 ∧ w.length = 2 ∧ bT w 1 0 (2 ^ 59) := by
 obtain ⟨ms, e1, e2⟩ := Q2 (ns := ns) (lo := none) (hi := some 63)
 have sl : kX (.jR (ns.map D.int)) none (some 63) [] = .ok (.lst (ms.map D.int)) [] := by simp only [kX, e1]
 have ln : yP [.lst (ms.map D.int)] [] = .ok (.ref 0) [.lst (ms.map D.int)] := rfl
 have h0 : ([MO.lst (ms.map D.int)] : W)[0]? = some (.lst (ms.map D.int)) := rfl
 have hl : ms.length ≤ 63 := by omega
 unfold HY M5
 rw [eY, YL, bP]
 simp only [sl, ln, cR, zY, ae, aa, reduceCtorEq]
 have sm : EY [.ref 0] [MO.lst (ms.map D.int)] = .ok (.int ms.sum) [MO.lst (ms.map D.int)] := by
  have : r4 (.ref 0) [MO.lst (ms.map D.int)] = some (ms.map D.int) := rfl
  simp only [EY, this, Option.bind_some, Pc.jZ]
 have lm : dI [.ref 0] [MO.lst (ms.map D.int)] = .ok (.int ms.length) [MO.lst (ms.map D.int)] := by simp [dI, BZ]
 simp only [sm, lm, cR, zS, C2, sI]
 exact ⟨by omega, v8 ⟨by omega, by omega⟩, _, rfl, by simp, rfl, rfl, by omega, ms, _, 0, rfl, rfl, hl, by omega⟩
end
theorem bT.less {w : W} {r c b b' : Nat} (d : bT w r c b) (h : b' ≤ b) : bT w r c b' := by
 obtain ⟨ne, cells, sm, a, h1, h2, h3, h4⟩ := d
 exact ⟨ne, cells, sm, a, h1, h2, h3, by omega⟩
section
variable {w : W} {P : D → W → Prop} {PF : Fl → W → Prop} {r c b H q : Nat} {us : List (Int × Int × Int)} {s1 s3 s4 s5 s7 s8 s9 s10 s11 s12 : Option D}
theorem E4 {o : MO} (d : bT w r c b) (h1 : q ≠ r) (h2 : q ≠ c) : bT (w.set q o) r c b := by
 obtain ⟨ne, cells, sm, a, g1, g2, g3, g4⟩ := d
 exact ⟨ne, cells, sm, a, by rw [au h1]; exact g1, by rw [au h2]; exact g2, g3, g4⟩
end
def YO (c : Nat) : Bool := decide (32 ≤ c) && (decide (c < 127) && ((c != 34) && ((c != 39) && (c != 92))))
def qU (l : Nat) (x : Str) : Bool := x.cps.toList.all YO && decide (x.cps.size ≤ 60 + l)
def yY (l : Nat) : D → Bool
 | .int i => decide (i.natAbs ≤ 1000000000000000000000000000000000000000 + 1000 * l)
 | .str x => qU l x
 | _ => false
def jC : Nat → Nat → D → Bool
 | 0, _, _ => false
 | _ + 1, _, .non => true
 | _ + 1, _, .bl _ => true
 | _ + 1, l, .int i => decide (i.natAbs ≤ 1000000000000000000000000000000000000000 + 1000 * l)
 | _ + 1, l, .str x => qU l x
 | n + 1, l, .tup xs => xs.all (jC n l) && decide (xs.length ≤ 40 + l)
 | n + 1, l, .lst xs => xs.all (jC n l) && decide (xs.length ≤ 40 + l)
 | n + 1, l, .sF ks vs => (ks.all (yY l) && vs.all (jC n l)) && (decide (ks.length = vs.length) && decide (ks.length ≤ 15))
 | _ + 1, _, _ => false
mutual
def jQ : D → Nat
 | .str x => x.cps.size
 | .tup xs => wtDs xs
 | .lst xs => wtDs xs
 | .nX xs => wtDs xs
 | .jR xs => wtDs xs
 | .sF ks vs => wtDs ks + wtDs vs
 | _ => 0
def wtDs : List D → Nat
 | [] => 0
 | x :: xs => jQ x + 1 + wtDs xs
end
theorem NV {c : Nat} (h : YO c = true) : c < 127 := by
 simp only [YO, ag, ah] at h
 exact h.2.1
theorem JL {l : Nat} {x : Str} (h : qU l x = true) : PyData.strOk x = true := by
 simp only [qU, ag, ak] at h
 unfold PyData.strOk
 rw [Array.all_eq_true_iff_forall_mem]
 intro c hc
 have := NV (h.1 c (by simpa using hc))
 simp only [ah]
 omega
theorem pQ {l l' : Nat} {x : Str} (h : qU l x = true) (hl : l ≤ l') : qU l' x = true := by
 simp only [qU, ag, ah] at h ⊢
 exact ⟨h.1, by omega⟩
theorem RH {l l' : Nat} {x : D} (h : yY l x = true) (hl : l ≤ l') : yY l' x = true := by
 cases x <;> simp only [yY, br] at h ⊢
 ·simp only [ah] at h ⊢
  omega
 ·exact pQ h hl
theorem eW : ∀ {n n' l l' : Nat} {d : D}, jC n l d = true → n ≤ n' → l ≤ l' → jC n' l' d = true
 | 0, _, _, _, _, h, _, _ => by simp [jC] at h
 | n + 1, 0, _, _, _, _, hn, _ => by omega
 | n + 1, n' + 1, l, l', d, h, hn, hl => by
  cases d <;> simp only [jC, br] at h ⊢
  ·simp only [ah] at h ⊢
   omega
  ·exact pQ h hl
  ·simp only [ag, ak, ah] at h ⊢
   exact ⟨fun x hx => eW (h.1 x hx) (by omega) hl, by omega⟩
  ·simp only [ag, ak, ah] at h ⊢
   exact ⟨fun x hx => eW (h.1 x hx) (by omega) hl, by omega⟩
  ·simp only [ag, ak, ah] at h ⊢
   exact ⟨⟨fun x hx => RH (h.1.1 x hx) hl, fun x hx => eW (h.1.2 x hx) (by omega) hl⟩, h.2⟩
theorem RF {n l : Nat} {x : D} (h : yY l x = true) (hl : l ≤ 1000) : k6 (n + 1) x = true := by
 cases x <;> simp only [yY, br] at h
 ·simp only [ah] at h
  simp only [k6, ah]
  omega
 ·exact JL h
theorem qV : ∀ {n l : Nat} {d : D}, jC n l d = true → l ≤ 1000 → k6 (n + 1) d = true
 | 0, _, _, h, _ => by simp [jC] at h
 | n + 1, l, d, h, hl => by
  cases d <;> simp only [jC, k6, br] at h ⊢
  ·simp only [ah] at h ⊢
   omega
  ·exact JL h
  ·simp only [ag, ak, ah] at h ⊢
   exact ⟨fun x hx => qV (h.1 x hx) hl, by omega⟩
  ·simp only [ag, ak, ah] at h ⊢
   exact ⟨fun x hx => qV (h.1 x hx) hl, by omega⟩
  ·simp only [ag, ak, ah] at h ⊢
   exact ⟨⟨fun x hx => RF (h.1.1 x hx) hl, fun x hx => qV (h.1.2 x hx) hl⟩, h.2.2⟩
mutual
def dR : PyData → Bool
 | .none => true
 | .bool _ => true
 | .int i => decide (i.natAbs < 10 ^ 40)
 | .str x => qU 100 x
 | .list xs => plainVs xs
 | .tuple xs => plainVs xs
 | .dict kvs => plainKv kvs
def plainVs : List PyData → Bool
 | [] => true
 | x :: xs => dR x && plainVs xs
def plainKv : List (PyData × PyData) → Bool
 | [] => true
 | (k, v) :: r => (dR k && dR v) && plainKv r
end
theorem L7 : ((List.range 127).all fun c => (Builtin.Str.reprChar 34 c).all (fun x => decide (x < 0x110000)) && (Builtin.Str.reprChar 39 c).all (fun x => decide (x < 0x110000))) = true := by decide +kernel
theorem DU {q c : Nat} (hq : q = 34 ∨ q = 39) (hc : c < 127) : ∀ x ∈ Builtin.Str.reprChar q c, x < 0x110000 := by
 have a := L7
 rw [ak] at a
 have b := a c (List.mem_range.mpr hc)
 simp only [ag, ak, ah] at b
 rcases hq with rfl | rfl
 ·exact b.1
 ·exact b.2
theorem D9 {x : Str} (h : x.cps.toList.all YO = true) : PyData.strOk (reprText x) = true := by
 have hq : reprQuote x = 34 ∨ reprQuote x = 39 := by
  unfold reprQuote
  split
  ·exact .inl rfl
  ·exact .inr rfl
 have key : ∀ (cs : List Nat) (acc : Array Nat), (∀ c ∈ cs, c < 127) → (∀ c ∈ acc.toList, c < 0x110000) → ∀ c ∈ (cs.foldl (fun out c => out ++ (Builtin.Str.reprChar (reprQuote x) c).toArray) acc).toList, c < 0x110000 := by
  intro cs
  induction cs with
  | nil => intro acc _ h2; exact h2
  | cons c cs ih =>
   intro acc h1 h2
   rw [List.foldl_cons]
   refine ih _ (fun y hy => h1 y (aw _ hy)) fun y hy => ?_
   rw [Array.toList_append] at hy
   rcases bf.mp hy with hy | hy
   ·exact h2 y hy
   ·exact DU hq (h1 c (aq ..)) y (by simpa using hy)
 unfold PyData.strOk
 rw [Array.all_eq_true_iff_forall_mem]
 intro c hc
 unfold reprText at hc
 simp only at hc
 rw [Array.mem_push] at hc
 simp only [ah]
 rcases hc with hc | rfl
 ·rw [← Array.foldl_toList] at hc
  rw [ak] at h
  exact key x.cps.toList #[reprQuote x] (fun y hy => NV (h y hy)) (fun y hy => by
   have : y = reprQuote x := by simpa using hy
   rcases hq with q | q <;> (rw [this, q]; decide)) c (Array.mem_toList_iff.mpr hc)
 ·rcases hq with q | q <;> (rw [q]; decide)
mutual
theorem jS : ∀ p : PyData, dR p = true → PyData.strOk p.shown = true
 | .none, _ => dX _
 | .bool b, _ => by cases b <;> exact dX _
 | .int i, _ => dX _
 | .str x, h => by
  rw [dR] at h
  simp only [qU, ag] at h
  exact D9 h.1
 | .list xs, h => by
  rw [dR] at h
  show PyData.strOk (textFrom 0 "[" (PyData.shownAll xs) ++ "]") = true
  rw [fI, k7 _ _ _ (dX _) (plainVs_shown xs h), dX]
  rfl
 | .tuple xs, h => by
  rw [dR] at h
  show PyData.strOk (tupleText (PyData.shownAll xs)) = true
  unfold tupleText
  rw [fI, fI, dX, rQ _ (dX _) _ (plainVs_shown xs h)]
  split <;> rw [dX] <;> rfl
 | .dict kvs, h => by
  rw [dR] at h
  show PyData.strOk (dictText (PyData.shownKv kvs)) = true
  unfold dictText
  rw [fI, fI, dX, dX, rQ _ (dX _) _ (plainKv_shown kvs h)]
  rfl
theorem plainVs_shown : ∀ ps : List PyData, plainVs ps = true → ∀ t ∈ PyData.shownAll ps, PyData.strOk t = true
 | [], _, t, ht => by simp [PyData.shownAll] at ht
 | p :: ps, h, t, ht => by
  simp only [plainVs, ag] at h
  simp only [PyData.shownAll, ao] at ht
  rcases ht with rfl | ht
  ·exact jS p h.1
  ·exact plainVs_shown ps h.2 t ht
theorem plainKv_shown : ∀ ps : List (PyData × PyData), plainKv ps = true → ∀ t ∈ PyData.shownKv ps, PyData.strOk t = true
 | [], _, t, ht => by simp [PyData.shownKv] at ht
 | (k, v) :: ps, h, t, ht => by
  simp only [plainKv, ag] at h
  simp only [PyData.shownKv, ao] at ht
  rcases ht with rfl | ht
  ·rw [fI, fI, jS k h.1.1, jS v h.1.2, dX]
   rfl
  ·exact plainKv_shown ps h.2 t ht
end
mutual
theorem mP : ∀ p : PyData, dR p = true → p.leavesShort 60 = true ∧ p.showable = true
 | .none, _ => by simp [PyData.leavesShort, PyData.showable]
 | .bool b, _ => by simp [PyData.leavesShort, PyData.showable]
 | .int i, h => by
  simp only [dR, ah] at h
  exact ⟨pJ h, sH h⟩
 | .str x, h => by
  simp only [dR, qU, ag, ak] at h
  refine ⟨?_, by simp [PyData.showable]⟩
  simp only [PyData.leavesShort, ak, ah]
  intro c hc
  have := NV (h.1 c hc)
  omega
 | .list xs, h => by
  rw [dR] at h
  have := plainVs_all xs h
  simp only [PyData.leavesShort, PyData.showable]
  exact this
 | .tuple xs, h => by
  rw [dR] at h
  have := plainVs_all xs h
  simp only [PyData.leavesShort, PyData.showable]
  exact this
 | .dict kvs, h => by
  rw [dR] at h
  have := plainKv_all kvs h
  simp only [PyData.leavesShort, PyData.showable]
  exact this
theorem plainVs_all : ∀ p : List PyData, plainVs p = true → PyData.leavesShortAll 60 p = true ∧ PyData.showableAll p = true
 | [], _ => by simp [PyData.leavesShortAll, PyData.showableAll]
 | p :: ps, h => by
  simp only [plainVs, ag] at h
  obtain ⟨a1, a2⟩ := mP p h.1
  obtain ⟨b1, b2⟩ := plainVs_all ps h.2
  simp only [PyData.leavesShortAll, PyData.showableAll, a1, a2, b1, b2]
  simp
theorem plainKv_all : ∀ p : List (PyData × PyData), plainKv p = true → PyData.leavesShortKv 60 p = true ∧ PyData.showableKv p = true
 | [], _ => by simp [PyData.leavesShortKv, PyData.showableKv]
 | (k, v) :: ps, h => by
  simp only [plainKv, ag] at h
  obtain ⟨a1, a2⟩ := mP k h.1.1
  obtain ⟨c1, c2⟩ := mP v h.1.2
  obtain ⟨b1, b2⟩ := plainKv_all ps h.2
  simp only [PyData.leavesShortKv, PyData.showableKv, a1, a2, b1, b2, c1, c2]
  simp
end
structure Told (n : Nat) (d : D) (p : PyData) : Prop where
 py : ∀ f, d.AO f = some p
 plain : dR p = true
 bulk : p.bulk = jQ d
 deep : p.depth ≤ n
theorem NB {l : Nat} (hl : l ≤ 100) : ∀ {ks : List D}, ks.all (yY l) = true → ∃ ps, n5 ks = some ps ∧ plainVs ps = true ∧ PyData.bulkAll ps = wtDs ks ∧ ps.length = ks.length ∧ PyData.depthAll ps = 0
 | [], _ => ⟨[], rfl, rfl, rfl, rfl, rfl⟩
 | d :: ds, h => by
  simp only [List.all_cons, ag] at h
  obtain ⟨ps, h1, h2, h3, h4, h5⟩ := NB hl h.2
  cases d <;> simp only [yY, br, false_and] at h
  ·rename_i i
   refine ⟨.int i :: ps, by simp only [n5, h1, Option.map_some], ?_, ?_, by simp [h4], ?_⟩
   ·have := h.1
    simp only [ah] at this
    simp only [plainVs, dR, h2, Bool.and_true, ah]
    omega
   ·rw [PyData.bulkAll, wtDs, h3]
    simp [PyData.bulk, jQ]
   ·rw [PyData.depthAll, h5]
    simp [PyData.depth]
  ·rename_i x
   refine ⟨.str x :: ps, by simp only [n5, h1, Option.map_some], ?_, ?_, by simp [h4], ?_⟩
   ·simp only [plainVs, dR, h2, Bool.and_true]
    exact pQ h.1 (by omega)
   ·rw [PyData.bulkAll, wtDs, h3]
    simp [PyData.bulk, jQ]
   ·rw [PyData.depthAll, h5]
    simp [PyData.depth]
theorem AX {n : Nat} : ∀ {xs : List D}, (∀ x ∈ xs, ∃ p, Told n x p) → ∃ ps, (∀ f, D.pysV f xs = some ps) ∧ plainVs ps = true ∧ PyData.bulkAll ps = wtDs xs ∧ ps.length = xs.length ∧ PyData.depthAll ps ≤ n
 | [], _ => ⟨[], fun _ => rfl, rfl, rfl, rfl, Nat.zero_le _⟩
 | x :: xs, h => by
  obtain ⟨p, t⟩ := h x (aq ..)
  obtain ⟨ps, h1, h2, h3, h4, h5⟩ := AX fun y hy => h y (aw _ hy)
  refine ⟨p :: ps, fun f => ?_, ?_, ?_, by simp [h4], ?_⟩
  ·unfold D.pysV
   rw [t.py f, h1 f]
  ·simp only [plainVs, t.plain, h2, Bool.and_self]
  ·rw [PyData.bulkAll, wtDs, h3, t.bulk]
  ·rw [PyData.depthAll]
   have := t.deep
   omega
theorem O8 : ∀ {ks vs : List PyData}, ks.length = vs.length → plainVs ks = true → plainVs vs = true → plainKv (ks.zip vs) = true ∧ PyData.bulkKv (ks.zip vs) = PyData.bulkAll ks + PyData.bulkAll vs ∧ PyData.depthKv (ks.zip vs) = max (PyData.depthAll ks) (PyData.depthAll vs)
 | [], [], _, _, _ => ⟨rfl, rfl, rfl⟩
 | [], _ :: _, h, _, _ => by simp at h
 | _ :: _, [], h, _, _ => by simp at h
 | k :: ks, v :: vs, h, h1, h2 => by
  simp only [plainVs, ag] at h1 h2
  obtain ⟨a, b, c⟩ := O8 (ks := ks) (vs := vs) (by simpa using h) h1.2 h2.2
  simp only [List.zip_cons_cons, plainKv, PyData.bulkKv, PyData.depthKv, PyData.bulkAll, PyData.depthAll, h1.1, h2.1, a, b, c, Bool.and_self, true_and]
  omega
theorem I8 : ∀ {n l : Nat} {d : D}, jC n l d = true → l ≤ 100 → ∃ p, Told n d p
 | 0, _, _, h, _ => by simp [jC] at h
 | n + 1, l, d, h, hl => by
  cases d <;> simp only [jC, br] at h
  ·exact ⟨.none, fun _ => rfl, rfl, rfl, by simp [PyData.depth]⟩
  ·exact ⟨.bool _, fun _ => rfl, rfl, rfl, by simp [PyData.depth]⟩
  ·refine ⟨.int _, fun _ => rfl, ?_, rfl, by simp [PyData.depth]⟩
   simp only [ah] at h
   simp only [dR, ah]
   omega
  ·refine ⟨.str _, fun _ => rfl, ?_, rfl, by simp [PyData.depth]⟩
   rw [dR]
   exact pQ h (by omega)
  ·simp only [ag, ak, ah] at h
   obtain ⟨ps, h1, h2, h3, h4, h5⟩ := AX fun x hx => I8 (h.1 x hx) hl
   exact ⟨.tuple ps, fun f => by unfold D.AO; rw [h1 f]; rfl, by rw [dR]; exact h2, by rw [PyData.bulk, h3, jQ], by rw [PyData.depth]; omega⟩
  ·simp only [ag, ak, ah] at h
   obtain ⟨ps, h1, h2, h3, h4, h5⟩ := AX fun x hx => I8 (h.1 x hx) hl
   exact ⟨.list ps, fun f => by unfold D.AO; rw [h1 f]; rfl, by rw [dR]; exact h2, by rw [PyData.bulk, h3, jQ], by rw [PyData.depth]; omega⟩
  ·rename_i ks vs
   simp only [ag, ah] at h
   obtain ⟨⟨g1, g2⟩, g3, g4⟩ := h
   obtain ⟨kp, a1, a2, a3, a4, a5⟩ := NB hl g1
   rw [ak] at g2
   obtain ⟨ps, h1, h2, h3, h4, h5⟩ := AX fun x hx => I8 (g2 x hx) hl
   have el : kp.length = ps.length := by omega
   obtain ⟨z1, z2, z3⟩ := O8 el a2 h2
   refine ⟨.dict (kp.zip ps), fun f => ?_, by rw [dR]; exact z1, by rw [PyData.bulk, z2, a3, h3, jQ], by rw [PyData.depth, z3]; omega⟩
   unfold D.AO
   rw [a1, h1 f]
   simp only [el, ae]
section
variable {w : W} {P : D → W → Prop} {d : D} {p : PyData} {n l : Nat}
theorem SA (t : Told n d p) (hn : n ≤ 40) (hb : jQ d ≤ 200000) : T (oE [d] w) P = P (.str p.shown) w := by
 obtain ⟨a1, a2⟩ := mP p t.plain
 have b := PyData.shown_le_bulk 60 (by decide) p a1
 have dd := t.deep
 have z := t.bulk
 have e2 : CK d w = some p.shown := by
  unfold CK
  rw [t.py]
  simp only []
  rw [if_pos]
  refine ⟨a2, by omega, ?_⟩
  have := sizeLine_eq
  have : (60 + 2) * p.bulk ≤ 62 * 200000 := Nat.mul_le_mul_left _ (by omega)
  omega
 have : oE [d] w = .ok (.str p.shown) w := by simp only [oE, e2]
 rw [this, cR]
theorem EK (h : jC n l d = true) (hl : l ≤ 100) (hn : n ≤ 40) (hb : jQ d ≤ 200000) : ∃ z, PyData.strOk z = true ∧ ∀ (w : W) (P : D → W → Prop), T (oE [d] w) P = P (.str z) w := by
 obtain ⟨p, t⟩ := I8 h hl
 exact ⟨p.shown, jS p t.plain, fun w P => SA t hn hb⟩
end
mutual
theorem XC {f : Nat → Option PyData} (hf : ∀ i, f i = none) : ∀ (d : D) {q : PyData}, d.e7 f = some q → q.bulk = jQ d
 | .non, _, h => by simp only [D.e7, af] at h; subst h; rfl
 | .bl _, _, h => by simp only [D.e7, af] at h; subst h; rfl
 | .int _, _, h => by simp only [D.e7, af] at h; subst h; rfl
 | .str _, _, h => by simp only [D.e7, af] at h; subst h; rfl
 | .ty _, _, h => by simp [D.e7] at h
 | .con _, _, h => by simp [D.e7] at h
 | .sF _ _, _, h => by simp [D.e7] at h
 | .ref i, _, h => by
  simp only [D.e7, hf] at h
  cases h
 | .tup xs, _, h => by
  simp only [D.e7, ai] at h
  obtain ⟨ps, h1, rfl⟩ := h
  rw [PyData.bulk, jQ, wts_py hf xs h1]
 | .nX xs, _, h => by
  simp only [D.e7, ai] at h
  obtain ⟨ps, h1, rfl⟩ := h
  rw [PyData.bulk, jQ, wts_py hf xs h1]
 | .lst xs, _, h => by
  simp only [D.e7, ai] at h
  obtain ⟨ps, h1, rfl⟩ := h
  rw [PyData.bulk, jQ, wts_py hf xs h1]
 | .jR xs, _, h => by
  simp only [D.e7, ai] at h
  obtain ⟨ps, h1, rfl⟩ := h
  rw [PyData.bulk, jQ, wts_py hf xs h1]
theorem wts_py {f : Nat → Option PyData} (hf : ∀ i, f i = none) : ∀ (ds : List D) {qs : List PyData}, D.pysR f ds = some qs → PyData.bulkAll qs = wtDs ds
 | [], _, h => by simp only [D.pysR, af] at h; subst h; rfl
 | d :: ds, _, h => by
  simp only [D.pysR] at h
  split at h
  ·rename_i p ps e1 e2
   cases h
   rw [PyData.bulkAll, wtDs, XC hf d e1, wts_py hf ds e2]
  ·cases h
end
theorem OG {i : Int} (h : i.natAbs < 10 ^ 40) : qU 0 (toString i : String) = true := by
 simp only [qU, ag, ak, ah]
 refine ⟨fun c hc => ?_, ?_⟩
 ·rw [signs_ofString] at hc
  obtain ⟨ch, hm, rfl⟩ := List.mem_map.mp hc
  rcases int_sign i ch hm with hd | rfl
  ·have := digit_range hd
   simp only [YO, ag, ah, bne_iff_ne, ne_eq]
   omega
  ·decide
 ·have := pJ h
  simp only [PyData.leavesShort, ah] at this
  exact bw this (by omega)
theorem l7 : ∀ {xs ys : List D}, wtDs (xs ++ ys) = wtDs xs + wtDs ys
 | [], ys => by simp [wtDs]
 | x :: xs, ys => by
  rw [List.cons_append, wtDs, wtDs, l7 (xs := xs)]
  omega
theorem wC {xs : List D} (n : Nat) : wtDs (xs.take n) + wtDs (xs.drop n) = wtDs xs := by
 rw [← l7, List.take_append_drop]
theorem IP {xs : List D} (n : Nat) : wtDs (xs.take n) ≤ wtDs xs := by
 have := wC (xs := xs) n
 omega
theorem JY {xs : List D} (n : Nat) : wtDs (xs.drop n) ≤ wtDs xs := by
 have := wC (xs := xs) n
 omega
theorem GK : ∀ {xs : List D}, wtDs xs.reverse = wtDs xs
 | [] => rfl
 | x :: xs => by
  rw [List.reverse_cons, l7, GK (xs := xs)]
  simp only [wtDs]
  omega
theorem TM {xs : List D} {i : Nat} {x : D} (h : xs[i]? = some x) : wtDs (xs.take i) + (jQ x + 1) + wtDs (xs.drop (i + 1)) = wtDs xs := by
 have a := wC (xs := xs) i
 have hl := (aj.mp h).1
 have b : xs.drop i = x :: xs.drop (i + 1) := by
  rw [List.drop_eq_getElem_cons hl]
  congr 1
  exact (aj.mp h).2
 rw [b, wtDs] at a
 omega
theorem tY {n l : Nat} {xs : List D} (h : ∀ x ∈ xs, jC n l x = true) (hl : xs.length ≤ 40 + l) : jC (n + 1) l (.tup xs) = true := by
 simp only [jC, ag, ak, ah]
 exact ⟨h, hl⟩
theorem HP {n l : Nat} {xs : List D} (h : ∀ x ∈ xs, jC n l x = true) (hl : xs.length ≤ 40 + l) : jC (n + 1) l (.lst xs) = true := by
 simp only [jC, ag, ak, ah]
 exact ⟨h, hl⟩
theorem DP {n l : Nat} {xs : List D} (h : jC (n + 1) l (.tup xs) = true) : (∀ x ∈ xs, jC n l x = true) ∧ xs.length ≤ 40 + l := by
 simp only [jC, ag, ak, ah] at h
 exact h
def VN (n l b : Nat) (y : D) : Prop := jC (n + 2) (l + 1) y = true ∧ jQ y ≤ 3 * b + 100
section
variable {n l at_ : Nat} {xs : List D} {x : D}
theorem NU {ys : List D} (h : jC n l (.tup xs) = true) (hm : ∀ y ∈ ys, y ∈ xs) (hl : ys.length ≤ xs.length + 1) (hw : wtDs ys ≤ 3 * wtDs xs) : VN n l (jQ (.tup xs)) (.tup ys) ∧ VN n l (jQ (.tup xs)) (.lst ys) := by
 cases n with
 | zero => simp [jC] at h
 | succ n =>
  obtain ⟨h1, h2⟩ := DP h
  refine ⟨⟨tY (fun y hy => eW (h1 y (hm y hy)) (by omega) (by omega)) (by omega), ?_⟩, ⟨HP (fun y hy => eW (h1 y (hm y hy)) (by omega) (by omega)) (by omega), ?_⟩⟩
  ·simp only [jQ]; omega
  ·simp only [jQ]; omega
theorem V1 {i : Nat} (h : jC n l (.tup xs) = true) (hx : xs[i]? = some x) : VN n l (jQ (.tup xs)) x := by
 cases n with
 | zero => simp [jC] at h
 | succ n =>
  obtain ⟨h1, h2⟩ := DP h
  have := TM hx
  exact ⟨eW (h1 x (bo hx)) (by omega) (by omega), by simp only [jQ]; omega⟩
theorem IY (h : jC n l x = true) : VN n l (jQ x) (.tup [x]) ∧ VN n l (jQ x) (.lst [x]) := by
 refine ⟨⟨tY (fun y hy => ?_) (by simp; omega), by simp only [jQ, wtDs]; omega⟩, ⟨HP (fun y hy => ?_) (by simp; omega), by simp only [jQ, wtDs]; omega⟩⟩
 ·rw [bq.mp hy]
  exact eW h (by omega) (by omega)
 ·rw [bq.mp hy]
  exact eW h (by omega) (by omega)
theorem QS {b : Nat} {y : D} (h : jC 3 0 y = true) (hn : 1 ≤ n) (hw : jQ y ≤ 100) : VN n l b y := ⟨eW h (by omega) (by omega), by omega⟩
end
theorem VT {xs : List D} {i : Int} (h0 : 0 ≤ i) (h1 : i < (xs.length : Nat)) : ∃ x, atI xs i = some x ∧ x ∈ xs := by
 obtain ⟨j, rfl⟩ : ∃ j : Nat, i = (j : Int) := ⟨i.toNat, by omega⟩
 have hj : j < xs.length := by omega
 exact ⟨xs[j], GG (av hj), List.getElem_mem hj⟩
section
variable {w : W} {P : D → W → Prop} {n : Nat} {d : D}
theorem QE {a b : List D} (h : a.length + b.length ≤ 1000) : T (cB (.tup a) (.tup b) w) P = P (.tup (a ++ b)) w := by
 have : cB (.tup a) (.tup b) w = .ok (.tup (a ++ b)) w := by
  simp only [cB, if_pos (show a.length + b.length ≤ sizeLine by rw [sizeLine_eq]; omega)]
 rw [this, cR]
theorem T6 {i : Int} (h : i.natAbs < 10 ^ 40) : T (K9 [.int i] w) P = P (.str (toString i : String)) w := by
 have l : i.natAbs.log2 < 1920 := by
  have := sH h
  simpa only [PyData.showable, ah] using this
 have : K9 [.int i] w = .ok (.str (toString i : String)) w := by
  simp only [K9, if_pos l]
 rw [this, cR]
theorem U2 {m : MP} {σ : Sg} {kvs : List (Key × D)} {ps : List (D × D)} (h : m σ w = .ok ps w) (hk : keyed ps = some kvs) (hl : kvs.length ≤ 15) : T (AJ m σ w) P = P (I0 (j5 [] kvs)) w := by
 have : AJ m σ w = .ok (I0 (j5 [] kvs)) w := by
  unfold AJ
  rw [h]
  simp only [Res.P4, hk, if_pos hl]
 rw [this, cR]
theorem IM {σ : Sg} : T (xX σ w) P = P (.sF [] []) w := by unfold xX; rw [cR]
theorem U6 {xs : List D} {lo hi : Option Int} : kX (.tup xs) lo hi w = .ok (.tup (Pc.cutD xs lo hi)) w := rfl
theorem S0 {xs : List D} : KJ (.tup xs) w = .ok (.tup xs.reverse) w := rfl
theorem NC {xs : List D} : xN [.tup xs] w = .ok (.lst xs) w := rfl
end
end Lw
namespace K63
open PySem PySem.Spec PyProof.Rows L2 Pc
structure Fx (S : aQ) where
 k : bM
 wX : S.mg ("all" : Str) = none
 H0 : S.mg ("bool" : Str) = none
 I6 : S.mg ("int" : Str) = none
 aW : S.mg ("isinstance" : Str) = none
 fJ : S.mg ("len" : Str) = none
 CO : S.mg ("list" : Str) = none
 jO : S.mg ("range" : Str) = none
 yC : S.mg ("repr" : Str) = none
 OX : S.mg ("set" : Str) = none
 xH : S.mg ("sorted" : Str) = none
 J9 : S.mg ("str" : Str) = none
 SW : S.mg ("sum" : Str) = none
 bW : S.mg ("tuple" : Str) = none
 SN : S.mg ("zip" : Str) = none
 p9 : WG S ("MOST_NUMBER" : Str) (.int 999)
 uW : WG S ("OF_A_FATE" : Str) (.int 4)
 L4 : WG S ("TEAR" : Str) (.str ("tear" : Str))
 BB : WG S ("FORMS" : Str) (.con k.gJ)
 CH : KTab S.K S.w k.gJ bO
 iZ : Addr
 lF : FuncData
 oJ : FunD S.K ("_law_deck" : Str) ("_law_deck" : Str) (defArgs (top 15)) (defBody (top 15)) (defScope (top 15)) [] [] iZ lF
 uV : S.mg ("_law_deck" : Str) = some (.ref iZ)
 rN : PySem.W.keepIn S.K (.ref iZ) = true
 iP : Addr
 lE : FuncData
 oX : FunD S.K ("_law_draw" : Str) ("_law_draw" : Str) (defArgs (top 16)) (defBody (top 16)) (defScope (top 16)) [] [] iP lE
 aY : S.mg ("_law_draw" : Str) = some (.ref iP)
 aR : PySem.W.keepIn S.K (.ref iP) = true
 eP : Addr
 fQ : FuncData
 hZ : FunD S.K ("_law_is_number" : Str) ("_law_is_number" : Str) (defArgs (top 23)) (defBody (top 23)) (defScope (top 23)) [] [] eP fQ
 fS : S.mg ("_law_is_number" : Str) = some (.ref eP)
 fF : PySem.W.keepIn S.K (.ref eP) = true
 f7 : Addr
 iL : FuncData
 lV : FunD S.K ("_law_is_lot" : Str) ("_law_is_lot" : Str) (defArgs (top 24)) (defBody (top 24)) (defScope (top 24)) [] [] f7 iL
 lM : S.mg ("_law_is_lot" : Str) = some (.ref f7)
 kR : PySem.W.keepIn S.K (.ref f7) = true
 f9 : Addr
 iI : FuncData
 lT : FunD S.K ("_law_is_act" : Str) ("_law_is_act" : Str) (defArgs (top 25)) (defBody (top 25)) (defScope (top 25)) [] [] f9 iI
 qE : S.mg ("_law_is_act" : Str) = some (.ref f9)
 oO : PySem.W.keepIn S.K (.ref f9) = true
 eZ : Addr
 gE : FuncData
 i5 : FunD S.K ("_law_is_story" : Str) ("_law_is_story" : Str) (defArgs (top 26)) (defBody (top 26)) (defScope (top 26)) [] [] eZ gE
 nR : S.mg ("_law_is_story" : Str) = some (.ref eZ)
 mF : PySem.W.keepIn S.K (.ref eZ) = true
 kH : Addr
 m2 : FuncData
 rB : FunD S.K ("is_whole" : Str) ("is_whole" : Str) (defArgs (top 1)) (defBody (top 1)) (defScope (top 1)) [] [] kH m2
 wH : S.mg ("is_whole" : Str) = some (.ref kH)
 uZ : PySem.W.keepIn S.K (.ref kH) = true
 iS : Addr
 lC : FuncData
 oQ : FunD S.K ("is_within" : Str) ("is_within" : Str) (defArgs (top 2)) (defBody (top 2)) (defScope (top 2)) [] [] iS lC
 uT : S.mg ("is_within" : Str) = some (.ref iS)
 rX : PySem.W.keepIn S.K (.ref iS) = true
 gD : Addr
 iJ : FuncData
 l5 : FunD S.K ("are_numbers" : Str) ("are_numbers" : Str) (defArgs (top 8)) (defBody (top 8)) (defScope (top 8)) [] [] gD iJ
 iO : S.mg ("are_numbers" : Str) = some (.ref gD)
 gX : PySem.W.keepIn S.K (.ref gD) = true
 mN : Addr
 pS : FuncData
 uN : FunD S.K ("is_fate" : Str) ("is_fate" : Str) (defArgs (top 11)) (defBody (top 11)) (defScope (top 11)) [] [] mN pS
 AK : S.mg ("is_fate" : Str) = some (.ref mN)
 yB : PySem.W.keepIn S.K (.ref mN) = true
 i4 : Addr
 kW : FuncData
 pD : FunD S.K ("is_rising" : Str) ("is_rising" : Str) (defArgs (top 9)) (defBody (top 9)) (defScope (top 9)) [] [] i4 kW
 oS : S.mg ("is_rising" : Str) = some (.ref i4)
 mW : PySem.W.keepIn S.K (.ref i4) = true
 mK : Addr
 pW : FuncData
 t8 : FunD S.K ("is_form" : Str) ("is_form" : Str) (defArgs (top 10)) (defBody (top 10)) (defScope (top 10)) [] [] mK pW
 z9 : S.mg ("is_form" : Str) = some (.ref mK)
 xZ : PySem.W.keepIn S.K (.ref mK) = true
 mE : Addr
 pO : FuncData
 uF : FunD S.K ("is_turn" : Str) ("is_turn" : Str) (defArgs (top 12)) (defBody (top 12)) (defScope (top 12)) [] [] mE pO
 zV : S.mg ("is_turn" : Str) = some (.ref mE)
 yS : PySem.W.keepIn S.K (.ref mE) = true
 kM : Addr
 kS : FuncData
 mO : FunD S.K ("is_story" : Str) ("is_story" : Str) (defArgs (top 13)) (defBody (top 13)) (defScope (top 13)) [] [] kM kS
 mR : S.mg ("is_story" : Str) = some (.ref kM)
 kY : PySem.W.keepIn S.K (.ref kM) = true
 gY : Addr
 jN : FuncData
 mV : FunD S.K ("_law_right" : Str) ("_law_right" : Str) (defArgs (top 29)) (defBody (top 29)) (defScope (top 29)) [] [] gY jN
 jU : S.mg ("_law_right" : Str) = some (.ref gY)
 iM : PySem.W.keepIn S.K (.ref gY) = true
 j7 : Addr
 mT : FuncData
 q8 : FunD S.K ("_law_odd" : Str) ("_law_odd" : Str) (defArgs (top 27)) (defBody (top 27)) (defScope (top 27)) [] [] j7 mT
 eB : S.mg ("_law_odd" : Str) = some (.ref j7)
 dB : PySem.W.keepIn S.K (.ref j7) = true
 bN : Addr
 bS : FuncData
 cJ : FunD S.K ("_law_spoilt" : Str) ("_law_spoilt" : Str) (defArgs (top 28)) (defBody (top 28)) (defScope (top 28)) [] [] bN bS
 cE : S.mg ("_law_spoilt" : Str) = some (.ref bN)
 bU : PySem.W.keepIn S.K (.ref bN) = true
 f6 : Addr
 iH : FuncData
 lI : FunD S.K ("_law_number" : Str) ("_law_number" : Str) (defArgs (top 18)) (defBody (top 18)) (defScope (top 18)) [] [] f6 iH
 h9 : S.mg ("_law_number" : Str) = some (.ref f6)
 g6 : PySem.W.keepIn S.K (.ref f6) = true
 kJ : Addr
 nD : FuncData
 qJ : FunD S.K ("_law_lot" : Str) ("_law_lot" : Str) (defArgs (top 19)) (defBody (top 19)) (defScope (top 19)) [] [] kJ nD
 q9 : S.mg ("_law_lot" : Str) = some (.ref kJ)
 oR : PySem.W.keepIn S.K (.ref kJ) = true
 iV : Addr
 lG : FuncData
 oZ : FunD S.K ("_law_pick" : Str) ("_law_pick" : Str) (defArgs (top 17)) (defBody (top 17)) (defScope (top 17)) [] [] iV lG
 vG : S.mg ("_law_pick" : Str) = some (.ref iV)
 rF : PySem.W.keepIn S.K (.ref iV) = true
 j3 : Addr
 nA : FuncData
 qI : FunD S.K ("_law_act" : Str) ("_law_act" : Str) (defArgs (top 20)) (defBody (top 20)) (defScope (top 20)) [] [] j3 nA
 yQ : S.mg ("_law_act" : Str) = some (.ref j3)
 vR : PySem.W.keepIn S.K (.ref j3) = true
 iX : Addr
 k9 : FuncData
 oC : FunD S.K ("_law_turn" : Str) ("_law_turn" : Str) (defArgs (top 21)) (defBody (top 21)) (defScope (top 21)) [] [] iX k9
 vD : S.mg ("_law_turn" : Str) = some (.ref iX)
 sL : PySem.W.keepIn S.K (.ref iX) = true
 gS : Addr
 jP : FuncData
 mX : FunD S.K ("_law_story" : Str) ("_law_story" : Str) (defArgs (top 22)) (defBody (top 22)) (defScope (top 22)) [] [] gS jP
 rY : S.mg ("_law_story" : Str) = some (.ref gS)
 qA : PySem.W.keepIn S.K (.ref gS) = true
 zQ : Addr
 I9 : FuncData
 S4 : FunD S.K ("law" : Str) ("law" : Str) (defArgs (top 30)) (defBody (top 30)) (defScope (top 30)) [] [] zQ I9
 S8 : S.mg ("law" : Str) = some (.ref zQ)
 VL : PySem.W.keepIn S.K (.ref zQ) = true
 NF : CQ S.K
def oL : List Str := [("_law_script" : Str), ("_law_cells" : Str)]
def n6 : List Str := [("_law_script" : Str)]
abbrev vJ : Scope := defScope (top 15)
def vH (k : bM) : MS :=
 (aK (aX (aS yP (aA (nW kX (aB 0) c8 (cQ (eC (.int 63)))) aD)) (a7 1))
 (bB (G5 (fU (eC (.str ("cells" : Str))) (aB 1) (fU (eC (.str ("at" : Str))) (eC (.int 0)) (fU (eC (.str ("sum" : Str))) (aE cB (aE hH (aS EY (aA (aB 1) aD)) (eC (.int 2147483629))) (aE mulM (eC (.int 17)) (aS dI (aA (aB 1) aD)))) FI))))))
def oW (k : bM) : MF := bI (vH k) oL
theorem CA : FnScope oL n6 vJ := b0 (by decide +kernel)
theorem BL {S : aQ} (h : Fx S) : lD (S.body 0 oL vJ) (defBody (top 15)) (vH h.k) :=
 (aM (oG 1 (gA NP rfl h.CO rfl (aC (dY dW (jv 0) b9 (bV aH)) aF)))
 (aV (bD (H6 (eU bK (jv 1) (eU bK aH (eU bK (a6 b6 (a6 rA (aO UJ rfl h.SW rfl (aC (jv 1) aF)) aH) (a6 qY aH (aO dQ rfl h.fJ rfl (aC (jv 1) aF)))) AS)))))))
theorem A9 {S : aQ} (h : Fx S) : eL S.P S.w S.K S.mg S.base 1 h.iZ h.lF n6 (oW h.k) := eL.of h.oJ CA (BL h) fun _ _ _ => .fW
theorem BI {S : aQ} (h : Fx S) : c7 S.K h.lF n6 1 [] aN := bQ h.oJ fun _ _ _ _ _ _ us hl => match us, hl with
 | [_], _ => rfl
def oM : List Str := [("_law_deck_here" : Str), ("_law_bound" : Str), ("_law_at" : Str), ("_law_cells" : Str), ("_law_seed" : Str), ("_law_number_here" : Str)]
def oF : List Str := [("_law_deck_here" : Str), ("_law_bound" : Str)]
abbrev vB : Scope := defScope (top 16)
def vO (k : bM) : MS :=
 (aK (aX (aE cB (aE a8 (aB 0) (eC (.str ("at" : Str)))) (eC (.int 1))) (dC (aB 0) (eC (.str ("at" : Str)))))
 (aK (aX (aE a8 (aB 0) (eC (.str ("at" : Str)))) (a7 2))
 (aK (aX (aE a8 (aB 0) (eC (.str ("cells" : Str)))) (a7 3))
 (aK (aX (aE cB (aE a8 (aB 0) (eC (.str ("sum" : Str)))) (aB 2)) (a7 4))
 (aK (dN (bG (aE p7 (aB 3) (hY aD))) (aK (aX (c5 "list" tT (aB 3) (aA (eC (.int 0)) aD)) (a7 4))
 (dN (bG (aE QW (aB 4) (aE yO (eC (.int 10)) (eC (.int 18))))) (aK (cX (c5 "list" pR (aB 3) (aA (eC (.int 0)) (aA (aE qF (aB 4) (aB 1)) aD))))
 (bB (aE hH (aB 4) (aB 1)))) a9)) a9)
 (aK (aX (aE hH (aE cB (aE cB (aE mulM (aE hH (aB 4) (eC (.int 2147483647))) (eC (.int 48271))) (aE mulM (aE mulM (eC (.int 69621)) (aB 2)) (aB 2))) (eC (.int 7919))) (eC (.int 2147483629))) (a7 5))
 (aK (aX (aE hH (aE mulM (aB 5) (aB 5)) (eC (.int 2147483587))) (a7 5))
 (bB (aE hH (aE qF (aE hH (aE mulM (aB 5) (aE cB (aB 5) (eC (.int 39373)))) (eC (.int 2147483563))) (eC (.int 64))) (aB 1))))))))))
def bL (k : bM) : MF := bI (vO k) oM
theorem BM : FnScope oM oF vB := b0 (by decide +kernel)
theorem AW {S : aQ} (h : Fx S) : lD (S.body 0 oM vB) (defBody (top 16)) (vO h.k) :=
 (aM (H9 (a6 b6 (cZ (jv 0) bK) aH) (VE (jv 0) bK))
 (aM (oG 2 (cZ (jv 0) bK))
 (aM (oG 3 (cZ (jv 0) bK))
 (aM (oG 4 (a6 b6 (cZ (jv 0) bK) (jv 2)))
 (aM (eG (b5 vA (jv 3) (eM aF)) (aM (oG 4 (pL PySem.F.plainAttrs_list PySem.F.slot_list_pop LU (jv 3) (aC aH aF)))
 (aV (eG (b5 WL (jv 4) (a6 LZ aH aH)) (aM (CL (pL PySem.F.plainAttrs_list PySem.F.slot_list_insert LD (jv 3) (aC aH (aC (a6 KC (jv 4) (jv 1)) aF))))
 (aV (bD (a6 rA (jv 4) (jv 1))))) b8))) b8)
 (aM (oG 5 (a6 rA (a6 b6 (a6 b6 (a6 qY (a6 rA (jv 4) aH) aH) (a6 qY (a6 qY aH (jv 2)) (jv 2))) aH) aH))
 (aM (oG 5 (a6 rA (a6 qY (jv 5) (jv 5)) aH))
 (aV (bD (a6 rA (a6 KC (a6 rA (a6 qY (jv 5) (a6 b6 (jv 5) aH)) aH) aH) (jv 1)))))))))))
theorem aT {S : aQ} (h : Fx S) : eL S.P S.w S.K S.mg S.base 1 h.iP h.lE oF (bL h.k) := eL.of h.oX BM (AW h) fun _ _ _ => .fW
theorem aU {S : aQ} (h : Fx S) : c7 S.K h.lE oF 2 [] aN := bQ h.oX fun _ _ _ _ _ _ us hl => match us, hl with
 | [_, _], _ => rfl
def fR : List Str := [("_law_it" : Str)]
def hU : List Str := [("_law_it" : Str)]
abbrev mD : Scope := defScope (top 23)
def hV (k : bM) : MS :=
 (bB (gP (aS (fP fX) (aA (aB 0) (aA (eC (.ty "int")) aD))) (gP (sT notM (aS (fP fX) (aA (aB 0) (aA (eC (.ty "bool")) aD)))) (Q3 ON ON (eC (.int 0)) (aB 0) (eC (.int 999))))))
def dD (k : bM) : MF := bI (hV k) fR
theorem sG : FnScope fR hU mD := b0 (by decide +kernel)
theorem r8 {S : aQ} (h : Fx S) : lD (S.body 0 fR mD) (defBody (top 23)) (hV h.k) :=
 (aV (bD (fV (aO (cL bX) rfl h.aW rfl (aC (jv 0) (aC (cK rfl h.I6 rfl) aF))) (fV (L3 (aO (cL bX) rfl h.aW rfl (aC (jv 0) (aC (cK rfl h.H0 rfl) aF)))) (kF (E5 J8 J8 aH (jv 0) aH))))))
theorem gW {S : aQ} (h : Fx S) : eL S.P S.w S.K S.mg S.base 1 h.eP h.fQ hU (dD h.k) := eL.of h.hZ sG (r8 h) fun _ _ _ => .fW
theorem gQ {S : aQ} (h : Fx S) : c7 S.K h.fQ hU 1 [] aN := bQ h.hZ fun _ _ _ _ _ _ us hl => match us, hl with
 | [_], _ => rfl
def iB : List Str := [("_law_it" : Str), ("_law_fewest" : Str), ("_law_one" : Str)]
def lS : List Str := [("_law_it" : Str), ("_law_fewest" : Str)]
abbrev p8 : Scope := defScope (top 24)
def lJ (k : bM) : MS :=
 (aK (dN (eQ (cH (cV (aS (fP fX) (aA (aB 0) (aA (eC (.ty "tuple")) aD))))) (eQ (bG (aE FR (aS dI (aA (aB 0) aD)) (aB 1))) (bG (aE p7 (bR (dP (aB 0)) [2] (a7 2) (cH (cV (aJ (dD k) 1 aN (aA (aB 2) aD)))) (aB 2)) (hY aD))))) (bB (eC (.bl false))) a9)
 (bB (aE eR (aS xN (aA (aB 0) aD)) (sT sE (aB 0)))))
def eD (k : bM) : MF := bI (lJ k) iB
theorem wB : FnScope iB lS p8 := b0 (by decide +kernel)
theorem yG {S : aQ} (h : Fx S) : lD (S.body 1 iB p8) (defBody (top 24)) (lJ h.k) :=
 (aM (eG (mU (cW (cM (bH (aO (cL bX) rfl h.aW rfl (aC (jv 0) (aC (cK rfl h.bW rfl) aF))))) (cW (b5 MR (aO dQ rfl h.fJ rfl (aC (jv 0) aF)) (jv 1)) (fA (b5 vA (eT (own := [(("_law_one" : Str), 2)]) (jG (jv 0)) (by kernel_rfl) (CU 2) (sQ (cM (bH (aL (ab rfl) (gW h) (gQ h) rfl h.fS h.fF (aC (jv 2) aF))))) (jv 2)) (eM aF)))))) (aV (bD kI)) b8)
 (aV (bD (gK cS (gA IS rfl h.CO rfl (aC (jv 0) aF)) (JQ rfl h.xH rfl h.OX (jv 0))))))
theorem oD {S : aQ} (h : Fx S) : eL S.P S.w S.K S.mg S.base 2 h.f7 h.iL lS (eD h.k) := eL.of h.lV wB (yG h) fun _ _ _ => .fW
theorem oP {S : aQ} (h : Fx S) : c7 S.K h.iL lS 2 [] aN := bQ h.lV fun _ _ _ _ _ _ us hl => match us, hl with
 | [_, _], _ => rfl
def iD : List Str := [("_law_it" : Str), ("_law_words" : Str), ("_law_one" : Str)]
def lW : List Str := [("_law_it" : Str)]
abbrev qD : Scope := defScope (top 25)
def lO (k : bM) : MS :=
 (aK (dN (eQ (cH (cV (aS (fP fX) (aA (aB 0) (aA (eC (.ty "tuple")) aD))))) (eQ (bG (aE eR (aB 0) (bA aD))) (cH (cV (aS (fP fX) (aA (aE a8 (aB 0) (eC (.int 0))) (aA (eC (.ty "str")) aD))))))) (bB (eC (.bl false))) a9)
 (aK (dN (bG (aE eR (aE a8 (aB 0) (eC (.int 0))) (eC (.str ("tear" : Str))))) (bB (gP (aE eR (aS dI (aA (aB 0) aD)) (eC (.int 3))) (gP (aJ (eD k) 2 aN (aA (aE a8 (aB 0) (eC (.int 1))) (aA (eC (.int 1)) aD))) (aJ (eD k) 2 aN (aA (aE a8 (aB 0) (eC (.int 2))) (aA (eC (.int 0)) aD)))))) a9)
 (aK (aX (G5 (fU (eC (.str ("fall" : Str))) (eC (.int 1)) (fU (eC (.str ("stop" : Str))) (eC (.int 1)) (fU (eC (.str ("rise" : Str))) (eC (.int 1)) (fU (eC (.str ("down" : Str))) (eC (.int 1)) (fU (eC (.str ("up" : Str))) (eC (.int 1)) (fU (eC (.str ("rank" : Str))) (eC (.int 3)) (fU (eC (.str ("heal" : Str))) (eC (.int 0)) (fU (eC (.str ("ask" : Str))) (eC (.int 2)) FI))))))))) (a7 1))
 (bB (gP (aE eR (c5 "dict" getM (aB 1) (aA (aE a8 (aB 0) (eC (.int 0))) (aA (sT uO (eC (.int 1))) aD))) (aE kP (aS dI (aA (aB 0) aD)) (eC (.int 1)))) (aE eR (bR (dP (nW kX (aB 0) (cQ (eC (.int 1))) c8)) [2] (a7 2) (cH (cV (aJ (dD k) 1 aN (aA (aB 2) aD)))) (aB 2)) (hY aD)))))))
def iA (k : bM) : MF := bI (lO k) iD
theorem wZ : FnScope iD lW qD := b0 (by decide +kernel)
theorem xB {S : aQ} (h : Fx S) : lD (S.body 2 iD qD) (defBody (top 25)) (lO h.k) :=
 (aM (eG (mU (cW (cM (bH (aO (cL bX) rfl h.aW rfl (aC (jv 0) (aC (cK rfl h.bW rfl) aF))))) (cW (b5 cS (jv 0) (aZ aF)) (fA (cM (bH (aO (cL bX) rfl h.aW rfl (aC (cZ (jv 0) aH) (aC (cK rfl h.J9 rfl) aF))))))))) (aV (bD kI)) b8)
 (aM (eG (b5 cS (cZ (jv 0) aH) bK) (aV (bD (fV (gK cS (aO dQ rfl h.fJ rfl (aC (jv 0) aF)) aH) (fV (aL (ab rfl) (oD h) (oP h) rfl h.lM h.kR (aC (cZ (jv 0) aH) (aC aH aF))) (kF (aL (ab rfl) (oD h) (oP h) rfl h.lM h.kR (aC (cZ (jv 0) aH) (aC aH aF)))))))) b8)
 (aM (oG 1 (H6 (eU bK aH (eU bK aH (eU bK aH (eU bK aH (eU bK aH (eU bK aH (eU bK aH (eU bK aH AS))))))))))
 (aV (bD (fV (gK cS (pL PySem.F.plainAttrs_dict PySem.F.slot_dict_get N7 (jv 1) (aC (cZ (jv 0) aH) (aC (NR GR aH) aF))) (a6 PR (aO dQ rfl h.fJ rfl (aC (jv 0) aF)) aH)) (kF (gK cS (eT (own := [(("_law_one" : Str), 2)]) (jG (dY dW (jv 0) (bV aH) b9)) (by kernel_rfl) (CU 2) (sQ (cM (bH (aL (ab rfl) (gW h) (gQ h) rfl h.fS h.fF (aC (jv 2) aF))))) (jv 2)) (eM aF)))))))))
theorem xO {S : aQ} (h : Fx S) : eL S.P S.w S.K S.mg S.base 3 h.f9 h.iI lW (iA h.k) := eL.of h.lT wZ (xB h) fun _ _ _ => .fW
theorem yJ {S : aQ} (h : Fx S) : c7 S.K h.iI lW 1 [] aN := bQ h.lT fun _ _ _ _ _ _ us hl => match us, hl with
 | [_], _ => rfl
def gH : List Str := [("_law_it" : Str), ("_law_turn_here" : Str), ("_law_bad" : Str), ("_law_lot_here" : Str), ("_law_act_here" : Str), ("_law_one" : Str)]
def i7 : List Str := [("_law_it" : Str)]
abbrev nL : Scope := defScope (top 26)
def i8 (k : bM) : MS :=
 (aK (dN (cH (cV (aS (fP fX) (aA (aB 0) (aA (eC (.ty "tuple")) aD))))) (bB (eC (.bl false))) a9)
 (aK (fY (dP (aB 0)) (a7 1) (aK (dN (eQ (cH (cV (aS (fP fX) (aA (aB 1) (aA (eC (.ty "tuple")) aD))))) (eQ (bG (aE p7 (aS dI (aA (aB 1) aD)) (eC (.int 2)))) (cH (cV (aS (fP fX) (aA (aE a8 (aB 1) (eC (.int 0))) (aA (eC (.ty "tuple")) aD))))))) (bB (eC (.bl false))) a9)
 (aK (aX (bR (dP (aE a8 (aB 1) (eC (.int 0)))) [4] (a7 4) (cH (cV (aJ (iA k) 1 aN (aA (aB 4) aD)))) (aB 4)) (a7 2))
 (aK (dN (eQ (bG (aE p7 (aB 2) (hY aD))) (cH (cV (aS (fP fX) (aA (aE a8 (aB 1) (eC (.int 1))) (aA (eC (.ty "tuple")) aD)))))) (bB (eC (.bl false))) a9)
 (fY (dP (aE a8 (aB 1) (eC (.int 1)))) (a7 3) (dN (eQ (cH (cV (aS (fP fX) (aA (aB 3) (aA (eC (.ty "tuple")) aD))))) (eQ (bG (aE p7 (aS dI (aA (aB 3) aD)) (eC (.int 4)))) (bG (aE p7 (bR (dP (aB 3)) [5] (a7 5) (cH (cV (aJ (dD k) 1 aN (aA (aB 5) aD)))) (aB 5)) (hY aD))))) (bB (eC (.bl false))) a9))))))
 (bB (eC (.bl true)))))
def gF (k : bM) : MF := bI (i8 k) gH
theorem sW : FnScope gH i7 nL := b0 (by decide +kernel)
theorem t7 {S : aQ} (h : Fx S) : lD (S.body 3 gH nL) (defBody (top 26)) (i8 h.k) :=
 (aM (eG (cM (bH (aO (cL bX) rfl h.aW rfl (aC (jv 0) (aC (cK rfl h.bW rfl) aF))))) (aV (bD kI)) b8)
 (aM (B2 (jG (jv 0)) (SR 1) (aM (eG (mU (cW (cM (bH (aO (cL bX) rfl h.aW rfl (aC (jv 1) (aC (cK rfl h.bW rfl) aF))))) (cW (b5 vA (aO dQ rfl h.fJ rfl (aC (jv 1) aF)) aH) (fA (cM (bH (aO (cL bX) rfl h.aW rfl (aC (cZ (jv 1) aH) (aC (cK rfl h.bW rfl) aF))))))))) (aV (bD kI)) b8)
 (aM (jsc 2 (own := [(("_law_act_here" : Str), 4)]) (jG (cZ (jv 1) aH)) (by kernel_rfl) (CU 4) (sQ (cM (bH (aL (ab rfl) (xO h) (yJ h) rfl h.qE h.oO (aC (jv 4) aF))))) (jv 4))
 (aM (eG (mU (cW (b5 vA (jv 2) (eM aF)) (fA (cM (bH (aO (cL bX) rfl h.aW rfl (aC (cZ (jv 1) aH) (aC (cK rfl h.bW rfl) aF)))))))) (aV (bD kI)) b8)
 (aV (B2 (jG (cZ (jv 1) aH)) (SR 3) (aV (eG (mU (cW (cM (bH (aO (cL bX) rfl h.aW rfl (aC (jv 3) (aC (cK rfl h.bW rfl) aF))))) (cW (b5 vA (aO dQ rfl h.fJ rfl (aC (jv 3) aF)) aH) (fA (b5 vA (eT (own := [(("_law_one" : Str), 5)]) (jG (jv 3)) (by kernel_rfl) (CU 5) (sQ (cM (bH (aL (ab rfl) (gW h) (gQ h) rfl h.fS h.fF (aC (jv 5) aF))))) (jv 5)) (eM aF)))))) (aV (bD kI)) b8))))))))
 (aV (bD kI))))
theorem uH {S : aQ} (h : Fx S) : eL S.P S.w S.K S.mg S.base 4 h.eZ h.gE i7 (gF h.k) := eL.of h.i5 sW (t7 h) fun _ _ _ => .fW
theorem tW {S : aQ} (h : Fx S) : c7 S.K h.gE i7 1 [] aN := bQ h.i5 fun _ _ _ _ _ _ us hl => match us, hl with
 | [_], _ => rfl
def h8 : List Str := [("thing" : Str)]
def qO : List Str := [("thing" : Str)]
abbrev wK : Scope := defScope (top 1)
def kG (k : bM) : MS :=
 (bB (gP (aS (fP fX) (aA (aB 0) (aA (eC (.ty "int")) aD))) (sT notM (aS (fP fX) (aA (aB 0) (aA (eC (.ty "bool")) aD))))))
def gL (k : bM) : MF := bI (kG k) h8
theorem C3 : FnScope h8 qO wK := b0 (by decide +kernel)
theorem EU {S : aQ} (h : Fx S) : lD (S.body 0 h8 wK) (defBody (top 1)) (kG h.k) :=
 (aV (bD (fV (aO (cL bX) rfl h.aW rfl (aC (jv 0) (aC (cK rfl h.I6 rfl) aF))) (kF (L3 (aO (cL bX) rfl h.aW rfl (aC (jv 0) (aC (cK rfl h.H0 rfl) aF))))))))
theorem DH {S : aQ} (h : Fx S) : eL S.P S.w S.K S.mg S.base 1 h.kH h.m2 qO (gL h.k) := eL.of h.rB C3 (EU h) fun _ _ _ => .fW
theorem D5 {S : aQ} (h : Fx S) : c7 S.K h.m2 qO 1 [] aN := bQ h.rB fun _ _ _ _ _ _ us hl => match us, hl with
 | [_], _ => rfl
def gN : List Str := [("thing" : Str), ("least" : Str), ("most" : Str)]
def oU : List Str := [("thing" : Str), ("least" : Str), ("most" : Str)]
abbrev vQ : Scope := defScope (top 2)
def iQ (k : bM) : MS :=
 (bB (gP (aJ (gL k) 1 aN (aA (aB 0) aD)) (Q3 ON ON (aB 1) (aB 0) (aB 2))))
def cD (k : bM) : MF := bI (iQ k) gN
theorem AR : FnScope gN oU vQ := b0 (by decide +kernel)
theorem AV {S : aQ} (h : Fx S) : lD (S.body 1 gN vQ) (defBody (top 2)) (iQ h.k) :=
 (aV (bD (fV (aL (ab rfl) (DH h) (D5 h) rfl h.wH h.uZ (aC (jv 0) aF)) (kF (E5 J8 J8 (jv 1) (jv 0) (jv 2))))))
theorem B7 {S : aQ} (h : Fx S) : eL S.P S.w S.K S.mg S.base 2 h.iS h.lC oU (cD h.k) := eL.of h.oQ AR (AV h) fun _ _ _ => .fW
theorem BA {S : aQ} (h : Fx S) : c7 S.K h.lC oU 3 [] aN := bQ h.oQ fun _ _ _ _ _ _ us hl => match us, hl with
 | [_, _, _], _ => rfl
def iC : List Str := [("thing" : Str), ("one" : Str)]
def mA : List Str := [("thing" : Str)]
abbrev qC : Scope := defScope (top 8)
def l6 (k : bM) : MS :=
 (bB (aS allM (aA (bR (dP (aB 0)) [1] (a7 1) cF (aJ (cD k) 3 aN (aA (aB 1) (aA (eC (.int 0)) (aA (eC (.int 999)) aD))))) aD)))
def eA (k : bM) : MF := bI (l6 k) iC
theorem xI : FnScope iC mA qC := b0 (by decide +kernel)
theorem xQ {S : aQ} (h : Fx S) : lD (S.body 2 iC qC) (defBody (top 8)) (l6 h.k) :=
 (aV (bD (aO uK rfl h.wX rfl (aC (eT (own := [(("one" : Str), 1)]) (jG (jv 0)) (by kernel_rfl) (CU 1) gG (aL (ab rfl) (B7 h) (BA h) rfl h.uT h.rX (aC (jv 1) (aC aH (aC (C4 h.p9) aF))))) aF))))
theorem kL {S : aQ} (h : Fx S) : eL S.P S.w S.K S.mg S.base 3 h.gD h.iJ mA (eA h.k) := eL.of h.l5 xI (xQ h) fun _ _ _ => .fW
theorem j8 {S : aQ} (h : Fx S) : c7 S.K h.iJ mA 1 [] aN := bQ h.l5 fun _ _ _ _ _ _ us hl => match us, hl with
 | [_], _ => rfl
def jY : List Str := [("thing" : Str)]
def uI : List Str := [("thing" : Str)]
abbrev zX : Scope := defScope (top 11)
def mH (k : bM) : MS :=
 (bB (gP (aS (fP fX) (aA (aB 0) (aA (eC (.ty "tuple")) aD))) (gP (aE eR (aS dI (aA (aB 0) aD)) (eC (.int 4))) (aJ (eA k) 1 aN (aA (aB 0) aD)))))
def j0 (k : bM) : MF := bI (mH k) jY
theorem HM : FnScope jY uI zX := b0 (by decide +kernel)
theorem GS {S : aQ} (h : Fx S) : lD (S.body 3 jY zX) (defBody (top 11)) (mH h.k) :=
 (aV (bD (fV (aO (cL bX) rfl h.aW rfl (aC (jv 0) (aC (cK rfl h.bW rfl) aF))) (fV (gK cS (aO dQ rfl h.fJ rfl (aC (jv 0) aF)) (C4 h.uW)) (kF (aL (ab rfl) (kL h) (j8 h) rfl h.iO h.gX (aC (jv 0) aF)))))))
theorem HR {S : aQ} (h : Fx S) : eL S.P S.w S.K S.mg S.base 4 h.mN h.pS uI (j0 h.k) := eL.of h.uN HM (GS h) fun _ _ _ => .fW
theorem GU {S : aQ} (h : Fx S) : c7 S.K h.pS uI 1 [] aN := bQ h.uN fun _ _ _ _ _ _ us hl => match us, hl with
 | [_], _ => rfl
def k0 : List Str := [("thing" : Str), ("least" : Str), ("one" : Str), ("other" : Str)]
def o8 : List Str := [("thing" : Str), ("least" : Str)]
abbrev vF : Scope := defScope (top 9)
def oV (k : bM) : MS :=
 (aK (dN (eQ (cH (cV (aS (fP fX) (aA (aB 0) (aA (eC (.ty "tuple")) aD))))) (eQ (bG (aE FR (aS dI (aA (aB 0) aD)) (aB 1))) (cH (cV (aJ (eA k) 1 aN (aA (aB 0) aD)))))) (bB (eC (.bl false))) a9)
 (bB (aS allM (aA (bR (dS VF (aA (nW kX (aB 0) c8 (cQ (sT uO (eC (.int 1))))) (aA (nW kX (aB 0) (cQ (eC (.int 1))) c8) aD))) [2, 3] (cC 2 (aI (a7 2) (aI (a7 3) bZ))) cF (aE FR (aB 2) (aB 3))) aD))))
def fK (k : bM) : MF := bI (oV k) k0
theorem CT : FnScope k0 o8 vF := b0 (by decide +kernel)
theorem B9 {S : aQ} (h : Fx S) : lD (S.body 3 k0 vF) (defBody (top 9)) (oV h.k) :=
 (aM (eG (mU (cW (cM (bH (aO (cL bX) rfl h.aW rfl (aC (jv 0) (aC (cK rfl h.bW rfl) aF))))) (cW (b5 MR (aO dQ rfl h.fJ rfl (aC (jv 0) aF)) (jv 1)) (fA (cM (bH (aL (ab rfl) (kL h) (j8 h) rfl h.iO h.gX (aC (jv 0) aF)))))))) (aV (bD kI)) b8)
 (aV (bD (aO uK rfl h.wX rfl (aC (eT (own := [(("one" : Str), 2), (("other" : Str), 3)]) (YE rfl h.SN (aC (dY dW (jv 0) b9 (bV (NR GR aH))) (aC (dY dW (jv 0) (bV aH) b9) aF))) (by kernel_rfl) (T4 (n := 2) (EE (CU 2) (EE (CU 3) R7))) gG (gK MR (jv 2) (jv 3))) aF)))))
theorem r9 {S : aQ} (h : Fx S) : eL S.P S.w S.K S.mg S.base 4 h.i4 h.kW o8 (fK h.k) := eL.of h.pD CT (B9 h) fun _ _ _ => .fW
theorem rH {S : aQ} (h : Fx S) : c7 S.K h.kW o8 2 [] aN := bQ h.pD fun _ _ _ _ _ _ us hl => match us, hl with
 | [_, _], _ => rfl
def pG : List Str := [("thing" : Str), ("word" : Str), ("rest" : Str)]
def t6 : List Str := [("thing" : Str)]
abbrev AH : Scope := defScope (top 10)
def uJ (k : bM) : MS :=
 (aK (dN (eQ (cH (cV (aS (fP fX) (aA (aB 0) (aA (eC (.ty "tuple")) aD))))) (eQ (bG (aE eR (aB 0) (bA aD))) (cH (cV (aS (fP fX) (aA (aE a8 (aB 0) (eC (.int 0))) (aA (eC (.ty "str")) aD))))))) (bB (eC (.bl false))) a9)
 (aK (aX (aB 0) (sO 1 (aI (a7 1) (aI (a7 2) bZ))))
 (aK (dN (bG (aE eR (aB 1) (eC (.str ("tear" : Str))))) (bB (gP (aE eR (aS dI (aA (aB 2) aD)) (eC (.int 2))) (gP (aJ (fK k) 2 aN (aA (aE a8 (aB 2) (eC (.int 0))) (aA (eC (.int 1)) aD))) (aJ (fK k) 2 aN (aA (aE a8 (aB 2) (eC (.int 1))) (aA (eC (.int 0)) aD)))))) a9)
 (bB (gP (aE (FT k.gJ bO) (aB 1) (eC (.con k.gJ))) (gP (aE eR (aS dI (aA (aB 2) aD)) (aE (KZ k.gJ bO) (eC (.con k.gJ)) (aB 1))) (aJ (eA k) 1 aN (aA (aB 2) aD))))))))
def pH (k : bM) : MF := bI (uJ k) pG
theorem HL : FnScope pG t6 AH := b0 (by decide +kernel)
theorem FZ {S : aQ} (h : Fx S) : lD (S.body 4 pG AH) (defBody (top 10)) (uJ h.k) :=
 (aM (eG (mU (cW (cM (bH (aO (cL bX) rfl h.aW rfl (aC (jv 0) (aC (cK rfl h.bW rfl) aF))))) (cW (b5 cS (jv 0) (aZ aF)) (fA (cM (bH (aO (cL bX) rfl h.aW rfl (aC (cZ (jv 0) aH) (aC (cK rfl h.J9 rfl) aF))))))))) (aV (bD kI)) b8)
 (aM (H9 (jv 0) (RY (n := 1) (yM (SR 1) (MQ (SR 2)))))
 (aM (eG (b5 cS (jv 1) (C4 h.L4)) (aV (bD (fV (gK cS (aO dQ rfl h.fJ rfl (aC (jv 2) aF)) aH) (fV (aL (ab rfl) (r9 h) (rH h) rfl h.oS h.mW (aC (cZ (jv 2) aH) (aC aH aF))) (kF (aL (ab rfl) (r9 h) (rH h) rfl h.oS h.mW (aC (cZ (jv 2) aH) (aC aH aF)))))))) b8)
 (aV (bD (fV (gK (U8 h.CH) (jv 1) (C4 h.BB)) (fV (gK cS (aO dQ rfl h.fJ rfl (aC (jv 2) aF)) (V2 h.CH (C4 h.BB) (jv 1))) (kF (aL (ab rfl) (kL h) (j8 h) rfl h.iO h.gX (aC (jv 2) aF))))))))))
theorem FW {S : aQ} (h : Fx S) : eL S.P S.w S.K S.mg S.base 5 h.mK h.pW t6 (pH h.k) := eL.of h.t8 HL (FZ h) fun _ _ _ => .fW
theorem GY {S : aQ} (h : Fx S) : c7 S.K h.pW t6 1 [] aN := bQ h.t8 fun _ _ _ _ _ _ us hl => match us, hl with
 | [_], _ => rfl
def pV : List Str := [("thing" : Str), ("deeds" : Str), ("fates" : Str), ("part" : Str), ("deed" : Str), ("fate" : Str)]
def uC : List Str := [("thing" : Str)]
abbrev z0 : Scope := defScope (top 12)
def sV (k : bM) : MS :=
 (aK (dN (eQ (cH (cV (aS (fP fX) (aA (aB 0) (aA (eC (.ty "tuple")) aD))))) (eQ (bG (aE p7 (aS dI (aA (aB 0) aD)) (eC (.int 2)))) (cH (cV (aS allM (aA (bR (dP (aB 0)) [3] (a7 3) cF (aS (fP fX) (aA (aB 3) (aA (eC (.ty "tuple")) aD)))) aD)))))) (bB (eC (.bl false))) a9)
 (aK (aX (aB 0) (cC 2 (aI (a7 1) (aI (a7 2) bZ))))
 (bB (gP (aS allM (aA (bR (dP (aB 1)) [4] (a7 4) cF (aJ (pH k) 1 aN (aA (aB 4) aD))) aD)) (aS allM (aA (bR (dP (aB 2)) [5] (a7 5) cF (aJ (j0 k) 1 aN (aA (aB 5) aD))) aD))))))
def pF (k : bM) : MF := bI (sV k) pV
theorem HH : FnScope pV uC z0 := b0 (by decide +kernel)
theorem HQ {S : aQ} (h : Fx S) : lD (S.body 5 pV z0) (defBody (top 12)) (sV h.k) :=
 (aM (eG (mU (cW (cM (bH (aO (cL bX) rfl h.aW rfl (aC (jv 0) (aC (cK rfl h.bW rfl) aF))))) (cW (b5 vA (aO dQ rfl h.fJ rfl (aC (jv 0) aF)) aH) (fA (cM (bH (aO uK rfl h.wX rfl (aC (eT (own := [(("part" : Str), 3)]) (jG (jv 0)) (by kernel_rfl) (CU 3) gG (aO (cL bX) rfl h.aW rfl (aC (jv 3) (aC (cK rfl h.bW rfl) aF)))) aF)))))))) (aV (bD kI)) b8)
 (aM (H9 (jv 0) (U4 (n := 2) (yM (SR 1) (yM (SR 2) RD))))
 (aV (bD (fV (aO uK rfl h.wX rfl (aC (eT (own := [(("deed" : Str), 4)]) (jG (jv 1)) (by kernel_rfl) (CU 4) gG (aL (ab rfl) (FW h) (GY h) rfl h.z9 h.xZ (aC (jv 4) aF))) aF)) (kF (aO uK rfl h.wX rfl (aC (eT (own := [(("fate" : Str), 5)]) (jG (jv 2)) (by kernel_rfl) (CU 5) gG (aL (ab rfl) (HR h) (GU h) rfl h.AK h.yB (aC (jv 5) aF))) aF))))))))
theorem IA {S : aQ} (h : Fx S) : eL S.P S.w S.K S.mg S.base 6 h.mE h.pO uC (pF h.k) := eL.of h.uF HH (HQ h) fun _ _ _ => .fW
theorem GD {S : aQ} (h : Fx S) : c7 S.K h.pO uC 1 [] aN := bQ h.uF fun _ _ _ _ _ _ us hl => match us, hl with
 | [_], _ => rfl
def m5 : List Str := [("thing" : Str), ("turn" : Str)]
def nB : List Str := [("thing" : Str)]
abbrev xS : Scope := defScope (top 13)
def qN (k : bM) : MS :=
 (bB (gP (aS (fP fX) (aA (aB 0) (aA (eC (.ty "tuple")) aD))) (aS allM (aA (bR (dP (aB 0)) [1] (a7 1) cF (aJ (pF k) 1 aN (aA (aB 1) aD))) aD))))
def dH (k : bM) : MF := bI (qN k) m5
theorem DS : FnScope m5 nB xS := b0 (by decide +kernel)
theorem C6 {S : aQ} (h : Fx S) : lD (S.body 6 m5 xS) (defBody (top 13)) (qN h.k) :=
 (aV (bD (fV (aO (cL bX) rfl h.aW rfl (aC (jv 0) (aC (cK rfl h.bW rfl) aF))) (kF (aO uK rfl h.wX rfl (aC (eT (own := [(("turn" : Str), 1)]) (jG (jv 0)) (by kernel_rfl) (CU 1) gG (aL (ab rfl) (IA h) (GD h) rfl h.zV h.yS (aC (jv 1) aF))) aF))))))
theorem pE {S : aQ} (h : Fx S) : eL S.P S.w S.K S.mg S.base 7 h.kM h.kS nB (dH h.k) := eL.of h.mO DS (C6 h) fun _ _ _ => .fW
theorem vN {S : aQ} (h : Fx S) : c7 S.K h.kS nB 1 [] aN := bQ h.mO fun _ _ _ _ _ _ us hl => match us, hl with
 | [_], _ => rfl
abbrev eX (k : bM) : List D → List D → List D := pick [(true, 0)]
theorem pZ {S : aQ} (h : Fx S) : c7 S.K h.kS nB 0 [("thing" : Str)] (eX h.k) := KR h.mO 0 _ _ (fun _ _ _ _ _ _ us ws h1 h2 => match us, ws, h1, h2 with
 | [], [_], _, _ => rfl) fun xs zs h1 h2 => match xs, zs, h1, h2 with
 | [], [_], _, _ => rfl
def fT : List Str := [("_law_it" : Str), ("_law_kept" : Str), ("_law_due" : Str)]
def mQ : List Str := [("_law_it" : Str)]
abbrev sN : Scope := defScope (top 29)
def gR (k : bM) : MS :=
 (aK (aX (aS oE (aA (aB 0) aD)) (a7 1))
 (aK (aX (aS oE (aA (aE mulM (hY (aA (aJ (gF k) 1 aN (aA (aB 0) aD)) aD)) (eC (.int 2))) aD)) (a7 2))
 (bB (gP (aE eR (aS oE (aA (hY (aA (aJ (dH k) 1 aN (aA (aB 0) aD)) (aA (sY (dH k) 0 1 (eX k) aD (aA (aB 0) aD)) aD))) aD)) (aB 2)) (aE eR (aS oE (aA (aB 0) aD)) (aB 1))))))
def cP (k : bM) : MF := bI (gR k) fT
theorem y3 : FnScope fT mQ sN := b0 (by decide +kernel)
theorem zH {S : aQ} (h : Fx S) : lD (S.body 7 fT sN) (defBody (top 29)) (gR h.k) :=
 (aM (oG 1 (aO (sC h.NF) rfl h.yC rfl (aC (jv 0) aF)))
 (aM (oG 2 (aO (sC h.NF) rfl h.yC rfl (aC (a6 qY (eM (aC (aL (ab rfl) (uH h) (tW h) rfl h.nR h.mF (aC (jv 0) aF)) aF)) aH) aF)))
 (aV (bD (fV (gK cS (aO (sC h.NF) rfl h.yC rfl (aC (eM (aC (aL (ab rfl) (pE h) (vN h) rfl h.mR h.kY (aC (jv 0) aF)) (aC (ZQ (ab rfl) (pE h) (pZ h) rfl h.mR h.kY (RW (jv 0) UZ)) aF))) aF)) (jv 2)) (kF (gK cS (aO (sC h.NF) rfl h.yC rfl (aC (jv 0) aF)) (jv 1))))))))
theorem lP {S : aQ} (h : Fx S) : eL S.P S.w S.K S.mg S.base 8 h.gY h.jN mQ (cP h.k) := eL.of h.mV y3 (zH h) fun _ _ _ => .fW
theorem lL {S : aQ} (h : Fx S) : c7 S.K h.jN mQ 1 [] aN := bQ h.mV fun _ _ _ _ _ _ us hl => match us, hl with
 | [_], _ => rfl
def mZ : List Str := [("_law_deck_here" : Str), ("_law_it" : Str), ("_law_way" : Str), ("_law_odd_here" : Str), ("_law_at" : Str), ("_law_some" : Str)]
def rE : List Str := [("_law_deck_here" : Str), ("_law_it" : Str)]
abbrev xK : Scope := defScope (top 27)
def rD (k : bM) : MS :=
 (aK (aX (aJ (bL k) 2 aN (aA (aB 0) (aA (eC (.int 9)) aD))) (a7 2))
 (aK (dN (bG (aE eR (aB 2) (eC (.int 0)))) (aK (aX (hY (aA (eC .non) (aA (eC (.bl true)) (aA (eC (.bl false)) (aA (eC (.int 0)) (aA (sT uO (eC (.int 1))) (aA (aE yO (eC (.int 10)) (eC (.int 39))) (aA (eC (.str ("" : Str))) (aA (eC (.str ("fall" : Str))) (aA (eC (.str ("tear" : Str))) (aA (eC (.str ("heal" : Str))) (aA (bA aD) (aA (hY aD) (aA xX (aA (hY (aA (aB 1) aD)) (aA (bA (aA (aB 1) aD)) (aA (AJ (fU (eC (.int 0)) (aB 1) FI)) (aA (eC (.int 1000)) aD)))))))))))))))))) (a7 3))
 (bB (aE a8 (aB 3) (aJ (bL k) 2 aN (aA (aB 0) (aA (eC (.int 17)) aD)))))) a9)
 (aK (dN (gC (cV (aS (fP fX) (aA (aB 1) (aA (eC (.ty "tuple")) aD)))) (bG (aE p7 (aB 1) (bA aD)))) (aK (aX (aJ (bL k) 2 aN (aA (aB 0) (aA (aS dI (aA (aB 1) aD)) aD))) (a7 4))
 (aK (aX (eNew (aA (aE nU (nW kX (aB 1) c8 (cQ (aB 4))) (nW kX (aB 1) (cQ (aE nU (aB 4) (eC (.int 1)))) c8)) (aA (aE nU (nW kX (aB 1) c8 (cQ (aE nU (aB 4) (eC (.int 1))))) (nW kX (aB 1) (cQ (aB 4)) c8)) (aA (sT KJ (aB 1)) (aA (aS xN (aA (aB 1) aD)) (aA (aE nU (aB 1) (bA (aA (eC (.int 1)) aD))) (aA (bA (aA (aB 1) aD)) (aA (aE a8 (aB 1) (aB 4)) aD)))))))) (a7 5))
 (aK (cX (c5 "list" cU (aB 5) (aA (aE nU (aE nU (nW kX (aB 1) c8 (cQ (aB 4))) (sT KJ (nW kX (aB 1) (cQ (aB 4)) (cQ (aE nU (aB 4) (eC (.int 2))))))) (nW kX (aB 1) (cQ (aE nU (aB 4) (eC (.int 2)))) c8)) aD)))
 (bB (aE a8 (aB 5) (aE subB (aB 2) (eC (.int 1)))))))) a9)
 (aK (dN (cV (aS (fP fX) (aA (aB 1) (aA (eC (.ty "int")) aD)))) (bB (aE a8 (hY (aA (aE nU (aB 1) (eC (.int 1))) (aA (aE subB (aB 1) (eC (.int 1))) (aA (aE nU (aB 1) (eC (.int 2))) (aA (aE subB (eC (.int 0)) (aB 1)) (aA (aE eR (aB 1) (eC (.int 1))) (aA (aS ES (aA (aB 1) aD)) (aA (bA (aA (aB 1) aD)) (aA (aE nU (aB 1) (eC (.int 1000))) aD))))))))) (aE subB (aB 2) (eC (.int 1))))) a9)
 (bB (aE a8 (hY (aA (eC (.str ("fall" : Str))) (aA (eC (.str ("rank" : Str))) (aA (eC (.str ("ask" : Str))) (aA (eC (.str ("heal" : Str))) (aA (eC (.str ("tear" : Str))) (aA (bA aD) (aA (bA (aA (bA aD) (aA (bA aD) aD))) (aA (eC (.int 7)) aD))))))))) (aE subB (aB 2) (eC (.int 1)))))))))
def kB (k : bM) : MF := bI (rD k) mZ
theorem DK : FnScope mZ rE xK := b0 (by decide +kernel)
theorem EV {S : aQ} (h : Fx S) : lD (S.body 1 mZ xK) (defBody (top 27)) (rD h.k) :=
 (aM (oG 2 (aL (ab rfl) (aT h) (aU h) rfl h.aY h.aR (aC (jv 0) (aC aH aF))))
 (aM (eG (b5 cS (jv 2) aH) (aM (oG 3 (eM (aC LS (aC kI (aC kI (aC aH (aC (NR GR aH) (aC (a6 LZ aH aH) (aC bK (aC bK (aC bK (aC bK (aC (aZ aF) (aC (eM aF) (aC DD (aC (eM (aC (jv 1) aF)) (aC (aZ (aC (jv 1) aF)) (aC (QC (eU aH (jv 1) AS)) (aC aH aF)))))))))))))))))))
 (aV (bD (cZ (jv 3) (aL (ab rfl) (aT h) (aU h) rfl h.aY h.aR (aC (jv 0) (aC aH aF))))))) b8)
 (aM (eG (mU (UX (bH (aO (cL bX) rfl h.aW rfl (aC (jv 1) (aC (cK rfl h.bW rfl) aF)))) (SJ (b5 vA (jv 1) (aZ aF))))) (aM (oG 4 (aL (ab rfl) (aT h) (aU h) rfl h.aY h.aR (aC (jv 0) (aC (aO dQ rfl h.fJ rfl (aC (jv 1) aF)) aF))))
 (aM (oG 5 (MV (aC (a6 gI (dY dW (jv 1) b9 (bV (jv 4))) (dY dW (jv 1) (bV (a6 gI (jv 4) aH)) b9)) (aC (a6 gI (dY dW (jv 1) b9 (bV (a6 gI (jv 4) aH))) (dY dW (jv 1) (bV (jv 4)) b9)) (aC (IH (jv 1)) (aC (gA IS rfl h.CO rfl (aC (jv 1) aF)) (aC (a6 gI (jv 1) (aZ (aC aH aF))) (aC (aZ (aC (jv 1) aF)) (aC (cZ (jv 1) (jv 4)) aF)))))))))
 (aM (CL (pL PySem.F.plainAttrs_list PySem.F.slot_list_append AF (jv 5) (aC (a6 gI (a6 gI (dY dW (jv 1) b9 (bV (jv 4))) (IH (dY dW (jv 1) (bV (jv 4)) (bV (a6 gI (jv 4) aH))))) (dY dW (jv 1) (bV (a6 gI (jv 4) aH)) b9)) aF)))
 (aV (bD (cZ (jv 5) (a6 r7 (jv 2) aH))))))) b8)
 (aM (eG (bH (aO (cL bX) rfl h.aW rfl (aC (jv 1) (aC (cK rfl h.I6 rfl) aF)))) (aV (bD (cZ (eM (aC (a6 gI (jv 1) aH) (aC (a6 r7 (jv 1) aH) (aC (a6 gI (jv 1) aH) (aC (a6 r7 aH (jv 1)) (aC (gK cS (jv 1) aH) (aC (gA RS rfl h.J9 rfl (aC (jv 1) aF)) (aC (aZ (aC (jv 1) aF)) (aC (a6 gI (jv 1) aH) aF))))))))) (a6 r7 (jv 2) aH)))) b8)
 (aV (bD (cZ (eM (aC bK (aC bK (aC bK (aC bK (aC bK (aC (aZ aF) (aC (aZ (aC (aZ aF) (aC (aZ aF) aF))) (aC aH aF))))))))) (a6 r7 (jv 2) aH))))))))
theorem dU {S : aQ} (h : Fx S) : eL S.P S.w S.K S.mg S.base 2 h.j7 h.mT rE (kB h.k) := eL.of h.q8 DK (EV h) fun _ _ _ => .fW
theorem dZ {S : aQ} (h : Fx S) : c7 S.K h.mT rE 2 [] aN := bQ h.q8 fun _ _ _ _ _ _ us hl => match us, hl with
 | [_, _], _ => rfl
def bC : List Str := [("_law_deck_here" : Str), ("_law_it" : Str), ("_law_at" : Str)]
def bY : List Str := [("_law_deck_here" : Str), ("_law_it" : Str)]
abbrev cN : Scope := defScope (top 28)
theorem cO : FnScope bC bY cN := b0 (by decide +kernel)
theorem cA {S : aQ} (h : Fx S) : c7 S.K h.bS bY 2 [] aN := bQ h.cJ fun _ _ _ _ _ _ us hl => match us, hl with
 | [_, _], _ => rfl
abbrev jI (_ : bM) : MF := ZN
theorem tZ {S : aQ} (h : Fx S) : eL S.P S.w S.K S.mg S.base 2 h.bN h.bS bY (jI h.k) := eL.bad
def bF (k : bM) (rec : MF) : MS :=
 (aK (dN (eQ (cH (cV (aS (fP fX) (aA (aB 1) (aA (eC (.ty "tuple")) aD))))) (eQ (bG (aE eR (aB 1) (bA aD))) (bG (aE eR (aJ (bL k) 2 aN (aA (aB 0) (aA (eC (.int 6)) aD))) (eC (.int 0)))))) (bB (aJ (kB k) 2 aN (aA (aB 0) (aA (aB 1) aD)))) a9)
 (aK (aX (aJ (bL k) 2 aN (aA (aB 0) (aA (aS dI (aA (aB 1) aD)) aD))) (a7 2))
 (bB (aE cB (aE cB (nW kX (aB 1) c8 (cQ (aB 2))) (bA (aA (aJ rec 2 aN (aA (aB 0) (aA (aE a8 (aB 1) (aB 2)) aD))) aD))) (nW kX (aB 1) (cQ (aE cB (aB 2) (eC (.int 1)))) c8)))))
def jH (k : bM) : MF := bI (bF k (jI k)) bC
theorem tR {S : aQ} (h : Fx S) : lD (S.body 2 bC cN) (defBody (top 28)) (bF h.k (jI h.k)) :=
 (aM (eG (mU (cW (cM (bH (aO (cL bX) rfl h.aW rfl (aC (jv 1) (aC (cK rfl h.bW rfl) aF))))) (cW (b5 cS (jv 1) (aZ aF)) (fA (b5 cS (aL (ab rfl) (aT h) (aU h) rfl h.aY h.aR (aC (jv 0) (aC aH aF))) aH))))) (aV (bD (aL (ab rfl) (dU h) (dZ h) rfl h.eB h.dB (aC (jv 0) (aC (jv 1) aF))))) b8)
 (aM (oG 2 (aL (ab rfl) (aT h) (aU h) rfl h.aY h.aR (aC (jv 0) (aC (aO dQ rfl h.fJ rfl (aC (jv 1) aF)) aF))))
 (aV (bD (a6 b6 (a6 b6 (dY dW (jv 1) b9 (bV (jv 2))) (aZ (aC (aL (ab rfl) (tZ h) (cA h) rfl h.cE h.bU (aC (jv 0) (aC (cZ (jv 1) (jv 2)) aF))) aF))) (dY dW (jv 1) (bV (a6 b6 (jv 2) aH)) b9))))))
theorem uS {S : aQ} (h : Fx S) : eL S.P S.w S.K S.mg S.base 3 h.bN h.bS bY (jH h.k) := eL.of h.cJ cO (tR h) fun _ _ _ => .fW
def jF (k : bM) : MF := bI (bF k (jH k)) bC
theorem uD {S : aQ} (h : Fx S) : lD (S.body 3 bC cN) (defBody (top 28)) (bF h.k (jH h.k)) :=
 (aM (eG (mU (cW (cM (bH (aO (cL bX) rfl h.aW rfl (aC (jv 1) (aC (cK rfl h.bW rfl) aF))))) (cW (b5 cS (jv 1) (aZ aF)) (fA (b5 cS (aL (ab rfl) (aT h) (aU h) rfl h.aY h.aR (aC (jv 0) (aC aH aF))) aH))))) (aV (bD (aL (ab rfl) (dU h) (dZ h) rfl h.eB h.dB (aC (jv 0) (aC (jv 1) aF))))) b8)
 (aM (oG 2 (aL (ab rfl) (aT h) (aU h) rfl h.aY h.aR (aC (jv 0) (aC (aO dQ rfl h.fJ rfl (aC (jv 1) aF)) aF))))
 (aV (bD (a6 b6 (a6 b6 (dY dW (jv 1) b9 (bV (jv 2))) (aZ (aC (aL (ab rfl) (uS h) (cA h) rfl h.cE h.bU (aC (jv 0) (aC (cZ (jv 1) (jv 2)) aF))) aF))) (dY dW (jv 1) (bV (a6 b6 (jv 2) aH)) b9))))))
theorem tN {S : aQ} (h : Fx S) : eL S.P S.w S.K S.mg S.base 4 h.bN h.bS bY (jF h.k) := eL.of h.cJ cO (uD h) fun _ _ _ => .fW
def jJ (k : bM) : MF := bI (bF k (jF k)) bC
theorem uB {S : aQ} (h : Fx S) : lD (S.body 4 bC cN) (defBody (top 28)) (bF h.k (jF h.k)) :=
 (aM (eG (mU (cW (cM (bH (aO (cL bX) rfl h.aW rfl (aC (jv 1) (aC (cK rfl h.bW rfl) aF))))) (cW (b5 cS (jv 1) (aZ aF)) (fA (b5 cS (aL (ab rfl) (aT h) (aU h) rfl h.aY h.aR (aC (jv 0) (aC aH aF))) aH))))) (aV (bD (aL (ab rfl) (dU h) (dZ h) rfl h.eB h.dB (aC (jv 0) (aC (jv 1) aF))))) b8)
 (aM (oG 2 (aL (ab rfl) (aT h) (aU h) rfl h.aY h.aR (aC (jv 0) (aC (aO dQ rfl h.fJ rfl (aC (jv 1) aF)) aF))))
 (aV (bD (a6 b6 (a6 b6 (dY dW (jv 1) b9 (bV (jv 2))) (aZ (aC (aL (ab rfl) (tN h) (cA h) rfl h.cE h.bU (aC (jv 0) (aC (cZ (jv 1) (jv 2)) aF))) aF))) (dY dW (jv 1) (bV (a6 b6 (jv 2) aH)) b9))))))
theorem tE {S : aQ} (h : Fx S) : eL S.P S.w S.K S.mg S.base 5 h.bN h.bS bY (jJ h.k) := eL.of h.cJ cO (uB h) fun _ _ _ => .fW
def jL (k : bM) : MF := bI (bF k (jJ k)) bC
theorem t9 {S : aQ} (h : Fx S) : lD (S.body 5 bC cN) (defBody (top 28)) (bF h.k (jJ h.k)) :=
 (aM (eG (mU (cW (cM (bH (aO (cL bX) rfl h.aW rfl (aC (jv 1) (aC (cK rfl h.bW rfl) aF))))) (cW (b5 cS (jv 1) (aZ aF)) (fA (b5 cS (aL (ab rfl) (aT h) (aU h) rfl h.aY h.aR (aC (jv 0) (aC aH aF))) aH))))) (aV (bD (aL (ab rfl) (dU h) (dZ h) rfl h.eB h.dB (aC (jv 0) (aC (jv 1) aF))))) b8)
 (aM (oG 2 (aL (ab rfl) (aT h) (aU h) rfl h.aY h.aR (aC (jv 0) (aC (aO dQ rfl h.fJ rfl (aC (jv 1) aF)) aF))))
 (aV (bD (a6 b6 (a6 b6 (dY dW (jv 1) b9 (bV (jv 2))) (aZ (aC (aL (ab rfl) (tE h) (cA h) rfl h.cE h.bU (aC (jv 0) (aC (cZ (jv 1) (jv 2)) aF))) aF))) (dY dW (jv 1) (bV (a6 b6 (jv 2) aH)) b9))))))
theorem uA {S : aQ} (h : Fx S) : eL S.P S.w S.K S.mg S.base 6 h.bN h.bS bY (jL h.k) := eL.of h.cJ cO (t9 h) fun _ _ _ => .fW
def jE (k : bM) : MF := bI (bF k (jL k)) bC
theorem uE {S : aQ} (h : Fx S) : lD (S.body 6 bC cN) (defBody (top 28)) (bF h.k (jL h.k)) :=
 (aM (eG (mU (cW (cM (bH (aO (cL bX) rfl h.aW rfl (aC (jv 1) (aC (cK rfl h.bW rfl) aF))))) (cW (b5 cS (jv 1) (aZ aF)) (fA (b5 cS (aL (ab rfl) (aT h) (aU h) rfl h.aY h.aR (aC (jv 0) (aC aH aF))) aH))))) (aV (bD (aL (ab rfl) (dU h) (dZ h) rfl h.eB h.dB (aC (jv 0) (aC (jv 1) aF))))) b8)
 (aM (oG 2 (aL (ab rfl) (aT h) (aU h) rfl h.aY h.aR (aC (jv 0) (aC (aO dQ rfl h.fJ rfl (aC (jv 1) aF)) aF))))
 (aV (bD (a6 b6 (a6 b6 (dY dW (jv 1) b9 (bV (jv 2))) (aZ (aC (aL (ab rfl) (uA h) (cA h) rfl h.cE h.bU (aC (jv 0) (aC (cZ (jv 1) (jv 2)) aF))) aF))) (dY dW (jv 1) (bV (a6 b6 (jv 2) aH)) b9))))))
theorem sZ {S : aQ} (h : Fx S) : eL S.P S.w S.K S.mg S.base 7 h.bN h.bS bY (jE h.k) := eL.of h.cJ cO (uE h) fun _ _ _ => .fW
def jB (k : bM) : MF := bI (bF k (jE k)) bC
theorem tO {S : aQ} (h : Fx S) : lD (S.body 7 bC cN) (defBody (top 28)) (bF h.k (jE h.k)) :=
 (aM (eG (mU (cW (cM (bH (aO (cL bX) rfl h.aW rfl (aC (jv 1) (aC (cK rfl h.bW rfl) aF))))) (cW (b5 cS (jv 1) (aZ aF)) (fA (b5 cS (aL (ab rfl) (aT h) (aU h) rfl h.aY h.aR (aC (jv 0) (aC aH aF))) aH))))) (aV (bD (aL (ab rfl) (dU h) (dZ h) rfl h.eB h.dB (aC (jv 0) (aC (jv 1) aF))))) b8)
 (aM (oG 2 (aL (ab rfl) (aT h) (aU h) rfl h.aY h.aR (aC (jv 0) (aC (aO dQ rfl h.fJ rfl (aC (jv 1) aF)) aF))))
 (aV (bD (a6 b6 (a6 b6 (dY dW (jv 1) b9 (bV (jv 2))) (aZ (aC (aL (ab rfl) (sZ h) (cA h) rfl h.cE h.bU (aC (jv 0) (aC (cZ (jv 1) (jv 2)) aF))) aF))) (dY dW (jv 1) (bV (a6 b6 (jv 2) aH)) b9))))))
theorem sU {S : aQ} (h : Fx S) : eL S.P S.w S.K S.mg S.base 8 h.bN h.bS bY (jB h.k) := eL.of h.cJ cO (tO h) fun _ _ _ => .fW
def jK (k : bM) : MF := bI (bF k (jB k)) bC
theorem tI {S : aQ} (h : Fx S) : lD (S.body 8 bC cN) (defBody (top 28)) (bF h.k (jB h.k)) :=
 (aM (eG (mU (cW (cM (bH (aO (cL bX) rfl h.aW rfl (aC (jv 1) (aC (cK rfl h.bW rfl) aF))))) (cW (b5 cS (jv 1) (aZ aF)) (fA (b5 cS (aL (ab rfl) (aT h) (aU h) rfl h.aY h.aR (aC (jv 0) (aC aH aF))) aH))))) (aV (bD (aL (ab rfl) (dU h) (dZ h) rfl h.eB h.dB (aC (jv 0) (aC (jv 1) aF))))) b8)
 (aM (oG 2 (aL (ab rfl) (aT h) (aU h) rfl h.aY h.aR (aC (jv 0) (aC (aO dQ rfl h.fJ rfl (aC (jv 1) aF)) aF))))
 (aV (bD (a6 b6 (a6 b6 (dY dW (jv 1) b9 (bV (jv 2))) (aZ (aC (aL (ab rfl) (sU h) (cA h) rfl h.cE h.bU (aC (jv 0) (aC (cZ (jv 1) (jv 2)) aF))) aF))) (dY dW (jv 1) (bV (a6 b6 (jv 2) aH)) b9))))))
theorem tD {S : aQ} (h : Fx S) : eL S.P S.w S.K S.mg S.base 9 h.bN h.bS bY (jK h.k) := eL.of h.cJ cO (tI h) fun _ _ _ => .fW
def jD (k : bM) : MF := bI (bF k (jK k)) bC
theorem sX {S : aQ} (h : Fx S) : lD (S.body 9 bC cN) (defBody (top 28)) (bF h.k (jK h.k)) :=
 (aM (eG (mU (cW (cM (bH (aO (cL bX) rfl h.aW rfl (aC (jv 1) (aC (cK rfl h.bW rfl) aF))))) (cW (b5 cS (jv 1) (aZ aF)) (fA (b5 cS (aL (ab rfl) (aT h) (aU h) rfl h.aY h.aR (aC (jv 0) (aC aH aF))) aH))))) (aV (bD (aL (ab rfl) (dU h) (dZ h) rfl h.eB h.dB (aC (jv 0) (aC (jv 1) aF))))) b8)
 (aM (oG 2 (aL (ab rfl) (aT h) (aU h) rfl h.aY h.aR (aC (jv 0) (aC (aO dQ rfl h.fJ rfl (aC (jv 1) aF)) aF))))
 (aV (bD (a6 b6 (a6 b6 (dY dW (jv 1) b9 (bV (jv 2))) (aZ (aC (aL (ab rfl) (tD h) (cA h) rfl h.cE h.bU (aC (jv 0) (aC (cZ (jv 1) (jv 2)) aF))) aF))) (dY dW (jv 1) (bV (a6 b6 (jv 2) aH)) b9))))))
theorem uP {S : aQ} (h : Fx S) : eL S.P S.w S.K S.mg S.base 10 h.bN h.bS bY (jD h.k) := eL.of h.cJ cO (sX h) fun _ _ _ => .fW
def nN (k : bM) : MF := bI (bF k (jD k)) bC
theorem tQ {S : aQ} (h : Fx S) : lD (S.body 10 bC cN) (defBody (top 28)) (bF h.k (jD h.k)) :=
 (aM (eG (mU (cW (cM (bH (aO (cL bX) rfl h.aW rfl (aC (jv 1) (aC (cK rfl h.bW rfl) aF))))) (cW (b5 cS (jv 1) (aZ aF)) (fA (b5 cS (aL (ab rfl) (aT h) (aU h) rfl h.aY h.aR (aC (jv 0) (aC aH aF))) aH))))) (aV (bD (aL (ab rfl) (dU h) (dZ h) rfl h.eB h.dB (aC (jv 0) (aC (jv 1) aF))))) b8)
 (aM (oG 2 (aL (ab rfl) (aT h) (aU h) rfl h.aY h.aR (aC (jv 0) (aC (aO dQ rfl h.fJ rfl (aC (jv 1) aF)) aF))))
 (aV (bD (a6 b6 (a6 b6 (dY dW (jv 1) b9 (bV (jv 2))) (aZ (aC (aL (ab rfl) (uP h) (cA h) rfl h.cE h.bU (aC (jv 0) (aC (cZ (jv 1) (jv 2)) aF))) aF))) (dY dW (jv 1) (bV (a6 b6 (jv 2) aH)) b9))))))
theorem tA {S : aQ} (h : Fx S) : eL S.P S.w S.K S.mg S.base 11 h.bN h.bS bY (nN h.k) := eL.of h.cJ cO (tQ h) fun _ _ _ => .fW
abbrev e8 (k : bM) : MF := nN k
theorem oY {S : aQ} (h : Fx S) : eL S.P S.w S.K S.mg S.base 11 h.bN h.bS bY (e8 h.k) := tA h
def iK : List Str := [("_law_deck_here" : Str)]
def lQ : List Str := [("_law_deck_here" : Str)]
abbrev qB : Scope := defScope (top 18)
def l3 (k : bM) : MS :=
 (bB (aE a8 (hY (aA (eC (.int 0)) (aA (eC (.int 9)) (aA (eC (.int 10)) (aA (eC (.int 99)) (aA (eC (.int 100)) (aA (eC (.int 999)) (aA (aJ (bL k) 2 aN (aA (aB 0) (aA (eC (.int 10)) aD))) (aA (aJ (bL k) 2 aN (aA (aB 0) (aA (eC (.int 1000)) aD))) aD))))))))) (aJ (bL k) 2 aN (aA (aB 0) (aA (eC (.int 8)) aD)))))
def e9 (k : bM) : MF := bI (l3 k) iK
theorem wG : FnScope iK lQ qB := b0 (by decide +kernel)
theorem xA {S : aQ} (h : Fx S) : lD (S.body 1 iK qB) (defBody (top 18)) (l3 h.k) :=
 (aV (bD (cZ (eM (aC aH (aC aH (aC aH (aC aH (aC aH (aC aH (aC (aL (ab rfl) (aT h) (aU h) rfl h.aY h.aR (aC (jv 0) (aC aH aF))) (aC (aL (ab rfl) (aT h) (aU h) rfl h.aY h.aR (aC (jv 0) (aC aH aF))) aF))))))))) (aL (ab rfl) (aT h) (aU h) rfl h.aY h.aR (aC (jv 0) (aC aH aF))))))
theorem kD {S : aQ} (h : Fx S) : eL S.P S.w S.K S.mg S.base 2 h.f6 h.iH lQ (e9 h.k) := eL.of h.lI wG (xA h) fun _ _ _ => .fW
theorem j6 {S : aQ} (h : Fx S) : c7 S.K h.iH lQ 1 [] aN := bQ h.lI fun _ _ _ _ _ _ us hl => match us, hl with
 | [_], _ => rfl
def nJ : List Str := [("_law_deck_here" : Str), ("_law_fewest" : Str), ("_law_many" : Str), ("_law_k" : Str)]
def q7 : List Str := [("_law_deck_here" : Str), ("_law_fewest" : Str)]
abbrev yR : Scope := defScope (top 19)
def qW (k : bM) : MS :=
 (aK (aX (aE cB (aB 1) (aJ (bL k) 2 aN (aA (aB 0) (aA (eC (.int 4)) aD)))) (a7 2))
 (bB (aS dM (aA (sT sE (bR (dS hE (aA (aB 2) aD)) [3] (a7 3) cF (aJ (e9 k) 1 aN (aA (aB 0) aD)))) aD))))
def kO (k : bM) : MF := bI (qW k) nJ
theorem D0 : FnScope nJ q7 yR := b0 (by decide +kernel)
theorem E1 {S : aQ} (h : Fx S) : lD (S.body 2 nJ yR) (defBody (top 19)) (qW h.k) :=
 (aM (oG 2 (a6 b6 (jv 1) (aL (ab rfl) (aT h) (aU h) rfl h.aY h.aR (aC (jv 0) (aC aH aF)))))
 (aV (bD (gA mI rfl h.bW rfl (aC (JQ rfl h.xH rfl h.OX (eT (own := [(("_law_k" : Str), 3)]) (gO rfl h.jO (aC (jv 2) aF)) (by kernel_rfl) (CU 3) gG (aL (ab rfl) (kD h) (j6 h) rfl h.h9 h.g6 (aC (jv 0) aF)))) aF)))))
theorem u7 {S : aQ} (h : Fx S) : eL S.P S.w S.K S.mg S.base 3 h.kJ h.nD q7 (kO h.k) := eL.of h.qJ D0 (E1 h) fun _ _ _ => .fW
theorem u9 {S : aQ} (h : Fx S) : c7 S.K h.nD q7 2 [] aN := bQ h.qJ fun _ _ _ _ _ _ us hl => match us, hl with
 | [_, _], _ => rfl
def pA : List Str := [("_law_deck_here" : Str), ("_law_some" : Str)]
def o4 : List Str := [("_law_deck_here" : Str), ("_law_some" : Str)]
abbrev vE : Scope := defScope (top 17)
def vI (k : bM) : MS :=
 (bB (aE a8 (aB 1) (aJ (bL k) 2 aN (aA (aB 0) (aA (aS dI (aA (aB 1) aD)) aD)))))
def o5 (k : bM) : MF := bI (vI k) pA
theorem B5 : FnScope pA o4 vE := b0 (by decide +kernel)
theorem AL {S : aQ} (h : Fx S) : lD (S.body 1 pA vE) (defBody (top 17)) (vI h.k) :=
 (aV (bD (cZ (jv 1) (aL (ab rfl) (aT h) (aU h) rfl h.aY h.aR (aC (jv 0) (aC (aO dQ rfl h.fJ rfl (aC (jv 1) aF)) aF))))))
theorem CC {S : aQ} (h : Fx S) : eL S.P S.w S.K S.mg S.base 2 h.iV h.lG o4 (o5 h.k) := eL.of h.oZ B5 (AL h) fun _ _ _ => .fW
theorem BR {S : aQ} (h : Fx S) : c7 S.K h.lG o4 2 [] aN := bQ h.oZ fun _ _ _ _ _ _ us hl => match us, hl with
 | [_, _], _ => rfl
def m6 : List Str := [("_law_deck_here" : Str), ("_law_word" : Str), ("_law_many" : Str), ("_law_k" : Str)]
def qZ : List Str := [("_law_deck_here" : Str)]
abbrev xT : Scope := defScope (top 20)
def qM (k : bM) : MS :=
 (aK (aX (aJ (o5 k) 2 aN (aA (aB 0) (aA (hY (aA (eC (.str ("fall" : Str))) (aA (eC (.str ("stop" : Str))) (aA (eC (.str ("rise" : Str))) (aA (eC (.str ("down" : Str))) (aA (eC (.str ("up" : Str))) (aA (eC (.str ("rank" : Str))) (aA (eC (.str ("tear" : Str))) (aA (eC (.str ("tear" : Str))) (aA (eC (.str ("heal" : Str))) (aA (eC (.str ("ask" : Str))) aD))))))))))) aD))) (a7 1))
 (aK (aX (c5 "dict" getM (G5 (fU (eC (.str ("rank" : Str))) (eC (.int 3)) (fU (eC (.str ("heal" : Str))) (eC (.int 0)) (fU (eC (.str ("ask" : Str))) (eC (.int 2)) FI)))) (aA (aB 1) (aA (eC (.int 1)) aD))) (a7 2))
 (aK (dN (bG (aE eR (aB 1) (eC (.str ("tear" : Str))))) (bB (bA (aA (aB 1) (aA (aJ (kO k) 2 aN (aA (aB 0) (aA (eC (.int 1)) aD))) (aA (aJ (kO k) 2 aN (aA (aB 0) (aA (eC (.int 0)) aD))) aD))))) a9)
 (bB (aE cB (bA (aA (aB 1) aD)) (aS dM (aA (bR (dS hE (aA (aB 2) aD)) [3] (a7 3) cF (aJ (e9 k) 1 aN (aA (aB 0) aD))) aD)))))))
def nE (k : bM) : MF := bI (qM k) m6
theorem ED : FnScope m6 qZ xT := b0 (by decide +kernel)
theorem D7 {S : aQ} (h : Fx S) : lD (S.body 3 m6 xT) (defBody (top 20)) (qM h.k) :=
 (aM (oG 1 (aL (ab rfl) (CC h) (BR h) rfl h.vG h.rF (aC (jv 0) (aC (eM (aC bK (aC bK (aC bK (aC bK (aC bK (aC bK (aC bK (aC bK (aC bK (aC bK aF))))))))))) aF))))
 (aM (oG 2 (pL PySem.F.plainAttrs_dict PySem.F.slot_dict_get N7 (H6 (eU bK aH (eU bK aH (eU bK aH AS)))) (aC (jv 1) (aC aH aF))))
 (aM (eG (b5 cS (jv 1) bK) (aV (bD (aZ (aC (jv 1) (aC (aL (ab rfl) (u7 h) (u9 h) rfl h.q9 h.oR (aC (jv 0) (aC aH aF))) (aC (aL (ab rfl) (u7 h) (u9 h) rfl h.q9 h.oR (aC (jv 0) (aC aH aF))) aF)))))) b8)
 (aV (bD (a6 b6 (aZ (aC (jv 1) aF)) (gA mI rfl h.bW rfl (aC (eT (own := [(("_law_k" : Str), 3)]) (gO rfl h.jO (aC (jv 2) aF)) (by kernel_rfl) (CU 3) gG (aL (ab rfl) (kD h) (j6 h) rfl h.h9 h.g6 (aC (jv 0) aF))) aF))))))))
theorem EA {S : aQ} (h : Fx S) : eL S.P S.w S.K S.mg S.base 4 h.j3 h.nA qZ (nE h.k) := eL.of h.qI ED (D7 h) fun _ _ _ => .fW
theorem D3 {S : aQ} (h : Fx S) : c7 S.K h.nA qZ 1 [] aN := bQ h.qI fun _ _ _ _ _ _ us hl => match us, hl with
 | [_], _ => rfl
def kZ : List Str := [("_law_deck_here" : Str), ("_law_acts" : Str), ("_law_lots" : Str), ("_law_k" : Str), ("_law_j" : Str)]
def oA : List Str := [("_law_deck_here" : Str)]
abbrev vS : Scope := defScope (top 21)
def o9 (k : bM) : MS :=
 (aK (aX (aS dM (aA (bR (dS hE (aA (aJ (bL k) 2 aN (aA (aB 0) (aA (eC (.int 5)) aD))) aD)) [3] (a7 3) cF (aJ (nE k) 1 aN (aA (aB 0) aD))) aD)) (a7 1))
 (aK (aX (bR (dS hE (aA (aE a8 (hY (aA (eC (.int 0)) (aA (aJ (bL k) 2 aN (aA (aB 0) (aA (eC (.int 5)) aD))) aD))) (aJ (bL k) 2 aN (aA (aB 0) (aA (eC (.int 2)) aD)))) aD)) [4] (a7 4) cF (aS dM (aA (bR (dS hE (aA (eC (.int 4)) aD)) [3] (a7 3) cF (aJ (e9 k) 1 aN (aA (aB 0) aD))) aD))) (a7 2))
 (bB (bA (aA (aB 1) (aA (aS dM (aA (aB 2) aD)) aD))))))
def lB (k : bM) : MF := bI (o9 k) kZ
theorem AU : FnScope kZ oA vS := b0 (by decide +kernel)
theorem BJ {S : aQ} (h : Fx S) : lD (S.body 4 kZ vS) (defBody (top 21)) (o9 h.k) :=
 (aM (oG 1 (gA mI rfl h.bW rfl (aC (eT (own := [(("_law_k" : Str), 3)]) (gO rfl h.jO (aC (aL (ab rfl) (aT h) (aU h) rfl h.aY h.aR (aC (jv 0) (aC aH aF))) aF)) (by kernel_rfl) (CU 3) gG (aL (ab rfl) (EA h) (D3 h) rfl h.yQ h.vR (aC (jv 0) aF))) aF)))
 (aM (jsc 2 (own := [(("_law_j" : Str), 4)]) (gO rfl h.jO (aC (cZ (eM (aC aH (aC (aL (ab rfl) (aT h) (aU h) rfl h.aY h.aR (aC (jv 0) (aC aH aF))) aF))) (aL (ab rfl) (aT h) (aU h) rfl h.aY h.aR (aC (jv 0) (aC aH aF)))) aF)) (by kernel_rfl) (CU 4) gG (gA mI rfl h.bW rfl (aC (eT (own := [(("_law_k" : Str), 3)]) (gO rfl h.jO (aC aH aF)) (by kernel_rfl) (CU 3) gG (aL (ab rfl) (kD h) (j6 h) rfl h.h9 h.g6 (aC (jv 0) aF))) aF)))
 (aV (bD (aZ (aC (jv 1) (aC (gA mI rfl h.bW rfl (aC (jv 2) aF)) aF)))))))
theorem A2 {S : aQ} (h : Fx S) : eL S.P S.w S.K S.mg S.base 5 h.iX h.k9 oA (lB h.k) := eL.of h.oC AU (BJ h) fun _ _ _ => .fW
theorem B3 {S : aQ} (h : Fx S) : c7 S.K h.k9 oA 1 [] aN := bQ h.oC fun _ _ _ _ _ _ us hl => match us, hl with
 | [_], _ => rfl
def jT : List Str := [("_law_deck_here" : Str), ("_law_many" : Str), ("_law_k" : Str)]
def m9 : List Str := [("_law_deck_here" : Str), ("_law_many" : Str)]
abbrev sS : Scope := defScope (top 22)
def nF (k : bM) : MS :=
 (bB (aS dM (aA (bR (dS hE (aA (aB 1) aD)) [2] (a7 2) cF (aJ (lB k) 1 aN (aA (aB 0) aD))) aD)))
def gZ (k : bM) : MF := bI (nF k) jT
theorem y4 : FnScope jT m9 sS := b0 (by decide +kernel)
theorem zN {S : aQ} (h : Fx S) : lD (S.body 5 jT sS) (defBody (top 22)) (nF h.k) :=
 (aV (bD (gA mI rfl h.bW rfl (aC (eT (own := [(("_law_k" : Str), 2)]) (gO rfl h.jO (aC (jv 1) aF)) (by kernel_rfl) (CU 2) gG (aL (ab rfl) (A2 h) (B3 h) rfl h.vD h.sL (aC (jv 0) aF))) aF))))
theorem zO {S : aQ} (h : Fx S) : eL S.P S.w S.K S.mg S.base 6 h.gS h.jP m9 (gZ h.k) := eL.of h.mX y4 (zN h) fun _ _ _ => .fW
theorem zD {S : aQ} (h : Fx S) : c7 S.K h.jP m9 2 [] aN := bQ h.mX fun _ _ _ _ _ _ us hl => match us, hl with
 | [_, _], _ => rfl
def IU : List Str := [("_law_script" : Str), ("_law_deck_here" : Str), ("_law_turn_at" : Str), ("_law_great" : Str), ("_law_good" : Str), ("_law_k" : Str), ("_law_twice" : Str), ("_law_it" : Str), ("_law_some" : Str)]
def TN : List Str := [("_law_script" : Str)]
abbrev SO : Scope := defScope (top 30)
def NN (k : bM) : MS :=
 (aK (aX (aJ (oW k) 1 aN (aA (aB 0) aD)) (a7 1))
 (aK (fY (dS hE (aA (eC (.int 3)) aD)) (a7 2) (aK (aX (aE eR (aJ (bL k) 2 aN (aA (aB 1) (aA (eC (.int 8)) aD))) (eC (.int 5))) (a7 3))
 (aK (aX (aJ (gZ k) 2 aN (aA (aB 1) (aA (UC (cV (aB 3)) (eC (.int 100)) (aJ (bL k) 2 aN (aA (aB 1) (aA (eC (.int 7)) aD)))) aD))) (a7 4))
 (fY (dS hE (aA (eC (.int 16)) aD)) (a7 5) (aK (aX (aE eR (aJ (bL k) 2 aN (aA (aB 1) (aA (eC (.int 3)) aD))) (eC (.int 0))) (a7 6))
 (aK (aX (aJ (e8 k) 2 aN (aA (aB 1) (aA (aB 4) aD))) (a7 7))
 (aK (dN (cV (aB 6)) (aX (aJ (e8 k) 2 aN (aA (aB 1) (aA (aB 7) aD))) (a7 7)) a9)
 (dN (eQ (cH (cV (aJ (cP k) 1 aN (aA (aB 7) aD)))) (eQ (cH (cV (aJ (cP k) 1 aN (aA (aB 4) aD)))) (bG (aE nK (aJ (dH k) 1 aN (aA (aB 4) aD)) (eC (.bl true)))))) (bB (eC (.bl false))) a9))))))))
 (aK (aX (eNew (aA (eC .non) (aA (eC (.bl true)) (aA (eC (.int 0)) (aA (eC (.str ("" : Str))) (aA (eC (.str ("fall 0" : Str))) (aA (hY aD) (aA xX (aA (bA (aA (bA aD) aD)) (aA (bA (aA (bA (aA (bA aD) (aA (bA aD) (aA (bA aD) aD)))) aD)) (aA (bA (aA (hY (aA (bA aD) (aA (bA aD) aD))) aD)) (aA (bA (aA (bA (aA (bA (aA (eC (.str ("heal" : Str))) aD)) (aA (bA aD) aD))) aD)) (aA (bA (aA (bA aD) (aA (bA aD) aD))) aD))))))))))))) (a7 8))
 (aK (aX (aE zT (aB 8) (hY (aA (bA (aA (bA (aA (bA (aA (bA aD) aD)) (aA (bA aD) aD))) aD)) (aA (bA (aA (bA (aA (bA (aA (bA (aA (eC (.str ("tear" : Str))) (aA (bA aD) (aA (bA aD) aD)))) aD)) (aA (bA aD) aD))) aD)) (aA (bA (aA (bA (aA (bA (aA (bA (aA (eC (.str ("tear" : Str))) (aA (bA (aA (eC (.int 0)) (aA (eC (.int 0)) aD))) (aA (bA aD) aD)))) aD)) (aA (bA aD) aD))) aD)) aD))))) (a7 8))
 (aK (cX (c5 "list" cU (aB 8) (aA (bA (aA (bA (aA (bA aD) (aA (bA (aA (bA (aA (eC (.int 0)) (aA (eC (.int 0)) (aA (eC (.int 0)) aD)))) aD)) aD))) aD)) aD)))
 (bB (aE eR (bR (dP (aE LG (aB 8) (hY (aA (bA aD) aD)))) [7] (a7 7) (cH (cV (aJ (cP k) 1 aN (aA (aB 7) aD)))) (aB 7)) (hY aD))))))))
def ET (k : bM) : MF := bI (NN k) IU
theorem V5 : FnScope IU TN SO := b0 (by decide +kernel)
theorem VB {S : aQ} (h : Fx S) : lD (S.body 11 IU SO) (defBody (top 30)) (NN h.k) :=
 (aM (oG 1 (aL (ab rfl) (A9 h) (BI h) rfl h.uV h.rN (aC (jv 0) aF)))
 (aM (B2 (gO rfl h.jO (aC aH aF)) (SR 2) (aM (oG 3 (gK cS (aL (ab rfl) (aT h) (aU h) rfl h.aY h.aR (aC (jv 1) (aC aH aF))) aH))
 (aM (oG 4 (aL (ab rfl) (zO h) (zD h) rfl h.rY h.qA (aC (jv 1) (aC (WY (bH (jv 3)) aH (aL (ab rfl) (aT h) (aU h) rfl h.aY h.aR (aC (jv 1) (aC aH aF)))) aF))))
 (aV (B2 (gO rfl h.jO (aC aH aF)) (SR 5) (aM (oG 6 (gK cS (aL (ab rfl) (aT h) (aU h) rfl h.aY h.aR (aC (jv 1) (aC aH aF))) aH))
 (aM (oG 7 (aL (ab rfl) (oY h) (cA h) rfl h.cE h.bU (aC (jv 1) (aC (jv 4) aF))))
 (aM (eG (bH (jv 6)) (aV (oG 7 (aL (ab rfl) (oY h) (cA h) rfl h.cE h.bU (aC (jv 1) (aC (jv 7) aF))))) b8)
 (aV (eG (mU (cW (cM (bH (aL (ab rfl) (lP h) (lL h) rfl h.jU h.iM (aC (jv 7) aF)))) (cW (cM (bH (aL (ab rfl) (lP h) (lL h) rfl h.jU h.iM (aC (jv 4) aF)))) (fA (b5 OL (aL (ab rfl) (pE h) (vN h) rfl h.mR h.kY (aC (jv 4) aF)) kI))))) (aV (bD kI)) b8))))))))))
 (aM (oG 8 (MV (aC LS (aC kI (aC aH (aC bK (aC bK (aC (eM aF) (aC DD (aC (aZ (aC (aZ aF) aF)) (aC (aZ (aC (aZ (aC (aZ aF) (aC (aZ aF) (aC (aZ aF) aF)))) aF)) (aC (aZ (aC (eM (aC (aZ aF) (aC (aZ aF) aF))) aF)) (aC (aZ (aC (aZ (aC (aZ (aC bK aF)) (aC (aZ aF) aF))) aF)) (aC (aZ (aC (aZ aF) (aC (aZ aF) aF))) aF))))))))))))))
 (aM (oG 8 (a6 OU (jv 8) (eM (aC (aZ (aC (aZ (aC (aZ (aC (aZ aF) aF)) (aC (aZ aF) aF))) aF)) (aC (aZ (aC (aZ (aC (aZ (aC (aZ (aC bK (aC (aZ aF) (aC (aZ aF) aF)))) aF)) (aC (aZ aF) aF))) aF)) (aC (aZ (aC (aZ (aC (aZ (aC (aZ (aC bK (aC (aZ (aC aH (aC aH aF))) (aC (aZ aF) aF)))) aF)) (aC (aZ aF) aF))) aF)) aF))))))
 (aM (CL (pL PySem.F.plainAttrs_list PySem.F.slot_list_append AF (jv 8) (aC (aZ (aC (aZ (aC (aZ aF) (aC (aZ (aC (aZ (aC aH (aC aH (aC aH aF)))) aF)) aF))) aF)) aF)))
 (aV (bD (gK cS (eT (own := [(("_law_it" : Str), 7)]) (jG (a6 Q4 (jv 8) (eM (aC (aZ aF) aF)))) (by kernel_rfl) (CU 7) (sQ (cM (bH (aL (ab rfl) (lP h) (lL h) rfl h.jU h.iM (aC (jv 7) aF))))) (jv 7)) (eM aF)))))))))
theorem U0 {S : aQ} (h : Fx S) : eL S.P S.w S.K S.mg S.base 12 h.zQ h.I9 TN (ET h.k) := eL.of h.S4 V5 (VB h) fun _ _ _ => .fW
end K63
namespace K63
open PySem PySem.Spec PyProof.Rows L2 Pc Lb Lw
abbrev kU : D → Bool := nC 0 999
def intsOf : List D → List Int
 | [] => []
 | .int i :: r => i :: intsOf r
 | _ :: r => intsOf r
def nS (c : Nat) : D → Bool
 | .tup xs => decide (c ≤ xs.length) && (xs.all kU && decide (intsOf xs = gB (intsOf xs)))
 | _ => false
def sA (m : Nat) : Option (Option D) → Bool
 | some (some (.int i)) => i == (m : Int)
 | _ => false
def iW : D → Bool
 | .tup (.str z :: rest) => if z = ("tear" : Str) then rest.length == 2 && (nS 1 (rest.getD 0 .non) && nS 0 (rest.getD 1 .non)) else sA rest.length (bO.lookup z) && rest.all kU
 | _ => false
def kK : D → Bool
 | .tup xs => xs.length == 4 && xs.all kU
 | _ => false
def fG : D → Bool
 | .tup [.tup a, .tup f] => a.all iW && f.all kK
 | _ => false
def fL : D → Bool
 | .tup xs => xs.all fG
 | _ => false
theorem uL : ∀ {xs : List D}, xs.all kU = true → xs = (intsOf xs).map D.int
 | [], _ => rfl
 | x :: xs, h => by
  simp only [List.all_cons, ag] at h
  cases x <;> first | (simp [nC] at h; done) | skip
  rw [intsOf, List.map_cons, ← uL h.2]
def UE : D → Bool
 | .int _ => true
 | _ => false
def cI (xs : List D) : Nat := xs.countP UE
def pY : Nat → Nat → D → Bool
 | 0, _, _ => false
 | n + 1, l, .tup xs => xs.all (pY n l) && decide (cI xs + 40 ≤ l)
 | n + 1, l, .lst xs => xs.all (pY n l)
 | n + 1, l, .sF _ vs => vs.all (pY n l)
 | _ + 1, _, _ => true
theorem NT : ∀ {xs : List D}, (intsOf xs).length = cI xs
 | [] => rfl
 | x :: xs => by
  have := NT (xs := xs)
  cases x <;> simp_all [intsOf, cI, List.countP_cons, UE]
theorem fZ : ∀ {n n' l l' : Nat} {d : D}, pY n l d = true → n ≤ n' → l ≤ l' → pY n' l' d = true
 | 0, _, _, _, _, h, _, _ => by simp [pY] at h
 | n + 1, 0, _, _, _, _, hn, _ => by omega
 | n + 1, n' + 1, l, l', d, h, hn, hl => by
  cases d <;> simp only [pY] at h ⊢
  ·simp only [ag, ak, ah] at h ⊢
   exact ⟨fun x hx => fZ (h.1 x hx) (by omega) hl, by omega⟩
  ·simp only [ak] at h ⊢
   exact fun x hx => fZ (h x hx) (by omega) hl
  ·simp only [ak] at h ⊢
   exact fun x hx => fZ (h x hx) (by omega) hl
theorem tM {n l : Nat} {xs : List D} (h : ∀ x ∈ xs, pY n l x = true) (hl : cI xs + 40 ≤ l) : pY (n + 1) l (.tup xs) = true := by
 simp only [pY, ag, ak, ah]
 exact ⟨h, hl⟩
theorem MJ {n l : Nat} {xs : List D} (h : ∀ x ∈ xs, pY n l x = true) : pY (n + 1) l (.lst xs) = true := by
 simp only [pY, ak]
 exact h
theorem rG {n l : Nat} {xs : List D} (h : pY (n + 1) l (.tup xs) = true) : (∀ x ∈ xs, pY n l x = true) ∧ cI xs + 40 ≤ l := by
 simp only [pY, ag, ak, ah] at h
 exact h
theorem n8 {xs ys : List D} : cI (xs ++ ys) = cI xs + cI ys := List.countP_append ..
theorem GJ {xs : List D} (n : Nat) : cI (xs.take n) + cI (xs.drop n) = cI xs := by rw [← n8, List.take_append_drop]
theorem SY {xs : List D} : cI xs.reverse = cI xs := List.countP_reverse ..
theorem IF {x : D} : cI [x] ≤ 1 := by
 unfold cI
 exact bw List.countP_le_length (by simp)
theorem VQ {xs : List D} (n : Nat) : cI (xs.take (n + 1)) ≤ cI (xs.take n) + 1 := by
 have e : xs.take (n + 1) = xs.take n ++ xs[n]?.toList := List.take_add_one
 rw [e, n8]
 have : cI xs[n]?.toList ≤ 1 := by
  cases xs[n]? with
  | none => simp [cI]
  | some x => exact IF
 omega
theorem u3 {r : Res D} {v : D} {w : W} (h : T r fun a w' => a = v ∧ w' = w) : r = .ok v w := by
 obtain ⟨a, w', e, rfl, rfl⟩ := h.ex
 exact e
section
variable (k : K63.bM)
abbrev lz : Lb.bM := ⟨0, 0⟩
theorem gT : K63.bL k = CF := rfl
theorem U7 : K63.o5 k = HG := rfl
theorem UI : K63.oW k = HY := rfl
theorem OJ : K63.cD k = Lb.cD lz := rfl
theorem ben (x0 : D) : begin fR [x0] = [some x0] := rfl
theorem bel (x0 x1 : D) : begin iB [x0, x1] = [some x0, some x1, none] := rfl
theorem bea (x0 : D) : begin iD [x0] = [some x0, none, none] := rfl
theorem bes (x0 : D) : begin gH [x0] = [some x0, none, none, none, none, none] := rfl
theorem Z7 (x0 : D) : begin iC [x0] = [some x0, none] := rfl
theorem Z6 (x0 : D) : begin jY [x0] = [some x0] := rfl
theorem ZE (x0 x1 : D) : begin k0 [x0, x1] = [some x0, some x1, none, none] := rfl
theorem Z4 (x0 : D) : begin pG [x0] = [some x0, none, none] := rfl
theorem Z2 (x0 : D) : begin pV [x0] = [some x0, none, none, none, none, none] := rfl
theorem Z9 (x0 : D) : begin m5 [x0] = [some x0, none] := rfl
variable {n l : Nat} {w w' w0 : W} {P : D → W → Prop} {PF : Fl → W → Prop} {d : D}
theorem L9 (e : k6 n d = true) : K63.dD k [d] w = .ok (.bl (kU d)) w := by
 refine u3 ?_
 unfold K63.dD K63.hV
 rw [eY, ben]
 simp only [zW e, MZ e, zY, ae, aa, reduceCtorEq]
 cases d <;> simp only [nC, zY, ae, aa, reduceCtorEq] <;> try exact ⟨rfl, rfl⟩
 rename_i i
 by_cases h : 0 ≤ i <;> simp [h, kU, nC]
theorem HD {xs : List D} (hd : d = .tup xs ∨ d = .lst xs) (e : ∀ x ∈ xs, k6 n x = true) (hl : xs.length ≤ 70000) : K63.eA k [d] w = .ok (.bl (xs.all kU)) w := by
 refine u3 ?_
 unfold K63.eA K63.l6
 rw [eY, Z7]
 have it : ∀ (PI : lA → W → Prop), T (iterM d w) PI = PI ⟨xs, always⟩ w := fun PI => by
  rcases hd with rfl | rfl
  ·exact nP
  ·exact TH
 simp only [it, zY, ae, aa, reduceCtorEq]
 refine ⟨AD _ (by omega), ?_⟩
 refine pX (it := ⟨xs, always⟩) xs (fun x => x) (fun x => .bl (kU x)) (by simp) trivial (fun x hx => ?_) ?_
 ·simp only [dO, OJ, MM 0 999 (e x hx), zY, ae, aa, reduceCtorEq]
 ·rw [uR xs kU]
  first | exact ⟨rfl, rfl⟩ | rfl
theorem ND (a c : Int) (w : W) (P : D → W → Prop) : T (FR (.int a) (.int c) w) P = P (.bl (decide (a < c))) w := by unfold T; rfl
theorem FE {c : Nat} (e : k6 (n + 1) d = true) : K63.fK k [d, .int (c : Nat)] w = .ok (.bl (nS c d)) w := by
 refine u3 ?_
 unfold K63.fK K63.oV
 rw [eY, ZE, bP]
 simp only [j9 e, zY, ae, aa, reduceCtorEq]
 cases d <;> simp only [c9, nS, zY, ae, aa, reduceCtorEq] <;> try exact ⟨rfl, rfl⟩
 rename_i xs
 obtain ⟨e1, e2⟩ := fE e
 try simp only [yN, ND, zY, ae, aa, reduceCtorEq]
 by_cases c1 : c ≤ xs.length
 case neg =>
  have i1 : decide (((xs.length : Nat) : Int) < (c : Nat)) = true := by simp; omega
  have j1 : decide (c ≤ xs.length) = false := by simp; omega
  (simp only [i1, j1, Bool.false_and, zY, ae, aa, reduceCtorEq]) <;> (first | exact ⟨rfl, rfl⟩ | rfl)
 have i1 : decide (((xs.length : Nat) : Int) < (c : Nat)) = false := by simp; omega
 have j1 : decide (c ≤ xs.length) = true := by simp; omega
 simp only [i1, j1, HD k (.inl rfl) e1 e2, Bool.true_and, zY, ae, aa, reduceCtorEq]
 cases c2 : xs.all kU with
 | false =>
  (simp only [Bool.false_and, zY, ae, aa, reduceCtorEq]) <;> (first | exact ⟨rfl, rfl⟩ | rfl)
 | true =>
 have ei := uL c2
 obtain ⟨ns, en⟩ : ∃ ns, ns = intsOf xs := ⟨_, rfl⟩
 rw [← en] at ei ⊢
 have hl : ns.length ≤ 70000 := by rw [ei, bu] at e2; exact e2
 subst ei
 simp only [RP, J5, ZU, cR, zY, ae, aa, reduceCtorEq]
 refine ⟨by simp, AD _ (by simp; omega), ?_⟩
 have e5 : (List.zip (ns.map D.int).dropLast (ns.map D.int).tail).map (fun p => D.tup [p.1, p.2]) = (ns.dropLast.zip ns.tail).map fun p => D.tup [.int p.1, .int p.2] := by
  rw [← List.map_dropLast, ← List.map_tail, List.zip_map, List.map_map]
  rfl
 rw [e5]
 refine pX (it := ⟨_, always⟩) (ns.dropLast.zip ns.tail) (fun p => .tup [.int p.1, .int p.2]) (fun p => .bl (decide (p.1 < p.2))) rfl trivial (fun p _ => ?_) ?_
 ·simp only [dO, ND, zY, ae, aa, reduceCtorEq]
 rw [uR (ns.dropLast.zip ns.tail) fun p => decide (p.1 < p.2), OI]
 exact ⟨by simp, rfl⟩
theorem wF {xs : List D} {it : lA} {vs : List Nat} {g : MG} {t : MT} {e : ME} {σ : Sg} {P : List D → W → Prop} (p : D → Bool) (hx : it.xs = xs) (hok : it.ok w) (h : ∀ x ∈ xs, T (g x (dO σ vs) w) fun σ1 w1 => T (t σ1 w1) fun b w2 => (w2 = w ∧ b = !p x) ∧ ((!p x) = true → T (e σ1 w2) fun z w3 => z = x ∧ w3 = w)) (hP : P (xs.filter fun x => !p x) w) : T (gU it vs g t e it.xs σ w) P := by
 refine QX xs (fun x => x) (fun x => x) (fun x => !p x) (by rw [hx, List.map_id']) hok h ?_
 rw [List.map_id']
 exact hP
theorem filter_empty {xs : List D} {p : D → Bool} : (xs.filter fun x => !p x).isEmpty = xs.all p := by
 induction xs with
 | nil => rfl
 | cons x xs ih =>
  rw [List.filter_cons, List.all_cons]
  cases p x <;> simp [ih]
theorem S7 {c : Nat} (e : k6 (n + 1) d = true) (fi : pY (n + 1) l d = true) (hl : l ≤ 100) : K63.eD k [d, .int (c : Nat)] w = .ok (.bl (nS c d)) w := by
 refine u3 ?_
 unfold K63.eD K63.lJ
 rw [eY, bel, bP]
 simp only [j9 e, zY, ae, aa, reduceCtorEq]
 cases d <;> simp only [c9, nS, zY, ae, aa, reduceCtorEq] <;> try exact ⟨rfl, rfl⟩
 rename_i xs
 obtain ⟨e1, e2⟩ := fE e
 try simp only [yN, ND, nP, zY, ae, aa, reduceCtorEq]
 by_cases c1 : c ≤ xs.length
 case neg =>
  have i1 : decide (((xs.length : Nat) : Int) < (c : Nat)) = true := by simp; omega
  have j1 : decide (c ≤ xs.length) = false := by simp; omega
  (simp only [i1, j1, Bool.false_and, zY, ae, aa, reduceCtorEq]) <;> (first | exact ⟨rfl, rfl⟩ | rfl)
 have i1 : decide (((xs.length : Nat) : Int) < (c : Nat)) = false := by simp; omega
 have j1 : decide (c ≤ xs.length) = true := by simp; omega
 simp only [i1, j1, Bool.true_and, zY, ae, aa, reduceCtorEq]
 refine ⟨AD _ (by omega), ?_⟩
 refine wF (it := ⟨xs, always⟩) kU rfl trivial (fun x hx => ?_) ?_
 ·simp only [dO, L9 k (e1 x hx), zY, ae, aa, reduceCtorEq]
  first | exact fun _ => rfl | exact fun _ => trivial
 simp only [KY, mG, filter_empty, af, bj, zY, ae, aa, reduceCtorEq]
 cases c2 : xs.all kU with
 | false =>
  (simp only [Bool.false_and, zY, ae, aa, reduceCtorEq]) <;> (first | exact ⟨rfl, rfl⟩ | rfl)
 | true =>
 have ei := uL c2
 have ec := NT (xs := xs)
 obtain ⟨f1, f2⟩ := rG fi
 obtain ⟨ns, en⟩ : ∃ ns, ns = intsOf xs := ⟨_, rfl⟩
 rw [← en] at ei ec ⊢
 have hl : ns.length < 64 := by omega
 clear ec f1 f2 en e1 e2 c1 i1 j1 fi e c2
 subst ei
 have l2 : sE (.tup (ns.map D.int)) w = .ok (.lst ((gB ns).map D.int)) w := by
  simp only [sE, D.items, Option.bind_some, Pc.jZ, hl, ae]
 simp only [NC, l2, kN, E3, Bool.true_and, zY, ae, aa, reduceCtorEq]
theorem VD (e : k6 (n + 1) d = true) : K63.j0 k [d] w = .ok (.bl (kK d)) w := by
 refine u3 ?_
 unfold K63.j0 K63.mH
 rw [eY, Z6]
 simp only [j9 e, zY, ae, aa, reduceCtorEq]
 cases d <;> simp only [c9, kK, zY, ae, aa, reduceCtorEq] <;> try exact ⟨rfl, rfl⟩
 rename_i xs
 obtain ⟨e1, e2⟩ := fE e
 simp only [yN, HA, HD k (.inl rfl) e1 e2, zY, ae, aa, reduceCtorEq]
 by_cases c : xs.length = 4
 ·have i1 : (((xs.length : Nat) : Int) == 4) = true := by simp; omega
  have i2 : (xs.length == 4) = true := by simp; omega
  simp only [i1, i2, Bool.true_and, zY, ae, aa, reduceCtorEq]
 ·have i1 : (((xs.length : Nat) : Int) == 4) = false := by simp; omega
  have i2 : (xs.length == 4) = false := by simp; omega
  simp only [i1, i2, Bool.false_and, zY, ae, aa, reduceCtorEq]
theorem JR {z : Str} {o : Option D} (h : bO.lookup z = some o) : ∃ m : Nat, o = some (.int m) := by
 have := lookup_mem h
 simp only [bO, ao, bg, or_false, Prod.mk.injEq] at this
 rcases this with ⟨_, rfl⟩ | ⟨_, rfl⟩ | ⟨_, rfl⟩ | ⟨_, rfl⟩ | ⟨_, rfl⟩ | ⟨_, rfl⟩ | ⟨_, rfl⟩ | ⟨_, rfl⟩
 ·exact ⟨1, rfl⟩
 ·exact ⟨1, rfl⟩
 ·exact ⟨1, rfl⟩
 ·exact ⟨1, rfl⟩
 ·exact ⟨1, rfl⟩
 ·exact ⟨3, rfl⟩
 ·exact ⟨0, rfl⟩
 ·exact ⟨2, rfl⟩
theorem EZ (tab : List (Str × Option D)) (z : Str) : fM (tab.map fun p => ((.inr p.1 : Key), p.2.getD .non)) (.inr z) = (tab.lookup z).map fun o => o.getD .non := by
 induction tab with
 | nil => rfl
 | cons p r ih =>
  rw [List.map_cons, fM, List.lookup_cons, ih]
  by_cases c : p.1 = z
  ·have : (z == p.1) = true := by simp [c]
   rw [if_pos (by rw [c]), this]
   rfl
  ·have : (z == p.1) = false := by
    rw [beq_eq_false_iff_ne]
    exact fun e => c e.symm
   rw [if_neg (fun e => c (Sum.inr.inj e)), this]
theorem A5 : PyData.strOk ("tear" : Str) = true := by decide +kernel
theorem QN (h : ∀ z rest, d ≠ .tup (.str z :: rest)) : iW d = false := by
 unfold iW
 split
 ·exact absurd rfl (h _ _)
 ·rfl
theorem UT (e : k6 (n + 2) d = true) : K63.pH k [d] w = .ok (.bl (iW d)) w := by
 refine u3 ?_
 unfold K63.pH K63.uJ
 rw [eY, Z4, bP]
 simp only [j9 e, zY, ae, aa, reduceCtorEq]
 cases d <;> simp only [c9, zY, ae, aa, reduceCtorEq] <;> try rfl
 rename_i xs
 obtain ⟨e1, e2⟩ := fE e
 cases xs with
 | nil =>
  (simp only [kN, jX, List.isEmpty_nil, zY, ae, aa, reduceCtorEq]) <;> (first | exact ⟨rfl, rfl⟩ | rfl)
 | cons x rest =>
 have ex := e1 x (aq ..)
 have er : ∀ y ∈ rest, k6 (n + 1) y = true := fun y hy => e1 y (aw _ hy)
 have lr : rest.length ≤ 70000 := by rw [List.length_cons] at e2; omega
 simp only [kN, jX, List.isEmpty_cons, Y7, TJ ex, zY, ae, aa, reduceCtorEq]
 cases x <;> simp only [GQ, zY, ae, aa, reduceCtorEq] <;> try rfl
 rename_i z
 have sz : PyData.strOk z = true := ex
 rw [bP]
 simp only [QM, List.take_succ_cons, List.take_zero, List.drop_succ_cons, List.drop_zero, List.cons_append, List.nil_append, zY, ae, aa, reduceCtorEq]
 refine ⟨⟨by omega, AD _ (by omega)⟩, ?_⟩
 rw [bP]
 simp only [kN, pC sz A5, zY, ae, aa, reduceCtorEq]
 by_cases ct : z = ("tear" : Str)
 ·subst ct
  simp only [decide_true, Q5, eV, zY, ae, aa, reduceCtorEq]
  by_cases c2 : rest.length = 2
  case neg =>
   have i1 : (((rest.length : Nat) : Int) == 2) = false := by simp; omega
   have i2 : (rest.length == 2) = false := by simp; omega
   (simp only [eV, i1, iW, ae, i2, Bool.false_and, zY, ae, aa, reduceCtorEq]) <;> (first | exact ⟨rfl, rfl⟩ | rfl)
  obtain ⟨a, b, rfl⟩ : ∃ a b, rest = [a, b] := by
   match rest, c2 with
   | [a, b], _ => exact ⟨a, b, rfl⟩
  have ra : ∀ w : W, K63.fK k [a, .int 1] w = .ok (.bl (nS 1 a)) w := fun w => FE k (c := 1) (er a (by simp))
  have rb : ∀ w : W, K63.fK k [b, .int 0] w = .ok (.bl (nS 0 b)) w := fun w => FE k (c := 0) (er b (by simp))
  have g0 : atI [a, b] 0 = some a := rfl
  have g1 : atI [a, b] 1 = some b := rfl
  have ev : iW (.tup (.str ("tear" : Str) :: [a, b])) = (nS 1 a && nS 0 b) := by
   simp only [iW, ae]
   rfl
  have i1 : ((((0 + 1 + 1 : Nat)) : Int) == 2) = true := rfl
  simp only [eV, beq_self_eq_true, i1, g0, g1, ra, rb, ev, zY, ae, aa, reduceCtorEq]
  cases nS 1 a <;> simp
 ·have ev : iW (.tup (.str z :: rest)) = (sA rest.length (bO.lookup z) && rest.all kU) := by simp only [iW, if_neg ct]
  have nn : ∀ w : W, K63.eA k [.lst rest] w = .ok (.bl (rest.all kU)) w := fun w => HD k (.inr rfl) er lr
  simp only [decide_eq_false ct, zY, ae, aa, reduceCtorEq]
  cases hz : bO.lookup z with
  | none =>
   have ki : ∀ (w : W) (P : D → W → Prop), T (FT k.gJ bO (.str z) (.con k.gJ) w) P = P (.bl false) w := fun w P => by simp only [FT, ae, hz, cR]
   (simp only [ki, ev, hz, sA, Bool.false_and, zY, ae, aa, reduceCtorEq]) <;> (first | exact ⟨rfl, rfl⟩ | rfl)
  | some o =>
   obtain ⟨m, rfl⟩ := JR hz
   have ki := fun (w : W) (P : D → W → Prop) => YW (w := w) (P := P) (a := k.gJ) hz
   have kx := fun (w : W) (P : D → W → Prop) => YU (w := w) (P := P) (a := k.gJ) hz
   simp only [ki, kx, Option.isSome_some, Q5, eV, nn, ev, hz, sA, zY, ae, aa, reduceCtorEq]
   by_cases c : rest.length = m
   ·subst c
    simp
   ·have i1 : (((rest.length : Nat) : Int) == (m : Nat)) = false := by simp; omega
    have i2 : (((m : Nat) : Int) == (rest.length : Nat)) = false := by simp; omega
    (simp only [i1, i2, Bool.false_and, zY, ae, aa, reduceCtorEq]) <;> (first | exact ⟨rfl, rfl⟩ | rfl)
def Gr (w w' : W) : Prop := ∃ x, w' = w ++ x
theorem Gr.refl {w : W} : Gr w w := ⟨[], (List.append_nil w).symm⟩
theorem Gr.trans {a b c : W} (h : Gr a b) (g : Gr b c) : Gr a c := by
 obtain ⟨x, rfl⟩ := h
 obtain ⟨y, rfl⟩ := g
 exact ⟨x ++ y, by rw [bp]⟩
theorem Gr.one {w : W} {o : MO} : Gr w (w ++ [o]) := ⟨[o], rfl⟩
theorem YV (e : k6 (n + 2) d = true) (fi : pY (n + 2) l d = true) (hl : l ≤ 100) (hP : ∀ w', Gr w w' → P (.bl (iW d)) w') : T (K63.iA k [d] w) P := by
 unfold K63.iA K63.lO
 rw [eY, bea, bP]
 simp only [j9 e, zY, ae, aa, reduceCtorEq]
 have no : (∀ z rest, d ≠ .tup (.str z :: rest)) → P (.bl false) w := fun h => by
  have := hP w .refl
  rw [QN h] at this
  exact this
 cases d <;> simp only [c9, zY, ae, aa, reduceCtorEq] <;> try exact no (by intro _ _ h; cases h)
 rename_i xs
 obtain ⟨e1, e2⟩ := fE e
 obtain ⟨f1, f2⟩ := rG fi
 cases xs with
 | nil =>
  simp only [kN, jX, List.isEmpty_nil, zY, ae, aa, reduceCtorEq]
  exact no (by intro _ _ h; cases h)
 | cons x rest =>
 have ex := e1 x (aq ..)
 have er : ∀ y ∈ rest, k6 (n + 1) y = true := fun y hy => e1 y (aw _ hy)
 have fr : ∀ y ∈ rest, pY (n + 1) l y = true := fun y hy => f1 y (aw _ hy)
 have lr : rest.length ≤ 70000 := by rw [List.length_cons] at e2; omega
 simp only [kN, jX, List.isEmpty_cons, Y7, TJ ex, zY, ae, aa, reduceCtorEq]
 cases x <;> simp only [GQ, zY, ae, aa, reduceCtorEq] <;> try exact no (by intro _ _ h; cases h)
 rename_i z
 have sz : PyData.strOk z = true := ex
 clear no
 rw [bP]
 simp only [kN, pC sz A5, Y7, zY, ae, aa, reduceCtorEq]
 by_cases ct : z = ("tear" : Str)
 ·subst ct
  simp only [decide_true, yN, HA, zY, ae, aa, reduceCtorEq]
  by_cases c2 : rest.length = 2
  case neg =>
   have i1 : ((((rest.length + 1 : Nat)) : Int) == 3) = false := by simp; omega
   have i2 : (rest.length == 2) = false := by simp; omega
   have ev : iW (.tup (.str ("tear" : Str) :: rest)) = false := by simp only [iW, ae, i2, Bool.false_and]
   try simp only [kN, eV, i1, zY, ae, aa, reduceCtorEq]
   rw [← ev]
   exact hP w .refl
  obtain ⟨a, b, rfl⟩ : ∃ a b, rest = [a, b] := by
   match rest, c2 with
   | [a, b], _ => exact ⟨a, b, rfl⟩
  have ra : ∀ w : W, K63.eD k [a, .int 1] w = .ok (.bl (nS 1 a)) w := fun w => S7 k (c := 1) (er a (by simp)) (fr a (by simp)) hl
  have rb : ∀ w : W, K63.eD k [b, .int 0] w = .ok (.bl (nS 0 b)) w := fun w => S7 k (c := 0) (er b (by simp)) (fr b (by simp)) hl
  have g1 : atI [.str ("tear" : Str), a, b] 1 = some a := rfl
  have g2 : atI [.str ("tear" : Str), a, b] 2 = some b := rfl
  have ev : iW (.tup (.str ("tear" : Str) :: [a, b])) = (nS 1 a && nS 0 b) := by
   simp only [iW, ae]
   rfl
  have i1 : ((((0 + 1 + 1 + 1 : Nat)) : Int) == 3) = true := rfl
  have := hP w .refl
  rw [ev] at this
  simp only [eV, beq_self_eq_true, i1, g1, g2, ra, rb, zY, ae, aa, reduceCtorEq]
  revert this
  cases nS 1 a <;> simp
 ·have ev : iW (.tup (.str z :: rest)) = (sA rest.length (bO.lookup z) && rest.all kU) := by simp only [iW, if_neg ct]
  simp only [decide_eq_false ct, zY, ae, aa, reduceCtorEq]
  rw [bP]
  simp only [OD, BU, HK, zY, ae, aa, reduceCtorEq]
  refine ⟨bO.map fun p => ((.inr p.1 : Key), p.2.getD .non), rfl, by decide, ?_⟩
  have em : j5 [] (bO.map fun p => ((.inr p.1 : Key), p.2.getD .non)) = bO.map fun p => ((.inr p.1 : Key), p.2.getD .non) := rfl
  rw [em]
  obtain ⟨w1, e1'⟩ : ∃ w1, w1 = w ++ [MO.dK (bO.map fun p => ((.inr p.1 : Key), p.2.getD .non))] := ⟨_, rfl⟩
  have hq : w1[w.length]? = some (.dK (bO.map fun p => ((.inr p.1 : Key), p.2.getD .non))) := by rw [e1']; exact x7
  have g1 : Gr w w1 := ⟨_, e1'⟩
  rw [← e1']
  have gm : getM (.ref w.length) [.str z, .int (-1)] w1 = .ok (((bO.lookup z).map fun o => o.getD .non).getD (.int (-1))) w1 := by
   have : lH (.dK (bO.map fun p => ((.inr p.1 : Key), p.2.getD .non))) (.str z) = some (fM (bO.map fun p => ((.inr p.1 : Key), p.2.getD .non)) (.inr z)) := rfl
   simp only [getM, hq, this, EZ]
  have tl : kX (.tup (.str z :: rest)) (some 1) none w1 = .ok (.tup rest) w1 := J5
  have tyk : M7 (.ref w.length) w1 = some "dict" := by simp only [M7, hq]
  have fin := hP w1 g1
  rw [ev] at fin
  simp only [tyk, L5, gm, yN, TQ, tl, nP, Y7, zY, ae, aa, reduceCtorEq]
  have er1 : (((rest.length + 1 : Nat) : Int) - 1) = ((rest.length : Nat) : Int) := by omega
  rw [er1]
  have c0 : ∃ i : Int, (((bO.lookup z).map fun o => o.getD .non).getD (.int (-1))) = .int i ∧ (i == ((rest.length : Nat) : Int)) = sA rest.length (bO.lookup z) := by
   cases hz : bO.lookup z with
   | none =>
    refine ⟨-1, rfl, ?_⟩
    simp only [sA]
    have : ¬ ((-1 : Int) = ((rest.length : Nat) : Int)) := by omega
    simpa using this
   | some o =>
    obtain ⟨m, rfl⟩ := JR hz
    exact ⟨m, rfl, rfl⟩
  obtain ⟨i, ei, ec⟩ := c0
  rw [← ec] at fin
  simp only [ei, kN, eV, zY, ae, aa, reduceCtorEq]
  cases hc : (i == ((rest.length : Nat) : Int)) with
  | false =>
   rw [hc] at fin
   simp only [Bool.false_and, zY, ae, aa, reduceCtorEq] at fin ⊢
   exact fin
  | true =>
  rw [hc, Bool.true_and] at fin
  simp only [tl, nP, zY, ae, aa, reduceCtorEq]
  refine ⟨AD _ (by omega), ?_⟩
  refine wF (it := ⟨rest, always⟩) kU rfl trivial (fun x hx => ?_) ?_
  ·simp only [dO, L9 k (er x hx), zY, ae, aa, reduceCtorEq]
   first | exact fun _ => rfl | exact fun _ => trivial
  simp only [kN, mG, filter_empty, af, bj, zY, ae, aa, reduceCtorEq]
  exact fin
theorem QZ {xs : List D} {it : lA} {vs : List Nat} {g : MG} {t : MT} {e : ME} {σ : Sg} {P : List D → W → Prop} (p : D → Bool) (hx : it.xs = xs) (hok : ∀ w, it.ok w) (h : ∀ x ∈ xs, ∀ w', Gr w w' → T (g x (dO σ vs) w') fun σ1 w1 => T (t σ1 w1) fun b w2 => (Gr w w2 ∧ b = !p x) ∧ (b = true → T (e σ1 w2) fun z w3 => z = x ∧ w3 = w2)) (hP : ∀ w', Gr w w' → P (xs.filter fun x => !p x) w') : T (gU it vs g t e it.xs σ w) P := by
 refine v3 (fun i acc w' => Gr w w' ∧ acc = (xs.take i).filter fun x => !p x) (fun _ _ w' _ => hok w') ⟨.refl, rfl⟩ (fun i x acc w' hi ⟨g1, ea⟩ => ?_) fun acc w' ⟨g1, ea⟩ => ?_
 ·rw [hx] at hi
  refine (h x (bo hi) w' g1).mono fun σ1 w1 _ q => q.mono fun b w2 _ q => ?_
  obtain ⟨⟨g2, rfl⟩, q⟩ := q
  have et : (xs.take (i + 1)).filter (fun x => !p x) = (xs.take i).filter (fun x => !p x) ++ [x].filter fun x => !p x := by
   rw [List.take_add_one, hi, List.filter_append]
   rfl
  cases hp : p x with
  | false =>
   rw [hp] at q
   simp only [Bool.not_false, ae] at q ⊢
   refine (q trivial).mono fun z w3 _ ⟨e1, e2⟩ => ⟨by rw [e2]; exact g2, ?_⟩
   rw [et, ea, e1, List.filter_cons, hp]
   rfl
  | true =>
   simp only [Bool.not_true, br, aa]
   refine ⟨g2, ?_⟩
   rw [et, ea, List.filter_cons, hp]
   simp
 ·rw [hx, List.take_length] at ea
  rw [ea]
  exact hP w' g1
theorem iY (h : ∀ a f, d ≠ .tup [.tup a, .tup f]) : fG d = false := by
 unfold fG
 split
 ·exact absurd rfl (h _ _)
 ·rfl
theorem P6 (e : k6 (n + 5) d = true) (fi : pY (n + 5) l d = true) (hl : l ≤ 100) (hP : ∀ w', Gr w w' → P (.bl (fL d)) w') : T (K63.gF k [d] w) P := by
 unfold K63.gF K63.i8
 rw [eY, bes, bP]
 simp only [j9 e, zY, ae, aa, reduceCtorEq]
 cases d <;> simp only [c9, zY, ae, aa, reduceCtorEq] <;> try exact hP w .refl
 rename_i xs
 obtain ⟨e1, e2⟩ := fE e
 obtain ⟨f1, f2⟩ := rG fi
 rw [bP]
 simp only [nP, zY, ae, aa, reduceCtorEq]
 refine BN (it := ⟨xs, always⟩) (fun i σ w' => Gr w w' ∧ (∀ x ∈ xs.take i, fG x = true) ∧ ∃ s1 s2 s3 s4 s5, σ = [some (.tup xs), s1, s2, s3, s4, s5]) (fun _ _ _ _ => trivial)
  ⟨.refl, by simp, _, _, _, _, _, rfl⟩ (fun i x σ w1 hx0 ⟨g1, ha, s1, s2, s3, s4, s5, es⟩ => ?_) fun σ w1 ⟨g1, ha, s1, s2, s3, s4, s5, es⟩ => ?_
 case refine_2 =>
  subst es
  have : fL (.tup xs) = true := by
   simp only [fL, ak]
   rw [List.take_length] at ha
   exact ha
  have fin := hP w1 g1
  rw [this] at fin
  try simp only [zY, ae, aa, reduceCtorEq]
  exact fin
 subst es
 have hx : xs[i]? = some x := hx0
 clear hx0
 have hm := bo hx
 have no : ∀ w', Gr w w' → fG x = false → P (.bl false) w' := fun w' g hf => by
  have := hP w' g
  have e0 : fL (.tup xs) = false := by
   simp only [fL]
   rw [List.all_eq_false]
   exact ⟨x, hm, by simp [hf]⟩
  rw [e0] at this
  exact this
 have yes : fG x = true → ∀ y ∈ xs.take (i + 1), fG y = true := fun ht y hy => by
  rw [List.take_add_one, hx] at hy
  rcases bf.mp hy with hy | hy
  ·exact ha y hy
  ·have : y = x := by simpa using hy
   rw [this]
   exact ht
 have ox := e1 x hm
 have fx := f1 x hm
 rw [OR, bP]
 simp only [j9 ox, zY, ae, aa, reduceCtorEq]
 cases x <;> simp only [c9, zY, ae, aa, reduceCtorEq] <;> try exact no w1 g1 (iY (by intro _ _ h; cases h))
 rename_i ps
 obtain ⟨p1, p2⟩ := fE ox
 obtain ⟨fp1, fp2⟩ := rG fx
 try simp only [yN, BH, zY, ae, aa, reduceCtorEq]
 by_cases c : ps.length = 2
 case neg =>
  have i1 : (!(((ps.length : Nat) : Int) == 2)) = true := by
   have : ¬ ((ps.length : Nat) : Int) = 2 := by omega
   simpa using this
  simp only [i1, zY, ae, aa, reduceCtorEq]
  exact no w1 g1 (iY (by intro a f h; cases h; exact c rfl))
 obtain ⟨a, f, rfl⟩ : ∃ a f, ps = [a, f] := by
  match ps, c with
  | [a, f], _ => exact ⟨a, f, rfl⟩
 have oa := p1 a (by simp)
 have of := p1 f (by simp)
 have fa := fp1 a (by simp)
 have ff := fp1 f (by simp)
 have i1 : (!((((0 + 1 + 1 : Nat)) : Int) == 2)) = false := rfl
 have g0 : atI [a, f] 0 = some a := rfl
 have g11 : atI [a, f] 1 = some f := rfl
 simp only [i1, g0, j9 oa, zY, ae, aa, reduceCtorEq]
 cases a <;> simp only [c9, zY, ae, aa, reduceCtorEq] <;> try exact no w1 g1 (iY (by intro _ _ h; cases h))
 rename_i as
 obtain ⟨oa1, oa2⟩ := fE oa
 obtain ⟨fa1, fa2⟩ := rG fa
 rw [bP]
 simp only [g0, nP, zY, ae, aa, reduceCtorEq]
 refine ⟨AD _ (by omega), ?_⟩
 refine QZ (it := ⟨as, always⟩) iW rfl (fun _ => trivial) (fun y hy w2 g2 => ?_) fun w2 g2 => ?_
 ·try simp only [dO, zY, ae, aa, reduceCtorEq]
  refine YV k (oa1 y hy) (fa1 y hy) hl fun w3 g3 => ?_
  try simp only [zY, ae, aa, reduceCtorEq]
  exact ⟨g2.trans g3, fun _ => by first | rfl | trivial⟩
 have g12 := g1.trans g2
 try simp only [zY, ae, aa, reduceCtorEq]
 rw [bP]
 simp only [KY, mG, filter_empty, g11, j9 of, af, bj, zY, ae, aa, reduceCtorEq]
 cases ca : as.all iW with
 | false =>
  try simp only [zY, ae, aa, reduceCtorEq]
  refine no w2 g12 ?_
  cases f <;> first | (simp only [fG, ca, Bool.false_and]; done) | (exact iY (by intro _ _ h; cases h))
 | true =>
 try simp only [zY, ae, aa, reduceCtorEq]
 cases f <;> simp only [c9, zY, ae, aa, reduceCtorEq] <;> try exact no w2 g12 (iY (by intro _ _ h; cases h))
 rename_i fs
 obtain ⟨of1, of2⟩ := fE of
 have et : fG (.tup [.tup as, .tup fs]) = fs.all kK := by simp only [fG, ca, Bool.true_and]
 rw [et] at no yes
 try simp only [g11, nP, zY, ae, aa, reduceCtorEq]
 refine BN (it := ⟨fs, always⟩) (fun i σ w' => w' = w2 ∧ (∀ x ∈ fs.take i, kK x = true) ∧ ∃ s1 s2 s3 s4 s5, σ = [some (.tup xs), s1, s2, s3, s4, s5]) (fun _ _ _ _ => trivial)
  ⟨rfl, by simp, _, _, _, _, _, rfl⟩ (fun j y σ w3 hy0 ⟨g3, hb, t1, t2, t3, t4, t5, et⟩ => ?_) fun σ w3 ⟨g3, hb, t1, t2, t3, t4, t5, et⟩ => ?_
 case refine_2 =>
  subst et
  subst g3
  rw [List.take_length] at hb
  exact ⟨g12, yes (by rw [ak]; exact hb), _, _, _, _, _, rfl⟩
 subst et
 subst g3
 have hy : fs[j]? = some y := hy0
 clear hy0
 have hmy := bo hy
 have noy : kK y = false → P (.bl false) w3 := fun hf => no w3 g12 (by
  rw [List.all_eq_false]
  exact ⟨y, hmy, by simp [hf]⟩)
 have yesy : kK y = true → ∀ z ∈ fs.take (j + 1), kK z = true := fun ht z hz => by
  rw [List.take_add_one, hy] at hz
  rcases bf.mp hz with hz | hz
  ·exact hb z hz
  ·have : z = y := by simpa using hz
   rw [this]
   exact ht
 have oy := of1 y hmy
 rw [OR]
 simp only [j9 oy, zY, ae, aa, reduceCtorEq]
 cases y <;> simp only [c9, zY, ae, aa, reduceCtorEq] <;> try exact noy rfl
 rename_i zs
 obtain ⟨oz1, oz2⟩ := fE oy
 try simp only [yN, BH, nP, zY, ae, aa, reduceCtorEq]
 by_cases c4 : zs.length = 4
 case neg =>
  have i1 : (!(((zs.length : Nat) : Int) == 4)) = true := by
   have : ¬ ((zs.length : Nat) : Int) = 4 := by omega
   simpa using this
  have i2 : (zs.length == 4) = false := by simp; omega
  simp only [i1, zY, ae, aa, reduceCtorEq]
  exact noy (by simp only [kK, i2, Bool.false_and])
 have i3 : (!(((zs.length : Nat) : Int) == 4)) = false := by rw [c4]; rfl
 have i2 : (zs.length == 4) = true := by simp; omega
 simp only [i3, zY, ae, aa, reduceCtorEq]
 refine ⟨AD _ (by omega), ?_⟩
 refine wF (it := ⟨zs, always⟩) kU rfl trivial (fun x hx => ?_) ?_
 ·simp only [dO, L9 k (oz1 x hx), zY, ae, aa, reduceCtorEq]
  first | exact fun _ => rfl | exact fun _ => trivial
 simp only [KY, mG, filter_empty, af, bj, zY, ae, aa, reduceCtorEq]
 have ef : kK (.tup zs) = zs.all kU := by simp only [kK, i2, Bool.true_and]
 rw [ef] at noy yesy
 cases cz : zs.all kU with
 | false =>
  try simp only [zY, ae, aa, reduceCtorEq]
  exact noy cz
 | true =>
  try simp only [zY, ae, aa, reduceCtorEq]
  exact ⟨rfl, yesy cz, _, _, _, _, _, rfl⟩
theorem UW (e : k6 (n + 4) d = true) : K63.pF k [d] w = .ok (.bl (fG d)) w := by
 refine u3 ?_
 unfold K63.pF K63.sV
 rw [eY, Z2, bP]
 simp only [j9 e, zY, ae, aa, reduceCtorEq]
 have no : (∀ a f, d ≠ .tup [.tup a, .tup f]) → D.bl false = .bl (fG d) ∧ w = w := fun h => ⟨by rw [iY h], rfl⟩
 cases d <;> simp only [c9, zY, ae, aa, reduceCtorEq] <;> try rfl
 rename_i ps
 obtain ⟨p1, p2⟩ := fE e
 try simp only [yN, BH, nP, zY, ae, aa, reduceCtorEq]
 by_cases c : ps.length = 2
 case neg =>
  have i1 : (!(((ps.length : Nat) : Int) == 2)) = true := by
   have : ¬ ((ps.length : Nat) : Int) = 2 := by omega
   simpa using this
  simp only [i1, zY, ae, aa, reduceCtorEq]
  rw [iY (by intro a f h; cases h; exact c rfl)]
 obtain ⟨a, f, rfl⟩ : ∃ a f, ps = [a, f] := by
  match ps, c with
  | [a, f], _ => exact ⟨a, f, rfl⟩
 have oa := p1 a (by simp)
 have of := p1 f (by simp)
 have i1 : (!((((0 + 1 + 1 : Nat)) : Int) == 2)) = false := rfl
 simp only [i1, zY, ae, aa, reduceCtorEq]
 try refine ⟨AD _ (by simp), ?_⟩
 refine pX (it := ⟨[a, f], always⟩) [a, f] (fun x => x) (fun x => .bl (c9 x)) rfl trivial (fun x hx => ?_) ?_
 ·simp only [dO, j9 (p1 x hx), zY, ae, aa, reduceCtorEq]
 rw [uR [a, f] c9]
 have tup2 : (∃ as fs, a = .tup as ∧ f = .tup fs) ∨ [a, f].all c9 = false := by cases a <;> cases f <;> first | exact .inl ⟨_, _, rfl, rfl⟩ | exact .inr rfl
 rcases tup2 with ⟨as, fs, rfl, rfl⟩ | hf
 case inr =>
  have tn : fG (.tup [a, f]) = false := iY (by intro a' f' h; cases h; simp [c9] at hf)
  simp only [hf, tn, zY, ae, aa, reduceCtorEq]
 obtain ⟨oa1, oa2⟩ := fE oa
 obtain ⟨of1, of2⟩ := fE of
 simp only [List.all_cons, List.all_nil, c9, Bool.and_self, zY, ae, aa, reduceCtorEq]
 rw [bP]
 try simp only [nP, zY, ae, aa, reduceCtorEq]
 refine ⟨AD _ (by omega), ?_⟩
 refine pX (it := ⟨as, always⟩) as (fun x => x) (fun x => .bl (iW x)) (by simp) trivial (fun x hx => ?_) ?_
 ·simp only [dO, UT k (oa1 x hx), zY, ae, aa, reduceCtorEq]
 rw [uR as iW]
 cases ca : as.all iW with
 | false =>
  try simp only [zY, ae, aa, reduceCtorEq]
  first | (simp only [fG, ca, Bool.false_and]; done) | exact ⟨by simp only [fG, ca, Bool.false_and], rfl⟩
 | true =>
 try simp only [nP, zY, ae, aa, reduceCtorEq]
 refine ⟨AD _ (by omega), ?_⟩
 refine pX (it := ⟨fs, always⟩) fs (fun x => x) (fun x => .bl (kK x)) (by simp) trivial (fun x hx => ?_) ?_
 ·simp only [dO, VD k (n := n + 1) (of1 x hx), zY, ae, aa, reduceCtorEq]
 rw [uR fs kK]
 first | (simp only [fG, ca, Bool.true_and, zY, ae, aa, reduceCtorEq]; done) | exact ⟨by simp only [fG, ca, Bool.true_and], rfl⟩
theorem IQ (e : k6 (n + 5) d = true) : K63.dH k [d] w = .ok (.bl (fL d)) w := by
 refine u3 ?_
 unfold K63.dH K63.qN
 rw [eY, Z9]
 simp only [j9 e, zY, ae, aa, reduceCtorEq]
 cases d <;> simp only [c9, zY, ae, aa, reduceCtorEq] <;> try rfl
 rename_i xs
 obtain ⟨e1, e2⟩ := fE e
 try simp only [nP, zY, ae, aa, reduceCtorEq]
 refine ⟨AD _ (by omega), ?_⟩
 refine pX (it := ⟨xs, always⟩) xs (fun x => x) (fun x => .bl (fG x)) (by simp) trivial (fun x hx => ?_) ?_
 ·simp only [dO, UW k (e1 x hx), zY, ae, aa, reduceCtorEq]
 rw [uR xs fG]
 exact ⟨rfl, rfl⟩
theorem KA {b : Nat} (h : bT w 1 0 b) : 2 ≤ w.length := by
 obtain ⟨_, cells, sm, a, h1, h2, _⟩ := h
 have := (aj.mp h1).1
 omega
theorem BE {b : Nat} (h : bT w 1 0 b) (g : Gr w w') : bT w' 1 0 b := by
 have l := KA h
 obtain ⟨x, rfl⟩ := g
 obtain ⟨ne, cells, sm, a, h1, h2, h3⟩ := h
 exact ⟨ne, cells, sm, a, by rw [az (by omega)]; exact h1, by rw [az (by omega)]; exact h2, h3⟩
theorem E4 {b q : Nat} {o : MO} (h : bT w 1 0 b) (hq : 2 ≤ q) : bT (w.set q o) 1 0 b := by
 obtain ⟨ne, cells, sm, a, h1, h2, h3⟩ := h
 exact ⟨ne, cells, sm, a, by rw [au (by omega)]; exact h1, by rw [au (by omega)]; exact h2, h3⟩
def vX (n l b : Nat) (y : D) : Prop := VN n l b y ∧ pY (n + 2) (l + 1) y = true
theorem i6 {b n l : Nat} {y : D} (n1 : 1 ≤ n) (hl : 40 ≤ l) (h : (jC 3 0 y && (decide (jQ y ≤ 100) && pY 3 41 y)) = true) : vX n l b y := by
 simp only [ag, ah] at h
 exact ⟨QS h.1 n1 h.2.1, fZ h.2.2 (by omega) (by omega)⟩
theorem nY {x : D} (hl : 40 ≤ l) (h : jC n l x = true) (f : pY n l x = true) : vX n l (jQ x) (.tup [x]) ∧ vX n l (jQ x) (.lst [x]) := by
 have g : ∀ y ∈ [x], pY (n + 1) (l + 1) y = true := fun y hy => by
  rw [bq.mp hy]
  exact fZ f (by omega) (by omega)
 have := IF (x := x)
 exact ⟨⟨(IY h).1, tM g (by omega)⟩, ⟨(IY h).2, MJ g⟩⟩
theorem iN {b : Nat} {z : Int} (n1 : 1 ≤ n) (h : z.natAbs ≤ 1000000000000000000000000000000000000000 + 1000 * (l + 1)) : vX n l b (.int z) := by
 refine ⟨⟨eW (n := 1) (l := l + 1) ?_ (by omega) (by omega), by simp only [jQ]; omega⟩, rfl⟩
 simp only [jC, ah]
 omega
theorem QG {b : Nat} {z : Str} (n1 : 1 ≤ n) (h : qU (l + 1) z = true) (hz : z.cps.size ≤ 3 * b + 100) : vX n l b (.str z) := ⟨⟨eW (n := 1) (l := l + 1) h (by omega) (by omega), by simp only [jQ]; omega⟩, rfl⟩
theorem mL {xs ys : List D} (h : jC n l (.tup xs) = true) (f : pY n l (.tup xs) = true) (hm : ∀ y ∈ ys, y ∈ xs) (hl : ys.length ≤ xs.length + 1) (hw : wtDs ys ≤ 3 * wtDs xs) (hc : cI ys ≤ cI xs + 1) : vX n l (jQ (.tup xs)) (.tup ys) ∧ vX n l (jQ (.tup xs)) (.lst ys) := by
 obtain ⟨o1, o2⟩ := NU h hm hl hw
 cases n with
 | zero => simp [jC] at h
 | succ n =>
  obtain ⟨f1, f2⟩ := rG f
  have g : ∀ y ∈ ys, pY (n + 2) (l + 1) y = true := fun y hy => fZ (f1 y (hm y hy)) (by omega) (by omega)
  exact ⟨⟨o1, tM g (by omega)⟩, ⟨o2, MJ g⟩⟩
theorem QU {xs : List D} {x : D} {i : Nat} (h : jC n l (.tup xs) = true) (f : pY n l (.tup xs) = true) (hx : xs[i]? = some x) : vX n l (jQ (.tup xs)) x := by
 refine ⟨V1 h hx, ?_⟩
 cases n with
 | zero => simp [jC] at h
 | succ n => exact fZ ((rG f).1 x (bo hx)) (by omega) (by omega)
theorem xF {xs : List D} {i : Int} {Q : D → Prop} (h0 : 0 ≤ i) (h1 : i < (xs.length : Nat)) (h : ∀ x ∈ xs, Q x) : ∃ x, atI xs i = some x ∧ Q x := by
 obtain ⟨x, hx, hm⟩ := VT h0 h1
 exact ⟨x, hx, h x hm⟩
theorem W4 : T (yO (.int 10) (.int 39) w) P = P (.int (10 ^ 39)) w := by
 have : yO (.int 10) (.int 39) w = .ok (.int (10 ^ 39)) w := by unfold yO; rfl
 rw [this, cR]
theorem beo (x0 x1 : D) : begin mZ [x0, x1] = [some x0, some x1, none, none, none, none] := rfl
theorem ZT (x0 x1 : D) : begin bC [x0, x1] = [some x0, some x1, none] := rfl
theorem BQ (a c : Int) (w : W) (P : D → W → Prop) : T (nU (.int a) (.int c) w) P = P (.int (a + c)) w := by unfold T; rfl
theorem sM (a c : Int) (w : W) (P : D → W → Prop) : T (subB (.int a) (.int c) w) P = P (.int (a - c)) w := by unfold T; rfl
theorem RN (a : Bool) (c : Int) (w : W) (P : D → W → Prop) : T (nU (.bl a) (.int c) w) P = P (.int (b2i a + c)) w := by unfold T; rfl
theorem P0 (a : Bool) (c : Int) (w : W) (P : D → W → Prop) : T (subB (.bl a) (.int c) w) P = P (.int (b2i a - c)) w := by unfold T; rfl
theorem R1 (a : Bool) (c : Int) (w : W) (P : D → W → Prop) : T (subB (.int c) (.bl a) w) P = P (.int (c - b2i a)) w := by unfold T; rfl
theorem QQ {a b : List D} (h : a.length + b.length ≤ 1000) (w : W) (P : D → W → Prop) : T (nU (.tup a) (.tup b) w) P = P (.tup (a ++ b)) w := QE h
theorem R3 {i : Int} (h : i.natAbs < 10 ^ 40) (w : W) (P : D → W → Prop) : T (ES [.int i] w) P = P (.str (toString i : String)) w := T6 h
theorem RT (a : Bool) (w : W) (P : D → W → Prop) : T (ES [.bl a] w) P = P (.str (if a then "True" else "False")) w := by unfold T; rfl
theorem XU (a : Bool) (w : W) : yU (.bl a) (.int 1) w = some a := by cases a <;> rfl
theorem WJ {b : Nat} (hd : bT w 1 0 (b + 2)) (h : jC n l d = true) (f : pY n l d = true) (l0 : 40 ≤ l) (hl : l ≤ 90) (hn : n ≤ 20) (hP : ∀ y w', vX n l (jQ d) y → bT w' 1 0 b → P y w') : T (K63.kB k [.ref 1, d] w) P := by
 have n1 : 1 ≤ n := by
  cases n with
  | zero => simp [jC] at h
  | succ n => omega
 have ok : k6 (n + 1) d = true := qV h (by omega)
 unfold K63.kB K63.rD
 rw [eY, beo, bP]
 simp only [gT, zY, ae, aa, reduceCtorEq]
 refine eK (b := b + 1) hd (by omega) (by omega) fun way w1 a0 a1 d1 k1 => ?_
 have d1' : bT w1 1 0 b := d1.less (by omega)
 try simp only [zY, ae, aa, reduceCtorEq]
 rw [bP]
 cases hz : (way == 0)
 case true =>
  have dv : ∀ (a c e f g : Option D) (w : W) (P : D → W → Prop), T (AJ (fU (eC (.int 0)) (aB 1) FI) [a, some d, c, e, f, g] w) P = P (.sF [.int 0] [d]) w := fun a c e f g w P => U2 (kvs := [(.inl 0, d)]) (ps := [(.int 0, d)]) rfl rfl (by simp)
  simp only [kN, eV, hz, af, bj, zY, ae, aa, reduceCtorEq]
  rw [bP]
  simp only [W4, dv, IM, L5, zY, ae, aa, reduceCtorEq]
  refine ⟨by rw [sizeLine_eq]; omega, ?_⟩
  refine eK (b := b) d1 (by omega) (by omega) fun v w2 f0 f1 d2 k2 => ?_
  try simp only [zY, ae, aa, reduceCtorEq]
  refine xF f0 ?_ fun x hx => ?_
  ·simp only [List.length_cons, List.length_nil]
   omega
  simp only [ao, bg, or_false] at hx
  try simp only [zY, ae, aa, reduceCtorEq]
  refine hP x w2 ?_ d2
  rcases hx with rfl | rfl | rfl | rfl | rfl | rfl | rfl | rfl | rfl | rfl | rfl | rfl | rfl | rfl | rfl | rfl | rfl
  ·exact i6 n1 l0 rfl
  ·exact i6 n1 l0 rfl
  ·exact i6 n1 l0 rfl
  ·exact i6 n1 l0 (by decide +kernel)
  ·exact i6 n1 l0 (by decide +kernel)
  ·exact i6 n1 l0 (by decide +kernel)
  ·exact i6 n1 l0 (by decide +kernel)
  ·exact i6 n1 l0 (by decide +kernel)
  ·exact i6 n1 l0 (by decide +kernel)
  ·exact i6 n1 l0 (by decide +kernel)
  ·exact i6 n1 l0 rfl
  ·exact i6 n1 l0 rfl
  ·exact i6 n1 l0 rfl
  ·exact (nY l0 h f).2
  ·exact (nY l0 h f).1
  ·have h2 : jC (n + 1) (l + 1) d = true := eW h (by omega) (by omega)
   have f2 : pY (n + 1) (l + 1) d = true := fZ f (by omega) (by omega)
   have e1 : yY (l + 1) (.int 0) = true := by
    simp only [yY, ah]
    omega
   refine ⟨⟨?_, ?_⟩, ?_⟩
   ·simp only [jC, List.all_cons, List.all_nil, h2, e1, List.length_cons, List.length_nil, Bool.and_self, decide_true, Bool.true_and, ah]
    omega
   ·simp only [jQ, wtDs]
    omega
   ·simp only [pY, List.all_cons, List.all_nil, f2, Bool.and_self]
  ·exact i6 n1 l0 (by decide +kernel)
 have w0 : 1 ≤ way := by
  have : ¬ way = 0 := by simpa using hz
  omega
 have fin : ∀ y, vX n l (jQ d) y → P y w1 := fun y hy => hP y w1 hy d1'
 simp only [kN, eV, hz, af, bj, zY, ae, aa, reduceCtorEq]
 rw [bP]
 simp only [j9 ok, zY, ae, aa, reduceCtorEq]
 have last : ∃ x, atI [D.str ("fall" : Str), .str ("rank" : Str), .str ("ask" : Str), .str ("heal" : Str), .str ("tear" : Str), .tup [], .tup [.tup [], .tup []], .int 7] (way - 1) = some x ∧ P x w1 := by
  refine xF (by omega) ?_ fun y hy => ?_
  ·simp only [List.length_cons, List.length_nil]
   omega
  simp only [ao, bg, or_false] at hy
  try simp only [zY, ae, aa, reduceCtorEq]
  refine fin y ?_
  rcases hy with rfl | rfl | rfl | rfl | rfl | rfl | rfl | rfl
  ·exact i6 n1 l0 (by decide +kernel)
  ·exact i6 n1 l0 (by decide +kernel)
  ·exact i6 n1 l0 (by decide +kernel)
  ·exact i6 n1 l0 (by decide +kernel)
  ·exact i6 n1 l0 (by decide +kernel)
  ·exact i6 n1 l0 rfl
  ·exact i6 n1 l0 rfl
  ·exact i6 n1 l0 (by decide +kernel)
 cases d
 case tup xs =>
  simp only [c9, KY, jX, af, bj, zY, ae, aa, reduceCtorEq]
  have hlen : xs.length ≤ 130 := by
   cases n with
   | zero => omega
   | succ n =>
    have := (DP h).2
    omega
  cases hx0 : xs.isEmpty
  case true =>
   try simp only [zY, ae, aa, reduceCtorEq]
   rw [bP]
   simp only [zW ok, sM, zY, ae, aa, reduceCtorEq]
   exact last
  clear last fin
  have l1 : 0 < xs.length := by
   cases xs with
   | nil => simp at hx0
   | cons => simp
  try simp only [zY, ae, aa, reduceCtorEq]
  rw [bP]
  simp only [yN, gT, zY, ae, aa, reduceCtorEq]
  refine eK (b := b) d1 (by omega) (by omega) fun at_ w3 t0 t1 d3 k3 => ?_
  obtain ⟨at_, rfl⟩ : ∃ n : Nat, at_ = (n : Int) := ⟨at_.toNat, by omega⟩
  have atl : at_ < xs.length := by omega
  try simp only [zY, ae, aa, reduceCtorEq]
  rw [bP]
  have e1 : (at_ : Int) + 1 = ((at_ + 1 : Nat) : Int) := by omega
  have e2 : (at_ : Int) + 2 = ((at_ + 2 : Nat) : Int) := by omega
  have ea : atI xs (at_ : Nat) = some xs[at_] := GG (av atl)
  have c1 : ∀ j : Nat, (xs.take j).length ≤ xs.length ∧ (xs.take j).length ≤ j := fun j => by rw [List.length_take]; omega
  have c2 : ∀ j : Nat, (xs.drop j).length = xs.length - j := fun j => List.length_drop ..
  obtain ⟨mid, emid⟩ : ∃ mid, mid = Pc.cutD xs (some (at_ : Int)) (some ((at_ + 2 : Nat) : Int)) := ⟨_, rfl⟩
  have emid2 : mid = (xs.drop at_).take 2 := by
   rw [emid]
   unfold Pc.cutD
   rw [HT.sIx_nat, HT.sIx_nat]
   rcases Nat.lt_or_ge (at_ + 2) xs.length with hh | hh
   ·rw [Nat.min_eq_left (by omega), Nat.min_eq_left (by omega)]
    congr 1
    omega
   ·rw [Nat.min_eq_right (by omega), Nat.min_eq_left (by omega), List.take_of_length_le (by rw [c2]; omega), List.take_of_length_le (by rw [c2]; omega)]
  have cmid : mid.length ≤ 2 ∧ (∀ y ∈ mid, y ∈ xs) ∧ wtDs mid ≤ wtDs xs := by
   rw [emid2]
   refine ⟨by rw [List.length_take]; omega, fun y hy => List.mem_of_mem_drop (List.mem_of_mem_take hy), bw (IP _) (JY _)⟩
  have ad1 : ∀ (a b : List D) (w : W) (P : D → W → Prop), a.length ≤ 300 → b.length ≤ 300 → T (nU (.tup a) (.tup b) w) P = P (.tup (a ++ b)) w := fun a b w P h1 h2 => QQ (by omega) w P
  have m1 := cmid.1
  have f1 := c1 at_
  have f2 := c2 (at_ + 2)
  simp only [BQ, e1, U6, cR, GI, xM, ad1 (xs.take at_) (xs.drop (at_ + 1)) _ _ (by have := c1 at_; omega) (by have := c2 (at_ + 1); omega), ad1 (xs.take (at_ + 1)) (xs.drop at_) _ _ (by have := c1 (at_ + 1); omega) (by have := c2 at_; omega), ad1 xs [.int 1] _ _ (by omega) (by simp), S0, NC, ea, af, bj, zY, ae, aa, reduceCtorEq]
  obtain ⟨q, eq⟩ : ∃ q, q = w3.length := ⟨_, rfl⟩
  obtain ⟨ys, eys⟩ : ∃ ys : List D, ys = [D.tup (xs.take at_ ++ xs.drop (at_ + 1)), .tup (xs.take (at_ + 1) ++ xs.drop at_), .tup xs.reverse, .lst xs, .tup (xs ++ [.int 1]), .tup [.tup xs], xs[at_]] := ⟨_, rfl⟩
  obtain ⟨w4, e4⟩ : ∃ w4, w4 = w3 ++ [MO.lst ys] := ⟨_, rfl⟩
  rw [← eys, ← e4, ← eq]
  have hq : w4[q]? = some (.lst ys) := by rw [e4, eq]; exact x7
  have d4 : bT w4 1 0 b := BE d3 ⟨_, e4⟩
  have q2 : 2 ≤ q := by rw [eq]; exact KA d3
  have ly : ys.length = 7 := by rw [eys]; rfl
  clear e4 eq
  rw [bP]
  simp only [Y9 hq, BQ, e2, U6, ← emid, cR, GI, xM, S0, ad1 (xs.take at_) mid.reverse _ _ (by omega) (by rw [List.length_reverse]; omega), ad1 (xs.take at_ ++ mid.reverse) (xs.drop (at_ + 2)) _ _ (by rw [bc, List.length_reverse]; omega) (by omega), FH hq, zY, ae, aa, reduceCtorEq]
  refine ⟨by rw [sizeLine_eq]; omega, ?_⟩
  have hq5 : (w4.set q (.lst (ys ++ [.tup (xs.take at_ ++ mid.reverse ++ xs.drop (at_ + 2))])))[q]? = some (.lst (ys ++ [.tup (xs.take at_ ++ mid.reverse ++ xs.drop (at_ + 2))])) := bt (aj.mp hq).1
  simp only [sM, W2 hq5, zY, ae, aa, reduceCtorEq]
  refine xF (by omega) (by simp; omega) fun y hy => ?_
  refine hP y _ ?_ (E4 d4 q2)
  rw [eys] at hy
  simp only [List.cons_append, List.nil_append, ao, bg, or_false] at hy
  have tk : ∀ (j : Nat) (y : D), y ∈ xs.take j → y ∈ xs := fun j y hy => List.mem_of_mem_take hy
  have dp : ∀ (j : Nat) (y : D), y ∈ xs.drop j → y ∈ xs := fun j y hy => List.mem_of_mem_drop hy
  have wt := fun j => IP (xs := xs) j
  have wd := fun j => JY (xs := xs) j
  have ct := fun j => GJ (xs := xs) j
  have cn := fun j => VQ (xs := xs) j
  rcases hy with rfl | rfl | rfl | rfl | rfl | rfl | rfl | rfl
  ·refine (mL h f (fun y hy => ?_) ?_ ?_ ?_).1
   ·rcases bf.mp hy with hy | hy
    ·exact tk _ _ hy
    ·exact dp _ _ hy
   ·rw [bc, c2]; omega
   ·rw [l7]
    have := wt at_
    have := wd (at_ + 1)
    omega
   ·rw [n8]
    have := ct at_
    have := ct (at_ + 1)
    have := cn at_
    have : cI (xs.take at_) ≤ cI (xs.take (at_ + 1)) := by
     have e : xs.take (at_ + 1) = xs.take at_ ++ xs[at_]?.toList := List.take_add_one
     rw [e, n8]
     omega
    omega
  ·refine (mL h f (fun y hy => ?_) ?_ ?_ ?_).1
   ·rcases bf.mp hy with hy | hy
    ·exact tk _ _ hy
    ·exact dp _ _ hy
   ·rw [bc, c2]
    have := c1 (at_ + 1)
    omega
   ·rw [l7]
    have := wt (at_ + 1)
    have := wd at_
    omega
   ·rw [n8]
    have := ct at_
    have := cn at_
    omega
  ·exact (mL h f (fun y hy => List.mem_reverse.mp hy) (by rw [List.length_reverse]; omega) (by rw [GK]; omega) (by rw [SY]; omega)).1
  ·exact (mL h f (fun y hy => hy) (by omega) (by omega) (by omega)).2
  ·cases n with
   | zero => omega
   | succ n =>
   obtain ⟨h1, h2⟩ := DP h
   obtain ⟨g1, g2⟩ := rG f
   refine ⟨⟨tY (fun y hy => ?_) ?_, ?_⟩, tM (fun y hy => ?_) ?_⟩
   ·rcases bf.mp hy with hy | hy
    ·exact eW (h1 y hy) (by omega) (by omega)
    ·rw [bq.mp hy]
     simp only [jC, ah]
     omega
   ·rw [bc, List.length_singleton]
    omega
   ·simp only [jQ, l7, wtDs]
    omega
   ·rcases bf.mp hy with hy | hy
    ·exact fZ (g1 y hy) (by omega) (by omega)
    ·rw [bq.mp hy]
     rfl
   ·rw [n8]
    have := IF (x := .int 1)
    omega
  ·exact (nY l0 h f).1
  ·exact QU h f (av atl)
  ·refine (mL h f (fun y hy => ?_) ?_ ?_ ?_).1
   ·rcases bf.mp hy with hy | hy
    ·rcases bf.mp hy with hy | hy
     ·exact tk _ _ hy
     ·exact cmid.2.1 y (List.mem_reverse.mp hy)
    ·exact dp _ _ hy
   ·rw [bc, bc, List.length_reverse, c2]
    omega
   ·rw [l7, l7, GK]
    have := wt at_
    have := wd (at_ + 2)
    have := cmid.2.2
    omega
   ·rw [n8, n8, SY, emid2]
    have a1 := ct at_
    have a2 := GJ (xs := xs.drop at_) 2
    rw [List.drop_drop] at a2
    omega
 case int z =>
  have hz2 : z.natAbs ≤ 1000000000000000000000000000000000000000 + 1000 * l := by
   cases n with
   | zero => omega
   | succ n => simpa only [jC, ah] using h
  have z40 : z.natAbs < 10 ^ 40 := by omega
  simp only [c9, zY, ae, aa, reduceCtorEq]
  rw [bP]
  simp only [zW ok, BQ, sM, kN, eV, R3 z40, af, bj, zY, ae, aa, reduceCtorEq]
  refine xF (by omega) ?_ fun y hy => ?_
  ·simp only [List.length_cons, List.length_nil]
   omega
  simp only [ao, bg, or_false] at hy
  try simp only [zY, ae, aa, reduceCtorEq]
  refine fin y ?_
  rcases hy with rfl | rfl | rfl | rfl | rfl | rfl | rfl | rfl
  ·exact iN n1 (by omega)
  ·exact iN n1 (by omega)
  ·exact iN n1 (by omega)
  ·exact iN n1 (by omega)
  ·cases (z == 1) <;> exact i6 n1 l0 rfl
  ·have u := OG z40
   refine QG n1 (pQ u (by omega)) ?_
   simp only [qU, ag, ah] at u
   omega
  ·exact (nY l0 h f).1
  ·exact iN n1 (by omega)
 case bl z =>
  simp only [c9, zY, ae, aa, reduceCtorEq]
  rw [bP]
  simp only [zW ok, sM, RN, P0, R1, kN, XU, RT, af, bj, zY, ae, aa, reduceCtorEq]
  refine xF (by omega) ?_ fun y hy => ?_
  ·simp only [List.length_cons, List.length_nil]
   omega
  simp only [ao, bg, or_false] at hy
  try simp only [zY, ae, aa, reduceCtorEq]
  refine fin y ?_
  clear last
  have bz : 0 ≤ b2i z ∧ b2i z ≤ 1 := by cases z <;> decide
  rcases hy with rfl | rfl | rfl | rfl | rfl | rfl | rfl | rfl
  ·exact iN n1 (by omega)
  ·exact iN n1 (by omega)
  ·exact iN n1 (by omega)
  ·exact iN n1 (by omega)
  ·cases z <;> exact i6 n1 l0 rfl
  ·cases z <;> exact i6 n1 l0 (by decide +kernel)
  ·exact (nY l0 h f).1
  ·exact iN n1 (by omega)
 all_goals
  simp only [c9, zY, ae, aa, reduceCtorEq]
  rw [bP]
  simp only [zW ok, sM, zY, ae, aa, reduceCtorEq]
  exact last
def SK (rec : MF) (j : Nat) : Prop := ∀ (n l b : Nat) (d : D) (w : W), n ≤ j → bT w 1 0 (b + (2 * j + 3)) → jC n l d = true → pY n l d = true → 40 ≤ l → l ≤ 90 → T (rec [.ref 1, d] w) fun y w' => vX n l (jQ d) y ∧ bT w' 1 0 b
theorem QY : SK ZN 0 := fun n l b d w hn _ h _ _ _ => by
 obtain rfl : n = 0 := by omega
 simp [jC] at h
theorem jM {rec : MF} {j : Nat} (hj : j ≤ 12) (hr : SK rec j) : SK (bI (bF k rec) bC) (j + 1) := fun n l b d w hn hd h f l0 hl => by
 have ok : k6 (n + 1) d = true := qV h (by omega)
 unfold bF
 rw [eY, ZT, bP]
 simp only [j9 ok, zY, ae, aa, reduceCtorEq]
 have odd : ∀ (w1 : W) (b' : Nat) (PF : D → W → Prop), b + 2 ≤ b' → bT w1 1 0 b' → (∀ y w', vX n l (jQ d) y → bT w' 1 0 b → PF y w') → T (K63.kB k [.ref 1, d] w1) PF := fun w1 b' PF hb d1 hPF => WJ k (d1.less hb) h f l0 hl (by omega) hPF
 cases d
 case tup xs =>
  simp only [c9, kN, jX, af, bj, zY, ae, aa, reduceCtorEq]
  cases hx0 : xs.isEmpty
  case true =>
   try simp only [zY, ae, aa, reduceCtorEq]
   exact odd w _ _ (by omega) hd fun y w' h1 h2 => ⟨h1, h2⟩
  have l1 : 0 < xs.length := by
   cases xs with
   | nil => simp at hx0
   | cons => simp
  cases n with
  | zero => simp [jC] at h
  | succ n =>
  obtain ⟨h1, h2⟩ := DP h
  obtain ⟨f1, f2⟩ := rG f
  simp only [gT, zY, ae, aa, reduceCtorEq]
  refine eK (b := b + (2 * j + 4)) hd (by omega) (by omega) fun a w1 a0 a1 d1 k1 => ?_
  simp only [kN, eV, af, bj, zY, ae, aa, reduceCtorEq]
  cases (a == 0)
  case true =>
   try simp only [zY, ae, aa, reduceCtorEq]
   exact odd w1 _ _ (by omega) d1 fun y w' h1 h2 => ⟨h1, h2⟩
  clear odd
  try simp only [zY, ae, aa, reduceCtorEq]
  rw [bP]
  simp only [yN, gT, zY, ae, aa, reduceCtorEq]
  refine eK (b := b + (2 * j + 3)) d1 (by omega) (by omega) fun at_ w2 t0 t1 d2 k2 => ?_
  obtain ⟨at_, rfl⟩ : ∃ n : Nat, at_ = (n : Int) := ⟨at_.toNat, by omega⟩
  have atl : at_ < xs.length := by omega
  have e1 : (at_ : Int) + 1 = ((at_ + 1 : Nat) : Int) := by omega
  have ea : atI xs (at_ : Nat) = some xs[at_] := GG (av atl)
  have hx := h1 xs[at_] (List.getElem_mem atl)
  have fx := f1 xs[at_] (List.getElem_mem atl)
  have wa := TM (av atl)
  have wx : jQ (.tup xs) = wtDs xs := rfl
  try simp only [zY, ae, aa, reduceCtorEq]
  simp only [sI, e1, U6, cR, GI, xM, SX, L6, ea, af, bj, zY, ae, aa, reduceCtorEq]
  refine (hr n l b xs[at_] w2 (by omega) d2 hx fx l0 hl).mono fun y w3 _ ⟨o, d3⟩ => ?_
  obtain ⟨⟨o1, o2⟩, o3⟩ := o
  have c1 : (xs.take at_).length = at_ := by rw [List.length_take]; omega
  have c2 : (xs.drop (at_ + 1)).length = xs.length - (at_ + 1) := List.length_drop ..
  have ct := GJ (xs := xs) (at_ + 1)
  have cn : cI (xs.take at_) ≤ cI (xs.take (at_ + 1)) := by
   have e : xs.take (at_ + 1) = xs.take at_ ++ xs[at_]?.toList := List.take_add_one
   rw [e, n8]
   omega
  have cy := IF (x := y)
  try simp only [zY, ae, aa, reduceCtorEq]
  refine ⟨by rw [sizeLine_eq, c1]; omega, by rw [sizeLine_eq, bc, c1, c2, List.length_singleton]; omega, ⟨⟨tY (fun z hz => ?_) ?_, ?_⟩, tM (fun z hz => ?_) ?_⟩, d3⟩
  ·rcases bf.mp hz with hz | hz
   ·rcases bf.mp hz with hz | hz
    ·exact eW (h1 z (List.mem_of_mem_take hz)) (by omega) (by omega)
    ·rw [bq.mp hz]
     exact o1
   ·exact eW (h1 z (List.mem_of_mem_drop hz)) (by omega) (by omega)
  ·rw [bc, bc, c1, c2]
   simp only [List.length_singleton]
   omega
  ·rw [jQ, l7, l7, wx]
   simp only [wtDs]
   omega
  ·rcases bf.mp hz with hz | hz
   ·rcases bf.mp hz with hz | hz
    ·exact fZ (f1 z (List.mem_of_mem_take hz)) (by omega) (by omega)
    ·rw [bq.mp hz]
     exact o3
   ·exact fZ (f1 z (List.mem_of_mem_drop hz)) (by omega) (by omega)
  ·rw [n8, n8]
   omega
 all_goals
  simp only [c9, zY, ae, aa, reduceCtorEq]
  exact odd w _ _ (by omega) hd fun y w' h1 h2 => ⟨h1, h2⟩
theorem ID : SK (K63.e8 k) 9 := jM k (by omega) (jM k (by omega) (jM k (by omega) (jM k (by omega) (jM k (by omega) (jM k (by omega) (jM k (by omega) (jM k (by omega) (jM k (by omega) QY))))))))
def Good (y : D) : Prop := (jC 10 90 y = true ∧ pY 10 90 y = true) ∧ jQ y ≤ 150000
theorem ber (x0 : D) : begin fT [x0] = [some x0, none, none] := rfl
theorem XF (x : D) (w : W) (P : D → W → Prop) : T (mulM (.lst [x]) (.int 2) w) P = P (.lst [x, x]) w := by
 have : mulM (.lst [x]) (.int 2) w = .ok (.lst [x, x]) w := by
  simp only [mulM]
  rw [if_pos]
  ·rfl
  ·rw [sizeLine_eq]; simp
 rw [this, cR]
theorem right {y : D} (g : Good y) (hP : ∀ w', Gr w w' → P (.bl true) w') : T (K63.cP k [y] w) P := by
 obtain ⟨⟨g1, g2⟩, g3⟩ := g
 have ok : k6 (6 + 5) y = true := qV g1 (by omega)
 obtain ⟨z, hz, rz⟩ := EK g1 (by omega) (by omega) (by omega)
 obtain ⟨zb, hzb, rzb⟩ : ∃ zb : Str, PyData.strOk zb = true ∧ ∀ (w : W) (P : D → W → Prop), T (oE [.lst [.bl (fL y), .bl (fL y)]] w) P = P (.str zb) w := by
  refine EK (n := 2) (l := 0) (d := .lst [.bl (fL y), .bl (fL y)]) ?_ (by omega) (by omega) (by simp [jQ, wtDs])
  exact HP (fun x hx => by
   have : x = .bl (fL y) := by simpa using hx
   rw [this]
   rfl) (by simp)
 unfold K63.cP K63.gR
 rw [eY, ber, bP]
 simp only [rz, zY, ae, aa, reduceCtorEq]
 rw [bP]
 try simp only [zY, ae, aa, reduceCtorEq]
 refine P6 k (n := 6) ok (fZ g2 (by omega) (ay 90)) (by omega) fun w1 g1 => ?_
 have es : ∀ w : W, K63.dH k [y] w = .ok (.bl (fL y)) w := fun w => IQ k (n := 6) ok
 have epk : ∀ w : W, K63.dH k (eX k [] [y]) w = .ok (.bl (fL y)) w := fun w => es w
 have pk : eX k [] [y] = [y] := rfl
 simp only [XF, rzb, es, pk, kN, pC hzb hzb, pC hz hz, rz, af, bj, decide_true, zY, ae, aa, reduceCtorEq]
 exact hP w1 g1
theorem mY {it : lA} {vs : List Nat} {g : MG} {t : MT} {e : ME} {σ : Sg} {P : List D → W → Prop} {b : Nat} (c : Nat) (F : D → Prop) (hok : ∀ w, it.ok w) (hd : bT w 1 0 (b + c * it.xs.length))
  (step : ∀ x w' b', bT w' 1 0 (b' + c) → T (g x (dO σ vs) w') fun σ1 w1 => T (t σ1 w1) fun tt w2 => tt = true ∧ T (e σ1 w2) fun y w3 => F y ∧ bT w3 1 0 b')
  (fin : ∀ ys w', ys.length = it.xs.length → (∀ y ∈ ys, F y) → bT w' 1 0 b → P ys w') : T (gU it vs g t e it.xs σ w) P := by
 refine v3 (fun j acc w' => acc.length = j ∧ (∀ y ∈ acc, F y) ∧ bT w' 1 0 (b + c * (it.xs.length - j))) (fun _ _ w' _ => hok w') ⟨rfl, by simp, hd⟩ (fun j x acc w' hx ⟨h1, h2, h3⟩ => ?_) fun acc w' ⟨h1, h2, h3⟩ => ?_
 ·have hj := (aj.mp hx).1
  have e1 : b + c * (it.xs.length - j) = b + c * (it.xs.length - (j + 1)) + c := by
   have : it.xs.length - j = (it.xs.length - (j + 1)) + 1 := by omega
   rw [this, Nat.mul_succ]
   omega
  rw [e1] at h3
  refine (step x w' _ h3).mono fun σ1 w1 _ q => q.mono fun tt w2 _ q => ?_
  obtain ⟨rfl, q⟩ := q
  rw [if_pos rfl]
  refine q.mono fun y w3 _ ⟨e2, e3⟩ => ⟨by rw [bc, h1]; rfl, fun z hz => ?_, e3⟩
  rcases bf.mp hz with hz | hz
  ·exact h2 z hz
  ·rw [bq.mp hz]
   exact e2
 ·refine fin acc w' h1 h2 ?_
  rw [Nat.sub_self, Nat.mul_zero, Nat.add_zero] at h3
  exact h3
theorem aAc (x0 : D) : begin iK [x0] = [some x0] := rfl
theorem beL (x0 x1 : D) : begin nJ [x0, x1] = [some x0, some x1, none, none] := rfl
theorem beA (x0 : D) : begin m6 [x0] = [some x0, none, none, none] := rfl
theorem beT (x0 : D) : begin kZ [x0] = [some x0, none, none, none, none] := rfl
theorem beS (x0 x1 : D) : begin jT [x0, x1] = [some x0, some x1, none] := rfl
theorem beW (x0 : D) : begin IU [x0] = [some x0, none, none, none, none, none, none, none, none] := rfl
theorem xU {b : Nat} (hd : bT w 1 0 (b + 3)) (hP : ∀ v w', 0 ≤ v → v ≤ 999 → bT w' 1 0 b → P (.int v) w') : T (K63.e9 k [.ref 1] w) P := by
 unfold K63.e9 K63.l3
 rw [eY, aAc]
 simp only [gT, zY, ae, aa, reduceCtorEq]
 refine eK (b := b + 2) hd (by omega) (by omega) fun x w1 x0 x1 d1 _ => ?_
 try simp only [zY, ae, aa, reduceCtorEq]
 refine eK (b := b + 1) d1 (by omega) (by omega) fun y w2 y0 y1 d2 _ => ?_
 try simp only [zY, ae, aa, reduceCtorEq]
 refine eK (b := b) d2 (by omega) (by omega) fun i w3 i0 i1 d3 _ => ?_
 try simp only [zY, ae, aa, reduceCtorEq]
 refine xF i0 ?_ fun z hz => ?_
 ·simp only [List.length_cons, List.length_nil]
  omega
 simp only [ao, bg, or_false] at hz
 rcases hz with rfl | rfl | rfl | rfl | rfl | rfl | rfl | rfl <;> exact hP _ w3 (by omega) (by omega) d3
def Pt (n c : Nat) (y : D) : Prop := (jC n 80 y = true ∧ pY n 80 y = true) ∧ jQ y ≤ c
def LV (y : D) : Prop := ∃ v : Int, y = .int v ∧ 0 ≤ v ∧ v ≤ 999
theorem RC {ys : List D} (h : ∀ y ∈ ys, LV y) : ∃ ns : List Int, ys = ns.map D.int ∧ ∀ v ∈ ns, 0 ≤ v ∧ v ≤ 999 := by
 induction ys with
 | nil => exact ⟨[], rfl, by simp⟩
 | cons y ys ih =>
  obtain ⟨v, rfl, v0, v1⟩ := h y (aq ..)
  obtain ⟨ns, rfl, hn⟩ := ih fun z hz => h z (aw _ hz)
  refine ⟨v :: ns, rfl, fun u hu => ?_⟩
  rcases ao.mp hu with rfl | hu
  ·exact ⟨v0, v1⟩
  ·exact hn u hu
theorem yD {y : D} (h : LV y) : Pt 1 0 y ∧ kU y = true := by
 obtain ⟨v, rfl, v0, v1⟩ := h
 refine ⟨⟨⟨?_, rfl⟩, ay _⟩, ?_⟩
 ·simp only [jC, ah]
  omega
 ·simp only [nC, ag, ah]
  exact ⟨v0, v1⟩
theorem O0 {c : Nat} : ∀ {ys : List D}, (∀ y ∈ ys, jQ y ≤ c) → wtDs ys ≤ ys.length * (c + 1)
 | [], _ => by simp [wtDs]
 | y :: ys, h => by
  have a := h y (aq ..)
  have b := O0 (c := c) fun z hz => h z (aw _ hz)
  rw [wtDs, List.length_cons, Nat.succ_mul]
  omega
theorem xE {xs : List D} : cI xs ≤ xs.length := List.countP_le_length
theorem qR {n c : Nat} {ys : List D} (h : ∀ y ∈ ys, Pt n c y) (hl : ys.length ≤ 120) (hc : cI ys ≤ 40) : Pt (n + 1) (ys.length * (c + 1)) (.tup ys) :=
 ⟨⟨tY (fun y hy => (h y hy).1.1) (by omega), tM (fun y hy => (h y hy).1.2) (by omega)⟩, O0 fun y hy => (h y hy).2⟩
theorem Pt.up {n n' c c' : Nat} {y : D} (h : Pt n c y) (hn : n ≤ n') (hc : c ≤ c') : Pt n' c' y := ⟨⟨eW h.1.1 hn (ay _), fZ h.1.2 hn (ay _)⟩, by have := h.2; omega⟩
theorem ints_map : ∀ {ns : List Int}, intsOf (ns.map D.int) = ns
 | [] => rfl
 | n :: ns => by rw [List.map_cons, intsOf, ints_map]
theorem EJ {ns : List Int} : gB ns = gB (gB ns) := pN gM gM fun k => by simp only [jW]
theorem S1 {b c : Nat} (hc : c ≤ 1) (hd : bT w 1 0 (b + 13)) (hP : ∀ y w', nS c y = true → Pt 2 4 y → bT w' 1 0 b → P y w') : T (K63.kO k [.ref 1, .int (c : Nat)] w) P := by
 unfold K63.kO K63.qW
 rw [eY, beL, bP]
 simp only [gT, zY, ae, aa, reduceCtorEq]
 refine eK (b := b + 12) hd (by omega) (by omega) fun v w1 v0 v1 d1 _ => ?_
 obtain ⟨v, rfl⟩ : ∃ n : Nat, v = (n : Int) := ⟨v.toNat, by omega⟩
 have ev : ((c : Nat) : Int) + (v : Int) = ((c + v : Nat) : Int) := by omega
 simp only [sI, ev, zY, ae, aa, reduceCtorEq]
 rw [n7 (by omega) (by omega)]
 have lr : (fD 0 ((c + v : Nat) : Int).toNat).xs.length = c + v := by rw [j2]; omega
 refine ⟨AD _ (by rw [lr]; omega), ?_⟩
 refine mY (it := fD 0 ((c + v : Nat) : Int).toNat) (b := b) 3 LV (fun _ => trivial) (d1.less (by rw [lr]; omega)) (fun x w' b' d' => ?_) fun ys w' ly hy d' => ?_
 ·try simp only [dO, zY, ae, aa, reduceCtorEq]
  refine xU k d' fun u w2 u0 u1 d2 => ?_
  try simp only [zY, ae, aa, reduceCtorEq]
  exact ⟨⟨u, rfl, u0, u1⟩, d2⟩
 rw [lr] at ly
 obtain ⟨ns, rfl, hn⟩ := RC hy
 rw [bu] at ly
 have hr : ∀ u ∈ gB ns, 0 ≤ u ∧ u ≤ 999 := fun u hu => hn u (jW.mp hu)
 have hl := zU (xs := ns)
 have l2 : sE (.lst (ns.map D.int)) w' = .ok (.lst ((gB ns).map D.int)) w' := by
  simp only [sE, D.items, Option.bind_some, Pc.jZ, show ns.length < 64 by omega, ae]
 simp only [l2, K2, zY, ae, aa, reduceCtorEq]
 have np : ∀ y ∈ (gB ns).map D.int, Pt 1 0 y ∧ kU y = true := fun y hy => by
  obtain ⟨u, hu, rfl⟩ := List.mem_map.mp hy
  exact yD ⟨u, rfl, hr u hu⟩
 refine hP _ w' ?_ ((qR (fun y hy => (np y hy).1) (by rw [bu]; omega) (bw xE (by rw [bu]; omega))).up (ay _) (by rw [bu]; omega)) d'
 simp only [nS, ag, ah, ak, ints_map, bu]
 refine ⟨?_, fun y hy => (np y hy).2, EJ⟩
 rcases Nat.eq_zero_or_pos c with h0 | h0
 ·omega
 ·have : ns ≠ [] := fun e => by rw [e, List.length_nil] at ly; omega
  obtain ⟨u, us, rfl⟩ := List.exists_cons_of_ne_nil this
  have := List.length_pos_of_mem (jW.mpr (aq (a := u) (l := us)))
  omega
def TY : List (Key × D) := [(.inr ("rank" : Str), .int 3), (.inr ("heal" : Str), .int 0), (.inr ("ask" : Str), .int 2)]
theorem GN {x : D} (h : x ∈ [D.str ("fall" : Str), .str ("stop" : Str), .str ("rise" : Str), .str ("down" : Str), .str ("up" : Str), .str ("rank" : Str), .str ("tear" : Str), .str ("tear" : Str), .str ("heal" : Str), .str ("ask" : Str)]) :
  ∃ (z : Str) (m : Nat), x = .str z ∧ m ≤ 3 ∧ (fM TY (.inr z)).getD (.int 1) = .int m ∧ (z ≠ ("tear" : Str) → sA m (bO.lookup z) = true) ∧ (PyData.strOk z = true ∧ qU 0 z = true) ∧ z.cps.size ≤ 4 := by
 simp only [ao, bg, or_false] at h
 rcases h with rfl | rfl | rfl | rfl | rfl | rfl | rfl | rfl | rfl | rfl
 ·exact ⟨_, 1, rfl, by omega, rfl, fun _ => by decide +kernel, by decide +kernel, by decide +kernel⟩
 ·exact ⟨_, 1, rfl, by omega, rfl, fun _ => by decide +kernel, by decide +kernel, by decide +kernel⟩
 ·exact ⟨_, 1, rfl, by omega, rfl, fun _ => by decide +kernel, by decide +kernel, by decide +kernel⟩
 ·exact ⟨_, 1, rfl, by omega, rfl, fun _ => by decide +kernel, by decide +kernel, by decide +kernel⟩
 ·exact ⟨_, 1, rfl, by omega, rfl, fun _ => by decide +kernel, by decide +kernel, by decide +kernel⟩
 ·exact ⟨_, 3, rfl, by omega, rfl, fun _ => by decide +kernel, by decide +kernel, by decide +kernel⟩
 ·exact ⟨_, 1, rfl, by omega, rfl, fun h => absurd rfl h, by decide +kernel, by decide +kernel⟩
 ·exact ⟨_, 1, rfl, by omega, rfl, fun h => absurd rfl h, by decide +kernel, by decide +kernel⟩
 ·exact ⟨_, 0, rfl, by omega, rfl, fun _ => by decide +kernel, by decide +kernel, by decide +kernel⟩
 ·exact ⟨_, 2, rfl, by omega, rfl, fun _ => by decide +kernel, by decide +kernel, by decide +kernel⟩
theorem WV {b : Nat} (hd : bT w 1 0 (b + 30)) (hP : ∀ y w', iW y = true → Pt 3 20 y → bT w' 1 0 b → P y w') : T (K63.nE k [.ref 1] w) P := by
 unfold K63.nE K63.qM
 rw [eY, beA, bP]
 simp only [U7, zY, ae, aa, reduceCtorEq]
 refine Q8 (b := b + 29) hd (by simp) (by simp) fun x w1 hx d1 _ => ?_
 obtain ⟨z, m, rfl, m3, hm, hs, ⟨sz, s0⟩, z4⟩ := GN hx
 clear hx
 try simp only [zY, ae, aa, reduceCtorEq]
 rw [bP]
 simp only [OD, BU, HK, zY, ae, aa, reduceCtorEq]
 refine ⟨TY, rfl, by decide, ?_⟩
 obtain ⟨w2, e2⟩ : ∃ w2, w2 = w1 ++ [MO.dK TY] := ⟨_, rfl⟩
 have hq : w2[w1.length]? = some (.dK TY) := by rw [e2]; exact x7
 have d2 : bT w2 1 0 (b + 29) := BE d1 ⟨_, e2⟩
 have e3 : w1 ++ [MO.dK (j5 [] TY)] = w2 := by rw [e2]; rfl
 rw [e3]
 have tyk : M7 (.ref w1.length) w2 = some "dict" := by simp only [M7, hq]
 have gm : getM (.ref w1.length) [.str z, .int 1] w2 = .ok (.int m) w2 := by
  have : lH (.dK TY) (.str z) = some (fM TY (.inr z)) := rfl
  simp only [getM, hq, this, hm]
 simp only [tyk, gm, zY, ae, aa, reduceCtorEq]
 rw [bP]
 simp only [kN, pC sz A5, af, bj, zY, ae, aa, reduceCtorEq]
 have wz : Pt 1 4 (.str z) := ⟨⟨by simp only [jC]; exact pQ s0 (by omega), rfl⟩, z4⟩
 by_cases ct : z = ("tear" : Str)
 ·subst ct
  simp only [decide_true, zY, ae, aa, reduceCtorEq]
  have n1 : (1 : Int) = ((1 : Nat) : Int) := rfl
  have n0 : (0 : Int) = ((0 : Nat) : Int) := rfl
  rw [n1]
  refine S1 k (c := 1) (b := b + 16) (by omega) d2 fun y1 w3 g1 p1 d3 => ?_
  try simp only [zY, ae, aa, reduceCtorEq]
  rw [n0]
  refine S1 k (c := 0) (b := b + 3) (by omega) d3 fun y0 w4 g0 p0 d4 => ?_
  try simp only [zY, ae, aa, reduceCtorEq]
  refine hP _ w4 ?_ ?_ (d4.less (by omega))
  ·simp only [iW, ae, ag]
   exact ⟨rfl, g1, g0⟩
  ·refine (qR (n := 2) (c := 4) (fun y hy => ?_) (by simp) (bw xE (by simp))).up (by omega) (by simp)
   simp only [ao, bg, or_false] at hy
   rcases hy with rfl | rfl | rfl
   ·exact wz.up (by omega) (by omega)
   ·exact p1
   ·exact p0
 ·simp only [decide_eq_false ct, zY, ae, aa, reduceCtorEq]
  rw [n7 (by omega) (by omega)]
  have lr : (fD 0 ((m : Nat) : Int).toNat).xs.length = m := by rw [j2]; omega
  refine ⟨AD _ (by rw [lr]; omega), ?_⟩
  refine mY (it := fD 0 ((m : Nat) : Int).toNat) (b := b) 3 LV (fun _ => trivial) (d2.less (by rw [lr]; omega)) (fun x w' b' d' => ?_) fun ys w' ly hy d' => ?_
  ·try simp only [dO, zY, ae, aa, reduceCtorEq]
   refine xU k d' fun u w2 u0 u1 d2 => ?_
   try simp only [zY, ae, aa, reduceCtorEq]
   exact ⟨⟨u, rfl, u0, u1⟩, d2⟩
  rw [lr] at ly
  simp only [K2, OQ, zY, ae, aa, reduceCtorEq]
  refine ⟨by rw [sizeLine_eq]; omega, ?_⟩
  refine hP _ w' ?_ ?_ d'
  ·have : iW (.tup ([.str z] ++ ys)) = (sA ys.length (bO.lookup z) && ys.all kU) := by
    rw [List.singleton_append]
    simp only [iW, if_neg ct]
   rw [this, ly, hs ct, Bool.true_and, ak]
   exact fun y hy' => (yD (hy y hy')).2
  ·refine (qR (n := 2) (c := 4) (fun y hy' => ?_) (by rw [bc, List.length_singleton]; omega) (bw xE (by rw [bc, List.length_singleton]; omega))).up (by omega) (by rw [bc, List.length_singleton]; omega)
   rcases bf.mp hy' with h1 | h1
   ·rw [bq.mp h1]
    exact wz.up (by omega) (by omega)
   ·exact (yD (hy y h1)).1.up (by omega) (by omega)
theorem SF {xs : List D} (h : ∀ x ∈ xs, ∃ ys, x = .tup ys) : cI xs = 0 := by
 unfold cI
 rw [List.countP_eq_zero]
 intro x hx
 obtain ⟨ys, rfl⟩ := h x hx
 simp [UE]
theorem M0 {y : D} (h : fG y = true) : ∃ ys, y = .tup ys := by
 cases y <;> first | exact ⟨_, rfl⟩ | (simp [fG] at h; done)
theorem UO {b : Nat} (hd : bT w 1 0 (b + 180)) (hP : ∀ y w', fG y = true → Pt 5 120 y → bT w' 1 0 b → P y w') : T (K63.lB k [.ref 1] w) P := by
 unfold K63.lB K63.o9
 rw [eY, beT, bP]
 simp only [gT, zY, ae, aa, reduceCtorEq]
 refine eK (b := b + 179) hd (by omega) (by omega) fun v w1 v0 v1 d1 _ => ?_
 obtain ⟨v, rfl⟩ : ∃ n : Nat, v = (n : Int) := ⟨v.toNat, by omega⟩
 rw [n7 (by omega) (by omega)]
 have lr : (fD 0 ((v : Nat) : Int).toNat).xs.length = v := by rw [j2]; omega
 refine ⟨AD _ (by rw [lr]; omega), ?_⟩
 refine mY (it := fD 0 ((v : Nat) : Int).toNat) (b := b + 59) 30 (fun y => iW y = true ∧ Pt 3 20 y) (fun _ => trivial) (d1.less (by rw [lr]; omega)) (fun x w' b' d' => ?_) fun as w2 la ha d2 => ?_
 ·try simp only [dO, zY, ae, aa, reduceCtorEq]
  refine WV k d' fun y w3 y0 y1 d3 => ?_
  try simp only [zY, ae, aa, reduceCtorEq]
  exact ⟨⟨y0, y1⟩, d3⟩
 rw [lr] at la
 simp only [K2, zY, ae, aa, reduceCtorEq]
 rw [bP]
 simp only [gT, zY, ae, aa, reduceCtorEq]
 refine eK (b := b + 58) d2 (by omega) (by omega) fun u w3 u0 u1 d3 _ => ?_
 try simp only [zY, ae, aa, reduceCtorEq]
 refine eK (b := b + 57) d3 (by omega) (by omega) fun i w4 i0 i1 d4 _ => ?_
 try simp only [zY, ae, aa, reduceCtorEq]
 refine xF i0 ?_ fun z hz => ?_
 ·simp only [List.length_cons, List.length_nil]
  omega
 obtain ⟨m, rfl, m4⟩ : ∃ m : Nat, z = .int m ∧ m ≤ 4 := by
  simp only [ao, bg, or_false] at hz
  rcases hz with rfl | rfl
  ·exact ⟨0, rfl, by omega⟩
  ·exact ⟨u.toNat, by congr 1; omega, by omega⟩
 rw [n7 (by omega) (by omega)]
 have lm : (fD 0 ((m : Nat) : Int).toNat).xs.length = m := by rw [j2]; omega
 refine ⟨AD _ (by rw [lm]; omega), ?_⟩
 refine mY (it := fD 0 ((m : Nat) : Int).toNat) (b := b) 12 (fun y => kK y = true ∧ Pt 2 4 y) (fun _ => trivial) (d4.less (by rw [lm]; omega)) (fun x w' b' d' => ?_) fun fs w5 lf hf d5 => ?_
 ·simp only [dO, n7 (n := 4) (by omega) (by omega), zY, ae, aa, reduceCtorEq]
  have l4 : (fD 0 (4 : Int).toNat).xs.length = 4 := by rw [j2]; rfl
  refine ⟨AD _ (by rw [l4]; omega), ?_⟩
  refine mY (it := fD 0 (4 : Int).toNat) (b := b') 3 LV (fun _ => trivial) (d'.less (by rw [l4]; omega)) (fun x w'' b'' d'' => ?_) fun ys w6 ly hy d6 => ?_
  ·try simp only [dO, zY, ae, aa, reduceCtorEq]
   refine xU k d'' fun u w2 u0 u1 d2 => ?_
   try simp only [zY, ae, aa, reduceCtorEq]
   exact ⟨⟨u, rfl, u0, u1⟩, d2⟩
  rw [l4] at ly
  simp only [K2]
  refine ⟨⟨?_, (qR (fun y hy' => (yD (hy y hy')).1) (by omega) (bw xE (by omega))).up (ay _) (by omega)⟩, d6⟩
  simp only [kK, ly, ag, ak]
  exact ⟨rfl, fun y hy' => (yD (hy y hy')).2⟩
 rw [lm] at lf
 simp only [K2, zY, ae, aa, reduceCtorEq]
 have pa := (qR (fun y hy => (ha y hy).2) (by omega) (bw xE (by omega))).up (n' := 4) (c' := 84) (by omega) (by omega)
 have pf := (qR (fun y hy => (hf y hy).2) (by omega) (bw xE (by omega))).up (n' := 4) (c' := 20) (by omega) (by omega)
 refine hP _ w5 ?_ ⟨⟨tY (fun y hy => ?_) (by simp), tM (fun y hy => ?_) (bw (Nat.add_le_add_right xE _) (by simp))⟩, ?_⟩ d5
 ·simp only [fG, ag, ak]
  exact ⟨fun y hy => (ha y hy).1, fun y hy => (hf y hy).1⟩
 ·simp only [ao, bg, or_false] at hy
  rcases hy with rfl | rfl
  ·exact pa.1.1
  ·exact pf.1.1
 ·simp only [ao, bg, or_false] at hy
  rcases hy with rfl | rfl
  ·exact pa.1.2
  ·exact pf.1.2
 ·have := pa.2
  have := pf.2
  simp only [jQ, wtDs] at *
  omega
theorem QJ {b m : Nat} (hm : m ≤ 100) (hd : bT w 1 0 (b + 18000)) (hP : ∀ y w', fL y = true → Pt 6 12100 y → bT w' 1 0 b → P y w') : T (K63.gZ k [.ref 1, .int (m : Nat)] w) P := by
 unfold K63.gZ K63.nF
 rw [eY, beS]
 try simp only [zY, ae, aa, reduceCtorEq]
 rw [n7 (by omega) (by omega)]
 have lr : (fD 0 ((m : Nat) : Int).toNat).xs.length = m := by rw [j2]; omega
 refine ⟨AD _ (by rw [lr]; omega), ?_⟩
 refine mY (it := fD 0 ((m : Nat) : Int).toNat) (b := b) 180 (fun y => fG y = true ∧ Pt 5 120 y) (fun _ => trivial) (hd.less (by rw [lr]; omega)) (fun x w' b' d' => ?_) fun ys w2 ly hy d2 => ?_
 ·try simp only [dO, zY, ae, aa, reduceCtorEq]
  refine UO k d' fun y w3 y0 y1 d3 => ?_
  try simp only [zY, ae, aa, reduceCtorEq]
  exact ⟨⟨y0, y1⟩, d3⟩
 rw [lr] at ly
 simp only [K2]
 refine hP _ w2 ?_ ((qR (fun y hy' => (hy y hy').2) (by omega) (by rw [SF fun y hy' => M0 (hy y hy').1]; omega)).up (by omega) (by rw [ly]; omega)) d2
 simp only [fL, ak]
 exact fun y hy' => (hy y hy').1
def W3 : List D := [.non, .bl true, .int 0, .str ("" : Str), .str ("fall 0" : Str), .lst [], .sF [] [], .tup [.tup []], .tup [.tup [.tup [], .tup [], .tup []]], .tup [.lst [.tup [], .tup []]], .tup [.tup [.tup [.str ("heal" : Str)], .tup []]], .tup [.tup [], .tup []],
 .tup [.tup [.tup [.tup []], .tup []]], .tup [.tup [.tup [.tup [.str ("tear" : Str), .tup [], .tup []]], .tup []]], .tup [.tup [.tup [.tup [.str ("tear" : Str), .tup [.int 0, .int 0], .tup []]], .tup []]], .tup [.tup [.tup [], .tup [.tup [.int 0, .int 0, .int 0]]]], .tup []]
theorem LA : ∀ y ∈ W3, Good y := by
 intro y hy
 have a : (W3.all fun y => (jC 10 90 y && pY 10 90 y) && decide (jQ y ≤ 150000)) = true := by decide +kernel
 rw [ak] at a
 have b := a y hy
 simp only [ag, ah] at b
 exact b
theorem good (ns : List Int) (hl : ns.length ≤ 63) (hP : ∀ w', P (.bl true) w') : T (K63.ET k [.jR (ns.map D.int)] []) P := by
 unfold K63.ET K63.NN
 rw [eY, beW, bP]
 simp only [UI, zY, ae, aa, reduceCtorEq]
 refine (RR hl).mono fun r w0 _ ⟨er, l0, d0⟩ => ?_
 subst er
 try simp only [zY, ae, aa, reduceCtorEq]
 rw [bP]
 simp only [n7 (n := 3) (by omega) (by omega), zY, ae, aa, reduceCtorEq]
 refine BN (it := fD 0 (3 : Int).toNat) (fun z σ w' => bT w' 1 0 (20000 * (3 - z)) ∧ ∃ s2 s3 s4 s5 s6 s7 s8, σ = [some (.jR (ns.map D.int)), some (.ref 1), s2, s3, s4, s5, s6, s7, s8]) (fun _ _ _ _ => trivial)
  ⟨d0.less (by omega), _, _, _, _, _, _, _, rfl⟩ (fun z dz σ w1 hz ⟨d1, s2, s3, s4, s5, s6, s7, s8, es⟩ => ?_) fun σ w1 ⟨d1, s2, s3, s4, s5, s6, s7, s8, es⟩ => ?_
 ·subst es
  have hz3 : z < 3 := (aj.mp hz).1
  rw [OR, bP]
  simp only [gT, zY, ae, aa, reduceCtorEq]
  refine eK (b := 20000 * (3 - (z + 1)) + 19999) (d1.less (by omega)) (by omega) (by omega) fun v w2 v0 v1 d2 _ => ?_
  simp only [kN, eV, af, bj, zY, ae, aa, reduceCtorEq]
  rw [bP]
  have here : ∀ (m : Nat) (w3 : W) (PS : D → W → Prop), m ≤ 100 → bT w3 1 0 (20000 * (3 - (z + 1)) + 19998) → (∀ y w', fL y = true → Pt 6 12100 y → bT w' 1 0 (20000 * (3 - (z + 1)) + 1998) → PS y w') → T (K63.gZ k [.ref 1, .int (m : Nat)] w3) PS := fun m w3 PS hm d3 h3 => QJ k hm (d3.less (by omega)) h3
  obtain ⟨g, eg⟩ : ∃ g, g = (v == 5) := ⟨_, rfl⟩
  rw [← eg]
  clear eg
  have rest : ∀ (PF : Fl → W → Prop) (y : D) (w3 : W), fL y = true → Pt 6 12100 y → bT w3 1 0 (20000 * (3 - (z + 1)) + 1998) →
    T (fY (dS hE (aA (eC (.int 16)) aD)) (a7 5) (aK (aX (aE eR (aJ (bL k) 2 aN (aA (aB 1) (aA (eC (.int 3)) aD))) (eC (.int 0))) (a7 6))
 (aK (aX (aJ (e8 k) 2 aN (aA (aB 1) (aA (aB 4) aD))) (a7 7))
 (aK (dN (cV (aB 6)) (aX (aJ (e8 k) 2 aN (aA (aB 1) (aA (aB 7) aD))) (a7 7)) a9)
 (dN (eQ (cH (cV (aJ (cP k) 1 aN (aA (aB 7) aD)))) (eQ (cH (cV (aJ (cP k) 1 aN (aA (aB 4) aD)))) (bG (aE nK (aJ (dH k) 1 aN (aA (aB 4) aD)) (eC (.bl true)))))) (bB (eC (.bl false))) a9)))) [some (.jR (ns.map D.int)), some (.ref 1), some dz, some (.bl g), some y, s5, s6, s7, s8] w3)
     (Turn (fun σ w' => bT w' 1 0 (20000 * (3 - (z + 1))) ∧ ∃ s2 s3 s4 s5 s6 s7 s8, σ = [some (.jR (ns.map D.int)), some (.ref 1), s2, s3, s4, s5, s6, s7, s8]) PF) := fun PF y w3 hy py d3 => by
   have gy : Good y := ⟨⟨eW py.1.1 (by omega) (by omega), fZ py.1.2 (by omega) (by omega)⟩, by have := py.2; omega⟩
   have okY : k6 (6 + 5) y = true := qV gy.1.1 (by omega)
   have es : ∀ w : W, K63.dH k [y] w = .ok (.bl true) w := fun w => by rw [IQ k (n := 6) okY, hy]
   simp only [n7 (n := 16) (by omega) (by omega), zY, ae, aa, reduceCtorEq]
   refine BN (it := fD 0 (16 : Int).toNat) (fun u σ w' => bT w' 1 0 (20000 * (3 - (z + 1)) + 100 * (16 - u)) ∧ ∃ s5 s6 s7 s8, σ = [some (.jR (ns.map D.int)), some (.ref 1), some dz, some (.bl g), some y, s5, s6, s7, s8]) (fun _ _ _ _ => trivial)
    ⟨d3.less (by omega), _, _, _, _, rfl⟩ (fun u du σ w4 hu ⟨d4, s5, s6, s7, s8, es⟩ => ?_) fun σ w4 ⟨d4, s5, s6, s7, s8, es⟩ => ?_
   case refine_2 =>
    subst es
    have d4 : bT w4 1 0 (20000 * (3 - (z + 1)) + 100 * (16 - 16)) := d4
    exact ⟨d4.less (by omega), _, _, _, _, _, _, _, rfl⟩
   subst es
   have hu16 : u < 16 := (aj.mp hu).1
   rw [OR, bP]
   simp only [gT, zY, ae, aa, reduceCtorEq]
   refine eK (b := 20000 * (3 - (z + 1)) + 100 * (16 - (u + 1)) + 99) (d4.less (by omega)) (by omega) (by omega) fun t w5 t0 t1 d5 _ => ?_
   simp only [kN, eV, af, bj, zY, ae, aa, reduceCtorEq]
   rw [bP]
   try simp only [zY, ae, aa, reduceCtorEq]
   refine (ID k 6 80 (20000 * (3 - (z + 1)) + 100 * (16 - (u + 1)) + 30) y w5 (by omega) (d5.less (by omega)) py.1.1 py.1.2 (by omega) (by omega)).mono fun x w6 _ ⟨⟨⟨o1, o2⟩, o3⟩, d6⟩ => ?_
   have py2 := py.2
   try simp only [zY, ae, aa, reduceCtorEq]
   have fin : ∀ (x : D) (w7 : W) (s6 : Option D), Good x → bT w7 1 0 (20000 * (3 - (z + 1)) + 100 * (16 - (u + 1))) →
     T (dN (eQ (cH (cV (aJ (cP k) 1 aN (aA (aB 7) aD)))) (eQ (cH (cV (aJ (cP k) 1 aN (aA (aB 4) aD)))) (bG (aE nK (aJ (dH k) 1 aN (aA (aB 4) aD)) (eC (.bl true)))))) (bB (eC (.bl false))) a9 [some (.jR (ns.map D.int)), some (.ref 1), some dz, some (.bl g), some y, some du, s6, some x, s8] w7)
     (Turn (fun σ w' => bT w' 1 0 (20000 * (3 - (z + 1)) + 100 * (16 - (u + 1))) ∧ ∃ s5 s6 s7 s8, σ = [some (.jR (ns.map D.int)), some (.ref 1), some dz, some (.bl g), some y, s5, s6, s7, s8]) (Turn (fun σ w' => bT w' 1 0 (20000 * (3 - (z + 1))) ∧ ∃ s2 s3 s4 s5 s6 s7 s8, σ = [some (.jR (ns.map D.int)), some (.ref 1), s2, s3, s4, s5, s6, s7, s8]) PF)) := fun x w7 s6 gx d7 => by
    try simp only [zY, ae, aa, reduceCtorEq]
    refine right k gx fun w8 g8 => ?_
    try simp only [zY, ae, aa, reduceCtorEq]
    refine right k gy fun w9 g9 => ?_
    simp only [es, RK, zY, ae, aa, reduceCtorEq]
    exact ⟨BE d7 (g8.trans g9), _, _, _, _, rfl⟩
   rw [bP]
   cases (t == 0)
   ·simp only [NS, MX, ZJ, zY, ae, aa, reduceCtorEq]
    try simp only [zY, ae, aa, reduceCtorEq]
    have q := fin x w6 (some (.bl false)) ⟨⟨eW o1 (by omega) (by omega), fZ o3 (by omega) (by omega)⟩, by omega⟩ (d6.less (by omega))
    try simp only [gT, zY, ae, aa, reduceCtorEq] at q
    exact q
   ·simp only [NS, MX, ZJ, zY, ae, aa, reduceCtorEq]
    refine (ID k 8 81 (20000 * (3 - (z + 1)) + 100 * (16 - (u + 1))) x w6 (by omega) (d6.less (by omega)) o1 o3 (by omega) (by omega)).mono fun x2 w7 _ ⟨⟨⟨p1, p2⟩, p3⟩, d7⟩ => ?_
    try simp only [zY, ae, aa, reduceCtorEq]
    have q := fin x2 w7 (some (.bl true)) ⟨⟨eW p1 (by omega) (by omega), fZ p3 (by omega) (by omega)⟩, by omega⟩ d7
    try simp only [gT, zY, ae, aa, reduceCtorEq] at q
    exact q
  cases g
  ·simp only [zY, ae, aa, reduceCtorEq]
   refine eK (b := 20000 * (3 - (z + 1)) + 19998) d2 (by omega) (by omega) fun m w3 m0 m1 d3 _ => ?_
   obtain ⟨m, rfl⟩ : ∃ n : Nat, m = (n : Int) := ⟨m.toNat, by omega⟩
   try simp only [zY, ae, aa, reduceCtorEq]
   refine here m w3 _ (by omega) d3 fun y w4 hy py d4 => ?_
   try simp only [zY, ae, aa, reduceCtorEq]
   have q := fun PF => rest PF y w4 hy py d4
   try simp only [gT, zY, ae, aa, reduceCtorEq] at q
   exact q _
  ·simp only [zY, ae, aa, reduceCtorEq]
   have n100 : (100 : Int) = ((100 : Nat) : Int) := rfl
   rw [n100]
   refine here 100 w2 _ (by omega) (d2.less (by omega)) fun y w4 hy py d4 => ?_
   try simp only [zY, ae, aa, reduceCtorEq]
   have q := fun PF => rest PF y w4 hy py d4
   try simp only [gT, zY, ae, aa, reduceCtorEq] at q
   exact q _
 ·subst es
  rw [IW, bP]
  simp only [IM, zY, ae, aa, reduceCtorEq]
  obtain ⟨XS, eXS⟩ : ∃ XS : List D, XS = [.non, .bl true, .int 0, .str ("" : Str), .str ("fall 0" : Str), .lst [], .sF [] [], .tup [.tup []], .tup [.tup [.tup [], .tup [], .tup []]], .tup [.lst [.tup [], .tup []]], .tup [.tup [.tup [.str ("heal" : Str)], .tup []]], .tup [.tup [], .tup []]] := ⟨_, rfl⟩
  obtain ⟨w2, e2⟩ : ∃ w2, w2 = w1 ++ [MO.lst XS] := ⟨_, rfl⟩
  rw [← eXS, ← e2]
  have h2 : qX (.ref w1.length) w2 = some XS := by
   have : w2[w1.length]? = some (.lst XS) := by rw [e2]; exact x7
   simp only [qX, this]
  rw [bP]
  simp only [zY, ae, aa, reduceCtorEq]
  obtain ⟨ZS, eZS⟩ : ∃ ZS : List D, ZS = [.tup [.tup [.tup [.tup []], .tup []]], .tup [.tup [.tup [.tup [.str ("tear" : Str), .tup [], .tup []]], .tup []]], .tup [.tup [.tup [.tup [.str ("tear" : Str), .tup [.int 0, .int 0], .tup []]], .tup []]]] := ⟨_, rfl⟩
  rw [← eZS, P5 h2 (show qX (.lst ZS) w2 = some ZS from rfl)]
  have lX : XS.length = 12 := by rw [eXS]; rfl
  have lZ : ZS.length = 3 := by rw [eZS]; rfl
  refine ⟨AD _ (by omega), ?_⟩
  obtain ⟨w3, e3⟩ : ∃ w3, w3 = w2 ++ [MO.lst (XS ++ ZS)] := ⟨_, rfl⟩
  obtain ⟨q, eq⟩ : ∃ q, q = w2.length := ⟨_, rfl⟩
  have h3 : w3[q]? = some (.lst (XS ++ ZS)) := by rw [e3, eq]; exact x7
  rw [← e3, ← eq]
  try simp only [zY, ae, aa, reduceCtorEq]
  rw [bP]
  simp only [Y9 h3, FH h3, zY, ae, aa, reduceCtorEq]
  refine ⟨AD _ (by rw [bc]; omega), ?_⟩
  obtain ⟨YS, eYS⟩ : ∃ YS : List D, YS = (XS ++ ZS) ++ [.tup [.tup [.tup [], .tup [.tup [.int 0, .int 0, .int 0]]]]] := ⟨_, rfl⟩
  rw [← eYS]
  obtain ⟨w4, e4⟩ : ∃ w4, w4 = w3.set q (.lst YS) := ⟨_, rfl⟩
  rw [← e4]
  have h4 : qX (.ref q) w4 = some YS := by
   have : w4[q]? = some (.lst YS) := by rw [e4]; exact bt (aj.mp h3).1
   simp only [qX, this]
  have lY : YS.length = 16 := by rw [eYS, bc, bc, lX, lZ]; rfl
  have ar : ∀ (P : D → W → Prop), T (Pc.LG (.ref q) (.lst [.tup []]) w4) P = P (.lst (YS ++ [.tup []])) w4 := fun P => by
   have : Pc.LG (.ref q) (.lst [.tup []]) w4 = .ok (.lst (YS ++ [.tup []])) w4 := by
    simp only [Pc.LG, h4, show qX (.lst [D.tup []]) w4 = some [D.tup []] from rfl, if_pos (show YS.length + [D.tup []].length ≤ sizeLine by rw [sizeLine_eq, lY]; decide)]
   rw [this, cR]
  simp only [ar, TH, zY, ae, aa, reduceCtorEq]
  have all : ∀ x ∈ YS ++ [.tup []], Good x := by
   rw [eYS, eXS, eZS]
   exact LA
  refine ⟨AD _ (by rw [bc, lY]; decide), ?_⟩
  refine v3 (it := ⟨YS ++ [.tup []], always⟩) (fun j acc w' => acc = []) (fun _ _ _ _ => trivial) rfl (fun j x acc w11 hx hI => ?_) (fun acc w11 hI => ?_)
  ·subst hI
   simp only [dO, zY, ae, aa, reduceCtorEq]
   refine right k (all x (bo hx)) fun w12 g12 => ?_
   try simp only [zY, ae, aa, reduceCtorEq]
   try rfl
  ·subst hI
   simp only [kN, mG, af, bj, List.isEmpty_nil, zY, ae, aa, reduceCtorEq]
   exact hP _
end
theorem MN (k : K63.bM) (ns : List Int) (h : ns.length ≤ 63) : ∃ w', K63.ET k [.jR (ns.map Pc.D.int)] [] = .ok (.bl true) w' := by
 obtain ⟨a, w, e, p⟩ := (good k (P := fun d _ => d = .bl true) ns h fun _ => rfl).ex
 exact ⟨w, by rw [e, p]⟩
end K63
namespace K63H
open PySem PySem.Spec PyProof.Rows L2 Pc K63
open PySem PySem.W PySem.Calls PyProof.Rows HandSHeadRun in
open PySem PySem.W PySem.Calls PyProof.Rows in
open PySem PySem.W PySem.Calls PyProof.Rows in
open PySem PySem.W PySem.Calls PyProof.Rows in
open PySem PySem.W PySem.Calls PyProof.Rows in
abbrev St (w : World) (K : PySem.W.Frag) (mg : Str → Option Value) (base : Heap) : aQ := ⟨PySem.Challenge.pw_onemaster_k63_what_is_a_story, w, K, mg, base, 0, [], defScope (top 30), fun _ => true⟩
theorem facts {w : World} {K : PySem.W.Frag} {h : Heap} {mg : Str → Option Value} (X : K.In h) (G : h.Ns mainGlobals mg) (c : He.SaysX fa fn ts [] ex w h K) :
  ∃ (d : FuncData) (kk : bM), (FunD K ("law" : Str) ("law" : Str) (defArgs (top 30)) (defBody (top 30)) (defScope (top 30)) [] [] (He.ga K "law") d) ∧ ∀ base, ∃ x : Fx (St w K mg base), x.k = kk ∧ x.zQ = He.ga K "law" ∧ x.I9 = d := by
 obtain ⟨d0, F0⟩ := c.t.d.def_ 0 (d := nZ) rfl
 obtain ⟨d1, F1⟩ := c.t.d.def_ 1 (d := o6) rfl
 obtain ⟨d2, F2⟩ := c.t.d.def_ 2 (d := hX) rfl
 obtain ⟨d3, F3⟩ := c.t.d.def_ 3 (d := lN) rfl
 obtain ⟨d4, F4⟩ := c.t.d.def_ 4 (d := lK) rfl
 obtain ⟨d5, F5⟩ := c.t.d.def_ 5 (d := i9) rfl
 obtain ⟨d6, F6⟩ := c.t.d.def_ 6 (d := qQ) rfl
 obtain ⟨d7, F7⟩ := c.t.d.def_ 7 (d := oN) rfl
 obtain ⟨d8, F8⟩ := c.t.d.def_ 8 (d := lU) rfl
 obtain ⟨d9, F9⟩ := c.t.d.def_ 9 (d := tJ) rfl
 obtain ⟨d10, F10⟩ := c.t.d.def_ 10 (d := oT) rfl
 obtain ⟨d11, F11⟩ := c.t.d.def_ 11 (d := uQ) rfl
 obtain ⟨d12, F12⟩ := c.t.d.def_ 12 (d := tV) rfl
 obtain ⟨d13, F13⟩ := c.t.d.def_ 13 (d := rC) rfl
 obtain ⟨d14, F14⟩ := c.t.d.def_ 14 (d := m8) rfl
 obtain ⟨d15, F15⟩ := c.t.d.def_ 15 (d := qP) rfl
 obtain ⟨d16, F16⟩ := c.t.d.def_ 16 (d := mB) rfl
 obtain ⟨d17, F17⟩ := c.t.d.def_ 17 (d := mC) rfl
 obtain ⟨d18, F18⟩ := c.t.d.def_ 18 (d := qL) rfl
 obtain ⟨d19, F19⟩ := c.t.d.def_ 19 (d := oH) rfl
 obtain ⟨d20, F20⟩ := c.t.d.def_ 20 (d := q0) rfl
 obtain ⟨d21, F21⟩ := c.t.d.def_ 21 (d := pB) rfl
 obtain ⟨d22, F22⟩ := c.t.d.def_ 22 (d := m7) rfl
 obtain ⟨d23, F23⟩ := c.t.d.def_ 23 (d := N6) rfl
 refine ⟨d23, { gJ := He.ga K "FORMS" }, F23, fun base => ⟨{
  k := { gJ := He.ga K "FORMS" },
  wX := He.free_ok X G (c.t.d.fact 0 (f := .free "all") rfl),
  H0 := He.free_ok X G (c.t.d.fact 1 (f := .free "bool") rfl),
  I6 := He.free_ok X G (c.t.d.fact 2 (f := .free "int") rfl),
  aW := He.free_ok X G (c.t.d.fact 3 (f := .free "isinstance") rfl),
  fJ := He.free_ok X G (c.t.d.fact 4 (f := .free "len") rfl),
  CO := He.free_ok X G (c.t.d.fact 5 (f := .free "list") rfl),
  jO := He.free_ok X G (c.t.d.fact 6 (f := .free "range") rfl),
  yC := He.free_ok X G (c.t.d.fact 7 (f := .free "repr") rfl),
  OX := He.free_ok X G (c.t.d.fact 8 (f := .free "set") rfl),
  xH := He.free_ok X G (c.t.d.fact 9 (f := .free "sorted") rfl),
  J9 := He.free_ok X G (c.t.d.fact 10 (f := .free "str") rfl),
  SW := He.free_ok X G (c.t.d.fact 11 (f := .free "sum") rfl),
  bW := He.free_ok X G (c.t.d.fact 12 (f := .free "tuple") rfl),
  SN := He.free_ok X G (c.t.d.fact 13 (f := .free "zip") rfl),
  p9 := BO X G (CZ c.more 0 rfl),
  uW := BO X G (CZ c.more 1 rfl),
  L4 := BO X G (CZ c.more 2 rfl),
  BB := ⟨.ref _, .ref _, He.glo_ok X G (c.t.d.fact 38 (f := .glo "FORMS") rfl), rfl, fun _ _ => by simp [aG]⟩,
  CH := MW (c.t.tab 0 rfl) (CZ c.more 3 rfl),
  iZ := He.fAd K nZ.at_,
  lF := d0,
  oJ := F0,
  uV := He.glo_ok X G (c.t.d.fact 14 (f := .glo "_law_deck") rfl),
  rN := F0.kp,
  iP := He.fAd K o6.at_,
  lE := d1,
  oX := F1,
  aY := He.glo_ok X G (c.t.d.fact 15 (f := .glo "_law_draw") rfl),
  aR := F1.kp,
  eP := He.fAd K hX.at_,
  fQ := d2,
  hZ := F2,
  fS := He.glo_ok X G (c.t.d.fact 16 (f := .glo "_law_is_number") rfl),
  fF := F2.kp,
  f7 := He.fAd K lN.at_,
  iL := d3,
  lV := F3,
  lM := He.glo_ok X G (c.t.d.fact 17 (f := .glo "_law_is_lot") rfl),
  kR := F3.kp,
  f9 := He.fAd K lK.at_,
  iI := d4,
  lT := F4,
  qE := He.glo_ok X G (c.t.d.fact 18 (f := .glo "_law_is_act") rfl),
  oO := F4.kp,
  eZ := He.fAd K i9.at_,
  gE := d5,
  i5 := F5,
  nR := He.glo_ok X G (c.t.d.fact 19 (f := .glo "_law_is_story") rfl),
  mF := F5.kp,
  kH := He.fAd K qQ.at_,
  m2 := d6,
  rB := F6,
  wH := He.glo_ok X G (c.t.d.fact 20 (f := .glo "is_whole") rfl),
  uZ := F6.kp,
  iS := He.fAd K oN.at_,
  lC := d7,
  oQ := F7,
  uT := He.glo_ok X G (c.t.d.fact 21 (f := .glo "is_within") rfl),
  rX := F7.kp,
  gD := He.fAd K lU.at_,
  iJ := d8,
  l5 := F8,
  iO := He.glo_ok X G (c.t.d.fact 22 (f := .glo "are_numbers") rfl),
  gX := F8.kp,
  mN := He.fAd K tJ.at_,
  pS := d9,
  uN := F9,
  AK := He.glo_ok X G (c.t.d.fact 23 (f := .glo "is_fate") rfl),
  yB := F9.kp,
  i4 := He.fAd K oT.at_,
  kW := d10,
  pD := F10,
  oS := He.glo_ok X G (c.t.d.fact 24 (f := .glo "is_rising") rfl),
  mW := F10.kp,
  mK := He.fAd K uQ.at_,
  pW := d11,
  t8 := F11,
  z9 := He.glo_ok X G (c.t.d.fact 25 (f := .glo "is_form") rfl),
  xZ := F11.kp,
  mE := He.fAd K tV.at_,
  pO := d12,
  uF := F12,
  zV := He.glo_ok X G (c.t.d.fact 26 (f := .glo "is_turn") rfl),
  yS := F12.kp,
  kM := He.fAd K rC.at_,
  kS := d13,
  mO := F13,
  mR := He.glo_ok X G (c.t.d.fact 27 (f := .glo "is_story") rfl),
  kY := F13.kp,
  gY := He.fAd K m8.at_,
  jN := d14,
  mV := F14,
  jU := He.glo_ok X G (c.t.d.fact 28 (f := .glo "_law_right") rfl),
  iM := F14.kp,
  j7 := He.fAd K qP.at_,
  mT := d15,
  q8 := F15,
  eB := He.glo_ok X G (c.t.d.fact 29 (f := .glo "_law_odd") rfl),
  dB := F15.kp,
  bN := He.fAd K mB.at_,
  bS := d16,
  cJ := F16,
  cE := He.glo_ok X G (c.t.d.fact 30 (f := .glo "_law_spoilt") rfl),
  bU := F16.kp,
  f6 := He.fAd K mC.at_,
  iH := d17,
  lI := F17,
  h9 := He.glo_ok X G (c.t.d.fact 31 (f := .glo "_law_number") rfl),
  g6 := F17.kp,
  kJ := He.fAd K qL.at_,
  nD := d18,
  qJ := F18,
  q9 := He.glo_ok X G (c.t.d.fact 32 (f := .glo "_law_lot") rfl),
  oR := F18.kp,
  iV := He.fAd K oH.at_,
  lG := d19,
  oZ := F19,
  vG := He.glo_ok X G (c.t.d.fact 33 (f := .glo "_law_pick") rfl),
  rF := F19.kp,
  j3 := He.fAd K q0.at_,
  nA := d20,
  qI := F20,
  yQ := He.glo_ok X G (c.t.d.fact 34 (f := .glo "_law_act") rfl),
  vR := F20.kp,
  iX := He.fAd K pB.at_,
  k9 := d21,
  oC := F21,
  vD := He.glo_ok X G (c.t.d.fact 35 (f := .glo "_law_turn") rfl),
  sL := F21.kp,
  gS := He.fAd K m7.at_,
  jP := d22,
  mX := F22,
  rY := He.glo_ok X G (c.t.d.fact 36 (f := .glo "_law_story") rfl),
  qA := F22.kp,
  zQ := He.fAd K N6.at_,
  I9 := d23,
  S4 := F23,
  S8 := He.glo_ok X G (c.t.d.fact 37 (f := .glo "law") rfl),
  VL := F23.kp,
  NF := QF (CZ c.more 4 rfl) }, rfl, rfl, rfl⟩⟩
end K63H
set_option maxHeartbeats 0
open PySem PySem.W PySem.Calls PyProof.Rows
theorem PySem.Challenge.cw_onemaster_k63_what_is_a_story_holds : PySem.Challenge.rw_onemaster_k63_what_is_a_story.Holds := by
 refine K63H.early.2 ?_
 ·refine Pc.LR (l := PySem.Challenge.rw_onemaster_k63_what_is_a_story) (n := 63) (k := 12) (x := "_law_script") rfl (by decide) (by kernel_rfl) ⟨rfl, by decide, by decide⟩ ?F
  intro w mg fa h Y G hmg0
  obtain ⟨K, KX, c⟩ := Y
  have hmg : mg ("law" : PySem.Str) = some (.ref fa) := by
   have e : (HandSHeadRun.topDef (OpenLaw.row PySem.Challenge.rw_onemaster_k63_what_is_a_story).prog 30).name = ("law" : PySem.Str) := by kernel_rfl
   rw [← e]
   exact hmg0
  obtain ⟨d, kk, F, fx⟩ := K63H.facts KX G c
  have hx : fa = He.ga K "law" := by
   obtain ⟨x0, _, e1, _⟩ := fx {}
   have z := x0.S8
   rw [e1] at z
   have z2 := hmg.symm.trans z
   cases z2
   rfl
  have bd := L2.FunD.bindsA (ps := ["_law_script"]) F fun _ _ _ _ _ _ us hl => match us, hl with | [_], _ => rfl
  refine ⟨K, d, K63.ET kk, KX, fun s v => bd s [v] rfl, fun ns hl => K63.MN kk ns hl, fun base _ _ => ?_⟩
  obtain ⟨x, e0, e1, e2⟩ := fx base
  have z := K63.U0 x
  rw [e0, e1, e2] at z
  rw [hx]
  exact z
end
