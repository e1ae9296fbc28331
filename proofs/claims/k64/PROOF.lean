import PyProof.Rows.All
import Wide.All
import OpenK.AllK
import Wide.FinOn
import HandS.ForMost
import HandS.Exc
import HandS.ExcOwn
import HandS.WordsExc
import HandS.CallSlots
import HandS.Codes
import KE.KeyNested
import HandS.Defaults
import HandS.IsInst
import HandS.Zip
import HandS.Deep
import HandS.TupAny
import HandS.Wide
import HandS.Conv
import HandS.RaiseMore
import HandS.Style
import HandS.Replace
import HandS.TupMul
import HandS.LawCells
import HandS.FStr
import HandS.TryOnly
import PyProof.StrBlock2
import PyProof.CollectIter
import PyProof.Rows.IntBool
import HandS.DictComp
import KE.GoesMore
import KE.GoesEnum
import PyProof.EnumMake
import HandS.SetFor
import HandS.TupSets
import PySem.Challenge.RW_manyblocks_k64_what_is_a_history
set_option Elab.async false
set_option linter.all false
set_option maxRecDepth 100000
set_option autoImplicit false
/-! DM1: a plain machine of data over the hand layer: values, things that change, states, and how they lie in the abstract heap. -/
namespace DM
open PySem PySem.Spec PyProof.Rows L2

/-- data: lst is a list that nobody changes, fzl one that was handed in or is the module's; ref a thing of the state -/
inductive DV where
  | non | bl (b : Bool) | int (i : Int) | str (x : Str) | tup (xs : List DV) | lst (xs : List DV) | fzl (xs : List DV) | ref (n : Nat) | glo (n : Nat) | ty (n : String)

/-- things that change -/
inductive DO where
  | lst (xs : List DV) | dct (kvs : List (Key × DV)) | ins (c : Nat) (fs : List (Str × DV))
  /-- a dict whose keys are tuples, nested too -/
  | dcn (kvs : List (DV × DV))
abbrev DSt := List DO
abbrev DEnv := List (Option DV)
structure DX where
  cls : DV
  fs : List (Str × DV)

/-- the text's own defs and classes by number -/
structure Gam where
  K : PySem.W.Frag
  ad : Nat → Addr
  w : World

/- a value as a key of a dict -/
mutual
def nkeyD : DV → NestedKey
  | .non => .none | .bl b => .num (if b = true then 1 else 0) | .int i => .num i | .str x => .text x | .tup ds => .tup (nkeysD ds) | _ => .none
def nkeysD : List DV → List NestedKey
  | [] => []
  | d :: ds => nkeyD d :: nkeysD ds
end
mutual
def isKeyD : DV → Bool
  | .non | .bl _ | .int _ | .str _ => true | .tup ds => isKeysD ds | _ => false
def isKeysD : List DV → Bool
  | [] => true
  | d :: ds => isKeyD d && isKeysD ds
end
/-- the object at a is a dict of these keys (where their tuples stand) and values -/
def ND (w : World) (a : Addr) (ts : List (NestedKey × Addr × V)) : Heap → Prop := fun h => ts.length ≤ sizeLine ∧ (a == sysModules) = false ∧
  ∃ ys : List (NestedKey × Addr × Value), Paired (fun p q => p.1 = q.1 ∧ p.2.1 = q.2.1 ∧ RelV p.2.2 q.2.2) ts ys ∧
  ∃ o es ep, h.get? a = some o ∧ o.ExactDict ∧ o.data = .dict es ep ∧ es.toList = ys.map (fun y => (⟨y.1.hash w, .ref y.2.1, y.2.2⟩ : DictEntry)) ∧ (ys.map (·.1)).Nodup
def keysOf : List (DV × DV) → List (Addr × V) → List (NestedKey × Addr × V)
  | d :: ds, q :: qs => (nkeyD d.1, q.1, q.2) :: keysOf ds qs
  | _, _ => []

/-- where the things that change stand; addresses that no value may read (a list that is being made) -/
structure Lay where
  rf : List Addr
  rs : List Addr
/-- a list of the module's own -/
def KL (K : PySem.W.Frag) (a : Addr) (xs : List V) : Prop := ∀ H : Hp, SqL K H a xs
section
variable (g : Gam) (φ : Lay) (H : Hp)
mutual
def RV : DV → V → Prop
  | .non, v => v = .non
  | .bl b, v => v = .bl b
  | .int i, v => v = .int i
  | .str x, v => v = .str x
  | .tup ds, v => ∃ a xs, v = .ref a ∧ SqT g.K H a xs ∧ RVs ds xs
  | .lst ds, v => ∃ a xs, v = .ref a ∧ (a ∉ φ.rf ∧ a ∉ φ.rs) ∧ H a = some (.lst xs) ∧ RVs ds xs
  | .fzl ds, v => ∃ a xs, v = .ref a ∧ (((a ∉ φ.rf ∧ a ∉ φ.rs) ∧ Rd H a (.lst xs)) ∨ KL g.K a xs) ∧ RVs ds xs
  | .ref n, v => ∃ a, v = .ref a ∧ φ.rf[n]? = some a
  | .glo n, v => v = .ref (g.ad n)
  | .ty n, v => v = .ty n
def RVs : List DV → List V → Prop
  | [], xs => xs = []
  | d :: ds, xs => ∃ x r, xs = x :: r ∧ RV d x ∧ RVs ds r
end
def RKs {κ : Type} : List (κ × DV) → List (κ × V) → Prop
  | [], xs => xs = []
  | d :: ds, xs => ∃ x r, xs = (d.1, x) :: r ∧ RV g φ H d.2 x ∧ RKs ds r
def RNs : List (DV × DV) → List (Addr × V) → Prop
  | [], ts => ts = []
  | d :: ds, ts => ∃ q r, ts = q :: r ∧ (isKeyD d.1 = true ∧ (nkeyD d.1).depth ≤ 8) ∧ RV g φ H d.1 (.ref q.1) ∧ RV g φ H d.2 q.2 ∧ RNs ds r
def RO (a : Addr) : DO → HO → Prop
  | .lst ds, o => ∃ xs, o = .lst xs ∧ RVs g φ H ds xs
  | .dct kvs, o => ∃ ks, o = .dK ks ∧ RKs g φ H kvs ks
  | .ins c fs, o => ∃ dx ks, o = .ins (g.ad c) dx ks ∧ RKs g φ H fs ks
  | .dcn kvs, o => ∃ ts, o = .ext (ND g.w a (keysOf kvs ts)) ∧ RNs g φ H kvs ts
def RX (e : DX) (c : Value) (d : Option Addr) : Prop :=
  (∃ x, RV g φ H e.cls x ∧ RelV x c) ∧ ((d = none ∧ e.fs = []) ∨ ∃ dx ks, d = some dx ∧ H dx = some (.xd ks) ∧ RKs g φ H e.fs ks)
structure RSt (st : DSt) : Prop where
  nd : φ.rf.Nodup
  len : φ.rf.length = st.length
  res : ∀ a, a ∈ φ.rs → a ∉ φ.rf ∧ ∃ xs, H a = some (.lst xs)
  ob : ∀ (n : Nat) (a : Addr), φ.rf[n]? = some a → ∃ o ho, st[n]? = some o ∧ H a = some ho ∧ RO g φ H a o ho
structure REnv (env : DEnv) (σ : L2.St) : Prop where
  len : env.length = σ.length
  at_ : ∀ (i : Nat) (d : DV), env[i]? = some (some d) → ∃ v, σ[i]? = some (some v) ∧ RV g φ H d v
end

theorem nodupIx {α : Type} {N : List α} (hN : N.Nodup) {i j : Nat} {x : α} (a : N[i]? = some x) (b : N[j]? = some x) : i = j := by
  obtain ⟨h1, e1⟩ := List.getElem?_eq_some_iff.mp a
  obtain ⟨h2, e2⟩ := List.getElem?_eq_some_iff.mp b
  exact (List.getElem_inj hN).mp (e1.trans e2.symm)
structure Ext (φ φ' : Lay) (H H' : Hp) : Prop where
  pre : ∃ ψ, φ'.rf = φ.rf ++ ψ
  rs : φ'.rs = φ.rs
  keep : ∀ a o, a ∉ φ.rf → H a = some o → H' a = some o ∧ a ∉ φ'.rf
/-- .. where more may be in the making -/
structure ExtW (φ φ' : Lay) (H H' : Hp) : Prop where
  pre : ∃ ψ, φ'.rf = φ.rf ++ ψ
  rs : ∀ a, a ∈ φ'.rs → a ∈ φ.rs ∨ H a = none
  keep : ∀ a o, a ∉ φ.rf → H a = some o → H' a = some o ∧ a ∉ φ'.rf
theorem Ext.w {φ φ' : Lay} {H H' : Hp} (x : Ext φ φ' H H') : ExtW φ φ' H H' := ⟨x.pre, fun a h => .inl (by rw [← x.rs]; exact h), x.keep⟩
theorem ExtW.get {φ φ' : Lay} {H H' : Hp} (x : ExtW φ φ' H H') {n : Nat} {a : Addr} (h : φ.rf[n]? = some a) : φ'.rf[n]? = some a := by
  obtain ⟨ψ, e⟩ := x.pre
  rw [e, List.getElem?_append_left (List.getElem?_eq_some_iff.mp h).1, h]
theorem ExtW.nrs {φ φ' : Lay} {H H' : Hp} (x : ExtW φ φ' H H') {a : Addr} {o : HO} (n : a ∉ φ.rs) (h : H a = some o) : a ∉ φ'.rs := fun z => by
  rcases x.rs a z with q | q
  · exact n q
  · rw [h] at q; cases q
theorem Ext.refl {φ : Lay} {H : Hp} : Ext φ φ H H := ⟨⟨[], by simp⟩, rfl, fun _ _ n h => ⟨h, n⟩⟩
theorem Ext.trans {φ φ1 φ2 : Lay} {H H1 H2 : Hp} (a : Ext φ φ1 H H1) (b : Ext φ1 φ2 H1 H2) : Ext φ φ2 H H2 := by
  obtain ⟨ψ, e⟩ := a.pre
  obtain ⟨ψ', e'⟩ := b.pre
  refine ⟨⟨ψ ++ ψ', by rw [e', e, List.append_assoc]⟩, b.rs.trans a.rs, fun c o n h => ?_⟩
  obtain ⟨h1, n1⟩ := a.keep c o n h
  exact b.keep c o n1 h1
theorem Ext.get {φ φ' : Lay} {H H' : Hp} (x : Ext φ φ' H H') {n : Nat} {a : Addr} (h : φ.rf[n]? = some a) : φ'.rf[n]? = some a := by
  obtain ⟨ψ, e⟩ := x.pre
  rw [e, List.getElem?_append_left (List.getElem?_eq_some_iff.mp h).1, h]

section
variable {g : Gam} {φ φ' : Lay} {H H' : Hp} {st : DSt}
theorem RO.mut {a : Addr} {o : DO} {ho : HO} (r : RO g φ H a o ho) : Mut (some ho) := by
  cases o with
  | lst ds => obtain ⟨xs, rfl, _⟩ := r; trivial
  | dct kvs => obtain ⟨xs, rfl, _⟩ := r; trivial
  | ins c fs => obtain ⟨dx, xs, rfl, _⟩ := r; trivial
  | dcn kvs => obtain ⟨ts, rfl, _⟩ := r; trivial
theorem RSt.mut (s : RSt g φ H st) {a : Addr} (h : a ∈ φ.rf) : Mut (H a) := by
  obtain ⟨n, hn⟩ := List.mem_iff_getElem?.mp h
  obtain ⟨o, ho, _, e, r⟩ := s.ob n a hn
  rw [e]
  exact r.mut
theorem RSt.notin (s : RSt g φ H st) {a : Addr} (h : H a = none) : a ∉ φ.rf := fun z => by
  have q := s.mut z
  rw [h] at q
  exact q
theorem RSt.notres (s : RSt g φ H st) {a : Addr} (h : H a = none) : a ∉ φ.rs := fun z => by
  obtain ⟨_, xs, e⟩ := s.res a z
  rw [h] at e
  cases e
theorem RSt.notmut (s : RSt g φ H st) {a : Addr} {o : HO} (h : H a = some o) (n : ¬ Mut (some o)) : a ∉ φ.rf := fun z => by
  have q := s.mut z
  rw [h] at q
  exact n q
/-- what is known of the earlier heap that makes values stay -/
def Tame (φ : Lay) (H : Hp) : Prop := ∀ a, a ∈ φ.rf → Mut (H a)
theorem RSt.tame (s : RSt g φ H st) : Tame φ H := fun _ h => s.mut h
theorem Rd.extW (x : ExtW φ φ' H H') {a : Addr} {o : HO} (n : a ∉ φ.rf) (h : Rd H a o) : Rd H' a o ∧ a ∉ φ'.rf := by
  rcases h with h | ⟨u, h⟩
  · exact ⟨.inl (x.keep _ _ n h).1, (x.keep _ _ n h).2⟩
  · exact ⟨.inr ⟨u, (x.keep _ _ n h).1⟩, (x.keep _ _ n h).2⟩
theorem Rd.notin (t : Tame φ H) {a : Addr} {o : HO} (n : ¬ Mut (some o)) (h : Rd H a o) : a ∉ φ.rf := fun z => by
  have q := t a z
  rcases h with h | ⟨u, h⟩
  · rw [h] at q; exact n q
  · rw [h] at q; exact q
theorem SqT.extW (t : Tame φ H) (x : ExtW φ φ' H H') {a : Addr} {xs : List V} (h : SqT g.K H a xs) : SqT g.K H' a xs := by
  rcases h with h | h
  · exact .inl (Rd.extW x (Rd.notin (o := .tup xs) t (fun z => z) h) h).1
  · exact .inr h
mutual
theorem RV.extW (t : Tame φ H) (x : ExtW φ φ' H H') : ∀ (d : DV) (v : V), RV g φ H d v → RV g φ' H' d v
  | .non, _, h => by simpa [RV] using h
  | .bl _, _, h => by simpa [RV] using h
  | .int _, _, h => by simpa [RV] using h
  | .str _, _, h => by simpa [RV] using h
  | .tup ds, v, h => by
    simp only [RV] at h ⊢
    obtain ⟨a, xs, e, q, r⟩ := h
    exact ⟨a, xs, e, SqT.extW t x q, RVs.extW t x ds xs r⟩
  | .lst ds, v, h => by
    simp only [RV] at h ⊢
    obtain ⟨a, xs, e, ⟨n, n'⟩, q, r⟩ := h
    exact ⟨a, xs, e, ⟨(x.keep _ _ n q).2, x.nrs n' q⟩, (x.keep _ _ n q).1, RVs.extW t x ds xs r⟩
  | .fzl ds, v, h => by
    simp only [RV] at h ⊢
    obtain ⟨a, xs, e, q, r⟩ := h
    refine ⟨a, xs, e, ?_, RVs.extW t x ds xs r⟩
    rcases q with ⟨⟨n, n'⟩, q⟩ | q
    · refine .inl ⟨⟨(Rd.extW x n q).2, ?_⟩, (Rd.extW x n q).1⟩
      rcases q with q | ⟨u, q⟩
      · exact x.nrs n' q
      · exact x.nrs n' q
    · exact .inr q
  | .ref n, v, h => by
    simp only [RV] at h ⊢
    obtain ⟨a, e, q⟩ := h
    exact ⟨a, e, x.get q⟩
  | .glo _, _, h => by simpa [RV] using h
  | .ty _, _, h => by simpa [RV] using h
theorem RVs.extW (t : Tame φ H) (x : ExtW φ φ' H H') : ∀ (ds : List DV) (vs : List V), RVs g φ H ds vs → RVs g φ' H' ds vs
  | [], _, h => by simpa [RVs] using h
  | d :: ds, vs, h => by
    simp only [RVs] at h ⊢
    obtain ⟨y, r, e, q, z⟩ := h
    exact ⟨y, r, e, RV.extW t x d y q, RVs.extW t x ds r z⟩
end
theorem RV.ext (t : Tame φ H) (x : Ext φ φ' H H') (d : DV) (v : V) (h : RV g φ H d v) : RV g φ' H' d v := RV.extW t x.w d v h
theorem RVs.ext (t : Tame φ H) (x : Ext φ φ' H H') (d : List DV) (v : List V) (h : RVs g φ H d v) : RVs g φ' H' d v := RVs.extW t x.w d v h
theorem RKs.ext {κ : Type} (t : Tame φ H) (x : Ext φ φ' H H') : ∀ (ds : List (κ × DV)) (vs : List (κ × V)), RKs g φ H ds vs → RKs g φ' H' ds vs
  | [], _, h => by simpa [RKs] using h
  | d :: ds, vs, h => by
    simp only [RKs] at h ⊢
    obtain ⟨y, r, e, q, z⟩ := h
    exact ⟨y, r, e, RV.ext t x _ y q, RKs.ext t x ds r z⟩
theorem RNs.ext (t : Tame φ H) (x : Ext φ φ' H H') : ∀ (ds : List (DV × DV)) (ts : List (Addr × V)), RNs g φ H ds ts → RNs g φ' H' ds ts
  | [], _, h => by simpa [RNs] using h
  | d :: ds, ts, h => by
    simp only [RNs] at h ⊢
    obtain ⟨y, r, e, k, q1, q2, z⟩ := h
    exact ⟨y, r, e, k, RV.ext t x _ _ q1, RV.ext t x _ _ q2, RNs.ext t x ds r z⟩
theorem RO.ext (t : Tame φ H) (x : Ext φ φ' H H') {a : Addr} {o : DO} {ho : HO} (r : RO g φ H a o ho) : RO g φ' H' a o ho := by
  cases o with
  | lst ds => obtain ⟨xs, e, q⟩ := r; exact ⟨xs, e, RVs.ext t x _ _ q⟩
  | dct kvs => obtain ⟨xs, e, q⟩ := r; exact ⟨xs, e, RKs.ext t x _ _ q⟩
  | ins c fs => obtain ⟨dx, xs, e, q⟩ := r; exact ⟨dx, xs, e, RKs.ext t x _ _ q⟩
  | dcn kvs => obtain ⟨ts, e, q⟩ := r; exact ⟨ts, e, RNs.ext t x _ _ q⟩
theorem RX.ext (t : Tame φ H) (x : Ext φ φ' H H') {e : DX} {c : Value} {d : Option Addr} (r : RX g φ H e c d) : RX g φ' H' e c d := by
  obtain ⟨⟨y, r1, r2⟩, q⟩ := r
  refine ⟨⟨y, RV.ext t x _ _ r1, r2⟩, ?_⟩
  rcases q with q | ⟨dx, ks, e1, e2, e3⟩
  · exact .inl q
  · refine .inr ⟨dx, ks, e1, (x.keep _ _ (fun z => ?_) e2).1, RKs.ext t x _ _ e3⟩
    have q := t dx z
    rw [e2] at q
    exact q
theorem REnv.ext (t : Tame φ H) (x : Ext φ φ' H H') {env : DEnv} {σ : L2.St} (r : REnv g φ H env σ) : REnv g φ' H' env σ :=
  ⟨r.len, fun i d e => let ⟨v, h1, h2⟩ := r.at_ i d e; ⟨v, h1, RV.ext t x _ _ h2⟩⟩
theorem REnv.set {env : DEnv} {σ : L2.St} (r : REnv g φ H env σ) {d : DV} {v : V} (h : RV g φ H d v) (i : Nat) : REnv g φ H (env.set i (some d)) (σ.set i (some v)) := by
  refine ⟨by simp [r.len], fun j d' e => ?_⟩
  by_cases hj : i = j
  · subst hj
    rw [List.getElem?_set] at e ⊢
    by_cases hl : i < env.length
    · have hl' : i < σ.length := by rw [← r.len]; exact hl
      simp only [if_pos, hl] at e
      cases e
      exact ⟨v, by simp [hl'], h⟩
    · simp [hl] at e
  · rw [List.getElem?_set_ne hj] at e
    rw [List.getElem?_set_ne hj]
    exact r.at_ j d' e
theorem REnv.wipe1 {env : DEnv} {σ : L2.St} (r : REnv g φ H env σ) (i : Nat) : REnv g φ H (env.set i none) (σ.set i none) := by
  refine ⟨by simp [r.len], fun j d' e => ?_⟩
  by_cases hj : i = j
  · subst hj
    rw [List.getElem?_set] at e
    split at e
    · split at e <;> cases e
    · rename_i h; exact absurd rfl h
  · rw [List.getElem?_set_ne hj] at e
    rw [List.getElem?_set_ne hj]
    exact r.at_ j d' e
theorem RVs.length : ∀ {ds : List DV} {vs : List V}, RVs g φ H ds vs → ds.length = vs.length
  | [], _, h => by simp only [RVs] at h; subst h; rfl
  | d :: ds, vs, h => by
    simp only [RVs] at h
    obtain ⟨y, r, e, q, z⟩ := h
    subst e
    simp [RVs.length z]
theorem RVs.get : ∀ {ds : List DV} {vs : List V} {i : Nat} {d : DV}, RVs g φ H ds vs → ds[i]? = some d → ∃ v, vs[i]? = some v ∧ RV g φ H d v
  | [], _, _, _, _, e => by simp at e
  | d :: ds, vs, i, d', h, e => by
    simp only [RVs] at h
    obtain ⟨y, r, e1, q, z⟩ := h
    subst e1
    cases i with
    | zero => simp at e; subst e; exact ⟨y, by simp, q⟩
    | succ i => simp at e; simpa using RVs.get z e
theorem RVs.append : ∀ {ds es : List DV} {vs us : List V}, RVs g φ H ds vs → RVs g φ H es us → RVs g φ H (ds ++ es) (vs ++ us)
  | [], _, _, _, h, k => by simp only [RVs] at h; subst h; simpa using k
  | d :: ds, es, vs, us, h, k => by
    simp only [RVs] at h
    obtain ⟨y, r, e1, q, z⟩ := h
    subst e1
    show RVs g φ H (d :: (ds ++ es)) _
    simp only [RVs]
    exact ⟨y, r ++ us, rfl, q, RVs.append z k⟩
theorem RVs.one {d : DV} {v : V} (h : RV g φ H d v) : RVs g φ H [d] [v] := by
  simp only [RVs]
  exact ⟨v, [], rfl, h, rfl⟩
theorem RVs.cons {d : DV} {v : V} {ds : List DV} {vs : List V} (h : RV g φ H d v) (t : RVs g φ H ds vs) : RVs g φ H (d :: ds) (v :: vs) := by
  simp only [RVs]
  exact ⟨v, vs, rfl, h, t⟩
theorem RVs.nil : RVs g φ H [] [] := by simp [RVs]
theorem RVs.of_getAll : ∀ {ds : List DV} {vs : List V}, ds.length = vs.length → (∀ (i : Nat) (d : DV), ds[i]? = some d → ∃ v, vs[i]? = some v ∧ RV g φ H d v) → RVs g φ H ds vs
  | [], [], _, _ => RVs.nil
  | [], _ :: _, h, _ => by simp at h
  | _ :: _, [], h, _ => by simp at h
  | d :: ds, v :: vs, h, k => by
    obtain ⟨u, e, r⟩ := k 0 d rfl
    simp at e
    subst e
    refine RVs.cons r (RVs.of_getAll (by simpa using h) fun i d' e => ?_)
    simpa using k (i + 1) d' (by simpa using e)
theorem RVs.take {ds : List DV} {vs : List V} (n : Nat) (h : RVs g φ H ds vs) : RVs g φ H (ds.take n) (vs.take n) := by
  refine RVs.of_getAll (by simp [h.length]) fun i d e => ?_
  by_cases hi : i < n
  · rw [List.getElem?_take_of_lt hi] at e ⊢
    exact h.get e
  · rw [List.getElem?_take_eq_none (Nat.le_of_not_lt hi)] at e
    cases e
theorem RVs.drop {ds : List DV} {vs : List V} (n : Nat) (h : RVs g φ H ds vs) : RVs g φ H (ds.drop n) (vs.drop n) := by
  refine RVs.of_getAll (by simp [h.length]) fun i d e => ?_
  rw [List.getElem?_drop] at e ⊢
  exact h.get e
theorem RVs.reverse {ds : List DV} {vs : List V} (h : RVs g φ H ds vs) : RVs g φ H ds.reverse vs.reverse := by
  refine RVs.of_getAll (by simp [h.length]) fun i d e => ?_
  have hi : i < ds.length := by
    have q := (List.getElem?_eq_some_iff.mp e).1
    simpa using q
  rw [List.getElem?_reverse hi] at e
  rw [List.getElem?_reverse (by rw [← h.length]; exact hi), ← h.length]
  exact h.get e
theorem RVs.set {ds : List DV} {vs : List V} {d : DV} {v : V} (i : Nat) (h : RVs g φ H ds vs) (r : RV g φ H d v) : RVs g φ H (ds.set i d) (vs.set i v) := by
  refine RVs.of_getAll (by simp [h.length]) fun j d' e => ?_
  by_cases hj : i = j
  · subst hj
    rw [List.getElem?_set] at e ⊢
    have hl := h.length
    by_cases hi : i < ds.length
    · simp [hi] at e
      subst e
      exact ⟨v, by simp [show i < vs.length by omega], r⟩
    · simp [hi] at e
  · rw [List.getElem?_set_ne hj] at e ⊢
    exact h.get e
/-- a new object that is a value -/
theorem Ext.new (s : RSt g φ H st) {p : Addr} {o : HO} (h : H p = none) : Ext φ φ H (upd H p o) :=
  ⟨⟨[], by simp⟩, rfl, fun a u n e => ⟨by rw [upd_ne (ne_of_none e h)]; exact e, n⟩⟩
theorem RSt.ext0 (s : RSt g φ H st) (x : Ext φ φ H H') (k : ∀ a, a ∈ φ.rf → H' a = H a) : RSt g φ H' st :=
  ⟨s.nd, s.len, fun a h => by
    obtain ⟨n, xs, e⟩ := s.res a h
    exact ⟨n, xs, (x.keep _ _ n e).1⟩, fun n a e => by
    obtain ⟨o, ho, e1, e2, r⟩ := s.ob n a e
    exact ⟨o, ho, e1, (k a (List.mem_of_getElem? e)).trans e2, RO.ext s.tame x r⟩⟩
theorem RSt.new (s : RSt g φ H st) {p : Addr} {o : HO} (h : H p = none) : RSt g φ (upd H p o) st :=
  s.ext0 (Ext.new s h) fun a z => upd_ne fun e => s.notin h (e ▸ z)
/-- a new thing -/
abbrev Lay.more (φ : Lay) (p : Addr) : Lay := ⟨φ.rf ++ [p], φ.rs⟩
theorem Ext.newRef (s : RSt g φ H st) {p : Addr} {o : HO} (h : H p = none) : Ext φ (φ.more p) H (upd H p o) :=
  ⟨⟨[p], rfl⟩, rfl, fun a u n e => ⟨by rw [upd_ne (ne_of_none e h)]; exact e, fun z => by
    rcases List.mem_append.mp z with z | z
    · exact n z
    · have z' : a = p := by simpa using z
      rw [z', h] at e
      cases e⟩⟩
theorem RSt.newRef (s : RSt g φ H st) {p : Addr} {o : DO} {ho : HO} (h : H p = none) (r : RO g φ H p o ho) : RSt g (φ.more p) (upd H p ho) (st ++ [o]) := by
  have x := Ext.newRef (o := ho) s h
  refine ⟨?_, by simp [s.len], fun a ha => ?_, fun n a e => ?_⟩
  · refine List.nodup_append.mpr ⟨s.nd, by simp, fun a ha b hb => ?_⟩
    have : b = p := by simpa using hb
    subst this
    exact fun e => s.notin h (e ▸ ha)
  · obtain ⟨n, xs, e⟩ := s.res a ha
    exact ⟨(x.keep _ _ n e).2, xs, (x.keep _ _ n e).1⟩
  · have e : (φ.rf ++ [p])[n]? = some a := e
    by_cases hn : n < φ.rf.length
    · rw [List.getElem?_append_left hn] at e
      obtain ⟨u, hu, e1, e2, r2⟩ := s.ob n a e
      refine ⟨u, hu, ?_, ?_, RO.ext s.tame x r2⟩
      · rw [List.getElem?_append_left (by rw [← s.len]; exact hn)]; exact e1
      · rw [upd_ne (ne_of_none e2 h)]; exact e2
    · have hle := Nat.le_of_not_lt hn
      rw [List.getElem?_append_right hle] at e
      have hz : n - φ.rf.length = 0 := by
        have := (List.getElem?_eq_some_iff.mp e).1
        simp at this
        omega
      rw [hz] at e
      have e' : p = a := by simpa using e
      subst e'
      refine ⟨o, ho, ?_, upd_same, RO.ext s.tame x r⟩
      rw [List.getElem?_append_right (by rw [← s.len]; exact hle), ← s.len, hz]
      rfl
/-- a thing is written -/
theorem Ext.write (s : RSt g φ H st) {n : Nat} {a : Addr} {o : HO} (h : φ.rf[n]? = some a) : Ext φ φ H (upd H a o) :=
  ⟨⟨[], by simp⟩, rfl, fun b u nb e => ⟨by
    rw [upd_ne (a := a) (fun z : b = a => nb (by rw [z]; exact List.mem_of_getElem? h))]; exact e, nb⟩⟩
theorem RSt.write (s : RSt g φ H st) {n : Nat} {a : Addr} {o : DO} {ho : HO} (h : φ.rf[n]? = some a) (r : RO g φ H a o ho) : RSt g φ (upd H a ho) (st.set n o) := by
  have x := Ext.write (o := ho) s h
  refine ⟨s.nd, by simp [s.len], fun a ha => ?_, fun m b e => ?_⟩
  · obtain ⟨n, xs, e⟩ := s.res a ha
    exact ⟨n, xs, (x.keep _ _ n e).1⟩
  by_cases hm : n = m
  · subst hm
    rw [h] at e
    cases e
    refine ⟨o, ho, ?_, upd_same, RO.ext s.tame x r⟩
    have : n < st.length := by rw [← s.len]; exact (List.getElem?_eq_some_iff.mp h).1
    simp [this]
  · obtain ⟨u, hu, e1, e2, r2⟩ := s.ob m b e
    refine ⟨u, hu, by rw [List.getElem?_set_ne hm]; exact e1, ?_, RO.ext s.tame x r2⟩
    rw [upd_ne]
    · exact e2
    · intro z
      subst z
      exact hm (nodupIx s.nd h e)
theorem RSt.get (s : RSt g φ H st) {n : Nat} {o : DO} (h : st[n]? = some o) : ∃ a ho, φ.rf[n]? = some a ∧ H a = some ho ∧ RO g φ H a o ho := by
  have hn : n < φ.rf.length := by rw [s.len]; exact (List.getElem?_eq_some_iff.mp h).1
  obtain ⟨u, hu, e1, e2, r⟩ := s.ob n φ.rf[n] (List.getElem?_eq_getElem hn)
  rw [h] at e1
  cases e1
  exact ⟨_, hu, List.getElem?_eq_getElem hn, e2, r⟩
end
end DM

/-! DM2: results, what is wanted of them, expressions. -/
namespace DM
open PySem PySem.Spec PyProof.Rows L2

inductive Res (α : Type) where
  | ok (a : α) (s : DSt) | exc (e : DX) (s : DSt) | bad
def Res.bind {α β : Type} (r : Res α) (k : α → DSt → Res β) : Res β :=
  match r with
  | .ok a s => k a s
  | .exc e s => .exc e s
  | .bad => .bad
@[simp] theorem Res.bind_ok {α β : Type} (a : α) (s : DSt) (k : α → DSt → Res β) : (Res.ok a s).bind k = k a s := rfl
@[simp] theorem Res.bind_exc {α β : Type} (a : DX) (s : DSt) (k : α → DSt → Res β) : (Res.exc a s).bind k = .exc a s := rfl
@[simp] theorem Res.bind_bad {α β : Type} (k : α → DSt → Res β) : (Res.bad : Res α).bind k = .bad := rfl
/-- a primitive's answer -/
def Res.of {α : Type} : Option (α × DSt) → Res α
  | some (a, s) => .ok a s
  | none => .bad
@[simp] theorem Res.of_some {α : Type} (a : α) (s : DSt) : Res.of (some (a, s)) = .ok a s := rfl
@[simp] theorem Res.of_none {α : Type} : (Res.of none : Res α) = .bad := rfl

abbrev Ex := DEnv → DSt → Res DV
abbrev Exs := DEnv → DSt → Res (List DV)
abbrev Exb := DEnv → DSt → Res Bool
abbrev Rl (α β : Type) := Lay → Hp → α → β → Prop
/-- relations that stay -/
def Rl.Ok {α β : Type} (R : Rl α β) : Prop := ∀ φ φ' H H' a b, Tame φ H → Ext φ φ' H H' → R φ H a b → R φ' H' a b
abbrev EqR {α : Type} : Rl α α := fun _ _ a b => a = b
theorem EqR.ok {α : Type} : Rl.Ok (EqR (α := α)) := fun _ _ _ _ _ _ _ _ h => h
theorem RV.okR (g : Gam) : Rl.Ok (RV g) := fun _ _ _ _ d v t x h => RV.ext t x d v h
theorem RVs.okR (g : Gam) : Rl.Ok (RVs g) := fun _ _ _ _ d v t x h => RVs.ext t x d v h

section
variable (g : Gam)
/-- what is wanted of a result -/
def Post {α β : Type} (R : Rl α β) (W : Value → Option Addr → Hp → Prop) (φ : Lay) (H : Hp) (Q : β → Hp → Prop) : Res α → Prop
  | .ok a st' => ∀ φ' H' b, Ext φ φ' H H' → RSt g φ' H' st' → R φ' H' a b → Q b H'
  | .exc e st' => ∀ φ' H' c d, Ext φ φ' H H' → RSt g φ' H' st' → RX g φ' H' e c d → W c d H'
  | .bad => False
def PostO {α β : Type} (R : Rl α β) (φ : Lay) (H : Hp) (Q : β → Hp → Prop) : Option (α × DSt) → Prop
  | some (a, st') => ∀ φ' H' b, Ext φ φ' H H' → RSt g φ' H' st' → R φ' H' a b → Q b H'
  | none => False
/-- the reading of a machine's expression -/
def TM {α β : Type} (R : Rl α β) (W : WX) (m : DEnv → DSt → Res α) : L2.St → Hp → (β → Hp → Prop) → Prop := fun σ H Q =>
  ∃ φ env st, RSt g φ H st ∧ REnv g φ H env σ ∧ Post g R (fun c d H' => W c d σ H') φ H Q (m env st)
end

section
variable {g : Gam} {W : WX} {σ : L2.St} {H : Hp} {α β γ δ : Type}
theorem Post.mono {R : Rl α β} {W : Value → Option Addr → Hp → Prop} {φ : Lay} {Q Q' : β → Hp → Prop} (h : ∀ b H', Q b H' → Q' b H') : ∀ {r : Res α}, Post g R W φ H Q r → Post g R W φ H Q' r
  | .ok _ _, p => fun φ' H' b x s r => h _ _ (p φ' H' b x s r)
  | .exc _ _, p => p
/-- from a later state -/
theorem Post.later {R : Rl α β} {W : Value → Option Addr → Hp → Prop} {φ φ' : Lay} {H' : Hp} {Q : β → Hp → Prop} (x : Ext φ φ' H H') : ∀ {r : Res α}, Post g R W φ H Q r → Post g R W φ' H' Q r
  | .ok _ _, p => fun φ2 H2 b x2 s r => p φ2 H2 b (x.trans x2) s r
  | .exc _ _, p => fun φ2 H2 c d x2 s r => p φ2 H2 c d (x.trans x2) s r
theorem Post.bind {R : Rl α β} {R' : Rl γ δ} {W : Value → Option Addr → Hp → Prop} {φ : Lay} {Q : δ → Hp → Prop} {Q' : β → Hp → Prop} {r : Res α} {k : α → DSt → Res γ} (p : Post g R' W φ H Q (r.bind k))
    (h : ∀ a st' φ' H' b, Ext φ φ' H H' → RSt g φ' H' st' → R φ' H' a b → Post g R' W φ' H' Q (k a st') → Q' b H') : Post g R W φ H Q' r := by
  cases r with
  | ok a st' => exact fun φ' H' b x s r => h a st' φ' H' b x s r (Post.later x p)
  | exc e st' => exact p
  | bad => exact p
theorem Post.of {R : Rl α β} {W : Value → Option Addr → Hp → Prop} {φ : Lay} {Q : β → Hp → Prop} : ∀ {o : Option (α × DSt)}, Post g R W φ H Q (Res.of o) → PostO g R φ H Q o
  | some (_, _), p => p
  | none, p => p
/-- weaker: PE is turned about in its reading -/
theorem _root_.L2.PE.imp {X : Cx} {e : Expr} {t t' : TE} (h : PE X e t) (i : ∀ σ H Q, t' σ H Q → t σ H Q) : PE X e t' := ⟨fun pins s σ H Q I q => h.run pins s σ H Q I (i σ H Q q)⟩
theorem _root_.L2.PT.imp {X : Cx} {e : Expr} {t t' : TT} (h : PT X e t) (i : ∀ σ H Q, t' σ H Q → t σ H Q) : PT X e t' := ⟨fun pins s σ H Q I q => h.run pins s σ H Q I (i σ H Q q)⟩
theorem _root_.L2.PW.imp {X : Cx} {e : Expr} {t t' : TT} (h : PW X e t) (i : ∀ σ H Q, t' σ H Q → t σ H Q) : PW X e t' := ⟨fun wh pins s σ H Q I q => h.run wh pins s σ H Q I (i σ H Q q)⟩
theorem _root_.L2.PA.imp {X : Cx} {e : List Expr} {t t' : TA} (h : PA X e t) (i : ∀ σ H Q, t' σ H Q → t σ H Q) : PA X e t' := ⟨fun pos pins s σ H Q I q => h.run pos pins s σ H Q I (i σ H Q q)⟩
theorem _root_.L2.PS.imp {X : Cx} {e : Stmt} {t t' : TS} (h : PS X e t) (i : ∀ D σ H, t' D σ H → t D σ H) : PS X e t' := ⟨fun pins s σ H Q I q => h.run pins s σ H Q I (i Q σ H q)⟩
theorem _root_.L2.PSs.imp {X : Cx} {e : List Stmt} {t t' : TS} (h : PSs X e t) (i : ∀ D σ H, t' D σ H → t D σ H) : PSs X e t' := ⟨fun pins s σ H Q I q => h.run pins s σ H Q I (i Q σ H q)⟩
theorem _root_.L2.PG.imp {X : Cx} {e : Expr} {t t' : TG} (h : PG X e t) (i : ∀ v σ H Q, t' v σ H Q → t v σ H Q) : PG X e t' := ⟨fun pins s σ H v u Q I r q => h.run pins s σ H v u Q I r (i v σ H Q q)⟩
end

/-! ### expressions -/
def eVar (i : Nat) : Ex := fun env st =>
  match env[i]? with
  | some (some d) => .ok d st
  | _ => .bad
def eC (d : DV) : Ex := fun _ st => .ok d st
def e1 (p : DV → DSt → Option (DV × DSt)) (a : Ex) : Ex := fun env st => (a env st).bind fun x st1 => Res.of (p x st1)
def e2 (p : DV → DV → DSt → Option (DV × DSt)) (a b : Ex) : Ex := fun env st => (a env st).bind fun x st1 => (b env st1).bind fun y st2 => Res.of (p x y st2)
def eIf (c : Exb) (a b : Ex) : Ex := fun env st => (c env st).bind fun k st1 => if k = true then a env st1 else b env st1
def isB : DV → Option Bool
  | .bl b => some b
  | _ => none
def eAnd (a b : Ex) : Ex := fun env st => (a env st).bind fun x st1 => match x with
  | .bl true => b env st1
  | .bl false => .ok (.bl false) st1
  | _ => .bad
def eOr (a b : Ex) : Ex := fun env st => (a env st).bind fun x st1 => match x with
  | .bl false => b env st1
  | .bl true => .ok (.bl true) st1
  | _ => .bad
def eNot (a : Ex) : Ex := fun env st => (a env st).bind fun x st1 => match x with
  | .bl k => .ok (.bl (!k)) st1
  | _ => .bad
/-- tests -/
def bOf (a : Ex) : Exb := fun env st => (a env st).bind fun x st1 => match x with
  | .bl k => .ok k st1
  | _ => .bad
def bAnd (a b : Exb) : Exb := fun env st => (a env st).bind fun k st1 => if k = true then b env st1 else .ok false st1
def bOr (a b : Exb) : Exb := fun env st => (a env st).bind fun k st1 => if k = true then .ok true st1 else b env st1
def bNot (a : Exb) : Exb := fun env st => (a env st).bind fun k st1 => .ok (!k) st1
def asNil : Exs := fun _ st => .ok [] st
def asCons (a : Ex) (r : Exs) : Exs := fun env st => (a env st).bind fun x st1 => (r env st1).bind fun xs st2 => .ok (x :: xs) st2
/-- a written tuple, list; a list that will change -/
def eTup (r : Exs) : Ex := fun env st => (r env st).bind fun xs st1 => if xs.length ≤ sizeLine then .ok (.tup xs) st1 else .bad
def eLst (r : Exs) : Ex := fun env st => (r env st).bind fun xs st1 => if xs.length ≤ sizeLine then .ok (.lst xs) st1 else .bad
def eLstR (r : Exs) : Ex := fun env st => (r env st).bind fun xs st1 => if xs.length ≤ sizeLine then .ok (.ref st1.length) (st1 ++ [.lst xs]) else .bad

section
variable {X : Cx} {g : Gam} {W : WX} {a b c e : Expr} {es : List Expr} {ma mb mc : Ex} {mr : Exs} {pos : Pos}

theorem TM.here {α β : Type} {R : Rl α β} {m : DEnv → DSt → Res α} {σ : L2.St} {H : Hp} {Q : β → Hp → Prop} {φ : Lay} {env : DEnv} {st : DSt} (s : RSt g φ H st) (n : REnv g φ H env σ) (p : Post g R (fun c d H' => W c d σ H') φ H Q (m env st)) : TM g R W m σ H Q := ⟨φ, env, st, s, n, p⟩
theorem pe_eVar {i : Nat} {x : Str} (h : PE X (.Name x pos) (tVar i)) : PE X (.Name x pos) (TM g (RV g) W (eVar i)) := h.imp fun σ H Q ⟨φ, env, st, s, n, p⟩ => by
  unfold eVar at p
  split at p
  · rename_i d e
    obtain ⟨v, hv, r⟩ := n.at_ i d e
    exact ⟨v, hv, p φ H v Ext.refl s r⟩
  · exact p.elim
theorem pe_eC {v : V} {d : DV} (h : PE X e (tC v)) (r : ∀ φ H, RV g φ H d v) : PE X e (TM g (RV g) W (eC d)) := h.imp fun σ H Q ⟨φ, env, st, s, n, p⟩ => p φ H v Ext.refl s (r φ H)
theorem pe_eInt {i : Int} {j} : PE X (.Constant (.int i) j pos) (TM g (RV g) W (eC (.int i))) := pe_eC pe_int fun _ _ => by simp [RV]
theorem pe_eStr {i : Str} {j} : PE X (.Constant (.str i) j pos) (TM g (RV g) W (eC (.str i))) := pe_eC pe_str fun _ _ => by simp [RV]
theorem pe_eBl {i : Bool} {j} : PE X (.Constant (.bool i) j pos) (TM g (RV g) W (eC (.bl i))) := pe_eC pe_bl fun _ _ => by simp [RV]
theorem pe_eNon {j} : PE X (.Constant .none j pos) (TM g (RV g) W (eC .non)) := pe_eC pe_non fun _ _ => by simp [RV]
/-- a constant of the module -/
theorem pe_eGl {x : Str} {v : V} {d : DV} {u : Value} (hg : Gl X x) (hm : X.mg x = some u) (r : RelV v u) (q : ∀ φ H, RV g φ H d v) (hd : (x == ("__debug__" : Str)) = false := by decide) : PE X (.Name x pos) (TM g (RV g) W (eC d)) := pe_eC (pe_glob hg hm r hd) q

/-- a primitive of two values -/
def Prim2 (g : Gam) (r : R2) (p : DV → DV → DSt → Option (DV × DSt)) : Prop :=
  ∀ φ st H x y dx dy Q, RSt g φ H st → RV g φ H dx x → RV g φ H dy y → PostO g (RV g) φ H Q (p dx dy st) → r x y H Q
def Prim1 (g : Gam) (r : V → Hp → VK → Prop) (p : DV → DSt → Option (DV × DSt)) : Prop :=
  ∀ φ st H x dx Q, RSt g φ H st → RV g φ H dx x → PostO g (RV g) φ H Q (p dx st) → r x H Q
theorem TM.e2 {r : R2} {p : DV → DV → DSt → Option (DV × DSt)} (hp : Prim2 g r p) {σ : L2.St} {H : Hp} {Q : VK} (h : TM g (RV g) W (e2 p ma mb) σ H Q) : tOp r (TM g (RV g) W ma) (TM g (RV g) W mb) σ H Q := by
  obtain ⟨φ, env, st, s, n, h⟩ := h
  refine ⟨φ, env, st, s, n, Post.bind h fun d st1 φ1 H1 x x1 s1 r1 h1 => ?_⟩
  refine ⟨φ1, env, st1, s1, n.ext s.tame x1, Post.bind h1 fun d2 st2 φ2 H2 y x2 s2 r2 h2 => ?_⟩
  exact hp φ2 st2 H2 x y d d2 Q s2 (RV.ext s1.tame x2 _ _ r1) r2 (Post.of h2)
theorem TM.e1 {r : V → Hp → VK → Prop} {p : DV → DSt → Option (DV × DSt)} (hp : Prim1 g r p) {σ : L2.St} {H : Hp} {Q : VK} (h : TM g (RV g) W (e1 p ma) σ H Q) : TM g (RV g) W ma σ H (fun x H1 => r x H1 Q) := by
  obtain ⟨φ, env, st, s, n, h⟩ := h
  refine ⟨φ, env, st, s, n, Post.bind h fun d st1 φ1 H1 x x1 s1 r1 h1 => ?_⟩
  exact hp φ1 st1 H1 x d Q s1 r1 (Post.of h1)
theorem pe_e2 {op : Operator} {r : R2} {p : DV → DV → DSt → Option (DV × DSt)} (ho : OpR X (binaryOp op) r) (hp : Prim2 g r p) (ha : PE X a (TM g (RV g) W ma)) (hb : PE X b (TM g (RV g) W mb)) : PE X (.BinOp a op b pos) (TM g (RV g) W (DM.e2 p ma mb)) :=
  (pe_op ho ha hb).imp fun _ _ _ h => TM.e2 hp h
theorem pe_c2 {op : CmpOp} {r : R2} {p : DV → DV → DSt → Option (DV × DSt)} (ho : OpR X (compareOp op) r) (hp : Prim2 g r p) (hm : behindInMarks op b = false) (ha : PE X a (TM g (RV g) W ma)) (hb : PE X b (TM g (RV g) W mb)) : PE X (.Compare a [op] [b] pos) (TM g (RV g) W (DM.e2 p ma mb)) :=
  (pe_cmpR ho ha hb hm).imp fun _ _ _ h => TM.e2 hp h
theorem pe_u1 {op : UnaryOp} {r : V → Hp → VK → Prop} {p : DV → DSt → Option (DV × DSt)} (ho : UnR X (unaryOp op) r) (hp : Prim1 g r p) (ha : PE X a (TM g (RV g) W ma)) : PE X (.UnaryOp op a pos) (TM g (RV g) W (DM.e1 p ma)) :=
  (pe_un ho ha).imp fun _ _ _ h => TM.e1 hp h
theorem RVbl {φ : Lay} {H : Hp} {x : V} {k : Bool} (h : RV g φ H (.bl k) x) : x = .bl k := by simpa [RV] using h
theorem mkRVbl {φ : Lay} {H : Hp} {k : Bool} : RV g φ H (.bl k) (.bl k) := by simp [RV]
/-- a value's test -/
theorem TM.bOf {σ : L2.St} {H : Hp} {Q : Bool → Hp → Prop} (h : TM g EqR W (bOf ma) σ H Q) : TM g (RV g) W ma σ H (fun x H' => ∃ k, x = .bl k ∧ Q k H') := by
  obtain ⟨φ, env, st, s, n, h⟩ := h
  refine ⟨φ, env, st, s, n, Post.bind h fun d st1 φ1 H1 x x1 s1 r1 h1 => ?_⟩
  cases d <;> try exact False.elim h1
  rename_i k
  exact ⟨k, RVbl r1, h1 φ1 H1 k Ext.refl s1 rfl⟩
theorem pt_bOfC {op : CmpOp} {r : R2} {p : DV → DV → DSt → Option (DV × DSt)} (ho : OpR X (compareOp op) r) (hp : Prim2 g r p) (hm : behindInMarks op b = false) (ha : PE X a (TM g (RV g) W ma)) (hb : PE X b (TM g (RV g) W mb)) : PT X (.Compare a [op] [b] pos) (TM g EqR W (DM.bOf (DM.e2 p ma mb))) :=
  (pt_cmpR ho ha hb hm).imp fun σ H Q h => TM.e2 hp (TM.bOf h)
/-- any expression whose value is a truth, as a test -/
theorem pt_bOf (ha : PE X a (TM g (RV g) W ma)) (he : ∀ whole, isTrue a X.env whole = (do let v ← whole; standAt a.pos; holding [v] (truthy v)) := by intro _; rfl) : PT X a (TM g EqR W (DM.bOf ma)) :=
  (pt_val ha he).imp fun σ H Q h => TM.bOf h
variable {ba bb : Exb} {rest : List Expr}
theorem pt_bNot (ha : PT X a (TM g EqR W ba)) : PT X (.UnaryOp .Not a pos) (TM g EqR W (bNot ba)) :=
  (pt_not ha).imp fun σ H Q ⟨φ, env, st, s, n, h⟩ => ⟨φ, env, st, s, n, Post.bind h fun k st1 φ1 H1 x x1 s1 r1 h1 => by
    cases r1
    exact h1 φ1 H1 _ Ext.refl s1 rfl⟩
theorem pw_bOne (ha : PT X a (TM g EqR W ba)) : PW X (.BoolOp .And [a] pos) (TM g EqR W ba) := pw_and1 ha
theorem pw_bOneO (ha : PT X a (TM g EqR W ba)) : PW X (.BoolOp .Or [a] pos) (TM g EqR W ba) := pw_or1 ha
theorem pw_bAnd (ha : PT X a (TM g EqR W ba)) (hb : PW X (.BoolOp .And (b :: rest) pos) (TM g EqR W bb)) : PW X (.BoolOp .And (a :: b :: rest) pos) (TM g EqR W (bAnd ba bb)) :=
  (pw_and ha hb).imp fun σ H Q ⟨φ, env, st, s, n, h⟩ => ⟨φ, env, st, s, n, Post.bind h fun k st1 φ1 H1 x x1 s1 r1 h1 => by
    cases r1
    cases k with
    | true => exact ⟨φ1, env, st1, s1, n.ext s.tame x1, h1⟩
    | false => exact h1 φ1 H1 _ Ext.refl s1 rfl⟩
theorem pw_bOr (ha : PT X a (TM g EqR W ba)) (hb : PW X (.BoolOp .Or (b :: rest) pos) (TM g EqR W bb)) : PW X (.BoolOp .Or (a :: b :: rest) pos) (TM g EqR W (bOr ba bb)) :=
  (pw_or ha hb).imp fun σ H Q ⟨φ, env, st, s, n, h⟩ => ⟨φ, env, st, s, n, Post.bind h fun k st1 φ1 H1 x x1 s1 r1 h1 => by
    cases r1
    cases k with
    | false => exact ⟨φ1, env, st1, s1, n.ext s.tame x1, h1⟩
    | true => exact h1 φ1 H1 _ Ext.refl s1 rfl⟩
theorem pe_eAnd (ha : PE X a (TM g (RV g) W ma)) (hb : PE X (.BoolOp .And (b :: rest) pos) (TM g (RV g) W mb)) : PE X (.BoolOp .And (a :: b :: rest) pos) (TM g (RV g) W (eAnd ma mb)) :=
  (pe_and ha hb).imp fun σ H Q ⟨φ, env, st, s, n, h⟩ => ⟨φ, env, st, s, n, Post.bind h fun d st1 φ1 H1 x x1 s1 r1 h1 => by
    cases d <;> try exact False.elim h1
    rename_i k
    refine ⟨k, RVbl r1, ?_⟩
    cases k with
    | true => exact ⟨φ1, env, st1, s1, n.ext s.tame x1, h1⟩
    | false => exact h1 φ1 H1 _ Ext.refl s1 mkRVbl⟩
theorem pe_eOr (ha : PE X a (TM g (RV g) W ma)) (hb : PE X (.BoolOp .Or (b :: rest) pos) (TM g (RV g) W mb)) : PE X (.BoolOp .Or (a :: b :: rest) pos) (TM g (RV g) W (eOr ma mb)) :=
  (pe_or ha hb).imp fun σ H Q ⟨φ, env, st, s, n, h⟩ => ⟨φ, env, st, s, n, Post.bind h fun d st1 φ1 H1 x x1 s1 r1 h1 => by
    cases d <;> try exact False.elim h1
    rename_i k
    refine ⟨k, RVbl r1, ?_⟩
    cases k with
    | false => exact ⟨φ1, env, st1, s1, n.ext s.tame x1, h1⟩
    | true => exact h1 φ1 H1 _ Ext.refl s1 mkRVbl⟩
theorem pe_eNot (ha : PE X a (TM g (RV g) W ma)) : PE X (.UnaryOp .Not a pos) (TM g (RV g) W (eNot ma)) :=
  (pe_not ha).imp fun σ H Q ⟨φ, env, st, s, n, h⟩ => ⟨φ, env, st, s, n, Post.bind h fun d st1 φ1 H1 x x1 s1 r1 h1 => by
    cases d <;> try exact False.elim h1
    rename_i k
    exact ⟨k, RVbl r1, h1 φ1 H1 _ Ext.refl s1 mkRVbl⟩⟩
theorem pe_eIf (hc : PT X c (TM g EqR W ba)) (ha : PE X a (TM g (RV g) W ma)) (hb : PE X b (TM g (RV g) W mb)) : PE X (.IfExp c a b pos) (TM g (RV g) W (eIf ba ma mb)) :=
  (pe_ifExp hc ha hb).imp fun σ H Q ⟨φ, env, st, s, n, h⟩ => ⟨φ, env, st, s, n, Post.bind h fun k st1 φ1 H1 x x1 s1 r1 h1 => by
    cases r1
    cases k with
    | false => exact ⟨φ1, env, st1, s1, n.ext s.tame x1, h1⟩
    | true => exact ⟨φ1, env, st1, s1, n.ext s.tame x1, h1⟩⟩
theorem pa_asNil : PA X [] (TM g (RVs g) W asNil) := pa_nil.imp fun σ H Q ⟨φ, env, st, s, n, h⟩ => h φ H [] Ext.refl s RVs.nil
theorem pa_asCons (ha : PE X a (TM g (RV g) W ma)) (hr : PA X es (TM g (RVs g) W mr)) (hs : starEach (a :: es) X.env = (false, eval a X.env) :: starEach es X.env := by rfl) : PA X (a :: es) (TM g (RVs g) W (asCons ma mr)) :=
  (pa_cons ha hr hs).imp fun σ H Q ⟨φ, env, st, s, n, h⟩ => ⟨φ, env, st, s, n, Post.bind h fun d st1 φ1 H1 x x1 s1 r1 h1 =>
    ⟨φ1, env, st1, s1, n.ext s.tame x1, Post.bind h1 fun ds st2 φ2 H2 xs x2 s2 r2 h2 => h2 φ2 H2 _ Ext.refl s2 (RVs.cons (RV.ext s1.tame x2 _ _ r1) r2)⟩⟩
/-- a new tuple, list, thing -/
theorem new_tup {φ : Lay} {H : Hp} {st : DSt} {Q : VK} {ds : List DV} {xs : List V} (s : RSt g φ H st) (r : RVs g φ H ds xs) (h : PostO g (RV g) φ H Q (some (.tup ds, st))) (p : Addr) (hp : H p = none) : Q (.ref p) (upd H p (.tup xs)) := by
  refine h φ _ _ (Ext.new s hp) (s.new hp) ?_
  simp only [RV]
  exact ⟨p, xs, rfl, SqT.of upd_same, RVs.ext s.tame (Ext.new s hp) _ _ r⟩
theorem new_lst {φ : Lay} {H : Hp} {st : DSt} {Q : VK} {ds : List DV} {xs : List V} (s : RSt g φ H st) (r : RVs g φ H ds xs) (h : PostO g (RV g) φ H Q (some (.lst ds, st))) (p : Addr) (hp : H p = none) : Q (.ref p) (upd H p (.lst xs)) := by
  refine h φ _ _ (Ext.new s hp) (s.new hp) ?_
  simp only [RV]
  exact ⟨p, xs, rfl, ⟨s.notin hp, s.notres hp⟩, upd_same, RVs.ext s.tame (Ext.new s hp) _ _ r⟩
theorem new_ref {φ : Lay} {H : Hp} {st : DSt} {Q : VK} {o : DO} {ho : HO} (s : RSt g φ H st) (r : ∀ p, RO g φ H p o ho) (h : PostO g (RV g) φ H Q (some (.ref st.length, st ++ [o]))) (p : Addr) (hp : H p = none) : Q (.ref p) (upd H p ho) := by
  refine h (φ.more p) _ _ (Ext.newRef s hp) (s.newRef hp (r p)) ?_
  simp only [RV]
  refine ⟨p, rfl, ?_⟩
  rw [← s.len]
  simp
theorem pe_eTup {x1} (h : PA X es (TM g (RVs g) W mr)) : PE X (.Tuple es x1 pos) (TM g (RV g) W (eTup mr)) :=
  (pe_tup h).imp fun σ H Q ⟨φ, env, st, s, n, h⟩ => ⟨φ, env, st, s, n, Post.bind h fun ds st1 φ1 H1 xs x1 s1 r1 h1 => by
    split at h1
    · rename_i hl
      exact ⟨by rw [← r1.length]; exact hl, new_tup s1 r1 h1⟩
    · exact h1.elim⟩
theorem pe_eLst (h : PA X es (TM g (RVs g) W mr)) : PE X (.List es pos) (TM g (RV g) W (eLst mr)) :=
  (pe_lst h).imp fun σ H Q ⟨φ, env, st, s, n, h⟩ => ⟨φ, env, st, s, n, Post.bind h fun ds st1 φ1 H1 xs x1 s1 r1 h1 => by
    split at h1
    · rename_i hl
      exact ⟨by rw [← r1.length]; exact hl, new_lst s1 r1 h1⟩
    · exact h1.elim⟩
theorem pe_eLstR (h : PA X es (TM g (RVs g) W mr)) : PE X (.List es pos) (TM g (RV g) W (eLstR mr)) :=
  (pe_lst h).imp fun σ H Q ⟨φ, env, st, s, n, h⟩ => ⟨φ, env, st, s, n, Post.bind h fun ds st1 φ1 H1 xs x1 s1 r1 h1 => by
    split at h1
    · rename_i hl
      exact ⟨by rw [← r1.length]; exact hl, new_ref (o := .lst ds) s1 (fun _ => ⟨xs, rfl, r1⟩) h1⟩
    · exact h1.elim⟩
end
end DM

/-! DM3: defs of the text by their machine's function; calls. -/
namespace DM
open PySem PySem.Spec PyProof.Rows L2

abbrev Fn := List DV → DSt → Res DV
/-- the promise that a machine's function makes -/
def spD (g : Gam) (n : Nat) (f : Fn) : Sp := fun vs H Q E => vs.length = n ∧ ∃ φ ds st, RSt g φ H st ∧ RVs g φ H ds vs ∧ Post g (RV g) (fun c d H' => E c d H') φ H Q (f ds st)

/-- as FnOk, where nothing is being shown or compared around -/
structure FnG (P : Program) (w : World) (K : PySem.W.Frag) (mg : Str → Option Value) (base : Heap) (k : Nat) (f : Addr) (fd : FuncData) (ps : List Str) (sp : Sp) : Prop where
  len : ∀ vs H Q E, sp vs H Q E → vs.length = ps.length
  run : ∀ (A : Around) (outer : List Env) (s : Shared) (H : Hp) (args : Args) (us : List Value) (vs : List V) (Q : VK) (E : XK), Room k A → A.guards = some [] →
    Env0 P w K mg base A outer s H → BindsTo s fd args (ps.zip us) → Vals vs us → sp vs H Q E → codeAny (model P w) A (.call (.ref f) args) (CR (L2.CX P w) outer P w H s Q E) s
theorem FnG.mono {P : Program} {w : World} {K : PySem.W.Frag} {mg : Str → Option Value} {base : Heap} {j k : Nat} {f : Addr} {fd : FuncData} {ps : List Str} {sp : Sp} (F : FnG P w K mg base j f fd ps sp) (h : j ≤ k) : FnG P w K mg base k f fd ps sp :=
  ⟨F.len, fun A outer s H args us vs Q E hr => F.run A outer s H args us vs Q E (hr.mono h)⟩

section
variable {P : Program} {w : World} {K : PySem.W.Frag} {mg : Str → Option Value} {base : Heap}
/-- a def of the text keeps its promise by its body -/
theorem fnG_of {k : Nat} {f : Addr} {name qual : Str} {params : Arguments} {body : List Stmt} {scope : Scope} {dV kV doc pm cdv ct oc : Value} {an od : Option Addr} {osl : Array (Option Value)} {N ps : List Str} {sp : Sp}
    (lk : K.lookup f = some ⟨oc, od, .func (PySem.W.fnOf name qual params body scope dV kV doc pm an cdv ct), osl⟩) (hcd : PySem.W.codeIn K cdv qual = true) (S : FnScope N ps scope) (len : ∀ vs H Q E, sp vs H Q E → vs.length = ps.length)
    (hbody : ∀ (A : Around) (outer : List Env) (s : Shared) (H : Hp) (vs : List V) (Q : VK) (E : XK), Room k (A.deeper (envOfC qual scope s.heap.objs.size f cdv)) → A.guards = some [] → sp vs H Q E →
      ∃ t, PSs (cxOf (L2.CX P w) P w K mg base N qual scope f cdv A outer s H E) body t ∧ t { nx := fun _ H' => Q .non H', rt := Q } (start N vs) H) :
    FnG P w K mg base (k + 1) f (PySem.W.fnOf name qual params body scope dV kV doc pm an cdv ct) ps sp := by
  constructor
  · exact len
  intro A outer s H args us vs Q E room hG here binds rel prom
  have nvs := len _ _ _ _ prom
  have kin : K.In s.heap := here.mod.kin.keeps fun b o e => (here.bs b o e).1
  have kinds : ∀ y ∈ ps.zip us, scope.names.lookup y.1 = some .local ∨ (scope.names.lookup y.1 = some .cell ∧ ((cellsFrom (s.heap.objs.size + 1) scope.names []).lookup y.1).isSome = true) := by
    rintro ⟨n, v⟩ hy
    cases S.par n (List.of_mem_zip hy).1 with
    | inl q => exact Or.inl q
    | inr q => exact Or.inr ⟨q, PySem.W.cellsFrom_some _ _ _ (Or.inl q)⟩
  refine codeAny_call_function room.depth (kin _ _ lk) rfl S.co S.gen rfl (PySem.W.codeRec_of kin hcd) (binds _ _ _ _ ?_)
  refine wpAny_newFunctionEnv_cells S.kind kinds ?_
  rintro env rfl s1 made
  constructor
  · exact (here.mod.nolimit.keeps fun b o e => (here.bs b o e).1).keeps made.toInCall.keep
  refine codeAny_func ?_
  obtain ⟨t, judged, read⟩ := hbody A outer s H vs Q E (room.deeper _) hG prom
  have begun : Inv (cxOf (L2.CX P w) P w K mg base N qual scope f cdv A outer s H E) [] (start N vs) H s1 := inv_start S room.hd here nvs rel made
  refine wpAny_mono (judged.run [] s1 (start N vs) H _ begun read) ?_ (fun _ _ z => z)
  intro fl s' ends
  have told : ∀ {σ' : L2.St} {H' : Hp} {v : V} {u : Value}, Inv (cxOf (L2.CX P w) P w K mg base N qual scope f cdv A outer s H E) [] σ' H' s' → RelV v u → Q v H' → CE outer P w H s Q u s' :=
    fun {_ H' v _} J rv q => ⟨v, H', J.os, J.bare, J.base, J.hok, rv, q⟩
  cases fl with
  | next => obtain ⟨_, _, J, q⟩ := ends; exact told (v := V.non) (u := Value.none) J rfl q
  | ret u => obtain ⟨_, _, _, J, rv, q⟩ := ends; exact told J rv q
  | brk => obtain ⟨_, _, _, q⟩ := ends; exact q.elim
  | cont => obtain ⟨_, _, _, q⟩ := ends; exact q.elim
/-- with the words of FunD -/
theorem FunD.okG {x qual : Str} {params : Arguments} {body : List Stmt} {scope : Scope} {dvs : List V} {kws : List (Str × V)} {f : Addr} {fd : FuncData} {N ps : List Str} {k n : Nat} {g : Gam} {m : Fn}
    (F : FunD K x qual params body scope dvs kws f fd) (S : FnScope N ps scope) (hn : n = ps.length)
    (hbody : ∀ (cdv : Value) (A : Around) (outer : List Env) (s : Shared) (H : Hp) (E : XK), Room k (A.deeper (envOfC qual scope s.heap.objs.size f cdv)) → A.guards = some [] →
      ∃ t, PSs (cxOf (L2.CX P w) P w K mg base N qual scope f cdv A outer s H E) body t ∧ ∀ vs Q, spD g n m vs H Q E → t { nx := fun _ H' => Q .non H', rt := Q } (start N vs) H) : FnG P w K mg base (k + 1) f fd ps (spD g n m) := by
  obtain ⟨oc, od, dV, kV, doc, pm, an, cdv, ct, osl, e, lk, hcd, _, _⟩ := F.ex
  subst e
  refine fnG_of lk hcd S (fun vs H Q E q => q.1.trans hn) fun A outer s H vs Q E room hG prom => ?_
  obtain ⟨t, h1, h2⟩ := hbody cdv A outer s H E room hG
  exact ⟨t, h1, h2 vs Q prom⟩
end

/-! ### the law's own call -/
section
variable {P : Program} {w : World} {K : PySem.W.Frag} {mg mb : Str → Option Value} {k : Nat} {fa a : Addr} {fd : FuncData} {x : Str} {sp : Sp} {s₁ : Shared} {vs : List Value} {ns : List Int}
theorem law_from {H : Hp} (KX : K.In s₁.heap) (hns : s₁.heap.Ns mainGlobals mg) (hb : s₁.heap.Ns builtinsNs mb) (hbb : ∀ x : Str, x ≠ "__name__" → mb x = bootBuiltins x) (hlim : s₁.heap.NoLimit) (hg : s₁.gens = #[])
    (ha : s₁.heap.get? a = some { cls := .type "list", data := .seq vs.toArray }) (hr : Room k callerA)
    (F : ∀ base : Heap, K.In base → base.Ns mainGlobals mg → FnG P w K mg base k fa fd [x] sp) (hbind : ∀ (s : Shared) (u : Value), BindsTo s fd ⟨[u], []⟩ [(x, u)])
    (hsp : sp [.ref a] H (fun v _ => v = .bl true) fun _ _ _ => False) (only : Only H) (holds : HOk P w H s₁.heap) (one : ∀ b, H b ≠ none → b = a) (off : H a ≠ none → K.lookup a = none) :
    codeAny (model P w) callerA (.call (.ref fa) ⟨[.ref a], []⟩) (fun r s' => r = .ok (.ret (.bool true)) ∧ OldK s₁.heap s'.heap ∧ s'.os = s₁.os ∧ AllBare s'.gens) s₁ := by
  have free : ∀ {b : Addr} {o : Obj}, s₁.heap.get? b = some o → (∀ n, o.data ≠ .seq vs.toArray n) → H b = none := by
    intro b o e d
    cases q : H b with
    | none => rfl
    | some u =>
      have z := one b (by rw [q]; exact Option.some_ne_none _)
      rw [z, ha] at e
      cases e
      exact absurd rfl (d _)
  have ns : ∀ {b : Addr} {m : Str → Option Value}, s₁.heap.Ns b m → (hidT s₁.heap H).Ns b m := by
    rintro b m ⟨o, es, ep, e, d, r⟩
    exact ⟨o, es, ep, hidT_get e (free e fun n z => by rw [d] at z; cases z), d, r⟩
  have kb : K.In (hidT s₁.heap H) := by
    intro b o e
    refine hidT_get (KX b o e) ?_
    cases q : H b with
    | none => rfl
    | some u =>
      have nn : H b ≠ none := by rw [q]; exact Option.some_ne_none _
      have z := one b nn
      subst z
      rw [off nn] at e
      cases e
  have mod : Mod K mg (hidT s₁.heap H) := by
    obtain ⟨mc, l1, l2⟩ := hlim
    exact ⟨kb, ns hns, ⟨mb, ns hb, hbb⟩, ⟨mc, ns l1, l2⟩⟩
  have env : Env0 P w K mg (hidT s₁.heap H) callerA [] s₁ H :=
    { frames := rfl, mod := mod, bs := fun b o e => of_hidT e, bsz := Nat.le_of_eq (hidT_size _ _), funs := trivial, frf := fun b z => absurd (show b ∈ ([] : List Addr) from z) (by simp), hok := holds, bare := .of_eq hg }
  refine codeAny_mono ((F _ kb (ns hns)).run callerA [] s₁ H ⟨[.ref a], []⟩ [.ref a] [.ref a] _ _ hr rfl env (hbind s₁ (.ref a)) (.cons rfl .nil) hsp) ?_
  intro r s' h
  match r, h with
  | .error e, h =>
    obtain ⟨_, _, _, _, _, _, _, _, _, _, _, _, no⟩ := h
    exact no.elim
  | .ok (.ret u), h =>
    obtain ⟨v, H', os, bare, un, holds', r', q⟩ := h
    obtain rfl : v = .bl true := q
    obtain rfl : u = Value.bool true := r'
    refine ⟨rfl, OldK.of_keep ?_, os, bare⟩
    intro b o e
    cases q : H b with
    | none => exact un.keep b o e q (fun z => absurd (show b ∈ ([] : List Addr) from z) (by simp)) (by simp)
    | some u =>
      cases only b with
      | inl z => rw [q] at z; cases z
      | inr z =>
        obtain ⟨ob', xs, z⟩ := z
        have was := (holds b _ z).1
        rw [e] at was
        cases was
        exact (holds' b _ (un.frzs b _ _ z)).1
theorem law_callG (KX : K.In s₁.heap) (hns : s₁.heap.Ns mainGlobals mg) (hb : s₁.heap.Ns builtinsNs mb) (hbb : ∀ x : Str, x ≠ "__name__" → mb x = bootBuiltins x) (hlim : s₁.heap.NoLimit) (hg : s₁.gens = #[])
    (ha : s₁.heap.get? a = some { cls := .type "list", data := .seq vs.toArray }) (hi : IntsAre vs ns) (hl : ns.length ≤ sizeLine) (hr : Room k callerA)
    (F : ∀ base : Heap, K.In base → base.Ns mainGlobals mg → FnG P w K mg base k fa fd [x] sp) (hbind : ∀ (s : Shared) (u : Value), BindsTo s fd ⟨[u], []⟩ [(x, u)])
    (hsp : ∀ H : Hp, Only H → SqL K H a (ns.map V.int) → sp [.ref a] H (fun v _ => v = .bl true) fun _ _ _ => False) :
    codeAny (model P w) callerA (.call (.ref fa) ⟨[.ref a], []⟩) (fun r s' => r = .ok (.ret (.bool true)) ∧ OldK s₁.heap s'.heap ∧ s'.os = s₁.os ∧ AllBare s'.gens) s₁ := by
  have rv := vals_ints hi
  have n1 := hi.length
  by_cases hk : ∃ o, K.lookup a = some o
  · obtain ⟨o, hk⟩ := hk
    have same := KX a o hk
    rw [ha] at same
    cases same
    have only : Only (fun _ => none) := fun _ => Or.inl rfl
    have seen : SqL K (fun _ => none) a (ns.map V.int) := Or.inr ⟨_, vs.toArray, _, hk, rfl, rfl, rfl, by rw [List.size_toArray, n1]; exact hl, by simpa using rv⟩
    exact law_from KX hns hb hbb hlim hg ha hr F hbind (hsp _ only seen) only (fun b u z => by cases z) (fun b z => absurd rfl z) fun z => absurd rfl z
  · have hk' : K.lookup a = none := by
      cases q : K.lookup a with
      | none => rfl
      | some o => exact absurd ⟨o, q⟩ hk
    let u : HO := .frz { cls := .type "list", data := .seq vs.toArray } (.lst (ns.map V.int))
    have at_ : upd (fun _ => none) a u a = some u := upd_same
    have else_ : ∀ b, b ≠ a → upd (fun _ => none) a u b = none := fun b n => upd_ne n
    have only : Only (upd (fun _ => none) a u) := fun b => by
      by_cases e : b = a
      · subst e; exact Or.inr ⟨_, _, at_⟩
      · exact Or.inl (else_ b e)
    refine law_from KX hns hb hbb hlim hg ha hr F hbind (hsp _ only (Or.inl (Or.inr ⟨_, at_⟩))) only (fun b v z => ?_) (fun b z => ?_) fun _ => hk'
    · by_cases e : b = a
      · subst e
        rw [at_] at z
        cases z
        exact ⟨ha, by rw [List.length_map]; exact hl, vs, _, rv, ha⟩
      · rw [else_ b e] at z; cases z
    · by_cases e : b = a
      · exact e
      · exact absurd (else_ b e) z
end
theorem RVs.ints {g : Gam} {φ : Lay} {H : Hp} : ∀ ns : List Int, RVs g φ H (ns.map .int) (ns.map V.int)
  | [] => RVs.nil
  | n :: ns => RVs.cons (by simp [RV]) (RVs.ints ns)
/-- the end of a law: F from the head's facts, the machine's law holds at each script -/
theorem walk_ofG {l : PySem.W.OpenLaw} {n k : Nat} {q : Program} {loose : List Str} {XP : (Str → Option Value) → Heap → Prop} {YP : World → Heap → Prop} {d : DefRec} {K : Params → PySem.W.Frag} {x : Str} {m : Fn}
    (hn : l.most = some n) (hn2 : n ≤ sizeLine) (hdf : d.params.defaults = []) (hr : Room k callerA) (hY : ∀ (w : World) (h : Heap), YP w h → (K w.params).In h)
    (F : ∀ (w : World) (mg : Str → Option Value) (fa : Addr) (h : Heap), (K w.params).In h → h.Ns mainGlobals mg → mg d.name = some (.ref fa) →
      ∃ (fd : FuncData) (g : Gam), g.K = K w.params ∧ (∀ (s : Shared) (u : Value), BindsTo s fd ⟨[u], []⟩ [(x, u)]) ∧ ∀ base : Heap, (K w.params).In base → base.Ns mainGlobals mg → FnG l.prog w (K w.params) mg base k fa fd [x] (spD g 1 m))
    (hm : ∀ ns : List Int, ns.length ≤ n → ∃ st, m [.fzl (ns.map .int)] [] = .ok (.bl true) st) :
    PySem.W.WalkO q loose XP YP l.row.toRowW d [] (fun f vs => PySem.call f vs) := by
  refine Att.attach_call hn hdf fun w s₀ s₁ mg mb fa o pm cd doc a vs ns G Y ho hd hcd hmg hobj hints hlen hg => ?_
  have KX := hY w _ Y
  obtain ⟨fd, g, hgK, hb, hF⟩ := F w mg fa _ KX G.T.g hmg
  refine law_callG KX G.T.g G.T.b G.T.builtins G.T.nolimit hg hobj hints (Nat.le_trans hlen hn2) hr hF hb fun H only seen => ⟨rfl, ⟨[], []⟩, [.fzl (ns.map .int)], [], ?_, ?_, ?_⟩
  · exact ⟨by simp, rfl, fun a h => by simp at h, fun n a e => by simp at e⟩
  · refine RVs.one ?_
    simp only [RV]
    refine ⟨a, ns.map V.int, rfl, ?_, RVs.ints ns⟩
    rcases seen with z | z
    · exact .inl ⟨⟨by simp, by simp⟩, z⟩
    · exact .inr fun H' => .inr (by rw [hgK]; exact z)
  · obtain ⟨st, e⟩ := hm ns hlen
    rw [e]
    intro φ' H' b _ _ r
    simpa [RV] using r

/-! ### calls -/
section
variable {X : Cx} {g : Gam} {W : WX} {k n : Nat} {f : Addr} {fd : FuncData} {ps ks : List Str} {m : Fn} {gv : List Value → List Value → List Value} {gV : List V → List V → List V} {gD : List DV → List DV → List DV}
/-- the machine's values are put in the parameters' order as the values are -/
def Puts (g : Gam) (gD : List DV → List DV → List DV) (gV : List V → List V → List V) : Prop := ∀ φ H ds zs vs us, RVs g φ H ds vs → RVs g φ H zs us → RVs g φ H (gD ds zs) (gV vs us)
theorem runG {pins : List (Addr × Obj)} {σ : L2.St} {H : Hp} {s : Shared} {Q : VK} {us ws : List Value} {vs zs : List V} (F : FnG X.prog X.w X.K X.mg X.base k f fd ps (spD g ps.length m)) (hr : Room k X.A) (hG : X.A.guards = some []) (hb : KBn X.K fd ps n ks gv gV)
    (tk : Takes X W) (I : Inv X pins σ H s) (r : Vals vs us) (rz : Vals zs ws) (hn : vs.length = n) (hk : zs.length = ks.length) (h : spD g ps.length m (gV vs zs) H Q (fun c d H' => W c d σ H')) :
    wpAny (model X.prog X.w) X.A (call (.ref f) us (ks.zip ws)) (EP X pins σ Q) X.xe s := by
  refine wpAny_call (codeAny_mono (F.run X.A X.stack s H ⟨us, ks.zip ws⟩ (gv us ws) (gV vs zs) Q _ hr hG I.env0 (hb.to s us ws I.kIn (r.length.symm.trans hn) (rz.length.symm.trans hk)) (hb.rel r rz) h) ?_)
  intro res s' got
  match res, got with
  | .error e, got => exact tk e s' (XE.of_call I (fun _ _ _ z => z) got)
  | .ok (.ret u), got => exact I.after got
/-- f(e, .., k = v, ..) -/
def eCall (m : Fn) (gD : List DV → List DV → List DV) (n nk : Nat) (a kw : Exs) : Ex := fun env st => (a env st).bind fun ds st1 => (kw env st1).bind fun zs st2 => if ds.length = n ∧ zs.length = nk then m (gD ds zs) st2 else .bad
theorem TM.call {ma mk : Exs} {σ : L2.St} {H : Hp} {Q : VK} {np : Nat} {W : WX} (hp : Puts g gD gV) (hg : ∀ vs us, vs.length = n → us.length = ks.length → (gV vs us).length = np) (h : TM g (RV g) W (eCall m gD n ks.length ma mk) σ H Q) :
    TM g (RVs g) W ma σ H fun vs H1 => TM g (RVs g) W mk σ H1 fun zs H2 => vs.length = n ∧ zs.length = ks.length ∧ spD g np m (gV vs zs) H2 Q (fun c d H' => W c d σ H') := by
  obtain ⟨φ, env, st, s, e, h⟩ := h
  refine ⟨φ, env, st, s, e, Post.bind h fun ds st1 φ1 H1 vs x1 s1 r1 h1 => ?_⟩
  refine ⟨φ1, env, st1, s1, e.ext s.tame x1, Post.bind h1 fun zs st2 φ2 H2 us x2 s2 r2 h2 => ?_⟩
  split at h2
  · rename_i hl
    have q1 : vs.length = n := by rw [← r1.length]; exact hl.1
    have q2 : us.length = ks.length := by rw [← r2.length]; exact hl.2
    exact ⟨q1, q2, hg _ _ q1 q2, φ2, gD ds zs, st2, s2, hp _ _ _ _ _ _ (RVs.ext s1.tame x2 _ _ r1) r2, h2⟩
  · exact h2.elim
variable {x : Str} {p pos : Pos} {e : Expr} {es : List Expr} {kws : List Keyword} {ma mk : Exs}
theorem pe_eCall (F : FnG X.prog X.w X.K X.mg X.base k f fd ps (spD g ps.length m)) (hr : Room k X.A) (hG : X.A.guards = some []) (hg : Gl X x) (hm : X.mg x = some (.ref f)) (hk : PySem.W.keepIn X.K (.ref f) = true) (hb : KBn X.K fd ps n ks gv gV) (hp : Puts g gD gV)
    (hl : ∀ vs us, vs.length = n → us.length = ks.length → (gV vs us).length = ps.length) (tk : Takes X W)
    (ha : PA X (e :: es) (TM g (RVs g) W ma)) (hkw : PK X kws (TM g (RVs g) W mk)) (hall : (backToKw pos (keywordEach kws X.env)).all (·.1.isSome) = true := by rfl) (hks : (backToKw pos (keywordEach kws X.env)).filterMap (·.1) = ks := by rfl)
    (hdb : (x == ("__debug__" : Str)) = false := by decide) (he : starEach (e :: es) X.env = (false, eval e X.env) :: starEach es X.env := by rfl)
    (hpl : ((backTo pos (starEach (e :: es) X.env)).any (·.1) || (backToKw pos (keywordEach kws X.env)).any (·.1.isNone)) = false := by rfl) :
    PE X (.Call (.Name x p) (e :: es) kws pos) (TM g (RV g) W (eCall m gD n ks.length ma mk)) := by
  constructor
  intro pins s σ H Q I h
  refine wpAny_Call_Name_kw (ld_glob I hg hm ?_ hdb)
  refine PySem.W.callWith_KW (h₀ := X.base) I.ok.mod.kin hk hall (thn (ha.run pos pins s σ H _ I (TM.call hp hl h)) ?_) hpl he
  rintro us s1 ⟨vs, H1, I1, r, q⟩
  refine thn (hkw.run pos pins s1 σ H1 _ I1 q) ?_
  rintro ws s2 ⟨zs, H2, I2, rz, q1, q2, q3⟩
  refine ⟨I2.kIn, ?_⟩
  rw [hks]
  exact runG F hr hG hb tk I2 r rz q1 q2 q3
/-- f(k = v, ..), f() -/
theorem pe_eCall0 (F : FnG X.prog X.w X.K X.mg X.base k f fd ps (spD g ps.length m)) (hr : Room k X.A) (hG : X.A.guards = some []) (hg : Gl X x) (hm : X.mg x = some (.ref f)) (hk : PySem.W.keepIn X.K (.ref f) = true) (hb : KBn X.K fd ps 0 ks gv gV) (hp : Puts g gD gV)
    (hl : ∀ vs us, vs.length = 0 → us.length = ks.length → (gV vs us).length = ps.length) (tk : Takes X W)
    (hkw : PK X kws (TM g (RVs g) W mk)) (hall : (backToKw pos (keywordEach kws X.env)).all (·.1.isSome) = true := by rfl) (hks : (backToKw pos (keywordEach kws X.env)).filterMap (·.1) = ks := by rfl)
    (hdb : (x == ("__debug__" : Str)) = false := by decide) (hpl : ((backTo pos (starEach [] X.env)).any (·.1) || (backToKw pos (keywordEach kws X.env)).any (·.1.isNone)) = false := by rfl) :
    PE X (.Call (.Name x p) [] kws pos) (TM g (RV g) W (eCall m gD 0 ks.length asNil mk)) := by
  constructor
  intro pins s σ H Q I h
  have h' := TM.call hp hl h
  have h2 : TM g (RVs g) W mk σ H fun zs H2 => ([] : List V).length = 0 ∧ zs.length = ks.length ∧ spD g ps.length m (gV [] zs) H2 Q (fun c d H' => W c d σ H') := by
    obtain ⟨φ, env, st, s0, e0, h3⟩ := h'
    exact h3 φ H [] Ext.refl s0 RVs.nil
  refine wpAny_Call_Name_kw (ld_glob I hg hm ?_ hdb)
  refine PySem.W.callWith_KW0 (h₀ := X.base) I.ok.mod.kin hk hall (thn (hkw.run pos pins s σ H _ I h2) ?_) hpl
  rintro ws s2 ⟨zs, H2, I2, rz, q1, q2, q3⟩
  refine ⟨I2.kIn, ?_⟩
  rw [hks]
  exact runG (us := []) (vs := []) F hr hG hb tk I2 .nil rz rfl q2 q3
theorem pk_asNil : PK X [] (TM g (RVs g) W asNil) := ⟨fun pos pins s σ H Q I ⟨φ, env, st, s0, n0, h⟩ => pk_nil.run pos pins s σ H Q I (h φ H [] Ext.refl s0 RVs.nil)⟩
theorem pk_asCons {nm : Option Str} {kpos : Pos} {ma : Ex} {mr : Exs} (ha : PE X e (TM g (RV g) W ma)) (hr : PK X kws (TM g (RVs g) W mr)) : PK X (⟨nm, e, kpos⟩ :: kws) (TM g (RVs g) W (asCons ma mr)) :=
  ⟨fun pos pins s σ H Q I ⟨φ, env, st, s0, n0, h⟩ => (pk_cons ha hr).run pos pins s σ H Q I ⟨φ, env, st, s0, n0, Post.bind h fun d st1 φ1 H1 x x1 s1 r1 h1 =>
    ⟨φ1, env, st1, s1, n0.ext s0.tame x1, Post.bind h1 fun ds st2 φ2 H2 xs x2 s2 r2 h2 => h2 φ2 H2 _ Ext.refl s2 (RVs.cons (RV.ext s1.tame x2 _ _ r1) r2)⟩⟩⟩
end
end DM

/-! DM4: statements, targets, loops, comprehensions. -/
namespace DM
open PySem PySem.Spec PyProof.Rows L2

inductive FL where
  | nx | rt (d : DV) | bk | ct
inductive SR where
  | ok (f : FL) (env : DEnv) (st : DSt) | exc (e : DX) (env : DEnv) (st : DSt) | bad
abbrev Sm := DEnv → DSt → SR
/-- what follows a step that goes on -/
def SR.next (r : SR) (k : Sm) : SR :=
  match r with
  | .ok .nx env st => k env st
  | r => r
@[simp] theorem SR.next_nx (env : DEnv) (st : DSt) (k : Sm) : (SR.ok .nx env st).next k = k env st := rfl
@[simp] theorem SR.next_rt (d : DV) (env : DEnv) (st : DSt) (k : Sm) : (SR.ok (.rt d) env st).next k = .ok (.rt d) env st := rfl
@[simp] theorem SR.next_bk (env : DEnv) (st : DSt) (k : Sm) : (SR.ok .bk env st).next k = .ok .bk env st := rfl
@[simp] theorem SR.next_ct (env : DEnv) (st : DSt) (k : Sm) : (SR.ok .ct env st).next k = .ok .ct env st := rfl
@[simp] theorem SR.next_exc (e : DX) (env : DEnv) (st : DSt) (k : Sm) : (SR.exc e env st).next k = .exc e env st := rfl
@[simp] theorem SR.next_bad (k : Sm) : SR.bad.next k = .bad := rfl
/-- a turn of a loop -/
def SR.turn (r : SR) (k : Sm) : SR :=
  match r with
  | .ok .nx env st => k env st
  | .ok .ct env st => k env st
  | .ok .bk env st => .ok .nx env st
  | r => r
@[simp] theorem SR.turn_nx (env : DEnv) (st : DSt) (k : Sm) : (SR.ok .nx env st).turn k = k env st := rfl
@[simp] theorem SR.turn_ct (env : DEnv) (st : DSt) (k : Sm) : (SR.ok .ct env st).turn k = k env st := rfl
@[simp] theorem SR.turn_bk (env : DEnv) (st : DSt) (k : Sm) : (SR.ok .bk env st).turn k = .ok .nx env st := rfl
@[simp] theorem SR.turn_rt (d : DV) (env : DEnv) (st : DSt) (k : Sm) : (SR.ok (.rt d) env st).turn k = .ok (.rt d) env st := rfl
@[simp] theorem SR.turn_exc (e : DX) (env : DEnv) (st : DSt) (k : Sm) : (SR.exc e env st).turn k = .exc e env st := rfl
@[simp] theorem SR.turn_bad (k : Sm) : SR.bad.turn k = .bad := rfl
/-- a value, then a statement's rest -/
def Res.then_ {α : Type} (r : Res α) (env : DEnv) (k : α → DSt → SR) : SR :=
  match r with
  | .ok a st => k a st
  | .exc e st => .exc e env st
  | .bad => .bad
@[simp] theorem Res.then_ok {α : Type} (a : α) (st : DSt) (env : DEnv) (k : α → DSt → SR) : (Res.ok a st).then_ env k = k a st := rfl
@[simp] theorem Res.then_exc {α : Type} (e : DX) (st : DSt) (env : DEnv) (k : α → DSt → SR) : (Res.exc e st : Res α).then_ env k = .exc e env st := rfl
@[simp] theorem Res.then_bad {α : Type} (env : DEnv) (k : α → DSt → SR) : (Res.bad : Res α).then_ env k = .bad := rfl

section
variable (g : Gam) (W : WX)
def PostS (φ : Lay) (H : Hp) (D : Ends) : SR → Prop
  | .ok .nx env' st' => ∀ φ' H' σ', Ext φ φ' H H' → RSt g φ' H' st' → REnv g φ' H' env' σ' → D.nx σ' H'
  | .ok (.rt d) _ st' => ∀ φ' H' v, Ext φ φ' H H' → RSt g φ' H' st' → RV g φ' H' d v → D.rt v H'
  | .ok .bk env' st' => ∀ φ' H' σ', Ext φ φ' H H' → RSt g φ' H' st' → REnv g φ' H' env' σ' → D.bk σ' H'
  | .ok .ct env' st' => ∀ φ' H' σ', Ext φ φ' H H' → RSt g φ' H' st' → REnv g φ' H' env' σ' → D.ct σ' H'
  | .exc e env' st' => ∀ φ' H' σ' c d, Ext φ φ' H H' → RSt g φ' H' st' → REnv g φ' H' env' σ' → RX g φ' H' e c d → W c d σ' H'
  | .bad => False
def TMS (m : Sm) : TS := fun D σ H => ∃ φ env st, RSt g φ H st ∧ REnv g φ H env σ ∧ PostS g W φ H D (m env st)
end
section
variable {g : Gam} {W : WX} {φ : Lay} {H : Hp} {D : Ends}
theorem PostS.later {φ' : Lay} {H' : Hp} (x : Ext φ φ' H H') : ∀ {r : SR}, PostS g W φ H D r → PostS g W φ' H' D r
  | .ok .nx _ _, p => fun φ2 H2 σ2 x2 => p φ2 H2 σ2 (x.trans x2)
  | .ok (.rt _) _ _, p => fun φ2 H2 v x2 => p φ2 H2 v (x.trans x2)
  | .ok .bk _ _, p => fun φ2 H2 σ2 x2 => p φ2 H2 σ2 (x.trans x2)
  | .ok .ct _ _, p => fun φ2 H2 σ2 x2 => p φ2 H2 σ2 (x.trans x2)
  | .exc _ _ _, p => fun φ2 H2 σ2 c d x2 => p φ2 H2 σ2 c d (x.trans x2)
theorem PostS.next {r : SR} {k : Sm} {N : L2.St → Hp → Prop} (p : PostS g W φ H D (r.next k)) (h : ∀ φ' H' σ' env' st', Ext φ φ' H H' → RSt g φ' H' st' → REnv g φ' H' env' σ' → PostS g W φ' H' D (k env' st') → N σ' H') : PostS g W φ H { D with nx := N } r := by
  match r, p with
  | .ok .nx env st, p => exact fun φ' H' σ' x s e => h φ' H' σ' env st x s e (PostS.later x p)
  | .ok (.rt d) env st, p => exact p
  | .ok .bk env st, p => exact p
  | .ok .ct env st, p => exact p
  | .exc e env st, p => exact p
theorem PostS.turn {r : SR} {k : Sm} {N : L2.St → Hp → Prop} (p : PostS g W φ H D (r.turn k)) (h : ∀ φ' H' σ' env' st', Ext φ φ' H H' → RSt g φ' H' st' → REnv g φ' H' env' σ' → PostS g W φ' H' D (k env' st') → N σ' H') : PostS g W φ H { D with nx := N, ct := N, bk := D.nx } r := by
  match r, p with
  | .ok .nx env st, p => exact fun φ' H' σ' x s e => h φ' H' σ' env st x s e (PostS.later x p)
  | .ok .ct env st, p => exact fun φ' H' σ' x s e => h φ' H' σ' env st x s e (PostS.later x p)
  | .ok (.rt d) env st, p => exact p
  | .ok .bk env st, p => exact p
  | .exc e env st, p => exact p
/-- a value ahead -/
theorem Post.then_ {α β : Type} {R : Rl α β} {r : Res α} {k : α → DSt → SR} {env : DEnv} {σ : L2.St} {st : DSt} {Q : β → Hp → Prop} (s0 : RSt g φ H st) (e0 : REnv g φ H env σ) (p : PostS g W φ H D (r.then_ env k))
    (h : ∀ a st' φ' H' b, Ext φ φ' H H' → RSt g φ' H' st' → REnv g φ' H' env σ → R φ' H' a b → PostS g W φ' H' D (k a st') → Q b H') : Post g R (fun c d H' => W c d σ H') φ H Q r := by
  match r, p with
  | .ok a st', p => exact fun φ' H' b x s r => h a st' φ' H' b x s (e0.ext s0.tame x) r (PostS.later x p)
  | .exc e st', p => exact fun φ' H' c d x s r => p φ' H' σ c d x s (e0.ext s0.tame x) r
end

/-! ### the statements -/
def sNx : Sm := fun env st => .ok .nx env st
def sSeq (a b : Sm) : Sm := fun env st => (a env st).next b
def sExpr (a : Ex) : Sm := fun env st => (a env st).then_ env fun _ st1 => .ok .nx env st1
def sRet (a : Ex) : Sm := fun env st => (a env st).then_ env fun d st1 => .ok (.rt d) env st1
def sRetN : Sm := fun env st => .ok (.rt .non) env st
def sBrk : Sm := fun env st => .ok .bk env st
def sCont : Sm := fun env st => .ok .ct env st
def sIf (c : Exb) (a b : Sm) : Sm := fun env st => (c env st).then_ env fun k st1 => if k = true then a env st1 else b env st1
/-- a target that only stores names -/
abbrev Tgm := DV → DEnv → Option DEnv
def gN (i : Nat) : Tgm := fun d env => some (env.set i (some d))
abbrev Tgms := List DV → DEnv → Option DEnv
def gsNil : Tgms := fun ds env => if ds = [] then some env else none
def gsCons (t : Tgm) (u : Tgms) : Tgms := fun ds env => match ds with
  | d :: r => (t d env).bind (u r)
  | [] => none
/-- a written tuple of targets, told a tuple -/
def gT (n : Nat) (t : Tgms) : Tgm := fun d env => match d with
  | .tup ds => if ds.length = n then t ds env else none
  | _ => none
def sAsg (a : Ex) (t : Tgm) : Sm := fun env st => (a env st).then_ env fun d st1 => match t d env with
  | some env' => .ok .nx env' st1
  | none => .bad

section
variable {X : Cx} {g : Gam} {W : WX} {a b c e : Expr} {ma mb : Ex} {ba : Exb} {sa sb : Sm} {pos : Pos} {st0 : Stmt} {rest body : List Stmt}
theorem pss_sNil : PSs X [] (TMS g W sNx) := pss_nil.imp fun D σ H ⟨φ, env, st, s, n, h⟩ => h φ H σ Ext.refl s n
theorem pss_sSeq (h1 : PS X st0 (TMS g W sa)) (h2 : PSs X rest (TMS g W sb)) : PSs X (st0 :: rest) (TMS g W (sSeq sa sb)) :=
  (pss_cons h1 h2).imp fun D σ H ⟨φ, env, st, s, n, h⟩ => ⟨φ, env, st, s, n, PostS.next h fun φ' H' σ' env' st' x s' e' h' => ⟨φ', env', st', s', e', h'⟩⟩
theorem pss_sOne (h1 : PS X st0 (TMS g W sa)) : PSs X [st0] (TMS g W sa) := pss_one h1
theorem ps_sPass : PS X (.Pass pos) (TMS g W sNx) := ps_pass.imp fun D σ H ⟨φ, env, st, s, n, h⟩ => h φ H σ Ext.refl s n
theorem ps_sBrk : PS X (.Break pos) (TMS g W sBrk) := ps_break.imp fun D σ H ⟨φ, env, st, s, n, h⟩ => h φ H σ Ext.refl s n
theorem ps_sCont : PS X (.Continue pos) (TMS g W sCont) := ps_continue.imp fun D σ H ⟨φ, env, st, s, n, h⟩ => h φ H σ Ext.refl s n
theorem ps_sRetN : PS X (.Return none pos) (TMS g W sRetN) := ps_retN.imp fun D σ H ⟨φ, env, st, s, n, h⟩ => h φ H .non Ext.refl s (by simp [RV])
theorem ps_sExpr (ha : PE X a (TM g (RV g) W ma)) (hs : swapsWith a none pos.line X.env = pure false := by rfl) : PS X (.Expr a pos) (TMS g W (sExpr ma)) :=
  (ps_expr ha hs).imp fun D σ H ⟨φ, env, st, s, n, h⟩ => ⟨φ, env, st, s, n, Post.then_ s n h fun d st' φ' H' v x s' e' r p => p φ' H' σ Ext.refl s' e'⟩
theorem ps_sRet (ha : PE X a (TM g (RV g) W ma)) : PS X (.Return (some a) pos) (TMS g W (sRet ma)) :=
  (ps_ret ha).imp fun D σ H ⟨φ, env, st, s, n, h⟩ => ⟨φ, env, st, s, n, Post.then_ s n h fun d st' φ' H' v x s' e' r p => p φ' H' v Ext.refl s' r⟩
theorem ps_sIf (hc : PT X c (TM g EqR W ba)) (ha : PSs X body (TMS g W sa)) (hb : PSs X rest (TMS g W sb)) : PS X (.If c body rest pos) (TMS g W (sIf ba sa sb)) :=
  (ps_if hc ha hb).imp fun D σ H ⟨φ, env, st, s, n, h⟩ => ⟨φ, env, st, s, n, Post.then_ s n h fun k st' φ' H' v x s' e' r p => by
    cases r
    cases k with
    | true => exact ⟨φ', env, st', s', e', p⟩
    | false => exact ⟨φ', env, st', s', e', p⟩⟩

/-! ### targets -/
/-- t stores as gm says, and only in the slots own -/
def TgOk (g : Gam) (own : List Nat) (t : TG) (gm : Tgm) : Prop := ∀ φ H st env σ d v Q, RSt g φ H st → REnv g φ H env σ → RV g φ H d v →
  (∃ env', gm d env = some env' ∧ ∀ φ' H' σ', Ext φ φ' H H' → RSt g φ' H' st → REnv g φ' H' env' σ' → wipe σ' own = wipe σ own → Q σ' H') → t v σ H Q
def TgsOk (g : Gam) (own : List Nat) (t : TGs) (gm : Tgms) : Prop := ∀ φ H st env σ ds vs Q, RSt g φ H st → REnv g φ H env σ → RVs g φ H ds vs →
  (∃ env', gm ds env = some env' ∧ ∀ φ' H' σ', Ext φ φ' H H' → RSt g φ' H' st → REnv g φ' H' env' σ' → wipe σ' own = wipe σ own → Q σ' H') → t vs σ H Q
theorem wipe_set {σ : L2.St} {i : Nat} {x : Option V} : ∀ {own : List Nat}, i ∈ own → wipe (σ.set i x) own = wipe σ own
  | j :: own, h => by
    unfold wipe
    by_cases e : i = j
    · subst e
      by_cases m : i ∈ own
      · rw [wipe_set m]
      · have : ∀ own : List Nat, i ∉ own → wipe (σ.set i x) own = (wipe σ own).set i x := by
          intro own
          induction own with
          | nil => intro _; rfl
          | cons k own ih =>
            intro m
            unfold wipe
            rw [ih (fun z => m (List.mem_cons_of_mem _ z)), List.set_comm]
            intro z
            exact m (by rw [z]; exact List.mem_cons_self ..)
        rw [this own m, List.set_set]
    · have m : i ∈ own := (List.mem_cons.mp h).resolve_left e
      rw [wipe_set m]
theorem tg_gN {own : List Nat} {i : Nat} (h : i ∈ own) : TgOk g own (gName i) (gN i) := fun φ H st env σ d v Q s n r ⟨env', e, k⟩ => by
  cases e
  exact k φ H _ Ext.refl s (n.set r i) (wipe_set h)
theorem tgs_nil {own : List Nat} : TgsOk g own gNil gsNil := fun φ H st env σ ds vs Q s n r ⟨env', e, k⟩ => by
  unfold gsNil at e
  split at e
  · rename_i e1
    cases e
    subst e1
    have := r.length
    exact ⟨List.eq_nil_of_length_eq_zero this.symm, k φ H _ Ext.refl s n rfl⟩
  · cases e
theorem tgs_cons {own : List Nat} {t : TG} {gm : Tgm} {u : TGs} {gms : Tgms} (h1 : TgOk g own t gm) (h2 : TgsOk g own u gms) : TgsOk g own (gCons t u) (gsCons gm gms) := fun φ H st env σ ds vs Q s n r ⟨env', e, k⟩ => by
  unfold gsCons at e
  cases ds with
  | nil => cases e
  | cons d ds =>
    simp only [RVs] at r
    obtain ⟨x, vr, e1, r1, r2⟩ := r
    obtain ⟨env1, e2, e3⟩ := Option.bind_eq_some_iff.mp e
    refine ⟨x, vr, e1, h1 φ H st env σ d x _ s n r1 ⟨env1, e2, fun φ1 H1 σ1 x1 s1 n1 w1 => ?_⟩⟩
    exact h2 φ1 H1 st env1 σ1 ds vr _ s1 n1 (RVs.ext s.tame x1 _ _ r2) ⟨env', e3, fun φ2 H2 σ2 x2 s2 n2 w2 => k φ2 H2 σ2 (x1.trans x2) s2 n2 (w2.trans w1)⟩
theorem tg_gT {own : List Nat} {m : Nat} {u : TGs} {gms : Tgms} (h : TgsOk g own u gms) : TgOk g own (gTup g.K m u) (gT m gms) := fun φ H st env σ d v Q s n r ⟨env', e, k⟩ => by
  cases d with
  | tup ds =>
    simp only [gT] at e
    by_cases hl : ds.length = m
    · rw [if_pos hl] at e
      simp only [RV] at r
      obtain ⟨a, xs, e1, q, rs⟩ := r
      exact ⟨a, xs, e1, q, by rw [← rs.length]; exact hl, h φ H st env σ ds xs Q s n rs ⟨env', e, k⟩⟩
    · rw [if_neg hl] at e; cases e
  | _ => cases e
/-- target = value -/
theorem ps_sAsg {tg : Expr} {own : List Nat} {t : TG} {gm : Tgm} (ha : PE X a (TM g (RV g) W ma)) (ht : PG X tg t) (ok : TgOk g own t gm) (hs : swapsWithSole [tg] a pos.line X.env = pure false := by rfl) (hw : swappedStores [tg] a X.env = pure none := by rfl)
    (h1 : (assignEach [tg] X.env).map (·.2) = [assign tg X.env] := by rfl) : PS X (.Assign [tg] a pos) (TMS g W (sAsg ma gm)) :=
  (ps_asg ha ht hs hw h1).imp fun D σ H ⟨φ, env, st, s, n, h⟩ => ⟨φ, env, st, s, n, Post.then_ s n h fun d st' φ' H' v x s' e' r p => by
    cases q : gm d env with
    | none => rw [q] at p; exact p.elim
    | some env' =>
      rw [q] at p
      exact ok φ' H' st' env σ d v _ s' e' r ⟨env', q, fun φ2 H2 σ' x2 s2 n' _ => p φ2 H2 σ' x2 s2 n'⟩⟩
/-- name = value -/
theorem ps_sSet {i : Nat} {x : Str} {pos' : Pos} (hN : X.N.Nodup) (hi : X.N[i]? = some x) (hx : Loc X.env.scope x) (ha : PE X a (TM g (RV g) W ma)) (hs : swapsWith a (some (.Name x pos')) pos.line X.env = pure false := by rfl)
    (hf : X.fn x = true ∨ X.env.scope.names.lookup x = some .local := by first | exact .inl rfl | exact .inr rfl | assumption) : PS X (.Assign [.Name x pos'] a pos) (TMS g W (sAsg ma (gN i))) :=
  (ps_set hN hi hx ha hs hf).imp fun D σ H ⟨φ, env, st, s, n, h⟩ => ⟨φ, env, st, s, n, Post.then_ s n h fun d st' φ' H' v x s' e' r p => p φ' H' _ Ext.refl s' (e'.set r i)⟩
end

/-! ### loops -/
/-- what a loop walks: items that are known, or a list of the state as it stands at each turn -/
inductive DIt where
  | items (ds : List DV) | refl (n : Nat)
def RIt (g : Gam) : Rl DIt It := fun φ H it J => match it with
  | .items ds => ∀ φ' H' st' i, ExtW φ φ' H H' → RSt g φ' H' st' → (i < ds.length → J.go i H' ∧ ∀ x H2, J.yld i H' x H2 → Ext φ' φ' H' H2 ∧ RSt g φ' H2 st' ∧ ∃ d, ds[i]? = some d ∧ RV g φ' H2 d x) ∧ (ds.length ≤ i → J.stop i H')
  | .refl n => ∀ φ' H' st' i ds, ExtW φ φ' H H' → RSt g φ' H' st' → st'[n]? = some (.lst ds) → (i < ds.length → J.go i H' ∧ ∀ x H2, J.yld i H' x H2 → Ext φ' φ' H' H2 ∧ RSt g φ' H2 st' ∧ ∃ d, ds[i]? = some d ∧ RV g φ' H2 d x) ∧ (ds.length ≤ i → J.stop i H')
abbrev Im := DEnv → DSt → Res DIt
def tgThen (gm : Tgm) (body : Sm) (d : DV) : Sm := fun env st => match gm d env with
  | some env' => body env' st
  | none => .bad
def forM (gm : Tgm) (body : Sm) : List DV → Sm
  | [], env, st => .ok .nx env st
  | d :: ds, env, st => (tgThen gm body d env st).turn (forM gm body ds)
def forR (gm : Tgm) (body : Sm) (n : Nat) : Nat → Nat → Sm
  | 0, _, _, _ => .bad
  | fuel + 1, i, env, st => match st[n]? with
    | some (.lst ds) => (match ds[i]? with
      | some d => (tgThen gm body d env st).turn (forR gm body n fuel (i + 1))
      | none => .ok .nx env st)
    | _ => .bad
def turns : Nat := 1000000
def sFor (im : Im) (gm : Tgm) (body : Sm) : Sm := fun env st => (im env st).then_ env fun it st1 => match it with
  | .items ds => forM gm body ds env st1
  | .refl n => forR gm body n turns 0 env st1
def whileM (c : Exb) (body : Sm) : Nat → Sm
  | 0, _, _ => .bad
  | fuel + 1, env, st => (c env st).then_ env fun k st1 => if k = true then (body env st1).turn (whileM c body fuel) else .ok .nx env st1
def sWhile (c : Exb) (body : Sm) : Sm := whileM c body turns

section
variable {X : Cx} {g : Gam} {W : WX} {iter tg c : Expr} {im : Im} {own : List Nat} {t : TG} {gm : Tgm} {sb : Sm} {pos : Pos} {body : List Stmt} {ba : Exb}
theorem tgThen_post {φ : Lay} {H : Hp} {D : Ends} {env : DEnv} {st : DSt} {σ : L2.St} {d : DV} {v : V} {k : Sm} {N : L2.St → Hp → Prop} (ok : TgOk g own t gm) (s : RSt g φ H st) (n : REnv g φ H env σ) (r : RV g φ H d v)
    (p : PostS g W φ H D ((tgThen gm sb d env st).turn k)) (hN : ∀ φ' H' σ' env' st', Ext φ φ' H H' → RSt g φ' H' st' → REnv g φ' H' env' σ' → PostS g W φ' H' D (k env' st') → N σ' H') :
    t v σ H fun σ2 H2 => TMS g W sb { D with nx := N, ct := N, bk := D.nx } σ2 H2 := by
  unfold tgThen at p
  cases q : gm d env with
  | none => rw [q] at p; exact p.elim
  | some env' =>
    rw [q] at p
    exact ok φ H st env σ d v _ s n r ⟨env', q, fun φ2 H2 σ' x2 s2 n' _ => ⟨φ2, env', st, s2, n', PostS.turn (PostS.later x2 p) fun φ' H' σ2 env2 st2 x s3 n3 p3 => hN φ' H' σ2 env2 st2 (x2.trans x) s3 n3 p3⟩⟩
theorem ps_sFor (hp : PassesOwn (model X.prog X.w) X.A X.env X.xe) (hc : X.calm = true) (hi : PI X tg iter (TM g (RIt g) W im)) (hg : PG X tg t) (ok : TgOk g own t gm) (hb : PSs X body (TMS g W sb))
    (hs : ∀ x, foldedSetIterable iter X.env x = pure x := by intro _; rfl) : PS X (.For tg iter body [] pos) (TMS g W (sFor im gm sb)) :=
  (ps_for hp hc hi hg hb hs).imp fun D σ H ⟨φ, env, st, s, n, h⟩ => ⟨φ, env, st, s, n, Post.then_ s n h fun it st1 φ1 H1 J x1 s1 e1 rJ p => by
    cases it with
    | items ds =>
      refine ⟨fun i m σ2 H2 => m + i = ds.length ∧ ∃ φ2 env2 st2, Ext φ1 φ2 H1 H2 ∧ RSt g φ2 H2 st2 ∧ REnv g φ2 H2 env2 σ2 ∧ PostS g W φ2 H2 D (forM gm sb (ds.drop i) env2 st2),
        ⟨ds.length, rfl, φ1, env, st1, Ext.refl, s1, e1, p⟩, ?_⟩
      rintro i m σ2 H2 ⟨hm, φ2, env2, st2, x2, s2, e2, p2⟩
      by_cases hi : i < ds.length
      · obtain ⟨go, yl⟩ := (rJ φ2 H2 st2 i x2.w s2).1 hi
        rw [List.drop_eq_getElem_cons hi] at p2
        refine .inr ⟨go, fun σ3 H3 => m - 1 + (i + 1) = ds.length ∧ ∃ φ3 env3 st3, Ext φ1 φ3 H1 H3 ∧ RSt g φ3 H3 st3 ∧ REnv g φ3 H3 env3 σ3 ∧ PostS g W φ3 H3 D (forM gm sb (ds.drop (i + 1)) env3 st3), fun σ3 H3 q => ⟨m - 1, by omega, q⟩, fun x H3 y => ?_⟩
        obtain ⟨x3, s3, d, hd, r3⟩ := yl x H3 y
        rw [List.getElem?_eq_getElem hi] at hd
        cases hd
        exact tgThen_post ok s3 (e2.ext s2.tame x3) r3 (PostS.later x3 p2) fun φ4 H4 σ4 env4 st4 x4 s4 e4 p4 => ⟨by omega, φ4, env4, st4, (x2.trans x3).trans x4, s4, e4, p4⟩
      · have hi' := Nat.le_of_not_lt hi
        refine .inl ⟨(rJ φ2 H2 st2 i x2.w s2).2 hi', ?_⟩
        rw [List.drop_eq_nil_of_le hi'] at p2
        exact p2 φ2 H2 σ2 Ext.refl s2 e2
    | refl n =>
      refine ⟨fun i m σ2 H2 => ∃ φ2 env2 st2, Ext φ1 φ2 H1 H2 ∧ RSt g φ2 H2 st2 ∧ REnv g φ2 H2 env2 σ2 ∧ PostS g W φ2 H2 D (forR gm sb n m i env2 st2),
        ⟨turns, φ1, env, st1, Ext.refl, s1, e1, p⟩, ?_⟩
      rintro i m σ2 H2 ⟨φ2, env2, st2, x2, s2, e2, p2⟩
      cases m with
      | zero => exact p2.elim
      | succ m =>
        unfold forR at p2
        cases q : st2[n]? with
        | none => rw [q] at p2; exact p2.elim
        | some o =>
          rw [q] at p2
          cases o with
          | lst ds =>
            have rr := rJ φ2 H2 st2 i ds x2.w s2 q
            cases q2 : ds[i]? with
            | none =>
              simp only [q2] at p2
              exact .inl ⟨rr.2 (List.getElem?_eq_none_iff.mp q2), p2 φ2 H2 σ2 Ext.refl s2 e2⟩
            | some d =>
              simp only [q2] at p2
              obtain ⟨go, yl⟩ := rr.1 (List.getElem?_eq_some_iff.mp q2).1
              refine .inr ⟨go, fun σ3 H3 => ∃ φ3 env3 st3, Ext φ1 φ3 H1 H3 ∧ RSt g φ3 H3 st3 ∧ REnv g φ3 H3 env3 σ3 ∧ PostS g W φ3 H3 D (forR gm sb n m (i + 1) env3 st3), fun σ3 H3 q => ⟨m, Nat.lt_succ_self _, q⟩, fun x H3 y => ?_⟩
              obtain ⟨x3, s3, d', hd, r3⟩ := yl x H3 y
              rw [q2] at hd
              cases hd
              exact tgThen_post ok s3 (e2.ext s2.tame x3) r3 (PostS.later x3 p2) fun φ4 H4 σ4 env4 st4 x4 s4 e4 p4 => ⟨φ4, env4, st4, (x2.trans x3).trans x4, s4, e4, p4⟩
          | dct kvs => exact p2.elim
          | ins c fs => exact p2.elim
          | dcn kvs => exact p2.elim⟩
theorem ps_sWhile (hp : PassesOwn (model X.prog X.w) X.A X.env X.xe) (hc : PT X c (TM g EqR W ba)) (hb : PSs X body (TMS g W sb)) : PS X (.While c body [] pos) (TMS g W (sWhile ba sb)) :=
  (ps_while hp hc hb).imp fun D σ H ⟨φ, env, st, s, n, h⟩ => by
    refine ⟨fun m σ2 H2 => ∃ φ2 env2 st2, RSt g φ2 H2 st2 ∧ REnv g φ2 H2 env2 σ2 ∧ PostS g W φ2 H2 D (whileM ba sb m env2 st2), ⟨turns, φ, env, st, s, n, h⟩, ?_⟩
    rintro m σ2 H2 ⟨φ2, env2, st2, s2, n2, p2⟩
    cases m with
    | zero => exact p2.elim
    | succ m =>
      unfold whileM at p2
      refine ⟨φ2, env2, st2, s2, n2, Post.then_ s2 n2 p2 fun k st3 φ3 H3 v x3 s3 e3 r p3 => ?_⟩
      cases r
      cases k with
      | false => exact p3 φ3 H3 σ2 Ext.refl s3 e3
      | true =>
        refine ⟨fun σ4 H4 => ∃ φ4 env4 st4, RSt g φ4 H4 st4 ∧ REnv g φ4 H4 env4 σ4 ∧ PostS g W φ4 H4 D (whileM ba sb m env4 st4), fun σ' H' q => ⟨m, Nat.lt_succ_self _, q⟩, ?_⟩
        exact ⟨φ3, env2, st3, s3, e3, PostS.turn p3 fun φ4 H4 σ4 env4 st4 x4 s4 e4 p4 => ⟨φ4, env4, st4, s4, e4, p4⟩⟩
end
end DM

/-! DM5: comprehensions, what is walked. -/
namespace DM
open PySem PySem.Spec PyProof.Rows L2

def wipeE (env : DEnv) : List Nat → DEnv
  | [] => env
  | v :: vs => (wipeE env vs).set v none
/-- a comprehension's turns -/
def lcM (gm : Tgm) (tm : Exb) (em : Ex) (env : DEnv) : List DV → List DV → DSt → Res (List DV)
  | [], acc, st => .ok acc st
  | d :: ds, acc, st => match gm d env with
    | some env2 => (match tm env2 st with
      | .ok true st2 => (match em env2 st2 with
        | .ok y st3 => if acc.length < sizeLine then lcM gm tm em env ds (acc ++ [y]) st3 else .bad
        | _ => .bad)
      | .ok false st2 => lcM gm tm em env ds acc st2
      | _ => .bad)
    | none => .bad
def lcR (gm : Tgm) (tm : Exb) (em : Ex) (env : DEnv) (n : Nat) : Nat → Nat → List DV → DSt → Res (List DV)
  | 0, _, _, _ => .bad
  | fuel + 1, i, acc, st => match st[n]? with
    | some (.lst ds) => (match ds[i]? with
      | some d => (match gm d env with
        | some env2 => (match tm env2 st with
          | .ok true st2 => (match em env2 st2 with
            | .ok y st3 => if acc.length < sizeLine then lcR gm tm em env n fuel (i + 1) (acc ++ [y]) st3 else .bad
            | _ => .bad)
          | .ok false st2 => lcR gm tm em env n fuel (i + 1) acc st2
          | _ => .bad)
        | none => .bad)
      | none => .ok acc st)
    | _ => .bad
def lcs (im : Im) (gm : Tgm) (tm : Exb) (em : Ex) (own : List Nat) : Exs := fun env st => (im env st).bind fun it st1 => match it with
  | .items ds => lcM gm tm em (wipeE env own) ds [] st1
  | .refl n => lcR gm tm em (wipeE env own) n turns 0 [] st1
def eLc (im : Im) (gm : Tgm) (tm : Exb) (em : Ex) (own : List Nat) : Ex := fun env st => (lcs im gm tm em own env st).bind fun acc st2 => .ok (.lst acc) st2
def eLcR (im : Im) (gm : Tgm) (tm : Exb) (em : Ex) (own : List Nat) : Ex := fun env st => (lcs im gm tm em own env st).bind fun acc st2 => .ok (.ref st2.length) (st2 ++ [.lst acc])
def bYes : Exb := fun _ st => .ok true st

section
variable {X : Cx} {g : Gam} {W : WX}
abbrev W0 : WX := fun _ _ _ _ => False
theorem REnv.wipe {φ : Lay} {H : Hp} {env : DEnv} {σ : L2.St} (r : REnv g φ H env σ) : ∀ own : List Nat, REnv g φ H (wipeE env own) (L2.wipe σ own)
  | [] => r
  | i :: own => (REnv.wipe r own).wipe1 i
theorem pts_bYes : PTs X [] (TM g EqR W bYes) := ⟨fun pins s σ H Q I ⟨φ, env, st, s0, n, h⟩ => pts_nil.run pins s σ H Q I (h φ H true Ext.refl s0 rfl)⟩
theorem pts_bOne {c : Expr} {ba : Exb} (h : PT X c (TM g EqR W ba)) : PTs X [c] (TM g EqR W ba) := pts_one h

/-- D is being made: no value reads it -/
abbrev Lay.out (φ : Lay) (D : Addr) : Lay := ⟨φ.rf, D :: φ.rs⟩
section
variable {φ : Lay} {H : Hp} {D : Addr}
mutual
theorem RV.enter (h : H D = none) : ∀ (d : DV) (v : V), RV g φ H d v → RV g (φ.out D) H d v
  | .non, _, h => by simpa [RV] using h
  | .bl _, _, h => by simpa [RV] using h
  | .int _, _, h => by simpa [RV] using h
  | .str _, _, h => by simpa [RV] using h
  | .tup ds, v, q => by
    simp only [RV] at q ⊢
    obtain ⟨a, xs, e, q, r⟩ := q
    exact ⟨a, xs, e, q, RVs.enter h ds xs r⟩
  | .lst ds, v, q => by
    simp only [RV] at q ⊢
    obtain ⟨a, xs, e, ⟨n1, n2⟩, q, r⟩ := q
    exact ⟨a, xs, e, ⟨n1, by simpa using ⟨ne_of_none q h, n2⟩⟩, q, RVs.enter h ds xs r⟩
  | .fzl ds, v, q => by
    simp only [RV] at q ⊢
    obtain ⟨a, xs, e, q, r⟩ := q
    refine ⟨a, xs, e, ?_, RVs.enter h ds xs r⟩
    rcases q with ⟨⟨n1, n2⟩, q⟩ | q
    · refine .inl ⟨⟨n1, ?_⟩, q⟩
      have : a ≠ D := by
        rcases q with q | ⟨u, q⟩
        · exact ne_of_none q h
        · exact ne_of_none q h
      simpa using ⟨this, n2⟩
    · exact .inr q
  | .ref _, _, h => by simpa [RV] using h
  | .glo _, _, h => by simpa [RV] using h
  | .ty _, _, h => by simpa [RV] using h
theorem RVs.enter (h : H D = none) : ∀ (ds : List DV) (vs : List V), RVs g φ H ds vs → RVs g (φ.out D) H ds vs
  | [], _, h => by simpa [RVs] using h
  | d :: ds, vs, q => by
    simp only [RVs] at q ⊢
    obtain ⟨y, r, e, q, z⟩ := q
    exact ⟨y, r, e, RV.enter h d y q, RVs.enter h ds r z⟩
end
mutual
theorem RV.leave : ∀ (d : DV) (v : V), RV g (φ.out D) H d v → RV g φ H d v
  | .non, _, h => by simpa [RV] using h
  | .bl _, _, h => by simpa [RV] using h
  | .int _, _, h => by simpa [RV] using h
  | .str _, _, h => by simpa [RV] using h
  | .tup ds, v, q => by
    simp only [RV] at q ⊢
    obtain ⟨a, xs, e, q, r⟩ := q
    exact ⟨a, xs, e, q, RVs.leave ds xs r⟩
  | .lst ds, v, q => by
    simp only [RV] at q ⊢
    obtain ⟨a, xs, e, ⟨n1, n2⟩, q, r⟩ := q
    exact ⟨a, xs, e, ⟨n1, fun z => n2 (List.mem_cons_of_mem _ z)⟩, q, RVs.leave ds xs r⟩
  | .fzl ds, v, q => by
    simp only [RV] at q ⊢
    obtain ⟨a, xs, e, q, r⟩ := q
    refine ⟨a, xs, e, ?_, RVs.leave ds xs r⟩
    rcases q with ⟨⟨n1, n2⟩, q⟩ | q
    · exact .inl ⟨⟨n1, fun z => n2 (List.mem_cons_of_mem _ z)⟩, q⟩
    · exact .inr q
  | .ref _, _, h => by simpa [RV] using h
  | .glo _, _, h => by simpa [RV] using h
  | .ty _, _, h => by simpa [RV] using h
theorem RVs.leave : ∀ (ds : List DV) (vs : List V), RVs g (φ.out D) H ds vs → RVs g φ H ds vs
  | [], _, h => by simpa [RVs] using h
  | d :: ds, vs, q => by
    simp only [RVs] at q ⊢
    obtain ⟨y, r, e, q, z⟩ := q
    exact ⟨y, r, e, RV.leave d y q, RVs.leave ds r z⟩
end
mutual
/-- .. as it stands as a thing -/
theorem RV.moreD : ∀ (d : DV) (v : V), RV g (φ.out D) H d v → RV g (φ.more D) H d v
  | .non, _, h => by simpa [RV] using h
  | .bl _, _, h => by simpa [RV] using h
  | .int _, _, h => by simpa [RV] using h
  | .str _, _, h => by simpa [RV] using h
  | .tup ds, v, q => by
    simp only [RV] at q ⊢
    obtain ⟨a, xs, e, q, r⟩ := q
    exact ⟨a, xs, e, q, RVs.moreD ds xs r⟩
  | .lst ds, v, q => by
    simp only [RV] at q ⊢
    obtain ⟨a, xs, e, ⟨n1, n2⟩, q, r⟩ := q
    exact ⟨a, xs, e, ⟨by simpa using ⟨n1, fun z => n2 (by rw [z]; exact List.mem_cons_self ..)⟩, fun z => n2 (List.mem_cons_of_mem _ z)⟩, q, RVs.moreD ds xs r⟩
  | .fzl ds, v, q => by
    simp only [RV] at q ⊢
    obtain ⟨a, xs, e, q, r⟩ := q
    refine ⟨a, xs, e, ?_, RVs.moreD ds xs r⟩
    rcases q with ⟨⟨n1, n2⟩, q⟩ | q
    · exact .inl ⟨⟨by simpa using ⟨n1, fun z => n2 (by rw [z]; exact List.mem_cons_self ..)⟩, fun z => n2 (List.mem_cons_of_mem _ z)⟩, q⟩
    · exact .inr q
  | .ref n, v, q => by
    simp only [RV] at q ⊢
    obtain ⟨a, e, q⟩ := q
    exact ⟨a, e, by rw [List.getElem?_append_left (List.getElem?_eq_some_iff.mp q).1]; exact q⟩
  | .glo _, _, h => by simpa [RV] using h
  | .ty _, _, h => by simpa [RV] using h
theorem RVs.moreD : ∀ (ds : List DV) (vs : List V), RVs g (φ.out D) H ds vs → RVs g (φ.more D) H ds vs
  | [], _, h => by simpa [RVs] using h
  | d :: ds, vs, q => by
    simp only [RVs] at q ⊢
    obtain ⟨y, r, e, q, z⟩ := q
    exact ⟨y, r, e, RV.moreD d y q, RVs.moreD ds r z⟩
end
mutual
/-- .. while it grows -/
theorem RV.grow {xs ys : List V} (h : H D = some (.lst xs)) : ∀ (d : DV) (v : V), RV g (φ.out D) H d v → RV g (φ.out D) (upd H D (.lst ys)) d v
  | .non, _, h => by simpa [RV] using h
  | .bl _, _, h => by simpa [RV] using h
  | .int _, _, h => by simpa [RV] using h
  | .str _, _, h => by simpa [RV] using h
  | .tup ds, v, q => by
    simp only [RV] at q ⊢
    obtain ⟨a, xs, e, q, r⟩ := q
    refine ⟨a, xs, e, ?_, RVs.grow h ds xs r⟩
    rcases q with (q | ⟨u, q⟩) | q
    · exact .inl (.inl (by rw [upd_ne (ne_of q h (by intro z; cases z))]; exact q))
    · exact .inl (.inr ⟨u, by rw [upd_ne (ne_of q h (by intro z; cases z))]; exact q⟩)
    · exact .inr q
  | .lst ds, v, q => by
    simp only [RV] at q ⊢
    obtain ⟨a, xs, e, ⟨n1, n2⟩, q, r⟩ := q
    exact ⟨a, xs, e, ⟨n1, n2⟩, by rw [upd_ne fun z => n2 (by rw [z]; exact List.mem_cons_self ..)]; exact q, RVs.grow h ds xs r⟩
  | .fzl ds, v, q => by
    simp only [RV] at q ⊢
    obtain ⟨a, xs, e, q, r⟩ := q
    refine ⟨a, xs, e, ?_, RVs.grow h ds xs r⟩
    rcases q with ⟨⟨n1, n2⟩, q⟩ | q
    · refine .inl ⟨⟨n1, n2⟩, ?_⟩
      have ne : a ≠ D := fun z => n2 (by rw [z]; exact List.mem_cons_self ..)
      rcases q with q | ⟨u, q⟩
      · exact .inl (by rw [upd_ne ne]; exact q)
      · exact .inr ⟨u, by rw [upd_ne ne]; exact q⟩
    · exact .inr q
  | .ref _, _, h => by simpa [RV] using h
  | .glo _, _, h => by simpa [RV] using h
  | .ty _, _, h => by simpa [RV] using h
theorem RVs.grow {xs ys : List V} (h : H D = some (.lst xs)) : ∀ (ds : List DV) (vs : List V), RVs g (φ.out D) H ds vs → RVs g (φ.out D) (upd H D (.lst ys)) ds vs
  | [], _, h => by simpa [RVs] using h
  | d :: ds, vs, q => by
    simp only [RVs] at q ⊢
    obtain ⟨y, r, e, q, z⟩ := q
    exact ⟨y, r, e, RV.grow h d y q, RVs.grow h ds r z⟩
end
theorem RKs.map {κ : Type} {φ' : Lay} {H' : Hp} (f : ∀ d v, RV g φ H d v → RV g φ' H' d v) : ∀ (ds : List (κ × DV)) (vs : List (κ × V)), RKs g φ H ds vs → RKs g φ' H' ds vs
  | [], _, h => by simpa [RKs] using h
  | d :: ds, vs, h => by
    simp only [RKs] at h ⊢
    obtain ⟨y, r, e, q, z⟩ := h
    exact ⟨y, r, e, f _ _ q, RKs.map f ds r z⟩
theorem RVs.mapR {φ' : Lay} {H' : Hp} (f : ∀ d v, RV g φ H d v → RV g φ' H' d v) : ∀ (ds : List DV) (vs : List V), RVs g φ H ds vs → RVs g φ' H' ds vs
  | [], _, h => by simpa [RVs] using h
  | d :: ds, vs, h => by
    simp only [RVs] at h ⊢
    obtain ⟨y, r, e, q, z⟩ := h
    exact ⟨y, r, e, f _ _ q, RVs.mapR f ds r z⟩
theorem RNs.map {φ' : Lay} {H' : Hp} (f : ∀ d v, RV g φ H d v → RV g φ' H' d v) : ∀ (ds : List (DV × DV)) (ts : List (Addr × V)), RNs g φ H ds ts → RNs g φ' H' ds ts
  | [], _, h => by simpa [RNs] using h
  | d :: ds, ts, h => by
    simp only [RNs] at h ⊢
    obtain ⟨y, r, e, k, q1, q2, z⟩ := h
    exact ⟨y, r, e, k, f _ _ q1, f _ _ q2, RNs.map f ds r z⟩
theorem RO.map {φ' : Lay} {H' : Hp} (f : ∀ d v, RV g φ H d v → RV g φ' H' d v) {a : Addr} {o : DO} {ho : HO} (r : RO g φ H a o ho) : RO g φ' H' a o ho := by
  cases o with
  | lst ds => obtain ⟨xs, e, q⟩ := r; exact ⟨xs, e, RVs.mapR f _ _ q⟩
  | dct kvs => obtain ⟨xs, e, q⟩ := r; exact ⟨xs, e, RKs.map f _ _ q⟩
  | ins c fs => obtain ⟨dx, xs, e, q⟩ := r; exact ⟨dx, xs, e, RKs.map f _ _ q⟩
  | dcn kvs => obtain ⟨ts, e, q⟩ := r; exact ⟨ts, e, RNs.map f _ _ q⟩
theorem REnv.map {φ' : Lay} {H' : Hp} (f : ∀ d v, RV g φ H d v → RV g φ' H' d v) {env : DEnv} {σ : L2.St} (r : REnv g φ H env σ) : REnv g φ' H' env σ :=
  ⟨r.len, fun i d e => let ⟨v, h1, h2⟩ := r.at_ i d e; ⟨v, h1, f _ _ h2⟩⟩
theorem RSt.enter {st : DSt} (s : RSt g φ H st) (h : H D = none) {xs : List V} : RSt g (φ.out D) (upd H D (.lst xs)) st := by
  have s' := s.new (o := .lst xs) h
  refine ⟨s.nd, s.len, fun a ha => ?_, fun n a e => ?_⟩
  · rcases List.mem_cons.mp ha with ha | ha
    · subst ha
      exact ⟨s.notin h, xs, upd_same⟩
    · exact s'.res a ha
  · obtain ⟨o, ho, e1, e2, r⟩ := s.ob n a e
    refine ⟨o, ho, e1, by rw [upd_ne (ne_of_none e2 h)]; exact e2, RO.ext (φ := φ.out D) ?_ ?_ (RO.map (RV.enter h) r)⟩
    · exact s.tame
    · exact ⟨⟨[], by simp⟩, rfl, fun b u nb q => ⟨by rw [upd_ne (ne_of_none q h)]; exact q, nb⟩⟩
theorem REnv.enter {st : DSt} (s : RSt g φ H st) (h : H D = none) {xs : List V} {env : DEnv} {σ : L2.St} (r : REnv g φ H env σ) : REnv g (φ.out D) (upd H D (.lst xs)) env σ :=
  (r.map (RV.enter h)).ext (φ := φ.out D) s.tame ⟨⟨[], by simp⟩, rfl, fun b u nb q => ⟨by rw [upd_ne (ne_of_none q h)]; exact q, nb⟩⟩
theorem RSt.leave {st : DSt} (s : RSt g (φ.out D) H st) : RSt g φ H st :=
  ⟨s.nd, s.len, fun a ha => s.res a (List.mem_cons_of_mem _ ha), fun n a e => let ⟨o, ho, e1, e2, r⟩ := s.ob n a e; ⟨o, ho, e1, e2, RO.map RV.leave r⟩⟩
theorem RSt.grow {st : DSt} {xs ys : List V} (s : RSt g (φ.out D) H st) (h : H D = some (.lst xs)) : RSt g (φ.out D) (upd H D (.lst ys)) st := by
  have nD := (s.res D (List.mem_cons_self ..)).1
  refine ⟨s.nd, s.len, fun a ha => ?_, fun n a e => ?_⟩
  · obtain ⟨n, zs, q⟩ := s.res a ha
    by_cases e : a = D
    · subst e; exact ⟨n, ys, upd_same⟩
    · exact ⟨n, zs, by rw [upd_ne e]; exact q⟩
  · obtain ⟨o, ho, e1, e2, r⟩ := s.ob n a e
    have ne : a ≠ D := fun z => nD (by rw [← z]; exact List.mem_of_getElem? e)
    exact ⟨o, ho, e1, by rw [upd_ne ne]; exact e2, RO.map (RV.grow h) r⟩
/-- a list becomes a thing that may change -/
theorem RSt.promote {st : DSt} {acc : List DV} {xs : List V} (s : RSt g (φ.out D) H st) (nr : D ∉ φ.rs) (h : H D = some (.lst xs)) (r : RVs g (φ.out D) H acc xs) : RSt g (φ.more D) H (st ++ [.lst acc]) := by
  have nD := (s.res D (List.mem_cons_self ..)).1
  refine ⟨List.nodup_append.mpr ⟨s.nd, by simp, fun a ha b hb => ?_⟩, ?_, fun a ha => ?_, fun n a e => ?_⟩
  · have : b = D := by simpa using hb
    subst this
    exact fun e => nD (e ▸ ha)
  · have := s.len
    simp at this ⊢
    exact this
  · obtain ⟨n, zs, q⟩ := s.res a (List.mem_cons_of_mem _ ha)
    refine ⟨fun z => ?_, zs, q⟩
    rcases List.mem_append.mp z with z | z
    · exact n z
    · have : a = D := by simpa using z
      exact nr (this ▸ ha)
  · have e : (φ.rf ++ [D])[n]? = some a := e
    have hlen : φ.rf.length = st.length := s.len
    by_cases hn : n < φ.rf.length
    · rw [List.getElem?_append_left hn] at e
      obtain ⟨u, hu, e1, e2, r2⟩ := s.ob n a e
      refine ⟨u, hu, ?_, e2, RO.map RV.moreD r2⟩
      rw [List.getElem?_append_left (by rw [← hlen]; exact hn)]
      exact e1
    · have hle := Nat.le_of_not_lt hn
      rw [List.getElem?_append_right hle] at e
      have hz : n - φ.rf.length = 0 := by
        have := (List.getElem?_eq_some_iff.mp e).1
        simp at this
        omega
      rw [hz] at e
      have e' : D = a := by simpa using e
      subst e'
      refine ⟨.lst acc, .lst xs, ?_, h, xs, rfl, RVs.moreD _ _ r⟩
      rw [List.getElem?_append_right (by rw [← hlen]; exact hle), ← hlen, hz]
      rfl
theorem Lay.out_of {φ φ2 : Lay} {H H2 : Hp} (x : Ext (φ.out D) φ2 H H2) : φ2 = Lay.out ⟨φ2.rf, φ.rs⟩ D := by
  obtain ⟨rf, rs⟩ := φ2
  have e : rs = D :: φ.rs := x.rs
  subst e
  rfl
end

/-- what a turn of a comprehension leaves -/
structure LcAt (g : Gam) (φ1 : Lay) (H1 : Hp) (D : Addr) (env : DEnv) (σ : L2.St) (φ : Lay) (H : Hp) (st : DSt) (acc : List DV) : Prop where
  free : H1 D = none
  ext : Ext φ1 φ H1 H
  st_ : RSt g (φ.out D) H st
  env_ : REnv g (φ.out D) H env σ
  made : ∃ xs, H D = some (.lst xs) ∧ RVs g (φ.out D) H acc xs
variable {own : List Nat} {t : TG} {gm : Tgm} {tm : Exb} {em : Ex}
/-- one turn -/
theorem lc_turn {φ1 φ : Lay} {H1 H : Hp} {D : Addr} {env : DEnv} {σ0 : L2.St} {st : DSt} {acc : List DV} {d : DV} {v : V} {Nx : Hp → Prop} (ok : TgOk g own t gm) (L : LcAt g φ1 H1 D env (L2.wipe σ0 own) φ H st acc) (rd : RV g (φ.out D) H d v) (hw : L2.wipe (L2.wipe σ0 own) own = L2.wipe σ0 own)
    {α : Type} {no : α} {yes : List DV → DSt → α} {keep : DSt → α} {P : α → Prop} (hno : ¬ P no)
    (p : P (match gm d env with
      | some env2 => (match tm env2 st with
        | .ok true st2 => (match em env2 st2 with
          | .ok y st3 => if acc.length < sizeLine then yes (acc ++ [y]) st3 else no
          | _ => no)
        | .ok false st2 => keep st2
        | _ => no)
      | none => no))
    (hy : ∀ φ' H' st3 y, LcAt g φ1 H1 D env (L2.wipe σ0 own) φ' H' st3 (acc ++ [y]) → P (yes (acc ++ [y]) st3) → Nx H') (hk : ∀ φ' H' st2, LcAt g φ1 H1 D env (L2.wipe σ0 own) φ' H' st2 acc → P (keep st2) → Nx H') :
    t v (L2.wipe σ0 own) H fun σ2 H2 => L2.wipe σ2 own = L2.wipe σ0 own ∧ TM g EqR W0 tm σ2 H2 fun b H3 => if b = true then TM g (RV g) W0 em σ2 H3 fun y H4 => ∃ ac, H4 D = some (.lst ac) ∧ ac.length < sizeLine ∧ Nx (upd H4 D (.lst (ac ++ [y]))) else Nx H3 := by
  cases q : gm d env with
  | none => simp only [q] at p; exact (hno p).elim
  | some env2 =>
    simp only [q] at p
    refine ok (φ.out D) H st env (L2.wipe σ0 own) d v _ L.st_ L.env_ rd ⟨env2, q, fun φ0 H0 σ2 x0 s0 n2 w2 => ⟨w2.trans hw, φ0, env2, st, s0, n2, ?_⟩⟩
    have go : ∀ {φ2 : Lay} {H2 : Hp} {st2 : DSt} {acc2 : List DV}, Ext (φ.out D) φ2 H H2 → RSt g φ2 H2 st2 → (∃ xs, H2 D = some (.lst xs) ∧ RVs g φ2 H2 acc2 xs) → LcAt g φ1 H1 D env (L2.wipe σ0 own) ⟨φ2.rf, φ.rs⟩ H2 st2 acc2 := by
      intro φ2 H2 st2 acc2 x s m
      have e := Lay.out_of x
      have m' : ∃ xs, H2 D = some (.lst xs) ∧ RVs g (Lay.out ⟨φ2.rf, φ.rs⟩ D) H2 acc2 xs := by rw [← e]; exact m
      have s' : RSt g (Lay.out ⟨φ2.rf, φ.rs⟩ D) H2 st2 := by rw [← e]; exact s
      have x' : Ext (φ.out D) (Lay.out ⟨φ2.rf, φ.rs⟩ D) H H2 := by rw [← e]; exact x
      exact ⟨L.free, L.ext.trans ⟨x.pre, rfl, fun a o na ha => x.keep a o na ha⟩, s', L.env_.ext L.st_.tame x', m'⟩
    obtain ⟨xs, hD, rx⟩ := L.made
    have nD := (L.st_.res D (List.mem_cons_self ..)).1
    cases q1 : tm env2 st with
    | bad => simp only [q1] at p; exact (hno p).elim
    | exc e s => simp only [q1] at p; exact (hno p).elim
    | ok b st2 =>
      intro φ2 H2 b' x20 s2 rb
      cases rb
      have x2 := x0.trans x20
      have hD2 := (x2.keep D _ nD hD).1
      cases b with
      | false =>
        simp only [q1] at p
        exact hk _ H2 st2 (go x2 s2 ⟨xs, hD2, RVs.ext L.st_.tame x2 _ _ rx⟩) p
      | true =>
        simp only [q1] at p
        refine ⟨φ2, env2, st2, s2, n2.ext s0.tame x20, ?_⟩
        cases q2 : em env2 st2 with
        | bad => simp only [q2] at p; exact (hno p).elim
        | exc e s => simp only [q2] at p; exact (hno p).elim
        | ok y st3 =>
          simp only [q2] at p
          intro φ3 H3 yv x3 s3 ry
          have x23 := x2.trans x3
          have hD3 := (x23.keep D _ nD hD).1
          have rx3 := RVs.ext L.st_.tame x23 _ _ rx
          split at p
          · rename_i hl
            refine ⟨xs, hD3, by rw [← rx.length]; exact hl, ?_⟩
            have L3 := go x23 s3 ⟨xs, hD3, rx3⟩
            have e3 := Lay.out_of x23
            refine hy ⟨φ3.rf, φ.rs⟩ _ st3 y ⟨L.free, ?_, L3.st_.grow hD3, L3.env_.map (RV.grow hD3), xs ++ [yv], upd_same, ?_⟩ p
            · refine ⟨L3.ext.pre, L3.ext.rs, fun a o na ha => ?_⟩
              obtain ⟨k1, k2⟩ := L3.ext.keep a o na ha
              exact ⟨by rw [upd_ne (ne_of_none ha L.free)]; exact k1, k2⟩
            · refine RVs.mapR (RV.grow hD3) _ _ ?_
              rw [← e3]
              exact RVs.append rx3 (RVs.one ry)
          · exact (hno p).elim

theorem setSame {α : Type} {x : α} : ∀ {l : List α} {i : Nat}, l[i]? = some x → l.set i x = l
  | [], _, _ => rfl
  | a :: l, 0, h => by simp at h; simp [h]
  | a :: l, i + 1, h => by simp at h; simp [setSame h]
theorem wipe_wipe (σ : L2.St) : ∀ own : List Nat, L2.wipe (L2.wipe σ own) own = L2.wipe σ own := by
  have key : ∀ (own : List Nat) (τ : L2.St), (∀ i, i ∈ own → τ[i]? = some none ∨ τ.length ≤ i) → L2.wipe τ own = τ := by
    intro own
    induction own with
    | nil => intro τ _; rfl
    | cons i own ih =>
      intro τ h
      unfold L2.wipe
      rw [ih τ fun j hj => h j (List.mem_cons_of_mem _ hj)]
      rcases h i (List.mem_cons_self ..) with q | q
      · exact setSame q
      · exact List.set_eq_of_length_le q
  intro own
  refine key own _ ?_
  induction own with
  | nil => intro i h; cases h
  | cons j own ih =>
    intro i h
    unfold L2.wipe
    rw [List.getElem?_set, List.length_set]
    by_cases e : j = i
    · subst e
      by_cases hl : j < (L2.wipe σ own).length
      · simp [hl]
      · exact .inr (Nat.le_of_not_lt hl)
    · simp only [e, if_false]
      exact ih i ((List.mem_cons.mp h).resolve_left (fun z => e z.symm))
/-- the reading of a comprehension -/
theorem lc_read {im : Im} {σ : L2.St} {H : Hp} {Q : VK} {kf : List DV → DSt → Res DV}
    (fin : ∀ (φ1 φ : Lay) (H1 H : Hp) (D : Addr) (st : DSt) (acc : List DV) (xs : List V), H1 D = none → D ∉ φ.rs → Ext φ1 φ H1 H → RSt g (φ.out D) H st → H D = some (.lst xs) → RVs g (φ.out D) H acc xs → Post g (RV g) (fun c d H' => W c d σ H') φ1 H1 Q (kf acc st) → Q (.ref D) H)
    (h : TM g (RV g) W (fun env st => (lcs im gm tm em own env st).bind kf) σ H Q) (ok : TgOk g own t gm) : tLc (TM g (RIt g) W im) t (TM g EqR W0 tm) (TM g (RV g) W0 em) own σ H Q := by
  obtain ⟨φ, env, st, s, n, h⟩ := h
  have h' : Post g (RV g) (fun c d H' => W c d σ H') φ H Q ((im env st).bind fun it st1 => ((match it with
    | .items ds => lcM gm tm em (wipeE env own) ds [] st1
    | .refl n => lcR gm tm em (wipeE env own) n turns 0 [] st1) : Res (List DV)).bind kf) := by
    have e : (lcs im gm tm em own env st).bind kf = (im env st).bind fun it st1 => ((match it with
      | .items ds => lcM gm tm em (wipeE env own) ds [] st1
      | .refl n => lcR gm tm em (wipeE env own) n turns 0 [] st1) : Res (List DV)).bind kf := by
      unfold lcs
      cases im env st <;> rfl
    rw [← e]; exact h
  refine ⟨φ, env, st, s, n, Post.bind h' fun it st1 φ1 H1 J x1 s1 rJ p => fun D hD => ?_⟩
  have nres : D ∉ φ1.rs := s1.notres hD
  have n1 := (n.ext s.tame x1).wipe own
  have L0 : LcAt g φ1 H1 D (wipeE env own) (L2.wipe σ own) φ1 (upd H1 D (.lst [])) st1 [] :=
    ⟨hD, Ext.new s1 hD, s1.enter hD, REnv.enter s1 hD n1, [], upd_same, RVs.nil⟩
  have bad : ¬ Post g (RV g) (fun c d H' => W c d σ H') φ1 H1 Q ((Res.bad : Res (List DV)).bind kf) := fun z => z
  -- the item at a turn
  have item : ∀ {φ2 : Lay} {H2 : Hp} {st2 : DSt} {acc : List DV} {x : V} {H3 : Hp} {d : DV}, LcAt g φ1 H1 D (wipeE env own) (L2.wipe σ own) φ2 H2 st2 acc → Ext (φ2.out D) (φ2.out D) H2 H3 → RSt g (φ2.out D) H3 st2 →
      LcAt g φ1 H1 D (wipeE env own) (L2.wipe σ own) φ2 H3 st2 acc := by
    intro φ2 H2 st2 acc x H3 d L y s3
    obtain ⟨xs, m1, m2⟩ := L.made
    have nD := (L.st_.res D (List.mem_cons_self ..)).1
    exact ⟨L.free, L.ext.trans ⟨⟨[], by simp⟩, rfl, fun a o na ha => y.keep a o na ha⟩, s3, L.env_.ext L.st_.tame y, xs, (y.keep D _ nD m1).1, RVs.ext L.st_.tame y _ _ m2⟩
  cases it with
  | items ds =>
    refine ⟨fun i m H2 => m + i = ds.length ∧ ∃ φ2 st2 acc, LcAt g φ1 H1 D (wipeE env own) (L2.wipe σ own) φ2 H2 st2 acc ∧ Post g (RV g) (fun c d H' => W c d σ H') φ1 H1 Q ((lcM gm tm em (wipeE env own) (ds.drop i) acc st2).bind kf),
      ⟨ds.length, rfl, φ1, st1, [], L0, p⟩, ?_⟩
    rintro i m H2 ⟨hm, φ2, st2, acc, L, p2⟩
    have w2 : ExtW φ1 (φ2.out D) H1 H2 := ⟨L.ext.pre, fun a ha => by
      rcases List.mem_cons.mp ha with z | z
      · subst z; exact .inr hD
      · exact .inl (by rw [← L.ext.rs]; exact z), L.ext.keep⟩
    have rj := rJ (φ2.out D) H2 st2 i w2 L.st_
    by_cases hi : i < ds.length
    · obtain ⟨go, yl⟩ := rj.1 hi
      refine .inr ⟨go, fun H3 => m - 1 + (i + 1) = ds.length ∧ ∃ φ2 st2 acc, LcAt g φ1 H1 D (wipeE env own) (L2.wipe σ own) φ2 H3 st2 acc ∧ Post g (RV g) (fun c d H' => W c d σ H') φ1 H1 Q ((lcM gm tm em (wipeE env own) (ds.drop (i + 1)) acc st2).bind kf),
        fun H3 q => ⟨m - 1, by omega, q⟩, fun x H3 y => ?_⟩
      obtain ⟨y1, s3, d, hd, rd⟩ := yl x H3 y
      rw [List.getElem?_eq_getElem hi] at hd
      cases hd
      rw [List.drop_eq_getElem_cons hi] at p2
      have L3 := item (x := x) (d := ds[i]) L y1 s3
      exact lc_turn (P := fun r => Post g (RV g) (fun c d H' => W c d σ H') φ1 H1 Q (r.bind kf)) (no := Res.bad) (yes := fun acc2 st3 => lcM gm tm em (wipeE env own) (ds.drop (i + 1)) acc2 st3) (keep := fun st3 => lcM gm tm em (wipeE env own) (ds.drop (i + 1)) acc st3)
        ok L3 rd (wipe_wipe σ own) bad p2 (fun φ4 H4 st4 y4 L4 p4 => ⟨by omega, φ4, st4, _, L4, p4⟩) fun φ4 H4 st4 L4 p4 => ⟨by omega, φ4, st4, acc, L4, p4⟩
    · have hi' := Nat.le_of_not_lt hi
      rw [List.drop_eq_nil_of_le hi'] at p2
      obtain ⟨xs, m1, m2⟩ := L.made
      exact .inl ⟨rj.2 hi', fin φ1 φ2 H1 H2 D st2 acc xs hD (by rw [L.ext.rs]; exact nres) L.ext L.st_ m1 m2 p2⟩
  | refl k =>
    refine ⟨fun i m H2 => ∃ φ2 st2 acc, LcAt g φ1 H1 D (wipeE env own) (L2.wipe σ own) φ2 H2 st2 acc ∧ Post g (RV g) (fun c d H' => W c d σ H') φ1 H1 Q ((lcR gm tm em (wipeE env own) k m i acc st2).bind kf),
      ⟨turns, φ1, st1, [], L0, p⟩, ?_⟩
    rintro i m H2 ⟨φ2, st2, acc, L, p2⟩
    have w2 : ExtW φ1 (φ2.out D) H1 H2 := ⟨L.ext.pre, fun a ha => by
      rcases List.mem_cons.mp ha with z | z
      · subst z; exact .inr hD
      · exact .inl (by rw [← L.ext.rs]; exact z), L.ext.keep⟩
    cases m with
    | zero => exact p2.elim
    | succ m =>
      unfold lcR at p2
      cases q : st2[k]? with
      | none => simp only [q] at p2; exact (bad p2).elim
      | some o =>
        cases o with
        | dct kvs => simp only [q] at p2; exact (bad p2).elim
        | ins c fs => simp only [q] at p2; exact (bad p2).elim
        | dcn kvs => simp only [q] at p2; exact (bad p2).elim
        | lst ds =>
          have rj := rJ (φ2.out D) H2 st2 i ds w2 L.st_ q
          simp only [q] at p2
          cases q2 : ds[i]? with
          | none =>
            simp only [q2] at p2
            obtain ⟨xs, m1, m2⟩ := L.made
            exact .inl ⟨rj.2 (List.getElem?_eq_none_iff.mp q2), fin φ1 φ2 H1 H2 D st2 acc xs hD (by rw [L.ext.rs]; exact nres) L.ext L.st_ m1 m2 p2⟩
          | some d0 =>
            simp only [q2] at p2
            obtain ⟨go, yl⟩ := rj.1 (List.getElem?_eq_some_iff.mp q2).1
            refine .inr ⟨go, fun H3 => ∃ φ2 st2 acc, LcAt g φ1 H1 D (wipeE env own) (L2.wipe σ own) φ2 H3 st2 acc ∧ Post g (RV g) (fun c d H' => W c d σ H') φ1 H1 Q ((lcR gm tm em (wipeE env own) k m (i + 1) acc st2).bind kf),
              fun H3 q => ⟨m, Nat.lt_succ_self _, q⟩, fun x H3 y => ?_⟩
            obtain ⟨y1, s3, d, hd, rd⟩ := yl x H3 y
            rw [q2] at hd
            cases hd
            have L3 := item (x := x) (d := d0) L y1 s3
            exact lc_turn (P := fun r => Post g (RV g) (fun c d H' => W c d σ H') φ1 H1 Q (r.bind kf)) (no := Res.bad) (yes := fun acc2 st3 => lcR gm tm em (wipeE env own) k m (i + 1) acc2 st3) (keep := fun st3 => lcR gm tm em (wipeE env own) k m (i + 1) acc st3)
              ok L3 rd (wipe_wipe σ own) bad p2 (fun φ4 H4 st4 y4 L4 p4 => ⟨φ4, st4, _, L4, p4⟩) fun φ4 H4 st4 L4 p4 => ⟨φ4, st4, acc, L4, p4⟩
theorem fin_lst {σ : L2.St} {Q : VK} : ∀ (φ1 φ : Lay) (H1 H : Hp) (D : Addr) (st : DSt) (acc : List DV) (xs : List V), H1 D = none → D ∉ φ.rs → Ext φ1 φ H1 H → RSt g (φ.out D) H st → H D = some (.lst xs) → RVs g (φ.out D) H acc xs →
    Post g (RV g) (fun c d H' => W c d σ H') φ1 H1 Q ((fun acc st2 => Res.ok (.lst acc) st2) acc st) → Q (.ref D) H := by
  intro φ1 φ H1 H D st acc xs h1 nr x s hD r p
  refine p φ H (.ref D) x s.leave ?_
  simp only [RV]
  exact ⟨D, xs, rfl, ⟨(s.res D (List.mem_cons_self ..)).1, nr⟩, hD, RVs.leave _ _ r⟩
theorem fin_ref {σ : L2.St} {Q : VK} : ∀ (φ1 φ : Lay) (H1 H : Hp) (D : Addr) (st : DSt) (acc : List DV) (xs : List V), H1 D = none → D ∉ φ.rs → Ext φ1 φ H1 H → RSt g (φ.out D) H st → H D = some (.lst xs) → RVs g (φ.out D) H acc xs →
    Post g (RV g) (fun c d H' => W c d σ H') φ1 H1 Q ((fun acc st2 => Res.ok (.ref st2.length) (st2 ++ [.lst acc])) acc st) → Q (.ref D) H := by
  intro φ1 φ H1 H D st acc xs h1 nr x s hD r p
  refine p (φ.more D) H (.ref D) ?_ (s.promote nr hD r) ?_
  · obtain ⟨ψ, e⟩ := x.pre
    refine ⟨⟨ψ ++ [D], by show φ.rf ++ [D] = _; rw [e, List.append_assoc]⟩, x.rs, fun a o na ha => ?_⟩
    obtain ⟨k1, k2⟩ := x.keep a o na ha
    exact ⟨k1, by simpa using ⟨k2, ne_of_none ha h1⟩⟩
  · simp only [RV]
    refine ⟨D, rfl, ?_⟩
    have e : φ.rf.length = st.length := s.len
    show (φ.rf ++ [D])[st.length]? = some D
    rw [← e]
    simp
variable {elt tg iter : Expr} {ifs : List Expr} {scope : Scope} {ownN : List (Str × Nat)} {pos : Pos} {im : Im}
theorem pe_eLc (hc : X.calm = true) (hN : X.N.Nodup) (hi : PI X tg iter (TM g (RIt g) W im)) (bk : BlkOk X.N X.env.scope scope ownN) (ok : TgOk g (ownN.map (·.2)) t gm)
    (hg : ∀ (s : Shared) (H : Hp) (C : Addr) (cl : List (Str × Addr)) (fp : List Addr), PG (X.blk s H scope (compEnvC scope cl C X.env) fp) tg t)
    (ht : ∀ (s : Shared) (H : Hp) (C : Addr) (cl : List (Str × Addr)) (fp : List Addr), PTs (X.blk s H scope (compEnvC scope cl C X.env) fp) ifs (TM g EqR W0 tm))
    (he : ∀ (s : Shared) (H : Hp) (C : Addr) (cl : List (Str × Addr)) (fp : List Addr), PE (X.blk s H scope (compEnvC scope cl C X.env) fp) elt (TM g (RV g) W0 em)) (hs : ∀ x, foldedSetIterable iter X.env x = pure x := by intro _; rfl) :
    PE X (.ListComp elt [⟨tg, iter, ifs, 0⟩] scope pos) (TM g (RV g) W (eLc im gm tm em (ownN.map (·.2)))) :=
  (pe_lc hc hN hi bk hg ht he hs).imp fun σ H Q h => lc_read (kf := fun acc st2 => .ok (.lst acc) st2) fin_lst h ok
theorem pe_eLcR (hc : X.calm = true) (hN : X.N.Nodup) (hi : PI X tg iter (TM g (RIt g) W im)) (bk : BlkOk X.N X.env.scope scope ownN) (ok : TgOk g (ownN.map (·.2)) t gm)
    (hg : ∀ (s : Shared) (H : Hp) (C : Addr) (cl : List (Str × Addr)) (fp : List Addr), PG (X.blk s H scope (compEnvC scope cl C X.env) fp) tg t)
    (ht : ∀ (s : Shared) (H : Hp) (C : Addr) (cl : List (Str × Addr)) (fp : List Addr), PTs (X.blk s H scope (compEnvC scope cl C X.env) fp) ifs (TM g EqR W0 tm))
    (he : ∀ (s : Shared) (H : Hp) (C : Addr) (cl : List (Str × Addr)) (fp : List Addr), PE (X.blk s H scope (compEnvC scope cl C X.env) fp) elt (TM g (RV g) W0 em)) (hs : ∀ x, foldedSetIterable iter X.env x = pure x := by intro _; rfl) :
    PE X (.ListComp elt [⟨tg, iter, ifs, 0⟩] scope pos) (TM g (RV g) W (eLcR im gm tm em (ownN.map (·.2)))) :=
  (pe_lc hc hN hi bk hg ht he hs).imp fun σ H Q h => lc_read (kf := fun acc st2 => Res.ok (DV.ref st2.length) (st2 ++ [DO.lst acc])) fin_ref h ok
end
end DM

/-! DM6: what is walked; the operators; indices, slices. -/
namespace DM
open PySem PySem.Spec PyProof.Rows L2

section
variable {g : Gam} {φ : Lay} {H : Hp} {st : DSt}
theorem rvInt {i : Int} {x : V} (h : RV g φ H (.int i) x) : x = .int i := by simpa [RV] using h
theorem rvStr {i : Str} {x : V} (h : RV g φ H (.str i) x) : x = .str i := by simpa [RV] using h
theorem rvNon {x : V} (h : RV g φ H .non x) : x = .non := by simpa [RV] using h
theorem rvTy {n : String} {x : V} (h : RV g φ H (.ty n) x) : x = .ty n := by simpa [RV] using h
theorem rvGlo {n : Nat} {x : V} (h : RV g φ H (.glo n) x) : x = .ref (g.ad n) := by simpa [RV] using h
theorem mkInt {i : Int} : RV g φ H (.int i) (.int i) := by simp [RV]
theorem mkStr {i : Str} : RV g φ H (.str i) (.str i) := by simp [RV]
theorem mkNon : RV g φ H .non .non := by simp [RV]
/-- the items of a list -/
def lstOf (st : DSt) : DV → Option (List DV)
  | .lst ds => some ds
  | .ref n => (match st[n]? with
    | some (.lst ds) => some ds
    | _ => none)
  | _ => none
def seqOf (st : DSt) : DV → Option (List DV)
  | .lst ds => some ds
  | .fzl ds => some ds
  | .ref n => (match st[n]? with
    | some (.lst ds) => some ds
    | _ => none)
  | _ => none
theorem lstOf_ok (s : RSt g φ H st) {d : DV} {x : V} {ds : List DV} (r : RV g φ H d x) (e : lstOf st d = some ds) : ∃ a xs, x = .ref a ∧ H a = some (.lst xs) ∧ RVs g φ H ds xs := by
  cases d with
  | lst es =>
    simp only [lstOf, Option.some.injEq] at e
    subst e
    simp only [RV] at r
    obtain ⟨a, xs, e, _, h, q⟩ := r
    exact ⟨a, xs, e, h, q⟩
  | ref n =>
    simp only [lstOf] at e
    simp only [RV] at r
    obtain ⟨a, e1, q⟩ := r
    cases hq : st[n]? with
    | none => simp [hq] at e
    | some o =>
      obtain ⟨a', ho, h1, h2, h3⟩ := s.get hq
      rw [q] at h1
      cases h1
      cases o with
      | lst es =>
        simp [hq] at e
        subst e
        obtain ⟨xs, e3, h4⟩ := h3
        subst e3
        exact ⟨a, xs, e1, h2, h4⟩
      | dct kvs => simp [hq] at e
      | ins c fs => simp [hq] at e
      | dcn kvs => simp [hq] at e
  | _ => simp [lstOf] at e
theorem seqOf_ok (s : RSt g φ H st) {d : DV} {x : V} {ds : List DV} (r : RV g φ H d x) (e : seqOf st d = some ds) : ∃ a xs, x = .ref a ∧ SqL g.K H a xs ∧ RVs g φ H ds xs := by
  cases d with
  | fzl es =>
    simp only [seqOf, Option.some.injEq] at e
    subst e
    simp only [RV] at r
    obtain ⟨a, xs, e, h, q⟩ := r
    refine ⟨a, xs, e, ?_, q⟩
    rcases h with ⟨_, h⟩ | h
    · exact .inl h
    · exact h H
  | lst es => obtain ⟨a, xs, e1, h, q⟩ := lstOf_ok (ds := ds) s r (by simpa [lstOf, seqOf] using e); exact ⟨a, xs, e1, .of h, q⟩
  | ref n => obtain ⟨a, xs, e1, h, q⟩ := lstOf_ok (ds := ds) s r (by simpa [lstOf, seqOf] using e); exact ⟨a, xs, e1, .of h, q⟩
  | _ => simp [seqOf] at e
theorem rvTup {ds : List DV} {x : V} (r : RV g φ H (.tup ds) x) : ∃ a xs, x = .ref a ∧ SqT g.K H a xs ∧ RVs g φ H ds xs := by simpa only [RV] using r
end

/-! ### what is walked -/
theorem _root_.L2.PI.or {X : Cx} {tg e : Expr} {w1 w2 : TI} (h1 : PI X tg e w1) (h2 : PI X tg e w2) : PI X tg e (fun σ H R => w1 σ H R ∨ w2 σ H R) :=
  ⟨fun pins s σ H R I h => h.elim (fun q => h1.run pins s σ H R I q) fun q => h2.run pins s σ H R I q⟩
theorem _root_.L2.PI.imp {X : Cx} {tg e : Expr} {w1 w2 : TI} (h1 : PI X tg e w1) (i : ∀ σ H R, w2 σ H R → w1 σ H R) : PI X tg e w2 := ⟨fun pins s σ H R I h => h1.run pins s σ H R I (i σ H R h)⟩
def signs (x : Str) : List DV := x.cps.toList.map fun c => .str ⟨#[c]⟩
def iSeq (a : Ex) : Im := fun env st => (a env st).bind fun d st1 => match d with
  | .lst ds => .ok (.items ds) st1
  | .fzl ds => .ok (.items ds) st1
  | .tup ds => .ok (.items ds) st1
  | .str x => .ok (.items (signs x)) st1
  | .ref n => (match st1[n]? with
    | some (.lst _) => .ok (.refl n) st1
    | _ => .bad)
  | _ => .bad
def rng1 (j : Int) : List DV := (List.range j.toNat).map fun k => .int (k : Nat)
def rng2 (i j : Int) : List DV := (List.range (j - i).toNat).map fun k => .int (i + (k : Nat))
def rng3 (i c : Int) (n : Nat) : List DV := (List.range n).map fun k => .int (i + (k : Nat) * c)
def iRngA (a : Exs) : Im := fun env st => (a env st).bind fun ds st1 => match ds with
  | [.int j] => if -(2 ^ 62) ≤ j ∧ j < 2 ^ 62 then .ok (.items (rng1 j)) st1 else .bad
  | _ => .bad
def iRngB (a : Exs) : Im := fun env st => (a env st).bind fun ds st1 => match ds with
  | [.int i, .int j] => if -(2 ^ 62) ≤ i ∧ i < 2 ^ 62 ∧ -(2 ^ 62) ≤ j ∧ j < 2 ^ 62 then .ok (.items (rng2 i j)) st1 else .bad
  | _ => .bad
def iRngC (a : Exs) : Im := fun env st => (a env st).bind fun ds st1 => match ds with
  | [.int i, .int j, .int c] => if c ≠ 0 ∧ c.natAbs < 1073741824 ∧ Builtin.Range.small i j c = true ∧ 0 ≤ Builtin.Range.rangeSize i j c then .ok (.items (rng3 i c (Builtin.Range.rangeSize i j c).toNat)) st1 else .bad
  | _ => .bad
def numd (ds : List DV) : List DV := ds.mapIdx fun i d => .tup [.int (i : Nat), d]
def iEnumM (a : Exs) : Im := fun env st => (a env st).bind fun ds st1 => match ds with
  | [.lst es] => .ok (.items (numd es)) st1
  | _ => .bad
def zipd (as bs : List DV) : List DV := (as.zip bs).map fun p => .tup [p.1, p.2]
theorem zipd_get {as bs : List DV} {i : Nat} {a b : DV} (h : as[i]? = some a) (h' : bs[i]? = some b) : (zipd as bs)[i]? = some (.tup [a, b]) := by
  unfold zipd
  rw [List.getElem?_map, show (as.zip bs)[i]? = some (a, b) from List.getElem?_zip_eq_some.mpr ⟨h, h'⟩]
  rfl
def iZipM (a : Exs) : Im := fun env st => (a env st).bind fun ds st1 => match ds with
  | [.lst as, .lst bs] => .ok (.items (zipd as bs)) st1
  | [.tup as, .tup bs] => .ok (.items (zipd as bs)) st1
  | _ => .bad
section
variable {X : Cx} {g : Gam} {W : WX} {e tg : Expr} {ma : Ex} {ms : Exs}
theorem RIt_list {φ : Lay} {H : Hp} {st : DSt} {a : Addr} {ds : List DV} {xs : List V} (s : RSt g φ H st) (h : ∀ φ' H', ExtW φ φ' H H' → SqL g.K H' a xs) (r : RVs g φ H ds xs) (hinj : ∀ H' ys, SqL g.K H' a xs → SqL g.K H' a ys → xs[0]? = xs[0]?) : RIt g φ H (.items ds) (Itl g.K a) := by
  intro φ' H' st' i x s'
  have h' := h φ' H' x
  have r' := RVs.extW s.tame x _ _ r
  refine ⟨fun hi => ?_, fun hi => ⟨xs, h', by rw [← r.length]; exact hi⟩⟩
  obtain ⟨v, hv, rv⟩ := r'.get (List.getElem?_eq_getElem hi)
  refine ⟨⟨xs, v, h', hv⟩, fun y H2 ⟨e1, e2⟩ => ?_⟩
  subst e1
  have e3 := e2 xs h'
  rw [hv] at e3
  cases e3
  exact ⟨Ext.refl, s', _, List.getElem?_eq_getElem hi, rv⟩
theorem RIt_tup {φ : Lay} {H : Hp} {st : DSt} {a : Addr} {ds : List DV} {xs : List V} (s : RSt g φ H st) (h : SqT g.K H a xs) (r : RVs g φ H ds xs) : RIt g φ H (.items ds) (Itt g.K a) := by
  intro φ' H' st' i x s'
  have h' := SqT.extW s.tame x h
  have r' := RVs.extW s.tame x _ _ r
  refine ⟨fun hi => ?_, fun hi => ⟨xs, h', by rw [← r.length]; exact hi⟩⟩
  obtain ⟨v, hv, rv⟩ := r'.get (List.getElem?_eq_getElem hi)
  refine ⟨⟨xs, v, h', hv⟩, fun y H2 ⟨e1, e2⟩ => ?_⟩
  subst e1
  have e3 := e2 xs h'
  rw [hv] at e3
  cases e3
  exact ⟨Ext.refl, s', _, List.getElem?_eq_getElem hi, rv⟩
theorem RIt_str {φ : Lay} {H : Hp} {st : DSt} {x : Str} (s : RSt g φ H st) : RIt g φ H (.items (signs x)) (Its x) := by
  intro φ' H' st' i w s'
  have hl : (signs x).length = x.cps.size := by simp [signs]
  refine ⟨fun hi => ⟨show i < x.cps.size by omega, ?_⟩, fun hi => show x.cps.size ≤ i by omega⟩
  rintro y H2 ⟨rfl, c, hc, rfl⟩
  refine ⟨Ext.refl, s', .str ⟨#[c]⟩, ?_, mkStr⟩
  simp [signs, hc]
theorem RIt_refl {φ : Lay} {H : Hp} {st : DSt} {a : Addr} {n : Nat} (s : RSt g φ H st) (h : φ.rf[n]? = some a) : RIt g φ H (.refl n) (Itl g.K a) := by
  intro φ' H' st' i ds x s' q
  obtain ⟨b, ho, h1, h2, h3⟩ := s'.get q
  rw [x.get h] at h1
  cases h1
  obtain ⟨xs, e1, r⟩ := h3
  subst e1
  refine ⟨fun hi => ?_, fun hi => ⟨xs, .of h2, by rw [← r.length]; exact hi⟩⟩
  obtain ⟨v, hv, rv⟩ := r.get (List.getElem?_eq_getElem hi)
  refine ⟨⟨xs, v, .of h2, hv⟩, fun y H2 ⟨e1, e2⟩ => ?_⟩
  subst e1
  have e3 := e2 xs (.of h2)
  rw [hv] at e3
  cases e3
  exact ⟨Ext.refl, s', _, List.getElem?_eq_getElem hi, rv⟩
theorem pi_iSeq (hK : X.K = g.K) (ha : PE X e (TM g (RV g) W ma)) : PI X tg e (TM g (RIt g) W (iSeq ma)) := by
  refine ((pi_list ha).or ((pi_tup ha).or (pi_str ha))).imp fun σ H R h => ?_
  obtain ⟨φ, env, st, s, n, h⟩ := h
  unfold iSeq at h
  have key : ∀ d st1, ma env st = .ok d st1 → (iList X.K (TM g (RV g) W ma) σ H R ∨ iTup X.K (TM g (RV g) W ma) σ H R ∨ iStr (TM g (RV g) W ma) σ H R) := by
    intro d st1 q
    rw [q] at h
    cases d with
    | lst ds =>
      refine .inl ⟨φ, env, st, s, n, ?_⟩
      rw [q]
      intro φ1 H1 v x1 s1 r1
      simp only [RV] at r1
      obtain ⟨a, xs, rfl, ⟨n1, n2⟩, hx, rx⟩ := r1
      refine ⟨a, rfl, ⟨xs, .of hx⟩, ?_⟩
      rw [hK]
      exact h φ1 H1 _ x1 s1 (RIt_list s1 (fun φ' H' w => .of (w.keep _ _ n1 hx).1) rx fun _ _ _ _ => rfl)
    | fzl ds =>
      refine .inl ⟨φ, env, st, s, n, ?_⟩
      rw [q]
      intro φ1 H1 v x1 s1 r1
      simp only [RV] at r1
      obtain ⟨a, xs, rfl, hx, rx⟩ := r1
      have hx' : ∀ φ' H', ExtW φ1 φ' H1 H' → SqL g.K H' a xs := by
        rcases hx with ⟨⟨n1, n2⟩, hx⟩ | hx
        · exact fun φ' H' w => .inl (Rd.extW w n1 hx).1
        · exact fun φ' H' w => hx H'
      refine ⟨a, rfl, ⟨xs, ?_⟩, ?_⟩
      · rw [hK]; exact hx' φ1 H1 Ext.refl.w
      rw [hK]
      exact h φ1 H1 _ x1 s1 (RIt_list s1 hx' rx fun _ _ _ _ => rfl)
    | tup ds =>
      refine .inr (.inl ⟨φ, env, st, s, n, ?_⟩)
      rw [q]
      intro φ1 H1 v x1 s1 r1
      simp only [RV] at r1
      obtain ⟨a, xs, rfl, hx, rx⟩ := r1
      refine ⟨a, rfl, ⟨xs, by rw [hK]; exact hx⟩, ?_⟩
      rw [hK]
      exact h φ1 H1 _ x1 s1 (RIt_tup s1 hx rx)
    | str x =>
      refine .inr (.inr ⟨φ, env, st, s, n, ?_⟩)
      rw [q]
      intro φ1 H1 v x1 s1 r1
      exact ⟨x, rvStr r1, h φ1 H1 _ x1 s1 (RIt_str s1)⟩
    | ref k =>
      refine .inl ⟨φ, env, st, s, n, ?_⟩
      rw [q]
      intro φ1 H1 v x1 s1 r1
      simp only [RV] at r1
      obtain ⟨a, rfl, hx⟩ := r1
      simp only [Res.bind_ok] at h
      cases q2 : st1[k]? with
      | none => simp only [q2] at h; exact h.elim
      | some o =>
        cases o with
        | lst ds =>
          simp only [q2] at h
          obtain ⟨b, ho, h1, h2, h3⟩ := s1.get q2
          rw [hx] at h1
          cases h1
          obtain ⟨xs, e1, r⟩ := h3
          subst e1
          refine ⟨a, rfl, ⟨xs, .of h2⟩, ?_⟩
          rw [hK]
          exact h φ1 H1 _ x1 s1 (RIt_refl s1 hx)
        | dct kvs => simp only [q2] at h; exact h.elim
        | ins c fs => simp only [q2] at h; exact h.elim
        | dcn kvs => simp only [q2] at h; exact h.elim
    | _ => exact h.elim
  cases q : ma env st with
  | ok d st1 => exact key d st1 q
  | bad => rw [q] at h; exact h.elim
  | exc e' s' =>
    refine .inl ⟨φ, env, st, s, n, ?_⟩
    rw [q] at h ⊢
    exact h

theorem RIt_ints {φ : Lay} {H : Hp} {J : It} {m : Nat} {f : Nat → Int} (go : ∀ i H, i < m → J.go i H) (stop : ∀ i H, m ≤ i → J.stop i H) (yl : ∀ i H x H', J.yld i H x H' → H' = H ∧ x = .int (f i)) :
    RIt g φ H (.items ((List.range m).map fun k => .int (f k))) J := by
  intro φ' H' st' i w s'
  have hlen : ((List.range m).map fun k => DV.int (f k)).length = m := by simp
  refine ⟨fun hi => ⟨go i H' (by omega), ?_⟩, fun hi => stop i H' (by omega)⟩
  intro y H2 q
  obtain ⟨rfl, rfl⟩ := yl _ _ _ _ q
  refine ⟨Ext.refl, s', .int (f i), ?_, mkInt⟩
  rw [List.getElem?_map, List.getElem?_range (by omega)]
  rfl
theorem rvs1 {φ : Lay} {H : Hp} {d : DV} {vs : List V} (r : RVs g φ H [d] vs) : ∃ x, vs = [x] ∧ RV g φ H d x := by
  simp only [RVs] at r
  obtain ⟨x, r, rfl, rx, rfl⟩ := r
  exact ⟨x, rfl, rx⟩
theorem rvs2 {φ : Lay} {H : Hp} {d e : DV} {vs : List V} (r : RVs g φ H [d, e] vs) : ∃ x y, vs = [x, y] ∧ RV g φ H d x ∧ RV g φ H e y := by
  simp only [RVs] at r
  obtain ⟨x, r, rfl, rx, y, r', rfl, ry, rfl⟩ := r
  exact ⟨x, y, rfl, rx, ry⟩
theorem rvs3 {φ : Lay} {H : Hp} {d e f : DV} {vs : List V} (r : RVs g φ H [d, e, f] vs) : ∃ x y z, vs = [x, y, z] ∧ RV g φ H d x ∧ RV g φ H e y ∧ RV g φ H f z := by
  simp only [RVs] at r
  obtain ⟨x, r, rfl, rx, y, r', rfl, ry, z, r'', rfl, rz, rfl⟩ := r
  exact ⟨x, y, z, rfl, rx, ry, rz⟩
theorem pi_iRngA {p pos : Pos} {a : Expr} (hg : Gl X "range") (hm : X.mg "range" = none) (ha : PA X [a] (TM g (RVs g) W ms)) (hs : starEach [a] X.env = [(false, eval a X.env)] := by rfl) : PI X tg (.Call (.Name "range" p) [a] [] pos) (TM g (RIt g) W (iRngA ms)) :=
  (pi_range1 hg hm ha hs).imp fun σ H R ⟨φ, env, st, s, n, h⟩ => ⟨φ, env, st, s, n, Post.bind h fun ds st1 φ1 H1 vs x1 s1 r1 h1 => by
    split at h1
    · rename_i j
      obtain ⟨x, rfl, rx⟩ := rvs1 r1
      cases rvInt rx
      split at h1
      · rename_i hj
        exact ⟨j, rfl, hj.1, hj.2, h1 φ1 H1 _ Ext.refl s1 (RIt_ints (fun i H h => h) (fun i H h => h) fun i H x H' ⟨e1, e2⟩ => ⟨e1, by rw [e2, Int.zero_add]⟩)⟩
      · exact h1.elim
    · exact h1.elim⟩
theorem pi_iRngB {p pos : Pos} {a b : Expr} (hg : Gl X "range") (hm : X.mg "range" = none) (ha : PA X [a, b] (TM g (RVs g) W ms)) (hs : starEach [a, b] X.env = [(false, eval a X.env), (false, eval b X.env)] := by rfl) (hs2 : starEach [b] X.env = [(false, eval b X.env)] := by rfl) :
    PI X tg (.Call (.Name "range" p) [a, b] [] pos) (TM g (RIt g) W (iRngB ms)) :=
  (pi_range2 hg hm ha hs hs2).imp fun σ H R ⟨φ, env, st, s, n, h⟩ => ⟨φ, env, st, s, n, Post.bind h fun ds st1 φ1 H1 vs x1 s1 r1 h1 => by
    split at h1
    · rename_i i j
      obtain ⟨x, y, rfl, rx, ry⟩ := rvs2 r1
      cases rvInt rx
      cases rvInt ry
      split at h1
      · rename_i hj
        exact ⟨i, j, rfl, hj, h1 φ1 H1 _ Ext.refl s1 (RIt_ints (fun i H h => h) (fun i H h => h) fun i H x H' ⟨e1, e2⟩ => ⟨e1, e2⟩)⟩
      · exact h1.elim
    · exact h1.elim⟩
theorem pi_iRngC {p pos : Pos} {a b c : Expr} (hg : Gl X "range") (hm : X.mg "range" = none) (ha : PA X [a, b, c] (TM g (RVs g) W ms))
    (h3 : PI X tg (.Call (.Name "range" p) [a, b, c] [] pos) (iRng3 (TM g (RVs g) W ms))) : PI X tg (.Call (.Name "range" p) [a, b, c] [] pos) (TM g (RIt g) W (iRngC ms)) :=
  h3.imp fun σ H R ⟨φ, env, st, s, n, h⟩ => ⟨φ, env, st, s, n, Post.bind h fun ds st1 φ1 H1 vs x1 s1 r1 h1 => by
    split at h1
    · rename_i i j c
      obtain ⟨x, y, z, rfl, rx, ry, rz⟩ := rvs3 r1
      cases rvInt rx
      cases rvInt ry
      cases rvInt rz
      split at h1
      · rename_i hj
        exact ⟨i, j, c, _, rfl, ⟨hj.1, hj.2.1, hj.2.2.1, (Int.toNat_of_nonneg hj.2.2.2).symm⟩, h1 φ1 H1 _ Ext.refl s1 (RIt_ints (fun i H h => h) (fun i H h => h) fun i H x H' ⟨e1, e2⟩ => ⟨e1, e2⟩)⟩
      · exact h1.elim
    · exact h1.elim⟩
theorem pi_iEnumM {elts : List Expr} {kk : Nat} {tpos p pos : Pos} {a : Expr} (hK : X.K = g.K) (hg : Gl X "enumerate") (hm : X.mg "enumerate" = none) (ha : PA X [a] (TM g (RVs g) W ms)) (hs : starEach [a] X.env = [(false, eval a X.env)] := by rfl) :
    PI X (.Tuple elts kk tpos) (.Call (.Name "enumerate" p) [a] [] pos) (TM g (RIt g) W (iEnumM ms)) :=
  (pi_enum hg hm ha hs).imp fun σ H R ⟨φ, env, st, s, n, h⟩ => ⟨φ, env, st, s, n, Post.bind h fun ds st1 φ1 H1 vs x1 s1 r1 h1 => by
    split at h1
    · rename_i es
      obtain ⟨x, rfl, rx⟩ := rvs1 r1
      simp only [RV] at rx
      obtain ⟨a, xs, rfl, ⟨n1, n2⟩, hx, rx⟩ := rx
      refine ⟨a, xs, rfl, .of hx, h1 φ1 H1 _ Ext.refl s1 ?_⟩
      intro φ' H' st' i w s'
      have hx' := (w.keep _ _ n1 hx).1
      have r' := RVs.extW s1.tame w _ _ rx
      have hlen : (numd es).length = es.length := by simp [numd]
      refine ⟨fun hi => ?_, fun hi => ⟨xs, .of hx', by rw [← rx.length]; omega⟩⟩
      obtain ⟨v, hv, rv⟩ := r'.get (List.getElem?_eq_getElem (show i < es.length by omega))
      refine ⟨⟨xs, v, .of hx', hv⟩, fun y H2 ⟨T, z, e1, hT, e2, e3⟩ => ?_⟩
      subst e1
      subst e2
      have e4 := e3 xs (.of hx')
      rw [hv] at e4
      cases e4
      refine ⟨Ext.new s' hT, s'.new hT, .tup [.int (i : Nat), es[i]], ?_, ?_⟩
      · have hi' : i < es.length := by omega
        simp [numd, hi']
      · simp only [RV]
        exact ⟨T, _, rfl, .of upd_same, RVs.cons mkInt (RVs.one (RV.ext s'.tame (Ext.new s' hT) _ _ rv))⟩
    · exact h1.elim⟩
theorem pi_iZipM {elts : List Expr} {kk : Nat} {tpos p pos : Pos} {a b : Expr} (hK : X.K = g.K) (hg : Gl X "zip") (hm : X.mg "zip" = none) (ha : PA X [a, b] (TM g (RVs g) W ms)) (hs : starEach [a, b] X.env = (false, eval a X.env) :: starEach [b] X.env := by rfl)
    (hpl : (backTo pos (starEach [b] X.env)).any (·.1) = false := by rfl) : PI X (.Tuple elts kk tpos) (.Call (.Name "zip" p) [a, b] [] pos) (TM g (RIt g) W (iZipM ms)) :=
  (RZ.pi_zipA hg hm ha hs hpl).imp fun σ H R ⟨φ, env, st, s, n, h⟩ => ⟨φ, env, st, s, n, Post.bind h fun ds st1 φ1 H1 vs x1 s1 r1 h1 => by
    have hl : ∀ as bs : List DV, (zipd as bs).length = min as.length bs.length := fun as bs => by simp [zipd]
    split at h1
    · rename_i as bs
      obtain ⟨x, y, rfl, rx, ry⟩ := rvs2 r1
      simp only [RV] at rx ry
      obtain ⟨a, xs, rfl, ⟨n1, n2⟩, hx, rx⟩ := rx
      obtain ⟨b, ys, rfl, ⟨m1, m2⟩, hy, ry⟩ := ry
      refine ⟨a, b, xs, ys, rfl, .inl ⟨.of hx, .of hy, h1 φ1 H1 _ Ext.refl s1 ?_⟩⟩
      intro φ' H' st' i w s'
      have hx' := (w.keep _ _ n1 hx).1
      have hy' := (w.keep _ _ m1 hy).1
      have rx' := RVs.extW s1.tame w _ _ rx
      have ry' := RVs.extW s1.tame w _ _ ry
      have lx := rx.length
      have ly := ry.length
      have hll := hl as bs
      refine ⟨fun hi => ?_, fun hi => ⟨xs, ys, .of hx', .of hy', by omega⟩⟩
      obtain ⟨v, hv, rv⟩ := rx'.get (List.getElem?_eq_getElem (show i < as.length by omega))
      obtain ⟨u, hu, ru⟩ := ry'.get (List.getElem?_eq_getElem (show i < bs.length by omega))
      refine ⟨⟨xs, ys, v, u, .of hx', .of hy', hv, hu⟩, fun y H2 ⟨T, z, z', e1, hT, e2, e3, e3'⟩ => ?_⟩
      subst e1
      subst e2
      have e4 := e3 xs (.of hx')
      rw [hv] at e4
      cases e4
      have e5 := e3' ys (.of hy')
      rw [hu] at e5
      cases e5
      refine ⟨Ext.new s' hT, s'.new hT, .tup [as[i], bs[i]], ?_, ?_⟩
      · have h1' : i < as.length := by omega
        have h2' : i < bs.length := by omega
        exact zipd_get (List.getElem?_eq_getElem h1') (List.getElem?_eq_getElem h2')
      · simp only [RV]
        exact ⟨T, _, rfl, .of upd_same, RVs.cons (RV.ext s'.tame (Ext.new s' hT) _ _ rv) (RVs.one (RV.ext s'.tame (Ext.new s' hT) _ _ ru))⟩
    · rename_i as bs
      obtain ⟨x, y, rfl, rx, ry⟩ := rvs2 r1
      obtain ⟨a, xs, rfl, hx, rx⟩ := rvTup rx
      obtain ⟨b, ys, rfl, hy, ry⟩ := rvTup ry
      rw [hK]
      refine ⟨a, b, xs, ys, rfl, .inr ⟨hx, hy, h1 φ1 H1 _ Ext.refl s1 ?_⟩⟩
      intro φ' H' st' i w s'
      have hx' := SqT.extW s1.tame w hx
      have hy' := SqT.extW s1.tame w hy
      have rx' := RVs.extW s1.tame w _ _ rx
      have ry' := RVs.extW s1.tame w _ _ ry
      have lx := rx.length
      have ly := ry.length
      have hll := hl as bs
      refine ⟨fun hi => ?_, fun hi => ⟨xs, ys, hx', hy', by omega⟩⟩
      obtain ⟨v, hv, rv⟩ := rx'.get (List.getElem?_eq_getElem (show i < as.length by omega))
      obtain ⟨u, hu, ru⟩ := ry'.get (List.getElem?_eq_getElem (show i < bs.length by omega))
      refine ⟨⟨xs, ys, v, u, hx', hy', hv, hu⟩, fun y H2 ⟨T, z, z', e1, hT, e2, e3, e3'⟩ => ?_⟩
      subst e1
      subst e2
      have e4 := e3 xs hx'
      rw [hv] at e4
      cases e4
      have e5 := e3' ys hy'
      rw [hu] at e5
      cases e5
      refine ⟨Ext.new s' hT, s'.new hT, .tup [as[i], bs[i]], ?_, ?_⟩
      · have h1' : i < as.length := by omega
        have h2' : i < bs.length := by omega
        exact zipd_get (List.getElem?_eq_getElem h1') (List.getElem?_eq_getElem h2')
      · simp only [RV]
        exact ⟨T, _, rfl, .of upd_same, RVs.cons (RV.ext s'.tame (Ext.new s' hT) _ _ rv) (RVs.one (RV.ext s'.tame (Ext.new s' hT) _ _ ru))⟩
    · exact h1.elim⟩
end
end DM

/-! DM7: the operators by values. -/
namespace DM
open PySem PySem.Spec PyProof.Rows L2

/-! ### data as a whole -/
mutual
def pyV : DV → Option PyData
  | .non => some .none
  | .bl b => some (.bool b)
  | .int i => some (.int i)
  | .str x => some (.str x)
  | .tup ds => (pyVs ds).map .tuple
  | .lst ds => (pyVs ds).map .list
  | .fzl ds => (pyVs ds).map .list
  | .ref _ => none
  | .glo _ => none
  | .ty _ => none
def pyVs : List DV → Option (List PyData)
  | [] => some []
  | d :: ds => (pyV d).bind fun x => (pyVs ds).map fun r => x :: r
end
/-- .. and a list of the state -/
def pyD (st : DSt) : DV → Option PyData
  | .ref n => (match st[n]? with
    | some (.lst ds) => (pyVs ds).map .list
    | _ => none)
  | d => pyV d
section
variable {g : Gam} {φ : Lay} {H : Hp} {st : DSt}
mutual
theorem pyV_ok : ∀ (d : DV) (x : V) (p : PyData), RV g φ H d x → pyV d = some p → Dp g.K H x p
  | .non, x, p, r, e => by cases rvNon r; simp only [pyV, Option.some.injEq] at e; subst e; exact .non
  | .bl b, x, p, r, e => by cases RVbl r; simp only [pyV, Option.some.injEq] at e; subst e; exact .bl b
  | .int b, x, p, r, e => by cases rvInt r; simp only [pyV, Option.some.injEq] at e; subst e; exact .int b
  | .str b, x, p, r, e => by cases rvStr r; simp only [pyV, Option.some.injEq] at e; subst e; exact .str b
  | .tup ds, x, p, r, e => by
    obtain ⟨a, xs, rfl, q, rs⟩ := rvTup r
    simp only [pyV, Option.map_eq_some_iff] at e
    obtain ⟨ps, e1, rfl⟩ := e
    exact .tup q (pyVs_ok ds xs ps rs e1)
  | .lst ds, x, p, r, e => by
    simp only [RV] at r
    obtain ⟨a, xs, rfl, _, q, rs⟩ := r
    simp only [pyV, Option.map_eq_some_iff] at e
    obtain ⟨ps, e1, rfl⟩ := e
    exact .lst (.of q) (pyVs_ok ds xs ps rs e1)
  | .fzl ds, x, p, r, e => by
    simp only [RV] at r
    obtain ⟨a, xs, rfl, q, rs⟩ := r
    simp only [pyV, Option.map_eq_some_iff] at e
    obtain ⟨ps, e1, rfl⟩ := e
    refine .lst ?_ (pyVs_ok ds xs ps rs e1)
    rcases q with ⟨_, q⟩ | q
    · exact .inl q
    · exact q H
  | .ref _, _, _, _, e => by simp [pyV] at e
  | .glo _, _, _, _, e => by simp [pyV] at e
  | .ty _, _, _, _, e => by simp [pyV] at e
theorem pyVs_ok : ∀ (ds : List DV) (xs : List V) (ps : List PyData), RVs g φ H ds xs → pyVs ds = some ps → DpAll g.K H xs ps
  | [], xs, ps, r, e => by
    simp only [RVs] at r
    simp only [pyVs, Option.some.injEq] at e
    subst r; subst e
    exact .nil
  | d :: ds, xs, ps, r, e => by
    simp only [RVs] at r
    obtain ⟨y, r', rfl, r1, r2⟩ := r
    simp only [pyVs, Option.bind_eq_some_iff, Option.map_eq_some_iff] at e
    obtain ⟨p, e1, ps', e2, rfl⟩ := e
    exact .cons (pyV_ok d y p r1 e1) (pyVs_ok ds r' ps' r2 e2)
end
theorem pyD_ok (s : RSt g φ H st) {d : DV} {x : V} {p : PyData} (r : RV g φ H d x) (e : pyD st d = some p) : Dp g.K H x p := by
  cases d with
  | ref n =>
    simp only [pyD] at e
    cases q : st[n]? with
    | none => simp [q] at e
    | some o =>
      cases o with
      | lst ds =>
        simp only [q, Option.map_eq_some_iff] at e
        obtain ⟨ps, e1, rfl⟩ := e
        obtain ⟨a, xs, rfl, h, rs⟩ := lstOf_ok (ds := ds) s r (by simp [lstOf, q])
        exact .lst (.of h) (pyVs_ok ds xs ps rs e1)
      | dct kvs => simp [q] at e
      | ins c fs => simp [q] at e
      | dcn kvs => simp [q] at e
  | _ => exact pyV_ok _ _ _ r (by simpa [pyD] using e)
end

/-! ### the primitives -/
def addP : DV → DV → DSt → Option (DV × DSt)
  | .int i, .int j, st => some (.int (i + j), st)
  | .str a, .str b, st => if a.length + b.length ≤ sizeLine then some (.str (a ++ b), st) else none
  | .tup a, .tup b, st => if a ≠ [] ∧ a.length + b.length ≤ sizeLine then some (.tup (a ++ b), st) else none
  | x, y, st => (lstOf st x).bind fun a => (lstOf st y).bind fun b => if a.length + b.length ≤ sizeLine then some (.lst (a ++ b), st) else none
def subP : DV → DV → DSt → Option (DV × DSt)
  | .int i, .int j, st => some (.int (i - j), st)
  | _, _, _ => none
def smallI (i : Int) : Bool := decide (-(2 ^ 64) < i ∧ i < 2 ^ 64)
def mulP : DV → DV → DSt → Option (DV × DSt)
  | .int i, .int j, st => if smallI i || smallI j then some (.int (i * j), st) else none
  | .tup a, .int k, st => if a ≠ [] ∧ 2 ≤ k ∧ k ≤ 1000 ∧ a.length ≤ 1000 then some (.tup (List.replicate k.toNat a).flatten, st) else none
  | x, .int k, st => (lstOf st x).bind fun a => if -(2 ^ 63) ≤ k ∧ k < 2 ^ 63 ∧ a.length * k.toNat ≤ sizeLine then some (.lst (List.replicate k.toNat a).flatten, st) else none
  | _, _, _ => none
def divP : DV → DV → DSt → Option (DV × DSt)
  | .int i, .int j, st => if 0 < j ∧ j < 1073741824 then some (.int (i / j), st) else none
  | _, _, _ => none
def modP : DV → DV → DSt → Option (DV × DSt)
  | .int i, .int j, st => if 0 < j then some (.int (i % j), st) else none
  | _, _, _ => none
def powP : DV → DV → DSt → Option (DV × DSt)
  | .int i, .int j, st => if 0 ≤ j ∧ j ≤ 1000000 ∧ i.natAbs < 2 ^ 64 then some (.int (i ^ j.toNat), st) else none
  | _, _, _ => none
def negP : DV → DSt → Option (DV × DSt)
  | .int i, st => some (.int (-i), st)
  | _, _ => none
/-- == where both are plain -/
def eqS : DV → DV → Option Bool
  | .int i, .int j => some (decide (i = j))
  | .str i, .str j => some (decide (i = j))
  | .bl i, .bl j => some (decide (i = j))
  | .non, .non => some true
  | .non, .int _ => some false
  | .int _, .non => some false
  | .non, .str _ => some false
  | .str _, .non => some false
  | .int _, .str _ => some false
  | .str _, .int _ => some false
  | .bl _, .str _ => some false
  | .str _, .bl _ => some false
  | .bl _, .non => some false
  | .non, .bl _ => some false
  | _, _ => none
def eqB (st : DSt) (x y : DV) : Option Bool := match eqS x y with
  | some b => some b
  | none => (pyD st x).bind fun p => (pyD st y).bind fun q => if (SeqAt.shaped p && SeqAt.shaped q) = true then some (PyData.eqv p q) else none
def eqP (x y : DV) (st : DSt) : Option (DV × DSt) := (eqB st x y).map fun b => (.bl b, st)
def neP (x y : DV) (st : DSt) : Option (DV × DSt) := (eqB st x y).map fun b => (.bl (!b), st)
def ltP : DV → DV → DSt → Option (DV × DSt)
  | .int i, .int j, st => some (.bl (decide (i < j)), st)
  | .str i, .str j, st => some (.bl (decide (i.cps.toList < j.cps.toList)), st)
  | _, _, _ => none
def leP : DV → DV → DSt → Option (DV × DSt)
  | .int i, .int j, st => some (.bl (decide (i ≤ j)), st)
  | .str i, .str j, st => some (.bl (!decide (j.cps.toList < i.cps.toList)), st)
  | _, _, _ => none
def gtP : DV → DV → DSt → Option (DV × DSt)
  | .int i, .int j, st => some (.bl (decide (j < i)), st)
  | .str i, .str j, st => some (.bl (decide (j.cps.toList < i.cps.toList)), st)
  | _, _, _ => none
def geP : DV → DV → DSt → Option (DV × DSt)
  | .int i, .int j, st => some (.bl (decide (j ≤ i)), st)
  | .str i, .str j, st => some (.bl (!decide (i.cps.toList < j.cps.toList)), st)
  | _, _, _ => none
def isNon : DV → Bool
  | .non => true
  | _ => false
def isP : DV → DV → DSt → Option (DV × DSt)
  | x, .non, st => some (.bl (isNon x), st)
  | _, _, _ => none
def isntP : DV → DV → DSt → Option (DV × DSt)
  | x, .non, st => some (.bl (!isNon x), st)
  | _, _, _ => none
/-- == of flat values -/
def flatD : DV → Bool
  | .non => true
  | .bl _ => true
  | .int _ => true
  | .str _ => true
  | _ => false
def eqF : DV → DV → Bool
  | .non, .non => true
  | .bl a, .bl b => a == b
  | .bl a, .int b => (if a then 1 else 0) == b
  | .int a, .bl b => a == (if b then 1 else 0)
  | .int a, .int b => a == b
  | .str a, .str b => a == b
  | _, _ => false
/-- x in y -/
def inB (st : DSt) (x y : DV) : Option Bool :=
  match y with
  | .str z => (match x with
    | .str w => if w.cps.size = 1 then some (decide (w.cps.getD 0 0 ∈ z.cps.toList)) else some (!(Builtin.Str.occurrences z w 0 z.length 1).isEmpty)
    | _ => none)
  | .tup ds => if flatD x = true ∧ ds.all flatD = true then some (ds.any fun y => eqF y x) else none
  | y => (seqOf st y).bind fun ds => if flatD x = true ∧ ds.all flatD = true then some (ds.any fun y => eqF y x) else
      (pyD st x).bind fun p => (pyVs ds).bind fun ps => if (SeqAt.shaped p && SeqAt.shaped (.list ps)) = true then some (ps.any fun z => PyData.eqv z p) else none
def inP (x y : DV) (st : DSt) : Option (DV × DSt) := (inB st x y).map fun b => (.bl b, st)
def notinP (x y : DV) (st : DSt) : Option (DV × DSt) := (inB st x y).map fun b => (.bl (!b), st)

section
variable {X : Cx} {g : Gam}
theorem po1 {α β : Type} {R : Rl α β} {φ : Lay} {H : Hp} {st : DSt} {Q : β → Hp → Prop} {a : α} {b : β} (s : RSt g φ H st) (h : PostO g R φ H Q (some (a, st))) (r : R φ H a b) : Q b H := h φ H b Ext.refl s r
def rAddA (K : PySem.W.Frag) : R2 := fun x y H Q => (rI0 (fun i j => .int (i + j)) x y H Q ∨ ∃ i j, x = .str i ∧ y = .str j ∧ i.length + j.length ≤ sizeLine ∧ Q (.str (i ++ j)) H) ∨ (rCatT K x y H Q ∨ rCat x y H Q)
theorem or_add : OpR X (binaryOp .Add) (rAddA X.K) := (op_add.or op_add_str).or (op_catT.or op_cat)
theorem pr_add : Prim2 g (rAddA g.K) addP := by
  intro φ st H x y dx dy Q s rx ry h
  have general : ∀ a b, lstOf st dx = some a → lstOf st dy = some b → (PostO g (RV g) φ H Q (if a.length + b.length ≤ sizeLine then some (.lst (a ++ b), st) else none)) → rAddA g.K x y H Q := by
    intro a b ea eb h
    obtain ⟨l, xs, rfl, hl, ra⟩ := lstOf_ok s rx ea
    obtain ⟨m, ys, rfl, hm, rb⟩ := lstOf_ok s ry eb
    split at h
    · rename_i hle
      exact .inr (.inr ⟨l, m, xs, ys, rfl, rfl, hl, hm, by rw [← ra.length, ← rb.length]; exact hle, new_lst s (RVs.append ra rb) h⟩)
    · exact h.elim
  unfold addP at h
  split at h
  · cases rvInt rx; cases rvInt ry
    exact .inl (.inl ⟨_, _, rfl, rfl, po1 s h mkInt⟩)
  · cases rvStr rx; cases rvStr ry
    split at h
    · rename_i hl
      exact .inl (.inr ⟨_, _, rfl, rfl, hl, po1 s h mkStr⟩)
    · exact h.elim
  · obtain ⟨a, xs, rfl, ha, ra⟩ := rvTup rx
    obtain ⟨b, ys, rfl, hb, rb⟩ := rvTup ry
    split at h
    · rename_i hl
      refine .inr (.inl ⟨a, b, xs, ys, rfl, rfl, ha, hb, fun z => ?_, by rw [← ra.length, ← rb.length]; exact hl.2, fun z => ?_, fun z => ?_⟩)
      · subst z
        exact hl.1 (List.eq_nil_of_length_eq_zero ra.length)
      · subst z
        have e : _ = [] := List.eq_nil_of_length_eq_zero rb.length
        subst e
        exact po1 s h (by rw [List.append_nil]; exact rx)
      · exact new_tup s (RVs.append ra rb) h
    · exact h.elim
  · cases ea : lstOf st dx with
    | none => rw [ea] at h; exact h.elim
    | some a =>
      cases eb : lstOf st dy with
      | none => rw [ea, eb] at h; exact h.elim
      | some b =>
        rw [ea, eb] at h
        exact general a b ea eb h
theorem pr_sub : Prim2 g (rI0 fun i j => .int (i - j)) subP := by
  intro φ st H x y dx dy Q s rx ry h
  unfold subP at h
  split at h
  · cases rvInt rx; cases rvInt ry
    exact ⟨_, _, rfl, rfl, po1 s h mkInt⟩
  · exact h.elim
theorem RVs.flat {φ : Lay} {H : Hp} {ds : List DV} {xs : List V} (r : RVs g φ H ds xs) : ∀ n : Nat, RVs g φ H (List.replicate n ds).flatten (List.replicate n xs).flatten
  | 0 => RVs.nil
  | n + 1 => by
    rw [List.replicate_succ, List.replicate_succ, List.flatten_cons, List.flatten_cons]
    exact RVs.append r (RVs.flat r n)
def rMulA (K : PySem.W.Frag) : R2 := fun x y H Q => rI CMul (fun i j => .int (i * j)) x y H Q ∨ (rRepT K x y H Q ∨ rRep x y H Q)
theorem or_mul : OpR X (binaryOp .Mult) (rMulA X.K) := op_mul.or (op_repT.or op_rep)
theorem pr_mul : Prim2 g (rMulA g.K) mulP := by
  intro φ st H x y dx dy Q s rx ry h
  unfold mulP at h
  split at h
  · cases rvInt rx; cases rvInt ry
    split at h
    · rename_i hc
      refine .inl ⟨_, _, rfl, rfl, ?_, po1 s h mkInt⟩
      simp only [smallI, Bool.or_eq_true, decide_eq_true_eq] at hc
      exact hc
    · exact h.elim
  · cases rvInt ry
    obtain ⟨a, xs, rfl, ha, ra⟩ := rvTup rx
    split at h
    · rename_i hl
      refine .inr (.inl ⟨a, _, xs, rfl, rfl, ha, fun z => ?_, hl.2.1, hl.2.2.1, by rw [← ra.length]; exact hl.2.2.2, new_tup s (RVs.flat ra _) h⟩)
      subst z
      exact hl.1 (List.eq_nil_of_length_eq_zero ra.length)
    · exact h.elim
  · cases rvInt ry
    cases ea : lstOf st dx with
    | none => rw [ea] at h; exact h.elim
    | some a =>
      rw [ea] at h
      obtain ⟨l, xs, rfl, hl, ra⟩ := lstOf_ok s rx ea
      simp only [Option.bind_some] at h
      split at h
      · rename_i hk
        exact .inr (.inr ⟨l, _, xs, rfl, rfl, hl, hk.1, hk.2.1, by rw [← ra.length]; exact hk.2.2, new_lst s (RVs.flat ra _) h⟩)
      · exact h.elim
  · exact h.elim
theorem pr_div : Prim2 g (rI CDiv fun i j => .int (i / j)) divP := by
  intro φ st H x y dx dy Q s rx ry h
  unfold divP at h
  split at h
  · cases rvInt rx; cases rvInt ry
    split at h
    · rename_i hc
      exact ⟨_, _, rfl, rfl, hc, po1 s h mkInt⟩
    · exact h.elim
  · exact h.elim
theorem pr_mod : Prim2 g (rI (fun _ j => 0 < j) fun i j => .int (i % j)) modP := by
  intro φ st H x y dx dy Q s rx ry h
  unfold modP at h
  split at h
  · cases rvInt rx; cases rvInt ry
    split at h
    · rename_i hc
      exact ⟨_, _, rfl, rfl, hc, po1 s h mkInt⟩
    · exact h.elim
  · exact h.elim
theorem pr_pow : Prim2 g (rI CPow fun i j => .int (i ^ j.toNat)) powP := by
  intro φ st H x y dx dy Q s rx ry h
  unfold powP at h
  split at h
  · cases rvInt rx; cases rvInt ry
    split at h
    · rename_i hc
      exact ⟨_, _, rfl, rfl, hc, po1 s h mkInt⟩
    · exact h.elim
  · exact h.elim
theorem pr_neg : Prim1 g (rU fun i => .int (-i)) negP := by
  intro φ st H x dx Q s rx h
  unfold negP at h
  split at h
  · cases rvInt rx
    exact ⟨_, rfl, po1 s h mkInt⟩
  · exact h.elim
theorem eqS_ok {φ : Lay} {H : Hp} {dx dy : DV} {x y : V} {b : Bool} (rx : RV g φ H dx x) (ry : RV g φ H dy y) (e : eqS dx dy = some b) : scal x y = true ∧ decide (x = y) = b := by
  cases dx <;> cases dy <;> simp only [eqS, Option.some.injEq, reduceCtorEq] at e <;> subst e <;> simp only [RV] at rx ry <;> subst rx <;> subst ry <;> simp [scal]
theorem op_eqA (hu : X.A.units + 64 < cLine) : OpR X (compareOp .Eq) (fun x y H Q => rEq x y H Q ∨ rEqD X.K x y H Q) := op_eq.or (op_eqD hu)
theorem op_neA (hu : X.A.units + 64 < cLine) : OpR X (compareOp .NotEq) (fun x y H Q => rNe x y H Q ∨ rNeD X.K x y H Q) := op_ne.or (op_neD hu)
theorem pr_eq : Prim2 g (fun x y H Q => rEq x y H Q ∨ rEqD g.K x y H Q) eqP := by
  intro φ st H x y dx dy Q s rx ry h
  unfold eqP eqB at h
  cases e : eqS dx dy with
  | some b =>
    simp only [e] at h
    obtain ⟨h1, h2⟩ := eqS_ok rx ry e
    exact .inl ⟨h1, by rw [h2]; exact po1 s h mkRVbl⟩
  | none =>
    simp only [e] at h
    cases ep : pyD st dx with
    | none => simp only [ep] at h; exact h.elim
    | some p =>
      cases eq' : pyD st dy with
      | none => simp only [ep, eq'] at h; exact h.elim
      | some q =>
        simp only [ep, eq', Option.bind_some] at h
        split at h
        · rename_i hs
          simp only [Bool.and_eq_true] at hs
          exact .inr ⟨p, q, pyD_ok s rx ep, pyD_ok s ry eq', hs.1, hs.2, po1 s h mkRVbl⟩
        · exact h.elim
theorem pr_ne : Prim2 g (fun x y H Q => rNe x y H Q ∨ rNeD g.K x y H Q) neP := by
  intro φ st H x y dx dy Q s rx ry h
  unfold neP eqB at h
  cases e : eqS dx dy with
  | some b =>
    simp only [e] at h
    obtain ⟨h1, h2⟩ := eqS_ok rx ry e
    exact .inl ⟨h1, by rw [h2]; exact po1 s h mkRVbl⟩
  | none =>
    simp only [e] at h
    cases ep : pyD st dx with
    | none => simp only [ep] at h; exact h.elim
    | some p =>
      cases eq' : pyD st dy with
      | none => simp only [ep, eq'] at h; exact h.elim
      | some q =>
        simp only [ep, eq', Option.bind_some] at h
        split at h
        · rename_i hs
          simp only [Bool.and_eq_true] at hs
          exact .inr ⟨p, q, pyD_ok s rx ep, pyD_ok s ry eq', hs.1, hs.2, po1 s h mkRVbl⟩
        · exact h.elim
theorem or_lt : OpR X (compareOp .Lt) (fun x y H Q => rI0 (fun i j => .bl (decide (i < j))) x y H Q ∨ ∃ i j, x = .str i ∧ y = .str j ∧ Q (.bl (decide (i.cps.toList < j.cps.toList))) H) := op_lt.or op_lt_str
theorem pr_lt : Prim2 g (fun x y H Q => rI0 (fun i j => .bl (decide (i < j))) x y H Q ∨ ∃ i j, x = .str i ∧ y = .str j ∧ Q (.bl (decide (i.cps.toList < j.cps.toList))) H) ltP := by
  intro φ st H x y dx dy Q s rx ry h
  unfold ltP at h
  split at h
  · cases rvInt rx; cases rvInt ry
    exact .inl ⟨_, _, rfl, rfl, po1 s h mkRVbl⟩
  · cases rvStr rx; cases rvStr ry
    exact .inr ⟨_, _, rfl, rfl, po1 s h mkRVbl⟩
  · exact h.elim
theorem or_le : OpR X (compareOp .LtE) (fun x y H Q => rI0 (fun i j => .bl (decide (i ≤ j))) x y H Q ∨ ∃ i j, x = .str i ∧ y = .str j ∧ Q (.bl (!decide (j.cps.toList < i.cps.toList))) H) := op_le.or op_le_str
theorem pr_le : Prim2 g (fun x y H Q => rI0 (fun i j => .bl (decide (i ≤ j))) x y H Q ∨ ∃ i j, x = .str i ∧ y = .str j ∧ Q (.bl (!decide (j.cps.toList < i.cps.toList))) H) leP := by
  intro φ st H x y dx dy Q s rx ry h
  unfold leP at h
  split at h
  · cases rvInt rx; cases rvInt ry
    exact .inl ⟨_, _, rfl, rfl, po1 s h mkRVbl⟩
  · cases rvStr rx; cases rvStr ry
    exact .inr ⟨_, _, rfl, rfl, po1 s h mkRVbl⟩
  · exact h.elim
theorem or_gt : OpR X (compareOp .Gt) (fun x y H Q => rI0 (fun i j => .bl (decide (j < i))) x y H Q ∨ ∃ i j, x = .str i ∧ y = .str j ∧ Q (.bl (decide (j.cps.toList < i.cps.toList))) H) := op_gt.or op_gt_str
theorem pr_gt : Prim2 g (fun x y H Q => rI0 (fun i j => .bl (decide (j < i))) x y H Q ∨ ∃ i j, x = .str i ∧ y = .str j ∧ Q (.bl (decide (j.cps.toList < i.cps.toList))) H) gtP := by
  intro φ st H x y dx dy Q s rx ry h
  unfold gtP at h
  split at h
  · cases rvInt rx; cases rvInt ry
    exact .inl ⟨_, _, rfl, rfl, po1 s h mkRVbl⟩
  · cases rvStr rx; cases rvStr ry
    exact .inr ⟨_, _, rfl, rfl, po1 s h mkRVbl⟩
  · exact h.elim
theorem or_ge : OpR X (compareOp .GtE) (fun x y H Q => rI0 (fun i j => .bl (decide (j ≤ i))) x y H Q ∨ ∃ i j, x = .str i ∧ y = .str j ∧ Q (.bl (!decide (i.cps.toList < j.cps.toList))) H) := op_ge.or op_ge_str
theorem pr_ge : Prim2 g (fun x y H Q => rI0 (fun i j => .bl (decide (j ≤ i))) x y H Q ∨ ∃ i j, x = .str i ∧ y = .str j ∧ Q (.bl (!decide (i.cps.toList < j.cps.toList))) H) geP := by
  intro φ st H x y dx dy Q s rx ry h
  unfold geP at h
  split at h
  · cases rvInt rx; cases rvInt ry
    exact .inl ⟨_, _, rfl, rfl, po1 s h mkRVbl⟩
  · cases rvStr rx; cases rvStr ry
    exact .inr ⟨_, _, rfl, rfl, po1 s h mkRVbl⟩
  · exact h.elim
theorem isNon_ok {φ : Lay} {H : Hp} {d : DV} {x : V} (r : RV g φ H d x) : decide (x = V.non) = isNon d := by
  cases d <;> simp only [RV] at r
  case non => subst r; simp [isNon]
  case bl => subst r; simp [isNon]
  case int => subst r; simp [isNon]
  case str => subst r; simp [isNon]
  case tup => obtain ⟨a, xs, rfl, _⟩ := r; simp [isNon]
  case lst => obtain ⟨a, xs, rfl, _⟩ := r; simp [isNon]
  case fzl => obtain ⟨a, xs, rfl, _⟩ := r; simp [isNon]
  case ref => obtain ⟨a, rfl, _⟩ := r; simp [isNon]
  case glo => subst r; simp [isNon]
  case ty => subst r; simp [isNon]
theorem pr_is : Prim2 g (fun x y H Q => y = .non ∧ Q (.bl (decide (x = .non))) H) isP := by
  intro φ st H x y dx dy Q s rx ry h
  unfold isP at h
  split at h
  · exact ⟨rvNon ry, by rw [isNon_ok rx]; exact po1 s h mkRVbl⟩
  · exact h.elim
theorem pr_isnt : Prim2 g (fun x y H Q => y = .non ∧ Q (.bl (!decide (x = .non))) H) isntP := by
  intro φ st H x y dx dy Q s rx ry h
  unfold isntP at h
  split at h
  · exact ⟨rvNon ry, by rw [isNon_ok rx]; exact po1 s h mkRVbl⟩
  · exact h.elim
theorem flatD_ok {φ : Lay} {H : Hp} {d : DV} {x : V} (r : RV g φ H d x) (f : flatD d = true) : flatV x = true := by
  cases d <;> simp only [flatD, Bool.false_eq_true] at f <;> simp only [RV] at r <;> subst r <;> rfl
theorem flatDs_ok {φ : Lay} {H : Hp} : ∀ {ds : List DV} {xs : List V}, RVs g φ H ds xs → ds.all flatD = true → xs.all flatV = true
  | [], xs, r, _ => by simp only [RVs] at r; subst r; rfl
  | d :: ds, xs, r, f => by
    simp only [RVs] at r
    obtain ⟨y, r', rfl, r1, r2⟩ := r
    simp only [List.all_cons, Bool.and_eq_true] at f ⊢
    exact ⟨flatD_ok r1 f.1, flatDs_ok r2 f.2⟩
theorem eqF_ok {φ : Lay} {H : Hp} {dx dy : DV} {x y : V} (rx : RV g φ H dx x) (ry : RV g φ H dy y) (fx : flatD dx = true) (fy : flatD dy = true) : eqV x y = eqF dx dy := by
  cases dx <;> simp only [flatD, Bool.false_eq_true] at fx <;> cases dy <;> simp only [flatD, Bool.false_eq_true] at fy <;> simp only [RV] at rx ry <;> subst rx <;> subst ry <;> rfl
theorem anyF_ok {φ : Lay} {H : Hp} {dx : DV} {x : V} (rx : RV g φ H dx x) (fx : flatD dx = true) : ∀ {ds : List DV} {xs : List V}, RVs g φ H ds xs → ds.all flatD = true → inV x xs = ds.any fun y => eqF y dx
  | [], xs, r, _ => by simp only [RVs] at r; subst r; rfl
  | d :: ds, xs, r, f => by
    simp only [RVs] at r
    obtain ⟨y, r', rfl, r1, r2⟩ := r
    simp only [List.all_cons, Bool.and_eq_true] at f
    have ih := anyF_ok rx fx r2 f.2
    simp only [inV] at ih
    simp only [inV, List.any_cons, ih, eqF_ok r1 rx f.1 fx]
def rInA (X : Cx) : R2 := fun x y H Q => ((∃ (c : Nat) (z : Str), x = .str ⟨#[c]⟩ ∧ y = .str z ∧ Q (.bl (decide (c ∈ z.cps.toList))) H) ∨ ∃ i j, x = .str i ∧ y = .str j ∧ Q (.bl (!(Builtin.Str.occurrences j i 0 j.length 1).isEmpty)) H) ∨ (rIn X.K false x y H Q ∨ rInD X.K x y H Q)
def rNotInA (X : Cx) : R2 := fun x y H Q => ((∃ (c : Nat) (z : Str), x = .str ⟨#[c]⟩ ∧ y = .str z ∧ Q (.bl (!decide (c ∈ z.cps.toList))) H) ∨ ∃ i j, x = .str i ∧ y = .str j ∧ Q (.bl (!(!(Builtin.Str.occurrences j i 0 j.length 1).isEmpty))) H) ∨ (rIn X.K true x y H Q ∨ rNotInD X.K x y H Q)
theorem or_in (hu : X.A.units + 65 < cLine) : OpR X (compareOp .In) (rInA X) := (op_in_sign.or op_in_str).or (op_in_seq.or (op_inD hu))
theorem or_notin (hu : X.A.units + 65 < cLine) : OpR X (compareOp .NotIn) (rNotInA X) := (op_notIn_sign.or op_notin_str).or (op_notIn_seq.or (op_notInD hu))
theorem one_sign {w : Str} (h : w.cps.size = 1) : w = ⟨#[w.cps.getD 0 0]⟩ := by
  obtain ⟨⟨l⟩⟩ := w
  match l, h with
  | [c], _ => rfl
theorem inB_ok (hK : X.K = g.K) {φ : Lay} {H : Hp} {st : DSt} {x y : V} {dx dy : DV} {b : Bool} (s : RSt g φ H st) (rx : RV g φ H dx x) (ry : RV g φ H dy y) (e : inB st dx dy = some b) :
    (∀ Q : VK, Q (.bl b) H → rInA X x y H Q) ∧ (∀ Q : VK, Q (.bl (!b)) H → rNotInA X x y H Q) := by
  have seq : ∀ {p : Addr} {xs : List V} {ds : List DV}, (SqL X.K H p xs ∨ SqT X.K H p xs) → RVs g φ H ds xs → flatD dx = true → ds.all flatD = true → b = (ds.any fun y => eqF y dx) → y = .ref p →
      (∀ Q : VK, Q (.bl b) H → rInA X x y H Q) ∧ (∀ Q : VK, Q (.bl (!b)) H → rNotInA X x y H Q) := by
    intro p xs ds hp rs f1 f2 hb hy
    have e1 : inV x xs = b := by rw [hb]; exact anyF_ok rx f1 rs f2
    exact ⟨fun Q q => .inr (.inl ⟨p, xs, hy, hp, flatD_ok rx f1, flatDs_ok rs f2, by simp only [e1]; exact q⟩), fun Q q => .inr (.inl ⟨p, xs, hy, hp, flatD_ok rx f1, flatDs_ok rs f2, by simp only [e1]; exact q⟩)⟩
  have lst : ∀ (ds : List DV), seqOf st dy = some ds → (if flatD dx = true ∧ ds.all flatD = true then some (ds.any fun y => eqF y dx) else
      (pyD st dx).bind fun p => (pyVs ds).bind fun ps => if (SeqAt.shaped p && SeqAt.shaped (.list ps)) = true then some (ps.any fun z => PyData.eqv z p) else none) = some b →
      (∀ Q : VK, Q (.bl b) H → rInA X x y H Q) ∧ (∀ Q : VK, Q (.bl (!b)) H → rNotInA X x y H Q) := by
    intro ds es e
    obtain ⟨a, xs, rfl, ha, rs⟩ := seqOf_ok s ry es
    split at e
    · rename_i f
      exact seq (.inl (by rw [hK]; exact ha)) rs f.1 f.2 (Option.some.inj e).symm rfl
    · cases ep : pyD st dx with
      | none => simp [ep] at e
      | some p =>
        cases eps : pyVs ds with
        | none => simp [ep, eps] at e
        | some ps =>
          simp only [ep, eps, Option.bind_some] at e
          split at e
          · rename_i hs
            simp only [Bool.and_eq_true] at hs
            have hb := Option.some.inj e
            have h1 := pyD_ok s rx ep
            have h2 : Dp g.K H (.ref a) (.list ps) := .lst ha (pyVs_ok ds xs ps rs eps)
            rw [← hK] at h1 h2
            exact ⟨fun Q q => .inr (.inr ⟨p, ps, h1, h2, hs.1, hs.2, by rw [hb]; exact q⟩), fun Q q => .inr (.inr ⟨p, ps, h1, h2, hs.1, hs.2, by rw [hb]; exact q⟩)⟩
          · cases e
  unfold inB at e
  cases dy with
  | str z =>
    cases rvStr ry
    simp only at e
    cases dx with
    | str w =>
      cases rvStr rx
      simp only at e
      split at e
      · rename_i h1
        cases e
        have hw : w = ⟨#[w.cps.getD 0 0]⟩ := one_sign h1
        exact ⟨fun Q q => .inl (.inl ⟨_, z, by rw [← hw], rfl, q⟩), fun Q q => .inl (.inl ⟨_, z, by rw [← hw], rfl, q⟩)⟩
      · cases e
        exact ⟨fun Q q => .inl (.inr ⟨_, z, rfl, rfl, q⟩), fun Q q => .inl (.inr ⟨_, z, rfl, rfl, q⟩)⟩
    | _ => cases e
  | tup ds =>
    obtain ⟨a, xs, e1, ha, rs⟩ := rvTup ry
    simp only at e
    split at e
    · rename_i f
      exact seq (.inr (by rw [hK]; exact ha)) rs f.1 f.2 (Option.some.inj e).symm e1
    · cases e
  | lst ds => exact lst ds rfl e
  | fzl ds => exact lst ds rfl e
  | ref n =>
    simp only at e
    cases es : seqOf st (.ref n) with
    | none => simp [es] at e
    | some ds =>
      rw [es, Option.bind_some] at e
      exact lst ds es e
  | _ => simp [seqOf] at e
theorem pr_in (hK : X.K = g.K) : Prim2 g (rInA X) inP := by
  intro φ st H x y dx dy Q s rx ry h
  unfold inP at h
  cases e : inB st dx dy with
  | none => simp only [e] at h; exact h.elim
  | some b => simp only [e] at h; exact (inB_ok hK s rx ry e).1 Q (po1 s h mkRVbl)
theorem pr_notin (hK : X.K = g.K) : Prim2 g (rNotInA X) notinP := by
  intro φ st H x y dx dy Q s rx ry h
  unfold notinP at h
  cases e : inB st dx dy with
  | none => simp only [e] at h; exact h.elim
  | some b => simp only [e] at h; exact (inB_ok hK s rx ry e).2 Q (po1 s h mkRVbl)
end
end DM

/-! DM8: subscripts, slices, stores, built-in calls and methods. -/
namespace DM
open PySem PySem.Spec PyProof.Rows L2

/-! ### machine -/
def ixP : DV → DV → DSt → Option (DV × DSt)
  | .tup ds, .int i, st => (atI ds i).map fun d => (d, st)
  | .str z, .int i, st => if z.length ≤ sizeLine then (atI z.cps.toList i).map fun c => (.str ⟨#[c]⟩, st) else none
  | x, .int i, st => (seqOf st x).bind fun ds => (atI ds i).map fun d => (d, st)
  | _, _, _ => none
def cutL {α : Type} (xs : List α) (lo hi : Option Int) : List α := (xs.drop (HT.sIx xs.length 0 lo)).take (HT.sIx xs.length xs.length hi - HT.sIx xs.length 0 lo)
def slP (x : DV) (lo hi : Option Int) (st : DSt) : Option (DV × DSt) :=
  match x with
  | .str z => if z.length ≤ sizeLine then some (.str (cutS z lo hi), st) else none
  | .tup ds => some (.tup (cutL ds lo hi), st)
  | x => (seqOf st x).map fun ds => (.lst (cutL ds lo hi), st)
def slRP (x : DV) (lo hi : Option Int) (st : DSt) : Option (DV × DSt) := (seqOf st x).map fun ds => (.ref st.length, st ++ [.lst (cutL ds lo hi)])
abbrev Exo := DEnv → DSt → Res (Option Int)
def oNone : Exo := fun _ st => .ok none st
def oSome (a : Ex) : Exo := fun env st => (a env st).bind fun d st1 => match d with
  | .int i => .ok (some i) st1
  | _ => .bad
def eSl (p : DV → Option Int → Option Int → DSt → Option (DV × DSt)) (a : Ex) (lo hi : Exo) : Ex := fun env st => (a env st).bind fun x st1 => (lo env st1).bind fun l st2 => (hi env st2).bind fun u st3 => Res.of (p x l u st3)
/-- x[::-1] -/
def revP : DV → DSt → Option (DV × DSt)
  | .str z, st => if z.length ≤ sizeLine then some (.str ⟨z.cps.toList.reverse.toArray⟩, st) else none
  | x, st => (seqOf st x).map fun ds => (.lst ds.reverse, st)
def revRP (x : DV) (st : DSt) : Option (DV × DSt) := (seqOf st x).map fun ds => (.ref st.length, st ++ [.lst ds.reverse])
/-- o[i] = v -/
def setP (o i v : DV) (st : DSt) : Option DSt :=
  match o, i with
  | .ref n, .int k => (match st[n]? with
    | some (.lst ds) => (ixN ds.length k).map fun j => st.set n (.lst (ds.set j v))
    | _ => none)
  | _, _ => none
def sSetIx (v o i : Ex) (p : DV → DV → DV → DSt → Option DSt) : Sm := fun env st => (v env st).then_ env fun x st1 => (o env st1).then_ env fun y st2 => (i env st2).then_ env fun z st3 => match p y z x st3 with
  | some st4 => .ok .nx env st4
  | none => .bad
/-- a chain a op b op' c -/
def eChain (p p' : DV → DV → DSt → Option (DV × DSt)) (a b c : Ex) : Ex := fun env st => (a env st).bind fun x st1 => (b env st1).bind fun y st2 => (Res.of (p x y st2)).bind fun k st3 => match k with
  | .bl true => (c env st3).bind fun z st4 => Res.of (p' y z st4)
  | .bl false => .ok (.bl false) st3
  | _ => .bad
/-- a built-in of some values -/
abbrev PrF := List DV → DSt → Option (DV × DSt)
def eB (p : PrF) (a : Exs) : Ex := fun env st => (a env st).bind fun ds st1 => Res.of (p ds st1)
def lenP : PrF
  | [.str z], st => if z.length ≤ sizeLine then some (.int z.length, st) else none
  | [.tup ds], st => some (.int ds.length, st)
  | [.ref n], st => (match st[n]? with
    | some (.lst ds) => some (.int ds.length, st)
    | some (.dct kvs) => some (.int kvs.length, st)
    | _ => none)
  | [x], st => (seqOf st x).map fun ds => (.int ds.length, st)
  | _, _ => none
def blOf : DV → Option Bool
  | .bl b => some b
  | _ => none
def intOf : DV → Option Int
  | .int b => some b
  | _ => none
def strOf : DV → Option Str
  | .str b => some b
  | _ => none
def allOf {α : Type} (f : DV → Option α) : List DV → Option (List α)
  | [] => some []
  | d :: ds => (f d).bind fun x => (allOf f ds).map fun r => x :: r
/-- of one list of values of a kind -/
def oneL {α : Type} (f : DV → Option α) (res : List α → DV) : PrF := fun ds st =>
  match ds with
  | [x] => (seqOf st x).bind fun es => (allOf f es).map fun bs => (res bs, st)
  | _ => none
def allP : PrF := oneL blOf fun bs => .bl (bs.all id)
def anyP : PrF := oneL blOf fun bs => .bl (bs.any id)
def sumP : PrF := oneL intOf fun ns => .int ns.sum
def max2P : PrF
  | [.int i, .int j], st => some (.int (if j > i then j else i), st)
  | _, _ => none
def min2P : PrF
  | [.int i, .int j], st => some (.int (if j < i then j else i), st)
  | _, _ => none
def absP : PrF
  | [.int i], st => some (.int (if i < 0 then -i else i), st)
  | _, _ => none
def intP : PrF
  | [.int i], st => some (.int i, st)
  | [.bl k], st => some (.int (if k then 1 else 0), st)
  | [.str a], st => if a.length ≤ 640 then (PySem.intText? a).map fun n => (.int n, st) else none
  | _, _ => none
def strP : PrF
  | [.int i], st => if i.natAbs.log2 < 1920 then some (.str (toString i), st) else none
  | [.str a], st => some (.str a, st)
  | _, _ => none
def listP : PrF
  | [.tup ds], st => some (.lst ds, st)
  | [x], st => (seqOf st x).map fun ds => (.lst ds, st)
  | _, _ => none
def listRP : PrF
  | [.tup ds], st => some (.ref st.length, st ++ [.lst ds])
  | [x], st => (seqOf st x).map fun ds => (.ref st.length, st ++ [.lst ds])
  | _, _ => none
def tupleP : PrF
  | [.tup ds], st => some (.tup ds, st)
  | [x], st => (seqOf st x).map fun ds => (.tup ds, st)
  | _, _ => none
def lstAt (st : DSt) : DV → Option (Nat × List DV)
  | .ref n => (match st[n]? with
    | some (.lst ds) => some (n, ds)
    | _ => none)
  | _ => none
def appendP (x : DV) (as : List DV) (st : DSt) : Option (DV × DSt) := (lstAt st x).bind fun (n, ds) => match as with
  | [y] => if ds.length < sizeLine then some (.non, st.set n (.lst (ds ++ [y]))) else none
  | _ => none
def popP (x : DV) (as : List DV) (st : DSt) : Option (DV × DSt) := (lstAt st x).bind fun (n, ds) => match as with
  | [] => ds[ds.length - 1]?.map fun d => (d, st.set n (.lst ds.dropLast))
  | _ => none
def popAtP (x : DV) (as : List DV) (st : DSt) : Option (DV × DSt) := (lstAt st x).bind fun (n, ds) => match as with
  | [.int i] => if -(2 ^ 63) ≤ i ∧ i < 2 ^ 63 then (seqIndex? i ds.length).bind fun k => ds[k]?.map fun d => (d, st.set n (.lst (ds.eraseIdx k))) else none
  | _ => none
def extendP (x : DV) (as : List DV) (st : DSt) : Option (DV × DSt) := (lstAt st x).bind fun (n, ds) => match as with
  | [.lst es] => if ds.length + es.length ≤ sizeLine then some (.non, st.set n (.lst (ds ++ es))) else none
  | _ => none
def joinP (x : DV) (as : List DV) (st : DSt) : Option (DV × DSt) := match x, as with
  | .str a, [.tup ds] => (allOf strOf ds).bind fun ys => if (ys.map (·.length)).sum + ys.length * a.length ≤ 16777216 then some (.str (Txt.join a ys), st) else none
  | .str a, [y] => (seqOf st y).bind fun ds => (allOf strOf ds).bind fun ys => if (ys.map (·.length)).sum + ys.length * a.length ≤ 16777216 then some (.str (Txt.join a ys), st) else none
  | _, _ => none
def splitP (x : DV) (as : List DV) (st : DSt) : Option (DV × DSt) := match x, as with
  | .str a, [.str b] => if (b.length == 0) = false ∧ a.length + 2 ≤ sizeLine then some (.lst ((Txt.split a b).map .str), st) else none
  | _, _ => none
def upperP (x : DV) (as : List DV) (st : DSt) : Option (DV × DSt) := match x, as with
  | .str a, [] => if a.length ≤ 5592405 then some (.str (Txt.upper a), st) else none
  | _, _ => none
def sindexP (x : DV) (as : List DV) (st : DSt) : Option (DV × DSt) := match x, as with
  | .str a, [.str b] => (match Builtin.Str.occurrences a b 0 a.length 1 with
    | i :: _ => some (.int (i : Nat), st)
    | [] => none)
  | _, _ => none

section
variable {X : Cx} {g : Gam} {W : WX} {a b c e o i : Expr} {ma mb mc mo mi : Ex} {ms : Exs} {ol oh : Exo} {pos p2 : Pos}
theorem RVs.atI {φ : Lay} {H : Hp} {ds : List DV} {vs : List V} {i : Int} {d : DV} (r : RVs g φ H ds vs) (e : L2.atI ds i = some d) : ∃ v, L2.atI vs i = some v ∧ RV g φ H d v := by
  unfold L2.atI at e ⊢
  rw [← r.length]
  cases h : ixN ds.length i with
  | none => rw [h] at e; cases e
  | some j =>
    rw [h] at e
    exact r.get e
theorem pr_ix (hK : X.K = g.K) : Prim2 g (rIx X.K) ixP := by
  intro φ st H x y dx dy Q s rx ry h
  have lst : ∀ ds k, dy = .int k → seqOf st dx = some ds → PostO g (RV g) φ H Q ((L2.atI ds k).map fun d => (d, st)) → rIx X.K x y H Q := by
    intro ds k e1 e2 h5
    subst e1
    cases rvInt ry
    obtain ⟨p, xs, rfl, hp, rs⟩ := seqOf_ok s rx e2
    cases e3 : L2.atI ds k with
    | none => rw [e3] at h5; exact h5.elim
    | some d =>
      rw [e3] at h5
      obtain ⟨v, hv, rv⟩ := rs.atI e3
      exact .inl ⟨p, xs, k, v, rfl, rfl, by rw [hK]; exact hp, hv, po1 s h5 rv⟩
  unfold ixP at h
  split at h
  · rename_i ds k
    cases rvInt ry
    obtain ⟨p, xs, rfl, hp, rs⟩ := rvTup rx
    cases e3 : L2.atI ds k with
    | none => rw [e3] at h; exact h.elim
    | some d =>
      rw [e3] at h
      obtain ⟨v, hv, rv⟩ := rs.atI e3
      exact .inr (.inl ⟨p, xs, k, v, rfl, rfl, by rw [hK]; exact hp, hv, po1 s h rv⟩)
  · rename_i z k
    cases rvInt ry
    cases rvStr rx
    split at h
    · rename_i hz
      cases e3 : L2.atI z.cps.toList k with
      | none => rw [e3] at h; exact h.elim
      | some c =>
        rw [e3] at h
        exact .inr (.inr ⟨z, k, c, rfl, rfl, hz, e3, po1 s h mkStr⟩)
    · exact h.elim
  · rename_i k _ _
    cases e2 : seqOf st dx with
    | none => rw [e2] at h; exact h.elim
    | some ds => rw [e2] at h; exact lst ds k rfl e2 h
  · exact h.elim
theorem pe_eIx (hK : X.K = g.K) (ha : PE X a (TM g (RV g) W ma)) (hb : PE X b (TM g (RV g) W mb)) (hs : PlainIx b := by intro _ _; rfl) : PE X (.Subscript a b pos) (TM g (RV g) W (DM.e2 ixP ma mb)) :=
  (pe_ix ix_seq ha hb hs).imp fun _ _ _ h => TM.e2 (pr_ix hK) h
/-! ### slices -/
theorem po_oNone : PO X none (TM g EqR W oNone) := ⟨fun pins s σ H Q I ⟨φ, env, st, s0, n, h⟩ => po_none.run pins s σ H Q I (h φ H none Ext.refl s0 rfl)⟩
theorem po_oSome (h : PE X e (TM g (RV g) W ma)) : PO X (some e) (TM g EqR W (oSome ma)) := ⟨fun pins s σ H Q I ⟨φ, env, st, s0, n, q⟩ => (po_some h).run pins s σ H Q I ⟨φ, env, st, s0, n, Post.bind q fun d st1 φ1 H1 x x1 s1 r1 h1 => by
  split at h1
  · exact ⟨_, rvInt r1, h1 φ1 H1 _ Ext.refl s1 rfl⟩
  · exact h1.elim⟩⟩
def PrimS (g : Gam) (r : V → Option Int → Option Int → Hp → VK → Prop) (p : DV → Option Int → Option Int → DSt → Option (DV × DSt)) : Prop :=
  ∀ φ st H x dx lo hi Q, RSt g φ H st → RV g φ H dx x → PostO g (RV g) φ H Q (p dx lo hi st) → r x lo hi H Q
theorem pe_eSl {r : V → Option Int → Option Int → Hp → VK → Prop} {p : DV → Option Int → Option Int → DSt → Option (DV × DSt)} {lo hi : Option Expr} (hr : SlR X r) (hp : PrimS g r p) (he : PE X e (TM g (RV g) W ma)) (hl : PO X lo (TM g EqR W ol)) (hu : PO X hi (TM g EqR W oh)) :
    PE X (.Subscript e (.Slice lo hi none p2) pos) (TM g (RV g) W (eSl p ma ol oh)) :=
  (pe_slice hr he hl hu).imp fun σ H Q ⟨φ, env, st, s, n, h⟩ => ⟨φ, env, st, s, n, Post.bind h fun d st1 φ1 H1 x x1 s1 r1 h1 =>
    ⟨φ1, env, st1, s1, n.ext s.tame x1, Post.bind h1 fun l st2 φ2 H2 l' x2 s2 r2 h2 => ⟨φ2, env, st2, s2, (n.ext s.tame x1).ext s1.tame x2, Post.bind h2 fun u st3 φ3 H3 u' x3 s3 r3 h3 => by
      cases r2
      cases r3
      exact hp φ3 st3 H3 x d l u Q s3 (RV.ext s1.tame (x2.trans x3) _ _ r1) (Post.of h3)⟩⟩⟩
def rSlAll (K : PySem.W.Frag) : V → Option Int → Option Int → Hp → VK → Prop := fun x lo hi H Q => rSlL K x lo hi H Q ∨ (rSlS x lo hi H Q ∨ rSlA K x lo hi H Q)
theorem sl_all : SlR X (rSlAll X.K) := sl_list.or (sl_str.or sl_tupA)
theorem RVs.cut {φ : Lay} {H : Hp} {ds : List DV} {xs : List V} (r : RVs g φ H ds xs) (lo hi : Option Int) : RVs g φ H (cutL ds lo hi) (cutV xs lo hi) := by
  unfold cutL cutV
  rw [← r.length]
  exact (r.drop _).take _
theorem cutL_whole {α : Type} (xs : List α) (lo hi : Option Int) (h : HT.sIx xs.length 0 lo = 0 ∧ HT.sIx xs.length xs.length hi = xs.length) : cutL xs lo hi = xs := by
  unfold cutL
  rw [h.1, h.2]
  simp
theorem pr_sl (hK : X.K = g.K) : PrimS g (rSlAll X.K) slP := by
  intro φ st H x dx lo hi Q s rx h
  have lst : ∀ ds, seqOf st dx = some ds → PostO g (RV g) φ H Q (some (.lst (cutL ds lo hi), st)) → rSlAll X.K x lo hi H Q := by
    intro ds e2 h
    obtain ⟨p, xs, rfl, hp, rs⟩ := seqOf_ok s rx e2
    exact .inl ⟨p, xs, rfl, by rw [hK]; exact hp, new_lst s (rs.cut lo hi) h⟩
  unfold slP at h
  split at h
  · cases rvStr rx
    split at h
    · rename_i hz
      exact .inr (.inl ⟨_, rfl, hz, po1 s h mkStr⟩)
    · exact h.elim
  · rename_i ds
    obtain ⟨p, xs, e1, hp, rs⟩ := rvTup rx
    refine .inr (.inr ⟨p, xs, e1, by rw [hK]; exact hp, fun z => ?_, fun z => new_tup s (rs.cut lo hi) h⟩)
    rw [← rs.length] at z
    rw [cutL_whole ds lo hi z] at h
    subst e1
    exact po1 s h rx
  · cases e2 : seqOf st dx with
    | none => rw [e2] at h; exact h.elim
    | some ds => rw [e2] at h; exact lst ds e2 h
theorem pr_slR (hK : X.K = g.K) : PrimS g (rSlL X.K) slRP := by
  intro φ st H x dx lo hi Q s rx h
  unfold slRP at h
  cases e2 : seqOf st dx with
  | none => rw [e2] at h; exact h.elim
  | some ds =>
    rw [e2] at h
    obtain ⟨p, xs, rfl, hp, rs⟩ := seqOf_ok s rx e2
    exact ⟨p, xs, rfl, by rw [hK]; exact hp, new_ref (o := .lst (cutL ds lo hi)) s (fun _ => ⟨_, rfl, rs.cut lo hi⟩) h⟩
/-! ### x[::-1] -/
theorem rev_indices (n : Nat) : Builtin.Str.strSliceIndices none none (-1) n = (List.range n).map fun k => n - 1 - k := by
  unfold Builtin.Str.strSliceIndices sliceRange
  simp only [show ¬ ((-1 : Int) > 0) by decide, if_false]
  by_cases h : n = 0
  · subst h; rfl
  · have e : ((n : Int) - 1 > -1) := by omega
    rw [if_pos e]
    have e2 : (((n : Int) - 1 - -1 - -1 - 1) / (- -1)).toNat = n := by
      rw [show (- -1 : Int) = 1 by decide, Int.ediv_one]
      omega
    rw [e2]
    refine List.map_congr_left fun k hk => ?_
    have := List.mem_range.mp hk
    omega
theorem filterMap_all {α β : Type} {f : α → Option β} {k : α → β} : ∀ {l : List α}, (∀ x, x ∈ l → f x = some (k x)) → l.filterMap f = l.map k
  | [], _ => rfl
  | x :: l, h => by
    rw [List.filterMap_cons, h x (List.mem_cons_self ..), List.map_cons, filterMap_all fun y hy => h y (List.mem_cons_of_mem _ hy)]
theorem rev_pick (z : Str) : (((List.range z.length).map fun k => z.length - 1 - k).filterMap (z.cps[·]?)) = z.cps.toList.reverse := by
  obtain ⟨⟨l⟩⟩ := z
  show (((List.range l.length).map fun k => l.length - 1 - k).filterMap fun i => (l.toArray)[i]?) = l.reverse
  rw [List.filterMap_map, filterMap_all (k := fun k => l.reverse.getD k 0)]
  · refine List.ext_getElem (by simp) fun i h1 h2 => ?_
    simp at h1
    simp [h1]
  · intro k hk
    have hk := List.mem_range.mp hk
    simp only [Function.comp_apply, List.getElem?_toArray]
    rw [List.getD_eq_getElem?_getD, List.getElem?_reverse hk, List.getElem?_eq_getElem (by omega)]
    rfl
/-- a text from behind -/
def tRevS (te : TE) : TE := fun σ H Q => te σ H fun x H1 => ∃ z, x = .str z ∧ z.length ≤ sizeLine ∧ Q (.str ⟨z.cps.toList.reverse.toArray⟩) H1
theorem made_rev {z : Str} {t : Tok} {w : Option (Int × Tok)} (hw : w.map (·.1) = some (-1)) : sliceMade z t none none w = Made.str ⟨z.cps.toList.reverse.toArray⟩ := by
  unfold sliceMade slicePicked
  rw [hw]
  simp only [Option.map_none, Option.getD_some]
  rw [rev_indices, rev_pick]
  rfl
theorem pe_revS {te : TE} {k : Nat} {p1 p3 : Pos} (he : PE X e te) : PE X (.Subscript e (.Slice none none (some (.UnaryOp .USub (.Constant (.int 1) k p1) p2)) p3) pos) (tRevS te) := by
  constructor
  intro pins s σ H Q I h
  refine Subscript_ (thn (he.run pins s σ H _ I h) ?_)
  rintro v s1 ⟨_, H1, J1, rv, z, rfl, hz, q⟩
  obtain ⟨t, rfl⟩ := rv
  have minus : PE X (.UnaryOp .USub (.Constant (.int 1) k p1) p2) (tUn (rU fun i => .int (-i)) (tC (.int 1))) := pe_un un_neg pe_int
  refine wpAny_Slice (thn (po_none.run pins s1 σ H1 (fun part G => part = none ∧ G = H1) J1 ⟨rfl, rfl⟩) ?_)
  rintro lo s2 ⟨_, _, J2, plo, rfl, rfl⟩
  refine thn (po_none.run pins s2 σ _ (fun part G => part = none ∧ G = _) J2 ⟨rfl, rfl⟩) ?_
  rintro hi s3 ⟨_, _, J3, phi, rfl, rfl⟩
  refine thn ((po_some minus).run pins s3 σ _ (fun part G => part = some (-1) ∧ G = _) J3 ⟨1, rfl, -1, rfl, rfl, rfl⟩) ?_
  rintro by_ s4 ⟨_, _, J4, pby, rfl, rfl⟩
  obtain ⟨l, rfl, hl⟩ := IsPart.raw plo
  obtain ⟨u, rfl, hu⟩ := IsPart.raw phi
  obtain ⟨w, rfl, hw⟩ := IsPart.raw pby
  obtain rfl : l = none := by cases l with | none => rfl | some _ => cases hl
  obtain rfl : u = none := by cases u with | none => rfl | some _ => cases hu
  obtain ⟨os, hos, hcs, hds⟩ := Heap.IsSliceOf.new s4.heap (partValue none) (partValue none) (partValue w)
  refine tail_any (typeIs_str _ z t) F.slot_str_getitem.lookup (wpAny_getItem_str_slice (l := none) (u := none) (st := w) ⟨os, hos, hcs, hds⟩ (by rw [hw]; rfl) ?_) (by with_unfolding_all rfl)
  rw [made_rev hw]
  have same : (⟨z.cps.toList.reverse.toArray⟩ : Str).length = z.length := by simp [Str.length]
  refine ⟨by rw [same]; exact hz, .str _, _, ?_, ⟨_, rfl⟩, q⟩
  exact (J4.kept (t' := s4.toks) fun b ob z => Heap.get?_push_of_some _ z).tok _
theorem _root_.L2.PE.or {X : Cx} {e : Expr} {t t' : TE} (h : PE X e t) (h' : PE X e t') : PE X e (fun σ H Q => t σ H Q ∨ t' σ H Q) := ⟨fun pins s σ H Q I q => q.elim (h.run pins s σ H Q I) (h'.run pins s σ H Q I)⟩
theorem pe_eRev (hK : X.K = g.K) {k : Nat} {p1 p3 : Pos} (he : PE X e (TM g (RV g) W ma)) : PE X (.Subscript e (.Slice none none (some (.UnaryOp .USub (.Constant (.int 1) k p1) p2)) p3) pos) (TM g (RV g) W (DM.e1 revP ma)) :=
  ((pe_revL he).or (pe_revS he)).imp fun σ H Q ⟨φ, env, st, s, n, h⟩ => by
    unfold DM.e1 at h
    cases q : ma env st with
    | bad => rw [q] at h; exact h.elim
    | exc e' s' => rw [q] at h; exact .inl ⟨φ, env, st, s, n, by rw [q]; exact h⟩
    | ok d st1 =>
      rw [q] at h
      simp only [Res.bind_ok] at h
      have lst : ∀ ds, seqOf st1 d = some ds → Post g (RV g) (fun c d H' => W c d σ H') φ H Q (Res.of (some (DV.lst ds.reverse, st1))) → tRevL X.K (TM g (RV g) W ma) σ H Q := by
        intro ds e2 h5
        refine ⟨φ, env, st, s, n, ?_⟩
        rw [q]
        intro φ1 H1 v x1 s1 r1
        obtain ⟨a, xs, rfl, hx, rs⟩ := seqOf_ok s1 r1 e2
        exact ⟨a, xs, rfl, by rw [hK]; exact hx, new_lst s1 rs.reverse (Post.of (Post.later x1 h5))⟩
      unfold revP at h
      split at h
      · rename_i z
        refine .inr ⟨φ, env, st, s, n, ?_⟩
        rw [q]
        intro φ1 H1 v x1 s1 r1
        split at h
        · rename_i hz
          exact ⟨z, rvStr r1, hz, Post.later x1 h φ1 H1 _ Ext.refl s1 mkStr⟩
        · exact h.elim
      · cases e2 : seqOf st1 d with
        | none => rw [e2] at h; exact h.elim
        | some ds => rw [e2] at h; exact .inl (lst ds e2 h)
theorem pe_eRevR (hK : X.K = g.K) {k : Nat} {p1 p3 : Pos} (he : PE X e (TM g (RV g) W ma)) : PE X (.Subscript e (.Slice none none (some (.UnaryOp .USub (.Constant (.int 1) k p1) p2)) p3) pos) (TM g (RV g) W (DM.e1 revRP ma)) :=
  (pe_revL he).imp fun σ H Q h => by
    refine TM.e1 (r := fun x H1 Q => ∃ a xs, x = .ref a ∧ SqL X.K H1 a xs ∧ ∀ p, H1 p = none → Q (.ref p) (upd H1 p (.lst xs.reverse))) ?_ h
    intro φ st H x dx Q s rx h
    unfold revRP at h
    cases e2 : seqOf st dx with
    | none => rw [e2] at h; exact h.elim
    | some ds =>
      rw [e2] at h
      obtain ⟨a, xs, rfl, hx, rs⟩ := seqOf_ok s rx e2
      exact ⟨a, xs, rfl, by rw [hK]; exact hx, new_ref (o := .lst ds.reverse) s (fun _ => ⟨_, rfl, rs.reverse⟩) h⟩
/-! ### stores -/
theorem ps_sSetIx {tpos : Pos} (hv : PE X a (TM g (RV g) W ma)) (ho : PE X o (TM g (RV g) W mo)) (hi : PE X i (TM g (RV g) W mi)) (hs : swapsWithSole [.Subscript o i tpos] a pos.line X.env = pure false := by rfl) (hw : swappedStores [.Subscript o i tpos] a X.env = pure none := by rfl)
    (h1 : (assignEach [.Subscript o i tpos] X.env).map (·.2) = [assign (.Subscript o i tpos) X.env] := by rfl)
    (has : ∀ v, assign (.Subscript o i tpos) X.env v = (do
      let ov ← holding [v] (eval o X.env)
      let iv ← holding [v, ov] (eval i X.env)
      standAt tpos
      holding [v, ov, iv] (setItem ov iv v)
      release [v, ov, iv] []) := by intro _; rfl) : PS X (.Assign [.Subscript o i tpos] a pos) (TMS g W (sSetIx ma mo mi setP)) :=
  (ps_asg hv (pg_sub ho hi set_list has) hs hw h1).imp fun D σ H ⟨φ, env, st, s, n, h⟩ => ⟨φ, env, st, s, n, Post.then_ s n h fun x st1 φ1 H1 xv x1 s1 n1 r1 h1 =>
    ⟨φ1, env, st1, s1, n1, Post.then_ s1 n1 h1 fun y st2 φ2 H2 yv x2 s2 n2 r2 h2 => ⟨φ2, env, st2, s2, n2, Post.then_ s2 n2 h2 fun z st3 φ3 H3 zv x3 s3 n3 r3 h3 => by
      have r1' := RV.ext s1.tame (x2.trans x3) _ _ r1
      have r2' := RV.ext s2.tame x3 _ _ r2
      cases e : setP y z x st3 with
      | none => rw [e] at h3; exact h3.elim
      | some st4 =>
        rw [e] at h3
        unfold setP at e
        split at e
        · rename_i m k
          cases rvInt r3
          cases q : st3[m]? with
          | none => simp [q] at e
          | some ob =>
            cases ob with
            | lst ds =>
              simp only [q, Option.map_eq_some_iff] at e
              obtain ⟨j, hj, rfl⟩ := e
              obtain ⟨aa, ho', e1, e2, xs, e3, rs⟩ := s3.get q
              subst e3
              simp only [RV] at r2'
              obtain ⟨a', rfl, e4⟩ := r2'
              rw [e1] at e4
              cases e4
              exact ⟨aa, xs, k, j, rfl, rfl, e2, by rw [← rs.length]; exact hj, h3 φ3 _ σ (Ext.write s3 e1) (s3.write e1 ⟨_, rfl, rs.set j r1'⟩) (n3.ext s3.tame (Ext.write s3 e1))⟩
            | dct kvs => simp [q] at e
            | ins c fs => simp [q] at e
            | dcn kvs => simp [q] at e
        · cases e⟩⟩⟩
/-! ### chains -/
theorem pe_eChain {op op' : CmpOp} {r r' : R2} {p p' : DV → DV → DSt → Option (DV × DSt)} (ho : OpR X (compareOp op) r) (ho' : OpR X (compareOp op') r') (hp : Prim2 g r p) (hp' : Prim2 g r' p') (ha : PE X a (TM g (RV g) W ma)) (hb : PE X b (TM g (RV g) W mb)) (hc : PE X c (TM g (RV g) W mc))
    (h0 : PE X (.Compare a [op, op'] [b, c] pos) (tChain r r' (TM g (RV g) W ma) (TM g (RV g) W mb) (TM g (RV g) W mc))) : PE X (.Compare a [op, op'] [b, c] pos) (TM g (RV g) W (eChain p p' ma mb mc)) :=
  h0.imp fun σ H Q ⟨φ, env, st, s, n, h⟩ => ⟨φ, env, st, s, n, Post.bind h fun x st1 φ1 H1 xv x1 s1 r1 h1 => ⟨φ1, env, st1, s1, n.ext s.tame x1, Post.bind h1 fun y st2 φ2 H2 yv x2 s2 r2 h2 => by
    refine hp φ2 st2 H2 xv yv x y _ s2 (RV.ext s1.tame x2 _ _ r1) r2 (Post.of (g := g) (W := fun c d H' => W c d σ H') (Post.bind h2 fun k st3 φ3 H3 kv x3 s3 r3 h3 => ?_))
    cases k <;> try exact False.elim h3
    rename_i k
    refine ⟨k, RVbl r3, ?_⟩
    cases k with
    | false => exact h3 φ3 H3 _ Ext.refl s3 mkRVbl
    | true =>
      refine ⟨φ3, env, st3, s3, (n.ext s.tame x1).ext s1.tame (x2.trans x3), Post.bind h3 fun z st4 φ4 H4 zv x4 s4 r4 h4 => ?_⟩
      exact hp' φ4 st4 H4 yv zv y z Q s4 (RV.ext s2.tame (x3.trans x4) _ _ r2) r4 (Post.of h4)⟩⟩

/-! ### built-in calls -/
def PrimL (g : Gam) (r : List V → Hp → VK → Prop) (p : PrF) : Prop := ∀ φ st H vs ds Q, RSt g φ H st → RVs g φ H ds vs → PostO g (RV g) φ H Q (p ds st) → r vs H Q
theorem TM.eB {r : List V → Hp → VK → Prop} {p : PrF} (hp : PrimL g r p) {σ : L2.St} {H : Hp} {Q : VK} (h : TM g (RV g) W (eB p ms) σ H Q) : tCB r (TM g (RVs g) W ms) σ H Q := by
  obtain ⟨φ, env, st, s, n, h⟩ := h
  exact ⟨φ, env, st, s, n, Post.bind h fun ds st1 φ1 H1 vs x1 s1 r1 h1 => hp φ1 st1 H1 vs ds Q s1 r1 (Post.of h1)⟩
theorem pe_eB {x : Str} {p pos : Pos} {es : List Expr} {id : String} {r : List V → Hp → VK → Prop} {pf : PrF} (hp : PrimL g r pf) (hc : CallR X (.builtin id) r) (hg : Gl X x) (hm : X.mg x = none) (hv : bootBuiltins x = some (.builtin id)) (ha : PA X (e :: es) (TM g (RVs g) W ms)) (hn : x ≠ "__name__" := by decide) (hdb : (x == ("__debug__" : Str)) = false := by decide)
    (he : starEach (e :: es) X.env = (false, eval e X.env) :: starEach es X.env := by rfl) (hpl : (backTo pos (starEach es X.env)).any (·.1) = false := by rfl) : PE X (.Call (.Name x p) (e :: es) [] pos) (TM g (RV g) W (eB pf ms)) :=
  (pe_callB hc hg hm hv ha hn hdb he hpl).imp fun _ _ _ h => TM.eB hp h
theorem pe_eT {x : Str} {p pos : Pos} {es : List Expr} {T : String} {r : List V → Hp → VK → Prop} {pf : PrF} (hp : PrimL g r pf) (hc : CallR X (.type T) r) (hg : Gl X x) (hm : X.mg x = none) (hv : bootBuiltins x = some (.type T)) (ha : PA X (e :: es) (TM g (RVs g) W ms)) (hn : x ≠ "__name__" := by decide) (hdb : (x == ("__debug__" : Str)) = false := by decide)
    (he : starEach (e :: es) X.env = (false, eval e X.env) :: starEach es X.env := by rfl) (hpl : (backTo pos (starEach es X.env)).any (·.1) = false := by rfl) : PE X (.Call (.Name x p) (e :: es) [] pos) (TM g (RV g) W (eB pf ms)) :=
  (pe_callTy hc hg hm hv ha hn hdb he hpl).imp fun _ _ _ h => TM.eB hp h
theorem allOf_len {α : Type} {f : DV → Option α} : ∀ {ds : List DV} {xs : List α}, allOf f ds = some xs → ds.length = xs.length
  | [], xs, e => by simp only [allOf, Option.some.injEq] at e; subst e; rfl
  | d :: ds, xs, e => by
    simp only [allOf, Option.bind_eq_some_iff, Option.map_eq_some_iff] at e
    obtain ⟨x, _, r, e2, rfl⟩ := e
    simp [allOf_len e2]
theorem allOf_ok {α : Type} {f : DV → Option α} {k : α → V} (hf : ∀ φ H d x v, RV g φ H d v → f d = some x → v = k x) {φ : Lay} {H : Hp} : ∀ {ds : List DV} {xs : List α} {vs : List V}, RVs g φ H ds vs → allOf f ds = some xs → vs = xs.map k
  | [], xs, vs, r, e => by
    simp only [allOf, Option.some.injEq] at e
    simp only [RVs] at r
    subst e; subst r; rfl
  | d :: ds, xs, vs, r, e => by
    simp only [allOf, Option.bind_eq_some_iff, Option.map_eq_some_iff] at e
    obtain ⟨x, e1, r', e2, rfl⟩ := e
    simp only [RVs] at r
    obtain ⟨y, vr, rfl, r1, r2⟩ := r
    rw [hf _ _ _ _ _ r1 e1, allOf_ok hf r2 e2]
    rfl
theorem blOf_ok (φ : Lay) (H : Hp) (d : DV) (x : Bool) (v : V) (r : RV g φ H d v) (e : blOf d = some x) : v = .bl x := by
  cases d <;> simp only [blOf, Option.some.injEq, reduceCtorEq] at e
  subst e; exact RVbl r
theorem intOf_ok (φ : Lay) (H : Hp) (d : DV) (x : Int) (v : V) (r : RV g φ H d v) (e : intOf d = some x) : v = .int x := by
  cases d <;> simp only [intOf, Option.some.injEq, reduceCtorEq] at e
  subst e; exact rvInt r
theorem strOf_ok (φ : Lay) (H : Hp) (d : DV) (x : Str) (v : V) (r : RV g φ H d v) (e : strOf d = some x) : v = .str x := by
  cases d <;> simp only [strOf, Option.some.injEq, reduceCtorEq] at e
  subst e; exact rvStr r
def rLenA (K : PySem.W.Frag) : List V → Hp → VK → Prop := fun xs H Q => (∃ x n, xs = [x] ∧ LenV K x H n ∧ Q (.int n) H) ∨ ∃ a kvs, xs = [V.ref a] ∧ H a = some (.dK kvs) ∧ Q (.int kvs.length) H
theorem cr_len : CallR X (.builtin "len") (rLenA X.K) := call_len.or call_lenD
theorem RKs.length {κ : Type} {φ : Lay} {H : Hp} : ∀ {ds : List (κ × DV)} {vs : List (κ × V)}, RKs g φ H ds vs → ds.length = vs.length
  | [], _, h => by simp only [RKs] at h; subst h; rfl
  | d :: ds, vs, h => by
    simp only [RKs] at h
    obtain ⟨y, r, e, q, z⟩ := h
    subst e
    simp [RKs.length z]
theorem pr_len (hK : X.K = g.K) : PrimL g (rLenA X.K) lenP := by
  intro φ st H vs ds Q s r h
  have lst : ∀ {d : DV} {x : V} {es : List DV}, RV g φ H d x → seqOf st d = some es → PostO g (RV g) φ H Q (some (.int es.length, st)) → rLenA X.K [x] H Q := by
    intro d x es rx e h
    obtain ⟨a, xs, rfl, ha, rs⟩ := seqOf_ok s rx e
    exact .inl ⟨.ref a, _, rfl, .inl ⟨xs, by rw [hK]; exact ha, rfl⟩, by rw [← rs.length]; exact po1 s h mkInt⟩
  unfold lenP at h
  split at h
  · obtain ⟨x, rfl, rx⟩ := rvs1 r
    cases rvStr rx
    split at h
    · rename_i hz
      exact .inl ⟨_, _, rfl, ⟨hz, rfl⟩, po1 s h mkInt⟩
    · exact h.elim
  · obtain ⟨x, rfl, rx⟩ := rvs1 r
    obtain ⟨a, xs, rfl, ha, rs⟩ := rvTup rx
    exact .inl ⟨.ref a, _, rfl, .inr ⟨xs, by rw [hK]; exact ha, rfl⟩, by rw [← rs.length]; exact po1 s h mkInt⟩
  · rename_i n
    obtain ⟨x, rfl, rx⟩ := rvs1 r
    cases q : st[n]? with
    | none => simp only [q] at h; exact h.elim
    | some o =>
      cases o with
      | lst es => simp only [q] at h; exact lst rx (by simp [seqOf, q]) h
      | dct kvs =>
        simp only [q] at h
        obtain ⟨a, ho, h1, h2, ks, rfl, h3⟩ := s.get q
        simp only [RV] at rx
        obtain ⟨a', rfl, h4⟩ := rx
        rw [h1] at h4
        cases h4
        exact .inr ⟨a, ks, rfl, h2, by rw [← h3.length]; exact po1 s h mkInt⟩
      | ins c fs => simp only [q] at h; exact h.elim
      | dcn kvs => simp only [q] at h; exact h.elim
  · rename_i d _ _ _
    obtain ⟨x, rfl, rx⟩ := rvs1 r
    cases q : seqOf st d with
    | none => rw [q] at h; exact h.elim
    | some es => rw [q] at h; exact lst rx q h
  · exact h.elim
/-- of one list of values of a kind -/
theorem pr_list {α : Type} {f : DV → Option α} {k : α → V} {R : Addr → List α → Hp → VK → Prop} {res : List α → DV} (hf : ∀ φ H d x v, RV g φ H d v → f d = some x → v = k x)
    (hr : ∀ φ st H a xs Q, RSt g φ H st → SqL g.K H a (xs.map k) → PostO g (RV g) φ H Q (some (res xs, st)) → R a xs H Q) :
    PrimL g (fun vs H Q => ∃ a xs, vs = [.ref a] ∧ R a xs H Q) (oneL f res) := by
  intro φ st H vs ds Q s r h
  unfold oneL at h
  split at h
  · rename_i d
    obtain ⟨x, rfl, rx⟩ := rvs1 r
    cases q : seqOf st d with
    | none => rw [q] at h; exact h.elim
    | some es =>
      rw [q, Option.bind_some] at h
      cases q2 : allOf f es with
      | none => rw [q2] at h; exact h.elim
      | some bs =>
        rw [q2] at h
        obtain ⟨a, xs, rfl, ha, rs⟩ := seqOf_ok s rx q
        have e := allOf_ok hf rs q2
        subst e
        exact ⟨a, bs, rfl, hr φ st H a bs Q s ha h⟩
  · exact h.elim
theorem PrimL.imp {r r' : List V → Hp → VK → Prop} {p p' : PrF} (h : PrimL g r p) (hr : ∀ vs H Q, r vs H Q → r' vs H Q) (hp : ∀ ds st, p' ds st = p ds st) : PrimL g r' p' := fun φ st H vs ds Q s q k => hr _ _ _ (h φ st H vs ds Q s q (by rw [← hp]; exact k))
theorem pr_all (hK : X.K = g.K) : PrimL g (rAll X.K) allP :=
  (pr_list (k := V.bl) (R := fun a bs H Q => SqL g.K H a (bs.map V.bl) ∧ Q (.bl (bs.all id)) H) (res := fun bs => .bl (bs.all id)) blOf_ok fun φ st H a xs Q s h1 h2 => ⟨h1, po1 s h2 mkRVbl⟩).imp (fun vs H Q ⟨a, xs, e, h⟩ => ⟨a, xs, e, by rw [hK]; exact h.1, h.2⟩) fun ds st => rfl
theorem pr_any (hK : X.K = g.K) : PrimL g (rAny X.K) anyP :=
  (pr_list (k := V.bl) (R := fun a bs H Q => SqL g.K H a (bs.map V.bl) ∧ Q (.bl (bs.any id)) H) (res := fun bs => .bl (bs.any id)) blOf_ok fun φ st H a xs Q s h1 h2 => ⟨h1, po1 s h2 mkRVbl⟩).imp (fun vs H Q ⟨a, xs, e, h⟩ => ⟨a, xs, e, by rw [hK]; exact h.1, h.2⟩) fun ds st => rfl
theorem pr_sum (hK : X.K = g.K) : PrimL g (rSum X.K) sumP :=
  (pr_list (k := V.int) (R := fun a bs H Q => SqL g.K H a (bs.map V.int) ∧ Q (.int bs.sum) H) (res := fun bs => .int bs.sum) intOf_ok fun φ st H a xs Q s h1 h2 => ⟨h1, po1 s h2 mkInt⟩).imp (fun vs H Q ⟨a, xs, e, h⟩ => ⟨a, xs, e, by rw [hK]; exact h.1, h.2⟩) fun ds st => rfl
theorem pr_max2 : PrimL g (fun xs H Q => ∃ i j, xs = [.int i, .int j] ∧ Q (.int (if j > i then j else i)) H) max2P := by
  intro φ st H vs ds Q s r h
  unfold max2P at h
  split at h
  · obtain ⟨x, y, rfl, rx, ry⟩ := rvs2 r
    cases rvInt rx; cases rvInt ry
    exact ⟨_, _, rfl, po1 s h mkInt⟩
  · exact h.elim
theorem pr_min2 : PrimL g (fun xs H Q => ∃ i j, xs = [.int i, .int j] ∧ Q (.int (if j < i then j else i)) H) min2P := by
  intro φ st H vs ds Q s r h
  unfold min2P at h
  split at h
  · obtain ⟨x, y, rfl, rx, ry⟩ := rvs2 r
    cases rvInt rx; cases rvInt ry
    exact ⟨_, _, rfl, po1 s h mkInt⟩
  · exact h.elim
theorem pr_abs : PrimL g (fun xs H Q => ∃ i, xs = [.int i] ∧ Q (.int (if i < 0 then -i else i)) H) absP := by
  intro φ st H vs ds Q s r h
  unfold absP at h
  split at h
  · obtain ⟨x, rfl, rx⟩ := rvs1 r
    cases rvInt rx
    exact ⟨_, rfl, po1 s h mkInt⟩
  · exact h.elim
def rIntA : List V → Hp → VK → Prop := fun xs H Q => ((∃ i, xs = [.int i] ∧ Q (.int i) H) ∨ ∃ k, xs = [.bl k] ∧ Q (.int (if k then 1 else 0)) H) ∨ ∃ a n, xs = [.str a] ∧ PySem.intText? a = some n ∧ a.length ≤ 640 ∧ Q (.int n) H
theorem cr_int : CallR X (.type "int") rIntA := call_int1.or call_int_str
theorem pr_int : PrimL g rIntA intP := by
  intro φ st H vs ds Q s r h
  unfold intP at h
  split at h
  · obtain ⟨x, rfl, rx⟩ := rvs1 r
    cases rvInt rx
    exact .inl (.inl ⟨_, rfl, po1 s h mkInt⟩)
  · obtain ⟨x, rfl, rx⟩ := rvs1 r
    cases RVbl rx
    exact .inl (.inr ⟨_, rfl, po1 s h mkInt⟩)
  · rename_i a
    obtain ⟨x, rfl, rx⟩ := rvs1 r
    cases rvStr rx
    split at h
    · rename_i hz
      cases q : PySem.intText? a with
      | none => rw [q] at h; exact h.elim
      | some n => rw [q] at h; exact .inr ⟨_, n, rfl, q, hz, po1 s h mkInt⟩
    · exact h.elim
  · exact h.elim
def rStrA : List V → Hp → VK → Prop := fun xs H Q => (∃ i, xs = [.int i] ∧ i.natAbs.log2 < 1920 ∧ Q (.str (toString i)) H) ∨ ∃ a, xs = [.str a] ∧ Q (.str a) H
theorem cr_str : CallR X (.type "str") rStrA := call_str_int.or SkE.call_str_str
theorem pr_str : PrimL g rStrA strP := by
  intro φ st H vs ds Q s r h
  unfold strP at h
  split at h
  · obtain ⟨x, rfl, rx⟩ := rvs1 r
    cases rvInt rx
    split at h
    · rename_i hz
      exact .inl ⟨_, rfl, hz, po1 s h mkStr⟩
    · exact h.elim
  · obtain ⟨x, rfl, rx⟩ := rvs1 r
    cases rvStr rx
    exact .inr ⟨_, rfl, po1 s h mkStr⟩
  · exact h.elim
theorem pr_listOf (hK : X.K = g.K) : PrimL g (fun xs H Q => ∃ p ys, xs = [.ref p] ∧ (SqL X.K H p ys ∨ SqT X.K H p ys) ∧ ∀ l, H l = none → Q (.ref l) (upd H l (.lst ys))) listP := by
  intro φ st H vs ds Q s r h
  unfold listP at h
  split at h
  · obtain ⟨x, rfl, rx⟩ := rvs1 r
    obtain ⟨a, xs, rfl, ha, rs⟩ := rvTup rx
    exact ⟨a, xs, rfl, .inr (by rw [hK]; exact ha), new_lst s rs h⟩
  · rename_i d _
    obtain ⟨x, rfl, rx⟩ := rvs1 r
    cases q : seqOf st d with
    | none => rw [q] at h; exact h.elim
    | some es =>
      rw [q] at h
      obtain ⟨a, xs, rfl, ha, rs⟩ := seqOf_ok s rx q
      exact ⟨a, xs, rfl, .inl (by rw [hK]; exact ha), new_lst s rs h⟩
  · exact h.elim
theorem pr_listOfR (hK : X.K = g.K) : PrimL g (fun xs H Q => ∃ p ys, xs = [.ref p] ∧ (SqL X.K H p ys ∨ SqT X.K H p ys) ∧ ∀ l, H l = none → Q (.ref l) (upd H l (.lst ys))) listRP := by
  intro φ st H vs ds Q s r h
  unfold listRP at h
  split at h
  · rename_i es
    obtain ⟨x, rfl, rx⟩ := rvs1 r
    obtain ⟨a, xs, rfl, ha, rs⟩ := rvTup rx
    exact ⟨a, xs, rfl, .inr (by rw [hK]; exact ha), new_ref (o := .lst es) s (fun _ => ⟨_, rfl, rs⟩) h⟩
  · rename_i d _
    obtain ⟨x, rfl, rx⟩ := rvs1 r
    cases q : seqOf st d with
    | none => rw [q] at h; exact h.elim
    | some es =>
      rw [q] at h
      obtain ⟨a, xs, rfl, ha, rs⟩ := seqOf_ok s rx q
      exact ⟨a, xs, rfl, .inl (by rw [hK]; exact ha), new_ref (o := .lst es) s (fun _ => ⟨_, rfl, rs⟩) h⟩
  · exact h.elim
theorem pr_tupleOf (hK : X.K = g.K) : PrimL g (fun xs H Q => ∃ p ys, xs = [.ref p] ∧ ((SqL X.K H p ys ∧ ∀ l, H l = none → Q (.ref l) (upd H l (.tup ys))) ∨ (SqT X.K H p ys ∧ Q (.ref p) H))) tupleP := by
  intro φ st H vs ds Q s r h
  unfold tupleP at h
  split at h
  · obtain ⟨x, rfl, rx⟩ := rvs1 r
    obtain ⟨a, xs, rfl, ha, rs⟩ := rvTup rx
    exact ⟨a, xs, rfl, .inr ⟨by rw [hK]; exact ha, po1 s h rx⟩⟩
  · rename_i d _
    obtain ⟨x, rfl, rx⟩ := rvs1 r
    cases q : seqOf st d with
    | none => rw [q] at h; exact h.elim
    | some es =>
      rw [q] at h
      obtain ⟨a, xs, rfl, ha, rs⟩ := seqOf_ok s rx q
      exact ⟨a, xs, rfl, .inl ⟨by rw [hK]; exact ha, new_tup s rs h⟩⟩
  · exact h.elim
/-! ### methods of built-in types -/
def PrimM (g : Gam) (K : PySem.W.Frag) (T : String) (r : V → List V → Hp → VK → Prop) (p : DV → List DV → DSt → Option (DV × DSt)) : Prop :=
  ∀ φ st H x dx vs ds Q, RSt g φ H st → RV g φ H dx x → RVs g φ H ds vs → PostO g (RV g) φ H Q (p dx ds st) → r x vs H Q
/-- the receiver's type ahead of the arguments: a list (of the state or not), a text -/
def eMet (T : String) (p : DV → List DV → DSt → Option (DV × DSt)) (o : Ex) (a : Exs) : Ex := fun env st => (o env st).bind fun x st1 =>
  if (T = "str" ∧ (strOf x).isSome) ∨ (T = "list" ∧ (seqOf st1 x).isSome) then (a env st1).bind fun ds st2 => Res.of (p x ds st2) else .bad
theorem tyV_of (hK : X.K = g.K) {T : String} {φ : Lay} {H : Hp} {st : DSt} {d : DV} {x : V} (s : RSt g φ H st) (r : RV g φ H d x) (h : (T = "str" ∧ (strOf d).isSome) ∨ (T = "list" ∧ (seqOf st d).isSome)) : tyV X.K T x H := by
  rcases h with ⟨rfl, h⟩ | ⟨rfl, h⟩
  · obtain ⟨z, hz⟩ := Option.isSome_iff_exists.mp h
    rw [strOf_ok φ H d z x r hz]
    rfl
  · obtain ⟨z, hz⟩ := Option.isSome_iff_exists.mp h
    obtain ⟨a, xs, rfl, ha, _⟩ := seqOf_ok s r hz
    exact .inl ⟨rfl, xs, by rw [hK]; exact ha⟩
theorem pe_eMet (hK : X.K = g.K) {T id : String} {name : Str} {apos cpos : Pos} {es : List Expr} {r : V → List V → Hp → VK → Prop} {p : DV → List DV → DSt → Option (DV × DSt)} (hp : PrimM g X.K T r p) (pa : PlainAttrs T) (slot : Slot T name id) (hty : typeOf (.builtin id) = pure (.type "method_descriptor")) (hm : MtR X id r)
    (ho : PE X o (TM g (RV g) W mo)) (ha : PA X (e :: es) (TM g (RVs g) W ms)) (hbase : attributeBase o name X.env (eval o X.env) = eval o X.env := by rfl)
    (hfew : ((backTo cpos (starEach (e :: es) X.env)).all (fun x => !x.1) && (backToKw cpos (keywordEach [] X.env)).all (fun x => x.1.isSome)
      && decide ((e :: es).length + ([] : List Keyword).length + (if ([] : List Keyword).isEmpty then 0 else 1) < 30)) = true := by rfl)
    (hline : (apos.endLine == cpos.line) = true := by rfl) (hs : starEach (e :: es) X.env = (false, eval e X.env) :: starEach es X.env := by rfl) (hplain : (backTo cpos (starEach es X.env)).any (·.1) = false := by rfl) :
    PE X (.Call (.Attribute o name apos) (e :: es) [] cpos) (TM g (RV g) W (eMet T p mo ms)) :=
  (pe_bm pa slot hty hm ho ha hbase hfew hline hs hplain).imp fun σ H Q ⟨φ, env, st, s, n, h⟩ => ⟨φ, env, st, s, n, Post.bind h fun x st1 φ1 H1 xv x1 s1 r1 h1 => by
    split at h1
    · rename_i hT
      refine ⟨tyV_of hK s1 r1 hT, φ1, env, st1, s1, n.ext s.tame x1, Post.bind h1 fun ds st2 φ2 H2 vs x2 s2 r2 h2 => ?_⟩
      exact hp φ2 st2 H2 xv x vs ds Q s2 (RV.ext s1.tame x2 _ _ r1) r2 (Post.of h2)
    · exact h1.elim⟩
theorem pe_eMet0 (hK : X.K = g.K) {T id : String} {name : Str} {apos cpos : Pos} {r : V → List V → Hp → VK → Prop} {p : DV → List DV → DSt → Option (DV × DSt)} (hp : PrimM g X.K T r p) (pa : PlainAttrs T) (slot : Slot T name id) (hty : typeOf (.builtin id) = pure (.type "method_descriptor")) (hm : MtR X id r)
    (ho : PE X o (TM g (RV g) W mo)) (hbase : attributeBase o name X.env (eval o X.env) = eval o X.env := by rfl) (hline : (apos.endLine == cpos.line) = true := by rfl) : PE X (.Call (.Attribute o name apos) [] [] cpos) (TM g (RV g) W (eMet T p mo asNil)) :=
  (pe_bm0 pa slot hty hm ho hbase hline).imp fun σ H Q ⟨φ, env, st, s, n, h⟩ => ⟨φ, env, st, s, n, Post.bind h fun x st1 φ1 H1 xv x1 s1 r1 h1 => by
    split at h1
    · rename_i hT
      exact ⟨tyV_of hK s1 r1 hT, hp φ1 st1 H1 xv x [] [] Q s1 r1 RVs.nil (Post.of (g := g) (W := fun c d H' => W c d σ H') h1)⟩
    · exact h1.elim⟩
theorem lstAt_ok {φ : Lay} {H : Hp} {st : DSt} {d : DV} {x : V} {n : Nat} {ds : List DV} (s : RSt g φ H st) (r : RV g φ H d x) (e : lstAt st d = some (n, ds)) : ∃ a xs, x = .ref a ∧ φ.rf[n]? = some a ∧ H a = some (.lst xs) ∧ RVs g φ H ds xs := by
  cases d with
  | ref m =>
    simp only [lstAt] at e
    cases q : st[m]? with
    | none => simp [q] at e
    | some o =>
      cases o with
      | lst es =>
        simp [q] at e
        obtain ⟨rfl, rfl⟩ := e
        obtain ⟨a, ho, h1, h2, xs, rfl, h3⟩ := s.get q
        simp only [RV] at r
        obtain ⟨a', rfl, h4⟩ := r
        rw [h1] at h4
        cases h4
        exact ⟨a, xs, rfl, h1, h2, h3⟩
      | dct kvs => simp [q] at e
      | ins c fs => simp [q] at e
      | dcn kvs => simp [q] at e
  | _ => simp [lstAt] at e
theorem pr_append : PrimM g X.K "list" rAppend appendP := by
  intro φ st H x dx vs ds Q s rx rs h
  unfold appendP at h
  cases q : lstAt st dx with
  | none => rw [q] at h; exact h.elim
  | some p =>
    obtain ⟨n, es⟩ := p
    rw [q, Option.bind_some] at h
    obtain ⟨a, xs, rfl, h1, h2, h3⟩ := lstAt_ok s rx q
    simp only at h
    split at h
    · rename_i y
      obtain ⟨v, rfl, rv⟩ := rvs1 rs
      split at h
      · rename_i hl
        refine ⟨a, xs, v, rfl, rfl, h2, by rw [← h3.length]; exact hl, ?_⟩
        exact h φ _ .non (Ext.write s h1) (s.write h1 ⟨_, rfl, h3.append (RVs.one rv)⟩) mkNon
      · exact h.elim
    · exact h.elim
theorem RVs.dropLast {φ : Lay} {H : Hp} {ds : List DV} {xs : List V} (r : RVs g φ H ds xs) : RVs g φ H ds.dropLast xs.dropLast := by
  rw [List.dropLast_eq_take, List.dropLast_eq_take, ← r.length]
  exact r.take _
theorem pr_pop : PrimM g X.K "list" rPop popP := by
  intro φ st H x dx vs ds Q s rx rs h
  unfold popP at h
  cases q : lstAt st dx with
  | none => rw [q] at h; exact h.elim
  | some p =>
    obtain ⟨n, es⟩ := p
    rw [q, Option.bind_some] at h
    obtain ⟨a, xs, rfl, h1, h2, h3⟩ := lstAt_ok s rx q
    simp only at h
    split at h
    · simp only [RVs] at rs
      subst rs
      cases q2 : es[es.length - 1]? with
      | none => rw [q2] at h; exact h.elim
      | some d =>
        rw [q2] at h
        obtain ⟨v, hv, rv⟩ := h3.get q2
        have x := Ext.write (o := .lst xs.dropLast) s h1
        exact ⟨a, xs, v, rfl, rfl, h2, by rw [← h3.length]; exact hv, h φ _ v x (s.write h1 ⟨_, rfl, h3.dropLast⟩) (RV.ext s.tame x _ _ rv)⟩
    · exact h.elim
theorem RVs.erase {φ : Lay} {H : Hp} {ds : List DV} {xs : List V} (r : RVs g φ H ds xs) (k : Nat) : RVs g φ H (ds.eraseIdx k) (xs.eraseIdx k) := by
  rw [List.eraseIdx_eq_take_drop_succ, List.eraseIdx_eq_take_drop_succ]
  exact (r.take _).append (r.drop _)
theorem pr_popAt : PrimM g X.K "list" rPopAt popAtP := by
  intro φ st H x dx vs ds Q s rx rs h
  unfold popAtP at h
  cases q : lstAt st dx with
  | none => rw [q] at h; exact h.elim
  | some p =>
    obtain ⟨n, es⟩ := p
    rw [q, Option.bind_some] at h
    obtain ⟨a, xs, rfl, h1, h2, h3⟩ := lstAt_ok s rx q
    simp only at h
    split at h
    · rename_i i
      obtain ⟨v0, rfl, rv0⟩ := rvs1 rs
      cases rvInt rv0
      split at h
      · rename_i hi
        cases q3 : seqIndex? i es.length with
        | none => rw [q3] at h; exact h.elim
        | some k =>
          rw [q3, Option.bind_some] at h
          cases q2 : es[k]? with
          | none => rw [q2] at h; exact h.elim
          | some d =>
            rw [q2] at h
            obtain ⟨v, hv, rv⟩ := h3.get q2
            have x := Ext.write (o := .lst (xs.eraseIdx k)) s h1
            exact ⟨a, xs, i, k, v, rfl, rfl, h2, hi.1, hi.2, by rw [← h3.length]; exact q3, hv, h φ _ v x (s.write h1 ⟨_, rfl, h3.erase k⟩) (RV.ext s.tame x _ _ rv)⟩
      · exact h.elim
    · exact h.elim
theorem pr_extend : PrimM g X.K "list" rExtend extendP := by
  intro φ st H x dx vs ds Q s rx rs h
  unfold extendP at h
  cases q : lstAt st dx with
  | none => rw [q] at h; exact h.elim
  | some p =>
    obtain ⟨n, es⟩ := p
    rw [q, Option.bind_some] at h
    obtain ⟨a, xs, rfl, h1, h2, h3⟩ := lstAt_ok s rx q
    simp only at h
    split at h
    · rename_i ys
      obtain ⟨v0, rfl, rv0⟩ := rvs1 rs
      simp only [RV] at rv0
      obtain ⟨b, zs, rfl, _, hb, rz⟩ := rv0
      split at h
      · rename_i hl
        exact ⟨a, b, xs, zs, rfl, rfl, h2, hb, by rw [← h3.length, ← rz.length]; exact hl, h φ _ .non (Ext.write s h1) (s.write h1 ⟨_, rfl, h3.append rz⟩) mkNon⟩
      · exact h.elim
    · exact h.elim
def rJoinA (K : PySem.W.Frag) : V → List V → Hp → VK → Prop := fun x xs H Q => ∃ a p, ∃ ys : List Str, x = .str a ∧ xs = [.ref p] ∧ (SqL K H p (ys.map V.str) ∨ SqT K H p (ys.map V.str)) ∧ (ys.map (·.length)).sum + ys.length * a.length ≤ 16777216 ∧ Q (.str (Txt.join a ys)) H
theorem pr_join (hK : X.K = g.K) : PrimM g X.K "str" (rJoinA X.K) joinP := by
  intro φ st H x dx vs ds Q s rx rs h
  unfold joinP at h
  split at h
  · rename_i a es
    cases rvStr rx
    obtain ⟨v, rfl, rv⟩ := rvs1 rs
    obtain ⟨p, xs, rfl, hp, rxs⟩ := rvTup rv
    cases q : allOf strOf es with
    | none => rw [q] at h; exact h.elim
    | some ys =>
      rw [q, Option.bind_some] at h
      have e := allOf_ok (k := V.str) strOf_ok rxs q
      subst e
      split at h
      · rename_i hl
        exact ⟨a, p, ys, rfl, rfl, .inr (by rw [hK]; exact hp), hl, po1 s h mkStr⟩
      · exact h.elim
  · rename_i a d _
    cases rvStr rx
    obtain ⟨v, rfl, rv⟩ := rvs1 rs
    cases q0 : seqOf st d with
    | none => rw [q0] at h; exact h.elim
    | some es =>
      rw [q0, Option.bind_some] at h
      obtain ⟨p, xs, rfl, hp, rxs⟩ := seqOf_ok s rv q0
      cases q : allOf strOf es with
      | none => rw [q] at h; exact h.elim
      | some ys =>
        rw [q, Option.bind_some] at h
        have e := allOf_ok (k := V.str) strOf_ok rxs q
        subst e
        split at h
        · rename_i hl
          exact ⟨a, p, ys, rfl, rfl, .inl (by rw [hK]; exact hp), hl, po1 s h mkStr⟩
        · exact h.elim
  · exact h.elim
theorem RVs.strs {φ : Lay} {H : Hp} : ∀ ys : List Str, RVs g φ H (ys.map .str) (ys.map V.str)
  | [] => RVs.nil
  | y :: ys => RVs.cons mkStr (RVs.strs ys)
theorem pr_split : PrimM g X.K "str" (fun x xs H Q => ∃ a b, x = .str a ∧ xs = [.str b] ∧ (b.length == 0) = false ∧ a.length + 2 ≤ sizeLine ∧ rNewStrs (Txt.split a b) H Q) splitP := by
  intro φ st H x dx vs ds Q s rx rs h
  unfold splitP at h
  split at h
  · rename_i a b
    cases rvStr rx
    obtain ⟨v, rfl, rv⟩ := rvs1 rs
    cases rvStr rv
    split at h
    · rename_i hl
      exact ⟨a, b, rfl, rfl, hl.1, hl.2, new_lst s (RVs.strs _) h⟩
    · exact h.elim
  · exact h.elim
theorem pr_upper : PrimM g X.K "str" (fun x xs H Q => ∃ a, x = .str a ∧ xs = [] ∧ a.length ≤ 5592405 ∧ Q (.str (Txt.upper a)) H) upperP := by
  intro φ st H x dx vs ds Q s rx rs h
  unfold upperP at h
  split at h
  · rename_i a
    cases rvStr rx
    simp only [RVs] at rs
    subst rs
    split at h
    · rename_i hl
      exact ⟨a, rfl, rfl, hl, po1 s h mkStr⟩
    · exact h.elim
  · exact h.elim
theorem pr_sindex : PrimM g X.K "str" (fun x xs H Q => ∃ a b i rest, x = .str a ∧ xs = [.str b] ∧ Builtin.Str.occurrences a b 0 a.length 1 = i :: rest ∧ Q (.int (i : Nat)) H) sindexP := by
  intro φ st H x dx vs ds Q s rx rs h
  unfold sindexP at h
  split at h
  · rename_i a b
    cases rvStr rx
    obtain ⟨v, rfl, rv⟩ := rvs1 rs
    cases rvStr rv
    split at h
    · rename_i i rest q
      exact ⟨a, b, i, rest, rfl, rfl, q, po1 s h mkInt⟩
    · exact h.elim
  · exact h.elim
end
end DM

/-! DM9: repr, isinstance, list of texts and ranges, len(set(..)), dicts displayed, attributes, classes. -/
namespace DM
open PySem PySem.Spec PyProof.Rows L2

/-! ### repr -/
def keyD : Key → PyData
  | .inl i => .int i
  | .inr x => .str x
def pyKs : List (Key × DV) → Option (List (PyData × PyData))
  | [] => some []
  | (k, d) :: r => if flatD d = true then (pyV d).bind fun p => (pyKs r).map fun ps => (keyD k, p) :: ps else none
def pyR (st : DSt) : DV → Option PyData
  | .ref n => (match st[n]? with
    | some (.lst ds) => (pyVs ds).map .list
    | some (.dct kvs) => (pyKs kvs).map .dict
    | _ => none)
  | d => pyV d
mutual
def noDict : PyData → Bool
  | .dict _ => false
  | .list xs => noDicts xs
  | .tuple xs => noDicts xs
  | .none => true
  | .bool _ => true
  | .int _ => true
  | .str _ => true
def noDicts : List PyData → Bool
  | [] => true
  | x :: xs => noDict x && noDicts xs
end
def okShow (p : PyData) : Bool := p.showable && decide (p.depth ≤ 60) && decide (p.shown.length ≤ sizeLine)
def reprP : PrF := fun ds st => match ds with
  | [d] => (pyR st d).bind fun p => if okShow p = true then some (.str p.shown, st) else none
  | _ => none
section
variable {X : Cx} {g : Gam} {W : WX}
mutual
theorem pyV_noDict : ∀ (d : DV) (p : PyData), pyV d = some p → p.hasDict = false
  | .non, p, e => by simp only [pyV, Option.some.injEq] at e; subst e; simp [PyData.hasDict]
  | .bl _, p, e => by simp only [pyV, Option.some.injEq] at e; subst e; simp [PyData.hasDict]
  | .int _, p, e => by simp only [pyV, Option.some.injEq] at e; subst e; simp [PyData.hasDict]
  | .str _, p, e => by simp only [pyV, Option.some.injEq] at e; subst e; simp [PyData.hasDict]
  | .tup ds, p, e => by
    simp only [pyV, Option.map_eq_some_iff] at e
    obtain ⟨ps, e1, rfl⟩ := e
    simp only [PyData.hasDict]; exact pyVs_noDict ds ps e1
  | .lst ds, p, e => by
    simp only [pyV, Option.map_eq_some_iff] at e
    obtain ⟨ps, e1, rfl⟩ := e
    simp only [PyData.hasDict]; exact pyVs_noDict ds ps e1
  | .fzl ds, p, e => by
    simp only [pyV, Option.map_eq_some_iff] at e
    obtain ⟨ps, e1, rfl⟩ := e
    simp only [PyData.hasDict]; exact pyVs_noDict ds ps e1
  | .ref _, _, e => by simp [pyV] at e
  | .glo _, _, e => by simp [pyV] at e
  | .ty _, _, e => by simp [pyV] at e
theorem pyVs_noDict : ∀ (ds : List DV) (ps : List PyData), pyVs ds = some ps → PyData.hasDictAll ps = false
  | [], ps, e => by simp only [pyVs, Option.some.injEq] at e; subst e; simp [PyData.hasDictAll]
  | d :: ds, ps, e => by
    simp only [pyVs, Option.bind_eq_some_iff, Option.map_eq_some_iff] at e
    obtain ⟨p, e1, ps', e2, rfl⟩ := e
    simp [PyData.hasDictAll, pyV_noDict d p e1, pyVs_noDict ds ps' e2]
end
/-- what stands of a value in the heap, for repr -/
def RdP (X : Cx) (x : V) (H : Hp) (p : PyData) : Prop := ∀ (pins : List (Addr × Obj)) (σ : L2.St) (s : Shared) (u : Value), Inv X pins σ H s → RelV x u → ∃ as, Reads s.heap u p as ∧ (p.hasDict = true → sysModules ∉ as)
def rReprA (X : Cx) : List V → Hp → VK → Prop := fun xs H Q => ∃ x p, xs = [x] ∧ RdP X x H p ∧ okShow p = true ∧ Q (.str p.shown) H
theorem RelV.plain {x : V} {u : Value} (r : RelV x u) {h : Heap} {p : PyData} {as : List Addr} (q : Reads h u p as) : (∃ a, u = .ref a) ∨ (∀ a, u ≠ .ref a) := by
  cases u <;> first | exact .inl ⟨_, rfl⟩ | exact .inr (fun a z => nomatch z)
theorem cr_repr (hG : X.A.guards = some []) (hu : X.A.units + 64 < cLine) : CallR X (.builtin "repr") (rReprA X) := by
  intro pins s σ H xs us Q I r h
  obtain ⟨x, p, rfl, rd, ok, q⟩ := h
  obtain ⟨u, rfl, rx⟩ := vals1 r
  obtain ⟨as, red, hm⟩ := rd pins σ s u I rx
  simp only [okShow, Bool.and_eq_true, decide_eq_true_eq] at ok
  obtain ⟨⟨sh, dp⟩, sz⟩ := ok
  have fin : ∀ (h' : Heap) (t : Tok) (tk : Nat), (∀ b o, s.heap.get? b = some o → h'.get? b = some o) → EP X pins σ Q (.str p.shown t) { s with heap := h', toks := tk } := fun h' t tk k => ⟨.str p.shown, H, I.kept k, ⟨t, rfl⟩, q⟩
  cases red with
  | none => exact P.repr_of_none (fin s.heap _ _ fun _ _ e => e)
  | bool b => exact P.repr_of_bool (fin s.heap _ _ fun _ _ e => e)
  | int i t => exact P.repr_of_int (of_decide_eq_true sh) (fin s.heap _ _ fun _ _ e => e)
  | str y t => exact P.repr_of_str (fin s.heap _ _ fun _ _ e => e) sz
  | list h1 h2 h3 h4 => exact repr_of_reads' (.list h1 h2 h3 h4) sh hm hG (by omega) (fun _ _ e => e) (fun h' u tk k => fin h' u tk k) sz
  | tuple h1 h2 h3 h4 => exact repr_of_reads' (.tuple h1 h2 h3 h4) sh hm hG (by omega) (fun _ _ e => e) (fun h' u tk k => fin h' u tk k) sz
  | dict h1 h2 h3 h4 h5 => exact repr_of_reads' (.dict h1 h2 h3 h4 h5) sh hm hG (by omega) (fun _ _ e => e) (fun h' u tk k => fin h' u tk k) sz
theorem rdp_of (hK : X.K = g.K) {φ : Lay} {H : Hp} {d : DV} {x : V} {p : PyData} (r : RV g φ H d x) (e : pyV d = some p) : RdP X x H p := fun pins σ s u I ru => by
  have dp := pyV_ok d x p r e
  rw [← hK] at dp
  obtain ⟨as, q⟩ := Dp.reads I p x u dp ru
  exact ⟨as, q, fun z => by rw [pyV_noDict d p e] at z; cases z⟩
theorem key_reads {h : Heap} {k : Key} {v : Value} (e : keyIs k v = true) : Reads h v (keyD k) [] := by
  rcases keyIs_shape e with ⟨i, t, rfl, rfl⟩ | ⟨z, t, rfl, rfl⟩
  · exact .int i t
  · exact .str z t
theorem flat_reads {φ : Lay} {H : Hp} {h : Heap} {d : DV} {x : V} {u : Value} {p : PyData} (r : RV g φ H d x) (f : flatD d = true) (e : pyV d = some p) (ru : RelV x u) : Reads h u p [] := by
  cases d <;> simp only [flatD, Bool.false_eq_true] at f <;> simp only [pyV, Option.some.injEq] at e <;> subst e <;> simp only [RV] at r <;> subst r
  · cases ru; exact .none
  · cases ru; exact .bool _
  · obtain ⟨t, rfl⟩ := ru; exact .int _ _
  · obtain ⟨t, rfl⟩ := ru; exact .str _ _
theorem rdp_ents {prog : Program} {w : World} {φ : Lay} {H : Hp} {h : Heap} : ∀ {kvs : List (Key × DV)} {ks : List (Key × V)} {vs : List (Key × Value)} {es : List DictEntry} {ps : List (PyData × PyData)},
    RKs g φ H kvs ks → KV ks vs → Pairs (mixKind prog w) es vs → pyKs kvs = some ps → ReadsAll h (es.map (·.key)) (ps.map (·.1)) [] ∧ ReadsAll h (es.map (·.val)) (ps.map (·.2)) []
  | [], ks, vs, es, ps, r1, r2, r3, e => by
    simp only [RKs] at r1
    subst r1
    cases r2
    cases r3
    simp only [pyKs, Option.some.injEq] at e
    subst e
    exact ⟨.nil, .nil⟩
  | (k, d) :: kvs, ks, vs, es, ps, r1, r2, r3, e => by
    simp only [pyKs] at e
    split at e
    · rename_i f
      simp only [Option.bind_eq_some_iff, Option.map_eq_some_iff] at e
      obtain ⟨p, e1, ps', e2, rfl⟩ := e
      simp only [RKs] at r1
      obtain ⟨x, r, rfl, rx, rr⟩ := r1
      cases r2 with
      | cons q1 q2 =>
        cases r3 with
        | cons q3 q4 q5 =>
          obtain ⟨h1, h2⟩ := rdp_ents (h := h) rr q2 q5 e2
          obtain ⟨q6, q7⟩ := q1
          rw [mixKind_is, ← q6] at q3
          refine ⟨?_, ?_⟩
          · exact ReadsAll.cons (as := []) (bs := []) (key_reads q3) h1
          · refine ReadsAll.cons (as := []) (bs := []) ?_ h2
            show Reads h (DictEntry.val _) p []
            rw [q4]
            exact flat_reads rx f e1 q7
    · cases e
theorem rdp_dict {φ : Lay} {H : Hp} {a : Addr} {kvs : List (Key × DV)} {ks : List (Key × V)} {ps : List (PyData × PyData)} (h : H a = some (.dK ks)) (r : RKs g φ H kvs ks) (e : pyKs kvs = some ps) : RdP X (.ref a) H (.dict ps) := fun pins σ s u I ru => by
  cases ru
  obtain ⟨_, hs, vs, kv, o, es, ep, e1, e2, e3, _, e5, _⟩ := I.hok a _ h
  obtain ⟨h1, h2⟩ := rdp_ents (h := s.heap) r kv e5 e
  refine ⟨a :: [] ++ [], .dict e1 e2.1 e3 h1 h2, fun _ z => ?_⟩
  have z' : sysModules = a := by simpa using z
  rw [← z'] at hs
  simp at hs
theorem pr_repr (hK : X.K = g.K) : PrimL g (rReprA X) reprP := by
  intro φ st H vs ds Q s r h
  unfold reprP at h
  split at h
  · rename_i d
    obtain ⟨x, rfl, rx⟩ := rvs1 r
    cases q : pyR st d with
    | none => rw [q] at h; exact h.elim
    | some p =>
      rw [q, Option.bind_some] at h
      split at h
      · rename_i ok
        refine ⟨x, p, rfl, ?_, ok, po1 s h mkStr⟩
        cases d with
        | ref n =>
          simp only [pyR] at q
          cases q2 : st[n]? with
          | none => simp [q2] at q
          | some o =>
            cases o with
            | lst es =>
              simp only [q2, Option.map_eq_some_iff] at q
              obtain ⟨ps, e1, rfl⟩ := q
              intro pins σ s0 u I ru
              have dp := pyD_ok (p := .list ps) s rx (by simp [pyD, q2, e1])
              rw [← hK] at dp
              obtain ⟨as, z⟩ := Dp.reads I _ x u dp ru
              refine ⟨as, z, fun z2 => ?_⟩
              simp only [PyData.hasDict] at z2
              rw [pyVs_noDict es ps e1] at z2
              cases z2
            | dct kvs =>
              simp only [q2, Option.map_eq_some_iff] at q
              obtain ⟨ps, e1, rfl⟩ := q
              obtain ⟨a, ho, h1, h2, ks, rfl, h3⟩ := s.get q2
              simp only [RV] at rx
              obtain ⟨a', rfl, h4⟩ := rx
              rw [h1] at h4
              cases h4
              exact rdp_dict h2 h3 e1
            | ins c fs => simp [q2] at q
            | dcn kvs => simp [q2] at q
        | _ => exact rdp_of hK rx (by simpa [pyR] using q)
      · exact h.elim
  · exact h.elim
/-! ### isinstance of a built-in class -/
def isaT (a b : String) : Bool := a == b || (a == "bool" && b == "int")
theorem kitB_table : ∀ a, a ∈ ["NoneType", "bool", "int", "str", "tuple", "list", "dict"] → ∀ b, b ∈ ["bool", "int", "str", "tuple", "list", "dict"] → kitB a b = some (isaT a b) := by decide +kernel
def tyName (st : DSt) : DV → Option String
  | .non => some "NoneType"
  | .bl _ => some "bool"
  | .int _ => some "int"
  | .str _ => some "str"
  | .tup _ => some "tuple"
  | .lst _ => some "list"
  | .ref n => (match st[n]? with
    | some (.lst _) => some "list"
    | some (.dct _) => some "dict"
    | _ => none)
  | _ => none
def isiP (T : String) : PrF := fun ds st => match ds with
  | [d, .ty n] => if n = T then (tyName st d).map fun a => (.bl (isaT a T), st) else none
  | _ => none
theorem tyName_mem {st : DSt} {d : DV} {a : String} (e : tyName st d = some a) : a ∈ ["NoneType", "bool", "int", "str", "tuple", "list", "dict"] := by
  cases d with
  | ref n =>
    simp only [tyName] at e
    cases q : st[n]? with
    | none => simp [q] at e
    | some o => cases o <;> simp [q] at e <;> subst e <;> decide
  | _ => simp [tyName] at e <;> subst e <;> decide
theorem tyName_ok (hK : X.K = g.K) {φ : Lay} {H : Hp} {st : DSt} {d : DV} {x : V} {a : String} (s : RSt g φ H st) (r : RV g φ H d x) (e : tyName st d = some a) : TyX X.K H x (.type a) := by
  cases d with
  | non => cases rvNon r; simp [tyName] at e; subst e; exact .base .non
  | bl b => cases RVbl r; simp [tyName] at e; subst e; exact .base (.bl b)
  | int b => cases rvInt r; simp [tyName] at e; subst e; exact .base (.int b)
  | str b => cases rvStr r; simp [tyName] at e; subst e; exact .base (.str b)
  | tup ds =>
    obtain ⟨a, xs, rfl, hx, _⟩ := rvTup r
    simp [tyName] at e; subst e
    rcases hx with (hx | ⟨u, hx⟩) | ⟨u, its, n, hx, hc, _⟩
    · exact .base (.tup hx)
    · exact .fTuple hx
    · exact .kTuple (by rw [hK]; exact hx) hc
  | lst ds =>
    simp only [RV] at r
    obtain ⟨a, xs, rfl, _, hx, _⟩ := r
    simp [tyName] at e; subst e
    exact .base (.lst hx)
  | ref n =>
    simp only [tyName] at e
    cases q : st[n]? with
    | none => simp [q] at e
    | some o =>
      obtain ⟨a', ho, h1, h2, h3⟩ := s.get q
      simp only [RV] at r
      obtain ⟨b, rfl, h4⟩ := r
      rw [h1] at h4
      cases h4
      cases o with
      | lst es => simp [q] at e; subst e; obtain ⟨xs, rfl, _⟩ := h3; exact .base (.lst h2)
      | dct kvs => simp [q] at e; subst e; obtain ⟨xs, rfl, _⟩ := h3; exact .base (.dK h2)
      | ins c fs => simp [q] at e
      | dcn kvs => simp [q] at e
  | _ => simp [tyName] at e
theorem pr_isi (hK : X.K = g.K) {T : String} (hT : T ∈ ["bool", "int", "str", "tuple", "list", "dict"]) : PrimL g (rIsi X.K) (isiP T) := by
  intro φ st H vs ds Q s r h
  unfold isiP at h
  split at h
  · rename_i d n
    obtain ⟨x, y, rfl, rx, ry⟩ := rvs2 r
    split at h
    · rename_i hn
      subst hn
      cases rvTy ry
      cases e : tyName st d with
      | none => rw [e] at h; exact h.elim
      | some a =>
        rw [e] at h
        exact ⟨x, .ty n, .type a, .type n, _, rfl, .ty n, tyName_ok hK s rx e, kit_ty (kitB_table a (tyName_mem e) n hT), po1 s h mkRVbl⟩
    · exact h.elim
  · exact h.elim

theorem pe_eTy {x : Str} {n : String} {pos : Pos} (hg : Gl X x) (hm : X.mg x = none) (hv : bootBuiltins x = some (.type n)) (hn : x ≠ "__name__" := by decide) (hd : (x == ("__debug__" : Str)) = false := by decide) : PE X (.Name x pos) (TM g (RV g) W (eC (.ty n))) :=
  pe_eC (v := .ty n) (pe_bltn hg hm hv (rfl : RelV (.ty n) (.type n)) hn hd) fun _ _ => by simp [RV]
theorem valsOf : ∀ {xs : List V} {us : List Value}, xs.length = us.length → (∀ (i : Nat) (x : V) (u : Value), xs[i]? = some x → us[i]? = some u → RelV x u) → Vals xs us
  | [], [], _, _ => .nil
  | [], _ :: _, h, _ => by simp at h
  | _ :: _, [], h, _ => by simp at h
  | x :: xs, u :: us, h, k => .cons (k 0 x u rfl rfl) (valsOf (by simpa using h) fun i y w e1 e2 => k (i + 1) y w (by simpa using e1) (by simpa using e2))
/-! ### list(text) -/
def listSP : PrF := fun ds st => match ds with
  | [.str z] => if z.length ≤ sizeLine then some (.lst (signs z), st) else none
  | _ => none
theorem cr_listS (hc : X.calm = true) : CallR X (.type "list") (fun xs H Q => ∃ z : Str, xs = [.str z] ∧ z.length ≤ sizeLine ∧ ∀ p, H p = none → Q (.ref p) (upd H p (.lst (z.cps.toList.map fun c => V.str ⟨#[c]⟩)))) := by
  intro pins s σ H xs us Q I r h
  obtain ⟨z, rfl, hz, q⟩ := h
  obtain ⟨u, rfl, rx⟩ := vals1 r
  obtain ⟨t, rfl⟩ := rx
  refine call_list_str (I.ok.hd hc) z t (hn := hz) fun h' tk acc c' keep at_ got => ?_
  have rel : Vals (z.cps.toList.map fun c => V.str ⟨#[c]⟩) acc.toList := by
    refine valsOf (by simp [got.1]) fun i x u e1 e2 => ?_
    obtain ⟨c, t', hc', rfl⟩ := got.2 i u (by simpa using e2)
    rw [List.getElem?_map, Option.map_eq_some_iff] at e1
    obtain ⟨c2, e3, rfl⟩ := e1
    have : c2 = c := by
      have e4 : z.cps[i]? = some c2 := by simpa using e3
      rw [hc'] at e4
      exact (Option.some.inj e4).symm
    subst this
    exact ⟨t', rfl⟩
  refine ⟨.ref s.heap.objs.size, _, I.laid (o := .lst (z.cps.toList.map fun c => V.str ⟨#[c]⟩)) keep (Nat.le_refl _) ⟨?_, acc.toList, c', rel, by simpa using at_⟩, rfl, q _ (I.hok.fresh (Nat.le_refl _))⟩
  rw [List.length_map]
  simpa [Str.length] using hz
theorem pr_listS : PrimL g (fun xs H Q => ∃ z : Str, xs = [.str z] ∧ z.length ≤ sizeLine ∧ ∀ p, H p = none → Q (.ref p) (upd H p (.lst (z.cps.toList.map fun c => V.str ⟨#[c]⟩)))) listSP := by
  intro φ st H vs ds Q s r h
  unfold listSP at h
  split at h
  · rename_i z
    obtain ⟨x, rfl, rx⟩ := rvs1 r
    cases rvStr rx
    split at h
    · rename_i hz
      refine ⟨z, rfl, hz, new_lst s ?_ h⟩
      unfold signs
      generalize z.cps.toList = l
      induction l with
      | nil => exact RVs.nil
      | cons c l ih => exact RVs.cons mkStr ih
    · exact h.elim
  · exact h.elim
/-! ### len(set(..)) of unlike ints -/
def lenSetP (x : DV) (st : DSt) : Option (DV × DSt) := (seqOf st x).bind fun ds => (allOf intOf ds).bind fun ns => if ns.Nodup ∧ ns.length ≤ 4000 then some (.int ns.length, st) else none
theorem pe_eLenSet (hK : X.K = g.K) {p p2 q pos : Pos} {a : Expr} {ma : Ex} (hg : Gl X "len") (hm : X.mg "len" = none) (hg2 : Gl X "set") (hm2 : X.mg "set" = none) (ha : PE X a (TM g (RV g) W ma)) (hc : X.calm = true := by rfl)
    (na : starEach [a] X.env = (false, eval a X.env) :: starEach [] X.env := by rfl) : PE X (.Call (.Name "len" p) [.Call (.Name "set" p2) [a] [] q] [] pos) (TM g (RV g) W (DM.e1 lenSetP ma)) :=
  (RZ.pe_lenSetI hg hm hg2 hm2 ha hc na).imp fun σ H Q h => by
    refine TM.e1 (r := fun x H1 Q => ∃ (l : Addr) (ns : List Int), x = .ref l ∧ SqL X.K H1 l (ns.map V.int) ∧ ns.Nodup ∧ ns.length ≤ 4000 ∧ Q (.int (ns.length : Nat)) H1) ?_ h
    intro φ st H x dx Q s rx h
    unfold lenSetP at h
    cases e2 : seqOf st dx with
    | none => rw [e2] at h; exact h.elim
    | some ds =>
      rw [e2, Option.bind_some] at h
      cases e3 : allOf intOf ds with
      | none => rw [e3] at h; exact h.elim
      | some ns =>
        rw [e3, Option.bind_some] at h
        split at h
        · rename_i hn
          obtain ⟨a, xs, rfl, hx, rs⟩ := seqOf_ok s rx e2
          have e := allOf_ok (k := V.int) intOf_ok rs e3
          subst e
          exact ⟨a, ns, rfl, by rw [hK]; exact hx, hn.1, hn.2, po1 s h mkInt⟩
        · exact h.elim
/-! ### a dict displayed -/
def keyOf : DV → Option Key
  | .int i => some (.inl i)
  | .str x => some (.inr x)
  | _ => none
def putG {α : Type} (kvs : List (Key × α)) (k : Key) (v : α) : List (Key × α) :=
  if (kvs.any fun kv => decide (kv.1 = k)) = true then kvs.map (fun kv => if kv.1 = k then (kv.1, v) else kv) else kvs ++ [(k, v)]
def mergeG {α : Type} (kvs more : List (Key × α)) : List (Key × α) := more.foldl (fun acc kv => putG acc kv.1 kv.2) kvs
theorem RKs.append {κ : Type} {φ : Lay} {H : Hp} : ∀ {ds es : List (κ × DV)} {vs us : List (κ × V)}, RKs g φ H ds vs → RKs g φ H es us → RKs g φ H (ds ++ es) (vs ++ us)
  | [], _, _, _, h, k => by simp only [RKs] at h; subst h; simpa using k
  | d :: ds, es, vs, us, h, k => by
    simp only [RKs] at h
    obtain ⟨y, r, e1, q, z⟩ := h
    subst e1
    show RKs g φ H (d :: (ds ++ es)) _
    simp only [RKs]
    exact ⟨y, r ++ us, rfl, q, RKs.append z k⟩
theorem RKs.one {κ : Type} {φ : Lay} {H : Hp} {k : κ} {d : DV} {v : V} (h : RV g φ H d v) : RKs g φ H [(k, d)] [(k, v)] := by
  simp only [RKs]
  exact ⟨v, [], rfl, h, rfl⟩
theorem RKs.cons {κ : Type} {φ : Lay} {H : Hp} {k : κ} {d : DV} {v : V} {ds : List (κ × DV)} {vs : List (κ × V)} (h : RV g φ H d v) (t : RKs g φ H ds vs) : RKs g φ H ((k, d) :: ds) ((k, v) :: vs) := by
  simp only [RKs]
  exact ⟨v, vs, rfl, h, t⟩
theorem RKs.anyK {φ : Lay} {H : Hp} {f : Key → Bool} : ∀ {ds : List (Key × DV)} {vs : List (Key × V)}, RKs g φ H ds vs → (vs.any fun kv => f kv.1) = ds.any fun kv => f kv.1
  | [], _, h => by simp only [RKs] at h; subst h; rfl
  | d :: ds, vs, h => by
    simp only [RKs] at h
    obtain ⟨y, r, e1, q, z⟩ := h
    subst e1
    simp only [List.any_cons, RKs.anyK z]
theorem RKs.mapK {φ : Lay} {H : Hp} {k : Key} {d : DV} {v : V} (hv : RV g φ H d v) : ∀ {ds : List (Key × DV)} {vs : List (Key × V)}, RKs g φ H ds vs → RKs g φ H (ds.map fun kv => if kv.1 = k then (kv.1, d) else kv) (vs.map fun kv => if kv.1 = k then (kv.1, v) else kv)
  | [], _, h => by simp only [RKs] at h; subst h; simp [RKs]
  | e :: ds, vs, h => by
    simp only [RKs] at h
    obtain ⟨y, r, e1, q, z⟩ := h
    subst e1
    simp only [List.map_cons]
    by_cases c : e.1 = k
    · simp only [c, if_true]
      exact RKs.cons hv (RKs.mapK hv z)
    · simp only [c, if_false]
      exact RKs.cons q (RKs.mapK hv z)
theorem RKs.put {φ : Lay} {H : Hp} {k : Key} {d : DV} {v : V} {ds : List (Key × DV)} {vs : List (Key × V)} (h : RKs g φ H ds vs) (hv : RV g φ H d v) : RKs g φ H (putG ds k d) (putK vs k v) := by
  unfold putG putK
  rw [RKs.anyK (f := fun x => decide (x = k)) h]
  split
  · exact RKs.mapK hv h
  · exact h.append (RKs.one hv)
theorem RKs.merge {φ : Lay} {H : Hp} : ∀ {more : List (Key × DV)} {mo : List (Key × V)} {ds : List (Key × DV)} {vs : List (Key × V)}, RKs g φ H more mo → RKs g φ H ds vs → RKs g φ H (mergeG ds more) (mergeK vs mo)
  | [], _, _, _, h, k => by simp only [RKs] at h; subst h; exact k
  | d :: more, _, ds, vs, h, k => by
    simp only [RKs] at h
    obtain ⟨y, r, e1, q, z⟩ := h
    subst e1
    show RKs g φ H (mergeG (putG ds d.1 d.2) more) (mergeK (putK vs d.1 y) r)
    exact RKs.merge (more := more) z (RKs.put k q)
/-- the pairs of a display, keys ahead of values -/
abbrev Exk := DEnv → DSt → Res (List (Key × DV))
def ksNil : Exk := fun _ st => .ok [] st
def ksCons (k v : Ex) (r : Exk) : Exk := fun env st => (k env st).bind fun x st1 => (v env st1).bind fun y st2 => (r env st2).bind fun ps st3 => match keyOf x with
  | some k => .ok ((k, y) :: ps) st3
  | none => .bad
def eDisp (r : Exk) : Ex := fun env st => (r env st).bind fun ps st1 => if ps.length ≤ 15 then .ok (.ref st1.length) (st1 ++ [.dct (mergeG [] ps)]) else .bad
/-- how pairs stand as values -/
def RPs (g : Gam) : Rl (List (Key × DV)) (List (V × V)) := fun φ H ps vs => ∃ ks, RKs g φ H ps ks ∧ vs = ks.map fun kv => (kV kv.1, kv.2)
def PPm (g : Gam) (W : WX) (trs : List (TE × TE)) (m : Exk) : Prop := ∀ σ H (Q : List (V × V) → Hp → Prop), TM g (RPs g) W m σ H Q → tPairs trs σ H Q
theorem ppm_nil : PPm g W [] ksNil := fun σ H Q ⟨φ, env, st, s, n, h⟩ => h φ H [] Ext.refl s ⟨[], by simp [RKs], rfl⟩
theorem keyOf_ok {φ : Lay} {H : Hp} {d : DV} {x : V} {k : Key} (r : RV g φ H d x) (e : keyOf d = some k) : x = kV k := by
  cases d <;> simp only [keyOf, Option.some.injEq, reduceCtorEq] at e <;> subst e
  · exact rvInt r
  · exact rvStr r
theorem ppm_cons {mk mv : Ex} {m : Exk} {trs : List (TE × TE)} (h : PPm g W trs m) : PPm g W ((TM g (RV g) W mk, TM g (RV g) W mv) :: trs) (ksCons mk mv m) := fun σ H Q ⟨φ, env, st, s, n, q⟩ => by
  refine ⟨φ, env, st, s, n, Post.bind q fun x st1 φ1 H1 xv x1 s1 r1 h1 => ⟨φ1, env, st1, s1, n.ext s.tame x1, Post.bind h1 fun y st2 φ2 H2 yv x2 s2 r2 h2 => ?_⟩⟩
  refine h σ H2 _ ⟨φ2, env, st2, s2, (n.ext s.tame x1).ext s1.tame x2, Post.bind h2 fun ps st3 φ3 H3 pv x3 s3 r3 h3 => ?_⟩
  obtain ⟨ks, r3, rfl⟩ := r3
  cases e : keyOf x with
  | none => rw [e] at h3; exact h3.elim
  | some k =>
    rw [e] at h3
    refine h3 φ3 H3 _ Ext.refl s3 ⟨(k, yv) :: ks, RKs.cons (RV.ext s2.tame x3 _ _ r2) r3, ?_⟩
    rw [keyOf_ok (RV.ext s1.tame (x2.trans x3) _ _ r1) e]
    rfl
mutual
/-- a dict that nobody has yet is written -/
theorem RV.dictW {φ : Lay} {H : Hp} {p : Addr} {ks : List (Key × V)} {o : HO} (h : H p = some (.dK ks)) : ∀ (d : DV) (v : V), RV g φ H d v → RV g (φ.more p) (upd H p o) d v
  | .non, _, h => by simpa [RV] using h
  | .bl _, _, h => by simpa [RV] using h
  | .int _, _, h => by simpa [RV] using h
  | .str _, _, h => by simpa [RV] using h
  | .tup ds, v, q => by
    simp only [RV] at q ⊢
    obtain ⟨a, xs, e, q, r⟩ := q
    refine ⟨a, xs, e, ?_, RVs.dictW h ds xs r⟩
    rcases q with (q | ⟨u, q⟩) | q
    · exact .inl (.inl (by rw [upd_ne (ne_of q h (by intro z; cases z))]; exact q))
    · exact .inl (.inr ⟨u, by rw [upd_ne (ne_of q h (by intro z; cases z))]; exact q⟩)
    · exact .inr q
  | .lst ds, v, q => by
    simp only [RV] at q ⊢
    obtain ⟨a, xs, e, ⟨n, n'⟩, q, r⟩ := q
    have ne : a ≠ p := ne_of q h (by intro z; cases z)
    exact ⟨a, xs, e, ⟨by simpa using ⟨n, ne⟩, n'⟩, by rw [upd_ne ne]; exact q, RVs.dictW h ds xs r⟩
  | .fzl ds, v, q => by
    simp only [RV] at q ⊢
    obtain ⟨a, xs, e, q, r⟩ := q
    refine ⟨a, xs, e, ?_, RVs.dictW h ds xs r⟩
    rcases q with ⟨⟨n, n'⟩, q | ⟨u, q⟩⟩ | q
    · have ne : a ≠ p := ne_of q h (by intro z; cases z)
      exact .inl ⟨⟨by simpa using ⟨n, ne⟩, n'⟩, .inl (by rw [upd_ne ne]; exact q)⟩
    · have ne : a ≠ p := ne_of q h (by intro z; cases z)
      exact .inl ⟨⟨by simpa using ⟨n, ne⟩, n'⟩, .inr ⟨u, by rw [upd_ne ne]; exact q⟩⟩
    · exact .inr q
  | .ref n, v, q => by
    simp only [RV] at q ⊢
    obtain ⟨a, e, q⟩ := q
    exact ⟨a, e, by rw [List.getElem?_append_left (List.getElem?_eq_some_iff.mp q).1]; exact q⟩
  | .glo _, _, h => by simpa [RV] using h
  | .ty _, _, h => by simpa [RV] using h
theorem RVs.dictW {φ : Lay} {H : Hp} {p : Addr} {ks : List (Key × V)} {o : HO} (h : H p = some (.dK ks)) : ∀ (ds : List DV) (vs : List V), RVs g φ H ds vs → RVs g (φ.more p) (upd H p o) ds vs
  | [], _, h => by simpa [RVs] using h
  | d :: ds, vs, q => by
    simp only [RVs] at q ⊢
    obtain ⟨y, r, e, q, z⟩ := q
    exact ⟨y, r, e, RV.dictW h d y q, RVs.dictW h ds r z⟩
end
theorem RSt.dictW {φ : Lay} {H : Hp} {st : DSt} {p : Addr} {ks ks' : List (Key × V)} {kvs : List (Key × DV)} (s : RSt g φ H st) (h : H p = some (.dK ks)) (np : p ∉ φ.rf) (r : RKs g φ H kvs ks') : RSt g (φ.more p) (upd H p (.dK ks')) (st ++ [.dct kvs]) := by
  refine ⟨?_, by simp [s.len], fun a ha => ?_, fun n a e => ?_⟩
  · refine List.nodup_append.mpr ⟨s.nd, by simp, fun a ha b hb => ?_⟩
    have : b = p := by simpa using hb
    subst this
    exact fun e => np (e ▸ ha)
  · obtain ⟨n, xs, e⟩ := s.res a ha
    have ne : a ≠ p := ne_of e h (by intro z; cases z)
    exact ⟨by simpa using ⟨n, ne⟩, xs, by rw [upd_ne ne]; exact e⟩
  · have e : (φ.rf ++ [p])[n]? = some a := e
    by_cases hn : n < φ.rf.length
    · rw [List.getElem?_append_left hn] at e
      obtain ⟨u, hu, e1, e2, r2⟩ := s.ob n a e
      refine ⟨u, hu, ?_, ?_, RO.map (RV.dictW h) r2⟩
      · rw [List.getElem?_append_left (by rw [← s.len]; exact hn)]; exact e1
      · rw [upd_ne (fun z => np (by rw [← z]; exact List.mem_of_getElem? e))]; exact e2
    · have hle := Nat.le_of_not_lt hn
      rw [List.getElem?_append_right hle] at e
      have hz : n - φ.rf.length = 0 := by
        have := (List.getElem?_eq_some_iff.mp e).1
        simp at this
        omega
      rw [hz] at e
      have e' : p = a := by simpa using e
      subst e'
      refine ⟨.dct kvs, .dK ks', ?_, upd_same, ks', rfl, RKs.map (RV.dictW h) _ _ r⟩
      rw [List.getElem?_append_right (by rw [← s.len]; exact hle), ← s.len, hz]
      rfl
theorem pe_eDisp {keys : List (Option Expr)} {values : List Expr} {trs : List (TE × TE)} {m : Exk} {pos : Pos} (h : PPs X pos keys values trs) (hm : PPm g W trs m) (hall : keys.all (·.isSome) = true := by rfl) (hl : keys.length = values.length := by rfl) (h0 : keys ≠ [] := by intro z; cases z)
    (h15 : keys.length ≤ 15 := by decide) : PE X (.Dict keys values pos) (TM g (RV g) W (eDisp m)) :=
  (pe_disp h hall hl h0 h15).imp fun σ H Q ⟨φ, env, st, s, n, h⟩ p hp => by
    refine hm σ _ _ ⟨φ, env, st, s.new hp, n.ext s.tame (Ext.new s hp), ?_⟩
    unfold eDisp at h
    cases q : m env st with
    | bad => rw [q] at h; exact h.elim
    | exc e s' => rw [q] at h; exact fun φ' H' c d x => h φ' H' c d ((Ext.new s hp).trans x)
    | ok ps st1 =>
      rw [q, Res.bind_ok] at h
      intro φ1 H1 pv x1 s1 r1
      obtain ⟨ks, r1, rfl⟩ := r1
      obtain ⟨k1, k2⟩ := x1.keep p _ (s.notin hp) upd_same
      have x0 : Ext φ φ1 H H1 := (Ext.new s hp).trans x1
      split at h
      · rename_i hl
        refine ⟨k1, ks, rfl, by rw [← r1.length]; exact hl, ?_⟩
        refine h (φ1.more p) _ (.ref p) ?_ (s1.dictW k1 k2 (RKs.merge r1 (by simp [RKs]))) ?_
        · obtain ⟨ψ, e⟩ := x0.pre
          refine ⟨⟨ψ ++ [p], by show φ1.rf ++ [p] = _; rw [e, List.append_assoc]⟩, x0.rs, fun a o na ha => ?_⟩
          obtain ⟨z1, z2⟩ := x0.keep a o na ha
          have ne : a ≠ p := ne_of_none ha hp
          exact ⟨by rw [upd_ne ne]; exact z1, by simpa using ⟨z2, ne⟩⟩
        · simp only [RV]
          refine ⟨p, rfl, ?_⟩
          show (φ1.rf ++ [p])[st1.length]? = some p
          rw [← s1.len]
          simp
      · exact h.elim
end
end DM

/-! DM10: a def by its body; calls bound; stores of several names; lists given to a name. -/
namespace DM
open PySem PySem.Spec PyProof.Rows L2

/-- a def's machine by its body's: n slots -/
def runFn (n : Nat) (b : Sm) : Fn := fun ds st => match b (ds.map some ++ List.replicate (n - ds.length) none) st with
  | .ok (.rt d) _ st' => .ok d st'
  | .ok .nx _ st' => .ok .non st'
  | .exc e _ st' => .exc e st'
  | _ => .bad
abbrev WE (E : XK) : WX := fun c d _ H => E c d H
section
variable {P : Program} {w : World} {K : PySem.W.Frag} {mg : Str → Option Value} {base : Heap}
theorem REnv.begin {g : Gam} {φ : Lay} {H : Hp} {ds : List DV} {vs : List V} {N : List Str} (r : RVs g φ H ds vs) : REnv g φ H (ds.map some ++ List.replicate (N.length - ds.length) none) (L2.start N vs) := by
  have hl := r.length
  refine ⟨by simp [L2.start, hl], fun i d e => ?_⟩
  by_cases hi : i < ds.length
  · rw [List.getElem?_append_left (by simpa using hi), List.getElem?_map, List.getElem?_eq_getElem hi] at e
    cases e
    obtain ⟨v, hv, rv⟩ := r.get (List.getElem?_eq_getElem hi)
    refine ⟨v, ?_, rv⟩
    unfold L2.start
    rw [List.getElem?_append_left (by simpa [← hl] using hi), List.getElem?_map, hv]
    rfl
  · rw [List.getElem?_append_right (by simpa using Nat.le_of_not_lt hi), List.getElem?_replicate] at e
    split at e <;> cases e
theorem fn_body {x qual : Str} {params : Arguments} {body : List Stmt} {scope : Scope} {dvs : List V} {kws : List (Str × V)} {f : Addr} {fd : FuncData} {N ps : List Str} {k : Nat} {g : Gam} {b : Sm}
    (F : FunD K x qual params body scope dvs kws f fd) (S : FnScope N ps scope)
    (h : ∀ (cdv : Value) (A : Around) (outer : List Env) (s : Shared) (H : Hp) (E : XK), Room k (A.deeper (envOfC qual scope s.heap.objs.size f cdv)) → A.guards = some [] →
      PSs (cxOf (L2.CX P w) P w K mg base N qual scope f cdv A outer s H E) body (TMS g (WE E) b)) : FnG P w K mg base (k + 1) f fd ps (spD g ps.length (runFn N.length b)) := by
  refine FunD.okG F S rfl fun cdv A outer s H E room hG => ⟨_, h cdv A outer s H E room hG, ?_⟩
  rintro vs Q ⟨_, φ, ds, st, s0, r, p⟩
  refine ⟨φ, _, st, s0, REnv.begin (N := N) r, ?_⟩
  unfold runFn at p
  match q : b (ds.map some ++ List.replicate (N.length - ds.length) none) st with
  | .ok (.rt d) env st' => simp only [q] at p; exact p
  | .ok .nx env st' => simp only [q] at p; exact fun φ' H' σ' x s' _ => p φ' H' .non x s' (by simp [RV])
  | .ok .bk env st' => simp only [q] at p; exact p.elim
  | .ok .ct env st' => simp only [q] at p; exact p.elim
  | .exc e env st' => simp only [q] at p; exact fun φ' H' σ' c d x s' _ rx => p φ' H' c d x s' rx
  | .bad => simp only [q] at p; exact p.elim
end
/-- a def that stands and keeps its machine's promise -/
structure Cal (P : Program) (w : World) (base : Heap) (mg : Str → Option Value) (g : Gam) (lvl : Nat) (x : Str) (k : Nat) (ps : List Str) (m : Fn) (kb : FuncData → Prop) : Prop where
  ex : ∃ fd, FnG P w g.K mg base lvl (g.ad k) fd ps (spD g ps.length m) ∧ kb fd
  mg_ : mg x = some (.ref (g.ad k))
  kp : PySem.W.keepIn g.K (.ref (g.ad k)) = true
/-- positions of the parameters among the positional values, the keywords', the defaults -/
def pick {α : Type} (ix : List (Nat × Nat)) (us ws ds : List α) : List α := ix.filterMap fun p => match p.1 with
  | 0 => us[p.2]?
  | 1 => ws[p.2]?
  | _ => ds[p.2]?
/-- how such a call binds -/
def KBp (K : PySem.W.Frag) (ps : List Str) (n : Nat) (ks : List Str) (ix : List (Nat × Nat)) (dvs : List V) (fd : FuncData) : Prop :=
  ∃ its : List Value, Vals dvs its ∧ ∀ (s : Shared) (us ws : List Value), K.In s.heap → us.length = n → ws.length = ks.length → BindsTo s fd ⟨us, ks.zip ws⟩ (ps.zip (pick ix us ws its))
theorem pick_vals {vs ws zs : List V} {us xs ys : List Value} (h1 : Vals vs us) (h2 : Vals ws xs) (h3 : Vals zs ys) : ∀ ix : List (Nat × Nat), Vals (pick ix vs ws zs) (pick ix us xs ys)
  | [] => .nil
  | p :: ix => by
    have ih := pick_vals h1 h2 h3 ix
    have one : ∀ {as : List V} {bs : List Value} {i : Nat}, Vals as bs → (as[i]? = none ∧ bs[i]? = none) ∨ ∃ a b, as[i]? = some a ∧ bs[i]? = some b ∧ RelV a b := by
      intro as bs i r
      cases e : as[i]? with
      | none => exact .inl ⟨rfl, r.none_of e⟩
      | some a => obtain ⟨b, e2, q⟩ := r.get e; exact .inr ⟨a, b, rfl, e2, q⟩
    unfold pick at ih ⊢
    obtain ⟨i, j⟩ := p
    match i with
    | 0 =>
      rcases one (i := j) h1 with ⟨e1, e2⟩ | ⟨a, b, e1, e2, r⟩
      · simp only [List.filterMap_cons, e1, e2]; exact ih
      · simp only [List.filterMap_cons, e1, e2]; exact .cons r ih
    | 1 =>
      rcases one (i := j) h2 with ⟨e1, e2⟩ | ⟨a, b, e1, e2, r⟩
      · simp only [List.filterMap_cons, e1, e2]; exact ih
      · simp only [List.filterMap_cons, e1, e2]; exact .cons r ih
    | _ + 2 =>
      rcases one (i := j) h3 with ⟨e1, e2⟩ | ⟨a, b, e1, e2, r⟩
      · simp only [List.filterMap_cons, e1, e2]; exact ih
      · simp only [List.filterMap_cons, e1, e2]; exact .cons r ih
theorem pick_rvs {g : Gam} {φ : Lay} {H : Hp} {vs ws zs : List DV} {us xs ys : List V} (h1 : RVs g φ H vs us) (h2 : RVs g φ H ws xs) (h3 : RVs g φ H zs ys) : ∀ ix : List (Nat × Nat), RVs g φ H (pick ix vs ws zs) (pick ix us xs ys)
  | [] => RVs.nil
  | p :: ix => by
    have ih := pick_rvs h1 h2 h3 ix
    have one : ∀ {as : List DV} {bs : List V} {i : Nat}, RVs g φ H as bs → (as[i]? = none ∧ bs[i]? = none) ∨ ∃ a b, as[i]? = some a ∧ bs[i]? = some b ∧ RV g φ H a b := by
      intro as bs i r
      cases e : as[i]? with
      | none =>
        refine .inl ⟨rfl, List.getElem?_eq_none_iff.mpr ?_⟩
        rw [← r.length]
        exact List.getElem?_eq_none_iff.mp e
      | some a => obtain ⟨b, e2, q⟩ := r.get e; exact .inr ⟨a, b, rfl, e2, q⟩
    unfold pick at ih ⊢
    obtain ⟨i, j⟩ := p
    match i with
    | 0 =>
      rcases one (i := j) h1 with ⟨e1, e2⟩ | ⟨a, b, e1, e2, r⟩
      · simp only [List.filterMap_cons, e1, e2]; exact ih
      · simp only [List.filterMap_cons, e1, e2]; exact RVs.cons r ih
    | 1 =>
      rcases one (i := j) h2 with ⟨e1, e2⟩ | ⟨a, b, e1, e2, r⟩
      · simp only [List.filterMap_cons, e1, e2]; exact ih
      · simp only [List.filterMap_cons, e1, e2]; exact RVs.cons r ih
    | _ + 2 =>
      rcases one (i := j) h3 with ⟨e1, e2⟩ | ⟨a, b, e1, e2, r⟩
      · simp only [List.filterMap_cons, e1, e2]; exact ih
      · simp only [List.filterMap_cons, e1, e2]; exact RVs.cons r ih
/-- the length that the positions give -/
def ixOk (ix : List (Nat × Nat)) (n nk nd : Nat) : Bool := ix.all fun p => match p.1 with
  | 0 => decide (p.2 < n)
  | 1 => decide (p.2 < nk)
  | _ => decide (p.2 < nd)
theorem pick_len {α : Type} {us ws ds : List α} : ∀ {ix : List (Nat × Nat)}, ixOk ix us.length ws.length ds.length = true → (pick ix us ws ds).length = ix.length
  | [], _ => rfl
  | p :: ix, h => by
    simp only [ixOk, List.all_cons, Bool.and_eq_true] at h
    have ih := pick_len (us := us) (ws := ws) (ds := ds) (ix := ix) h.2
    unfold pick at ih ⊢
    obtain ⟨i, j⟩ := p
    match i, h with
    | 0, h =>
      have hj : j < us.length := of_decide_eq_true h.1
      simp only [List.filterMap_cons, List.getElem?_eq_getElem hj, List.length_cons, ih]
    | 1, h =>
      have hj : j < ws.length := of_decide_eq_true h.1
      simp only [List.filterMap_cons, List.getElem?_eq_getElem hj, List.length_cons, ih]
    | _ + 2, h =>
      have hj : j < ds.length := of_decide_eq_true h.1
      simp only [List.filterMap_cons, List.getElem?_eq_getElem hj, List.length_cons, ih]

section
variable {X : Cx} {g : Gam} {W : WX} {lvl j n k : Nat} {x : Str} {ps ks : List Str} {m : Fn} {ix : List (Nat × Nat)} {ds : List DV} {dvs : List V} {kb : FuncData → Prop} {e : Expr} {es : List Expr} {kws : List Keyword} {ma mk : Exs} {p pos : Pos}
/-- what the defaults are -/
def DefV (g : Gam) (ds : List DV) (dvs : List V) : Prop := ∀ φ H, RVs g φ H ds dvs
theorem DefV.nil : DefV g [] [] := fun _ _ => RVs.nil
theorem pe_call_ (hK : X.K = g.K) (c : Cal X.prog X.w X.base X.mg g lvl x k ps m kb) (hkb : ∀ fd, kb fd → KBp g.K ps n ks ix dvs fd) (dv : DefV g ds dvs) (hr : Room j X.A) (hj : lvl ≤ j) (hG : X.A.guards = some []) (tk : Takes X W) (hg : Gl X x)
    (ha : PA X (e :: es) (TM g (RVs g) W ma)) (hkw : PK X kws (TM g (RVs g) W mk)) (hix : ixOk ix n ks.length dvs.length = true := by decide) (hlen : ix.length = ps.length := by rfl)
    (hall : (backToKw pos (keywordEach kws X.env)).all (·.1.isSome) = true := by rfl) (hks : (backToKw pos (keywordEach kws X.env)).filterMap (·.1) = ks := by rfl)
    (hdb : (x == ("__debug__" : Str)) = false := by decide) (he : starEach (e :: es) X.env = (false, eval e X.env) :: starEach es X.env := by rfl)
    (hpl : ((backTo pos (starEach (e :: es) X.env)).any (·.1) || (backToKw pos (keywordEach kws X.env)).any (·.1.isNone)) = false := by rfl) :
    PE X (.Call (.Name x p) (e :: es) kws pos) (TM g (RV g) W (eCall m (fun us ws => pick ix us ws ds) n ks.length ma mk)) := by
  obtain ⟨⟨fd, F, hb⟩, hm, hkp⟩ := c
  obtain ⟨its, rits, hb⟩ := hkb fd hb
  rw [← hK] at F hkp
  refine pe_eCall (gv := fun us ws => pick ix us ws its) (gV := fun vs zs => pick ix vs zs dvs) (F.mono hj) hr hG hg hm hkp ⟨fun s us ws X' h1 h2 => hb s us ws (by rw [← hK]; exact X') h1 h2, fun h1 h2 => pick_vals h1 h2 rits ix⟩ (fun φ H ds' zs vs us h1 h2 => pick_rvs h1 h2 (dv φ H) ix) (fun vs us h1 h2 => ?_) tk ha hkw hall hks hdb he hpl
  rw [pick_len (by rw [h1, h2]; exact hix)]
  exact hlen
theorem pe_call0_ (hK : X.K = g.K) (c : Cal X.prog X.w X.base X.mg g lvl x k ps m kb) (hkb : ∀ fd, kb fd → KBp g.K ps 0 ks ix dvs fd) (dv : DefV g ds dvs) (hr : Room j X.A) (hj : lvl ≤ j) (hG : X.A.guards = some []) (tk : Takes X W) (hg : Gl X x)
    (hkw : PK X kws (TM g (RVs g) W mk)) (hix : ixOk ix 0 ks.length dvs.length = true := by decide) (hlen : ix.length = ps.length := by rfl)
    (hall : (backToKw pos (keywordEach kws X.env)).all (·.1.isSome) = true := by rfl) (hks : (backToKw pos (keywordEach kws X.env)).filterMap (·.1) = ks := by rfl)
    (hdb : (x == ("__debug__" : Str)) = false := by decide) (hpl : ((backTo pos (starEach [] X.env)).any (·.1) || (backToKw pos (keywordEach kws X.env)).any (·.1.isNone)) = false := by rfl) :
    PE X (.Call (.Name x p) [] kws pos) (TM g (RV g) W (eCall m (fun us ws => pick ix us ws ds) 0 ks.length asNil mk)) := by
  obtain ⟨⟨fd, F, hb⟩, hm, hkp⟩ := c
  obtain ⟨its, rits, hb⟩ := hkb fd hb
  rw [← hK] at F hkp
  refine pe_eCall0 (gv := fun us ws => pick ix us ws its) (gV := fun vs zs => pick ix vs zs dvs) (F.mono hj) hr hG hg hm hkp ⟨fun s us ws X' h1 h2 => hb s us ws (by rw [← hK]; exact X') h1 h2, fun h1 h2 => pick_vals h1 h2 rits ix⟩ (fun φ H ds' zs vs us h1 h2 => pick_rvs h1 h2 (dv φ H) ix) (fun vs us h1 h2 => ?_) tk hkw hall hks hdb hpl
  rw [pick_len (by rw [h1, h2]; exact hix)]
  exact hlen
/-- a, b = x, y by places -/
theorem ps_sPar2 {i l : Nat} {x y : Str} {a b : Expr} {mr : Exs} {px py pt : Pos} {kt k2 pt2} (hc : X.calm = true) (hN : X.N.Nodup) (hi : X.N[i]? = some x) (hj : X.N[l]? = some y) (hij : i ≠ l)
    (hx : X.env.scope.names.lookup x = some .local) (hy : X.env.scope.names.lookup y = some .local) (ha : PA X [a, b] (TM g (RVs g) W mr))
    (hw : swappedStores [.Tuple [.Name x px, .Name y py] kt pt] (.Tuple [a, b] k2 pt2) X.env = pure (some [x, y]))
    (hs : swapsWithSole [.Tuple [.Name x px, .Name y py] kt pt] (.Tuple [a, b] k2 pt2) pos.line X.env = pure false := by rfl) :
    PS X (.Assign [.Tuple [.Name x px, .Name y py] kt pt] (.Tuple [a, b] k2 pt2) pos) (TMS g W (sAsg (eTup mr) (gT 2 (gsCons (gN i) (gsCons (gN l) gsNil))))) :=
  (ps_par hc hN hi hj hij hx hy ha hw hs).imp fun D σ H ⟨φ, env, st, s, n, h⟩ => by
    refine ⟨φ, env, st, s, n, ?_⟩
    unfold sAsg eTup at h
    cases q : mr env st with
    | bad => rw [q] at h; exact h.elim
    | exc e' s' => rw [q] at h; exact fun φ' H' c d x s r => h φ' H' σ c d x s (n.ext (by assumption : RSt g φ H st).tame x) r
    | ok ds st1 =>
      rw [q] at h
      simp only [Res.bind_ok] at h
      intro φ1 H1 vs x1 s1 r1
      split at h
      · simp only [Res.then_ok, gT] at h
        split at h
        · rename_i env' he
          split at he
          · rename_i hl
            match ds, hl, r1, he with
            | [d1, d2], _, r1, he =>
              obtain ⟨v1, v2, rfl, rv1, rv2⟩ := rvs2 r1
              simp only [gsCons, gN, gsNil, Option.bind_some, if_true] at he
              cases he
              exact ⟨v1, v2, rfl, h φ1 H1 _ x1 s1 (((n.ext s.tame x1).set rv1 i).set rv2 l)⟩
          · cases he
        · exact h.elim
      · exact h.elim
theorem ps_sPar3 {i l r : Nat} {x y z : Str} {a b c : Expr} {mr : Exs} {px py pz pt : Pos} {kt k2 pt2} (hc : X.calm = true) (hN : X.N.Nodup)
    (h3 : PS X (.Assign [.Tuple [.Name x px, .Name y py, .Name z pz] kt pt] (.Tuple [a, b, c] k2 pt2) pos) (tPar3 i l r (TM g (RVs g) W mr))) :
    PS X (.Assign [.Tuple [.Name x px, .Name y py, .Name z pz] kt pt] (.Tuple [a, b, c] k2 pt2) pos) (TMS g W (sAsg (eTup mr) (gT 3 (gsCons (gN i) (gsCons (gN l) (gsCons (gN r) gsNil)))))) :=
  h3.imp fun D σ H ⟨φ, env, st, s, n, h⟩ => by
    refine ⟨φ, env, st, s, n, ?_⟩
    unfold sAsg eTup at h
    cases q : mr env st with
    | bad => rw [q] at h; exact h.elim
    | exc e' s' => rw [q] at h; exact fun φ' H' c d x s r => h φ' H' σ c d x s (n.ext (by assumption : RSt g φ H st).tame x) r
    | ok ds st1 =>
      rw [q] at h
      simp only [Res.bind_ok] at h
      intro φ1 H1 vs x1 s1 r1
      split at h
      · simp only [Res.then_ok, gT] at h
        split at h
        · rename_i env' he
          split at he
          · rename_i hl
            match ds, hl, r1, he with
            | [d1, d2, d3], _, r1, he =>
              obtain ⟨v1, v2, v3, rfl, rv1, rv2, rv3⟩ := rvs3 r1
              simp only [gsCons, gN, gsNil, Option.bind_some, if_true] at he
              cases he
              exact ⟨v1, v2, v3, rfl, h φ1 H1 _ x1 s1 ((((n.ext s.tame x1).set rv1 i).set rv2 l).set rv3 r)⟩
          · cases he
        · exact h.elim
      · exact h.elim
/-- name = [..] -/
theorem ps_sSetLc {i : Nat} {y : Str} {py : Pos} {elt tg iter : Expr} {ifs : List Expr} {scope : Scope} {ownN : List (Str × Nat)} {pos spos : Pos} {im : Im} {t : TG} {gm : Tgm} {tm : Exb} {em : Ex} (hc : X.calm = true) (hN : X.N.Nodup) (hy : X.N[i]? = some y) (hyl : X.env.scope.names.lookup y = some .local)
    (hsw : swapsWith (.ListComp elt [⟨tg, iter, ifs, 0⟩] scope pos) (some (.Name y py)) spos.line X.env = pure true) (hi : PI X tg iter (TM g (RIt g) W im)) (bk : BlkOk X.N X.env.scope scope ownN) (ok : TgOk g (ownN.map (·.2)) t gm)
    (hg : ∀ (s : Shared) (H : Hp) (C : Addr) (cl : List (Str × Addr)) (fp : List Addr), PG (X.blk s H scope (compEnvC scope cl C X.env) fp) tg t)
    (ht : ∀ (s : Shared) (H : Hp) (C : Addr) (cl : List (Str × Addr)) (fp : List Addr), PTs (X.blk s H scope (compEnvC scope cl C X.env) fp) ifs (TM g EqR W0 tm))
    (he : ∀ (s : Shared) (H : Hp) (C : Addr) (cl : List (Str × Addr)) (fp : List Addr), PE (X.blk s H scope (compEnvC scope cl C X.env) fp) elt (TM g (RV g) W0 em)) (hs : ∀ x, foldedSetIterable iter X.env x = pure x := by intro _; rfl) :
    PS X (.Assign [.Name y py] (.ListComp elt [⟨tg, iter, ifs, 0⟩] scope pos) spos) (TMS g W (sAsg (eLc im gm tm em (ownN.map (·.2))) (gN i))) :=
  (ps_setLc hc hN hy hyl hsw hi bk hg ht he hs).imp fun D σ H ⟨φ, env, st, s, n, h⟩ => by
    refine lc_read (kf := fun acc st2 => Res.ok (.lst acc) st2) fin_lst ⟨φ, env, st, s, n, ?_⟩ ok
    have h' : PostS g W φ H D ((eLc im gm tm em (ownN.map (·.2)) env st).then_ env fun d st1 => .ok .nx (env.set i (some d)) st1) := h
    exact Post.then_ s n h' fun d st' φ' H' v x s' e' r p => p φ' H' _ Ext.refl s' (e'.set r i)
theorem ps_sSetLcR {i : Nat} {y : Str} {py : Pos} {elt tg iter : Expr} {ifs : List Expr} {scope : Scope} {ownN : List (Str × Nat)} {pos spos : Pos} {im : Im} {t : TG} {gm : Tgm} {tm : Exb} {em : Ex} (hc : X.calm = true) (hN : X.N.Nodup) (hy : X.N[i]? = some y) (hyl : X.env.scope.names.lookup y = some .local)
    (hsw : swapsWith (.ListComp elt [⟨tg, iter, ifs, 0⟩] scope pos) (some (.Name y py)) spos.line X.env = pure true) (hi : PI X tg iter (TM g (RIt g) W im)) (bk : BlkOk X.N X.env.scope scope ownN) (ok : TgOk g (ownN.map (·.2)) t gm)
    (hg : ∀ (s : Shared) (H : Hp) (C : Addr) (cl : List (Str × Addr)) (fp : List Addr), PG (X.blk s H scope (compEnvC scope cl C X.env) fp) tg t)
    (ht : ∀ (s : Shared) (H : Hp) (C : Addr) (cl : List (Str × Addr)) (fp : List Addr), PTs (X.blk s H scope (compEnvC scope cl C X.env) fp) ifs (TM g EqR W0 tm))
    (he : ∀ (s : Shared) (H : Hp) (C : Addr) (cl : List (Str × Addr)) (fp : List Addr), PE (X.blk s H scope (compEnvC scope cl C X.env) fp) elt (TM g (RV g) W0 em)) (hs : ∀ x, foldedSetIterable iter X.env x = pure x := by intro _; rfl) :
    PS X (.Assign [.Name y py] (.ListComp elt [⟨tg, iter, ifs, 0⟩] scope pos) spos) (TMS g W (sAsg (eLcR im gm tm em (ownN.map (·.2))) (gN i))) :=
  (ps_setLc hc hN hy hyl hsw hi bk hg ht he hs).imp fun D σ H ⟨φ, env, st, s, n, h⟩ => by
    refine lc_read (kf := fun acc st2 => Res.ok (DV.ref st2.length) (st2 ++ [DO.lst acc])) fin_ref ⟨φ, env, st, s, n, ?_⟩ ok
    have h' : PostS g W φ H D ((eLcR im gm tm em (ownN.map (·.2)) env st).then_ env fun d st1 => .ok .nx (env.set i (some d)) st1) := h
    exact Post.then_ s n h' fun d st' φ' H' v x s' e' r p => p φ' H' _ Ext.refl s' (e'.set r i)
end
theorem hu64_of {A : Around} {k : Nat} (hr : Room k A) : A.units + 64 < cLine := by have := hr.un; omega
theorem hu65_of {A : Around} {k : Nat} (hr : Room k A) : A.units + 65 < cLine := by have := hr.un; omega
end DM

/-! DM11: chains as tests, {} -/
namespace DM
open PySem PySem.Spec PyProof.Rows L2
section
variable {X : Cx} {g : Gam} {W : WX} {a b c : Expr} {ma mb mc : Ex} {pos : Pos}
theorem TM.chain {r r' : R2} {p p' : DV → DV → DSt → Option (DV × DSt)} (hp : Prim2 g r p) (hp' : Prim2 g r' p') {σ : L2.St} {H : Hp} {Q : VK} (h : TM g (RV g) W (eChain p p' ma mb mc) σ H Q) :
    tChain r r' (TM g (RV g) W ma) (TM g (RV g) W mb) (TM g (RV g) W mc) σ H Q := by
  obtain ⟨φ, env, st, s, n, h⟩ := h
  refine ⟨φ, env, st, s, n, Post.bind h fun x st1 φ1 H1 xv x1 s1 r1 h1 => ⟨φ1, env, st1, s1, n.ext s.tame x1, Post.bind h1 fun y st2 φ2 H2 yv x2 s2 r2 h2 => ?_⟩⟩
  refine hp φ2 st2 H2 xv yv x y _ s2 (RV.ext s1.tame x2 _ _ r1) r2 (Post.of (g := g) (W := fun c d H' => W c d σ H') (Post.bind h2 fun k st3 φ3 H3 kv x3 s3 r3 h3 => ?_))
  cases k <;> try exact False.elim h3
  rename_i k
  refine ⟨k, RVbl r3, ?_⟩
  cases k with
  | false => exact h3 φ3 H3 _ Ext.refl s3 mkRVbl
  | true =>
    refine ⟨φ3, env, st3, s3, (n.ext s.tame x1).ext s1.tame (x2.trans x3), Post.bind h3 fun z st4 φ4 H4 zv x4 s4 r4 h4 => ?_⟩
    exact hp' φ4 st4 H4 yv zv y z Q s4 (RV.ext s2.tame (x3.trans x4) _ _ r2) r4 (Post.of h4)
theorem pe_eCh {op op' : CmpOp} {r r' : R2} {p p' : DV → DV → DSt → Option (DV × DSt)} (ho : OpR X (compareOp op) r) (ho' : OpR X (compareOp op') r') (hp : Prim2 g r p) (hp' : Prim2 g r' p') (ha : PE X a (TM g (RV g) W ma)) (hb : PE X b (TM g (RV g) W mb)) (hc : PE X c (TM g (RV g) W mc))
    (hm : lastMarks [op, op'] [b, c] = false := by with_unfolding_all rfl) : PE X (.Compare a [op, op'] [b, c] pos) (TM g (RV g) W (eChain p p' ma mb mc)) :=
  (pe_chain ho ho' ha hb hc hm).imp fun _ _ _ h => TM.chain hp hp' h
theorem pt_bCh {op op' : CmpOp} {r r' : R2} {p p' : DV → DV → DSt → Option (DV × DSt)} (ho : OpR X (compareOp op) r) (ho' : OpR X (compareOp op') r') (hp : Prim2 g r p) (hp' : Prim2 g r' p') (ha : PE X a (TM g (RV g) W ma)) (hb : PE X b (TM g (RV g) W mb)) (hc : PE X c (TM g (RV g) W mc))
    (hm : lastMarks [op, op'] [b, c] = false := by with_unfolding_all rfl) : PT X (.Compare a [op, op'] [b, c] pos) (TM g EqR W (bOf (eChain p p' ma mb mc))) :=
  (pt_chain ho ho' ha hb hc hm).imp fun _ _ _ h => TM.chain hp hp' (TM.bOf h)
/-- {} -/
def eD0 : Ex := fun _ st => .ok (.ref st.length) (st ++ [.dct []])
theorem pe_eD0 : PE X (.Dict [] [] pos) (TM g (RV g) W eD0) := pe_dnewK.imp fun σ H Q ⟨φ, env, st, s, n, h⟩ p hp => by
  have h' : PostO g (RV g) φ H Q (some (.ref st.length, st ++ [.dct []])) := h
  exact new_ref (o := .dct []) (ho := .dK []) s (fun _ => ⟨[], rfl, by simp [RKs]⟩) h' p hp
/-- a constant of the module, its value known up to what it is called by -/
theorem pe_eGlo {x : Str} {v : V} {d : DV} (hg : Gl X x) (hm : ∃ u, X.mg x = some u ∧ RelV v u) (q : ∀ φ H, RV g φ H d v) (hd : (x == ("__debug__" : Str)) = false := by decide) : PE X (.Name x pos) (TM g (RV g) W (eC d)) := by
  obtain ⟨u, h, r⟩ := hm
  exact pe_eGl hg h r q hd
theorem rvIntC {i : Int} : ∀ φ H, RV g φ H (.int i) (.int i) := fun _ _ => by simp [RV]
theorem rvStrC {i : Str} : ∀ φ H, RV g φ H (.str i) (.str i) := fun _ _ => by simp [RV]
end
end DM

/-! DM12: what a machine's step wants, word by word. -/
namespace DM
open PySem PySem.Spec PyProof.Rows L2

def wO0 (o : Option (DV × DSt)) (Q : DV → DSt → Prop) : Prop := match o with
  | some (d, s) => Q d s
  | none => False
def wR0 {α : Type} (r : Res α) (Q : α → DSt → Prop) : Prop := match r with
  | .ok a s => Q a s
  | _ => False
def wS0 (r : SR) (Q : FL → DEnv → DSt → Prop) : Prop := match r with
  | .ok f e s => Q f e s
  | _ => False
/- wrapped, so that nothing runs the machine by looking at a goal -/
structure wO (o : Option (DV × DSt)) (Q : DV → DSt → Prop) : Prop where
  out : wO0 o Q
structure wR {α : Type} (r : Res α) (Q : α → DSt → Prop) : Prop where
  out : wR0 r Q
structure wS (r : SR) (Q : FL → DEnv → DSt → Prop) : Prop where
  out : wS0 r Q
section
variable {α β : Type}
theorem wO_mono {o : Option (DV × DSt)} {Q Q' : DV → DSt → Prop} (h : wO o Q) (k : ∀ d s, Q d s → Q' d s) : wO o Q' := by
  match o, h with
  | some (d, s), h => exact ⟨k _ _ h.out⟩
  | none, h => exact h.out.elim
theorem wR_mono {r : Res α} {Q Q' : α → DSt → Prop} (h : wR r Q) (k : ∀ d s, Q d s → Q' d s) : wR r Q' := by
  match r, h with
  | .ok d s, h => exact ⟨k _ _ h.out⟩
  | .exc _ _, h => exact h.out.elim
  | .bad, h => exact h.out.elim
theorem wS_mono {r : SR} {Q Q' : FL → DEnv → DSt → Prop} (h : wS r Q) (k : ∀ f e s, Q f e s → Q' f e s) : wS r Q' := by
  match r, h with
  | .ok f d s, h => exact ⟨k _ _ _ h.out⟩
  | .exc _ _ _, h => exact h.out.elim
  | .bad, h => exact h.out.elim
theorem wR_bind {r : Res α} {k : α → DSt → Res β} {Q : β → DSt → Prop} (h : wR r fun a s => wR (k a s) Q) : wR (r.bind k) Q := by
  match r, h with
  | .ok d s, h => exact h.out
  | .exc _ _, h => exact h.out.elim
  | .bad, h => exact h.out.elim
theorem wR_of {o : Option (DV × DSt)} {Q : DV → DSt → Prop} (h : wO o Q) : wR (Res.of o) Q := by
  match o, h with
  | some (d, s), h => exact ⟨h.out⟩
  | none, h => exact h.out.elim
theorem wS_then {r : Res α} {env : DEnv} {k : α → DSt → SR} {Q : FL → DEnv → DSt → Prop} (h : wR r fun a s => wS (k a s) Q) : wS (r.then_ env k) Q := by
  match r, h with
  | .ok d s, h => exact h.out
  | .exc _ _, h => exact h.out.elim
  | .bad, h => exact h.out.elim
theorem wS_next {r : SR} {k : Sm} {Q : FL → DEnv → DSt → Prop} (h : wS r fun f e s => match f with
    | .nx => wS (k e s) Q
    | f => Q f e s) : wS (r.next k) Q := by
  match r, h with
  | .ok .nx e s, h => exact h.out
  | .ok (.rt d) e s, h => exact ⟨h.out⟩
  | .ok .bk e s, h => exact ⟨h.out⟩
  | .ok .ct e s, h => exact ⟨h.out⟩
  | .exc _ _ _, h => exact h.out.elim
  | .bad, h => exact h.out.elim
/-- a primitive that answers -/
theorem w_some {o : Option (DV × DSt)} {d : DV} {s : DSt} {Q : DV → DSt → Prop} (h : o = some (d, s)) (q : Q d s) : wO o Q := by rw [h]; exact ⟨q⟩
theorem w_ok {r : Res α} {d : α} {s : DSt} {Q : α → DSt → Prop} (h : r = .ok d s) (q : Q d s) : wR r Q := by rw [h]; exact ⟨q⟩
theorem wR_ex {r : Res α} {Q : α → DSt → Prop} (h : wR r Q) : ∃ d s, r = .ok d s ∧ Q d s := by
  match r, h with
  | .ok d s, h => exact ⟨d, s, rfl, h.out⟩
  | .exc _ _, h => exact h.out.elim
  | .bad, h => exact h.out.elim
theorem wS_ex {r : SR} {Q : FL → DEnv → DSt → Prop} (h : wS r Q) : ∃ f e s, r = .ok f e s ∧ Q f e s := by
  match r, h with
  | .ok f e s, h => exact ⟨f, e, s, rfl, h.out⟩
  | .exc _ _ _, h => exact h.out.elim
  | .bad, h => exact h.out.elim
end

section
variable {env : DEnv} {st : DSt} {a b c o : Ex} {ba bb : Exb} {r kw : Exs} {x y : Sm} {Q : DV → DSt → Prop} {QB : Bool → DSt → Prop} {QL : List DV → DSt → Prop} {QS : FL → DEnv → DSt → Prop}
theorem w_eVar {i : Nat} {d : DV} (h : env[i]? = some (some d)) (q : Q d st) : wR (eVar i env st) Q := by unfold eVar; rw [h]; exact ⟨q⟩
theorem w_eC {d : DV} (q : Q d st) : wR (eC d env st) Q := ⟨q⟩
theorem w_e1 {p : DV → DSt → Option (DV × DSt)} (h : wR (a env st) fun x s1 => wO (p x s1) Q) : wR (e1 p a env st) Q := wR_bind (wR_mono h fun _ _ q => wR_of q)
theorem w_e2 {p : DV → DV → DSt → Option (DV × DSt)} (h : wR (a env st) fun x s1 => wR (b env s1) fun y s2 => wO (p x y s2) Q) : wR (e2 p a b env st) Q := wR_bind (wR_mono h fun _ _ q => wR_bind (wR_mono q fun _ _ z => wR_of z))
theorem w_eIf (h : wR (ba env st) fun k s1 => if k = true then wR (a env s1) Q else wR (b env s1) Q) : wR (eIf ba a b env st) Q := wR_bind (wR_mono h fun k s q => by
  cases k with
  | true => exact q
  | false => exact q)
theorem w_eAnd (h : wR (a env st) fun x s1 => ∃ k, x = .bl k ∧ if k = true then wR (b env s1) Q else Q (.bl false) s1) : wR (eAnd a b env st) Q := wR_bind (wR_mono h fun x s ⟨k, e, q⟩ => by
  subst e
  cases k with
  | true => exact q
  | false => exact ⟨q⟩)
theorem w_eOr (h : wR (a env st) fun x s1 => ∃ k, x = .bl k ∧ if k = true then Q (.bl true) s1 else wR (b env s1) Q) : wR (eOr a b env st) Q := wR_bind (wR_mono h fun x s ⟨k, e, q⟩ => by
  subst e
  cases k with
  | true => exact ⟨q⟩
  | false => exact q)
theorem w_eNot (h : wR (a env st) fun x s1 => ∃ k, x = .bl k ∧ Q (.bl (!k)) s1) : wR (eNot a env st) Q := wR_bind (wR_mono h fun x s ⟨k, e, q⟩ => by subst e; exact ⟨q⟩)
theorem w_bOf (h : wR (a env st) fun x s1 => ∃ k, x = .bl k ∧ QB k s1) : wR (bOf a env st) QB := wR_bind (wR_mono h fun x s ⟨k, e, q⟩ => by subst e; exact ⟨q⟩)
theorem w_bAnd (h : wR (ba env st) fun k s1 => if k = true then wR (bb env s1) QB else QB false s1) : wR (bAnd ba bb env st) QB := wR_bind (wR_mono h fun k s q => by
  cases k with
  | true => exact q
  | false => exact ⟨q⟩)
theorem w_bOr (h : wR (ba env st) fun k s1 => if k = true then QB true s1 else wR (bb env s1) QB) : wR (bOr ba bb env st) QB := wR_bind (wR_mono h fun k s q => by
  cases k with
  | true => exact ⟨q⟩
  | false => exact q)
theorem w_bNot (h : wR (ba env st) fun k s1 => QB (!k) s1) : wR (bNot ba env st) QB := wR_bind (wR_mono h fun k s q => ⟨q⟩)
theorem w_bYes (h : QB true st) : wR (bYes env st) QB := ⟨h⟩
theorem w_asNil (h : QL [] st) : wR (asNil env st) QL := ⟨h⟩
theorem w_asCons (h : wR (a env st) fun x s1 => wR (r env s1) fun xs s2 => QL (x :: xs) s2) : wR (asCons a r env st) QL := wR_bind (wR_mono h fun _ _ q => wR_bind (wR_mono q fun _ _ z => ⟨z⟩))
theorem w_eTup (h : wR (r env st) fun xs s1 => xs.length ≤ sizeLine ∧ Q (.tup xs) s1) : wR (eTup r env st) Q := wR_bind (wR_mono h fun _ _ ⟨l, q⟩ => by rw [if_pos l]; exact ⟨q⟩)
theorem w_eLst (h : wR (r env st) fun xs s1 => xs.length ≤ sizeLine ∧ Q (.lst xs) s1) : wR (eLst r env st) Q := wR_bind (wR_mono h fun _ _ ⟨l, q⟩ => by rw [if_pos l]; exact ⟨q⟩)
theorem w_eLstR (h : wR (r env st) fun xs s1 => xs.length ≤ sizeLine ∧ Q (.ref s1.length) (s1 ++ [.lst xs])) : wR (eLstR r env st) Q := wR_bind (wR_mono h fun _ _ ⟨l, q⟩ => by rw [if_pos l]; exact ⟨q⟩)
theorem w_eCall {m : Fn} {gD : List DV → List DV → List DV} {n nk : Nat} (h : wR (r env st) fun ds s1 => wR (kw env s1) fun zs s2 => (ds.length = n ∧ zs.length = nk) ∧ wR (m (gD ds zs) s2) Q) : wR (eCall m gD n nk r kw env st) Q :=
  wR_bind (wR_mono h fun _ _ q => wR_bind (wR_mono q fun _ _ ⟨l, z⟩ => by rw [if_pos l]; exact z))
theorem w_eB {p : PrF} (h : wR (r env st) fun ds s1 => wO (p ds s1) Q) : wR (eB p r env st) Q := wR_bind (wR_mono h fun _ _ q => wR_of q)
theorem w_eMet {T : String} {p : DV → List DV → DSt → Option (DV × DSt)} (h : wR (o env st) fun x s1 => ((T = "str" ∧ (strOf x).isSome) ∨ (T = "list" ∧ (seqOf s1 x).isSome)) ∧ wR (r env s1) fun ds s2 => wO (p x ds s2) Q) : wR (eMet T p o r env st) Q :=
  wR_bind (wR_mono h fun _ _ ⟨l, q⟩ => by rw [if_pos l]; exact wR_bind (wR_mono q fun _ _ z => wR_of z))
theorem w_oNone {Q : Option Int → DSt → Prop} (h : Q none st) : wR (oNone env st) Q := ⟨h⟩
theorem w_oSome {Q : Option Int → DSt → Prop} (h : wR (a env st) fun x s => ∃ i, x = .int i ∧ Q (some i) s) : wR (oSome a env st) Q := wR_bind (wR_mono h fun x s ⟨k, e, q⟩ => by subst e; exact ⟨q⟩)
theorem w_eSl {p : DV → Option Int → Option Int → DSt → Option (DV × DSt)} {lo hi : Exo} (h : wR (a env st) fun x s1 => wR (lo env s1) fun l s2 => wR (hi env s2) fun u s3 => wO (p x l u s3) Q) : wR (eSl p a lo hi env st) Q :=
  wR_bind (wR_mono h fun _ _ q => wR_bind (wR_mono q fun _ _ z => wR_bind (wR_mono z fun _ _ y => wR_of y)))
theorem w_eChain {p p' : DV → DV → DSt → Option (DV × DSt)} (h : wR (a env st) fun x s1 => wR (b env s1) fun y s2 => wO (p x y s2) fun k s3 => ∃ t, k = .bl t ∧ if t = true then wR (c env s3) (fun z s4 => wO (p' y z s4) Q) else Q (.bl false) s3) : wR (eChain p p' a b c env st) Q :=
  wR_bind (wR_mono h fun _ _ q => wR_bind (wR_mono q fun _ _ z => wR_bind (wR_mono (wR_of z) fun k s ⟨t, e, y⟩ => by
    subst e
    cases t with
    | true => exact wR_bind (wR_mono y fun _ _ v => wR_of v)
    | false => exact ⟨y⟩)))
theorem w_eD0 (h : Q (.ref st.length) (st ++ [.dct []])) : wR (eD0 env st) Q := ⟨h⟩
theorem w_ksNil {Q : List (Key × DV) → DSt → Prop} (h : Q [] st) : wR (ksNil env st) Q := ⟨h⟩
theorem w_ksCons {k v : Ex} {r : Exk} {Q : List (Key × DV) → DSt → Prop} (h : wR (k env st) fun x s1 => wR (v env s1) fun y s2 => wR (r env s2) fun ps s3 => ∃ kk, keyOf x = some kk ∧ Q ((kk, y) :: ps) s3) : wR (ksCons k v r env st) Q :=
  wR_bind (wR_mono h fun _ _ q => wR_bind (wR_mono q fun _ _ z => wR_bind (wR_mono z fun _ _ ⟨kk, e, y⟩ => by rw [e]; exact ⟨y⟩)))
theorem w_eDisp {r : Exk} (h : wR (r env st) fun ps s1 => ps.length ≤ 15 ∧ Q (.ref s1.length) (s1 ++ [.dct (mergeG [] ps)])) : wR (eDisp r env st) Q := wR_bind (wR_mono h fun _ _ ⟨l, q⟩ => by rw [if_pos l]; exact ⟨q⟩)
/-! comprehensions -/
theorem w_eLc {im : Im} {gm : Tgm} {tm : Exb} {em : Ex} {own : List Nat} (h : wR (im env st) fun it s1 => ∃ ds, it = .items ds ∧ wR (lcM gm tm em (wipeE env own) ds [] s1) fun acc s2 => Q (.lst acc) s2) : wR (eLc im gm tm em own env st) Q := by
  unfold eLc lcs
  refine wR_bind (wR_bind (wR_mono h fun it s ⟨ds, e, q⟩ => ?_))
  subst e
  exact wR_mono ⟨q.out⟩ fun _ _ z => ⟨z⟩
theorem w_eLcR {im : Im} {gm : Tgm} {tm : Exb} {em : Ex} {own : List Nat} (h : wR (im env st) fun it s1 => ∃ ds, it = .items ds ∧ wR (lcM gm tm em (wipeE env own) ds [] s1) fun acc s2 => Q (.ref s2.length) (s2 ++ [.lst acc])) : wR (eLcR im gm tm em own env st) Q := by
  unfold eLcR lcs
  refine wR_bind (wR_bind (wR_mono h fun it s ⟨ds, e, q⟩ => ?_))
  subst e
  exact wR_mono ⟨q.out⟩ fun _ _ z => ⟨z⟩
theorem lcM_inv {gm : Tgm} {tm : Exb} {em : Ex} (I : List DV → List DV → DSt → Prop)
    (hs : ∀ d ds acc s, I (d :: ds) acc s → ∃ env2, gm d env = some env2 ∧ wR (tm env2 s) fun k s2 => if k = true then wR (em env2 s2) fun y s3 => acc.length < sizeLine ∧ I ds (acc ++ [y]) s3 else I ds acc s2)
    (he : ∀ acc s, I [] acc s → QL acc s) : ∀ (ds acc : List DV) (s : DSt), I ds acc s → wR (lcM gm tm em env ds acc s) QL
  | [], acc, s, h => ⟨he acc s h⟩
  | d :: ds, acc, s, h => by
    obtain ⟨env2, e1, q⟩ := hs d ds acc s h
    unfold lcM
    rw [e1]
    show wR (match tm env2 s with
      | .ok true st2 => (match em env2 st2 with
        | .ok y st3 => if acc.length < sizeLine then lcM gm tm em env ds (acc ++ [y]) st3 else .bad
        | _ => .bad)
      | .ok false st2 => lcM gm tm em env ds acc st2
      | _ => .bad) QL
    match hh : tm env2 s with
    | .ok true st2 =>
      rw [hh] at q
      have q' : wR (em env2 st2) fun y s3 => acc.length < sizeLine ∧ I ds (acc ++ [y]) s3 := ⟨q.out.out⟩
      show wR (match em env2 st2 with
        | .ok y st3 => if acc.length < sizeLine then lcM gm tm em env ds (acc ++ [y]) st3 else .bad
        | _ => .bad) QL
      obtain ⟨y, s3, e3, l, z⟩ := wR_ex q'
      rw [e3]
      show wR (if acc.length < sizeLine then lcM gm tm em env ds (acc ++ [y]) s3 else .bad) QL
      rw [if_pos l]
      exact lcM_inv I hs he ds _ _ z
    | .ok false st2 =>
      rw [hh] at q
      exact lcM_inv I hs he ds _ _ q.out
    | .exc _ _ => rw [hh] at q; exact q.out.elim
    | .bad => rw [hh] at q; exact q.out.elim
/-- each made by f, nothing else done -/
theorem lcM_map {gm : Tgm} {em : Ex} (f : DV → DV) {s : DSt} : ∀ (ds acc : List DV), (∀ d ∈ ds, ∃ env2, gm d env = some env2 ∧ em env2 s = .ok (f d) s) → acc.length + ds.length ≤ sizeLine → lcM gm bYes em env ds acc s = .ok (acc ++ ds.map f) s
  | [], acc, _, _ => by simp [lcM]
  | d :: ds, acc, h, hl => by
    obtain ⟨env2, e1, e2⟩ := h d List.mem_cons_self
    simp only [List.length_cons] at hl
    unfold lcM
    rw [e1]
    simp only [bYes, e2]
    rw [if_pos (by omega), lcM_map f ds (acc ++ [f d]) (fun x hx => h x (List.mem_cons_of_mem _ hx)) (by simp; omega)]
    simp
theorem w_lcMap {gm : Tgm} {em : Ex} {ds : List DV} (f : DV → DV) (h : ∀ d ∈ ds, ∃ env2, gm d env = some env2 ∧ wR (em env2 st) fun y s => y = f d ∧ s = st) (hl : ds.length ≤ sizeLine) (q : QL (ds.map f) st) : wR (lcM gm bYes em env ds [] st) QL := by
  rw [lcM_map f ds [] (fun d hd => by
    obtain ⟨e2, h1, h2⟩ := h d hd
    obtain ⟨y, s, h3, rfl, rfl⟩ := wR_ex h2
    exact ⟨e2, h1, h3⟩) (by simpa using hl)]
  exact ⟨q⟩
/-- those that f lets stand, nothing else done -/
theorem w_lcFil {gm : Tgm} {tm : Exb} {em : Ex} (f : DV → Bool) (g : DV → DV) : ∀ (ds acc : List DV), (∀ d ∈ ds, ∃ env2, gm d env = some env2 ∧ wR (tm env2 st) fun k s => k = f d ∧ s = st ∧ (k = true → wR (em env2 st) fun y s => y = g d ∧ s = st)) → acc.length + ds.length ≤ sizeLine →
    lcM gm tm em env ds acc st = .ok (acc ++ (ds.filter f).map g) st
  | [], acc, _, _ => by simp [lcM]
  | d :: ds, acc, h, hl2 => by
    obtain ⟨env2, e1, e2⟩ := h d List.mem_cons_self
    simp only [List.length_cons] at hl2
    obtain ⟨k, s, e3, ek, es, e4⟩ := wR_ex e2
    rw [es, ek] at e3
    rw [ek] at e4
    unfold lcM
    rw [e1]
    simp only [e3]
    cases hf : f d with
    | false =>
      simp only
      rw [w_lcFil f g ds acc (fun x hx => h x (List.mem_cons_of_mem _ hx)) (by omega), List.filter_cons, hf]
      simp
    | true =>
      obtain ⟨y, s2, e5, ey, es2⟩ := wR_ex (e4 hf)
      rw [ey, es2] at e5
      simp only [e5]
      rw [if_pos (by omega), w_lcFil f g ds _ (fun x hx => h x (List.mem_cons_of_mem _ hx)) (by simp; omega), List.filter_cons, hf]
      simp
/-! iterators -/
theorem w_iSeq {Q : DIt → DSt → Prop} (h : wR (a env st) fun d s1 => (∃ ds, (d = .lst ds ∨ d = .fzl ds ∨ d = .tup ds ∨ ∃ x, d = .str x ∧ ds = signs x) ∧ Q (.items ds) s1) ∨ ∃ n ds, d = .ref n ∧ s1[n]? = some (.lst ds) ∧ Q (.refl n) s1) : wR (iSeq a env st) Q :=
  wR_bind (wR_mono h fun d s q => by
    rcases q with ⟨ds, e, q⟩ | ⟨n, ds, rfl, e, q⟩
    · rcases e with rfl | rfl | rfl | ⟨x, rfl, rfl⟩
      · exact ⟨q⟩
      · exact ⟨q⟩
      · exact ⟨q⟩
      · exact ⟨q⟩
    · show wR (match s[n]? with
        | some (.lst _) => Res.ok (.refl n) s
        | _ => .bad) Q
      rw [e]
      exact ⟨q⟩)
def itOf (s : DSt) : DV → Option DIt
  | .lst ds => some (.items ds)
  | .fzl ds => some (.items ds)
  | .tup ds => some (.items ds)
  | .str x => some (.items (signs x))
  | .ref n => (match s[n]? with
    | some (.lst _) => some (.refl n)
    | _ => none)
  | _ => none
theorem w_iSeqO {Q : DIt → DSt → Prop} (h : wR (a env st) fun d s1 => ∃ it, itOf s1 d = some it ∧ Q it s1) : wR (iSeq a env st) Q := w_iSeq (wR_mono h fun d s ⟨it, e, q⟩ => by
  match d, e with
  | .lst ds, e => simp only [itOf, Option.some.injEq] at e; subst e; exact .inl ⟨_, .inl rfl, q⟩
  | .fzl ds, e => simp only [itOf, Option.some.injEq] at e; subst e; exact .inl ⟨_, .inr (.inl rfl), q⟩
  | .tup ds, e => simp only [itOf, Option.some.injEq] at e; subst e; exact .inl ⟨_, .inr (.inr (.inl rfl)), q⟩
  | .str x, e => simp only [itOf, Option.some.injEq] at e; subst e; exact .inl ⟨_, .inr (.inr (.inr ⟨_, rfl, rfl⟩)), q⟩
  | .ref m, e =>
    simp only [itOf] at e
    split at e
    · rename_i ds e1
      simp only [Option.some.injEq] at e
      subst e
      exact .inr ⟨m, ds, rfl, e1, q⟩
    · cases e)
theorem ite_d {p A B : Prop} [Decidable p] (h1 : p → A) (h2 : ¬ p → B) : if decide p = true then A else B := by
  by_cases h : p
  · rw [if_pos (decide_eq_true h)]; exact h1 h
  · rw [if_neg (by simpa using h)]; exact h2 h
theorem ite_nd {p A B : Prop} [Decidable p] (h1 : ¬ p → A) (h2 : p → B) : if (!decide p) = true then A else B := by
  by_cases h : p
  · rw [if_neg (by simp [h])]; exact h2 h
  · rw [if_pos (by simp [h])]; exact h1 h
theorem ite_b {k : Bool} {A B : Prop} (h1 : k = true → A) (h2 : k = false → B) : if k = true then A else B := by
  cases k with
  | true => exact h1 rfl
  | false => exact h2 rfl
theorem ite_tt {b : Bool} {A B : Prop} (h : b = true) (a : A) : if b = true then A else B := by rw [if_pos h]; exact a
theorem ite_ff {b : Bool} {A B : Prop} (h : b = false) (a : B) : if b = true then A else B := by rw [if_neg (by simp [h])]; exact a
theorem rngOk {j : Int} (h1 : -1000000000 ≤ j) (h2 : j ≤ 1000000000) : -(2 ^ 62) ≤ j ∧ j < 2 ^ 62 := by constructor <;> omega
theorem iteNT {A B : Prop} (h : B) : if (!true) = true then A else B := h
theorem iteNF {A B : Prop} (h : A) : if (!false) = true then A else B := h
theorem w_iSeqL {Q : DIt → DSt → Prop} (h : wR (a env st) fun d s1 => ∃ ds, d = .lst ds ∧ Q (.items ds) s1) : wR (iSeq a env st) Q := w_iSeq (wR_mono h fun _ _ ⟨ds, e, q⟩ => .inl ⟨ds, .inl e, q⟩)
theorem w_iSeqF {Q : DIt → DSt → Prop} (h : wR (a env st) fun d s1 => ∃ ds, d = .fzl ds ∧ Q (.items ds) s1) : wR (iSeq a env st) Q := w_iSeq (wR_mono h fun _ _ ⟨ds, e, q⟩ => .inl ⟨ds, .inr (.inl e), q⟩)
theorem w_iSeqT {Q : DIt → DSt → Prop} (h : wR (a env st) fun d s1 => ∃ ds, d = .tup ds ∧ Q (.items ds) s1) : wR (iSeq a env st) Q := w_iSeq (wR_mono h fun _ _ ⟨ds, e, q⟩ => .inl ⟨ds, .inr (.inr (.inl e)), q⟩)
theorem w_iSeqS {Q : DIt → DSt → Prop} (h : wR (a env st) fun d s1 => ∃ x, d = .str x ∧ Q (.items (signs x)) s1) : wR (iSeq a env st) Q := w_iSeq (wR_mono h fun _ _ ⟨ds, e, q⟩ => .inl ⟨_, .inr (.inr (.inr ⟨_, e, rfl⟩)), q⟩)
theorem w_iRngA {Q : DIt → DSt → Prop} (h : wR (r env st) fun ds s1 => ∃ j, ds = [.int j] ∧ (-(2 ^ 62) ≤ j ∧ j < 2 ^ 62) ∧ Q (.items (rng1 j)) s1) : wR (iRngA r env st) Q :=
  wR_bind (wR_mono h fun _ _ ⟨j, e, l, q⟩ => by subst e; show wR (if _ then _ else _) _; rw [if_pos l]; exact ⟨q⟩)
theorem w_iRngB {Q : DIt → DSt → Prop} (h : wR (r env st) fun ds s1 => ∃ i j, ds = [.int i, .int j] ∧ (-(2 ^ 62) ≤ i ∧ i < 2 ^ 62 ∧ -(2 ^ 62) ≤ j ∧ j < 2 ^ 62) ∧ Q (.items (rng2 i j)) s1) : wR (iRngB r env st) Q :=
  wR_bind (wR_mono h fun _ _ ⟨i, j, e, l, q⟩ => by subst e; show wR (if _ then _ else _) _; rw [if_pos l]; exact ⟨q⟩)
theorem w_iEnum {Q : DIt → DSt → Prop} (h : wR (r env st) fun ds s1 => ∃ es, ds = [.lst es] ∧ Q (.items (numd es)) s1) : wR (iEnumM r env st) Q :=
  wR_bind (wR_mono h fun _ _ ⟨j, e, q⟩ => by subst e; exact ⟨q⟩)
theorem w_iZip {Q : DIt → DSt → Prop} (h : wR (r env st) fun ds s1 => ∃ as bs, (ds = [.lst as, .lst bs] ∨ ds = [.tup as, .tup bs]) ∧ Q (.items (zipd as bs)) s1) : wR (iZipM r env st) Q :=
  wR_bind (wR_mono h fun _ _ ⟨as, bs, e, q⟩ => by rcases e with rfl | rfl <;> exact ⟨q⟩)
theorem len_ok {xs : List DV} (h : xs.length ≤ 100000) : xs.length ≤ sizeLine := Nat.le_trans h (by decide)
/-! statements -/
theorem w_sNx (h : QS .nx env st) : wS (sNx env st) QS := ⟨h⟩
theorem w_sBrk (h : QS .bk env st) : wS (sBrk env st) QS := ⟨h⟩
theorem w_sCont (h : QS .ct env st) : wS (sCont env st) QS := ⟨h⟩
theorem w_sRetN (h : QS (.rt .non) env st) : wS (sRetN env st) QS := ⟨h⟩
theorem w_sRet (h : wR (a env st) fun d s => QS (.rt d) env s) : wS (sRet a env st) QS := wS_then (wR_mono h fun _ _ q => ⟨q⟩)
theorem w_sExpr (h : wR (a env st) fun _ s => QS .nx env s) : wS (sExpr a env st) QS := wS_then (wR_mono h fun _ _ q => ⟨q⟩)
theorem w_sAsg {t : Tgm} (h : wR (a env st) fun d s => ∃ e', t d env = some e' ∧ QS .nx e' s) : wS (sAsg a t env st) QS := wS_then (wR_mono h fun _ _ ⟨e', e, q⟩ => by rw [e]; exact ⟨q⟩)
theorem w_sSetIx {v o i : Ex} {p : DV → DV → DV → DSt → Option DSt} (h : wR (v env st) fun x s1 => wR (o env s1) fun y s2 => wR (i env s2) fun z s3 => ∃ s4, p y z x s3 = some s4 ∧ QS .nx env s4) : wS (sSetIx v o i p env st) QS :=
  wS_then (wR_mono h fun _ _ q => wS_then (wR_mono q fun _ _ z => wS_then (wR_mono z fun _ _ ⟨s4, e, y⟩ => by rw [e]; exact ⟨y⟩)))
theorem w_sIf (h : wR (ba env st) fun k s1 => if k = true then wS (x env s1) QS else wS (y env s1) QS) : wS (sIf ba x y env st) QS := wS_then (wR_mono h fun k s q => by
  cases k with
  | true => exact q
  | false => exact q)
/-- what is wanted of a part ahead of more; of a def's body; of a loop's turn -/
def qN (k : DEnv → DSt → Prop) (QS : FL → DEnv → DSt → Prop) : FL → DEnv → DSt → Prop
  | .nx, e, s => k e s
  | .rt d, e, s => QS (.rt d) e s
  | .bk, e, s => QS .bk e s
  | .ct, e, s => QS .ct e s
def qF (Q : DV → DSt → Prop) : FL → DEnv → DSt → Prop
  | .rt d, _, s => Q d s
  | .nx, _, s => Q .non s
  | _, _, _ => False
def qI (I : DEnv → DSt → Prop) (QS : FL → DEnv → DSt → Prop) : FL → DEnv → DSt → Prop
  | .nx, e, s => I e s
  | .ct, e, s => I e s
  | .bk, e, s => QS .nx e s
  | .rt v, e, s => QS (.rt v) e s
theorem qN_nx {k : DEnv → DSt → Prop} {e : DEnv} {s : DSt} (h : k e s) : qN k QS .nx e s := h
theorem qN_rt {k : DEnv → DSt → Prop} {e : DEnv} {s : DSt} {d : DV} (h : QS (.rt d) e s) : qN k QS (.rt d) e s := h
theorem qN_bk {k : DEnv → DSt → Prop} {e : DEnv} {s : DSt} (h : QS .bk e s) : qN k QS .bk e s := h
theorem qN_ct {k : DEnv → DSt → Prop} {e : DEnv} {s : DSt} (h : QS .ct e s) : qN k QS .ct e s := h
theorem qF_rt {e : DEnv} {s : DSt} {d : DV} (h : Q d s) : qF Q (.rt d) e s := h
theorem qF_nx {e : DEnv} {s : DSt} (h : Q .non s) : qF Q .nx e s := h
theorem qI_nx {k : DEnv → DSt → Prop} {e : DEnv} {s : DSt} (h : k e s) : qI k QS .nx e s := h
theorem qI_ct {k : DEnv → DSt → Prop} {e : DEnv} {s : DSt} (h : k e s) : qI k QS .ct e s := h
theorem qI_bk {k : DEnv → DSt → Prop} {e : DEnv} {s : DSt} (h : QS .nx e s) : qI k QS .bk e s := h
theorem qI_rt {k : DEnv → DSt → Prop} {e : DEnv} {s : DSt} {d : DV} (h : QS (.rt d) e s) : qI k QS (.rt d) e s := h
theorem w_seq (h : wS (x env st) (qN (fun e s => wS (y e s) QS) QS)) : wS (sSeq x y env st) QS := wS_next (wS_mono h fun f e s q => by cases f <;> exact q)
theorem w_seqNx (h : wS (y env st) QS) : wS (sSeq sNx y env st) QS := h
theorem w_seqSeq {z : Sm} (h : wS (sSeq x (sSeq z y) env st) QS) : wS (sSeq (sSeq x z) y env st) QS := by
  have h' : wS ((x env st).next fun e s => (z e s).next y) QS := h
  show wS (((x env st).next z).next y) QS
  cases hx : x env st with
  | bad => rw [hx] at h'; exact h'
  | exc e1 e2 e3 => rw [hx] at h'; exact h'
  | ok f e s => rw [hx] at h'; cases f <;> exact h'
theorem w_seqRet (h : wS (sRet a env st) QS) : wS (sSeq (sRet a) y env st) QS := w_seq (wS_mono (w_sRet (QS := fun f e s => (∃ d, f = .rt d) ∧ QS f e s) (wR_mono (by
  unfold sRet at h
  show wR (a env st) fun d s => QS (.rt d) env s
  cases ha : a env st with
  | ok d s => rw [ha] at h; exact ⟨h.out⟩
  | exc _ _ => rw [ha] at h; exact h.out.elim
  | bad => rw [ha] at h; exact h.out.elim) fun d s q => ⟨⟨d, rfl⟩, q⟩)) fun f e s ⟨⟨d, e1⟩, q⟩ => by subst e1; exact q)
theorem w_seqRetN (h : QS (.rt .non) env st) : wS (sSeq sRetN y env st) QS := ⟨h⟩
theorem w_seqBrk (h : QS .bk env st) : wS (sSeq sBrk y env st) QS := ⟨h⟩
theorem w_seqCont (h : QS .ct env st) : wS (sSeq sCont y env st) QS := ⟨h⟩
theorem w_seqExpr (h : wR (a env st) fun _ s => wS (y env s) QS) : wS (sSeq (sExpr a) y env st) QS := w_seq (w_sExpr h)
theorem w_seqAsg {t : Tgm} (h : wR (a env st) fun d s => ∃ e', t d env = some e' ∧ wS (y e' s) QS) : wS (sSeq (sAsg a t) y env st) QS := w_seq (w_sAsg h)
theorem w_seqSet {v o i : Ex} {p : DV → DV → DV → DSt → Option DSt} (h : wR (v env st) fun x1 s1 => wR (o env s1) fun y1 s2 => wR (i env s2) fun z1 s3 => ∃ s4, p y1 z1 x1 s3 = some s4 ∧ wS (y env s4) QS) : wS (sSeq (sSetIx v o i p) y env st) QS := w_seq (w_sSetIx h)
theorem w_seqIf {z : Sm} (h : wR (ba env st) fun k s1 => if k = true then wS (sSeq x z env s1) QS else wS (sSeq y z env s1) QS) : wS (sSeq (sIf ba x y) z env st) QS := w_seq (w_sIf (wR_mono h fun k s q => by
  cases k with
  | true =>
    have q' : wS (sSeq x z env s) QS := q
    show wS (x env s) _
    unfold sSeq at q'
    cases hx : x env s with
    | bad => rw [hx] at q'; exact q'.out.elim
    | exc _ _ _ => rw [hx] at q'; exact q'.out.elim
    | ok f e s2 => rw [hx] at q'; cases f <;> first | exact ⟨⟨q'.out⟩⟩ | exact ⟨q'.out⟩
  | false =>
    have q' : wS (sSeq y z env s) QS := q
    show wS (y env s) _
    unfold sSeq at q'
    cases hx : y env s with
    | bad => rw [hx] at q'; exact q'.out.elim
    | exc _ _ _ => rw [hx] at q'; exact q'.out.elim
    | ok f e s2 => rw [hx] at q'; cases f <;> first | exact ⟨⟨q'.out⟩⟩ | exact ⟨q'.out⟩))
theorem for_inv {gm : Tgm} {body : Sm} (I : List DV → DEnv → DSt → Prop)
    (hs : ∀ d ds e s, I (d :: ds) e s → ∃ e2, gm d e = some e2 ∧ wS (body e2 s) (qI (I ds) QS))
    (he : ∀ e s, I [] e s → QS .nx e s) : ∀ (ds : List DV) (e : DEnv) (s : DSt), I ds e s → wS (forM gm body ds e s) QS
  | [], e, s, h => ⟨he e s h⟩
  | d :: ds, e, s, h => by
    obtain ⟨e2, e1, q⟩ := hs d ds e s h
    show wS ((tgThen gm body d e s).turn (forM gm body ds)) QS
    unfold tgThen
    rw [e1]
    show wS ((body e2 s).turn (forM gm body ds)) QS
    cases hb : body e2 s with
    | bad => rw [hb] at q; exact q.out.elim
    | exc _ _ _ => rw [hb] at q; exact q.out.elim
    | ok f e' s' =>
      rw [hb] at q
      cases f with
      | nx => exact for_inv I hs he ds e' s' q.out
      | ct => exact for_inv I hs he ds e' s' q.out
      | bk => exact ⟨q.out⟩
      | rt v => exact ⟨q.out⟩
theorem w_sFor {im : Im} {gm : Tgm} {body : Sm} (h : wR (im env st) fun it s1 => ∃ ds, it = .items ds ∧ wS (forM gm body ds env s1) QS) : wS (sFor im gm body env st) QS := wS_then (wR_mono h fun _ _ ⟨ds, e, q⟩ => by subst e; exact q)
theorem w_seqFor {im : Im} {gm : Tgm} {body : Sm} (h : wR (im env st) fun it s1 => ∃ ds, it = .items ds ∧ wS (forM gm body ds env s1) (qN (fun e s => wS (y e s) QS) QS)) : wS (sSeq (sFor im gm body) y env st) QS := w_seq (w_sFor h)
theorem w_fn {n : Nat} {bd : Sm} {ds : List DV} (h : wS (bd (ds.map some ++ List.replicate (n - ds.length) none) st) (qF Q)) : wR (runFn n bd ds st) Q := by
  unfold runFn
  cases hb : bd (ds.map some ++ List.replicate (n - ds.length) none) st with
  | bad => rw [hb] at h; exact h.out.elim
  | exc _ _ _ => rw [hb] at h; exact h.out.elim
  | ok f e s => rw [hb] at h; cases f <;> exact ⟨h.out⟩
/-! primitives -/
theorem w_mod {i j : Int} (h : 0 < j) (q : Q (.int (i % j)) st) : wO (modP (.int i) (.int j) st) Q := w_some (by simp [modP, h]) q
theorem w_div {i j : Int} (h : 0 < j ∧ j < 1073741824) (q : Q (.int (i / j)) st) : wO (divP (.int i) (.int j) st) Q := w_some (by simp [divP, h]) q
theorem w_mul {i j : Int} (h : (-(2 ^ 64) < i ∧ i < 2 ^ 64) ∨ (-(2 ^ 64) < j ∧ j < 2 ^ 64)) (q : Q (.int (i * j)) st) : wO (mulP (.int i) (.int j) st) Q := w_some (by
  have e : (smallI i || smallI j) = true := by simp only [smallI, Bool.or_eq_true, decide_eq_true_eq]; exact h
  simp only [mulP, e, if_true]) q
theorem w_mulR {i j : Int} (h : -(2 ^ 64) < j ∧ j < 2 ^ 64) (q : Q (.int (i * j)) st) : wO (mulP (.int i) (.int j) st) Q := w_mul (.inr h) q
theorem w_mulF {i j : Int} (h : -(2 ^ 64) < i ∧ i < 2 ^ 64) (q : Q (.int (i * j)) st) : wO (mulP (.int i) (.int j) st) Q := w_mul (.inl h) q
theorem w_pow {i j : Int} (h : 0 ≤ j ∧ j ≤ 1000000 ∧ i.natAbs < 2 ^ 64) (q : Q (.int (i ^ j.toNat)) st) : wO (powP (.int i) (.int j) st) Q := w_some (by simp [powP, h]) q
theorem w_addI {i j : Int} (q : Q (.int (i + j)) st) : wO (addP (.int i) (.int j) st) Q := ⟨q⟩
theorem w_subI {i j : Int} (q : Q (.int (i - j)) st) : wO (subP (.int i) (.int j) st) Q := ⟨q⟩
theorem w_eqI {i j : Int} (q : Q (.bl (decide (i = j))) st) : wO (eqP (.int i) (.int j) st) Q := ⟨q⟩
theorem w_neI {i j : Int} (q : Q (.bl (!decide (i = j))) st) : wO (neP (.int i) (.int j) st) Q := ⟨q⟩
theorem w_eqS {i j : Str} (q : Q (.bl (decide (i = j))) st) : wO (eqP (.str i) (.str j) st) Q := ⟨q⟩
theorem w_neS {i j : Str} (q : Q (.bl (!decide (i = j))) st) : wO (neP (.str i) (.str j) st) Q := ⟨q⟩
theorem w_ltI {i j : Int} (q : Q (.bl (decide (i < j))) st) : wO (ltP (.int i) (.int j) st) Q := ⟨q⟩
theorem w_leI {i j : Int} (q : Q (.bl (decide (i ≤ j))) st) : wO (leP (.int i) (.int j) st) Q := ⟨q⟩
theorem w_gtI {i j : Int} (q : Q (.bl (decide (j < i))) st) : wO (gtP (.int i) (.int j) st) Q := ⟨q⟩
theorem w_geI {i j : Int} (q : Q (.bl (decide (j ≤ i))) st) : wO (geP (.int i) (.int j) st) Q := ⟨q⟩
theorem w_ixL {ds : List DV} {d : DV} {i : Nat} (h : ds[i]? = some d) (q : Q d st) : wO (ixP (.lst ds) (.int (i : Nat)) st) Q := by
  refine w_some (d := d) (s := st) ?_ q
  simp [ixP, seqOf, L2.atI_nat h]
theorem w_ixS {z : Str} {c : Nat} {i : Nat} (hz : z.length ≤ sizeLine) (h : z.cps.toList[i]? = some c) (q : Q (.str ⟨#[c]⟩) st) : wO (ixP (.str z) (.int (i : Nat)) st) Q := by
  refine w_some (d := .str ⟨#[c]⟩) (s := st) ?_ q
  simp only [ixP, if_pos hz, L2.atI_nat h, Option.map_some]
theorem w_ixR {n : Nat} {ds : List DV} {d : DV} {i : Nat} (hn : st[n]? = some (.lst ds)) (h : ds[i]? = some d) (q : Q d st) : wO (ixP (.ref n) (.int (i : Nat)) st) Q := by
  refine w_some (d := d) (s := st) ?_ q
  simp [ixP, seqOf, hn, L2.atI_nat h]
theorem w_lenL {ds : List DV} (q : Q (.int ds.length) st) : wO (lenP [.lst ds] st) Q := ⟨q⟩
theorem w_lenS {z : Str} (h : z.length ≤ sizeLine) (q : Q (.int z.length) st) : wO (lenP [.str z] st) Q := w_some (by simp [lenP, h]) q
theorem w_addS {i j : Str} (h : i.length + j.length ≤ sizeLine) (q : Q (.str (i ++ j)) st) : wO (addP (.str i) (.str j) st) Q := w_some (by simp [addP, h]) q
theorem w_addL {x y : DV} {as bs : List DV} (hx : lstOf st x = some as) (hy : lstOf st y = some bs) (h : as.length + bs.length ≤ sizeLine) (q : Q (.lst (as ++ bs)) st) : wO (addP x y st) Q := by
  have e : addP x y st = some (.lst (as ++ bs), st) := by
    cases x <;> simp only [lstOf] at hx <;> try (cases hx)
    all_goals (unfold addP; cases y <;> simp only [lstOf] at hy <;> try (cases hy))
    all_goals simp_all [lstOf]
  rw [e]
  exact ⟨q⟩
theorem w_mulL {x : DV} {k : Int} {as : List DV} (hx : lstOf st x = some as) (h : -(2 ^ 63) ≤ k ∧ k < 2 ^ 63 ∧ as.length * k.toNat ≤ sizeLine) (q : Q (.lst (List.replicate k.toNat as).flatten) st) : wO (mulP x (.int k) st) Q := by
  have e : mulP x (.int k) st = some (.lst (List.replicate k.toNat as).flatten, st) := by
    cases x <;> simp only [lstOf] at hx <;> try (cases hx)
    all_goals (unfold mulP; simp_all [lstOf])
  rw [e]
  exact ⟨q⟩
theorem w_repr {d : DV} {p : PyData} (hp : pyR st d = some p) (hs : okShow p = true) (q : Q (.str p.shown) st) : wO (reprP [d] st) Q := by
  have e : reprP [d] st = some (.str p.shown, st) := by simp [reprP, hp, hs]
  rw [e]
  exact ⟨q⟩
end
end DM

/-! DM13: data that can be shown and compared. -/
namespace DM
open PySem PySem.Spec PyProof.Rows L2
mutual
def nice : PyData → Bool
  | .none => true
  | .bool _ => true
  | .int i => decide (i.natAbs.log2 < 1920)
  | .str x => x.cps.toList.all fun c => decide (c < 1114112)
  | .list xs => niceAll xs
  | .tuple xs => niceAll xs
  | .dict kvs => niceKv kvs
def niceAll : List PyData → Bool
  | [] => true
  | x :: xs => nice x && niceAll xs
def niceKv : List (PyData × PyData) → Bool
  | [] => true
  | (k, v) :: r => nice k && nice v && niceKv r
end
mutual
theorem nice_show : ∀ p : PyData, nice p = true → p.showable = true ∧ p.leavesShort 1921 = true
  | .none, _ => by simp [PyData.showable, PyData.leavesShort]
  | .bool _, _ => by simp [PyData.showable, PyData.leavesShort]
  | .int i, h => by
    simp only [nice, decide_eq_true_eq] at h
    exact ⟨by simpa [PyData.showable] using h, by simp only [PyData.leavesShort, PyData.shown]; exact decide_eq_true (int_text_len_1921 h)⟩
  | .str x, h => by
    simp only [nice, List.all_eq_true, decide_eq_true_eq] at h
    refine ⟨by simp [PyData.showable], ?_⟩
    simp only [PyData.leavesShort, List.all_eq_true, decide_eq_true_eq]
    intro c hc
    have := h c hc
    omega
  | .list xs, h => by
    simp only [nice] at h
    simpa only [PyData.showable, PyData.leavesShort] using nice_showAll xs h
  | .tuple xs, h => by
    simp only [nice] at h
    simpa only [PyData.showable, PyData.leavesShort] using nice_showAll xs h
  | .dict kvs, h => by
    simp only [nice] at h
    simpa only [PyData.showable, PyData.leavesShort] using nice_showKv kvs h
theorem nice_showAll : ∀ ps : List PyData, niceAll ps = true → PyData.showableAll ps = true ∧ PyData.leavesShortAll 1921 ps = true
  | [], _ => by simp [PyData.showableAll, PyData.leavesShortAll]
  | p :: ps, h => by
    simp only [niceAll, Bool.and_eq_true] at h
    have h1 := nice_show p h.1
    have h2 := nice_showAll ps h.2
    simp [PyData.showableAll, PyData.leavesShortAll, h1, h2]
theorem nice_showKv : ∀ ps : List (PyData × PyData), niceKv ps = true → PyData.showableKv ps = true ∧ PyData.leavesShortKv 1921 ps = true
  | [], _ => by simp [PyData.showableKv, PyData.leavesShortKv]
  | (k, v) :: ps, h => by
    simp only [niceKv, Bool.and_eq_true] at h
    have h1 := nice_show k h.1.1
    have h3 := nice_show v h.1.2
    have h2 := nice_showKv ps h.2
    simp [PyData.showableKv, PyData.leavesShortKv, h1, h2, h3]
end
theorem okShow_of {p : PyData} (h : nice p = true) (hd : p.depth ≤ 60) (hb : p.bulk ≤ 8000) : okShow p = true := by
  obtain ⟨h1, h2⟩ := nice_show p h
  have h3 := PyData.shown_le_bulk 1921 (by decide) p h2
  have h4 : p.shown.length ≤ sizeLine := by
    have : sizeLine = 16777216 := by decide
    omega
  simp [okShow, h1, hd, h4]
mutual
theorem nice_canLay : ∀ p : PyData, nice p = true → p.hasDict = false → p.canLay0 = true
  | .none, _, _ => by simp [PyData.canLay0]
  | .bool _, _, _ => by simp [PyData.canLay0]
  | .int i, h, _ => by simp [PyData.canLay0]
  | .str x, h, _ => by
    simp only [nice, List.all_eq_true, decide_eq_true_eq] at h
    simp only [PyData.canLay0, PyData.strOk, Array.all_eq_true, decide_eq_true_eq]
    intro i hi
    exact h _ (by simp)
  | .list xs, h, d => by
    simp only [nice] at h
    simp only [PyData.hasDict] at d
    simpa only [PyData.canLay0] using nice_canLayAll xs h d
  | .tuple xs, h, d => by
    simp only [nice] at h
    simp only [PyData.hasDict] at d
    simpa only [PyData.canLay0] using nice_canLayAll xs h d
  | .dict kvs, h, d => by simp [PyData.hasDict] at d
theorem nice_canLayAll : ∀ ps : List PyData, niceAll ps = true → PyData.hasDictAll ps = false → PyData.canLayAll0 ps = true
  | [], _, _ => by simp [PyData.canLayAll0]
  | p :: ps, h, d => by
    simp only [niceAll, Bool.and_eq_true] at h
    simp only [PyData.hasDictAll, Bool.or_eq_false_iff] at d
    simp [PyData.canLayAll0, nice_canLay p h.1 d.1, nice_canLayAll ps h.2 d.2]
end
theorem shaped_of {p : PyData} (h : nice p = true) (d : p.hasDict = false) (hd : p.depth ≤ 60) : SeqAt.shaped p = true := by
  have : p.depth ≤ 64 := by omega
  simp [SeqAt.shaped, nice_canLay p h d, this]
section
variable {st : DSt} {Q : DV → DSt → Prop}
theorem eqB_lst {as bs : List DV} {ps qs : List PyData} (ha : pyVs as = some ps) (hb : pyVs bs = some qs) (na : niceAll ps = true) (nb : niceAll qs = true) (da : PyData.depthAll ps ≤ 59) (db : PyData.depthAll qs ≤ 59) : eqB st (.lst as) (.lst bs) = some (PyData.eqvAll ps qs) := by
  have e1 : pyD st (.lst as) = some (.list ps) := by show (pyVs as).map PyData.list = _; rw [ha]; rfl
  have e2 : pyD st (.lst bs) = some (.list qs) := by show (pyVs bs).map PyData.list = _; rw [hb]; rfl
  have h1 : SeqAt.shaped (.list ps) = true := shaped_of (by simpa [nice] using na) (by simpa [PyData.hasDict] using pyVs_noDict as ps ha) (by simp only [PyData.depth]; omega)
  have h2 : SeqAt.shaped (.list qs) = true := shaped_of (by simpa [nice] using nb) (by simpa [PyData.hasDict] using pyVs_noDict bs qs hb) (by simp only [PyData.depth]; omega)
  show (pyD st (.lst as)).bind _ = _
  rw [e1, Option.bind_some, e2, Option.bind_some, h1, h2]
  simp [PyData.eqv]
theorem w_eqNil {as : List DV} {ps : List PyData} (ha : pyVs as = some ps) (na : niceAll ps = true) (da : PyData.depthAll ps ≤ 59) (q : Q (.bl (decide (as = []))) st) : wO (eqP (.lst as) (.lst []) st) Q := by
  refine w_some (d := .bl (decide (as = []))) (s := st) ?_ q
  unfold eqP
  rw [eqB_lst (qs := []) ha rfl na rfl da (by simp [PyData.depthAll])]
  cases as with
  | nil => simp only [pyVs, Option.some.injEq] at ha; subst ha; rfl
  | cons a as =>
    simp only [pyVs, Option.bind_eq_some_iff, Option.map_eq_some_iff] at ha
    obtain ⟨p, _, r, _, rfl⟩ := ha
    rfl
theorem w_neNil {as : List DV} {ps : List PyData} (ha : pyVs as = some ps) (na : niceAll ps = true) (da : PyData.depthAll ps ≤ 59) (q : Q (.bl (!decide (as = []))) st) : wO (neP (.lst as) (.lst []) st) Q := by
  refine w_some (d := .bl (!decide (as = []))) (s := st) ?_ q
  unfold neP
  rw [eqB_lst (qs := []) ha rfl na rfl da (by simp [PyData.depthAll])]
  cases as with
  | nil => simp only [pyVs, Option.some.injEq] at ha; subst ha; rfl
  | cons a as =>
    simp only [pyVs, Option.bind_eq_some_iff, Option.map_eq_some_iff] at ha
    obtain ⟨p, _, r, _, rfl⟩ := ha
    rfl
theorem w_neNil0 (q : Q (.bl false) st) : wO (neP (.lst []) (.lst []) st) Q := w_neNil (ps := []) rfl rfl (by simp [PyData.depthAll]) q
theorem w_eqNil0 (q : Q (.bl true) st) : wO (eqP (.lst []) (.lst []) st) Q := w_eqNil (ps := []) rfl rfl (by simp [PyData.depthAll]) q
theorem w_isi {d : DV} {a T : String} (h : tyName st d = some a) (q : Q (.bl (isaT a T)) st) : wO (isiP T [d, .ty T] st) Q := w_some (by simp [isiP, h]) q
theorem w_isiS {x : Str} (q : Q (.bl true) st) : wO (isiP "str" [.str x, .ty "str"] st) Q := w_isi (a := "str") rfl q
theorem w_isiF {d : DV} {a T : String} (h : tyName st d = some a) (h2 : isaT a T = false) (q : Q (.bl false) st) : wO (isiP T [d, .ty T] st) Q := w_isi h (by rw [h2]; exact q)
theorem w_all {ds : List DV} {bs : List Bool} (h : allOf blOf ds = some bs) (q : Q (.bl (bs.all id)) st) : wO (allP [.lst ds] st) Q := w_some (by simp [allP, oneL, seqOf, h]) q
/-- a list of texts, of numbers -/
theorem pyVs_strs : ∀ xs : List Str, pyVs (xs.map .str) = some (xs.map .str)
  | [] => rfl
  | x :: xs => by simp only [List.map_cons, pyVs, pyV, pyVs_strs xs, Option.bind_some, Option.map_some]
theorem pyVs_ints : ∀ xs : List Int, pyVs (xs.map .int) = some (xs.map .int)
  | [] => rfl
  | x :: xs => by simp only [List.map_cons, pyVs, pyV, pyVs_ints xs, Option.bind_some, Option.map_some]
theorem depth_ints : ∀ xs : List Int, PyData.depthAll (xs.map .int) = 0
  | [] => by simp [PyData.depthAll]
  | x :: xs => by simp [PyData.depthAll, PyData.depth, depth_ints xs]
theorem depth_strs : ∀ xs : List Str, PyData.depthAll (xs.map .str) = 0
  | [] => by simp [PyData.depthAll]
  | x :: xs => by simp [PyData.depthAll, PyData.depth, depth_strs xs]
theorem canLay_ints : ∀ xs : List Int, PyData.canLayAll0 (xs.map .int) = true
  | [] => rfl
  | x :: xs => by simp only [List.map_cons, PyData.canLayAll0, PyData.canLay0, canLay_ints xs, Bool.and_self]
theorem nice_ints : ∀ {xs : List Int}, (∀ x ∈ xs, x.natAbs < 2 ^ 1920) → niceAll (xs.map .int) = true
  | [], _ => rfl
  | x :: xs, h => by
    have h1 := h x List.mem_cons_self
    have h2 : x.natAbs.log2 < 1920 := by
      by_cases hx : x.natAbs = 0
      · rw [hx]; decide
      · exact (Nat.log2_lt hx).mpr h1
    simp [niceAll, nice, h2, nice_ints (xs := xs) fun y hy => h y (List.mem_cons_of_mem _ hy)]
theorem nice_strs : ∀ {xs : List Str}, (∀ x ∈ xs, ∀ c ∈ x.cps.toList, c < 1114112) → niceAll (xs.map .str) = true
  | [], _ => rfl
  | x :: xs, h => by
    have h1 : nice (.str x) = true := by
      simp only [nice, List.all_eq_true, decide_eq_true_eq]
      exact h x List.mem_cons_self
    simp [niceAll, h1, nice_strs (xs := xs) fun y hy => h y (List.mem_cons_of_mem _ hy)]
theorem bulk_ints : ∀ xs : List Int, PyData.bulkAll (xs.map .int) = xs.length
  | [] => rfl
  | x :: xs => by simp [PyData.bulkAll, PyData.bulk, bulk_ints xs]; omega
theorem lt_int {x : Int} {n : Nat} (h0 : 0 ≤ x) (h : x < 27 ^ n) (hn : n ≤ 30) : x.natAbs < 2 ^ 1920 := by
  have e : (27 : Nat) ^ n ≤ 27 ^ 30 := Nat.pow_le_pow_right (by decide) hn
  have e4 : ((x.natAbs : Nat) : Int) = x := by omega
  have e5 : ((x.natAbs : Nat) : Int) < ((27 ^ n : Nat) : Int) := by rw [e4, Int.natCast_pow]; exact h
  have e6 : x.natAbs < 27 ^ n := Int.ofNat_lt.mp e5
  have e7 : (27 : Nat) ^ 30 < 2 ^ 200 := by decide
  have e8 : (2 : Nat) ^ 200 ≤ 2 ^ 1920 := Nat.pow_le_pow_right (by decide) (by decide)
  omega
/-- all tests fail: nothing is left -/
theorem w_lcNone {gm : Tgm} {tm : Exb} {em : Ex} {env : DEnv} {ds : List DV} {QL : List DV → DSt → Prop} (I : List DV → DSt → Prop) (h0 : I ds st)
    (hs : ∀ d ds s, I (d :: ds) s → ∃ env2, gm d env = some env2 ∧ wR (tm env2 s) fun k s2 => k = false ∧ I ds s2) (q : ∀ s, I [] s → QL [] s) : wR (lcM gm tm em env ds [] st) QL := by
  refine lcM_inv (fun ds acc s => acc = [] ∧ I ds s) ?_ ?_ ds [] st ⟨rfl, h0⟩
  · rintro d ds acc s ⟨rfl, h⟩
    obtain ⟨env2, e, w⟩ := hs d ds s h
    refine ⟨env2, e, wR_mono w ?_⟩
    rintro k s2 ⟨rfl, h2⟩
    rw [if_neg (by decide)]
    exact ⟨rfl, h2⟩
  · rintro acc s ⟨rfl, h⟩
    exact q s h
end
end DM

/-! DM14: is of truths, list(range), dicts by key, f-texts. -/
namespace DM
open PySem PySem.Spec PyProof.Rows L2
section
variable {X : Cx} {g : Gam} {W : WX} {a b e o i : Expr} {ma mb mo mi mv : Ex} {pos : Pos}
/-! is, is not: None, truths -/
def isA : DV → DV → DSt → Option (DV × DSt)
  | x, .non, st => some (.bl (isNon x), st)
  | .bl k, .bl l, st => some (.bl (decide (k = l)), st)
  | _, _, _ => none
def isntA : DV → DV → DSt → Option (DV × DSt)
  | x, .non, st => some (.bl (!isNon x), st)
  | .bl k, .bl l, st => some (.bl (!decide (k = l)), st)
  | _, _, _ => none
def rIsA : R2 := fun x y H Q => (y = .non ∧ Q (.bl (decide (x = .non))) H) ∨ rIsB x y H Q
def rNotA : R2 := fun x y H Q => (y = .non ∧ Q (.bl (!decide (x = .non))) H) ∨ rNotB x y H Q
theorem or_isA : OpR X (compareOp .Is) rIsA := op_isN.or op_isBl
theorem or_isntA : OpR X (compareOp .IsNot) rNotA := op_notN.or op_notBl
theorem pr_isA : Prim2 g rIsA isA := by
  intro φ st H x y dx dy Q s rx ry h
  unfold isA at h
  split at h
  · exact .inl (pr_is φ st H x y _ .non Q s rx ry h)
  · rename_i k l
    cases RVbl rx; cases RVbl ry
    exact .inr ⟨k, l, rfl, rfl, h φ H _ Ext.refl s mkRVbl⟩
  · exact h.elim

theorem pr_isntA : Prim2 g rNotA isntA := by
  intro φ st H x y dx dy Q s rx ry h
  unfold isntA at h
  split at h
  · exact .inl (pr_isnt φ st H x y _ .non Q s rx ry h)
  · rename_i k l
    cases RVbl rx; cases RVbl ry
    exact .inr ⟨k, l, rfl, rfl, h φ H _ Ext.refl s mkRVbl⟩
  · exact h.elim

/-! list(range(n)), tuple(range(n)) -/
def rgOk (lo hi : Int) : Bool := decide (-(2 ^ 62) ≤ lo) && decide (lo < 2 ^ 62) && decide (-(2 ^ 62) ≤ hi) && decide (hi < 2 ^ 62) && decide ((hi - lo).toNat ≤ 2 ^ 24)
theorem rgOk_of {lo hi : Int} (h : rgOk lo hi = true) : RgOk lo hi := by
  simp only [rgOk, Bool.and_eq_true, decide_eq_true_eq] at h
  exact ⟨h.1.1.1.1, h.1.1.1.2, h.1.1.2, h.1.2, h.2⟩
def rgLP (lo hi : Int) (st : DSt) : Option (DV × DSt) := if rgOk lo hi = true then some (.lst (rng2 lo hi), st) else none
def rgRP (lo hi : Int) (st : DSt) : Option (DV × DSt) := if rgOk lo hi = true then some (.ref st.length, st ++ [.lst (rng2 lo hi)]) else none
def rgTP (lo hi : Int) (st : DSt) : Option (DV × DSt) := if rgOk lo hi = true then some (.tup (rng2 lo hi), st) else none
def eRg1 (p : Int → Int → DSt → Option (DV × DSt)) (a : Ex) : Ex := fun env st => (a env st).bind fun d st1 => match d with
  | .int n => Res.of (p 0 n st1)
  | _ => .bad
def eRg2 (p : Int → Int → DSt → Option (DV × DSt)) (a b : Ex) : Ex := fun env st => (a env st).bind fun d st1 => (b env st1).bind fun d2 st2 => match d, d2 with
  | .int m, .int n => Res.of (p m n st2)
  | _, _ => .bad
theorem RVs.rng2 {φ : Lay} {H : Hp} (lo hi : Int) : RVs g φ H (DM.rng2 lo hi) (rgV lo hi) := by
  unfold DM.rng2 rgV
  generalize List.range (hi - lo).toNat = l
  induction l with
  | nil => exact RVs.nil
  | cons x l ih => exact RVs.cons (by simp [RV]) ih
abbrev tRgF (o : Addr → List V → Hp → HO) : Int → Int → Hp → VK → Prop := fun lo hi H Q => RgOk lo hi ∧ ∀ q, H q = none → Q (.ref q) (upd H q (o q (rgV lo hi) H))
def PrRg (g : Gam) (t : Int → Int → Hp → VK → Prop) (p : Int → Int → DSt → Option (DV × DSt)) : Prop := ∀ φ st H lo hi Q, RSt g φ H st → PostO g (RV g) φ H Q (p lo hi st) → t lo hi H Q
theorem pr_rgL : PrRg g (tRgF fun _ xs _ => .lst xs) rgLP := by
  intro φ st H lo hi Q s h
  unfold rgLP at h
  split at h
  · rename_i hk
    exact ⟨rgOk_of hk, new_lst s (RVs.rng2 lo hi) h⟩
  · exact h.elim
theorem pr_rgR : PrRg g (tRgF fun _ xs _ => .lst xs) rgRP := by
  intro φ st H lo hi Q s h
  unfold rgRP at h
  split at h
  · rename_i hk
    exact ⟨rgOk_of hk, new_ref (o := .lst (DM.rng2 lo hi)) s (fun _ => ⟨_, rfl, RVs.rng2 lo hi⟩) h⟩
  · exact h.elim
theorem pr_rgT : PrRg g (tRgF fun _ xs _ => .tup xs) rgTP := by
  intro φ st H lo hi Q s h
  unfold rgTP at h
  split at h
  · rename_i hk
    exact ⟨rgOk_of hk, new_tup s (RVs.rng2 lo hi) h⟩
  · exact h.elim
theorem TM.rg1 {t : Int → Int → Hp → VK → Prop} {p : Int → Int → DSt → Option (DV × DSt)} (hp : PrRg g t p) {σ : L2.St} {H : Hp} {Q : VK} (h : TM g (RV g) W (eRg1 p ma) σ H Q) : tRg1 (TM g (RV g) W ma) σ H fun a b H1 => t a b H1 Q := by
  obtain ⟨φ, env, st, s, n, h⟩ := h
  exact ⟨φ, env, st, s, n, Post.bind h fun d st1 φ1 H1 x x1 s1 r1 h1 => by
    cases d <;> try exact False.elim h1
    rename_i k
    exact ⟨k, (by simpa [RV] using r1), hp φ1 st1 H1 0 k Q s1 (Post.of h1)⟩⟩
theorem TM.rg2 {t : Int → Int → Hp → VK → Prop} {p : Int → Int → DSt → Option (DV × DSt)} (hp : PrRg g t p) {σ : L2.St} {H : Hp} {Q : VK} (h : TM g (RV g) W (eRg2 p ma mb) σ H Q) : tRg2 (TM g (RV g) W ma) (TM g (RV g) W mb) σ H fun a b H1 => t a b H1 Q := by
  obtain ⟨φ, env, st, s, n, h⟩ := h
  refine ⟨φ, env, st, s, n, Post.bind h fun d st1 φ1 H1 x x1 s1 r1 h1 => ⟨φ1, env, st1, s1, n.ext s.tame x1, Post.bind h1 fun d2 st2 φ2 H2 y x2 s2 r2 h2 => ?_⟩⟩
  cases d <;> try exact False.elim h2
  rename_i k
  cases d2 <;> try exact False.elim h2
  rename_i l
  exact ⟨k, l, (by simpa [RV] using r1), (by simpa [RV] using r2), hp φ2 st2 H2 k l Q s2 (Post.of h2)⟩
section
variable {p1 p2 q1 q2 : Pos}
theorem pe_eRgL1 {p : Int → Int → DSt → Option (DV × DSt)} (hp : PrRg g (tRgF fun _ xs _ => .lst xs) p) (hg : Gl X "list") (hm : X.mg "list" = none) (hg2 : Gl X "range") (hm2 : X.mg "range" = none) (ha : PE X a (TM g (RV g) W ma)) (hc : X.calm = true := by rfl) (na : starEach [a] X.env = (false, eval a X.env) :: starEach [] X.env := by rfl)
    (nb : starEach [.Call (.Name "range" p1) [a] [] p2] X.env = (false, eval (.Call (.Name "range" p1) [a] [] p2) X.env) :: starEach [] X.env := by rfl) : PE X (.Call (.Name "list" q1) [.Call (.Name "range" p1) [a] [] p2] [] q2) (TM g (RV g) W (eRg1 p ma)) :=
  (pe_listRg hc hg hm (prg_1 hg2 hm2 ha na) nb).imp fun _ _ _ h => TM.rg1 hp h
theorem pe_eRgL2 {p : Int → Int → DSt → Option (DV × DSt)} (hp : PrRg g (tRgF fun _ xs _ => .lst xs) p) (hg : Gl X "list") (hm : X.mg "list" = none) (hg2 : Gl X "range") (hm2 : X.mg "range" = none) (ha : PE X a (TM g (RV g) W ma)) (hb : PE X b (TM g (RV g) W mb)) (hc : X.calm = true := by rfl) (na : starEach [a, b] X.env = (false, eval a X.env) :: starEach [b] X.env := by rfl)
    (nb : starEach [b] X.env = (false, eval b X.env) :: starEach [] X.env := by rfl) (hpl : (backTo p2 (starEach [b] X.env)).any (·.1) = false := by rfl)
    (nc : starEach [.Call (.Name "range" p1) [a, b] [] p2] X.env = (false, eval (.Call (.Name "range" p1) [a, b] [] p2) X.env) :: starEach [] X.env := by rfl) : PE X (.Call (.Name "list" q1) [.Call (.Name "range" p1) [a, b] [] p2] [] q2) (TM g (RV g) W (eRg2 p ma mb)) :=
  (pe_listRg hc hg hm (prg_2 hg2 hm2 ha hb na nb hpl) nc).imp fun _ _ _ h => TM.rg2 hp h
theorem pe_eRgT1 (hg : Gl X "tuple") (hm : X.mg "tuple" = none) (hg2 : Gl X "range") (hm2 : X.mg "range" = none) (ha : PE X a (TM g (RV g) W ma)) (hc : X.calm = true := by rfl) (na : starEach [a] X.env = (false, eval a X.env) :: starEach [] X.env := by rfl)
    (nb : starEach [.Call (.Name "range" p1) [a] [] p2] X.env = (false, eval (.Call (.Name "range" p1) [a] [] p2) X.env) :: starEach [] X.env := by rfl) : PE X (.Call (.Name "tuple" q1) [.Call (.Name "range" p1) [a] [] p2] [] q2) (TM g (RV g) W (eRg1 rgTP ma)) :=
  (pe_tupRg hc hg hm (prg_1 hg2 hm2 ha na) nb).imp fun _ _ _ h => TM.rg1 pr_rgT h
end
/-! dicts by key -/
def valG {α : Type} (kvs : List (Key × α)) (k : Key) : Option α := (kvs.find? fun kv => decide (kv.1 = k)).map (·.2)
theorem RKs.val {φ : Lay} {H : Hp} {k : Key} : ∀ {ds : List (Key × DV)} {vs : List (Key × V)}, RKs g φ H ds vs → (valG ds k = none ∧ valV vs k = none) ∨ ∃ d v, valG ds k = some d ∧ valV vs k = some v ∧ RV g φ H d v
  | [], _, h => by simp only [RKs] at h; subst h; exact .inl ⟨rfl, rfl⟩
  | d :: ds, vs, h => by
    simp only [RKs] at h
    obtain ⟨y, r, e1, q, z⟩ := h
    subst e1
    by_cases e : d.1 = k
    · exact .inr ⟨d.2, y, by simp [valG, e], by simp [valV, e], q⟩
    · have := RKs.val (k := k) z
      simpa [valG, valV, List.find?_cons, e] using this
def dctAt (st : DSt) : DV → Option (Nat × List (Key × DV))
  | .ref n => (match st[n]? with
    | some (.dct kvs) => some (n, kvs)
    | _ => none)
  | _ => none
theorem dctAt_ok {φ : Lay} {H : Hp} {st : DSt} {d : DV} {x : V} {n : Nat} {kvs : List (Key × DV)} (s : RSt g φ H st) (r : RV g φ H d x) (e : dctAt st d = some (n, kvs)) : ∃ a ks, x = .ref a ∧ φ.rf[n]? = some a ∧ H a = some (.dK ks) ∧ RKs g φ H kvs ks := by
  cases d <;> simp only [dctAt, reduceCtorEq] at e
  rename_i m
  split at e
  · rename_i kvs' e1
    simp only [Option.some.injEq, Prod.mk.injEq] at e
    obtain ⟨rfl, rfl⟩ := e
    simp only [RV] at r
    obtain ⟨a, rfl, ha⟩ := r
    obtain ⟨o, ho, e2, e3, ro⟩ := s.ob m a ha
    rw [e1] at e2
    cases e2
    obtain ⟨ks, rfl, q⟩ := ro
    exact ⟨a, ks, rfl, ha, e3, q⟩
  · cases e
def dgetP (x y : DV) (st : DSt) : Option (DV × DSt) := (dctAt st x).bind fun nk => (keyOf y).bind fun k => (valG nk.2 k).map fun d => (d, st)
def dinP (y x : DV) (st : DSt) : Option (DV × DSt) := (dctAt st x).bind fun nk => (keyOf y).map fun k => (.bl (valG nk.2 k).isSome, st)
def dnotinP (y x : DV) (st : DSt) : Option (DV × DSt) := (dctAt st x).bind fun nk => (keyOf y).map fun k => (.bl (!(valG nk.2 k).isSome), st)
def dputP (x y v : DV) (st : DSt) : Option DSt := (dctAt st x).bind fun nk => (keyOf y).bind fun k => if nk.2.length < sizeLine then some (st.set nk.1 (.dct (putG nk.2 k v))) else none
theorem pe_eDg (hu : X.A.units + 1 < cLine) (ho : PE X o (TM g (RV g) W mo)) (hi : PE X i (TM g (RV g) W mi)) (hs : NoSl i := by intro _ _; rfl) : PE X (.Subscript o i pos) (TM g (RV g) W (DM.e2 dgetP mo mi)) :=
  (pe_dget hu ho hi hs).imp fun σ H Q ⟨φ, env, st, s, n, h⟩ => ⟨φ, env, st, s, n, Post.bind h fun x st1 φ1 H1 xv x1 s1 r1 h1 => ⟨φ1, env, st1, s1, n.ext s.tame x1, Post.bind h1 fun y st2 φ2 H2 yv x2 s2 r2 h2 => by
    have h2 := Post.of h2
    unfold dgetP at h2
    cases e : dctAt st2 x with
    | none => rw [e] at h2; exact h2.elim
    | some nk =>
      obtain ⟨m, kvs⟩ := nk
      rw [e, Option.bind_some] at h2
      obtain ⟨a, ks, rfl, ha, hH, rk⟩ := dctAt_ok s2 (RV.ext s1.tame x2 _ _ r1) e
      cases e2 : keyOf y with
      | none => rw [e2] at h2; exact h2.elim
      | some k =>
        rw [e2, Option.bind_some] at h2
        have ek := keyOf_ok r2 e2
        subst ek
        rcases rk.val (k := k) with ⟨z, _⟩ | ⟨d, v, z1, z2, rv⟩
        · simp only [z] at h2; exact h2.elim
        · simp only [z1] at h2
          refine ⟨a, v, rfl, ?_, h2 φ2 H2 v Ext.refl s2 rv⟩
          have := DGet.k (k := k) hH
          rw [z2] at this
          exact this⟩⟩
/-- d[y] = v -/
theorem ps_sDPut {tpos : Pos} (hu : X.A.units + 1 < cLine) (hv : PE X a (TM g (RV g) W ma)) (ho : PE X o (TM g (RV g) W mo)) (hi : PE X i (TM g (RV g) W mi)) (hs : swapsWith a (some (.Subscript o i tpos)) pos.line X.env = pure false := by rfl) :
    PS X (.Assign [.Subscript o i tpos] a pos) (TMS g W (sSetIx ma mo mi dputP)) :=
  (ps_dput hu ho hi hv hs).imp fun D σ H ⟨φ, env, st, s, n, h⟩ => ⟨φ, env, st, s, n, Post.then_ s n h fun x st1 φ1 H1 xv x1 s1 n1 r1 h1 =>
    ⟨φ1, env, st1, s1, n1, Post.then_ s1 n1 h1 fun y st2 φ2 H2 yv x2 s2 n2 r2 h2 => ⟨φ2, env, st2, s2, n2, Post.then_ s2 n2 h2 fun z st3 φ3 H3 zv x3 s3 n3 r3 h3 => by
      have r1' := RV.ext s1.tame (x2.trans x3) _ _ r1
      have r2' := RV.ext s2.tame x3 _ _ r2
      cases e : dputP y z x st3 with
      | none => rw [e] at h3; exact h3.elim
      | some st4 =>
        rw [e] at h3
        unfold dputP at e
        cases e1 : dctAt st3 y with
        | none => rw [e1] at e; cases e
        | some nk =>
          obtain ⟨m, kvs⟩ := nk
          rw [e1, Option.bind_some] at e
          cases e2 : keyOf z with
          | none => rw [e2] at e; cases e
          | some k =>
            rw [e2, Option.bind_some] at e
            split at e
            · rename_i hl
              cases e
              obtain ⟨b, ks, rfl, hb, hH, rk⟩ := dctAt_ok s3 r2' e1
              have ek := keyOf_ok r3 e2
              subst ek
              have hlen : ks.length < sizeLine := by rw [← rk.length]; exact hl
              exact ⟨b, _, rfl, .inl ⟨ks, k, hH, rfl, hlen, rfl⟩, h3 φ3 _ σ (Ext.write s3 hb) (s3.write hb ⟨_, rfl, rk.put r1'⟩) (n3.ext s3.tame (Ext.write s3 hb))⟩
            · cases e⟩⟩⟩
/-! f-texts -/
def eFmt (a : Ex) : Ex := fun env st => (a env st).bind fun d st1 => match d with
  | .str y => if y.length ≤ sizeLine then .ok (.str y) st1 else .bad
  | .int i => if i.natAbs.log2 < 1920 then .ok (.str (toString i)) st1 else .bad
  | _ => .bad
theorem pe_eFmt (h : PE X e (TM g (RV g) W ma)) : PE X (.FormattedValue e (-1) none pos) (TM g (RV g) W (eFmt ma)) :=
  (pe_fmt h).imp fun σ H Q ⟨φ, env, st, s, n, h⟩ => ⟨φ, env, st, s, n, Post.bind h fun x st1 φ1 H1 xv x1 s1 r1 h1 => by
    cases x <;> try exact False.elim h1
    · rename_i i
      simp only at h1
      split at h1
      · rename_i hl
        exact .inr ⟨i, (by simpa [RV] using r1), hl, h1 φ1 H1 _ Ext.refl s1 (by simp [RV])⟩
      · exact h1.elim
    · rename_i y
      simp only at h1
      split at h1
      · rename_i hl
        exact .inl ⟨y, (by simpa [RV] using r1), hl, h1 φ1 H1 _ Ext.refl s1 (by simp [RV])⟩
      · exact h1.elim⟩
abbrev Exj := Str → DEnv → DSt → Res Str
def jNil : Exj := fun acc _ st => .ok acc st
def jCons (a : Ex) (r : Exj) : Exj := fun acc env st => (a env st).bind fun d st1 => match d with
  | .str y => if (acc ++ y).length ≤ sizeLine then r (acc ++ y) env st1 else .bad
  | _ => .bad
def eJoin (r : Exj) : Ex := fun env st => (r Str.empty env st).bind fun z st1 => .ok (.str z) st1
def PJm (g : Gam) (W : WX) (ts : List TE) (m : Exj) : Prop := ∀ acc σ H (Q : Str → Hp → Prop), TM g EqR W (m acc) σ H Q → tJs ts acc σ H Q
theorem pjm_nil : PJm g W [] jNil := fun acc σ H Q ⟨φ, env, st, s, n, h⟩ => h φ H acc Ext.refl s rfl
theorem pjm_cons {ts : List TE} {m : Exj} (h : PJm g W ts m) : PJm g W (TM g (RV g) W ma :: ts) (jCons ma m) := fun acc σ H Q ⟨φ, env, st, s, n, q⟩ =>
  ⟨φ, env, st, s, n, Post.bind q fun x st1 φ1 H1 xv x1 s1 r1 h1 => by
    cases x <;> try exact False.elim h1
    rename_i y
    simp only at h1
    split at h1
    · rename_i hl
      exact ⟨y, (by simpa [RV] using r1), hl, h (acc ++ y) σ H1 Q ⟨φ1, env, st1, s1, n.ext s.tame x1, h1⟩⟩
    · exact h1.elim⟩
theorem pe_eJoin {v1 v2 : Expr} {rest : List Expr} {ts : List TE} {m : Exj} (h : PJ X (v1 :: v2 :: rest) ts) (hm : PJm g W ts m) : PE X (.JoinedStr (v1 :: v2 :: rest) pos) (TM g (RV g) W (eJoin m)) :=
  (pe_joined h).imp fun σ H Q ⟨φ, env, st, s, n, q⟩ => hm Str.empty σ H _ ⟨φ, env, st, s, n, Post.bind q fun z st1 φ1 H1 zv x1 s1 r1 h1 => by
    cases r1
    exact h1 φ1 H1 _ Ext.refl s1 (by simp [RV])⟩
end
theorem iteTr {A B : Prop} [i : Decidable True] (h : A) : if True then A else B := by rw [if_pos trivial]; exact h
/-! wp words -/
section
variable {env : DEnv} {st : DSt} {a b : Ex} {Q : DV → DSt → Prop} {QS : FL → DEnv → DSt → Prop}
theorem w_forNil {gm : Tgm} {body : Sm} (h : QS .nx env st) : wS (forM gm body [] env st) QS := ⟨h⟩
theorem w_forCons {gm : Tgm} {body : Sm} {d : DV} {ds : List DV} (h : ∃ e2, gm d env = some e2 ∧ wS (body e2 st) (qI (fun e s => wS (forM gm body ds e s) QS) QS)) : wS (forM gm body (d :: ds) env st) QS := by
  obtain ⟨e2, e1, q⟩ := h
  show wS ((tgThen gm body d env st).turn (forM gm body ds)) QS
  unfold tgThen
  rw [e1]
  show wS ((body e2 st).turn (forM gm body ds)) QS
  cases hb : body e2 st with
  | bad => rw [hb] at q; exact q.out.elim
  | exc _ _ _ => rw [hb] at q; exact q.out.elim
  | ok f e' s' =>
    rw [hb] at q
    cases f with
    | nx => exact q.out
    | ct => exact q.out
    | bk => exact ⟨q.out⟩
    | rt v => exact ⟨q.out⟩
theorem w_eRg1 {p : Int → Int → DSt → Option (DV × DSt)} (h : wR (a env st) fun d s1 => ∃ n, d = .int n ∧ wO (p 0 n s1) Q) : wR (eRg1 p a env st) Q := wR_bind (wR_mono h fun _ _ ⟨n, e, q⟩ => by subst e; exact wR_of q)
theorem w_eRg2 {p : Int → Int → DSt → Option (DV × DSt)} (h : wR (a env st) fun d s1 => wR (b env s1) fun d2 s2 => ∃ m n, (d = .int m ∧ d2 = .int n) ∧ wO (p m n s2) Q) : wR (eRg2 p a b env st) Q := wR_bind (wR_mono h fun _ _ q => wR_bind (wR_mono q fun _ _ ⟨m, n, ⟨e1, e2⟩, z⟩ => by subst e1; subst e2; exact wR_of z))
theorem w_rgL {lo hi : Int} (h : -1000000 ≤ lo ∧ lo ≤ 1000000 ∧ -1000000 ≤ hi ∧ hi ≤ 1000000) (q : Q (.lst (DM.rng2 lo hi)) st) : wO (rgLP lo hi st) Q := w_some (by
  have : rgOk lo hi = true := by
    simp only [rgOk, Bool.and_eq_true, decide_eq_true_eq]
    refine ⟨⟨⟨⟨?_, ?_⟩, ?_⟩, ?_⟩, ?_⟩ <;> omega
  simp [rgLP, this]) q
theorem w_rgR {lo hi : Int} (h : -1000000 ≤ lo ∧ lo ≤ 1000000 ∧ -1000000 ≤ hi ∧ hi ≤ 1000000) (q : Q (.ref st.length) (st ++ [.lst (DM.rng2 lo hi)])) : wO (rgRP lo hi st) Q := w_some (by
  have : rgOk lo hi = true := by
    simp only [rgOk, Bool.and_eq_true, decide_eq_true_eq]
    refine ⟨⟨⟨⟨?_, ?_⟩, ?_⟩, ?_⟩, ?_⟩ <;> omega
  simp [rgRP, this]) q
theorem w_rgT {lo hi : Int} (h : -1000000 ≤ lo ∧ lo ≤ 1000000 ∧ -1000000 ≤ hi ∧ hi ≤ 1000000) (q : Q (.tup (DM.rng2 lo hi)) st) : wO (rgTP lo hi st) Q := w_some (by
  have : rgOk lo hi = true := by
    simp only [rgOk, Bool.and_eq_true, decide_eq_true_eq]
    refine ⟨⟨⟨⟨?_, ?_⟩, ?_⟩, ?_⟩, ?_⟩ <;> omega
  simp [rgTP, this]) q
theorem w_eFmt (h : wR (a env st) fun d s1 => (∃ y : Str, d = .str y ∧ y.length ≤ sizeLine ∧ Q (.str y) s1) ∨ ∃ i : Int, d = .int i ∧ i.natAbs.log2 < 1920 ∧ Q (.str (toString i)) s1) : wR (eFmt a env st) Q := wR_bind (wR_mono h fun _ _ q => by
  rcases q with ⟨y, rfl, h1, h2⟩ | ⟨i, rfl, h1, h2⟩
  · show wR (if _ then _ else _) Q
    rw [if_pos h1]; exact ⟨h2⟩
  · show wR (if _ then _ else _) Q
    rw [if_pos h1]; exact ⟨h2⟩)
theorem w_jNil {acc : Str} {QJ : Str → DSt → Prop} (h : QJ acc st) : wR (jNil acc env st) QJ := ⟨h⟩
theorem w_jCons {acc : Str} {r : Exj} {QJ : Str → DSt → Prop} (h : wR (a env st) fun d s1 => ∃ y, d = .str y ∧ (acc ++ y).length ≤ sizeLine ∧ wR (r (acc ++ y) env s1) QJ) : wR (jCons a r acc env st) QJ := wR_bind (wR_mono h fun _ _ ⟨y, e, l, q⟩ => by
  subst e
  show wR (if _ then _ else _) QJ
  rw [if_pos l]; exact q)
theorem w_eJoin {r : Exj} (h : wR (r Str.empty env st) fun z s1 => Q (.str z) s1) : wR (eJoin r env st) Q := wR_bind (wR_mono h fun _ _ q => ⟨q⟩)
end
/-- the text that repr gives, not looked into -/
@[irreducible] def shw (p : PyData) : Str := p.shown
section
variable {st : DSt} {Q : DV → DSt → Prop}
theorem w_rep {d : DV} {p : PyData} (hp : pyR st d = some p) (hs : okShow p = true) (q : Q (.str (shw p)) st) : wO (reprP [d] st) Q := w_repr hp hs (by unfold shw at q; exact q)
theorem w_repL {as : List DV} {ps : List PyData} (ha : pyVs as = some ps) (hs : okShow (.list ps) = true) (q : Q (.str (shw (.list ps))) st) : wO (reprP [.lst as] st) Q :=
  w_rep (p := .list ps) (by show (pyVs as).map PyData.list = _; rw [ha]; rfl) hs q
theorem w_repT {as : List DV} {ps : List PyData} (ha : pyVs as = some ps) (hs : okShow (.tuple ps) = true) (q : Q (.str (shw (.tuple ps))) st) : wO (reprP [.tup as] st) Q :=
  w_rep (p := .tuple ps) (by show (pyVs as).map PyData.tuple = _; rw [ha]; rfl) hs q
theorem w_eqSame {z : Str} (q : Q (.bl true) st) : wO (eqP (.str z) (.str z) st) Q := by
  refine w_some (d := .bl (decide (z = z))) (s := st) rfl ?_
  rw [decide_eq_true rfl]; exact q
theorem w_neSame {z : Str} (q : Q (.bl false) st) : wO (neP (.str z) (.str z) st) Q := by
  refine w_some (d := .bl (!decide (z = z))) (s := st) rfl ?_
  rw [decide_eq_true rfl]; exact q
end
end DM

/-! DM15: text * 0 or 1, lists joined to a list that will change, a list taken apart, while. -/
namespace DM
open PySem PySem.Spec PyProof.Rows L2
section
variable {X : Cx} {g : Gam} {W : WX} {a b e o i : Expr} {ma mb mo mi mv : Ex} {pos : Pos}
def mulSP : DV → DV → DSt → Option (DV × DSt)
  | .str x, .int n, st => if -(2 ^ 62) ≤ n ∧ n ≤ 1 then some (.str (if n < 1 then Str.empty else x), st) else none
  | _, _, _ => none
def rMulS : R2 := fun x y H Q => ∃ z n, x = .str z ∧ y = .int n ∧ MulOk z n ∧ Q (.str (Txt.mul z n)) H
theorem op_mulS : OpR X (binaryOp .Mult) rMulS := by
  intro pins s σ H x y v u Q I rx ry h
  obtain ⟨z, n, rfl, rfl, ok, q⟩ := h
  obtain ⟨t, rfl⟩ := rx
  obtain ⟨t', rfl⟩ := ry
  exact SB.mul ok fun t'' k => ⟨.str (Txt.mul z n), H, I.tok k, ⟨t'', rfl⟩, q⟩
theorem pr_mulS : Prim2 g rMulS mulSP := by
  intro φ st H x y dx dy Q s rx ry h
  unfold mulSP at h
  split at h
  · rename_i z n
    cases rvStr rx
    cases rvInt ry
    split at h
    · rename_i hn
      have e : Txt.mul z n = if n < 1 then Str.empty else z := by
        unfold Txt.mul
        by_cases h1 : n < 1
        · rw [if_pos h1, if_pos h1]
        · rw [if_neg h1, if_neg h1, if_pos (by simp; omega)]
      refine ⟨z, n, rfl, rfl, ⟨?_, fun h1 h2 => ?_, fun h1 h2 => ?_⟩, ?_⟩
      · simp; omega
      · have : n = 1 := by omega
        subst this
        simp at h2
      · have : n = 1 := by omega
        subst this
        simp at h2
      · rw [e]
        exact h φ H _ Ext.refl s (by simp [RV])
    · exact h.elim
  · exact h.elim
def divWP : DV → DV → DSt → Option (DV × DSt)
  | .int i, .int j, st => if 0 < j ∧ j < 2 ^ 64 then some (.int (i / j), st) else none
  | _, _, _ => none
theorem pr_divW : Prim2 g (rI CDivW fun i j => .int (i / j)) divWP := by
  intro φ st H x y dx dy Q s rx ry h
  unfold divWP at h
  split at h
  · rename_i z n
    cases rvInt rx
    cases rvInt ry
    split at h
    · rename_i hn
      refine ⟨z, n, rfl, rfl, ⟨hn.1, ?_⟩, h φ H _ Ext.refl s (by simp [RV])⟩
      have h0 : n.natAbs ≠ 0 := by omega
      exact Nat.lt_of_lt_of_le ((Nat.log2_lt h0).mpr (by omega : n.natAbs < 2 ^ 64)) (by decide)
    · exact h.elim
  · exact h.elim
/-- a + b of lists, to be changed later -/
def addRP (x y : DV) (st : DSt) : Option (DV × DSt) := (lstOf st x).bind fun a => (lstOf st y).bind fun b => if a.length + b.length ≤ sizeLine then some (.ref st.length, st ++ [.lst (a ++ b)]) else none
theorem pr_addR : Prim2 g rCat addRP := by
  intro φ st H x y dx dy Q s rx ry h
  unfold addRP at h
  cases e1 : lstOf st dx with
  | none => rw [e1] at h; exact h.elim
  | some as =>
  rw [e1, Option.bind_some] at h
  cases e2 : lstOf st dy with
  | none => rw [e2] at h; exact h.elim
  | some bs =>
  rw [e2, Option.bind_some] at h
  split at h
  · rename_i hl
    obtain ⟨p, xs, rfl, h1, r1⟩ := lstOf_ok s rx e1
    obtain ⟨q, ys, rfl, h2, r2⟩ := lstOf_ok s ry e2
    exact ⟨p, q, xs, ys, rfl, rfl, h1, h2, by rw [← r1.length, ← r2.length]; exact hl, new_ref (o := .lst (as ++ bs)) s (fun _ => ⟨_, rfl, r1.append r2⟩) h⟩
  · exact h.elim
/-- a list taken apart -/
def gTL (n : Nat) (t : Tgms) : Tgm := fun d env => match d with
  | .lst ds => if ds.length = n then t ds env else none
  | _ => none
theorem tg_gTL {own : List Nat} {m : Nat} {u : TGs} {gms : Tgms} (h : TgsOk g own u gms) : TgOk g own (gLst g.K m u) (gTL m gms) := by
  rintro φ H st env σ d v Q s n r ⟨env', e, k⟩
  unfold gTL at e
  split at e
  · rename_i ds
    split at e
    · rename_i hl
      simp only [RV] at r
      obtain ⟨a, xs, rfl, _, h1, r⟩ := r
      exact ⟨a, xs, rfl, SqL.of h1, by rw [← r.length]; exact hl, h φ H st env σ ds xs Q s n r ⟨env', e, k⟩⟩
    · cases e
  · cases e
end
/-! wp words -/
section
variable {env : DEnv} {st : DSt} {a b : Ex} {ba : Exb} {Q : DV → DSt → Prop} {QS : FL → DEnv → DSt → Prop} {y : Sm}
theorem w_mulS {x : Str} {n : Int} (h : -(2 ^ 62) ≤ n ∧ n ≤ 1) (q : Q (.str (if n < 1 then Str.empty else x)) st) : wO (mulSP (.str x) (.int n) st) Q := w_some (by simp only [mulSP, if_pos h]) q
theorem w_divW {i j : Int} (h : 0 < j ∧ j < 2 ^ 64) (q : Q (.int (i / j)) st) : wO (divWP (.int i) (.int j) st) Q := w_some (by simp only [divWP, if_pos h]) q
theorem w_addR {x y : DV} {as bs : List DV} (hx : lstOf st x = some as) (hy : lstOf st y = some bs) (h : as.length + bs.length ≤ sizeLine) (q : Q (.ref st.length) (st ++ [.lst (as ++ bs)])) : wO (addRP x y st) Q := w_some (by simp [addRP, hx, hy, h]) q
theorem while_inv {c : Exb} {body : Sm} (I : Nat → DEnv → DSt → Prop)
    (hs : ∀ k e s, I k e s → wR (c e s) fun b s1 => if b = true then wS (body e s1) (qI (fun e' s' => ∃ k', k' < k ∧ I k' e' s') QS) else QS .nx e s1) :
    ∀ (fuel k : Nat) (e : DEnv) (s : DSt), I k e s → k < fuel → wS (whileM c body fuel e s) QS
  | 0, _, _, _, _, hk => by omega
  | fuel + 1, k, e, s, h, hk => by
    have q := hs k e s h
    show wS ((c e s).then_ e fun b st1 => if b = true then (body e st1).turn (whileM c body fuel) else .ok .nx e st1) QS
    refine wS_then (wR_mono q fun b s1 z => ?_)
    cases b with
    | false => exact ⟨z⟩
    | true =>
      have z' : wS (body e s1) (qI (fun e' s' => ∃ k', k' < k ∧ I k' e' s') QS) := z
      show wS ((body e s1).turn (whileM c body fuel)) QS
      cases hb : body e s1 with
      | bad => rw [hb] at z'; exact z'.out.elim
      | exc _ _ _ => rw [hb] at z'; exact z'.out.elim
      | ok f e' s' =>
        rw [hb] at z'
        cases f with
        | nx =>
          obtain ⟨k', hk', z2⟩ : ∃ k', k' < k ∧ I k' e' s' := z'.out
          exact while_inv I hs fuel k' e' s' z2 (by omega)
        | ct =>
          obtain ⟨k', hk', z2⟩ : ∃ k', k' < k ∧ I k' e' s' := z'.out
          exact while_inv I hs fuel k' e' s' z2 (by omega)
        | bk => exact ⟨z'.out⟩
        | rt v => exact ⟨z'.out⟩
theorem w_sWhile {c : Exb} {body : Sm} (h : wS (whileM c body turns env st) QS) : wS (sWhile c body env st) QS := h
theorem w_seqWhile {c : Exb} {body : Sm} (h : wS (whileM c body turns env st) (qN (fun e s => wS (y e s) QS) QS)) : wS (sSeq (sWhile c body) y env st) QS := w_seq h
theorem w_dget {n : Nat} {kvs : List (Key × DV)} {x : Str} {d : DV} (h : st[n]? = some (.dct kvs)) (h2 : valG kvs (.inr x) = some d) (q : Q d st) : wO (dgetP (.ref n) (.str x) st) Q := w_some (by simp [dgetP, dctAt, h, keyOf, h2]) q
end
theorem repr_stop {a : List DV} {s : DSt} {b : Option (DV × DSt)} (h : reprP a s = b) : reprP a s = b := h
end DM

/-! DM16: a tuple taken apart with a starred target. -/
namespace DM
open PySem PySem.Spec PyProof.Rows L2
section
variable {prog : Program} {w : World} {A : Around} {E : Value → Shared → Prop} {s : Shared}
/-- a walk begun later -/
theorem Walks.from {I : Addr} {fp wr : List Addr} {n : Nat} {P : Nat → Value → Prop} {St : Nat → Heap → Prop} (W : Walks prog w A I fp wr n P St) (i : Nat) (hi : i ≤ n) :
    Walks prog w A I fp wr (n - i) (fun j v => P (i + j) v) (fun j h => St (i + j) h) where
  sub := W.sub
  frame := fun j h h' st hk => W.frame (i + j) h h' st hk
  item := fun j s Q E hj st hQ => W.item (i + j) s Q E (by omega) st hQ
  done := fun s Q E st hQ => W.done s Q E (by have e : i + (n - i) = n := by omega
                                              rw [e] at st; exact st) hQ
  self := fun j s Q E st hQ => W.self (i + j) s Q E st hQ
theorem items_drop {items : Array Value} {acc : Array Value} {i : Nat} (hi : i ≤ items.size) (h : ItemsOf (fun j v => items[i + j]? = some v) acc (items.size - i)) : acc.toList = items.toList.drop i := by
  refine List.ext_getElem? fun j => ?_
  rw [List.getElem?_drop, Array.getElem?_toList, Array.getElem?_toList]
  by_cases hj : j < acc.size
  · have e : acc[j]? = some acc[j] := by simp [hj]
    rw [e]
    exact (h.2 j _ e).symm
  · have h1 : acc[j]? = none := by simp; omega
    have h2 : items[i + j]? = none := by have := h.1; simp; omega
    rw [h1, h2]
theorem unpackStar {t : Addr} {items : Array Value} {n i : Nat} {Q : List Value → Shared → Prop} (hh : A.handled = none) (ht : IsTup s.heap t items) (hin : i < n) (hn : n ≤ items.size + 1) (hsz : items.size ≤ sizeLine)
    (hQ : ∀ (h' : Heap) (tk : Nat), (∀ b o, s.heap.get? b = some o → h'.get? b = some o) →
      Q (items.toList.take i ++ [.ref h'.objs.size] ++ (items.toList.drop i).drop (items.size - i - (n - 1 - i))) { s with heap := h'.push { cls := .type "list", data := .seq ((items.toList.drop i).take (items.size - i - (n - 1 - i))).toArray }, toks := tk }) :
    wpAny (model prog w) A (unpackItems (.ref t) n (some i)) Q E s := by
  have hlt : t ≠ s.heap.objs.size := by obtain ⟨o, ho, _⟩ := ht; exact Nat.ne_of_lt (Heap.lt_size ho)
  unfold unpackItems
  refine wpAny_bind ?_
  unfold notIterableAtAll
  refine wpAny_bind (wpAny_specialOf ht.typeIs slot_tuple_iter.lookup ?_)
  refine wpAny_pure ?_
  simp only [Bool.false_eq_true, if_false]
  refine wpAny_bind (wpAny_holding (iter_tuple ht ?_))
  refine wpAny_bind (wpAny_holding (draw_tuple hlt i 0 _ _ ⟨_, Heap.get?_push_size _ rfl, rfl, rfl⟩ (ht.push _) (by omega) fun h₁ hit₁ hs₁ => ?_))
  rw [List.drop_zero, Nat.zero_add] at *
  have hl : (List.take i items.toList).length = i := by rw [List.length_take, Array.length_toList]; omega
  rw [if_neg (by rw [hl]; omega)]
  have ht₁ : IsTup h₁ t items := (ht.push _).extBut hs₁.extBut hlt
  have W := Walks.from (Walks.tuple (prog := prog) (w := w) (A := A.in1) hh s.heap.objs.size t hlt items) i (by omega)
  have k1 : ∀ b o, s.heap.get? b = some o → h₁.get? b = some o := fun b o e => hs₁.extBut b o (Nat.ne_of_lt (Heap.lt_size e)) (Heap.get?_push_of_some _ e)
  refine wpAny_bind (wpAny_holding (wpAny_collect_iter (T := "tuple_iterator") (.inr (.inr (.inr rfl))) W.toS (fun _ _ st => ?_) ⟨hit₁, ht₁⟩ ?_ (by simp) (fun s' acc hm ha => ?_) (by omega)))
  · obtain ⟨⟨o, ho, hc, _⟩, _⟩ := st
    exact ⟨o, ho, hc⟩
  · intro b hb
    simp only [List.mem_cons, List.not_mem_nil, or_false] at hb
    rcases hb with rfl | rfl
    · obtain ⟨o, ho, _⟩ := hit₁; exact Heap.lt_size ho
    · obtain ⟨o, ho, _⟩ := ht₁; exact Heap.lt_size ho
  · have e := items_drop (by omega) ha
    rw [e]
    have hl2 : (items.toList.drop i).length = items.size - i := by rw [List.length_drop, Array.length_toList]
    rw [if_neg (by rw [hl2]; omega)]
    refine wpAny_bind (wpAny_newObj_type ?_ (by show (List.toArray _).size ≤ sizeLine; rw [List.size_toArray, List.length_take, hl2]; omega))
    refine wpAny_pure ?_
    rw [hl2, Moved.eq_with hm]
    refine hQ s'.heap s'.toks fun b o eb => hm.heap b o (fun h => ?_) (k1 b o eb)
    have := Heap.lt_size eb
    rw [List.mem_singleton.mp h] at this
    exact Nat.lt_irrefl _ this
end
section
variable {X : Cx} {g : Gam} {pos : Pos}
theorem pgs_star {e : Expr} {p : Pos} {es : List Expr} {t : TG} {u : TGs} (h1 : PG X e t) (h2 : PGs X es u)
    (hs : (assignEach (.Starred e p :: es) X.env).map (·.2) = assign e X.env :: (assignEach es X.env).map (·.2) := by rfl) : PGs X (.Starred e p :: es) (gCons t u) := by
  refine ⟨fun pins s σ H vs us Q I r h => ?_⟩
  obtain ⟨v, vr, e1, h⟩ := h
  subst e1
  cases r with
  | cons r rr =>
    rw [hs]
    refine assignInOrder_cons (thn (h1.run pins s σ H _ _ _ I r h) fun _ s1 ⟨σ1, H1, I1, q1⟩ => ?_)
    exact h2.run pins s1 σ1 H1 _ _ Q I1 rr q1
theorem Vals.take' {xs : List V} {us : List Value} (r : Vals xs us) : ∀ n, Vals (xs.take n) (us.take n) := by
  induction r with
  | nil => intro n; simp; exact .nil
  | cons a b ih =>
    intro n
    cases n with
    | zero => exact .nil
    | succ n => exact .cons a (ih n)
theorem Vals.drop' {xs : List V} {us : List Value} (r : Vals xs us) : ∀ n, Vals (xs.drop n) (us.drop n) := by
  induction r with
  | nil => intro n; simp; exact .nil
  | cons a b ih =>
    intro n
    cases n with
    | zero => exact .cons a b
    | succ n => exact ih n
theorem Vals.app' {xs ys : List V} {us ws : List Value} (r : Vals xs us) (q : Vals ys ws) : Vals (xs ++ ys) (us ++ ws) := by
  induction r with
  | nil => exact q
  | cons a b ih => exact .cons a ih
/-- a, *b, c = a tuple -/
def gStar (K : PySem.W.Frag) (n i : Nat) (t : TGs) : TG := fun v σ H Q => ∃ a xs, v = .ref a ∧ SqT K H a xs ∧ n ≤ xs.length + 1 ∧ ∀ p, H p = none →
  t (xs.take i ++ [.ref p] ++ (xs.drop i).drop (xs.length - i - (n - 1 - i))) σ (upd H p (.lst ((xs.drop i).take (xs.length - i - (n - 1 - i))))) Q
theorem pg_star {es : List Expr} {k : Nat} {t : TGs} {n i : Nat} (hc : X.calm = true) (h : PGs X es t) (hi : i < n := by decide)
    (hn : (assignEach es X.env).length = n := by rfl) (hst : (assignEach es X.env).findIdx? (·.1) = some i := by rfl) : PG X (.Tuple es k pos) (gStar X.K n i t) := by
  refine ⟨fun pins s σ H v u Q I r hw => ?_⟩
  obtain ⟨a, xs, e1, hq, hl, hw⟩ := hw
  subst e1
  cases r
  obtain ⟨its, rv, ht, hz⟩ := I.tuple hq
  have el := rv.length
  rw [PyProof.Rows.assign_Tuple]
  refine wpAny_bind (wpAny_standAt ?_)
  unfold unpack
  rw [hn, hst]
  have hsz : its.toArray.size = its.length := List.size_toArray
  refine wpAny_bind (wpAny_holding (unpackStar (I.ok.hd hc) ht hi (by omega) (by omega) fun h' tk hk => ?_))
  have I0 : Inv X pins σ H { s with heap := h', toks := tk } := I.kept (t' := tk) hk
  have em : (xs.drop i).take (xs.length - i - (n - 1 - i)) = (xs.drop i).take (its.toArray.size - i - (n - 1 - i)) := by rw [hsz, el]
  have I1 := I0.laid (h' := h'.push { cls := .type "list", data := .seq ((its.drop i).take (its.toArray.size - i - (n - 1 - i))).toArray }) (a := h'.objs.size) (o := .lst ((xs.drop i).take (its.toArray.size - i - (n - 1 - i)))) (t' := tk) (fun b o e => Heap.get?_push_of_some _ e) (Nat.le_refl _)
    (show ObjOk X.prog X.w _ _ _ (.lst _) from ⟨by rw [List.length_take, List.length_drop]; omega, _, 0, Vals.take' (Vals.drop' rv i) _, Heap.get?_push_size _ rfl⟩)
  have fresh : H h'.objs.size = none := I0.hok.fresh (Nat.le_refl _)
  have hw' := hw h'.objs.size fresh
  rw [em] at hw'
  refine h.run pins _ σ _ _ _ Q I1 ?_ hw'
  have e2 : xs.length - i - (n - 1 - i) = its.toArray.size - i - (n - 1 - i) := by rw [hsz, el]
  rw [e2]
  exact Vals.app' (Vals.app' (Vals.take' rv i) (.cons rfl .nil)) (Vals.drop' (Vals.drop' rv i) _)
def gSt (n i : Nat) (t : Tgms) : Tgm := fun d env => match d with
  | .tup ds => if n ≤ ds.length + 1 then t (ds.take i ++ [.lst ((ds.drop i).take (ds.length - i - (n - 1 - i)))] ++ (ds.drop i).drop (ds.length - i - (n - 1 - i))) env else none
  | _ => none
theorem RVs.take' {φ : Lay} {H : Hp} : ∀ {ds : List DV} {xs : List V} (n : Nat), RVs g φ H ds xs → RVs g φ H (ds.take n) (xs.take n)
  | [], xs, n, h => by simp only [RVs] at h; subst h; simp; exact RVs.nil
  | d :: ds, xs, 0, h => RVs.nil
  | d :: ds, xs, n + 1, h => by
    simp only [RVs] at h
    obtain ⟨x, r, rfl, h1, h2⟩ := h
    exact RVs.cons h1 (RVs.take' n h2)
theorem RVs.drop' {φ : Lay} {H : Hp} : ∀ {ds : List DV} {xs : List V} (n : Nat), RVs g φ H ds xs → RVs g φ H (ds.drop n) (xs.drop n)
  | [], xs, n, h => by simp only [RVs] at h; subst h; simp; exact RVs.nil
  | d :: ds, xs, 0, h => h
  | d :: ds, xs, n + 1, h => by
    simp only [RVs] at h
    obtain ⟨x, r, rfl, h1, h2⟩ := h
    exact RVs.drop' n h2
theorem tg_gSt {own : List Nat} {n i : Nat} {u : TGs} {gms : Tgms} (h : TgsOk g own u gms) : TgOk g own (gStar g.K n i u) (gSt n i gms) := by
  rintro φ H st env σ d v Q s nn r ⟨env', e, k⟩
  unfold gSt at e
  split at e
  · rename_i ds
    split at e
    · rename_i hl
      simp only [RV] at r
      obtain ⟨a, xs, rfl, q, r⟩ := r
      have el := r.length
      refine ⟨a, xs, rfl, q, by omega, fun p hp => ?_⟩
      have x := Ext.new s hp (o := HO.lst ((xs.drop i).take (xs.length - i - (n - 1 - i))))
      have s' := s.new hp (o := HO.lst ((xs.drop i).take (xs.length - i - (n - 1 - i))))
      have r' := RVs.ext s.tame x _ _ r
      have rl : RV g φ (upd H p (.lst ((xs.drop i).take (xs.length - i - (n - 1 - i))))) (.lst ((ds.drop i).take (ds.length - i - (n - 1 - i)))) (.ref p) := by
        simp only [RV]
        exact ⟨p, _, rfl, ⟨s.notin hp, s.notres hp⟩, upd_same, by rw [el]; exact RVs.take' _ (RVs.drop' _ r')⟩
      have rr : RVs g φ (upd H p (.lst ((xs.drop i).take (xs.length - i - (n - 1 - i))))) (ds.take i ++ [.lst ((ds.drop i).take (ds.length - i - (n - 1 - i)))] ++ (ds.drop i).drop (ds.length - i - (n - 1 - i))) (xs.take i ++ [.ref p] ++ (xs.drop i).drop (xs.length - i - (n - 1 - i))) :=
        RVs.append (RVs.append (RVs.take' i r') (RVs.one rl)) (by rw [el]; exact RVs.drop' _ (RVs.drop' _ r'))
      exact h φ _ st env σ _ _ Q s' (nn.ext s.tame x) rr ⟨env', e, fun φ2 H2 σ2 x2 s2 n2 w2 => k φ2 H2 σ2 (x.trans x2) s2 n2 w2⟩
    · cases e
  · cases e
end
end DM

/-! DM17: own classes: fields read and stored, methods, new instances. -/
namespace DM
open PySem PySem.Spec PyProof.Rows L2
section
variable {X : Cx} {g : Gam} {W : WX} {a b e o i : Expr} {ma mb mo mi mv : Ex} {pos : Pos}
def insAt (st : DSt) : DV → Option (Nat × Nat × List (Str × DV))
  | .ref n => (match st[n]? with
    | some (.ins c fs) => some (n, c, fs)
    | _ => none)
  | _ => none
theorem insAt_ok {φ : Lay} {H : Hp} {st : DSt} {d : DV} {x : V} {n c : Nat} {fs : List (Str × DV)} (s : RSt g φ H st) (r : RV g φ H d x) (e : insAt st d = some (n, c, fs)) :
    ∃ a dx ks, d = .ref n ∧ x = .ref a ∧ φ.rf[n]? = some a ∧ H a = some (.ins (g.ad c) dx ks) ∧ RKs g φ H fs ks := by
  cases d <;> simp only [insAt, reduceCtorEq] at e
  rename_i m
  split at e
  · rename_i c' fs' e1
    simp only [Option.some.injEq, Prod.mk.injEq] at e
    obtain ⟨rfl, rfl, rfl⟩ := e
    simp only [RV] at r
    obtain ⟨a, rfl, ha⟩ := r
    obtain ⟨ob, ho, e2, e3, ro⟩ := s.ob m a ha
    rw [e1] at e2
    cases e2
    obtain ⟨dx, ks, rfl, q⟩ := ro
    exact ⟨a, dx, ks, rfl, rfl, ha, e3, q⟩
  · cases e
theorem RKs.look {φ : Lay} {H : Hp} {k : Str} : ∀ {ds : List (Str × DV)} {vs : List (Str × V)}, RKs g φ H ds vs → (ds.lookup k = none ∧ vs.lookup k = none) ∨ ∃ d v, ds.lookup k = some d ∧ vs.lookup k = some v ∧ RV g φ H d v
  | [], _, h => by simp only [RKs] at h; subst h; exact .inl ⟨rfl, rfl⟩
  | d :: ds, vs, h => by
    obtain ⟨k0, d0⟩ := d
    simp only [RKs] at h
    obtain ⟨y, r, e1, q, z⟩ := h
    subst e1
    by_cases e : k = k0
    · subst e
      exact .inr ⟨d0, y, by simp [List.lookup], by simp [List.lookup], q⟩
    · have hb : (k == k0) = false := by simpa using e
      have := RKs.look (k := k) z
      simpa [List.lookup, hb] using this
/-- a field put: in its place or at the end -/
def putFG (f : Str) (v : DV) : List (Str × DV) → List (Str × DV)
  | [] => [(f, v)]
  | (k, x) :: r => if k = f then (k, v) :: r else (k, x) :: putFG f v r
theorem RKs.putF {φ : Lay} {H : Hp} {f : Str} {d : DV} {v : V} (hv : RV g φ H d v) : ∀ {ds : List (Str × DV)} {vs : List (Str × V)}, RKs g φ H ds vs → RKs g φ H (putFG f d ds) (L2.putF f v vs)
  | [], _, h => by
    simp only [RKs] at h; subst h
    show RKs g φ H [(f, d)] (L2.putF f v [])
    exact RKs.one hv
  | (k0, d0) :: ds, vs, h => by
    simp only [RKs] at h
    obtain ⟨y, r, e1, q, z⟩ := h
    subst e1
    unfold putFG L2.putF
    by_cases e : k0 = f
    · rw [if_pos e, if_pos e]; exact RKs.cons hv z
    · rw [if_neg e, if_neg e]; exact RKs.cons q (RKs.putF hv z)
/-- what is known of the classes cs that may bear the field f -/
def FldOk (K : PySem.W.Frag) (g : Gam) (cs : List Nat) (f : Str) : Prop := ∀ c ∈ cs, Cls K (g.ad c) ∧ NoAttr K (g.ad c) f
def fldP (cs : List Nat) (f : Str) (x : DV) (st : DSt) : Option (DV × DSt) := (insAt st x).bind fun r => if r.2.1 ∈ cs then (r.2.2.lookup f).map fun d => (d, st) else none
def setfP (cs : List Nat) (f : Str) (x v : DV) (st : DSt) : Option DSt := (insAt st x).bind fun r => if r.2.1 ∈ cs ∧ r.2.2.length < 1000 then some (st.set r.1 (.ins r.2.1 (putFG f v r.2.2))) else none
theorem pe_eFld {cs : List Nat} {f : Str} (hF : FldOk X.K g cs f) (he : PE X e (TM g (RV g) W ma)) (hb : attributeBase e f X.env (eval e X.env) = eval e X.env := by rfl) : PE X (.Attribute e f pos) (TM g (RV g) W (DM.e1 (fldP cs f) ma)) :=
  (pe_fld he hb).imp fun σ H Q ⟨φ, env, st, s, n, h⟩ => ⟨φ, env, st, s, n, Post.bind h fun x st1 φ1 H1 xv x1 s1 r1 h1 => by
    have h1 := Post.of h1
    unfold fldP at h1
    cases q : insAt st1 x with
    | none => rw [q] at h1; exact h1.elim
    | some r =>
      obtain ⟨m, c, fs⟩ := r
      rw [q, Option.bind_some] at h1
      obtain ⟨a, dx, ks, _, rfl, ha, hH, rk⟩ := insAt_ok s1 r1 q
      split at h1
      · rename_i hc
        obtain ⟨k1, k2⟩ := hF c hc
        rcases rk.look (k := f) with ⟨z, _⟩ | ⟨d, v, z1, z2, rv⟩
        · simp only [z] at h1; exact h1.elim
        · simp only [z1] at h1
          exact ⟨a, g.ad c, dx, ks, v, rfl, hH, k1, k2, z2, h1 φ1 H1 v Ext.refl s1 rv⟩
      · exact h1.elim⟩
/-- o.f = value -/
def sSetF (v o : Ex) (p : DV → DV → DSt → Option DSt) : Sm := fun env st => (v env st).then_ env fun x st1 => (o env st1).then_ env fun y st2 => match p y x st2 with
  | some st3 => .ok .nx env st3
  | none => .bad
theorem ps_sSetF {cs : List Nat} {f : Str} {apos : Pos} (hF : FldOk X.K g cs f) (hv : PE X a (TM g (RV g) W ma)) (ho : PE X o (TM g (RV g) W mo)) (hs : swapsWith a (some (.Attribute o f apos)) pos.line X.env = pure false := by rfl) :
    PS X (.Assign [.Attribute o f apos] a pos) (TMS g W (sSetF ma mo (setfP cs f))) :=
  (ps_fld ho hv hs).imp fun D σ H ⟨φ, env, st, s, n, h⟩ => ⟨φ, env, st, s, n, Post.then_ s n h fun x st1 φ1 H1 xv x1 s1 n1 r1 h1 =>
    ⟨φ1, env, st1, s1, n1, Post.then_ s1 n1 h1 fun y st2 φ2 H2 yv x2 s2 n2 r2 h2 => by
      have r1' := RV.ext s1.tame x2 _ _ r1
      cases q : setfP cs f y x st2 with
      | none => rw [q] at h2; exact h2.elim
      | some st3 =>
        rw [q] at h2
        unfold setfP at q
        cases q1 : insAt st2 y with
        | none => rw [q1] at q; cases q
        | some r =>
          obtain ⟨m, c, fs⟩ := r
          rw [q1, Option.bind_some] at q
          obtain ⟨b, dx, ks, _, rfl, hb, hH, rk⟩ := insAt_ok s2 r2 q1
          split at q
          · rename_i hc
            cases q
            obtain ⟨k1, k2⟩ := hF c hc.1
            exact ⟨b, g.ad c, dx, ks, rfl, hH, k1, k2, by rw [← rk.length]; exact hc.2, h2 φ2 _ σ (Ext.write s2 hb) (s2.write hb ⟨dx, _, rfl, rk.putF r1'⟩) (n2.ext s2.tame (Ext.write s2 hb))⟩
          · cases q⟩⟩
end
/-! ### methods -/
/-- o.m(e, .., k = v, ..) -/
def eMeth (c : Nat) (mn : Str) (m : Fn) (gD : List DV → List DV → List DV) (n nk : Nat) (o : Ex) (a kw : Exs) : Ex := fun env st => (o env st).bind fun x st1 => match insAt st1 x with
  | some r => if r.2.1 = c ∧ r.2.2.lookup mn = none then (a env st1).bind fun ds st2 => (kw env st2).bind fun zs st3 => if ds.length = n ∧ zs.length = nk then m (gD (x :: ds) zs) st3 else .bad else .bad
  | none => .bad
/-- a method that stands and keeps its machine's promise -/
structure CalM (P : Program) (w : World) (base : Heap) (mg : Str → Option Value) (g : Gam) (lvl : Nat) (c : Nat) (mn : Str) (k : Nat) (ps : List Str) (m : Fn) (kb : FuncData → Prop) : Prop where
  ex : ∃ fd, FnG P w g.K mg base lvl (g.ad k) fd ps (spD g ps.length m) ∧ kb fd
  me : Meth g.K (g.ad c) mn (g.ad k)
  cl : Cls g.K (g.ad c)
section
variable {X : Cx} {g : Gam} {W : WX} {lvl j n k c : Nat} {mn : Str} {ps ks : List Str} {m : Fn} {ix : List (Nat × Nat)} {ds : List DV} {dvs : List V} {kb : FuncData → Prop} {e o : Expr} {es : List Expr} {kws : List Keyword} {ma mk : Exs} {mo : Ex} {apos pos : Pos}
theorem TM.meth {σ : L2.St} {H : Hp} {Q : VK} {gD : List DV → List DV → List DV} {gV : List V → List V → List V} {np : Nat} (hp : Puts g gD gV) (hg : ∀ vs us, vs.length = n + 1 → us.length = ks.length → (gV vs us).length = np) (h : TM g (RV g) W (eMeth c mn m gD n ks.length mo ma mk) σ H Q) :
    TM g (RV g) W mo σ H fun x H1 => ∃ a dx fs, x = .ref a ∧ H1 a = some (.ins (g.ad c) dx fs) ∧ fs.lookup mn = none ∧ TM g (RVs g) W ma σ H1 fun vs H2 => TM g (RVs g) W mk σ H2 fun zs H3 => vs.length = n ∧ zs.length = ks.length ∧ spD g np m (gV (.ref a :: vs) zs) H3 Q (fun c d H' => W c d σ H') := by
  obtain ⟨φ, env, st, s, nn, h⟩ := h
  refine ⟨φ, env, st, s, nn, Post.bind h fun x st1 φ1 H1 xv x1 s1 r1 h1 => ?_⟩
  cases q : insAt st1 x with
  | none => simp only [q] at h1; exact h1.elim
  | some r =>
    obtain ⟨m0, c0, fs⟩ := r
    simp only [q] at h1
    split at h1
    · rename_i hc
      obtain ⟨hc1, hc2⟩ := hc
      have hc1 : c0 = c := hc1
      have hc2 : fs.lookup mn = none := hc2
      subst hc1
      obtain ⟨a, dx, kf, rfl, rfl, ha, hH, rk⟩ := insAt_ok s1 r1 q
      have hno : kf.lookup mn = none := by
        rcases rk.look (k := mn) with ⟨_, z⟩ | ⟨d, v, z, _, _⟩
        · exact z
        · rw [hc2] at z; cases z
      refine ⟨a, dx, kf, rfl, hH, hno, φ1, env, st1, s1, nn.ext s.tame x1, Post.bind h1 fun us st2 φ2 H2 vs x2 s2 r2 h2 => ?_⟩
      refine ⟨φ2, env, st2, s2, (nn.ext s.tame x1).ext s1.tame x2, Post.bind h2 fun zs st3 φ3 H3 ws x3 s3 r3 h3 => ?_⟩
      split at h3
      · rename_i hl
        have q1 : vs.length = n := by rw [← r2.length]; exact hl.1
        have q2 : ws.length = ks.length := by rw [← r3.length]; exact hl.2
        have rx := RV.ext s1.tame (x2.trans x3) _ _ r1
        exact ⟨q1, q2, hg _ _ (by simp [q1]) q2, φ3, gD (.ref m0 :: us) zs, st3, s3, hp _ _ _ _ _ _ (RVs.cons rx (RVs.ext s2.tame x3 _ _ r2)) r3, h3⟩
      · exact h3.elim
    · exact h1.elim
theorem pe_meth_ {pl : Sem Bool} (hK : X.K = g.K) (cm : CalM X.prog X.w X.base X.mg g lvl c mn k ps m kb) (hkb : ∀ fd, kb fd → KBp g.K ps (n + 1) ks ix dvs fd) (dv : DefV g ds dvs) (hr : Room j X.A) (hj : lvl ≤ j) (hG : X.A.guards = some []) (tk : Takes X W)
    (ho : PE X o (TM g (RV g) W mo)) (ha : PA X (e :: es) (TM g (RVs g) W ma)) (hkw : PK X kws (TM g (RVs g) W mk)) (hix : ixOk ix (n + 1) ks.length dvs.length = true := by decide) (hlen : ix.length = ps.length := by rfl)
    (hall : (backToKw pos (keywordEach kws X.env)).all (·.1.isSome) = true := by rfl) (hks : (backToKw pos (keywordEach kws X.env)).filterMap (·.1) = ks := by rfl)
    (he : starEach (e :: es) X.env = (false, eval e X.env) :: starEach es X.env := by rfl)
    (hpl : ((backTo pos (starEach (e :: es) X.env)).any (·.1) || (backToKw pos (keywordEach kws X.env)).any (·.1.isNone)) = false := by rfl)
    (ht : eval (.Call (.Attribute o mn apos) (e :: es) kws pos) X.env = (do
      let ov ← eval o X.env
      standAt apos.atName
      let (f, first) ← holding [ov] (getMethod ov mn pl)
      callWith pos f first (backTo pos (starEach (e :: es) X.env)) (backToKw pos (keywordEach kws X.env))) := by rfl) :
    PE X (.Call (.Attribute o mn apos) (e :: es) kws pos) (TM g (RV g) W (eMeth c mn m (fun us ws => pick ix us ws ds) n ks.length mo ma mk)) := by
  obtain ⟨⟨fd, F, hb⟩, hm, hc⟩ := cm
  obtain ⟨its, rits, hb⟩ := hkb fd hb
  rw [← hK] at F hm hc
  have kb' : KBn X.K fd ps (n + 1) ks (fun us ws => pick ix us ws its) (fun vs zs => pick ix vs zs dvs) := ⟨fun s us ws X' h1 h2 => hb s us ws (by rw [← hK]; exact X') h1 h2, fun h1 h2 => pick_vals h1 h2 rits ix⟩
  have hp : Puts g (fun us ws => pick ix us ws ds) (fun vs zs => pick ix vs zs dvs) := fun φ H ds' zs vs us h1 h2 => pick_rvs h1 h2 (dv φ H) ix
  constructor
  intro pins s σ H Q I h
  refine PySem.W.methodCall_KW (pl := pl) (thn (ho.run pins s σ H _ I (TM.meth (np := ps.length) hp (fun vs us h1 h2 => by rw [pick_len (by rw [h1, h2]; exact hix)]; exact hlen) h)) fun u s1 ⟨x, H1, I1, rx, a, dx, fs, ex, ea, l, q⟩ => ?_) ht
  subst ex
  obtain rfl : u = Value.ref a := rx
  refine getmeth_ok I1 ea hc hm l ?_
  refine PySem.W.callWith_KW (first := [.ref a]) (h₀ := X.base) I.ok.mod.kin hm.kp hall (thn (ha.run pos pins s1 σ H1 _ I1 q) fun us s2 ⟨vs, H2, I2, r, q2⟩ => ?_) hpl he
  refine thn (hkw.run pos pins s2 σ H2 _ I2 q2) fun ws s3 ⟨zs, H3, I3, rz, l1, l2, q3⟩ => ⟨I3.kIn, ?_⟩
  rw [hks]
  exact runG (us := .ref a :: us) (vs := .ref a :: vs) (F.mono hj) hr hG kb' tk I3 (.cons rfl r) rz (by simp [l1]) l2 q3
theorem pe_meth0_ {pl : Sem Bool} (hK : X.K = g.K) (cm : CalM X.prog X.w X.base X.mg g lvl c mn k ps m kb) (hkb : ∀ fd, kb fd → KBp g.K ps 1 ks ix dvs fd) (dv : DefV g ds dvs) (hr : Room j X.A) (hj : lvl ≤ j) (hG : X.A.guards = some []) (tk : Takes X W)
    (ho : PE X o (TM g (RV g) W mo)) (hkw : PK X kws (TM g (RVs g) W mk)) (hix : ixOk ix 1 ks.length dvs.length = true := by decide) (hlen : ix.length = ps.length := by rfl)
    (hall : (backToKw pos (keywordEach kws X.env)).all (·.1.isSome) = true := by rfl) (hks : (backToKw pos (keywordEach kws X.env)).filterMap (·.1) = ks := by rfl)
    (hpl : ((backTo pos (starEach [] X.env)).any (·.1) || (backToKw pos (keywordEach kws X.env)).any (·.1.isNone)) = false := by rfl)
    (ht : eval (.Call (.Attribute o mn apos) [] kws pos) X.env = (do
      let ov ← eval o X.env
      standAt apos.atName
      let (f, first) ← holding [ov] (getMethod ov mn pl)
      callWith pos f first (backTo pos (starEach [] X.env)) (backToKw pos (keywordEach kws X.env))) := by rfl) :
    PE X (.Call (.Attribute o mn apos) [] kws pos) (TM g (RV g) W (eMeth c mn m (fun us ws => pick ix us ws ds) 0 ks.length mo asNil mk)) := by
  obtain ⟨⟨fd, F, hb⟩, hm, hc⟩ := cm
  obtain ⟨its, rits, hb⟩ := hkb fd hb
  rw [← hK] at F hm hc
  have kb' : KBn X.K fd ps (0 + 1) ks (fun us ws => pick ix us ws its) (fun vs zs => pick ix vs zs dvs) := ⟨fun s us ws X' h1 h2 => hb s us ws (by rw [← hK]; exact X') h1 h2, fun h1 h2 => pick_vals h1 h2 rits ix⟩
  have hp : Puts g (fun us ws => pick ix us ws ds) (fun vs zs => pick ix vs zs dvs) := fun φ H ds' zs vs us h1 h2 => pick_rvs h1 h2 (dv φ H) ix
  constructor
  intro pins s σ H Q I h
  refine PySem.W.methodCall_KW (pl := pl) (thn (ho.run pins s σ H _ I (TM.meth (np := ps.length) (n := 0) hp (fun vs us h1 h2 => by rw [pick_len (by rw [h1, h2]; exact hix)]; exact hlen) h)) fun u s1 ⟨x, H1, I1, rx, a, dx, fs, ex, ea, l, q⟩ => ?_) ht
  subst ex
  obtain rfl : u = Value.ref a := rx
  refine getmeth_ok I1 ea hc hm l ?_
  obtain ⟨φ, env, st, s0, e0, h3⟩ := q
  have q := h3 φ H1 [] Ext.refl s0 RVs.nil
  refine PySem.W.callWith_KW0 (first := [.ref a]) (h₀ := X.base) I.ok.mod.kin hm.kp hall (thn (hkw.run pos pins s1 σ H1 _ I1 q) fun ws s3 ⟨zs, H3, I3, rz, l1, l2, q3⟩ => ⟨I3.kIn, ?_⟩) hpl
  rw [hks]
  exact runG (us := [.ref a]) (vs := [.ref a]) (F.mono hj) hr hG kb' tk I3 (.cons rfl .nil) rz rfl l2 q3
end
/-! ### new instances -/
def eNew (c : Nat) (m : Fn) (gD : List DV → List DV → List DV) (n nk : Nat) (a kw : Exs) : Ex := fun env st => (a env st).bind fun ds st1 => (kw env st1).bind fun zs st2 => if ds.length = n ∧ zs.length = nk then
  (m (gD (.ref st2.length :: ds) zs) (st2 ++ [.ins c []])).bind fun d st3 => match d with
    | .non => .ok (.ref st2.length) st3
    | _ => .bad
  else .bad
/-- a class that makes, its __init__ keeping its machine's promise -/
structure CalC (P : Program) (w : World) (base : Heap) (mg : Str → Option Value) (g : Gam) (lvl : Nat) (x : Str) (c k : Nat) (ps : List Str) (m : Fn) (kb : FuncData → Prop) : Prop where
  ex : ∃ fd, FnG P w g.K mg base lvl (g.ad k) fd ps (spD g ps.length m) ∧ kb fd
  mk_ : Mk g.K (g.ad c) (g.ad k)
  mg_ : mg x = some (.ref (g.ad c))
section
variable {X : Cx} {g : Gam} {W : WX} {lvl j n k c : Nat} {x : Str} {ps ks : List Str} {m : Fn} {ix : List (Nat × Nat)} {ds : List DV} {dvs : List V} {kb : FuncData → Prop} {e : Expr} {es : List Expr} {kws : List Keyword} {ma mk : Exs} {p pos : Pos}
theorem TM.new_ {σ : L2.St} {H : Hp} {Q : VK} {gD : List DV → List DV → List DV} {gV : List V → List V → List V} {np : Nat} (hp : Puts g gD gV) (hg : ∀ vs us, vs.length = n + 1 → us.length = ks.length → (gV vs us).length = np) (h : TM g (RV g) W (eNew c m gD n ks.length ma mk) σ H Q) :
    TM g (RVs g) W ma σ H fun vs H1 => TM g (RVs g) W mk σ H1 fun zs H2 => vs.length = n ∧ zs.length = ks.length ∧ ∀ a dx, H2 a = none → H2 dx = none → dx ≠ a →
      spD g np m (gV (.ref a :: vs) zs) (upd (upd H2 dx (.own a)) a (.ins (g.ad c) dx [])) (fun v H3 => v = .non ∧ Q (.ref a) H3) (fun c d H' => W c d σ H') := by
  obtain ⟨φ, env, st, s, nn, h⟩ := h
  refine ⟨φ, env, st, s, nn, Post.bind h fun us st2 φ2 H2 vs x2 s2 r2 h2 => ?_⟩
  refine ⟨φ2, env, st2, s2, nn.ext s.tame x2, Post.bind h2 fun zs st3 φ3 H3 ws x3 s3 r3 h3 => ?_⟩
  split at h3
  · rename_i hl
    have q1 : vs.length = n := by rw [← r2.length]; exact hl.1
    have q2 : ws.length = ks.length := by rw [← r3.length]; exact hl.2
    refine ⟨q1, q2, fun a dx ha hdx hne => ?_⟩
    have xa := Ext.new s3 hdx (o := HO.own a)
    have sa := s3.new hdx (o := HO.own a)
    have ha' : upd H3 dx (.own a) a = none := by rw [upd_ne (Ne.symm hne)]; exact ha
    have xb := Ext.newRef sa ha' (o := HO.ins (g.ad c) dx [])
    have sb := sa.newRef (o := DO.ins c []) (ho := HO.ins (g.ad c) dx []) ha' ⟨dx, [], rfl, by simp [RKs]⟩
    have xab := xa.trans xb
    have rv : RV g (φ3.more a) (upd (upd H3 dx (.own a)) a (.ins (g.ad c) dx [])) (.ref st3.length) (.ref a) := by
      simp only [RV]
      refine ⟨a, rfl, ?_⟩
      rw [← s3.len]
      simp
    have r2' := RVs.ext s3.tame xab _ _ (RVs.ext s2.tame x3 _ _ r2)
    have r3' := RVs.ext s3.tame xab _ _ r3
    refine ⟨hg _ _ (by simp [q1]) q2, φ3.more a, gD (.ref st3.length :: us) zs, st3 ++ [.ins c []], sb, hp _ _ _ _ _ _ (RVs.cons rv r2') r3', ?_⟩
    have h4 := Post.later xab h3
    exact Post.bind h4 fun d st5 φ5 H5 v5 x5 s5 r5 h5 => by
      cases d <;> try exact False.elim h5
      refine ⟨by simpa [RV] using r5, h5 φ5 H5 _ Ext.refl s5 (RV.ext sb.tame x5 _ _ rv)⟩
  · exact h3.elim
theorem runNew {fd : FuncData} {f : Addr} {gv : List Value → List Value → List Value} {gV : List V → List V → List V} {pins : List (Addr × Obj)} {σ : L2.St} {H : Hp} {s : Shared} {Q : VK} {us ws : List Value} {vs zs : List V} (M : Mk X.K (g.ad c) f)
    (F : FnG X.prog X.w X.K X.mg X.base k f fd ps (spD g ps.length m)) (hr : Room (k + 1) X.A) (hG : X.A.guards = some []) (hb : KBn X.K fd ps (n + 1) ks gv gV)
    (tk : Takes X W) (I : Inv X pins σ H s) (r : Vals vs us) (rz : Vals zs ws) (l1 : vs.length = n) (l2 : zs.length = ks.length)
    (h : ∀ a dx, H a = none → H dx = none → dx ≠ a → spD g ps.length m (gV (.ref a :: vs) zs) (upd (upd H dx (.own a)) a (.ins (g.ad c) dx [])) (fun v H2 => v = .non ∧ Q (.ref a) H2) (fun c d H' => W c d σ H')) :
    wpAny (model X.prog X.w) X.A (call (.ref (g.ad c)) us (ks.zip ws)) (EP X pins σ Q) X.xe s := by
  have hq := h (s.heap.objs.size + 1) s.heap.objs.size (I.hok.fresh (Nat.le_succ _)) (I.hok.fresh (Nat.le_refl _)) (Nat.ne_of_lt (Nat.lt_succ_self _))
  have I2 := Inv.made (C := g.ad c) I
  have r1 : Vals (V.ref (s.heap.objs.size + 1) :: vs) (Value.ref (s.heap.objs.size + 1) :: us) := .cons rfl r
  have r2 := hb.rel r1 rz
  have n1 : (Value.ref (s.heap.objs.size + 1) :: us).length = n + 1 := by
    rw [List.length_cons, ← r.length, l1]
  refine wpAny_call (make_map (f := f) I.kIn M.makes M.init (beq_iff_eq.mp M.fn) (codeAny_mono (F.run _ X.stack _ _ ⟨Value.ref (s.heap.objs.size + 1) :: us, ks.zip ws⟩ (gv (Value.ref (s.heap.objs.size + 1) :: us) ws) _ _ _ (hr.make (g.ad c) us (ks.zip ws)) hG
    (I2.env0.make (g.ad c) us (ks.zip ws)) (hb.to _ (Value.ref (s.heap.objs.size + 1) :: us) ws I2.kIn n1 (rz.length.symm.trans l2)) r2 hq) fun r s' hq' => ?_))
  match r, hq' with
  | .error e, hq' => exact tk e s' (XE.of_call I2 (fun _ _ _ z => z) hq')
  | .ok (.ret u), hq' =>
    obtain ⟨v, H', I3, rv, ev, q3⟩ := I2.after hq'
    subst ev
    exact ⟨rv, ⟨V.ref (s.heap.objs.size + 1), H', I3, rfl, q3⟩⟩
theorem pe_new_ (hK : X.K = g.K) (cm : CalC X.prog X.w X.base X.mg g lvl x c k ps m kb) (hkb : ∀ fd, kb fd → KBp g.K ps (n + 1) ks ix dvs fd) (dv : DefV g ds dvs) (hr : Room j X.A) (hj : lvl + 1 ≤ j) (hG : X.A.guards = some []) (tk : Takes X W) (hg : Gl X x)
    (ha : PA X (e :: es) (TM g (RVs g) W ma)) (hkw : PK X kws (TM g (RVs g) W mk)) (hix : ixOk ix (n + 1) ks.length dvs.length = true := by decide) (hlen : ix.length = ps.length := by rfl)
    (hall : (backToKw pos (keywordEach kws X.env)).all (·.1.isSome) = true := by rfl) (hks : (backToKw pos (keywordEach kws X.env)).filterMap (·.1) = ks := by rfl)
    (hdb : (x == ("__debug__" : Str)) = false := by decide) (he : starEach (e :: es) X.env = (false, eval e X.env) :: starEach es X.env := by rfl)
    (hpl : ((backTo pos (starEach (e :: es) X.env)).any (·.1) || (backToKw pos (keywordEach kws X.env)).any (·.1.isNone)) = false := by rfl) :
    PE X (.Call (.Name x p) (e :: es) kws pos) (TM g (RV g) W (eNew c m (fun us ws => pick ix us ws ds) n ks.length ma mk)) := by
  obtain ⟨⟨fd, F, hb⟩, hm, hmg⟩ := cm
  obtain ⟨its, rits, hb⟩ := hkb fd hb
  rw [← hK] at F hm
  have kb' : KBn X.K fd ps (n + 1) ks (fun us ws => pick ix us ws its) (fun vs zs => pick ix vs zs dvs) := ⟨fun s us ws X' h1 h2 => hb s us ws (by rw [← hK]; exact X') h1 h2, fun h1 h2 => pick_vals h1 h2 rits ix⟩
  have hp : Puts g (fun us ws => pick ix us ws ds) (fun vs zs => pick ix vs zs dvs) := fun φ H ds' zs vs us h1 h2 => pick_rvs h1 h2 (dv φ H) ix
  constructor
  intro pins s σ H Q I h
  refine wpAny_Call_Name_kw (ld_glob I hg hmg ?_ hdb)
  refine PySem.W.callWith_KW (h₀ := X.base) I.ok.mod.kin hm.kp hall (thn (ha.run pos pins s σ H _ I (TM.new_ (np := ps.length) hp (fun vs us h1 h2 => by rw [pick_len (by rw [h1, h2]; exact hix)]; exact hlen) h)) ?_) hpl he
  rintro us s1 ⟨vs, H1, I1, r, q⟩
  refine thn (hkw.run pos pins s1 σ H1 _ I1 q) ?_
  rintro ws s2 ⟨zs, H2, I2, rz, q1, q2, q3⟩
  refine ⟨I2.kIn, ?_⟩
  rw [hks]
  exact runNew hm F (hr.mono hj) hG kb' tk I2 r rz q1 q2 q3
theorem pe_new0_ (hK : X.K = g.K) (cm : CalC X.prog X.w X.base X.mg g lvl x c k ps m kb) (hkb : ∀ fd, kb fd → KBp g.K ps 1 ks ix dvs fd) (dv : DefV g ds dvs) (hr : Room j X.A) (hj : lvl + 1 ≤ j) (hG : X.A.guards = some []) (tk : Takes X W) (hg : Gl X x)
    (hkw : PK X kws (TM g (RVs g) W mk)) (hix : ixOk ix 1 ks.length dvs.length = true := by decide) (hlen : ix.length = ps.length := by rfl)
    (hall : (backToKw pos (keywordEach kws X.env)).all (·.1.isSome) = true := by rfl) (hks : (backToKw pos (keywordEach kws X.env)).filterMap (·.1) = ks := by rfl)
    (hdb : (x == ("__debug__" : Str)) = false := by decide)
    (hpl : ((backTo pos (starEach [] X.env)).any (·.1) || (backToKw pos (keywordEach kws X.env)).any (·.1.isNone)) = false := by rfl) :
    PE X (.Call (.Name x p) [] kws pos) (TM g (RV g) W (eNew c m (fun us ws => pick ix us ws ds) 0 ks.length asNil mk)) := by
  obtain ⟨⟨fd, F, hb⟩, hm, hmg⟩ := cm
  obtain ⟨its, rits, hb⟩ := hkb fd hb
  rw [← hK] at F hm
  have kb' : KBn X.K fd ps (0 + 1) ks (fun us ws => pick ix us ws its) (fun vs zs => pick ix vs zs dvs) := ⟨fun s us ws X' h1 h2 => hb s us ws (by rw [← hK]; exact X') h1 h2, fun h1 h2 => pick_vals h1 h2 rits ix⟩
  have hp : Puts g (fun us ws => pick ix us ws ds) (fun vs zs => pick ix vs zs dvs) := fun φ H ds' zs vs us h1 h2 => pick_rvs h1 h2 (dv φ H) ix
  constructor
  intro pins s σ H Q I h
  have h' := TM.new_ (n := 0) (np := ps.length) hp (fun vs us h1 h2 => by rw [pick_len (by rw [h1, h2]; exact hix)]; exact hlen) h
  obtain ⟨φ, env, st, s0, e0, h3⟩ := h'
  have h2 := h3 φ H [] Ext.refl s0 RVs.nil
  refine wpAny_Call_Name_kw (ld_glob I hg hmg ?_ hdb)
  refine PySem.W.callWith_KW0 (h₀ := X.base) I.ok.mod.kin hm.kp hall (thn (hkw.run pos pins s σ H _ I h2) ?_) hpl
  rintro ws s2 ⟨zs, H2, I2, rz, q1, q2, q3⟩
  refine ⟨I2.kIn, ?_⟩
  rw [hks]
  exact runNew (us := []) (vs := []) hm F (hr.mono hj) hG kb' tk I2 .nil rz rfl q2 q3
end
/-! ### o.f op= value -/
section
variable {X : Cx} {g : Gam} {W : WX} {a o : Expr} {ma mo : Ex} {pos : Pos}
def addIP : DV → DV → DSt → Option (DV × DSt)
  | .int i, .int j, st => some (.int (i + j), st)
  | _, _, _ => none
theorem addIP_ok {d y z : DV} {st st' : DSt} (e : addIP d y st = some (z, st')) : ∃ i l, d = .int i ∧ y = .int l ∧ z = .int (i + l) ∧ st' = st := by
  unfold addIP at e
  split at e
  · simp only [Option.some.injEq, Prod.mk.injEq] at e
    exact ⟨_, _, rfl, rfl, e.1.symm, e.2.symm⟩
  · cases e
def sAugF (o v : Ex) (gp : DV → DSt → Option (DV × DSt)) (p : DV → DV → DSt → Option (DV × DSt)) (sp : DV → DV → DSt → Option DSt) : Sm := fun env st => (o env st).then_ env fun x st1 => (Res.of (gp x st1)).then_ env fun d st2 => (v env st2).then_ env fun y st3 => (Res.of (p d y st3)).then_ env fun z st4 => match sp x z st4 with
  | some st5 => .ok .nx env st5
  | none => .bad
theorem ps_sAugAdd {c0 : Nat} {f : Str} {tpos : Pos} (hF : FldOk X.K g [c0] f) (ho : PE X o (TM g (RV g) W mo)) (hv : PE X a (TM g (RV g) W ma)) :
    PS X (.AugAssign (.Attribute o f tpos) .Add a pos) (TMS g W (sAugF mo ma (fldP [c0] f) addIP (setfP [c0] f))) :=
  (ps_fldaug ho hv in_add).imp fun D σ H ⟨φ, env, st, s, n, h⟩ => ⟨φ, env, st, s, n, Post.then_ s n h fun x st1 φ1 H1 xv x1 s1 n1 r1 h1 => by
    unfold fldP at h1
    cases q : insAt st1 x with
    | none => rw [q] at h1; exact h1.elim
    | some r =>
      obtain ⟨m, c, fs⟩ := r
      rw [q, Option.bind_some] at h1
      obtain ⟨b, dx, ks, rfl, rfl, hb, hH, rk⟩ := insAt_ok s1 r1 q
      by_cases hc : c ∈ [c0]
      · simp only [hc, if_true] at h1
        obtain ⟨k1, k2⟩ := hF c hc
        rcases rk.look (k := f) with ⟨z, _⟩ | ⟨d, v, z1, z2, rv⟩
        · simp only [z] at h1; exact h1.elim
        · simp only [z1, Option.map_some, Res.of_some, Res.then_ok] at h1
          refine ⟨b, g.ad c, dx, ks, v, rfl, hH, k1, k2, z2, φ1, env, st1, s1, n1, Post.then_ s1 n1 h1 fun y st2 φ2 H2 yv x2 s2 n2 r2 h2 => ?_⟩
          have rv2 := RV.ext s1.tame x2 _ _ rv
          cases e0 : addIP d y st2 with
          | none => rw [e0] at h2; exact h2.elim
          | some zs =>
            obtain ⟨z, st2'⟩ := zs
            obtain ⟨i, l, rfl, rfl, rfl, rfl⟩ := addIP_ok e0
            rw [e0] at h2
            cases rvInt rv2
            cases rvInt r2
            simp only [Res.of_some, Res.then_ok] at h2
            cases e3 : setfP [c0] f (.ref m) (.int (i + l)) st2' with
            | none => rw [e3] at h2; exact h2.elim
            | some st3 =>
              rw [e3] at h2
              unfold setfP at e3
              cases q1 : insAt st2' (.ref m) with
              | none => rw [q1] at e3; cases e3
              | some r' =>
                obtain ⟨m', c', fs'⟩ := r'
                rw [q1, Option.bind_some] at e3
                have rb : RV g φ2 H2 (.ref m) (.ref b) := RV.ext s1.tame x2 _ _ r1
                obtain ⟨b', dx', ks', em, eb, hb', hH', rk'⟩ := insAt_ok s2 rb q1
                cases em
                cases eb
                split at e3
                · rename_i hc'
                  cases e3
                  have ec : c = c0 := by simpa using hc
                  have ec' : c' = c0 := by simpa using hc'.1
                  subst ec
                  subst ec'
                  exact ⟨i, l, rfl, rfl, dx', ks', hH', by rw [← rk'.length]; exact hc'.2, h2 φ2 _ σ (Ext.write s2 hb') (s2.write hb' ⟨dx', _, rfl, rk'.putF (by simp [RV])⟩) (n2.ext s2.tame (Ext.write s2 hb'))⟩
                · cases e3
      · simp only [hc, if_false] at h1; exact h1.elim⟩
end
end DM

/-! DM18: len of own instances, keyword-only parameters, constants that are tuples. -/
namespace DM
open PySem PySem.Spec PyProof.Rows L2
/-- len(o), o of an own class -/
def eLenO (c : Nat) (m : Fn) (o : Ex) : Ex := fun env st => (o env st).bind fun x st1 => match insAt st1 x with
  | some r => if r.2.1 = c then (m [x] st1).bind fun d st2 => match d with
      | .int n => if 0 ≤ n ∧ n < 2 ^ 63 then .ok (.int n) st2 else .bad
      | _ => .bad
    else .bad
  | none => .bad
section
variable {X : Cx} {g : Gam} {W : WX} {lvl j k c : Nat} {ps : List Str} {m : Fn} {kb : FuncData → Prop} {o : Expr} {mo : Ex} {p pos : Pos}
theorem runG1 {k n : Nat} {f : Addr} {fd : FuncData} {ps : List Str} {m : Fn} {gv : List Value → List Value → List Value} {gV : List V → List V → List V} {pins : List (Addr × Obj)} {σ : L2.St} {H : Hp} {s : Shared} {Q : VK} {us : List Value} {vs : List V} (F : FnG X.prog X.w X.K X.mg X.base k f fd ps (spD g ps.length m)) (hr : Room (k + 1) X.A) (hG : X.A.guards = some [])
    (hb : KBn X.K fd ps n [] gv gV) (tk : Takes X W) (I : Inv X pins σ H s) (r : Vals vs us) (hn : vs.length = n) (h : spD g ps.length m (gV vs []) H Q (fun c d H' => W c d σ H')) :
    wpAny (model X.prog X.w) X.A.in1 (call (.ref f) us) (EP X pins σ Q) X.xe s := by
  refine wpAny_call (codeAny_mono (F.run X.A.in1 X.stack s H ⟨us, []⟩ (gv us []) (gV vs []) Q _ hr.in1 hG I.env0.in1 (hb.to s us [] I.kIn (r.length.symm.trans hn) rfl) (hb.rel r .nil) h) ?_)
  intro res s' got
  match res, got with
  | .error e, got => exact tk e s' (XE.of_call I (fun _ _ _ z => z) got)
  | .ok (.ret u), got => exact I.after got
theorem TM.lenO {σ : L2.St} {H : Hp} {Q : VK} (h : TM g (RV g) W (eLenO c m mo) σ H Q) : TM g (RV g) W mo σ H fun x H1 => ∃ a dx fs, x = .ref a ∧ H1 a = some (.ins (g.ad c) dx fs) ∧
    spD g 1 m [.ref a] H1 (fun v H' => ∃ n : Int, v = .int n ∧ 0 ≤ n ∧ n < 2 ^ 63 ∧ Q (.int n) H') (fun c d H' => W c d σ H') := by
  obtain ⟨φ, env, st, s, nn, h⟩ := h
  refine ⟨φ, env, st, s, nn, Post.bind h fun x st1 φ1 H1 xv x1 s1 r1 h1 => ?_⟩
  cases q : insAt st1 x with
  | none => simp only [q] at h1; exact h1.elim
  | some r =>
    obtain ⟨m0, c0, fs⟩ := r
    simp only [q] at h1
    split at h1
    · rename_i hc
      have hc : c0 = c := hc
      subst hc
      obtain ⟨a, dx, kf, rfl, rfl, ha, hH, rk⟩ := insAt_ok s1 r1 q
      refine ⟨a, dx, kf, rfl, hH, rfl, φ1, [.ref m0], st1, s1, RVs.one r1, Post.bind h1 fun d st2 φ2 H2 v x2 s2 r2 h2 => ?_⟩
      cases d <;> try exact False.elim h2
      rename_i n
      by_cases hn : 0 ≤ n ∧ n < 2 ^ 63
      · simp only [hn, and_self, if_true] at h2
        exact ⟨n, rvInt r2, hn.1, hn.2, h2 φ2 H2 _ Ext.refl s2 (by simp [RV])⟩
      · simp only [hn, if_false] at h2
        exact h2.elim
    · exact h1.elim
theorem TM.asOne {σ : L2.St} {H : Hp} {Q : List V → Hp → Prop} (h : TM g (RV g) W mo σ H fun x H1 => Q [x] H1) : TM g (RVs g) W (asCons mo asNil) σ H Q := by
  obtain ⟨φ, env, st, s, nn, h⟩ := h
  refine ⟨φ, env, st, s, nn, ?_⟩
  unfold asCons
  cases q : mo env st with
  | bad => rw [q] at h; exact h.elim
  | exc e' s' => rw [q] at h; exact h
  | ok d st1 =>
    rw [q] at h
    intro φ1 H1 vs x1 s1 r1
    simp only [RVs] at r1
    obtain ⟨y, r, rfl, r2, rfl⟩ := r1
    exact h φ1 H1 y x1 s1 r2
theorem pe_eLenO {ix : List (Nat × Nat)} (hK : X.K = g.K) (cm : CalM X.prog X.w X.base X.mg g lvl c "__len__" k ps m kb) (hkb : ∀ fd, kb fd → KBp g.K ps 1 [] ix [] fd) (hr : Room j X.A) (hj : lvl + 1 ≤ j) (hG : X.A.guards = some []) (tk : Takes X W) (hg : Gl X "len") (hm : X.mg "len" = none)
    (ha : PA X [o] (TM g (RVs g) W (asCons mo asNil))) (hix : ix = [(0, 0)] := by rfl) (hlen : ps.length = 1 := by rfl) (he : starEach [o] X.env = (false, eval o X.env) :: starEach [] X.env := by rfl) (hpl : (backTo pos (starEach [] X.env)).any (·.1) = false := by rfl) :
    PE X (.Call (.Name "len" p) [o] [] pos) (TM g (RV g) W (eLenO c m mo)) := by
  subst hix
  obtain ⟨⟨fd, F, hb⟩, hm', hc⟩ := cm
  obtain ⟨its, rits, hb⟩ := hkb fd hb
  rw [← hK] at F hm' hc
  have kb' : KBn X.K fd ps 1 [] (fun us ws => pick [(0, 0)] us ws its) (fun vs zs => pick [(0, 0)] vs zs []) := ⟨fun s us ws X' h1 h2 => hb s us ws (by rw [← hK]; exact X') h1 h2, fun h1 h2 => pick_vals h1 h2 rits _⟩
  refine ⟨fun pins s σ H Q I h => ?_⟩
  refine wpAny_Call_Name_kw (ld_blt I hg hm PySem.boot_len ?_ (by decide) (by decide))
  have h' := TM.lenO h
  refine PyProof.Rows.callWith_builtin1 (thn (ha.run pos pins s σ H (fun vs H1 => ∃ a dx fs, vs = [.ref a] ∧ H1 a = some (.ins (g.ad c) dx fs) ∧ spD g 1 m [.ref a] H1 (fun v H' => ∃ n : Int, v = .int n ∧ 0 ≤ n ∧ n < 2 ^ 63 ∧ Q (.int n) H') (fun c d H' => W c d σ H')) I ?_) fun us s1 ⟨vs, H1, I1, r1, a, dx, fs, e1, e2, q1⟩ => ?_) he hpl
  · refine TM.asOne ?_
    obtain ⟨φ, env, st, s0, n0, h3⟩ := h'
    refine ⟨φ, env, st, s0, n0, Post.mono ?_ h3⟩
    exact fun x H1 ⟨a, dx, fs, e, z⟩ => ⟨a, dx, fs, by rw [e], z⟩
  · subst e1
    obtain rfl : us = [Value.ref a] := by
      cases r1 with
      | cons r rs => cases rs; cases (show _ = Value.ref a from r); rfl
    obtain ⟨mA, O, _, _, _, _⟩ := ins_get I1.hok e2
    obtain ⟨od, hod, _⟩ := lookIn_ns O.ns
    have IA : PySem.W.InstAt s1.heap a (PySem.W.instObj (g.ad c) dx) (g.ad c) (some od) := ⟨O.obj, rfl, rfl, hod⟩
    refine Calls.call_function_entry PySem.kind_len PySem.plain_len PySem.entry_len (PySem.args_len1 _) ?_
    unfold Builtin.«len»
    refine wpAny_bind (m := oneArg "len" _) (wpAny_pure ?_)
    refine wpAny_bind (m := callSpecial? (.ref a) (Str.ofString "__len__")) (PySem.W.special_fn I1.kIn IA hm'.at_ (beq_iff_eq.mp hm'.fn) (wpAny_mono (runG1 (us := [.ref a]) (vs := [.ref a]) F (hr.mono hj) hG kb' tk I1 (.cons rfl .nil) rfl (by rw [hlen]; exact q1)) (fun r s' hr => ?_) fun _ _ y => y))
    obtain ⟨v, H2, I2, rv, n, rfl, h0, h1, hq⟩ := hr
    obtain ⟨t, rfl⟩ : ∃ t, r = Value.int n t := rv
    refine wpAny_bind (wpAny_holding (wpAny_pure ?_))
    refine wpAny_bind (wpAny_letGo ?_)
    show wpAny _ _ (if n < 0 then _ else _) _ _ _
    rw [if_neg (by omega)]
    show wpAny _ _ (if n ≥ 2 ^ 63 then _ else _) _ _ _
    rw [if_neg (by omega)]
    exact wpAny_bind (wpAny_mkInt (wpAny_pure ⟨_, rfl, .int n, H2, I2.tok _, ⟨_, rfl⟩, hq⟩))
end
/-- binding with keyword-only parameters, ms those that lack -/
theorem kbp_kw {K : PySem.W.Frag} {x qual : Str} {params : Arguments} {body : List Stmt} {scope : Scope} {kws : List (Str × V)} {an : Option Addr} {kV doc pm cdv ct : Value} {ps : List Str} (n : Nat) (ks : List Str) (ix : List (Nat × Nat)) (ms : List (Str × V)) (hk : kws ≠ []) (hms : ∀ q ∈ ms, q ∈ kws)
    (kd : KwdV K kV kws) (h : ∀ (D : Addr) (us mv ws : List Value), us.length = n → mv.length = ms.length → ws.length = ks.length →
      KwChain D ((ms.map (·.1)).zip mv) (bindArgs (PySem.W.fnOf x qual params body scope .none (.ref D) doc pm an cdv ct) ⟨us, ks.zip ws⟩) (ps.zip (pick ix us ws mv))) :
    KBp K ps n ks ix (ms.map (·.2)) (PySem.W.fnOf x qual params body scope .none kV doc pm an cdv ct) := by
  rcases kd with e | ⟨D, rfl, hq⟩
  · exact absurd e hk
  · obtain ⟨mv, hl, rk, hks⟩ := kwd_vals (ms := ms) fun q hm => hq q (hms q hm)
    exact ⟨mv, rk, fun s us ws X l1 l2 => BindsTo.of_looks fun M => KwChain.looks X hks (h D us mv ws l1 hl l2)⟩
end DM

/-! DM19: own classes, what a step wants, word by word; comprehensions over a list of the state. -/
namespace DM
open PySem PySem.Spec PyProof.Rows L2
section
variable {env : DEnv} {st : DSt} {a b c o v : Ex} {r kw : Exs} {x y : Sm} {Q : DV → DSt → Prop} {QL : List DV → DSt → Prop} {QS : FL → DEnv → DSt → Prop}
theorem lcR_fil {gm : Tgm} {tm : Exb} {em : Ex} {n : Nat} (f : DV → Bool) (h : DV → DV) {ds : List DV} (hn : st[n]? = some (.lst ds)) (hb : ∀ d ∈ ds, ∃ env2, gm d env = some env2 ∧ wR (tm env2 st) fun k s => k = f d ∧ s = st ∧ (k = true → wR (em env2 st) fun y s => y = h d ∧ s = st)) :
    ∀ (fuel i : Nat) (acc : List DV), acc.length + (ds.length - i) ≤ sizeLine → ds.length - i < fuel → lcR gm tm em env n fuel i acc st = .ok (acc ++ ((ds.drop i).filter f).map h) st
  | 0, i, acc, _, hf => absurd hf (Nat.not_lt_zero _)
  | fuel + 1, i, acc, hl, hf => by
    unfold lcR
    rw [hn]
    simp only
    by_cases hi : i < ds.length
    · have e0 : ds[i]? = some ds[i] := List.getElem?_eq_getElem hi
      rw [e0]
      obtain ⟨env2, e1, e2⟩ := hb ds[i] (List.getElem_mem hi)
      obtain ⟨k, s, e3, ek, es, e4⟩ := wR_ex e2
      rw [es, ek] at e3
      rw [ek] at e4
      simp only [e1, e3]
      rw [List.drop_eq_getElem_cons hi, List.filter_cons]
      cases hf2 : f ds[i] with
      | false =>
        simp only
        rw [lcR_fil f h hn hb fuel (i + 1) acc (by omega) (by omega)]
        simp
      | true =>
        obtain ⟨y, s2, e5, ey, es2⟩ := wR_ex (e4 hf2)
        rw [ey, es2] at e5
        simp only [e5]
        rw [if_pos (by omega), lcR_fil f h hn hb fuel (i + 1) (acc ++ [h ds[i]]) (by simp; omega) (by omega)]
        simp
    · have e0 : ds[i]? = none := List.getElem?_eq_none_iff.mpr (by omega)
      rw [e0]
      simp only
      rw [List.drop_eq_nil_of_le (by omega)]
      simp
theorem w_lcsR {im : Im} {gm : Tgm} {tm : Exb} {em : Ex} {own : List Nat} {n : Nat} (f : DV → Bool) (h : DV → DV) {ds : List DV} (hi : wR (im env st) fun it s1 => it = .refl n ∧ s1 = st) (hn : st[n]? = some (.lst ds)) (hl : ds.length < 100000)
    (hb : ∀ d ∈ ds, ∃ env2, gm d (wipeE env own) = some env2 ∧ wR (tm env2 st) fun k s => k = f d ∧ s = st ∧ (k = true → wR (em env2 st) fun y s => y = h d ∧ s = st)) : lcs im gm tm em own env st = .ok ((ds.filter f).map h) st := by
  obtain ⟨it, s, e1, e2, e3⟩ := wR_ex hi
  unfold lcs
  rw [e1, e2, e3]
  show lcR gm tm em (wipeE env own) n turns 0 [] st = _
  rw [lcR_fil f h hn hb turns 0 [] (by simp only [List.length_nil]; have : (100000 : Nat) ≤ sizeLine := by decide
                                       omega) (by have : turns = 1000000 := rfl
                                                  omega)]
  simp
theorem w_eLcOn {im : Im} {gm : Tgm} {tm : Exb} {em : Ex} {own : List Nat} {n : Nat} (f : DV → Bool) (h : DV → DV) {ds : List DV} (hi : wR (im env st) fun it s1 => it = .refl n ∧ s1 = st) (hn : st[n]? = some (.lst ds)) (hl : ds.length < 100000)
    (hb : ∀ d ∈ ds, ∃ env2, gm d (wipeE env own) = some env2 ∧ wR (tm env2 st) fun k s => k = f d ∧ s = st ∧ (k = true → wR (em env2 st) fun y s => y = h d ∧ s = st)) (q : Q (.lst ((ds.filter f).map h)) st) : wR (eLc im gm tm em own env st) Q := by
  unfold eLc
  rw [w_lcsR f h hi hn hl hb]
  exact ⟨q⟩
theorem w_eLcROn {im : Im} {gm : Tgm} {tm : Exb} {em : Ex} {own : List Nat} {n : Nat} (f : DV → Bool) (h : DV → DV) {ds : List DV} (hi : wR (im env st) fun it s1 => it = .refl n ∧ s1 = st) (hn : st[n]? = some (.lst ds)) (hl : ds.length < 100000)
    (hb : ∀ d ∈ ds, ∃ env2, gm d (wipeE env own) = some env2 ∧ wR (tm env2 st) fun k s => k = f d ∧ s = st ∧ (k = true → wR (em env2 st) fun y s => y = h d ∧ s = st)) (q : Q (.ref st.length) (st ++ [.lst ((ds.filter f).map h)])) : wR (eLcR im gm tm em own env st) Q := by
  unfold eLcR
  rw [w_lcsR f h hi hn hl hb]
  exact ⟨q⟩
/-- the items of a list of values, f's own -/
theorem w_eLcIt {im : Im} {gm : Tgm} {tm : Exb} {em : Ex} {own : List Nat} (f : DV → Bool) (h : DV → DV) {ds : List DV} (hi : wR (im env st) fun it s1 => it = .items ds ∧ s1 = st) (hl : ds.length < 100000)
    (hb : ∀ d ∈ ds, ∃ env2, gm d (wipeE env own) = some env2 ∧ wR (tm env2 st) fun k s => k = f d ∧ s = st ∧ (k = true → wR (em env2 st) fun y s => y = h d ∧ s = st)) (q : Q (.lst ((ds.filter f).map h)) st) : wR (eLc im gm tm em own env st) Q := by
  obtain ⟨it, s, e1, e2, e3⟩ := wR_ex hi
  unfold eLc lcs
  rw [e1, e2, e3]
  show wR ((lcM gm tm em (wipeE env own) ds [] st).bind _) Q
  rw [w_lcFil f h ds [] hb (by simp only [List.length_nil]; have : (100000 : Nat) ≤ sizeLine := by decide
                               omega)]
  refine ⟨?_⟩
  show Q (.lst ([] ++ _)) st
  rw [List.nil_append]
  exact q
theorem w_lcF {gm : Tgm} {tm : Exb} {em : Ex} (f : DV → Bool) (h : DV → DV) {ds : List DV} (hl : ds.length < 100000)
    (hb : ∀ d ∈ ds, ∃ env2, gm d env = some env2 ∧ wR (tm env2 st) fun k s => k = f d ∧ s = st ∧ (k = true → wR (em env2 st) fun y s => y = h d ∧ s = st)) (q : QL ((ds.filter f).map h) st) : wR (lcM gm tm em env ds [] st) QL := by
  rw [w_lcFil f h ds [] hb (by simp only [List.length_nil]; have : (100000 : Nat) ≤ sizeLine := by decide
                               omega)]
  refine ⟨?_⟩
  show QL ([] ++ _) st
  rw [List.nil_append]
  exact q
theorem w_sSetF {p : DV → DV → DSt → Option DSt} (h : wR (v env st) fun x s1 => wR (o env s1) fun y s2 => ∃ s3, p y x s2 = some s3 ∧ QS .nx env s3) : wS (sSetF v o p env st) QS :=
  wS_then (wR_mono h fun _ _ q => wS_then (wR_mono q fun _ _ ⟨s3, e, z⟩ => by rw [e]; exact ⟨z⟩))
theorem w_seqSetF {p : DV → DV → DSt → Option DSt} (h : wR (v env st) fun x s1 => wR (o env s1) fun y1 s2 => ∃ s3, p y1 x s2 = some s3 ∧ wS (y env s3) QS) : wS (sSeq (sSetF v o p) y env st) QS := w_seq (w_sSetF h)
theorem w_sAugF {gp : DV → DSt → Option (DV × DSt)} {p : DV → DV → DSt → Option (DV × DSt)} {sp : DV → DV → DSt → Option DSt}
    (h : wR (o env st) fun x s1 => wO (gp x s1) fun d s2 => wR (v env s2) fun y s3 => wO (p d y s3) fun z s4 => ∃ s5, sp x z s4 = some s5 ∧ QS .nx env s5) : wS (sAugF o v gp p sp env st) QS :=
  wS_then (wR_mono h fun _ _ q => wS_then (wR_of (wO_mono q fun _ _ q2 => wS_then (wR_mono q2 fun _ _ q3 => wS_then (wR_of (wO_mono q3 fun _ _ ⟨s5, e, z⟩ => by rw [e]; exact ⟨z⟩))))))
theorem w_seqAugF {gp : DV → DSt → Option (DV × DSt)} {p : DV → DV → DSt → Option (DV × DSt)} {sp : DV → DV → DSt → Option DSt}
    (h : wR (o env st) fun x s1 => wO (gp x s1) fun d s2 => wR (v env s2) fun y1 s3 => wO (p d y1 s3) fun z s4 => ∃ s5, sp x z s4 = some s5 ∧ wS (y env s5) QS) : wS (sSeq (sAugF o v gp p sp) y env st) QS := w_seq (w_sAugF h)
theorem w_eMeth {cl : Nat} {mn : Str} {m : Fn} {gD : List DV → List DV → List DV} {n nk : Nat} (h : wR (o env st) fun x s1 => ∃ k fs, insAt s1 x = some (k, cl, fs) ∧ fs.lookup mn = none ∧ wR (r env s1) fun ds s2 => wR (kw env s2) fun zs s3 => (ds.length = n ∧ zs.length = nk) ∧ wR (m (gD (x :: ds) zs) s3) Q) : wR (eMeth cl mn m gD n nk o r kw env st) Q := by
  unfold eMeth
  refine wR_bind (wR_mono h fun x s ⟨k, fs, e1, e2, q⟩ => ?_)
  rw [e1]
  simp only [e2, and_self, if_true]
  exact wR_bind (wR_mono q fun _ _ q2 => wR_bind (wR_mono q2 fun _ _ ⟨l, z⟩ => by rw [if_pos l]; exact z))
theorem w_eLenO {cl : Nat} {m : Fn} (h : wR (o env st) fun x s1 => ∃ k fs, insAt s1 x = some (k, cl, fs) ∧ wR (m [x] s1) fun d s2 => ∃ i : Int, d = .int i ∧ (0 ≤ i ∧ i < 2 ^ 63) ∧ Q (.int i) s2) : wR (eLenO cl m o env st) Q := by
  unfold eLenO
  refine wR_bind (wR_mono h fun x s ⟨k, fs, e1, q⟩ => ?_)
  rw [e1]
  simp only
  rw [if_pos trivial]
  exact wR_bind (wR_mono q fun d s2 ⟨i, e, l, z⟩ => by subst e; simp only; rw [if_pos l]; exact ⟨z⟩)
theorem w_eNew {cl : Nat} {m : Fn} {gD : List DV → List DV → List DV} {n nk : Nat} (h : wR (r env st) fun ds s1 => wR (kw env s1) fun zs s2 => (ds.length = n ∧ zs.length = nk) ∧ wR (m (gD (.ref s2.length :: ds) zs) (s2 ++ [.ins cl []])) fun d s3 => d = .non ∧ Q (.ref s2.length) s3) : wR (eNew cl m gD n nk r kw env st) Q := by
  unfold eNew
  exact wR_bind (wR_mono h fun ds s q => wR_bind (wR_mono q fun zs s2 ⟨l, z⟩ => by
    rw [if_pos l]
    exact wR_bind (wR_mono z fun d s3 ⟨e, y⟩ => by subst e; exact ⟨y⟩)))
theorem w_fld {n cl : Nat} {fs : List (Str × DV)} {f : Str} {d : DV} (h : st[n]? = some (.ins cl fs)) (h2 : fs.lookup f = some d) (q : Q d st) : wO (fldP [cl] f (.ref n) st) Q := by
  refine w_some (d := d) (s := st) ?_ q
  simp [fldP, insAt, h, h2]
theorem setf_ok {n cl : Nat} {fs : List (Str × DV)} {f : Str} {d : DV} (h : st[n]? = some (.ins cl fs)) (hl : fs.length < 1000) : setfP [cl] f (.ref n) d st = some (st.set n (.ins cl (putFG f d fs))) := by
  simp [setfP, insAt, h, hl]
end
end DM

/-! DM20: equality of lists that hold lists of the state. -/
namespace DM
open PySem PySem.Spec PyProof.Rows L2

def allD (f : DV → Option PyData) : List DV → Option (List PyData)
  | [] => some []
  | d :: ds => (f d).bind fun x => (allD f ds).map fun r => x :: r
/-- data through lists of the state, to a depth -/
def pyDD (st : DSt) : Nat → DV → Option PyData
  | 0, d => pyV d
  | k + 1, .ref n => (match st[n]? with
    | some (.lst ds) => (allD (pyDD st k) ds).map .list
    | _ => none)
  | k + 1, .lst ds => (allD (pyDD st k) ds).map .list
  | k + 1, .tup ds => (allD (pyDD st k) ds).map .tuple
  | _ + 1, d => pyV d
section
variable {g : Gam} {φ : Lay} {H : Hp} {st : DSt}
theorem allD_ok {f : DV → Option PyData} (hf : ∀ d x p, RV g φ H d x → f d = some p → Dp g.K H x p) : ∀ (ds : List DV) (xs : List V) (ps : List PyData), RVs g φ H ds xs → allD f ds = some ps → DpAll g.K H xs ps
  | [], xs, ps, r, e => by
    simp only [RVs] at r
    simp only [allD, Option.some.injEq] at e
    subst r; subst e
    exact .nil
  | d :: ds, xs, ps, r, e => by
    simp only [RVs] at r
    obtain ⟨y, r', rfl, r1, r2⟩ := r
    simp only [allD, Option.bind_eq_some_iff, Option.map_eq_some_iff] at e
    obtain ⟨p, e1, ps', e2, rfl⟩ := e
    exact .cons (hf d y p r1 e1) (allD_ok hf ds r' ps' r2 e2)
theorem pyDD_ok (s : RSt g φ H st) : ∀ (k : Nat) (d : DV) (x : V) (p : PyData), RV g φ H d x → pyDD st k d = some p → Dp g.K H x p
  | 0, d, x, p, r, e => pyV_ok d x p r e
  | k + 1, .ref n, x, p, r, e => by
    simp only [pyDD] at e
    cases q : st[n]? with
    | none => simp [q] at e
    | some o =>
      cases o with
      | lst ds =>
        simp only [q, Option.map_eq_some_iff] at e
        obtain ⟨ps, e1, rfl⟩ := e
        obtain ⟨a, xs, rfl, h, rs⟩ := lstOf_ok (ds := ds) s r (by simp [lstOf, q])
        exact .lst (.of h) (allD_ok (pyDD_ok s k) ds xs ps rs e1)
      | dct kvs => simp [q] at e
      | ins c fs => simp [q] at e
      | dcn kvs => simp [q] at e
  | k + 1, .lst ds, x, p, r, e => by
    simp only [pyDD, Option.map_eq_some_iff] at e
    obtain ⟨ps, e1, rfl⟩ := e
    simp only [RV] at r
    obtain ⟨a, xs, rfl, _, q, rs⟩ := r
    exact .lst (.of q) (allD_ok (pyDD_ok s k) ds xs ps rs e1)
  | k + 1, .tup ds, x, p, r, e => by
    simp only [pyDD, Option.map_eq_some_iff] at e
    obtain ⟨ps, e1, rfl⟩ := e
    obtain ⟨a, xs, rfl, q, rs⟩ := rvTup r
    exact .tup q (allD_ok (pyDD_ok s k) ds xs ps rs e1)
  | k + 1, .non, x, p, r, e => pyV_ok _ x p r e
  | k + 1, .bl _, x, p, r, e => pyV_ok _ x p r e
  | k + 1, .int _, x, p, r, e => pyV_ok _ x p r e
  | k + 1, .str _, x, p, r, e => pyV_ok _ x p r e
  | k + 1, .fzl _, x, p, r, e => pyV_ok _ x p r e
  | k + 1, .glo _, x, p, r, e => pyV_ok _ x p r e
  | k + 1, .ty _, x, p, r, e => pyV_ok _ x p r e
end
def eqDB (st : DSt) (x y : DV) : Option Bool := (pyDD st 3 x).bind fun p => (pyDD st 3 y).bind fun q => if (SeqAt.shaped p && SeqAt.shaped q) = true then some (PyData.eqv p q) else none
def eqDP (x y : DV) (st : DSt) : Option (DV × DSt) := (eqDB st x y).map fun b => (.bl b, st)
def neDP (x y : DV) (st : DSt) : Option (DV × DSt) := (eqDB st x y).map fun b => (.bl (!b), st)
section
variable {g : Gam}
theorem pr_eqD : Prim2 g (fun x y H Q => rEq x y H Q ∨ rEqD g.K x y H Q) eqDP := by
  intro φ st H x y dx dy Q s rx ry h
  unfold eqDP eqDB at h
  cases ep : pyDD st 3 dx with
  | none => simp only [ep] at h; exact h.elim
  | some p =>
    cases eq' : pyDD st 3 dy with
    | none => simp only [ep, eq'] at h; exact h.elim
    | some q =>
      simp only [ep, eq', Option.bind_some] at h
      split at h
      · rename_i hs
        simp only [Bool.and_eq_true] at hs
        exact .inr ⟨p, q, pyDD_ok s 3 dx x p rx ep, pyDD_ok s 3 dy y q ry eq', hs.1, hs.2, po1 s h mkRVbl⟩
      · exact h.elim
theorem pr_neD : Prim2 g (fun x y H Q => rNe x y H Q ∨ rNeD g.K x y H Q) neDP := by
  intro φ st H x y dx dy Q s rx ry h
  unfold neDP eqDB at h
  cases ep : pyDD st 3 dx with
  | none => simp only [ep] at h; exact h.elim
  | some p =>
    cases eq' : pyDD st 3 dy with
    | none => simp only [ep, eq'] at h; exact h.elim
    | some q =>
      simp only [ep, eq', Option.bind_some] at h
      split at h
      · rename_i hs
        simp only [Bool.and_eq_true] at hs
        exact .inr ⟨p, q, pyDD_ok s 3 dx x p rx ep, pyDD_ok s 3 dy y q ry eq', hs.1, hs.2, po1 s h mkRVbl⟩
      · exact h.elim
end
end DM

/-! DM21: truths among numbers, tuples joined and turned about. -/
namespace HT
open PySem PySem.Spec PyProof.Rows
section
variable {prog : Program} {w : World} {A : Around} {E : Value → Shared → Prop} {s : Shared}
theorem back_adjust (n : Nat) : Builtin.Slice.sliceAdjust none none (-1) (n : Int) = ((n : Int) - 1, -1) := by
  simp [Builtin.Slice.sliceAdjust]
theorem back_places (n : Nat) : Builtin.Slice.slicePlaces ((n : Int) - 1) (-1) (-1) = n := by
  unfold Builtin.Slice.slicePlaces
  have h1 : ¬ ((-1 : Int) > 0) := by omega
  simp only [h1, if_false]
  by_cases h : ((n : Int) - 1 > -1)
  · rw [if_pos h]
    have e : ((n : Int) - 1 - -1 - 1) / (- -1) + 1 = n := by
      rw [show (- -1 : Int) = 1 by decide, Int.ediv_one]
      omega
    rw [e]
    rfl
  · rw [if_neg h]
    omega
theorem back_applied {sl : Addr} {vl vu vs : Value} {n : Nat} {Q : Int × Int × Nat → Shared → Prop} (hs : s.heap.IsSliceOf sl vl vu vs) (pl : IsPart vl none) (pu : IsPart vu none) (ps : IsPart vs (some (-1)))
    (h : Q ((n : Int) - 1, -1, n) s) : wpAny (model prog w) A (Builtin.Slice.sliceApplied (.ref sl) (pure (n : Int))) Q E s := by
  obtain ⟨ob, hob, hcl, hda⟩ := id hs
  unfold Builtin.Slice.sliceApplied Builtin.Slice.sliceFields
  refine wpAny_bind (wpAny_bind (wpAny_field hob hda (x := vl) rfl ?_))
  refine wpAny_bind (wpAny_field hob hda (x := vu) rfl ?_)
  refine wpAny_bind (wpAny_field hob hda (x := vs) rfl (wpAny_pure ?_))
  refine wpAny_bind (slicePart_ ps ?_)
  show wpAny _ _ (if ((-1 : Int) == 0) = true then _ else _) _ _ s
  rw [if_neg (by decide)]
  refine wpAny_bind (slicePart_ pl ?_)
  refine wpAny_bind (slicePart_ pu ?_)
  refine wpAny_bind (wpAny_pure ?_)
  show wpAny _ _ (match Builtin.Slice.sliceAdjust none none (-1) (n : Int) with | (a, b) => pure (a, (-1 : Int), Builtin.Slice.slicePlaces a b (-1))) _ _ s
  rw [back_adjust]
  show wpAny _ _ (pure ((n : Int) - 1, (-1 : Int), Builtin.Slice.slicePlaces ((n : Int) - 1) (-1) (-1))) _ _ s
  rw [back_places]
  exact wpAny_pure h
theorem back_pick (xs : Array Value) : ((List.range xs.size).filterMap fun (m : Nat) => xs[((xs.size : Int) - 1 + (m : Int) * -1).toNat]?).toArray = xs.toList.reverse.toArray := by
  obtain ⟨l⟩ := xs
  show (List.filterMap (fun (m : Nat) => l.toArray[((l.length : Int) - 1 + (m : Int) * -1).toNat]?) (List.range l.length)).toArray = l.reverse.toArray
  congr 1
  have e : (List.range l.length).filterMap (fun (m : Nat) => l.toArray[((l.length : Int) - 1 + (m : Int) * -1).toNat]?) = (List.range l.length).map fun m => l.reverse.getD m .none := by
    rw [DM.filterMap_all (k := fun m => l.reverse.getD m .none)]
    intro m hm
    have hm := List.mem_range.mp hm
    have e1 : ((l.length : Int) - 1 + (m : Int) * -1).toNat = l.length - 1 - m := by omega
    simp only [e1, List.getElem?_toArray]
    rw [List.getD_eq_getElem?_getD, List.getElem?_reverse hm, List.getElem?_eq_getElem (by omega)]
    rfl
  rw [e]
  refine List.ext_getElem (by simp) fun i h1 h2 => ?_
  simp at h1
  simp [h1]
/-- a tuple from behind -/
theorem back_tuple {t sl : Addr} {items : Array Value} {vl vu vs : Value} {Q : Value → Shared → Prop} (ht : IsTup s.heap t items) (hs : s.heap.IsSliceOf sl vl vu vs) (pl : IsPart vl none) (pu : IsPart vu none) (ps : IsPart vs (some (-1)))
    (h : Q (.ref s.heap.objs.size) { s with heap := s.heap.push { cls := .type "tuple", data := .seq items.toList.reverse.toArray } }) (hsz : items.size ≤ sizeLine) : wpAny (model prog w) A (getItem (.ref t) (.ref sl)) Q E s := by
  have small : sizeOk (.seq items.toList.reverse.toArray) := by
    show items.toList.reverse.toArray.size ≤ sizeLine
    simpa using hsz
  obtain ⟨ob, hob, hcl, hda⟩ := id hs
  have isSl : s.TypeIs (.ref sl) "slice" := ⟨ob, hob, hcl⟩
  unfold getItem
  try with_reducible refine wpAny_holding ?_
  first | refine wpAny_bind (wpAny_pure ?_) | skip
  refine wpAny_bind (wpAny_sequenceKey ht.typeIs (by decide) ?_)
  refine wpAny_bind (wpAny_callSpecial?_slot (name := Str.ofString "__getitem__") ht.typeIs PyProof.Rows.slot_tuple_getitem ?_)
  refine wpAny_call_entry PyProof.Rows.slot_tuple_getitem ht.typeIs entry_tuple_getitem ?_ (args_tuple_getitem (.ref t) (.ref sl))
  refine wpAny_bind (m := Builtin.Tuple.tupleItemsOf (.ref t)) (tupleItemsOf_ ht (wpAny_bind (m := typeOf (.ref sl)) (wpAny_typeOf isSl ?_)))
  rw [if_pos (by decide)]
  refine wpAny_bind (back_applied hs pl pu ps ?_)
  have other : ¬ ((((items.size : Int) - 1) == 0 && (-1 : Int) == 1 && items.size == items.size) = true) := by simp
  show wpAny _ _ (if (((items.size : Int) - 1) == 0 && (-1 : Int) == 1 && items.size == items.size) = true then _ else _) _ _ s
  rw [if_neg other, back_pick]
  have fin := h
  first
    | exact wpAny_bind (m := Builtin.Tuple.tupleExact _) (wpAny_newObj_type (wpAny_pure ⟨_, rfl, wpAny_pure fin⟩) small)
    | exact wpAny_bind (m := Builtin.Tuple.tupleExact _) (wpAny_newObj_type (wpAny_bind (wpAny_pure (wpAny_pure ⟨_, rfl, wpAny_pure fin⟩))) small)
    | exact wpAny_bind (wpAny_bind (m := Builtin.Tuple.tupleExact _) (wpAny_newObj_type (wpAny_pure (wpAny_pure ⟨_, rfl, wpAny_pure fin⟩)) small))
    | exact wpAny_bind (wpAny_bind (m := Builtin.Tuple.tupleExact _) (wpAny_newObj_type (wpAny_pure ⟨_, rfl, wpAny_pure fin⟩) small))
end
end HT
namespace DM
open PySem PySem.Spec PyProof.Rows L2
/-! ### truths among numbers -/
abbrev b2 (k : Bool) : Int := if k = true then 1 else 0
section
variable {X : Cx} {g : Gam}
theorem op_add_bi : OpR X (binaryOp .Add) (fun x y H Q => ∃ k i, x = .bl k ∧ y = .int i ∧ Q (.int (b2 k + i)) H) := by
  intro pins s σ H x y v u Q I rx ry h
  obtain ⟨k, i, rfl, rfl, q⟩ := h
  cases rx
  obtain ⟨t, rfl⟩ := ry
  exact PySem.IntBool.add_bool_int ⟨.int (b2 k + i), H, I.tok _, ⟨_, rfl⟩, q⟩
theorem op_sub_bi : OpR X (binaryOp .Sub) (fun x y H Q => ∃ k i, x = .bl k ∧ y = .int i ∧ Q (.int (b2 k - i)) H) := by
  intro pins s σ H x y v u Q I rx ry h
  obtain ⟨k, i, rfl, rfl, q⟩ := h
  cases rx
  obtain ⟨t, rfl⟩ := ry
  exact PySem.IntBool.sub_bool_int ⟨.int (b2 k - i), H, I.tok _, ⟨_, rfl⟩, q⟩
theorem op_sub_ib : OpR X (binaryOp .Sub) (fun x y H Q => ∃ i k, x = .int i ∧ y = .bl k ∧ Q (.int (i - b2 k)) H) := by
  intro pins s σ H x y v u Q I rx ry h
  obtain ⟨i, k, rfl, rfl, q⟩ := h
  obtain ⟨t, rfl⟩ := rx
  cases ry
  exact PySem.IntBool.sub_int_bool ⟨.int (i - b2 k), H, I.tok _, ⟨_, rfl⟩, q⟩
/-- a + b, truths and empty tuples too -/
def addXP : DV → DV → DSt → Option (DV × DSt)
  | .bl k, .int i, st => some (.int (b2 k + i), st)
  | .tup a, .tup b, st => if a.length + b.length ≤ sizeLine then some (.tup (a ++ b), st) else none
  | x, y, st => addP x y st
def rAddX (K : PySem.W.Frag) : R2 := fun x y H Q => rAddA K x y H Q ∨ ((∃ k i, x = .bl k ∧ y = .int i ∧ Q (.int (b2 k + i)) H) ∨ rCatA K x y H Q)
theorem or_addX : OpR X (binaryOp .Add) (rAddX X.K) := or_add.or (op_add_bi.or op_catA)
theorem pr_addX : Prim2 g (rAddX g.K) addXP := by
  intro φ st H x y dx dy Q s rx ry h
  unfold addXP at h
  split at h
  · rename_i k i
    have e1 : x = .bl k := by simpa [RV] using rx
    subst e1
    cases rvInt ry
    exact .inr (.inl ⟨_, _, rfl, rfl, po1 s h mkInt⟩)
  · obtain ⟨a, xs, rfl, ha, ra⟩ := rvTup rx
    obtain ⟨b, ys, rfl, hb, rb⟩ := rvTup ry
    split at h
    · rename_i hl
      refine .inr (.inr ⟨a, b, xs, ys, rfl, rfl, ha, hb, by rw [← ra.length, ← rb.length]; exact hl, fun z => ?_, fun _ z => ?_, fun _ _ => ?_⟩)
      · subst z
        have e : _ = [] := List.eq_nil_of_length_eq_zero ra.length
        subst e
        exact po1 s h ry
      · subst z
        have e : _ = [] := List.eq_nil_of_length_eq_zero rb.length
        subst e
        exact po1 s h (by rw [List.append_nil]; exact rx)
      · exact new_tup s (RVs.append ra rb) h
    · exact h.elim
  · exact .inl (pr_add φ st H x y _ _ Q s rx ry h)
def subXP : DV → DV → DSt → Option (DV × DSt)
  | .bl k, .int i, st => some (.int (b2 k - i), st)
  | .int i, .bl k, st => some (.int (i - b2 k), st)
  | x, y, st => subP x y st
def rSubX : R2 := fun x y H Q => rI0 (fun i j => .int (i - j)) x y H Q ∨ ((∃ k i, x = .bl k ∧ y = .int i ∧ Q (.int (b2 k - i)) H) ∨ ∃ i k, x = .int i ∧ y = .bl k ∧ Q (.int (i - b2 k)) H)
theorem or_subX : OpR X (binaryOp .Sub) rSubX := op_sub.or (op_sub_bi.or op_sub_ib)
theorem pr_subX : Prim2 g rSubX subXP := by
  intro φ st H x y dx dy Q s rx ry h
  unfold subXP at h
  split at h
  · rename_i k i
    have e1 : x = .bl k := by simpa [RV] using rx
    subst e1
    cases rvInt ry
    exact .inr (.inl ⟨_, _, rfl, rfl, po1 s h mkInt⟩)
  · rename_i i k
    have e1 : y = .bl k := by simpa [RV] using ry
    subst e1
    cases rvInt rx
    exact .inr (.inr ⟨_, _, rfl, rfl, po1 s h mkInt⟩)
  · exact .inl (pr_sub φ st H x y _ _ Q s rx ry h)
/-! ### str of a truth -/
theorem cr_strB : CallR X (.type "str") (fun xs H Q => ∃ b : Bool, xs = [.bl b] ∧ Q (.str (if b = true then "True" else "False")) H) := by
  intro pins s σ H xs us Q I r h
  obtain ⟨b, rfl, q⟩ := h
  obtain ⟨u, rfl, ru⟩ := vals1 r
  cases ru
  exact P.str_of_bool ⟨.str (if b = true then "True" else "False"), H, I.tok _, ⟨_, rfl⟩, q⟩
def strXP : PrF
  | [.bl b], st => some (.str (if b = true then "True" else "False"), st)
  | ds, st => strP ds st
def rStrX : List V → Hp → VK → Prop := fun xs H Q => rStrA xs H Q ∨ ∃ b : Bool, xs = [.bl b] ∧ Q (.str (if b = true then "True" else "False")) H
theorem cr_strX : CallR X (.type "str") rStrX := cr_str.or cr_strB
theorem pr_strX : PrimL g rStrX strXP := by
  intro φ st H vs ds Q s r h
  unfold strXP at h
  split at h
  · rename_i b
    obtain ⟨x, rfl, rx⟩ := rvs1 r
    have e1 : x = .bl b := by simpa [RV] using rx
    subst e1
    exact .inr ⟨b, rfl, po1 s h mkStr⟩
  · exact .inl (pr_str φ st H vs _ Q s r h)
end
end DM

/-! DM22: enumerate of a tuple. -/
namespace PySem
open Sem (wp)
open AutoSeq1 (wpAny_loadPart')
set_option maxHeartbeats 1000000 in
theorem enumNew1 {v : Value} {o : Obj} {H : Heap → Prop} (B : Begins v o H) :
    Meets (Builtin.«enumerate.__new__» ⟨[.type "enumerate", v], []⟩) (fun _ R s => H s.heap ∧
      R (.ok (.ret (.ref (s.heap.push o).objs.size))) { s with heap := (s.heap.push o).push { cls := .type "enumerate", data := .fields #[.none, .bool false, .ref s.heap.objs.size, rawInt 0, .none, .none] } }) :=
  .of_wp fun prog w A R s hh => by
    obtain ⟨hp, gs, dr, tk, os⟩ := s
    obtain ⟨ok, fin⟩ := hh
    have hsub := sub_enumerate
    have begins : ∀ {A' : Around} {E : Value → Shared → Prop} {Q : Value → Shared → Prop}, Q (.ref hp.objs.size) ⟨hp.push o, gs, dr, tk, os⟩ → wpAny (model prog w) A' (pyIter v) Q E ⟨hp, gs, dr, tk, os⟩ :=
      fun z => B.iter prog w _ _ ⟨hp, gs, dr, tk, os⟩ _ ok z
    wp_walk using begins
    refine wpAny_stack_any fun st => wpAny_pure ?_
    split
    · rename_i c _ _ _ _ _
      cases (c == Value.type "enumerate") <;> wp_walk using begins <;> exact ⟨_, rfl, fin⟩
    · wp_walk using begins
      exact ⟨_, rfl, fin⟩
section
variable {prog : Program} {w : World} {A : Around} {E : Value → Shared → Prop} {s : Shared}
theorem enumCall1 {v : Value} {o : Obj} {H : Heap → Prop} {Q : Value → Shared → Prop} (B : Begins v o H) (h1 : H s.heap)
    (h : ∀ h', IsEnum h' (s.heap.objs.size + 1) s.heap.objs.size 0 .none → h'.get? s.heap.objs.size = some o → h'.objs.size = s.heap.objs.size + 2 →
      (∀ b o, s.heap.get? b = some o → h'.get? b = some o) → Q (.ref (s.heap.objs.size + 1)) { s with heap := h' }) :
    wpAny (model prog w) A (call (.type "enumerate") [v]) Q E s := by
  have sz : (s.heap.push o).objs.size = s.heap.objs.size + 1 := Heap.size_push ..
  refine callType_new F.called_enumerate (by decide) (F.typeCall_enumerate_1 _) (F.newCall_enumerate_1 _) (fun obj => F.args_object_init_2 obj _) F.entry_enumerate_new (enumNew1 B) ⟨h1, ?_⟩
  show _ ∧ _
  rw [sz]
  have made := Heap.get?_push_size (s.heap.push o) (o := { cls := .type "enumerate", data := .fields #[.none, .bool false, .ref s.heap.objs.size, rawInt 0, .none, .none] }) rfl
  rw [sz] at made
  exact ⟨⟨_, made, rfl⟩, h _ made (Heap.get?_push_of_some _ (Heap.get?_push_size _ B.free)) (by rw [Heap.size_push, sz]) fun b o x => Heap.get?_push_of_some _ (Heap.get?_push_of_some _ x)⟩
theorem enumEndT {e it t : Addr} {i : Nat} {c : Int} {items : Array Value} {old : Value} {Q : Option Value → Shared → Prop} (hh : A.handled = none) (he : IsEnum s.heap e it c old) (hit : s.heap.IsTupleIter it t i) (ht : s.heap.IsTuple t items) (hx : items[i]? = none)
    (hQ : ∀ h', Heap.ExtBut it s.heap h' → Q none { s with heap := h' }) : wpAny (model prog w) A (pyNext (.ref e)) Q E s := by
  have isE : s.TypeIs (.ref e) "enumerate" := ⟨_, he, rfl⟩
  unfold pyNext
  refine wpAny_bind (wpAny_attempt (wpAny_callSpecial?_slot (name := Str.ofString "__next__") isE F.slot_enumerate_next (wpAny_call_entry F.slot_enumerate_next isE F.entry_enumerate_next ?_ (F.args_enumerate_next_1 _))))
  show wpAny _ _ (field (.ref e) 2 >>= _) _ _ _
  refine wpAny_bind (wpAny_field he rfl (x := .ref it) rfl (wpAny_bind (wpAny_nextOf_tuple_end hh hit ht hx fun h' x eb ex => ?_)))
  obtain ⟨o, ho, hc⟩ := ex
  exact wpAny_bind (wpAny_isInstance (T := "StopIteration") (b := true) ⟨o, ho, hc⟩ isSubtype_stop (wpAny_pure (hQ _ eb)))
end
end PySem
namespace L2
open PySem PySem.Spec PyProof.Rows
/-- the tuple at a, each item in a new pair -/
def ItE (K : PySem.W.Frag) (a : Addr) : It :=
  ⟨fun i H => ∃ (xs : List V) (x : V), SqT K H a xs ∧ xs[i]? = some x, fun i H v H' => ∃ T x, v = .ref T ∧ H T = none ∧ H' = upd H T (.tup [.int (i : Nat), x]) ∧ ∀ xs, SqT K H a xs → xs[i]? = some x, fun i H => ∃ xs : List V, SqT K H a xs ∧ xs.length ≤ i⟩
theorem turn_enumT {P : Program} {w : World} {K : PySem.W.Frag} {elts : List Expr} {kk : Nat} {tpos : Pos} (a e it : Addr) :
    Turn P w K (.Tuple elts kk tpos) (ItE K a) [e, it] e (fun i h => (∃ old, IsEnum h e it ((i : Nat) : Int) old) ∧ h.IsTupleIter it a i ∧ e ≠ it ∧ a ≠ it ∧ a ≠ e) where
  mem := by simp
  obj := fun i h st b hb => by
    obtain ⟨⟨old, he⟩, ⟨o, ho, hc, hd⟩, _⟩ := st
    have two : b = e ∨ b = it := by simpa using hb
    rcases two with z | z
    · exact z ▸ ⟨_, he, fun v q => nomatch q⟩
    · exact z ▸ ⟨o, ho, fun v q => by rw [hd] at q; cases q⟩
  keep := fun i h h' st k => let ⟨⟨old, he⟩, hi, r⟩ := st; ⟨⟨old, k e (by simp) _ he⟩, hi.at fun o q => k it (by simp) o q, r⟩
  item := by
    intro X hP hw hK hc i pins s σ H E I hf st hg
    subst hP hw hK
    obtain ⟨⟨old, he⟩, hit, hne, hna, hnae⟩ := st
    obtain ⟨xs, x, hq, hx⟩ := hg
    obtain ⟨its, rv, p, hz⟩ := I.tuple hq
    obtain ⟨u, hu, ru⟩ := rv.get hx
    have lte : e < s.heap.objs.size := Heap.lt_size he
    have lti : it < s.heap.objs.size := by obtain ⟨_, q, _⟩ := hit; exact Heap.lt_size q
    have D := Draws.tuple (prog := X.prog) (w := X.w) (A := X.A.in1) (I.ok.hd hc) it a hna its.toArray
    have li : i < its.toArray.size := by
      have := (List.getElem?_eq_some_iff.mp hu).1
      simpa using this
    refine wpAny_pyNext_enum_itemD D he ⟨hit, p⟩ li hne (by simp; exact ⟨hne, fun z => hnae z.symm⟩) fun y h' tk hP ho hst hT hsz hk => ?_
    have ey : y = u := by
      have h1 : its.toArray[i]? = some y := hP
      simp only [List.getElem?_toArray] at h1
      rw [hu] at h1
      exact (Option.some.inj h1).symm
    subst ey
    refine ⟨_, rfl, wpAny_letOwnedTupleGo_enum (s := { s with heap := h', toks := tk + 1 }) ho fun h'' he' sb => ?_⟩
    have hT2 : h''.get? s.heap.objs.size = some { cls := .type "tuple", data := .seq #[.int i tk, y] } := (sb.2 _ (Nat.ne_of_gt lte)).trans hT
    have new : ObjOk X.prog X.w (upd H s.heap.objs.size (.tup [.int (i : Nat), x])) h'' s.heap.objs.size (.tup [.int (i : Nat), x]) :=
      ⟨by show 2 ≤ sizeLine; decide, [.int i tk, y], .cons ⟨_, rfl⟩ (.cons ru .nil), ⟨_, hT2, rfl, _, rfl⟩⟩
    have I1 : Inv X pins σ (upd H s.heap.objs.size (.tup [.int (i : Nat), x])) { s with heap := h'', toks := tk + 1 } :=
      I.turnedNew (ch := [e, it]) (fun b ob hb q => (sb.2 b (fun z => hb (by simp [z]))).trans (hk b ob (fun z => hb (by simp [z])) (fun z => hb (by simp [z])) q)) hf (Nat.le_refl _) new
    refine ⟨.ref s.heap.objs.size, _, I1, rfl, ⟨_, x, rfl, I.hok.fresh (Nat.le_refl _), rfl, fun ys hy => ?_⟩, ⟨⟨y, ?_⟩, hst.1.at fun o q => (sb.2 it (Ne.symm hne)).trans q, hne, hna, hnae⟩, fun b hb => ?_⟩
    · rw [I.tuple_inj hy hq]; exact hx
    · have e1 : ((i + 1 : Nat) : Int) = (i : Int) + 1 := by omega
      rw [e1]; exact he'
    · have lb : b < s.heap.objs.size := by
        have two : b = e ∨ b = it := by simpa using hb
        rcases two with z | z
        · rw [z]; exact lte
        · rw [z]; exact lti
      rw [upd_ne (Nat.ne_of_lt lb)]
      exact (hf b hb).1
  done := by
    intro X hP hw hK hc i pins s σ H E I hf st hg
    subst hP hw hK
    obtain ⟨⟨old, he⟩, hit, hne, hna, hnae⟩ := st
    obtain ⟨xs, hq, hx⟩ := hg
    obtain ⟨its, rv, p, hz⟩ := I.tuple hq
    obtain ⟨f0, f1, f2, f3, f4, f5⟩ := hf it (by simp)
    have hl := rv.length
    exact enumEndT (I.ok.hd hc) he hit p (by rw [List.getElem?_toArray, List.getElem?_eq_none (by omega)]) fun h' eb => ⟨rfl, I.turned (t' := s.toks) (fun b o hb q => eb b o hb q) f0 f1 f3 f4 f5⟩
  self := fun A i s Q E st h => let ⟨⟨_, he⟩, _⟩ := st; wpAny_pyIter_enum he h
def iEnT (K : PySem.W.Frag) (ta : TA) : TI := fun σ H R => ta σ H fun vs H1 => ∃ a xs, vs = [.ref a] ∧ SqT K H1 a xs ∧ R (ItE K a) H1
theorem pi_enumT {X : Cx} {e : Expr} {ta : TA} {p pos tpos : Pos} {elts : List Expr} {kk : Nat} (hg : Gl X "enumerate") (hm : X.mg "enumerate" = none) (ha : PA X [e] ta) (hs : starEach [e] X.env = [(false, eval e X.env)] := by rfl) :
    PI X (.Tuple elts kk tpos) (.Call (.Name "enumerate" p) [e] [] pos) (iEnT X.K ta) := by
  refine ⟨fun pins s σ H R I h => ?_⟩
  refine Call_ (ld_blt I hg hm boot_enumerate (PyProof.Rows.callWith_type1 (thn (ha.run pos pins s σ H _ I h) fun us s1 ⟨vs, H1, I1, r1, q1⟩ => ?_) hs rfl))
  obtain ⟨a, xs, ex, hq, q⟩ := q1
  subst ex
  cases r1 with
  | cons r rr =>
    cases rr
    cases r
    obtain ⟨its, rv, tp, hz⟩ := I1.tuple hq
    have lta : a < s1.heap.objs.size := by obtain ⟨o, ho, _⟩ := tp; exact Heap.lt_size ho
    refine enumCall1 (begins_tuple a its.toArray) tp fun h' he hit hsz hk => wpAny_pyIter_enum he ?_
    have I2 : Inv X pins σ H1 { s1 with heap := h' } := I1.kept (t' := s1.toks) hk
    refine ⟨s1.heap.objs.size + 1, [s1.heap.objs.size + 1, s1.heap.objs.size], _, _, H1, rfl, I2, turn_enumT a (s1.heap.objs.size + 1) s1.heap.objs.size, ⟨⟨.none, he⟩, ⟨_, hit, rfl, rfl⟩, Nat.succ_ne_self _, Nat.ne_of_lt lta, Nat.ne_of_lt (Nat.lt_succ_of_lt lta)⟩, fun b hb => ?_, q⟩
    have two : b = s1.heap.objs.size + 1 ∨ b = s1.heap.objs.size := by simpa using hb
    have hle : s1.heap.objs.size ≤ b := by
      rcases two with z | z
      · exact z ▸ Nat.le_succ _
      · exact z ▸ Nat.le_refl _
    exact I1.fpOk hle (I1.hok.fresh hle)
end L2
namespace DM
open PySem PySem.Spec PyProof.Rows L2
def iEnumT (a : Exs) : Im := fun env st => (a env st).bind fun ds st1 => match ds with
  | [.tup es] => .ok (.items (numd es)) st1
  | _ => .bad
section
variable {X : Cx} {g : Gam} {W : WX} {ms : Exs}
theorem pi_iEnumT {elts : List Expr} {kk : Nat} {tpos p pos : Pos} {a : Expr} (hK : X.K = g.K) (hg : Gl X "enumerate") (hm : X.mg "enumerate" = none) (ha : PA X [a] (TM g (RVs g) W ms)) (hs : starEach [a] X.env = [(false, eval a X.env)] := by rfl) :
    PI X (.Tuple elts kk tpos) (.Call (.Name "enumerate" p) [a] [] pos) (TM g (RIt g) W (iEnumT ms)) :=
  (pi_enumT hg hm ha hs).imp fun σ H R ⟨φ, env, st, s, n, h⟩ => ⟨φ, env, st, s, n, Post.bind h fun ds st1 φ1 H1 vs x1 s1 r1 h1 => by
    split at h1
    · rename_i es
      obtain ⟨x, rfl, rx⟩ := rvs1 r1
      obtain ⟨a, xs, rfl, hx, rx⟩ := rvTup rx
      refine ⟨a, xs, rfl, by rw [hK]; exact hx, h1 φ1 H1 _ Ext.refl s1 ?_⟩
      intro φ' H' st' i w s'
      have hx' : SqT g.K H' a xs := SqT.extW s1.tame w hx
      have r' := RVs.extW s1.tame w _ _ rx
      have hlen : (numd es).length = es.length := by simp [numd]
      rw [hK]
      refine ⟨fun hi => ?_, fun hi => ⟨xs, hx', by rw [← rx.length]; omega⟩⟩
      obtain ⟨v, hv, rv⟩ := r'.get (List.getElem?_eq_getElem (show i < es.length by omega))
      refine ⟨⟨xs, v, hx', hv⟩, fun y H2 ⟨T, z, e1, hT, e2, e3⟩ => ?_⟩
      subst e1
      subst e2
      have e4 := e3 xs hx'
      rw [hv] at e4
      cases e4
      refine ⟨Ext.new s' hT, s'.new hT, .tup [.int (i : Nat), es[i]], ?_, ?_⟩
      · have hi' : i < es.length := by omega
        simp [numd, hi']
      · simp only [RV]
        exact ⟨T, _, rfl, .of upd_same, RVs.cons mkInt (RVs.one (RV.ext s'.tame (Ext.new s' hT) _ _ rv))⟩
    · exact h1.elim⟩
end
end DM

/-! DM23: a dict of numbers by a comprehension; a list's place of a number; a tuple from behind. -/
namespace DM
open PySem PySem.Spec PyProof.Rows L2
/-- {k: True for k in ..}, of numbers -/
def eDcT (im : Im) (i : Nat) (own : List Nat) : Ex := fun env st => (im env st).bind fun it st1 => match it with
  | .items ds => (match allOf intOf ds with
    | some ns => if ns.length ≤ 1000 ∧ i < env.length then .ok (.ref st1.length) (st1 ++ [.dct (mergeG [] (ns.map fun k => (.inl k, .bl true)))]) else .bad
    | none => .bad)
  | _ => .bad
theorem allOf_ints : ∀ {ds : List DV} {ns : List Int}, allOf intOf ds = some ns → ds = ns.map .int
  | [], ns, h => by simp only [allOf, Option.some.injEq] at h; subst h; rfl
  | d :: ds, ns, h => by
    simp only [allOf, Option.bind_eq_some_iff, Option.map_eq_some_iff] at h
    obtain ⟨k, h1, r, h2, rfl⟩ := h
    rw [allOf_ints h2]
    cases d <;> simp only [intOf, Option.some.injEq, reduceCtorEq] at h1
    subst h1
    rfl
theorem wipeE_len (env : DEnv) : ∀ own : List Nat, (wipeE env own).length = env.length
  | [] => rfl
  | v :: vs => by
    show ((wipeE env vs).set v none).length = _
    rw [List.length_set, wipeE_len env vs]
theorem putG_len {α : Type} (kvs : List (Key × α)) (k : Key) (v : α) : (putG kvs k v).length ≤ kvs.length + 1 := by
  unfold putG
  split
  · simp
  · simp
theorem mergeG_snoc {α : Type} (a b : List (Key × α)) (p : Key × α) : mergeG a (b ++ [p]) = putG (mergeG a b) p.1 p.2 := by
  simp [mergeG]
theorem mergeG_len {α : Type} : ∀ (b a : List (Key × α)), (mergeG a b).length ≤ a.length + b.length
  | [], a => by simp [mergeG]
  | p :: b, a => by
    show (mergeG (putG a p.1 p.2) b).length ≤ _
    have h1 := mergeG_len b (putG a p.1 p.2)
    have h2 := putG_len a p.1 p.2
    simp only [List.length_cons]
    omega
section
variable {X : Cx} {g : Gam} {W W0 : WX} {kx vx tg iter : Expr} {scope : Scope} {ownN : List (Str × Nat)} {pos : Pos} {im : Im} {i : Nat}
theorem pe_eDcT (hc : X.calm = true) (hN : X.N.Nodup) (hi : PI X tg iter (TM g (RIt g) W im)) (bk : BlkOk X.N X.env.scope scope ownN) (hio : i ∈ ownN.map (·.2))
    (hg : ∀ (s : Shared) (H : Hp) (C : Addr) (cl : List (Str × Addr)) (fp : List Addr), PG (X.blk s H scope (compEnvC scope cl C X.env) fp) tg (gName i))
    (hk : ∀ (s : Shared) (H : Hp) (C : Addr) (cl : List (Str × Addr)) (fp : List Addr), PE (X.blk s H scope (compEnvC scope cl C X.env) fp) kx (TM g (RV g) W0 (eVar i)))
    (hv : ∀ (s : Shared) (H : Hp) (C : Addr) (cl : List (Str × Addr)) (fp : List Addr), PE (X.blk s H scope (compEnvC scope cl C X.env) fp) vx (TM g (RV g) W0 (eC (.bl true)))) (hs : ∀ x, foldedSetIterable iter X.env x = pure x := by intro _; rfl) :
    PE X (.DictComp kx vx [⟨tg, iter, [], 0⟩] scope pos) (TM g (RV g) W (eDcT im i (ownN.map (·.2)))) :=
  (pe_dc hc hN hi bk hg (fun _ _ _ _ _ => pts_nil) hk hv hs).imp fun σ H Q ⟨φ, env, st, s, n, h⟩ => ⟨φ, env, st, s, n, Post.bind h fun it st1 φ1 H1 J x1 s1 r1 h1 D hD => by
    cases it with
    | refl m => exact h1.elim
    | items ds =>
      simp only at h1
      cases e : allOf intOf ds with
      | none => rw [e] at h1; exact h1.elim
      | some ns =>
        rw [e] at h1
        simp only at h1
        split at h1
        · rename_i hl
          have ed := allOf_ints e
          subst ed
          have n1 := (n.ext s.tame x1).wipe (ownN.map (·.2))
          have x2 : Ext φ1 (φ1.more D) H1 (upd H1 D (.dK [])) := Ext.newRef s1 hD
          have s2 : RSt g (φ1.more D) (upd H1 D (.dK [])) (st1 ++ [.dct []]) := s1.newRef hD ⟨[], rfl, by simp [RKs]⟩
          have atD : (φ1.more D).rf[st1.length]? = some D := by
            show (φ1.rf ++ [D])[st1.length]? = some D
            rw [← s1.len]
            simp
          refine ⟨fun j m H' => m = ns.length - j ∧ j ≤ ns.length ∧ Ext φ1 (φ1.more D) H1 H' ∧ RSt g (φ1.more D) H' (st1 ++ [.dct (mergeG [] ((ns.take j).map fun k => (.inl k, .bl true)))]), ⟨ns.length, by simp, Nat.zero_le _, x2, s2⟩, ?_⟩
          rintro j m H' ⟨rfl, hj, x3, s3⟩
          have r := r1 (φ1.more D) H' _ j x3.w s3
          rw [List.length_map] at r
          by_cases hlt : j < ns.length
          · obtain ⟨go, yld⟩ := r.1 hlt
            refine .inr ⟨go, fun (H2 : Hp) => (j + 1 ≤ ns.length ∧ Ext φ1 (φ1.more D) H1 H2 ∧ RSt g (φ1.more D) H2 (st1 ++ [.dct (mergeG [] ((ns.take (j + 1)).map fun k => (.inl k, .bl true)))])), fun H2 ⟨a, b, c⟩ => ⟨ns.length - (j + 1), by omega, rfl, a, b, c⟩, fun x H2 y => ?_⟩
            obtain ⟨x4, s4, d, hd, rd⟩ := yld x H2 y
            have ed : d = .int ns[j] := by
              rw [List.getElem?_map, List.getElem?_eq_getElem hlt] at hd
              exact (Option.some.inj hd).symm
            subst ed
            have x34 := x3.trans x4
            have n4 := n1.ext s1.tame x34
            refine tg_gN hio (φ1.more D) H2 (st1 ++ [DO.dct (mergeG [] ((ns.take j).map fun k => (.inl k, .bl true)))]) (wipeE env (ownN.map (·.2))) (L2.wipe σ (ownN.map (·.2))) (.int ns[j]) x _ s4 n4 rd ?_
            refine ⟨(wipeE env (ownN.map (·.2))).set i (some (.int ns[j])), rfl, fun φ5 H5 σ5 x5 s5 n5 w5 => ⟨?_, ?_⟩⟩
            · rw [w5, wipe_wipe]
            · have ephi : φ5 = φ1.more D := by
                obtain ⟨ψ, e1⟩ := x5.pre
                have l5 := s5.len
                have l4 := s4.len
                rw [e1, List.length_append] at l5
                have e2 : ψ = [] := List.eq_nil_of_length_eq_zero (by omega)
                rw [e2, List.append_nil] at e1
                have e3 := x5.rs
                cases φ5
                simp only at e1 e3
                rw [e1, e3]
              subst ephi
              refine (?_ : TM g (RV g) W0 (eVar i) σ5 H5 _)
              refine ⟨φ1.more D, _, _, s5, n5, ?_⟩
              have hv : eVar i ((wipeE env (ownN.map (·.2))).set i (some (.int ns[j]))) (st1 ++ [.dct (mergeG [] ((ns.take j).map fun k => (.inl k, .bl true)))]) = .ok (.int ns[j]) (st1 ++ [.dct (mergeG [] ((ns.take j).map fun k => (.inl k, .bl true)))]) := by
                unfold eVar
                rw [List.getElem?_set_self (by rw [wipeE_len]; exact hl.2)]
              rw [hv]
              intro φ6 H6 y6 x6 s6 r6
              cases rvInt r6
              refine ⟨φ6, _, _, s6, n5.ext s5.tame x6, ?_⟩
              intro φ7 H7 z7 x7 s7 r7
              have ez : z7 = .bl true := by simpa [RV] using r7
              subst ez
              have ephi : φ7 = φ1.more D := by
                obtain ⟨ψ, e1⟩ := (x6.trans x7).pre
                have l5 := s7.len
                have l4 := s4.len
                rw [e1, List.length_append] at l5
                have e2 : ψ = [] := List.eq_nil_of_length_eq_zero (by omega)
                rw [e2, List.append_nil] at e1
                have e3 := (x6.trans x7).rs
                cases φ7
                simp only at e1 e3
                rw [e1, e3]
              subst ephi
              obtain ⟨a, ho, h2, h3, h4⟩ := s7.get (n := st1.length) (o := .dct (mergeG [] ((ns.take j).map fun k => (.inl k, .bl true)))) (by simp)
              rw [atD] at h2
              cases h2
              obtain ⟨ks, rfl, rk⟩ := h4
              have lk : ks.length ≤ ns.length := by
                rw [← rk.length]
                have := mergeG_len ((ns.take j).map fun k => ((.inl k : Key), DV.bl true)) []
                simp only [List.length_map, List.length_take, List.length_nil] at this
                omega
              refine ⟨ks, .inl ns[j], rfl, h3, Nat.lt_of_le_of_lt lk (Nat.lt_of_le_of_lt hl.1 (by decide)), by omega, ?_, ?_⟩
              · exact (((x34.trans x5).trans x6).trans x7).trans (Ext.write s7 atD)
              · have sw := s7.write atD (o := .dct (putG (mergeG [] ((ns.take j).map fun k => (.inl k, .bl true))) (.inl ns[j]) (.bl true))) (ho := .dK (putK ks (.inl ns[j]) (.bl true))) ⟨_, rfl, rk.put (by simp [RV])⟩
                have e1 : (st1 ++ [DO.dct (mergeG [] ((ns.take j).map fun k => (.inl k, .bl true)))]).set st1.length (.dct (putG (mergeG [] ((ns.take j).map fun k => (.inl k, .bl true))) (.inl ns[j]) (.bl true))) = st1 ++ [.dct (mergeG [] ((ns.take (j + 1)).map fun k => (.inl k, .bl true)))] := by
                  rw [List.take_succ_eq_append_getElem hlt, List.map_append, List.map_cons, List.map_nil, mergeG_snoc]
                  simp
                rw [e1] at sw
                exact sw
          · have ej : j = ns.length := by omega
            subst ej
            refine .inl ⟨r.2 (by omega), ?_⟩
            rw [List.take_length] at s3
            exact h1 (φ1.more D) H' (.ref D) x3 s3 (by simp only [RV]; exact ⟨D, rfl, atD⟩)
        · exact h1.elim⟩
end
/-! ### repr of a tuple that holds dicts -/
mutual
def noList : PyData → Bool
  | .none => true
  | .bool _ => true
  | .int _ => true
  | .str _ => true
  | .list _ => false
  | .tuple xs => noLists xs
  | .dict _ => false
def noLists : List PyData → Bool
  | [] => true
  | x :: xs => noList x && noLists xs
end
section
variable {X : Cx} {pins : List (Addr × Obj)} {σ : L2.St} {H : Hp} {s : Shared}
mutual
theorem reads0 (I : Inv X pins σ H s) : ∀ (p : PyData) (x : V) (u : Value), Dp X.K H x p → RelV x u → noList p = true → Reads s.heap u p []
  | .none, _, _, d, r, _ => by cases d; cases r; exact .none
  | .bool b, _, _, d, r, _ => by cases d; cases r; exact .bool b
  | .int i, _, _, d, r, _ => by cases d; obtain ⟨t, rfl⟩ := r; exact .int i t
  | .str z, _, _, d, r, _ => by cases d; obtain ⟨t, rfl⟩ := r; exact .str z t
  | .list _, _, _, _, _, n => by simp [noList] at n
  | .dict _, _, _, _, _, n => by simp [noList] at n
  | .tuple ps, _, _, d, r, n => by
    cases d with
    | tup hs ha =>
      cases r
      obtain ⟨its, rv, ⟨o, ho, hc, m, hd⟩, _⟩ := I.tuple hs
      exact .tuple ho hc hd (reads0s I ps _ its ha rv (by simpa [noList] using n))
theorem reads0s (I : Inv X pins σ H s) : ∀ (ps : List PyData) (xs : List V) (us : List Value), DpAll X.K H xs ps → Vals xs us → noLists ps = true → ReadsAll s.heap us ps []
  | [], _, _, d, r, _ => by cases d; cases r; exact .nil
  | p :: ps, _, _, d, r, n => by
    simp only [noLists, Bool.and_eq_true] at n
    cases d with
    | cons d1 d2 =>
      cases r with
      | cons r1 r2 => exact ReadsAll.cons (as := []) (bs := []) (reads0 I p _ _ d1 r1 n.1) (reads0s I ps _ _ d2 r2 n.2)
end
end
def pyE (st : DSt) : DV → Option PyData
  | .ref n => (match st[n]? with
    | some (.dct kvs) => (pyKs kvs).map .dict
    | _ => none)
  | d => (pyV d).bind fun p => if noList p = true then some p else none
def pyR3 (st : DSt) : DV → Option PyData
  | .tup ds => (match pyVs ds with
    | some ps => some (.tuple ps)
    | none => (allD (pyE st) ds).map .tuple)
  | d => pyR st d
def reprXP : PrF := fun ds st => match ds with
  | [d] => (pyR3 st d).bind fun p => if okShow p = true then some (.str p.shown, st) else none
  | _ => none
section
variable {X : Cx} {g : Gam}
theorem pyE_ok (hK : X.K = g.K) {φ : Lay} {H : Hp} {st : DSt} (s : RSt g φ H st) {d : DV} {x : V} {p : PyData} (r : RV g φ H d x) (e : pyE st d = some p) :
    ∀ (pins : List (Addr × Obj)) (σ : L2.St) (s : Shared) (u : Value), Inv X pins σ H s → RelV x u → ∃ as, Reads s.heap u p as ∧ sysModules ∉ as := by
  intro pins σ s0 u I ru
  have val : (pyV d).bind (fun p => if noList p = true then some p else none) = some p → ∃ as, Reads s0.heap u p as ∧ sysModules ∉ as := fun e => by
    simp only [Option.bind_eq_some_iff] at e
    obtain ⟨p', e1, e2⟩ := e
    split at e2
    · rename_i n
      cases e2
      have dp := pyV_ok d x _ r e1
      rw [← hK] at dp
      exact ⟨[], reads0 I _ x u dp ru n, by simp⟩
    · cases e2
  cases d with
  | ref n =>
    simp only [pyE] at e
    cases q2 : st[n]? with
    | none => simp [q2] at e
    | some o =>
      cases o with
      | lst es => simp [q2] at e
      | ins c fs => simp [q2] at e
      | dcn kvs => simp [q2] at e
      | dct kvs =>
        simp only [q2, Option.map_eq_some_iff] at e
        obtain ⟨ps, e1, rfl⟩ := e
        obtain ⟨a, ho, h1, h2, ks, rfl, h3⟩ := s.get q2
        simp only [RV] at r
        obtain ⟨a', rfl, h4⟩ := r
        rw [h1] at h4
        cases h4
        obtain ⟨as, q1, q2⟩ := rdp_dict h2 h3 e1 pins σ s0 u I ru
        exact ⟨as, q1, q2 (by simp [PyData.hasDict])⟩
  | _ => exact val (by simpa [pyE] using e)
theorem pyEs_ok (hK : X.K = g.K) {φ : Lay} {H : Hp} {st : DSt} (s : RSt g φ H st) : ∀ {ds : List DV} {xs : List V} {ps : List PyData}, RVs g φ H ds xs → allD (pyE st) ds = some ps →
    ∀ (pins : List (Addr × Obj)) (σ : L2.St) (s : Shared) (us : List Value), Inv X pins σ H s → Vals xs us → ∃ as, ReadsAll s.heap us ps as ∧ sysModules ∉ as
  | [], xs, ps, r, e, pins, σ, s0, us, I, ru => by
    simp only [RVs] at r
    subst r
    simp only [allD, Option.some.injEq] at e
    subst e
    cases ru
    exact ⟨[], .nil, by simp⟩
  | d :: ds, xs, ps, r, e, pins, σ, s0, us, I, ru => by
    simp only [RVs] at r
    obtain ⟨y, r', rfl, r1, r2⟩ := r
    simp only [allD, Option.bind_eq_some_iff, Option.map_eq_some_iff] at e
    obtain ⟨p, e1, ps', e2, rfl⟩ := e
    cases ru with
    | cons u1 u2 =>
      obtain ⟨as, a1, a2⟩ := pyE_ok hK s r1 e1 pins σ s0 _ I u1
      obtain ⟨bs, b1, b2⟩ := pyEs_ok hK s r2 e2 pins σ s0 _ I u2
      exact ⟨as ++ bs, .cons a1 b1, by simp [a2, b2]⟩
theorem pr_reprX (hK : X.K = g.K) : PrimL g (rReprA X) reprXP := by
  intro φ st H vs ds Q s r h
  have old : PostO g (RV g) φ H Q (reprP ds st) → rReprA X vs H Q := pr_repr hK φ st H vs ds Q s r
  unfold reprXP at h
  split at h
  · rename_i d
    cases d with
    | tup es =>
      cases q : pyVs es with
      | some ps =>
        refine old ?_
        have e : pyR3 st (.tup es) = pyR st (.tup es) := by simp [pyR3, pyR, pyV, q]
        rw [e] at h
        exact h
      | none =>
        simp only [pyR3, q] at h
        cases q2 : allD (pyE st) es with
        | none => rw [q2] at h; exact h.elim
        | some ps =>
          rw [q2] at h
          simp only [Option.map_some, Option.bind_some] at h
          split at h
          · rename_i ok
            obtain ⟨x, rfl, rx⟩ := rvs1 r
            obtain ⟨a, xs, rfl, hx, rxs⟩ := rvTup rx
            refine ⟨_, .tuple ps, rfl, ?_, ok, po1 s h mkStr⟩
            intro pins σ s0 u I ru
            cases ru
            rw [← hK] at hx
            obtain ⟨its, rv, ⟨o, ho, hc, m, hd⟩, _⟩ := I.tuple hx
            obtain ⟨as, r1, r2⟩ := pyEs_ok hK s rxs q2 pins σ s0 its I rv
            exact ⟨as, .tuple ho hc hd r1, fun _ => r2⟩
          · exact h.elim
    | _ => exact old h
  · exact h.elim
end
/-! ### a list's place of a number -/
def lindexP (x : DV) (as : List DV) (st : DSt) : Option (DV × DSt) := match as with
  | [.int i] => (seqOf st x).bind fun ds => (allOf intOf ds).bind fun ns => if i ∈ ns then some (.int (ns.idxOf i : Nat), st) else none
  | _ => none
section
variable {X : Cx} {g : Gam}
theorem RVs_ints {φ : Lay} {H : Hp} : ∀ {ns : List Int} {xs : List V}, RVs g φ H (ns.map .int) xs → xs = ns.map .int
  | [], xs, h => by simpa [RVs] using h
  | n :: ns, xs, h => by
    simp only [List.map_cons, RVs] at h
    obtain ⟨y, r, rfl, r1, r2⟩ := h
    rw [RVs_ints r2, rvInt r1]
    rfl
theorem pr_lindex (hK : X.K = g.K) : PrimM g X.K "list" (rIndex X.K) lindexP := by
  intro φ st H x dx vs ds Q s rx rs h
  unfold lindexP at h
  split at h
  · rename_i i
    obtain ⟨v, rfl, rv⟩ := rvs1 rs
    cases rvInt rv
    cases e1 : seqOf st dx with
    | none => rw [e1] at h; exact h.elim
    | some es =>
      rw [e1, Option.bind_some] at h
      cases e2 : allOf intOf es with
      | none => rw [e2] at h; exact h.elim
      | some ns =>
        rw [e2, Option.bind_some] at h
        split at h
        · rename_i hm
          obtain ⟨a, xs, rfl, hx, rxs⟩ := seqOf_ok s rx e1
          have ee := allOf_ints e2
          subst ee
          have ex := RVs_ints rxs
          subst ex
          have hj := List.idxOf_lt_length_of_mem hm
          refine ⟨a, ns.map .int, .int i, ns.idxOf i, .int i, rfl, rfl, by rw [hK]; exact hx, rfl, by simp [flatV], ?_, by simp [eqV], ?_, po1 s h mkInt⟩
          · rw [List.getElem?_map, List.getElem?_eq_getElem hj, List.getElem_idxOf hj]
            rfl
          · intro m z hm' hz
            rw [List.getElem?_map] at hz
            have hml : m < ns.length := Nat.lt_trans hm' hj
            rw [List.getElem?_eq_getElem hml] at hz
            cases hz
            have hne : ns[m] ≠ i := fun e => by
              have h9 := List.not_of_lt_findIdx (p := (· == i)) (xs := ns) (i := m) hm'
              simp [e] at h9
            simp [eqV, hne]
        · exact h.elim
  · exact h.elim
end
/-! ### a tuple from behind -/
def tRevT (K : PySem.W.Frag) (te : TE) : TE := fun σ H Q => te σ H fun x H1 => ∃ a xs, x = .ref a ∧ SqT K H1 a xs ∧ ∀ p, H1 p = none → Q (.ref p) (upd H1 p (.tup xs.reverse))
section
variable {X : Cx} {g : Gam} {W : WX} {e : Expr} {ma : Ex} {pos p2 : Pos}
theorem pe_revT {te : TE} {k : Nat} {p1 p3 : Pos} (he : PE X e te) : PE X (.Subscript e (.Slice none none (some (.UnaryOp .USub (.Constant (.int 1) k p1) p2)) p3) pos) (tRevT X.K te) := by
  constructor
  intro pins s σ H Q I h
  refine Subscript_ (thn (he.run pins s σ H _ I h) ?_)
  rintro v s1 ⟨_, H1, J1, rv, a, xs, rfl, hx, q⟩
  cases rv
  have minus : PE X (.UnaryOp .USub (.Constant (.int 1) k p1) p2) (tUn (rU fun i => .int (-i)) (tC (.int 1))) := pe_un un_neg pe_int
  refine wpAny_Slice (thn (po_none.run pins s1 σ H1 (fun part G => part = none ∧ G = H1) J1 ⟨rfl, rfl⟩) ?_)
  rintro lo s2 ⟨_, _, J2, plo, rfl, rfl⟩
  refine thn (po_none.run pins s2 σ _ (fun part G => part = none ∧ G = _) J2 ⟨rfl, rfl⟩) ?_
  rintro hi s3 ⟨_, _, J3, phi, rfl, rfl⟩
  refine thn ((po_some minus).run pins s3 σ _ (fun part G => part = some (-1) ∧ G = _) J3 ⟨1, rfl, -1, rfl, rfl, rfl⟩) ?_
  rintro by_ s4 ⟨_, H4, J4, pby, rfl, rfl⟩
  have J5 : Inv X pins σ H4 { s4 with heap := s4.heap.push { cls := .type "slice", data := .fields #[lo, hi, by_] } } := J4.kept (t' := s4.toks) fun b ob z => Heap.get?_push_of_some _ z
  obtain ⟨its, r, tp, hz⟩ := J5.tuple hx
  refine tail_any (ops := [.ref a, .ref s4.heap.objs.size]) tp.typeIs PyProof.Rows.slot_tuple_getitem.lookup (HT.back_tuple tp (Heap.IsSliceOf.new _ lo hi by_) plo phi pby ?_ (by rw [List.size_toArray, ← r.length]; exact hz)) (by with_unfolding_all rfl)
  refine ⟨.ref _, _, J5.laid (t' := s4.toks) (o := .tup xs.reverse) (fun b ob z => Heap.get?_push_of_some _ z) (Nat.le_refl _) ?_, rfl, q _ (J5.hok.fresh (Nat.le_refl _))⟩
  exact ⟨by rw [List.length_reverse]; exact hz, _, r.reverse, IsTup.new _ _⟩
def revXP : DV → DSt → Option (DV × DSt)
  | .tup ds, st => some (.tup ds.reverse, st)
  | x, st => revP x st
theorem pe_eRevX (hK : X.K = g.K) {k : Nat} {p1 p3 : Pos} (he : PE X e (TM g (RV g) W ma)) : PE X (.Subscript e (.Slice none none (some (.UnaryOp .USub (.Constant (.int 1) k p1) p2)) p3) pos) (TM g (RV g) W (DM.e1 revXP ma)) :=
  ((pe_eRev (W := W) hK he).or (pe_revT he)).imp fun σ H Q ⟨φ, env, st, s, n, h⟩ => by
    unfold DM.e1 at h
    cases q : ma env st with
    | bad => rw [q] at h; exact h.elim
    | exc e' s' => rw [q] at h; exact .inl ⟨φ, env, st, s, n, by unfold DM.e1; rw [q]; exact h⟩
    | ok d st1 =>
      rw [q] at h
      simp only [Res.bind_ok] at h
      have old : Post g (RV g) (fun c d H' => W c d σ H') φ H Q (Res.of (revP d st1)) → TM g (RV g) W (DM.e1 revP ma) σ H Q := fun h => ⟨φ, env, st, s, n, by unfold DM.e1; rw [q]; exact h⟩
      cases d with
      | tup ds =>
        refine .inr ⟨φ, env, st, s, n, ?_⟩
        rw [q]
        intro φ1 H1 v x1 s1 r1
        obtain ⟨a, xs, rfl, hx, rs⟩ := rvTup r1
        exact ⟨a, xs, rfl, by rw [hK]; exact hx, new_tup s1 rs.reverse (Post.of (Post.later x1 h))⟩
      | _ => exact .inl (old h)
end
/-! ### taken apart: a tuple or a list -/
def gTA (n : Nat) (t : Tgms) : Tgm := fun d env => match d with
  | .lst ds => if ds.length = n then t ds env else none
  | .tup ds => if ds.length = n then t ds env else none
  | _ => none
section
variable {X : Cx} {g : Gam}
theorem PG.or {tg : Expr} {t u : TG} (a : PG X tg t) (b : PG X tg u) : PG X tg (fun v σ H Q => t v σ H Q ∨ u v σ H Q) := ⟨fun pins s σ H v w Q I r h => h.elim (a.run pins s σ H v w Q I r) (b.run pins s σ H v w Q I r)⟩
theorem tg_gTA {own : List Nat} {m : Nat} {u : TGs} {gms : Tgms} (h : TgsOk g own u gms) : TgOk g own (fun v σ H Q => gTup g.K m u v σ H Q ∨ gLst g.K m u v σ H Q) (gTA m gms) := by
  intro φ H st env σ d v Q s n r ⟨env', e, k⟩
  cases d with
  | tup ds => exact .inl (tg_gT h φ H st env σ _ v Q s n r ⟨env', e, k⟩)
  | lst ds => exact .inr (tg_gTL h φ H st env σ _ v Q s n r ⟨env', e, k⟩)
  | _ => cases e
end
end DM
namespace L2
open PySem PySem.Spec PyProof.Rows
theorem tuple_mul0 (l : Addr) (items : Array Value) (n : Nat) (dd : Option Addr) (sl : Array (Option Value)) (u : Tok) (hne : items.isEmpty = false) :
    Meets (Builtin.«tuple.__mul__» ⟨[.ref l, .int 0 u], []⟩) (fun _ R s => s.heap.get? l = some { cls := .type "tuple", dict := dd, data := .seq items n, slots := sl } ∧
      R (.ok (.ret (Value.ref s.heap.objs.size))) { s with heap := s.heap.push { cls := Value.type "tuple", data := Data.seq #[] }, toks := s.toks }) :=
  .of_wp fun prog w A R s hh => by
    obtain ⟨hp, gs, dr, tk, os⟩ := s
    obtain ⟨ok, fin⟩ := hh
    have f1 := AutoSeq1.idx_int
    have c1 : (items.isEmpty || (0 : Int) == 1) = false := by rw [hne]; rfl
    have c2 : (decide ((0 : Int) ≤ 0) || items.isEmpty) = true := by simp
    wp_walk using wpAny_loadPart' ok
    repeat (first
      | (refine wpAny_ite_false (decide_eq_false (by rw [c1]; exact Bool.false_ne_true)) ?_; wp_walk using wpAny_loadPart' ok)
      | (refine wpAny_ite_true (decide_eq_true c2) ?_; wp_walk using wpAny_loadPart' ok))
    exact ⟨_, rfl, fin⟩
def rRepT0 (K : PySem.W.Frag) : R2 := fun x y H Q => ∃ l xs, x = .ref l ∧ y = .int 0 ∧ SqT K H l xs ∧ xs ≠ [] ∧ ∀ p, H p = none → Q (.ref p) (upd H p (.tup []))
theorem op_repT0 {X : Cx} : OpR X (binaryOp .Mult) (rRepT0 X.K) := by
  intro pins s σ H x y v u Q I rx ry h
  obtain ⟨l, xs, rfl, rfl, hT, hne, q⟩ := h
  cases rx
  obtain ⟨t, rfl⟩ := ry
  obtain ⟨its, r, ⟨⟨cls, dd, data, sl⟩, ho, hc, n, hd⟩, hs⟩ := I.tuple hT
  simp only at hc hd
  subst hc hd
  have hi : its.toArray.isEmpty = false := by
    cases its with
    | nil => cases r; exact absurd rfl hne
    | cons a b => rfl
  refine wpAny_binaryOp_repeat_ref (T := "tuple") (U := "int") (by decide) ⟨_, ho, rfl⟩ (fun s' => typeIs_int s' 0 t) noFill_tuple_mul F.fills_int_mul F.slot_int_rmul repeat_tuple F.slot_int_index.lookup
    (call_meets F.slot_int_rmul (typeIs_int s 0 t) F.entry_int_rmul (F.args_int_rmul_2 _ _) (int_rmul_tuple 0 t l its.toArray n dd sl) ⟨ho, rfl, ⟨_, ho, rfl⟩, ?_⟩)
  refine call_meets F.slot_tuple_mul ⟨_, ho, rfl⟩ F.entry_tuple_mul (F.args_tuple_mul_2 _ _) (tuple_mul0 l its.toArray n dd sl t hi) ⟨ho, ?_⟩
  exact ⟨.ref s.heap.objs.size, _, I.laid (t' := s.toks) (o := .tup []) (fun b ob z => Heap.get?_push_of_some _ z) (Nat.le_refl _) ⟨Nat.zero_le _, _, .nil, IsTup.new _ _⟩, rfl, q _ (I.hok.fresh (Nat.le_refl _))⟩
end L2
namespace DM
open PySem PySem.Spec PyProof.Rows L2
def mulXP : DV → DV → DSt → Option (DV × DSt)
  | .tup a, .int 0, st => if a ≠ [] then some (.tup [], st) else none
  | x, y, st => mulP x y st
section
variable {X : Cx} {g : Gam}
theorem or_mulX : OpR X (binaryOp .Mult) (fun x y H Q => rMulA X.K x y H Q ∨ rRepT0 X.K x y H Q) := or_mul.or op_repT0
theorem pr_mulX : Prim2 g (fun x y H Q => rMulA g.K x y H Q ∨ rRepT0 g.K x y H Q) mulXP := by
  intro φ st H x y dx dy Q s rx ry h
  unfold mulXP at h
  split at h
  · obtain ⟨a, xs, rfl, ha, ra⟩ := rvTup rx
    cases rvInt ry
    split at h
    · rename_i hl
      refine .inr ⟨a, xs, rfl, rfl, ha, fun z => ?_, new_tup s (by simp [RVs]) h⟩
      subst z
      exact hl (List.eq_nil_of_length_eq_zero ra.length)
    · exact h.elim
  · exact .inl (pr_mul φ st H x y _ _ Q s rx ry h)
end
end DM

/-! DM24: how many unlike numbers a tuple holds. -/
namespace DM
open PySem PySem.Spec PyProof.Rows L2
/-- each once, the first ones -/
def ddI (acc : List Int) : List Int → List Int
  | [] => acc
  | k :: ks => if k ∈ acc then ddI acc ks else ddI (acc ++ [k]) ks
theorem ddI_mem : ∀ (ks acc : List Int) (i : Int), i ∈ ddI acc ks ↔ i ∈ acc ∨ i ∈ ks
  | [], acc, i => by simp [ddI]
  | k :: ks, acc, i => by
    unfold ddI
    split
    · rename_i h
      rw [ddI_mem ks acc i]
      simp only [List.mem_cons]
      constructor
      · rintro (h | h)
        · exact .inl h
        · exact .inr (.inr h)
      · rintro (h' | rfl | h')
        · exact .inl h'
        · exact .inl h
        · exact .inr h'
    · rw [ddI_mem ks (acc ++ [k]) i]
      simp only [List.mem_append, List.mem_cons, List.not_mem_nil, or_false]
      constructor
      · rintro ((h | h) | h)
        · exact .inl h
        · exact .inr (.inl h)
        · exact .inr (.inr h)
      · rintro (h | h | h)
        · exact .inl (.inl h)
        · exact .inl (.inr h)
        · exact .inr h
theorem ddI_nodup : ∀ (ks acc : List Int), acc.Nodup → (ddI acc ks).Nodup
  | [], acc, h => h
  | k :: ks, acc, h => by
    unfold ddI
    split
    · exact ddI_nodup ks acc h
    · rename_i hn
      refine ddI_nodup ks _ (List.nodup_append.mpr ⟨h, by simp, fun a ha b hb e => ?_⟩)
      have : b = k := by simpa using hb
      subst this
      exact hn (e ▸ ha)
theorem ddI_self : ∀ (ks acc : List Int), (acc ++ ks).Nodup → ddI acc ks = acc ++ ks
  | [], acc, h => by simp [ddI]
  | k :: ks, acc, h => by
    have hn : k ∉ acc := fun hk => by
      have := (List.nodup_append.mp h).2.2 k hk k List.mem_cons_self
      exact this rfl
    unfold ddI
    rw [if_neg hn, ddI_self ks (acc ++ [k]) (by simpa using h)]
    simp
def keyI : Key → Option Int
  | .inl i => some i
  | _ => none
theorem merge_keys : ∀ (ks acc : List Int) (kvs : List (Key × DV)), kvs.map (·.1) = acc.map Sum.inl → (mergeG kvs (ks.map fun k => ((.inl k : Key), DV.bl true))).map (·.1) = (ddI acc ks).map Sum.inl
  | [], acc, kvs, h => by simpa [mergeG, ddI] using h
  | k :: ks, acc, kvs, h => by
    have hany : (kvs.any fun kv => decide (kv.1 = (.inl k : Key))) = decide (k ∈ acc) := by
      have e : (kvs.any fun kv => decide (kv.1 = (.inl k : Key))) = (kvs.map (·.1)).any fun x => decide (x = (.inl k : Key)) := by simp [List.any_map, Function.comp_def]
      rw [e, h]
      rw [Bool.eq_iff_iff]
      simp
    show (mergeG (putG kvs (.inl k) (.bl true)) (ks.map fun k => ((.inl k : Key), DV.bl true))).map (·.1) = _
    unfold ddI
    by_cases hk : k ∈ acc
    · rw [if_pos hk]
      refine merge_keys ks acc _ ?_
      unfold putG
      rw [hany, if_pos (by simpa using hk), List.map_map, ← h]
      refine List.map_congr_left fun kv _ => ?_
      show (if kv.1 = (.inl k : Key) then (kv.1, DV.bl true) else kv).1 = kv.1
      split <;> rfl
    · rw [if_neg hk]
      refine merge_keys ks (acc ++ [k]) _ ?_
      unfold putG
      rw [hany, if_neg (by simpa using hk), List.map_append, h]
      simp
theorem merge_len (ks : List Int) : (mergeG [] (ks.map fun k => ((.inl k : Key), DV.bl true))).length = (ddI [] ks).length := by
  have := congrArg List.length (merge_keys ks [] [] rfl)
  simpa using this
def lenSetTP (x : DV) (st : DSt) : Option (DV × DSt) := match x with
  | .tup ds => (allOf intOf ds).bind fun ns => if ns.length ≤ 1000 then some (.int (ddI [] ns).length, st) else none
  | _ => none
section
variable {X : Cx} {g : Gam} {W : WX}
def tLenSetT (K : PySem.W.Frag) (ta : TE) : TE := fun σ H Q => ta σ H fun x H1 => ∃ (l : Addr) (ns : List Int), x = .ref l ∧ SqT K H1 l (ns.map V.int) ∧ ns.length ≤ 1000 ∧ Q (.int ((ddI [] ns).length : Nat)) H1
theorem pe_lenSetT {a : Expr} {ta : TE} {p p2 q pos : Pos} (hg : Gl X "len") (hm : X.mg "len" = none) (hg2 : Gl X "set") (hm2 : X.mg "set" = none) (ha : PE X a ta) (hc : X.calm = true := by rfl)
    (na : starEach [a] X.env = (false, eval a X.env) :: starEach [] X.env := by rfl) : PE X (.Call (.Name "len" p) [.Call (.Name "set" p2) [a] [] q] [] pos) (tLenSetT X.K ta) := by
  constructor
  intro pins s σ H Q I h
  refine Call_ (ld_blt I hg hm boot_len (PyProof.Rows.callWith_builtin1 (PyProof.Rows.args_cons ?_ rfl) rfl rfl))
  refine Call_ (ld_blt I hg2 hm2 boot_set (PyProof.Rows.callWith_type1 (PyProof.Rows.args_cons (thn (ha.run pins s σ H _ I h) ?_) na) na rfl))
  rintro v s1 ⟨x, H1, J, rv, l, ns, rfl, hx, hl, q1⟩
  refine PyProof.Rows.args_nil ?_
  cases rv
  obtain ⟨its, r, pt, hz⟩ := J.tuple hx
  refine call_set_tupI ns (J.ok.hd hc) pt (by simpa using RZ.intsAre_vals r) (by unfold scanBound; omega) fun h' tk c hS hcl hk => ?_
  refine PyProof.Rows.args_nil ?_
  obtain ⟨o, es, ep, t, ho, hex, hd, _, nd, hmem, _, hf, hn, _, _⟩ := hS
  have hcount : c = (ddI [] ns).length := by
    have hp := (List.perm_ext_iff_of_nodup nd (ddI_nodup ns [] List.nodup_nil)).mpr fun k => (hmem k).symm.trans (by rw [ddI_mem]; simp)
    rw [← hp.length_eq, List.length_map, Array.length_toList, hn]
  have J2 : Inv X pins σ H1 { s1 with heap := h', toks := tk } := J.kept hk
  exact call_len_set ho hex hd hf (by rw [hn] <;> omega) ⟨.int c, H1, J2.tok _, ⟨_, by rw [hn]⟩, by rw [hcount]; exact q1⟩
theorem pe_eLenSetT (hK : X.K = g.K) {p p2 q pos : Pos} {a : Expr} {ma : Ex} (hg : Gl X "len") (hm : X.mg "len" = none) (hg2 : Gl X "set") (hm2 : X.mg "set" = none) (ha : PE X a (TM g (RV g) W ma)) (hc : X.calm = true := by rfl)
    (na : starEach [a] X.env = (false, eval a X.env) :: starEach [] X.env := by rfl) : PE X (.Call (.Name "len" p) [.Call (.Name "set" p2) [a] [] q] [] pos) (TM g (RV g) W (DM.e1 lenSetTP ma)) :=
  (pe_lenSetT hg hm hg2 hm2 ha hc na).imp fun σ H Q h => by
    refine TM.e1 (r := fun x H1 Q => ∃ (l : Addr) (ns : List Int), x = .ref l ∧ SqT X.K H1 l (ns.map V.int) ∧ ns.length ≤ 1000 ∧ Q (.int ((ddI [] ns).length : Nat)) H1) ?_ h
    intro φ st H x dx Q s rx h
    unfold lenSetTP at h
    split at h
    · rename_i ds
      cases e : allOf intOf ds with
      | none => rw [e] at h; exact h.elim
      | some ns =>
        rw [e, Option.bind_some] at h
        split at h
        · rename_i hl
          have ed := allOf_ints e
          subst ed
          obtain ⟨a, xs, rfl, hx, rx⟩ := rvTup rx
          rw [RVs_ints rx] at hx
          exact ⟨a, ns, rfl, by rw [hK]; exact hx, hl, po1 s h mkInt⟩
        · exact h.elim
    · exact h.elim
end
section
variable {env : DEnv} {st : DSt} {r : Exs} {Q : DV → DSt → Prop}
theorem allOf_map : ∀ ks : List Int, allOf intOf (ks.map .int) = some ks
  | [] => rfl
  | k :: ks => by simp [allOf, intOf, allOf_map ks]
theorem w_iEnumT {Q : DIt → DSt → Prop} (h : wR (r env st) fun ds s1 => ∃ es, ds = [.tup es] ∧ Q (.items (numd es)) s1) : wR (iEnumT r env st) Q :=
  wR_bind (wR_mono h fun _ _ ⟨es, e, q⟩ => by subst e; exact ⟨q⟩)
theorem w_eDcT {im : Im} {i : Nat} {own : List Nat} {ns : List Int} (h : wR (im env st) fun it s1 => it = .items (ns.map .int) ∧ Q (.ref s1.length) (s1 ++ [.dct (mergeG [] (ns.map fun k => (.inl k, .bl true)))])) (hl : ns.length ≤ 1000) (hi : i < env.length) : wR (eDcT im i own env st) Q := by
  refine wR_bind (wR_mono h fun it s1 ⟨e, q⟩ => ?_)
  subst e
  simp only [allOf_map]
  rw [if_pos ⟨hl, hi⟩]
  exact ⟨q⟩
end
/-! ### short tuples -/
class Sh (xs : List DV) (n : outParam Nat) : Prop where
  le : xs.length ≤ n
instance {ds : List DV} {n : Nat} [h : Sh ds n] {lo hi : Option Int} : Sh (cutL ds lo hi) n := ⟨by
  have := h.le
  unfold cutL
  rw [List.length_take, List.length_drop]
  omega⟩
instance {a b : List DV} {n m : Nat} [h : Sh a n] [k : Sh b m] : Sh (a ++ b) (n + m) := ⟨by
  have := h.le
  have := k.le
  rw [List.length_append]
  omega⟩
instance {a : List DV} {n : Nat} [h : Sh a n] : Sh a.reverse n := ⟨by rw [List.length_reverse]; exact h.le⟩
instance {d : DV} : Sh [d] 1 := ⟨Nat.le_refl _⟩
theorem w_addT {a b : List DV} {n m : Nat} {st : DSt} {Q : DV → DSt → Prop} [h : Sh a n] [k : Sh b m] (hl : n + m ≤ 1000) (q : Q (.tup (a ++ b)) st) : wO (addXP (.tup a) (.tup b) st) Q := by
  refine w_some (d := .tup (a ++ b)) (s := st) ?_ q
  have h1 := h.le
  have h2 := k.le
  have h3 : (1000 : Nat) ≤ sizeLine := by decide
  simp only [addXP, if_pos (show a.length + b.length ≤ sizeLine by omega)]
end DM

/-! DM25: dicts whose keys are tuples. -/
namespace DM
open PySem PySem.Spec PyProof.Rows L2
section
variable {X : Cx} {g : Gam}
mutual
theorem nkey_ok (hK : X.K = g.K) {pins : List (Addr × Obj)} {σ : L2.St} {H : Hp} {s : Shared} {φ : Lay} (I : Inv X pins σ H s) : ∀ (d : DV) (v : V) (u : Value), isKeyD d = true → RV g φ H d v → RelV v u → NestedIs s.heap (nkeyD d) u
  | .non, v, u, _, r, q => by simp only [RV] at r; subst r; cases q; exact .none
  | .bl b, v, u, _, r, q => by simp only [RV] at r; subst r; cases q; exact .bool rfl
  | .int i, v, u, _, r, q => by simp only [RV] at r; subst r; obtain ⟨t, rfl⟩ := q; exact .int i t
  | .str x, v, u, _, r, q => by simp only [RV] at r; subst r; obtain ⟨t, rfl⟩ := q; exact .text x t
  | .tup ds, v, u, h, r, q => by
    simp only [RV] at r
    obtain ⟨a, xs, rfl, hs, rs⟩ := r
    cases q
    obtain ⟨its, rv, ⟨o, h1, h2, n, h3⟩, _⟩ := I.tuple (by rw [hK]; exact hs)
    simp only [isKeyD] at h
    simp only [nkeyD]
    exact .tup h1 h2 h3 (by simpa using nkeys_ok hK I ds xs its h rs rv)
  | .lst _, _, _, h, _, _ => by simp [isKeyD] at h
  | .fzl _, _, _, h, _, _ => by simp [isKeyD] at h
  | .ref _, _, _, h, _, _ => by simp [isKeyD] at h
  | .glo _, _, _, h, _, _ => by simp [isKeyD] at h
  | .ty _, _, _, h, _, _ => by simp [isKeyD] at h
theorem nkeys_ok (hK : X.K = g.K) {pins : List (Addr × Obj)} {σ : L2.St} {H : Hp} {s : Shared} {φ : Lay} (I : Inv X pins σ H s) : ∀ (ds : List DV) (vs : List V) (us : List Value), isKeysD ds = true → RVs g φ H ds vs → Vals vs us → NestedAll s.heap (nkeysD ds) us
  | [], vs, us, _, r, q => by simp only [RVs] at r; subst r; cases q; exact .nil
  | d :: ds, vs, us, h, r, q => by
    simp only [RVs] at r
    obtain ⟨y, r', rfl, r1, r2⟩ := r
    simp only [isKeysD, Bool.and_eq_true] at h
    cases q with
    | cons q1 q2 => exact .cons (nkey_ok hK I d y _ h.1 r1 q1) (nkeys_ok hK I ds r' _ h.2 r2 q2)
end
/-- what a dict of the state holds at a key, what it is behind a store -/
def valN (kvs : List (DV × DV)) (k : NestedKey) : Option DV := (kvs.find? fun kv => decide (nkeyD kv.1 = k)).map (·.2)
def putN (kvs : List (DV × DV)) (y v : DV) : List (DV × DV) := if (valN kvs (nkeyD y)).isSome then kvs.map fun kv => if nkeyD kv.1 = nkeyD y then (kv.1, v) else kv else kvs ++ [(y, v)]
theorem putN_len (kvs : List (DV × DV)) (y v : DV) : (putN kvs y v).length ≤ kvs.length + 1 := by
  unfold putN
  split <;> simp
/-- the entries of the object -/
def NX (g : Gam) (φ : Lay) (H : Hp) : List (DV × DV) → List (NestedKey × Addr × Value) → Prop := Paired fun p q => nkeyD p.1 = q.1 ∧ (isKeyD p.1 = true ∧ (nkeyD p.1).depth ≤ 8) ∧ RV g φ H p.1 (.ref q.2.1) ∧ ∃ v, RV g φ H p.2 v ∧ RelV v q.2.2
theorem NX.val {φ : Lay} {H : Hp} {kvs : List (DV × DV)} {xs : List (NestedKey × Addr × Value)} (r : NX g φ H kvs xs) (k : NestedKey) : (valN kvs k = none ∧ atKey xs k = none) ∨ ∃ d p v, valN kvs k = some d ∧ atKey xs k = some p ∧ RV g φ H d v ∧ RelV v p.2 := by
  unfold NX at r
  induction r with
  | nil => exact .inl ⟨rfl, rfl⟩
  | @cons p q ps qs h t ih =>
    obtain ⟨h1, _, _, v, h3, h4⟩ := h
    by_cases e : nkeyD p.1 = k
    · have e' : q.1 = k := h1.symm.trans e
      exact .inr ⟨p.2, q.2, v, by simp [valN, e], by simp [atKey, e'], h3, h4⟩
    · have e' : ¬ q.1 = k := fun z => e (h1.trans z)
      simpa [valN, atKey, List.find?_cons, e, e'] using ih
theorem NX.put {φ : Lay} {H : Hp} {kvs : List (DV × DV)} {xs : List (NestedKey × Addr × Value)} (r : NX g φ H kvs xs) {y d : DV} {b : Addr} {v : V} {u : Value} (hk : isKeyD y = true ∧ (nkeyD y).depth ≤ 8) (ry : RV g φ H y (.ref b)) (rv : RV g φ H d v) (ru : RelV v u) :
    NX g φ H (putN kvs y d) (storedH xs (nkeyD y) b u) := by
  have hv := r.val (nkeyD y)
  unfold putN storedH
  have e : (valN kvs (nkeyD y)).isSome = (atKey xs (nkeyD y)).isSome := by
    rcases hv with ⟨e1, e2⟩ | ⟨d, p, w, e1, e2, _⟩ <;> rw [e1, e2] <;> rfl
  rw [e]
  by_cases q : (atKey xs (nkeyD y)).isSome = true
  · rw [if_pos q, if_pos q]
    unfold NX at r ⊢
    clear hv e q
    induction r with
    | nil => exact .nil
    | @cons p q ps qs h t ih =>
      rw [List.map_cons, List.map_cons]
      refine .cons ?_ ih
      obtain ⟨h1, h2, h3, w, h4, h5⟩ := h
      unfold putAt
      by_cases e : nkeyD p.1 = nkeyD y
      · rw [if_pos e, if_pos (h1.symm.trans e)]; exact ⟨h1, h2, h3, v, rv, ru⟩
      · rw [if_neg e, if_neg (fun z => e (h1.trans z))]; exact ⟨h1, h2, h3, w, h4, h5⟩
  · rw [if_neg q, if_neg q]
    exact Paired.snoc r ⟨rfl, hk, ry, v, rv, ru⟩
/-- at a stands the dict kvs: of tuple keys, or empty -/
def NDict (g : Gam) (φ : Lay) (H : Hp) (a : Addr) (kvs : List (DV × DV)) : Prop := (∃ ts, H a = some (.ext (ND g.w a (keysOf kvs ts))) ∧ RNs g φ H kvs ts) ∨ (kvs = [] ∧ H a = some (.dK []))
theorem RNs.nx {φ : Lay} {H : Hp} : ∀ {kvs : List (DV × DV)} {ts : List (Addr × V)} {ys : List (NestedKey × Addr × Value)}, RNs g φ H kvs ts → Paired (fun p q => p.1 = q.1 ∧ p.2.1 = q.2.1 ∧ RelV p.2.2 q.2.2) (keysOf kvs ts) ys → NX g φ H kvs ys
  | [], ts, ys, h, p => by
    simp only [RNs] at h
    subst h
    cases p
    exact .nil
  | d :: ds, ts, ys, h, p => by
    simp only [RNs] at h
    obtain ⟨q, r, rfl, k, r1, r2, r3⟩ := h
    cases p with
    | cons p1 p2 =>
      obtain ⟨e1, e2, e3⟩ := p1
      exact .cons ⟨e1, k, e2 ▸ r1, q.2, r2, e3⟩ (RNs.nx r3 p2)
theorem NX.ts {φ : Lay} {H : Hp} : ∀ {kvs : List (DV × DV)} {ys : List (NestedKey × Addr × Value)}, NX g φ H kvs ys → ∃ ts, RNs g φ H kvs ts ∧ Paired (fun p q => p.1 = q.1 ∧ p.2.1 = q.2.1 ∧ RelV p.2.2 q.2.2) (keysOf kvs ts) ys
  | [], _, h => by cases h; exact ⟨[], rfl, .nil⟩
  | d :: ds, _, h => by
    cases h with
    | cons h t =>
      obtain ⟨ts, h1, h2⟩ := NX.ts t
      obtain ⟨k1, k2, k3, v, k4, k5⟩ := h
      exact ⟨(_, v) :: ts, ⟨_, _, rfl, k2, k3, k4, h1⟩, .cons ⟨k1, rfl, k5⟩ h2⟩
theorem keysOf_len {φ : Lay} {H : Hp} : ∀ {kvs : List (DV × DV)} {ts : List (Addr × V)}, RNs g φ H kvs ts → (keysOf kvs ts).length = kvs.length
  | [], ts, h => by simp only [RNs] at h; subst h; rfl
  | d :: ds, ts, h => by
    simp only [RNs] at h
    obtain ⟨q, r, rfl, _, _, _, r3⟩ := h
    simp [keysOf, keysOf_len r3]
theorem NX.is (hK : X.K = g.K) {pins : List (Addr × Obj)} {σ : L2.St} {H : Hp} {s : Shared} {φ : Lay} (I : Inv X pins σ H s) {kvs : List (DV × DV)} {xs : List (NestedKey × Addr × Value)} (r : NX g φ H kvs xs) : ∀ x ∈ xs, (nestedKind X.prog X.w).is s.heap x.1 x.2.1 := by
  unfold NX at r
  induction r with
  | nil => intro x hx; cases hx
  | @cons p q ps qs h t ih =>
    intro x hx
    rcases List.mem_cons.mp hx with rfl | hx
    · obtain ⟨k1, k2, k3, _⟩ := h
      have := nkey_ok hK I p.1 _ _ k2.1 k3 (show RelV (.ref x.2.1) (.ref x.2.1) from rfl)
      rw [k1] at this
      exact ⟨this, by rw [← k1]; exact k2.2⟩
    · exact ih x hx
theorem ndict_of (hK : X.K = g.K) (hw : X.w = g.w) {pins : List (Addr × Obj)} {σ : L2.St} {H : Hp} {s : Shared} {φ : Lay} {a : Addr} {kvs : List (DV × DV)} (I : Inv X pins σ H s) (nd : NDict g φ H a kvs) :
    kvs.length ≤ sizeLine ∧ (a == sysModules) = false ∧ ∃ xs, s.heap.DictOfH (nestedKind X.prog X.w) a xs ∧ NX g φ H kvs xs := by
  rcases nd with ⟨ts, e, r⟩ | ⟨rfl, e⟩
  · obtain ⟨⟨z, hd, ys, p, o, es, ep, h1, h2, h3, h4, h5⟩, _⟩ := (show ObjOk X.prog X.w H s.heap a (.ext (ND g.w a (keysOf kvs ts))) from I.hok a _ e)
    have nx := r.nx p
    refine ⟨by rw [← keysOf_len r]; exact z, hd, ys, ⟨o, es, ep, h1, h2, h3, ?_, NX.is hK I nx, h5⟩, nx⟩
    rw [h4]
    show _ = ys.map fun x => (⟨x.1.hash X.w, .ref x.2.1, x.2.2⟩ : DictEntry)
    rw [hw]
  · obtain ⟨z, hd, vs, rel, o, es, ep, h1, h2, h3, h4, h5, h6⟩ := dk_of I.hok e
    cases rel
    refine ⟨Nat.zero_le _, hd, [], ⟨o, es, ep, h1, h2, h3, ?_, (fun x hx => by simp at hx), List.nodup_nil⟩, .nil⟩
    generalize es.toList = l at h5 ⊢
    cases h5
    rfl
theorem key_of_ (hK : X.K = g.K) {pins : List (Addr × Obj)} {σ : L2.St} {H : Hp} {s : Shared} {φ : Lay} (I : Inv X pins σ H s) {y : DV} {b : Addr} (hk : isKeyD y = true ∧ (nkeyD y).depth ≤ 8) (r : RV g φ H y (.ref b)) : (nestedKind X.prog X.w).is s.heap (nkeyD y) b :=
  ⟨nkey_ok hK I y _ _ hk.1 r rfl, hk.2⟩
/-- a dict at an address: what is asked, by the things of the state -/
def NAt (g : Gam) (φ : Lay) (H : Hp) (x yv : V) (kvs : List (DV × DV)) (y : DV) : Prop := ∃ a b, x = .ref a ∧ yv = .ref b ∧ NDict g φ H a kvs ∧ (isKeyD y = true ∧ (nkeyD y).depth ≤ 8) ∧ RV g φ H y (.ref b)
def dcnAt (st : DSt) : DV → Option (Nat × List (DV × DV))
  | .ref n => (match st[n]? with
    | some (.dcn kvs) => some (n, kvs)
    | some (.dct []) => some (n, [])
    | _ => none)
  | _ => none
def isTupD : DV → Bool
  | .tup _ => true
  | _ => false
/-- a tuple that is a key -/
def keyN (y : DV) : Bool := isTupD y && isKeyD y && decide ((nkeyD y).depth ≤ 8)
theorem dcnAt_ok {φ : Lay} {H : Hp} {st : DSt} {d : DV} {x : V} {n : Nat} {kvs : List (DV × DV)} (s : RSt g φ H st) (r : RV g φ H d x) (e : dcnAt st d = some (n, kvs)) : ∃ a, x = .ref a ∧ φ.rf[n]? = some a ∧ NDict g φ H a kvs := by
  cases d <;> simp only [dcnAt, reduceCtorEq] at e
  rename_i m
  simp only [RV] at r
  obtain ⟨a, rfl, ha⟩ := r
  obtain ⟨o, ho, e2, e3, ro⟩ := s.ob m a ha
  rw [e2] at e
  split at e
  · rename_i kvs' e1
    simp only [Option.some.injEq, Prod.mk.injEq] at e
    obtain ⟨rfl, rfl⟩ := e
    cases e1
    obtain ⟨ts, rfl, q⟩ := ro
    exact ⟨a, rfl, ha, .inl ⟨ts, e3, q⟩⟩
  · rename_i e1
    simp only [Option.some.injEq, Prod.mk.injEq] at e
    obtain ⟨rfl, rfl⟩ := e
    cases e1
    obtain ⟨ks, rfl, q⟩ := ro
    simp only [RKs] at q
    subst q
    exact ⟨a, rfl, ha, .inr ⟨rfl, e3⟩⟩
  · cases e
theorem keyN_ok {φ : Lay} {H : Hp} {y : DV} {x : V} (r : RV g φ H y x) (h : keyN y = true) : (isKeyD y = true ∧ (nkeyD y).depth ≤ 8) ∧ ∃ b, x = .ref b ∧ RV g φ H y (.ref b) := by
  simp only [keyN, Bool.and_eq_true, decide_eq_true_eq] at h
  refine ⟨⟨h.1.2, h.2⟩, ?_⟩
  have h1 := h.1.1
  cases y <;> simp only [isTupD, Bool.false_eq_true] at h1
  have r' := r
  simp only [RV] at r'
  obtain ⟨a, xs, rfl, _⟩ := r'
  exact ⟨a, rfl, r⟩
def inNP (y x : DV) (st : DSt) : Option (DV × DSt) := (dcnAt st x).bind fun nk => if keyN y = true then some (.bl (valN nk.2 (nkeyD y)).isSome, st) else none
def notinNP (y x : DV) (st : DSt) : Option (DV × DSt) := (dcnAt st x).bind fun nk => if keyN y = true then some (.bl (!(valN nk.2 (nkeyD y)).isSome), st) else none
def getNP (x y : DV) (st : DSt) : Option (DV × DSt) := (dcnAt st x).bind fun nk => if keyN y = true then (valN nk.2 (nkeyD y)).map fun d => (d, st) else none
def putNP (x y v : DV) (st : DSt) : Option DSt := (dcnAt st x).bind fun nk => if keyN y = true ∧ nk.2.length < sizeLine then some (st.set nk.1 (.dcn (putN nk.2 y v))) else none
/-- y in d -/
def rInN (g : Gam) (neg : Bool) : R2 := fun y x H Q => ∃ φ kvs dy, NAt g φ H x y kvs dy ∧ Q (.bl (neg != (valN kvs (nkeyD dy)).isSome)) H
theorem op_inN (hK : X.K = g.K) (hw : X.w = g.w) (hu : X.A.units + 64 < cLine) : OpR X (compareOp .In) (rInN g false) := by
  rintro pins s σ H x y v u Q I rx ry ⟨φ, kvs, dy, ⟨a, b, rfl, rfl, nd, hk, r⟩, q⟩
  cases rx
  cases ry
  obtain ⟨_, hd, xs, dd, nx⟩ := ndict_of hK hw I nd
  refine wpAny_in_heap (knd := nestedKind X.prog X.w) (show X.A.in1.units + 8 < cLine by rw [Around.in1_units]; omega) (key_of_ hK I hk r) hd dd ?_
  have : (atKey xs (nkeyD dy)).isSome = (valN kvs (nkeyD dy)).isSome := by
    rcases nx.val (nkeyD dy) with ⟨e1, e2⟩ | ⟨d, p, w, e1, e2, _⟩ <;> rw [e1, e2] <;> rfl
  rw [this]
  exact ⟨.bl _, H, I.tok _, rfl, by simpa using q⟩
theorem op_notinN (hK : X.K = g.K) (hw : X.w = g.w) (hu : X.A.units + 64 < cLine) : OpR X (compareOp .NotIn) (rInN g true) := by
  rintro pins s σ H x y v u Q I rx ry ⟨φ, kvs, dy, ⟨a, b, rfl, rfl, nd, hk, r⟩, q⟩
  cases rx
  cases ry
  obtain ⟨_, hd, xs, dd, nx⟩ := ndict_of hK hw I nd
  refine wpAny_notIn_heap (knd := nestedKind X.prog X.w) (show X.A.in1.units + 8 < cLine by rw [Around.in1_units]; omega) (key_of_ hK I hk r) hd dd ?_
  have : (atKey xs (nkeyD dy)).isSome = (valN kvs (nkeyD dy)).isSome := by
    rcases nx.val (nkeyD dy) with ⟨e1, e2⟩ | ⟨d, p, w, e1, e2, _⟩ <;> rw [e1, e2] <;> rfl
  rw [this]
  exact ⟨.bl _, H, I.tok _, rfl, by simpa using q⟩
theorem pr_inN : Prim2 g (rInN g false) inNP := by
  intro φ st H x y dx dy Q s rx ry h
  unfold inNP at h
  cases e : dcnAt st dy with
  | none => rw [e] at h; exact h.elim
  | some nk =>
    rw [e, Option.bind_some] at h
    split at h
    · rename_i hk
      obtain ⟨a, rfl, _, nd⟩ := dcnAt_ok (kvs := nk.2) (n := nk.1) s ry e
      obtain ⟨k, b, rfl, r⟩ := keyN_ok rx hk
      exact ⟨φ, nk.2, dx, ⟨a, b, rfl, rfl, nd, k, r⟩, po1 s h (by simp [RV])⟩
    · exact h.elim
theorem pr_notinN : Prim2 g (rInN g true) notinNP := by
  intro φ st H x y dx dy Q s rx ry h
  unfold notinNP at h
  cases e : dcnAt st dy with
  | none => rw [e] at h; exact h.elim
  | some nk =>
    rw [e, Option.bind_some] at h
    split at h
    · rename_i hk
      obtain ⟨a, rfl, _, nd⟩ := dcnAt_ok (kvs := nk.2) (n := nk.1) s ry e
      obtain ⟨k, b, rfl, r⟩ := keyN_ok rx hk
      exact ⟨φ, nk.2, dx, ⟨a, b, rfl, rfl, nd, k, r⟩, po1 s h (by simp [RV])⟩
    · exact h.elim
section
variable {W : WX} {o i value : Expr} {ma mo mi : Ex} {pos pos' : Pos} {td ty tv : TE}
def tNGet (g : Gam) (td ty : TE) : TE := fun σ H Q => td σ H fun x H1 => ty σ H1 fun y H2 => ∃ φ kvs dy d, NAt g φ H2 x y kvs dy ∧ valN kvs (nkeyD dy) = some d ∧ ∀ v, RV g φ H2 d v → Q v H2
theorem pe_nget (hK : X.K = g.K) (hw : X.w = g.w) (hu : X.A.units + 64 < cLine) (ho : PE X o td) (hi : PE X i ty) (hs : NoSl i) : PE X (.Subscript o i pos) (tNGet g td ty) := by
  refine ⟨fun pins s σ H Q I h => ?_⟩
  refine subD_of PySem.F.slot_dict_getitem.lookup hs (thn (ho.run pins s σ H _ I h) fun u s1 ⟨x, H1, I1, rx, q1⟩ => thn (hi.run pins s1 σ H1 _ I1 q1) fun iv s2 ⟨y, H2, I2, ry, φ, kvs, dy, d, ⟨a, b, ex, ey, nd, hk, r⟩, hv, q2⟩ => ?_)
  subst ex ey
  cases rx
  cases ry
  obtain ⟨_, hd, xs, dd, nx⟩ := ndict_of hK hw I2 nd
  refine ⟨dd.typeIs, ?_⟩
  rcases nx.val (nkeyD dy) with ⟨e1, _⟩ | ⟨d', p, w, e1, e2, r1, r2⟩
  · rw [hv] at e1; cases e1
  · rw [hv] at e1
    cases e1
    exact wpAny_getItem_heap (knd := nestedKind X.prog X.w) (show X.A.in1.units + 8 < cLine by rw [Around.in1_units]; omega) (key_of_ hK I2 hk r) dd e2 ⟨w, H2, I2.tok _, r2, q2 w r1⟩
theorem pe_eNg (hK : X.K = g.K) (hw : X.w = g.w) (hu : X.A.units + 64 < cLine) (ho : PE X o (TM g (RV g) W mo)) (hi : PE X i (TM g (RV g) W mi)) (hs : NoSl i := by intro _ _; rfl) : PE X (.Subscript o i pos) (TM g (RV g) W (DM.e2 getNP mo mi)) :=
  (pe_nget hK hw hu ho hi hs).imp fun σ H Q ⟨φ, env, st, s, n, h⟩ => ⟨φ, env, st, s, n, Post.bind h fun x st1 φ1 H1 xv x1 s1 r1 h1 => ⟨φ1, env, st1, s1, n.ext s.tame x1, Post.bind h1 fun y st2 φ2 H2 yv x2 s2 r2 h2 => by
    have h2 := Post.of h2
    unfold getNP at h2
    cases e : dcnAt st2 x with
    | none => rw [e] at h2; exact h2.elim
    | some nk =>
      rw [e, Option.bind_some] at h2
      split at h2
      · rename_i hk
        obtain ⟨a, rfl, _, nd⟩ := dcnAt_ok (kvs := nk.2) (n := nk.1) s2 (RV.ext s1.tame x2 _ _ r1) e
        obtain ⟨k, b, rfl, r⟩ := keyN_ok r2 hk
        cases e2 : valN nk.2 (nkeyD y) with
        | none => rw [e2] at h2; exact h2.elim
        | some d =>
          rw [e2] at h2
          exact ⟨φ2, nk.2, y, d, ⟨a, b, rfl, rfl, nd, k, r⟩, e2, fun v rv => po1 s2 h2 rv⟩
      · exact h2.elim⟩⟩
def sNPut (g : Gam) (td ty tv : TE) : TS := fun D σ H => tv σ H fun v H1 => td σ H1 fun x H2 => ty σ H2 fun y H3 => ∃ φ kvs dy d a, x = .ref a ∧ NAt g φ H3 x y kvs dy ∧ RV g φ H3 d v ∧ kvs.length < sizeLine ∧ Mut (H3 a) ∧
  ∀ ts, RNs g φ H3 (putN kvs dy d) ts → D.nx σ (upd H3 a (.ext (ND g.w a (keysOf (putN kvs dy d) ts))))
theorem ps_nput (hK : X.K = g.K) (hw : X.w = g.w) (hu : X.A.units + 64 < cLine) (ho : PE X o td) (hi : PE X i ty) (hv : PE X value tv) (hs : swapsWith value (some (.Subscript o i pos')) pos.line X.env = pure false) :
    PS X (.Assign [.Subscript o i pos'] value pos) (sNPut g td ty tv) := by
  refine ⟨fun pins s σ H D I h => ?_⟩
  refine wpAny_Assign_Subscript (thn (hv.run pins s σ H _ I h) fun r s1 ⟨v, H1, I1, rv, q1⟩ => thn (ho.run pins s1 σ H1 _ I1 q1) fun u s2 ⟨x, H2, I2, rx, q2⟩ => thn (hi.run pins s2 σ H2 _ I2 q2) fun iv s3 ⟨y, H3, I3, ry, φ, kvs, dy, d, a, ex, ⟨a', b, ea, ey, nd, hk, r⟩, rd, hl, mu, q3⟩ => ?_) hs
  subst ex
  cases ea
  subst ey
  cases rx
  cases ry
  obtain ⟨z, hd, xs, dd, nx⟩ := ndict_of hK hw I3 nd
  have hxl : xs.length = kvs.length := (Paired.length nx).symm
  refine wpAny_setItem_heap (knd := nestedKind X.prog X.w) (hsz := by rw [hxl]; exact z) (show X.A.in1.units + 8 < cLine by rw [Around.in1_units]; omega) (key_of_ hK I3 hk r) dd fun h' dd' hs' => ?_
  obtain ⟨q, es, ep, hq, h2, h3, h4, _, h5⟩ := dd'
  obtain ⟨ts, rn, pr⟩ := (nx.put hk r rd rv).ts
  have new : ObjOk X.prog X.w (upd H3 a (.ext (ND g.w a (keysOf (putN kvs dy d) ts)))) h' a (.ext (ND g.w a (keysOf (putN kvs dy d) ts))) := by
    refine ⟨⟨?_, hd, _, pr, q, es, ep, hq, h2, h3, ?_, h5⟩, ⟨q, hq⟩, ?_⟩
    · rw [keysOf_len rn]
      have := putN_len kvs dy d
      omega
    · rw [h4, ← hw]
      rfl
    · rintro k1 k2 ⟨z1, z2, ys, p, o', es', ep', y1, y2⟩ st
      exact ⟨z1, z2, ys, p, o', es', ep', st _ y1, y2⟩
  exact ⟨σ, _, d_write I3 mu hs' ⟨q, hq⟩ new, q3 ts rn⟩
theorem ps_sNPut (hK : X.K = g.K) (hw : X.w = g.w) (hu : X.A.units + 64 < cLine) {a : Expr} {tpos : Pos} (hv : PE X a (TM g (RV g) W ma)) (ho : PE X o (TM g (RV g) W mo)) (hi : PE X i (TM g (RV g) W mi)) (hs : swapsWith a (some (.Subscript o i tpos)) pos.line X.env = pure false := by rfl) :
    PS X (.Assign [.Subscript o i tpos] a pos) (TMS g W (sSetIx ma mo mi putNP)) :=
  (ps_nput hK hw hu ho hi hv hs).imp fun D σ H ⟨φ, env, st, s, n, h⟩ => ⟨φ, env, st, s, n, Post.then_ s n h fun x st1 φ1 H1 xv x1 s1 n1 r1 h1 =>
    ⟨φ1, env, st1, s1, n1, Post.then_ s1 n1 h1 fun y st2 φ2 H2 yv x2 s2 n2 r2 h2 => ⟨φ2, env, st2, s2, n2, Post.then_ s2 n2 h2 fun z st3 φ3 H3 zv x3 s3 n3 r3 h3 => by
      have r1' := RV.ext s1.tame (x2.trans x3) _ _ r1
      have r2' := RV.ext s2.tame x3 _ _ r2
      cases e : putNP y z x st3 with
      | none => rw [e] at h3; exact h3.elim
      | some st4 =>
        rw [e] at h3
        unfold putNP at e
        cases e1 : dcnAt st3 y with
        | none => rw [e1] at e; cases e
        | some nk =>
          rw [e1, Option.bind_some] at e
          split at e
          · rename_i hk
            cases e
            obtain ⟨a, rfl, ha, nd⟩ := dcnAt_ok (kvs := nk.2) (n := nk.1) s3 r2' e1
            obtain ⟨k, b, rfl, r⟩ := keyN_ok r3 hk.1
            refine ⟨φ3, nk.2, z, x, a, rfl, ⟨a, b, rfl, rfl, nd, k, r⟩, r1', hk.2, s3.mut (List.mem_of_getElem? ha), fun ts rn => ?_⟩
            have xw := Ext.write (o := .ext (ND g.w a (keysOf (putN nk.2 z x) ts))) s3 ha
            exact h3 φ3 _ σ xw (s3.write (o := .dcn (putN nk.2 z x)) ha ⟨ts, rfl, rn⟩) (n3.ext s3.tame xw)
          · cases e⟩⟩⟩
end
end
theorem fnG_bad {P : Program} {w : World} {K : PySem.W.Frag} {mg : Str → Option Value} {base : Heap} {k : Nat} {f : Addr} {fd : FuncData} {ps : List Str} {g : Gam} : FnG P w K mg base k f fd ps (spD g ps.length fun _ _ => .bad) :=
  ⟨fun vs H Q E h => h.1, fun A outer s H args us vs Q E _ _ _ _ _ h => by obtain ⟨_, φ, ds, st, _, _, p⟩ := h; exact p.elim⟩
end DM

/-! DM26: loops over a list that may change, whichever it is; more of in. -/
namespace DM
open PySem PySem.Spec PyProof.Rows L2
section
variable {env : DEnv} {st : DSt} {QS : FL → DEnv → DSt → Prop}
theorem forR_inv {gm : Tgm} {body : Sm} {n : Nat} {ds : List DV} (I : Nat → DEnv → DSt → Prop) (hn : ∀ i e s, I i e s → s[n]? = some (.lst ds))
    (hs : ∀ i d e s, ds[i]? = some d → I i e s → ∃ e2, gm d e = some e2 ∧ wS (body e2 s) (qI (I (i + 1)) QS))
    (he : ∀ e s, I ds.length e s → QS .nx e s) : ∀ (m i : Nat) (e : DEnv) (s : DSt), ds.length < i + m → i ≤ ds.length → I i e s → wS (forR gm body n m i e s) QS
  | 0, i, e, s, h1, h2, _ => by omega
  | m + 1, i, e, s, h1, h2, h => by
    unfold forR
    rw [hn i e s h]
    cases e0 : ds[i]? with
    | none =>
      have : i = ds.length := by
        have := List.getElem?_eq_none_iff.mp e0
        omega
      subst this
      simp only [e0]
      exact ⟨he e s h⟩
    | some d =>
      have hi := (List.getElem?_eq_some_iff.mp e0).1
      obtain ⟨e2, e1, q⟩ := hs i d e s e0 h
      simp only [e0]
      unfold tgThen
      rw [e1]
      show wS ((body e2 s).turn (forR gm body n m (i + 1))) QS
      cases hb : body e2 s with
      | bad => rw [hb] at q; exact q.out.elim
      | exc _ _ _ => rw [hb] at q; exact q.out.elim
      | ok f e' s' =>
        rw [hb] at q
        cases f with
        | nx => exact forR_inv I hn hs he m (i + 1) e' s' (by omega) (by omega) q.out
        | ct => exact forR_inv I hn hs he m (i + 1) e' s' (by omega) (by omega) q.out
        | bk => exact ⟨q.out⟩
        | rt v => exact ⟨q.out⟩
theorem forM_inv {gm : Tgm} {body : Sm} {ds : List DV} (I : Nat → DEnv → DSt → Prop)
    (hs : ∀ i d e s, ds[i]? = some d → I i e s → ∃ e2, gm d e = some e2 ∧ wS (body e2 s) (qI (I (i + 1)) QS))
    (he : ∀ e s, I ds.length e s → QS .nx e s) {e : DEnv} {s : DSt} (h : I 0 e s) : wS (forM gm body ds e s) QS := by
  refine for_inv (fun xs e s => ∃ i, xs = ds.drop i ∧ i ≤ ds.length ∧ I i e s) ?_ ?_ ds e s ⟨0, rfl, Nat.zero_le _, h⟩
  · rintro d xs e s ⟨i, e1, hi, h⟩
    have hl : i < ds.length := by
      rcases Nat.lt_or_ge i ds.length with h | h
      · exact h
      · rw [List.drop_eq_nil_of_le h] at e1; cases e1
    rw [List.drop_eq_getElem_cons hl] at e1
    simp only [List.cons.injEq] at e1
    obtain ⟨rfl, rfl⟩ := e1
    obtain ⟨e2, e3, q⟩ := hs i _ e s (List.getElem?_eq_getElem hl) h
    refine ⟨e2, e3, wS_mono q ?_⟩
    intro f e' s' q
    cases f with
    | nx => exact ⟨i + 1, rfl, hl, q⟩
    | ct => exact ⟨i + 1, rfl, hl, q⟩
    | bk => exact q
    | rt v => exact q
  · rintro e s ⟨i, e1, hi, h⟩
    have : i = ds.length := by
      have := congrArg List.length e1
      simp at this
      omega
    subst this
    exact he e s h
/-- for over the items ds, be they of a value or of a list that may change (and doesn't) -/
theorem w_sForI {im : Im} {gm : Tgm} {body : Sm} {it : DIt} {ds : List DV} (I : Nat → DEnv → DSt → Prop) (hi : wR (im env st) fun i s => i = it ∧ s = st)
    (hat : it = .items ds ∨ ∃ n, it = .refl n ∧ ∀ i e s, I i e s → s[n]? = some (.lst ds)) (hl : ds.length < 1000000) (h0 : I 0 env st)
    (hs : ∀ i d e s, ds[i]? = some d → I i e s → ∃ e2, gm d e = some e2 ∧ wS (body e2 s) (qI (I (i + 1)) QS))
    (he : ∀ e s, I ds.length e s → QS .nx e s) : wS (sFor im gm body env st) QS := by
  refine wS_then (wR_mono hi fun i s ⟨e1, e2⟩ => ?_)
  subst e1 e2
  rcases hat with rfl | ⟨n, rfl, hn⟩
  · exact forM_inv I hs he h0
  · exact forR_inv I hn hs he turns 0 env _ (by show ds.length < 0 + 1000000; omega) (Nat.zero_le _) h0
theorem w_seqForI {im : Im} {gm : Tgm} {body y : Sm} {it : DIt} {ds : List DV} (I : Nat → DEnv → DSt → Prop) (hi : wR (im env st) fun i s => i = it ∧ s = st)
    (hat : it = .items ds ∨ ∃ n, it = .refl n ∧ ∀ i e s, I i e s → s[n]? = some (.lst ds)) (hl : ds.length < 1000000) (h0 : I 0 env st)
    (hs : ∀ i d e s, ds[i]? = some d → I i e s → ∃ e2, gm d e = some e2 ∧ wS (body e2 s) (qI (I (i + 1)) (qN (fun e s => wS (y e s) QS) QS)))
    (he : ∀ e s, I ds.length e s → wS (y e s) QS) : wS (sSeq (sFor im gm body) y env st) QS := w_seq (w_sForI I hi hat hl h0 hs he)
theorem w_iSeqRef {a : Ex} {n : Nat} {ds : List DV} (h : wR (a env st) fun d s => d = .ref n ∧ s = st) (hn : st[n]? = some (.lst ds)) : wR (iSeq a env st) fun i s => i = .refl n ∧ s = st :=
  w_iSeq (wR_mono h fun d s ⟨e1, e2⟩ => by subst e1 e2; exact .inr ⟨n, ds, rfl, hn, rfl, rfl⟩)
theorem w_iSeqVal {a : Ex} {ds : List DV} (h : wR (a env st) fun d s => (d = .lst ds ∨ d = .tup ds) ∧ s = st) : wR (iSeq a env st) fun i s => i = .items ds ∧ s = st :=
  w_iSeq (wR_mono h fun d s ⟨e1, e2⟩ => by
    subst e2
    refine .inl ⟨ds, ?_, rfl, rfl⟩
    rcases e1 with e1 | e1
    · exact .inl e1
    · exact .inr (.inr (.inl e1)))
end
section
variable {X : Cx} {g : Gam}
/-- x in y, y a tuple of data too -/
def inBX (st : DSt) (x y : DV) : Option Bool :=
  match inB st x y with
  | some b => some b
  | none => (match y with
    | .tup ds => (pyD st x).bind fun p => (pyVs ds).bind fun ps => if (SeqAt.shaped p && SeqAt.shaped (.tuple ps)) = true then some (ps.any fun z => PyData.eqv z p) else none
    | _ => none)
def inXP (x y : DV) (st : DSt) : Option (DV × DSt) := (inBX st x y).map fun b => (.bl b, st)
def rInT (K : PySem.W.Frag) : R2 := fun x y H Q => ∃ d ds, Dp K H x d ∧ Dp K H y (.tuple ds) ∧ SeqAt.shaped d = true ∧ SeqAt.shaped (.tuple ds) = true ∧ Q (.bl (ds.any fun z => PyData.eqv z d)) H
theorem op_inT (hu : X.A.units + 65 < cLine) : OpR X (compareOp .In) (rInT X.K) := by
  intro pins s σ H x y v u Q I rx ry h
  obtain ⟨d, ds, hd, he, sd, se, q⟩ := h
  obtain ⟨as, r1⟩ := Dp.reads I d x v hd rx
  obtain ⟨bs, r2⟩ := Dp.reads I (.tuple ds) y u he ry
  exact SeqAt.in_tuple_reads r2 r1 (SeqAt.canLay_of_shaped se) (SeqAt.canLay_of_shaped sd) (room_in_shaped sd hu) ⟨.bl _, H, I, rfl, q⟩
def rInX (X : Cx) : R2 := fun x y H Q => rInA X x y H Q ∨ rInT X.K x y H Q
theorem or_inX (hu : X.A.units + 65 < cLine) : OpR X (compareOp .In) (rInX X) := (or_in hu).or (op_inT hu)
theorem pr_inX (hK : X.K = g.K) : Prim2 g (rInX X) inXP := by
  intro φ st H x y dx dy Q s rx ry h
  unfold inXP inBX at h
  cases e : inB st dx dy with
  | some b =>
    rw [e] at h
    exact .inl ((inB_ok hK s rx ry e).1 Q (po1 s h mkRVbl))
  | none =>
    rw [e] at h
    simp only at h
    cases dy with
    | tup ds =>
      simp only at h
      cases ep : pyD st dx with
      | none => rw [ep] at h; exact h.elim
      | some p =>
        cases eps : pyVs ds with
        | none => rw [ep, eps] at h; exact h.elim
        | some ps =>
          rw [ep, eps] at h
          simp only [Option.bind_some] at h
          split at h
          · rename_i hs
            simp only [Bool.and_eq_true] at hs
            obtain ⟨a, xs, rfl, ha, rs⟩ := rvTup ry
            have h1 := pyD_ok s rx ep
            have h2 : Dp g.K H (.ref a) (.tuple ps) := .tup ha (pyVs_ok ds xs ps rs eps)
            rw [← hK] at h1 h2
            exact .inr ⟨p, ps, h1, h2, hs.1, hs.2, po1 s h mkRVbl⟩
          · exact h.elim
    | _ => exact h.elim
end
/-! ### xs[::k] of a list -/
def stepIx (k : Int) (n : Nat) : List Nat := sliceRange (sliceBounds none none (some k) n).1 (sliceBounds none none (some k) n).2.1 (sliceBounds none none (some k) n).2.2
def pickAt {α : Type} (ix : List Nat) (xs : List α) : List α := ix.filterMap (xs[·]?)
theorem pickAt_mem {α : Type} {ix : List Nat} {xs : List α} {x : α} (h : x ∈ pickAt ix xs) : x ∈ xs := by
  obtain ⟨i, _, e⟩ := List.mem_filterMap.mp h
  exact List.mem_of_getElem? e
theorem pickAt_len {α : Type} (k : Int) (xs : List α) : (pickAt (stepIx k xs.length) xs).length ≤ xs.length := by
  have h := slicePick_size_le (xs.map fun _ => Value.none).toArray none none (some k)
  unfold slicePick at h
  simp only [List.size_toArray, List.length_map] at h
  have gen : ∀ ix : List Nat, (pickAt ix xs).length = (ix.filterMap fun i => (xs.map fun _ => Value.none).toArray[i]?).length := by
    intro ix
    induction ix with
    | nil => rfl
    | cons i ix ih =>
      unfold pickAt at ih ⊢
      rw [List.filterMap_cons, List.filterMap_cons]
      cases e : xs[i]? with
      | none =>
        have e2 : (xs.map fun _ => Value.none).toArray[i]? = none := by simp [e]
        rw [e2]
        exact ih
      | some x =>
        have e2 : (xs.map fun _ => Value.none).toArray[i]? = some .none := by simp [e]
        rw [e2]
        simp [ih]
  rw [gen]
  exact h
theorem Vals.pickAt_ {xs : List V} {us : List Value} (r : Vals xs us) : ∀ ix : List Nat, Vals (DM.pickAt ix xs) (DM.pickAt ix us)
  | [] => .nil
  | i :: ix => by
    have ih := Vals.pickAt_ r ix
    unfold DM.pickAt at ih ⊢
    rw [List.filterMap_cons, List.filterMap_cons]
    cases e : xs[i]? with
    | none => rw [r.none_of e]; exact ih
    | some x => obtain ⟨u, e2, q⟩ := r.get e; rw [e2]; exact .cons q ih
theorem RVs.pickAt_ {g : Gam} {φ : Lay} {H : Hp} {ds : List DV} {vs : List V} (r : RVs g φ H ds vs) : ∀ ix : List Nat, RVs g φ H (DM.pickAt ix ds) (DM.pickAt ix vs)
  | [] => RVs.nil
  | i :: ix => by
    have ih := RVs.pickAt_ r ix
    unfold DM.pickAt at ih ⊢
    rw [List.filterMap_cons, List.filterMap_cons]
    cases e : ds[i]? with
    | none =>
      have : vs[i]? = none := by
        have := List.getElem?_eq_none_iff.mp e
        rw [r.length] at this
        exact List.getElem?_eq_none_iff.mpr this
      rw [this]
      exact ih
    | some d => obtain ⟨v, e2, q⟩ := r.get e; rw [e2]; exact RVs.cons q ih
def tStep (K : PySem.W.Frag) (k : Int) (te : TE) : TE := fun σ H Q => te σ H fun x H1 => ∃ a xs, x = .ref a ∧ SqL K H1 a xs ∧ ∀ p, H1 p = none → Q (.ref p) (upd H1 p (.lst (pickAt (stepIx k xs.length) xs)))
section
variable {X : Cx} {g : Gam} {W : WX} {e : Expr} {ma : Ex} {pos p2 : Pos}
theorem pe_step {te : TE} {k : Int} {n : Nat} {p1 p3 : Pos} (h0 : k ≠ 0) (he : PE X e te) : PE X (.Subscript e (.Slice none none (some (.Constant (.int k) n p1)) p3) pos) (tStep X.K k te) := by
  constructor
  intro pins s σ H Q I h
  refine Subscript_ (thn (he.run pins s σ H _ I h) ?_)
  rintro v s1 ⟨_, H1, J1, rv, a, xs, rfl, hx, q⟩
  cases rv
  have num : PE X (.Constant (.int k) n p1) (tC (.int k)) := pe_int
  refine wpAny_Slice (thn (po_none.run pins s1 σ H1 (fun part G => part = none ∧ G = H1) J1 ⟨rfl, rfl⟩) ?_)
  rintro lo s2 ⟨_, _, J2, plo, rfl, rfl⟩
  refine thn (po_none.run pins s2 σ _ (fun part G => part = none ∧ G = _) J2 ⟨rfl, rfl⟩) ?_
  rintro hi s3 ⟨_, _, J3, phi, rfl, rfl⟩
  refine thn ((po_some num).run pins s3 σ _ (fun part G => part = some k ∧ G = _) J3 ⟨k, rfl, rfl, rfl⟩) ?_
  rintro by_ s4 ⟨_, H4, J4, pby, rfl, rfl⟩
  have J5 : Inv X pins σ H4 { s4 with heap := s4.heap.push { cls := .type "slice", data := .fields #[lo, hi, by_] } } := J4.kept (t' := s4.toks) fun b ob z => Heap.get?_push_of_some _ z
  obtain ⟨its, r, tp, hz⟩ := J5.list hx
  have hn := r.length
  refine tail_any (ops := [.ref a, .ref s4.heap.objs.size]) tp.isList.typeIs slot_list_getitem.lookup (wpAny_getItem_list_slice tp.isList (Heap.IsSliceOf.new _ lo hi by_) plo phi pby (fun z => h0 (Option.some.inj z)) ?_ (by rw [List.size_toArray, ← hn]; exact hz)) (by with_unfolding_all rfl)
  have e1 : slicePick its.toArray none none (some k) = (pickAt (stepIx k xs.length) its).toArray := by
    unfold slicePick stepIx pickAt
    rw [hn, List.size_toArray]
    congr 1
    congr 1
    funext i
    exact List.getElem?_toArray ..
  rw [e1]
  refine ⟨.ref _, _, J5.laid (t' := s4.toks) (o := .lst (pickAt (stepIx k xs.length) xs)) (fun b ob z => Heap.get?_push_of_some _ z) (Nat.le_refl _) ?_, rfl, q _ (J5.hok.fresh (Nat.le_refl _))⟩
  exact ⟨Nat.le_trans (pickAt_len k xs) hz, _, 0, Vals.pickAt_ r _, Heap.get?_push_size _ rfl⟩
def stepP (k : Int) : DV → DSt → Option (DV × DSt) := fun x st => (lstOf st x).map fun ds => (.lst (pickAt (stepIx k ds.length) ds), st)
theorem pe_eStep (hK : X.K = g.K) {k : Int} {n : Nat} {p1 p3 : Pos} (h0 : k ≠ 0) (he : PE X e (TM g (RV g) W ma)) : PE X (.Subscript e (.Slice none none (some (.Constant (.int k) n p1)) p3) pos) (TM g (RV g) W (DM.e1 (stepP k) ma)) :=
  (pe_step h0 he).imp fun σ H Q ⟨φ, env, st, s, nn, h⟩ => ⟨φ, env, st, s, nn, Post.bind h fun d st1 φ1 H1 v x1 s1 r1 h1 => by
    have h1 := Post.of h1
    unfold stepP at h1
    cases ed : lstOf st1 d with
    | none => rw [ed] at h1; exact h1.elim
    | some ds =>
      rw [ed] at h1
      obtain ⟨a, xs, rfl, hx, rs⟩ := lstOf_ok s1 r1 ed
      refine ⟨a, xs, rfl, SqL.of hx, ?_⟩
      rw [← rs.length]
      exact new_lst s1 (RVs.pickAt_ rs _) h1⟩
end
end DM

/-! DM27: repr of anything nested: lists, tuples, dicts in one another. -/
namespace DM
open PySem PySem.Spec PyProof.Rows L2
/-- a value that stands as data and can be shown -/
def ShW (h : Heap) (v : Value) (p : PyData) : Prop :=
  (∃ as, Reads h v p as) ∧ (p.showable = true → p.shown.length ≤ sizeLine → ∀ (pr : Program) (w : World),
    (∃ bs, ReadAtMost h p.depth bs ∧ ReprK pr w bs h p.depth v p.shown) ∧ (∀ a, v = .ref a → ∃ T f, ShowsBy pr w h a p T f))
def ShA (h : Heap) (vs : List Value) (ps : List PyData) : Prop :=
  (∃ as, ReadsAll h vs ps as) ∧ (PyData.showableAll ps = true → (∀ t, t ∈ PyData.shownAll ps → t.length ≤ sizeLine) → ∀ (pr : Program) (w : World),
    ∃ bs, ReadAtMost h (PyData.depthAll ps) bs ∧ ReprAllK pr w bs h (PyData.depthAll ps) vs (PyData.shownAll ps))
theorem ShW.ofReads {h : Heap} {v : Value} {p : PyData} {as : List Addr} (r : Reads h v p as) (m : p.hasDict = true → sysModules ∉ as) : ShW h v p :=
  ⟨⟨as, r⟩, fun a b pr w => ⟨ReprK.of_reads r a m b, fun x e => by subst e; exact showsBy_of_reads r a m b⟩⟩
theorem ShA.nil {h : Heap} : ShA h [] [] := ⟨⟨[], .nil⟩, fun _ _ _ _ => ⟨[], fun _ z => (nomatch z), by simp only [PyData.shownAll]; exact .nil⟩⟩
theorem ShA.cons {h : Heap} {v : Value} {p : PyData} {vs : List Value} {ps : List PyData} (x : ShW h v p) (y : ShA h vs ps) : ShA h (v :: vs) (p :: ps) := by
  obtain ⟨⟨as, rx⟩, kx⟩ := x
  obtain ⟨⟨cs, ry⟩, ky⟩ := y
  refine ⟨⟨_, .cons rx ry⟩, fun sh sz pr w => ?_⟩
  rw [PyData.showableAll, Bool.and_eq_true] at sh
  simp only [PyData.shownAll, List.mem_cons] at sz
  obtain ⟨⟨b1, l1, q1⟩, _⟩ := kx sh.1 (sz _ (.inl rfl)) pr w
  obtain ⟨b2, l2, q2⟩ := ky sh.2 (fun t z => sz t (.inr z)) pr w
  rw [PyData.depthAll, PyData.shownAll]
  refine ⟨b1 ++ b2, (l1.mono (Nat.le_max_left ..)).append (l2.mono (Nat.le_max_right ..)), .cons ?_ ?_⟩
  · exact (q1.more (as' := b1 ++ b2) fun c z => by simp [z]).level_le (Nat.le_max_left ..)
  · exact q2.more_le (fun c z => by simp [z]) (Nat.le_max_right ..)
theorem ShA.list {h : Heap} {a : Addr} {o : Obj} {vs : List Value} {n : Nat} {ps : List PyData} (e1 : h.get? a = some o) (e2 : o.cls = .type "list") (e3 : o.data = .seq vs.toArray n) (y : ShA h vs ps) :
    ShW h (.ref a) (.list ps) := by
  obtain ⟨⟨cs, ry⟩, ky⟩ := y
  have top : Reads h (.ref a) (.list ps) _ := Reads.list e1 e2 e3 ry
  refine ⟨⟨_, top⟩, fun sh sz pr w => ?_⟩
  rw [PyData.showable] at sh
  rw [PyData.shown] at sz
  obtain ⟨bs, lb, qb⟩ := ky sh (fun t z => Nat.le_trans (listText_mem_le z) sz) pr w
  have lt : PyData.depthAll ps < (PyData.list ps).depth := by rw [PyData.depth]; omega
  have out := not_mem_of_deeper top lt lb
  rw [PyData.shown]
  cases vs with
  | nil =>
    cases ry
    rw [show PyData.shownAll [] = [] from by rw [PyData.shownAll], listText_nil]
    refine ⟨⟨[a], .cons top (Nat.le_of_lt lt) (fun _ z => (nomatch z)), ?_⟩, fun b eb => ?_⟩
    · rw [PyData.depth]; exact .listEmpty e1 e2 e3
    · cases eb
      refine ⟨"list", "list.__repr__", F.slot_list_repr.toG, F.slot_list_str, F.slot_list_format, fun s k => ⟨_, k _ _ e1, e2⟩, fun A E s Q hg hu k fin => ?_⟩
      simp only [PyData.shown, PyData.shownAll, listText_nil] at fin
      exact call_list_repr_empty ⟨_, k _ _ e1, e2⟩ (k _ _ e1) e3 (fin s.heap _ _ fun _ _ z => z)
  | cons x l =>
    have len : (PyData.shownAll ps).length = (x :: l).toArray.size := by rw [qb.length_eq, List.size_toArray]
    have at_ : ∀ (i : Nat) (y : Value), (x :: l).toArray[i]? = some y → ∃ t, (PyData.shownAll ps)[i]? = some t ∧ ReprK pr w bs h (PyData.depthAll ps) y t := fun i y ey => qb.item i y (by rw [← ey, List.getElem?_toArray])
    refine ⟨⟨a :: bs, .cons top (Nat.le_of_lt lt) lb, ?_⟩, fun b eb => ?_⟩
    · rw [PyData.depth]; exact .list e1 e2 e3 out len at_
    · cases eb
      refine ⟨"list", "list.__repr__", F.slot_list_repr.toG, F.slot_list_str, F.slot_list_format, fun s k => ⟨_, k _ _ e1, e2⟩, fun A E s Q hg hu k fin => ?_⟩
      rw [PyData.depth] at hu
      rw [PyData.shown] at fin
      exact call_list_reprK e1 e2 e3 out len at_ hg (fun c _ => Clear.nil c) hu k fin sz
theorem ShA.tuple {h : Heap} {a : Addr} {o : Obj} {vs : List Value} {n : Nat} {ps : List PyData} (e1 : h.get? a = some o) (e2 : o.cls = .type "tuple") (e3 : o.data = .seq vs.toArray n) (y : ShA h vs ps) :
    ShW h (.ref a) (.tuple ps) := by
  obtain ⟨⟨cs, ry⟩, ky⟩ := y
  have top : Reads h (.ref a) (.tuple ps) _ := Reads.tuple e1 e2 e3 ry
  refine ⟨⟨_, top⟩, fun sh sz pr w => ?_⟩
  rw [PyData.showable] at sh
  rw [PyData.shown] at sz
  obtain ⟨bs, lb, qb⟩ := ky sh (fun t z => Nat.le_trans (tupleText_mem_le z) sz) pr w
  have lt : PyData.depthAll ps < (PyData.tuple ps).depth := by rw [PyData.depth]; omega
  have out := not_mem_of_deeper top lt lb
  rw [PyData.shown]
  refine ⟨⟨a :: bs, .cons top (Nat.le_of_lt lt) lb, ?_⟩, fun b eb => ?_⟩
  · rw [PyData.depth]; exact .tuple e1 e2 e3 out qb
  · cases eb
    refine ⟨"tuple", "tuple.__repr__", F.slot_tuple_repr, F.slot_tuple_str, F.slot_tuple_format, fun s k => ⟨_, k _ _ e1, e2⟩, fun A E s Q hg hu k fin => ?_⟩
    rw [PyData.depth] at hu
    rw [PyData.shown] at fin
    exact call_tuple_reprK e1 e2 e3 out qb hg (fun c _ => Clear.nil c) hu k fin sz
def RdS (X : Cx) (x : V) (H : Hp) (p : PyData) : Prop := ∀ (pins : List (Addr × Obj)) (σ : L2.St) (s : Shared) (u : Value), Inv X pins σ H s → RelV x u → ShW s.heap u p
theorem RdP.s {X : Cx} {x : V} {H : Hp} {p : PyData} (r : RdP X x H p) : RdS X x H p := fun pins σ s u I ru => by
  obtain ⟨as, q, m⟩ := r pins σ s u I ru
  exact .ofReads q m
def rReprG (X : Cx) : List V → Hp → VK → Prop := fun xs H Q => ∃ x p, xs = [x] ∧ RdS X x H p ∧ okShow p = true ∧ Q (.str p.shown) H
theorem cr_reprG {X : Cx} (hG : X.A.guards = some []) (hu : X.A.units + 64 < cLine) : CallR X (.builtin "repr") (rReprG X) := by
  intro pins s σ H xs us Q I r h
  obtain ⟨x, p, rfl, rd, ok, q⟩ := h
  obtain ⟨u, rfl, rx⟩ := vals1 r
  obtain ⟨⟨as, red⟩, k⟩ := rd pins σ s u I rx
  simp only [okShow, Bool.and_eq_true, decide_eq_true_eq] at ok
  obtain ⟨⟨sh, dp⟩, sz⟩ := ok
  have fin : ∀ (h' : Heap) (t : Tok) (tk : Nat), (∀ b o, s.heap.get? b = some o → h'.get? b = some o) → EP X pins σ Q (.str p.shown t) { s with heap := h', toks := tk } := fun h' t tk k => ⟨.str p.shown, H, I.kept k, ⟨t, rfl⟩, q⟩
  have big : ∀ a, u = .ref a → wpAny (model X.prog X.w) X.A (call (.builtin "repr") [u]) (EP X pins σ Q) X.xe s := fun a ea => by
    subst ea
    obtain ⟨T, f, S⟩ := (k sh sz X.prog X.w).2 a rfl
    refine call_repr_slot (by omega) (S.typeIs s fun _ _ z => z) S.slotRepr (S.call X.A.in1 X.xe s _ hG ?_ (fun _ _ z => z) fun h' t tk kk => ⟨_, _, rfl, fin h' t tk kk⟩)
    show X.A.units + 1 + p.depth < cLine
    omega
  cases red with
  | none => exact P.repr_of_none (fin s.heap _ _ fun _ _ e => e)
  | bool b => exact P.repr_of_bool (fin s.heap _ _ fun _ _ e => e)
  | int i t => exact P.repr_of_int (of_decide_eq_true sh) (fin s.heap _ _ fun _ _ e => e)
  | str y t => exact P.repr_of_str (fin s.heap _ _ fun _ _ e => e) sz
  | list h1 h2 h3 h4 => exact big _ rfl
  | tuple h1 h2 h3 h4 => exact big _ rfl
  | dict h1 h2 h3 h4 h5 => exact big _ rfl
mutual
def pyG (st : DSt) : DV → Option PyData
  | .tup ds => (pyGs st ds).map .tuple
  | .lst ds => (pyGs st ds).map .list
  | .fzl ds => (pyGs st ds).map .list
  | .ref n => pyR st (.ref n)
  | .non => some .none
  | .bl b => some (.bool b)
  | .int i => some (.int i)
  | .str x => some (.str x)
  | .glo _ => none
  | .ty _ => none
def pyGs (st : DSt) : List DV → Option (List PyData)
  | [] => some []
  | d :: ds => (pyG st d).bind fun x => (pyGs st ds).map fun r => x :: r
end
def reprGP : PrF := fun ds st => match ds with
  | [d] => (pyG st d).bind fun p => if okShow p = true then some (.str p.shown, st) else none
  | _ => none
section
variable {X : Cx} {g : Gam}
theorem pyR_ok (hK : X.K = g.K) {φ : Lay} {H : Hp} {st : DSt} (s : RSt g φ H st) {n : Nat} {x : V} {p : PyData} (rx : RV g φ H (.ref n) x) (q : pyR st (.ref n) = some p) : RdP X x H p := by
  simp only [pyR] at q
  cases q2 : st[n]? with
  | none => simp [q2] at q
  | some o =>
    cases o with
    | lst es =>
      simp only [q2, Option.map_eq_some_iff] at q
      obtain ⟨ps, e1, rfl⟩ := q
      intro pins σ s0 u I ru
      have dp := pyD_ok (p := .list ps) s rx (by simp [pyD, q2, e1])
      rw [← hK] at dp
      obtain ⟨as, z⟩ := Dp.reads I _ x u dp ru
      refine ⟨as, z, fun z2 => ?_⟩
      simp only [PyData.hasDict] at z2
      rw [pyVs_noDict es ps e1] at z2
      cases z2
    | dct kvs =>
      simp only [q2, Option.map_eq_some_iff] at q
      obtain ⟨ps, e1, rfl⟩ := q
      obtain ⟨a, ho, h1, h2, ks, rfl, h3⟩ := s.get q2
      simp only [RV] at rx
      obtain ⟨a', rfl, h4⟩ := rx
      rw [h1] at h4
      cases h4
      exact rdp_dict h2 h3 e1
    | ins c fs => simp [q2] at q
    | dcn kvs => simp [q2] at q
mutual
theorem pyG_ok (hK : X.K = g.K) {φ : Lay} {H : Hp} {st : DSt} (s : RSt g φ H st) : ∀ (d : DV) (x : V) (p : PyData), RV g φ H d x → pyG st d = some p → RdS X x H p
  | .non, x, p, r, e => by simp only [pyG, Option.some.injEq] at e; subst e; exact (rdp_of hK r rfl).s
  | .bl b, x, p, r, e => by simp only [pyG, Option.some.injEq] at e; subst e; exact (rdp_of hK r rfl).s
  | .int b, x, p, r, e => by simp only [pyG, Option.some.injEq] at e; subst e; exact (rdp_of hK r rfl).s
  | .str b, x, p, r, e => by simp only [pyG, Option.some.injEq] at e; subst e; exact (rdp_of hK r rfl).s
  | .glo b, x, p, r, e => by simp [pyG] at e
  | .ty b, x, p, r, e => by simp [pyG] at e
  | .ref n, x, p, r, e => (pyR_ok hK s r (by simpa only [pyG] using e)).s
  | .tup ds, x, p, r, e => by
    obtain ⟨a, xs, rfl, q, rs⟩ := rvTup r
    simp only [pyG, Option.map_eq_some_iff] at e
    obtain ⟨ps, e1, rfl⟩ := e
    intro pins σ s0 u I ru
    cases ru
    rw [← hK] at q
    obtain ⟨its, rv, ⟨o, ho, hc, m, hd⟩, _⟩ := I.tuple q
    exact ShA.tuple ho hc hd (pyGs_ok hK s ds xs ps rs e1 pins σ s0 its I rv)
  | .lst ds, x, p, r, e => by
    simp only [RV] at r
    obtain ⟨a, xs, rfl, _, q, rs⟩ := r
    simp only [pyG, Option.map_eq_some_iff] at e
    obtain ⟨ps, e1, rfl⟩ := e
    intro pins σ s0 u I ru
    cases ru
    obtain ⟨its, rv, ⟨o, m, ho, hc, _, hd⟩, _⟩ := I.list (a := a) (xs := xs) (.of q)
    exact ShA.list ho hc hd (pyGs_ok hK s ds xs ps rs e1 pins σ s0 its I rv)
  | .fzl ds, x, p, r, e => by
    simp only [RV] at r
    obtain ⟨a, xs, rfl, q, rs⟩ := r
    simp only [pyG, Option.map_eq_some_iff] at e
    obtain ⟨ps, e1, rfl⟩ := e
    intro pins σ s0 u I ru
    cases ru
    have sq : SqL X.K H a xs := by
      rcases q with ⟨_, q⟩ | q
      · exact .inl q
      · rw [hK]; exact q H
    obtain ⟨its, rv, ⟨o, m, ho, hc, _, hd⟩, _⟩ := I.list sq
    exact ShA.list ho hc hd (pyGs_ok hK s ds xs ps rs e1 pins σ s0 its I rv)
theorem pyGs_ok (hK : X.K = g.K) {φ : Lay} {H : Hp} {st : DSt} (s : RSt g φ H st) : ∀ (ds : List DV) (xs : List V) (ps : List PyData), RVs g φ H ds xs → pyGs st ds = some ps →
    ∀ (pins : List (Addr × Obj)) (σ : L2.St) (s : Shared) (us : List Value), Inv X pins σ H s → Vals xs us → ShA s.heap us ps
  | [], xs, ps, r, e, pins, σ, s0, us, I, ru => by
    simp only [RVs] at r
    subst r
    simp only [pyGs, Option.some.injEq] at e
    subst e
    cases ru
    exact .nil
  | d :: ds, xs, ps, r, e, pins, σ, s0, us, I, ru => by
    simp only [RVs] at r
    obtain ⟨y, r', rfl, r1, r2⟩ := r
    simp only [pyGs, Option.bind_eq_some_iff, Option.map_eq_some_iff] at e
    obtain ⟨p, e1, ps', e2, rfl⟩ := e
    cases ru with
    | cons u1 u2 => exact .cons (pyG_ok hK s d y p r1 e1 pins σ s0 _ I u1) (pyGs_ok hK s ds r' ps' r2 e2 pins σ s0 _ I u2)
end
theorem pr_reprG (hK : X.K = g.K) : PrimL g (rReprG X) reprGP := by
  intro φ st H vs ds Q s r h
  unfold reprGP at h
  split at h
  · rename_i d
    obtain ⟨x, rfl, rx⟩ := rvs1 r
    cases q : pyG st d with
    | none => rw [q] at h; exact h.elim
    | some p =>
      rw [q, Option.bind_some] at h
      split at h
      · rename_i ok
        exact ⟨x, p, rfl, pyG_ok hK s d x p rx q, ok, po1 s h mkStr⟩
      · exact h.elim
  · exact h.elim
end
/-! ### compared with the empty list, the empty tuple, whatever lies within -/
def nilC : DV → DV → Option Bool
  | .tup ds, .tup [] => some ds.isEmpty
  | .lst ds, .lst [] => some ds.isEmpty
  | _, _ => none
def eqGP (x y : DV) (st : DSt) : Option (DV × DSt) := match nilC x y with
  | some b => some (.bl b, st)
  | none => eqP x y st
def neGP (x y : DV) (st : DSt) : Option (DV × DSt) := match nilC x y with
  | some b => some (.bl (!b), st)
  | none => neP x y st
def rEqN (K : PySem.W.Frag) (f : Bool → Bool) : R2 := fun x y H Q => ∃ a b xs, x = .ref a ∧ y = .ref b ∧ ((SqT K H a xs ∧ SqT K H b []) ∨ (SqL K H a xs ∧ SqL K H b [])) ∧ Q (.bl (f xs.isEmpty)) H
section
variable {X : Cx} {g : Gam}
theorem vals_empty {xs : List V} {its : List Value} (r : Vals xs its) : xs.isEmpty = its.isEmpty := by cases r <;> rfl
theorem rc_nil {A : Around} {s : Shared} {a b : Addr} {its : List Value} (h : (IsTup s.heap a its.toArray ∧ IsTup s.heap b #[]) ∨ (PlainL s.heap a its.toArray ∧ PlainL s.heap b #[])) (hu : A.units < cLine) :
    SeqAt.RcAt A s (.ref a) (.ref b) its.isEmpty ∧ SeqAt.RcNeAt A s (.ref a) (.ref b) (!its.isEmpty) := by
  rcases h with ⟨h1, h2⟩ | ⟨⟨o1, n1, e1, c1, _, d1⟩, o2, n2, e2, c2, _, d2⟩
  · have k1 := SeqAt.RcAt.tuples (A := A) (e := fun _ => true) h1 h2 hu (fun j _ z => absurd z (Nat.not_lt_zero _))
    have k2 := SeqAt.RcNeAt.tuples (A := A) (e := fun _ => true) h1 h2 hu (fun j _ z => absurd z (Nat.not_lt_zero _))
    cases its with
    | nil => exact ⟨k1, k2⟩
    | cons x l => exact ⟨by simpa using k1, by simpa using k2⟩
  · have h1 : s.heap.IsList a its.toArray := ⟨o1, e1, c1, n1, d1⟩
    have h2 : s.heap.IsList b #[] := ⟨o2, e2, c2, n2, d2⟩
    cases its with
    | nil =>
      exact ⟨SeqAt.RcAt.lists (e := fun _ => true) h1 h2 rfl hu (fun j _ z => absurd z (Nat.not_lt_zero _)), SeqAt.RcNeAt.lists (e := fun _ => true) h1 h2 rfl hu (fun j _ z => absurd z (Nat.not_lt_zero _))⟩
    | cons x l => exact ⟨SeqAt.RcAt.lists_lengths h1 h2 (by simp) hu, SeqAt.RcNeAt.lists_lengths h1 h2 (by simp) hu⟩
theorem nil_at {pins : List (Addr × Obj)} {σ : L2.St} {s : Shared} {H : Hp} {a b : Addr} {xs : List V} (I : Inv X pins σ H s) (h : (SqT X.K H a xs ∧ SqT X.K H b []) ∨ (SqL X.K H a xs ∧ SqL X.K H b [])) :
    ∃ its : List Value, xs.isEmpty = its.isEmpty ∧ ((IsTup s.heap a its.toArray ∧ IsTup s.heap b #[]) ∨ (PlainL s.heap a its.toArray ∧ PlainL s.heap b #[])) := by
  rcases h with ⟨h1, h2⟩ | ⟨h1, h2⟩
  · obtain ⟨its, r, p, _⟩ := I.tuple h1
    obtain ⟨its2, r2, p2, _⟩ := I.tuple h2
    cases r2
    exact ⟨its, vals_empty r, .inl ⟨p, p2⟩⟩
  · obtain ⟨its, r, p, _⟩ := I.list h1
    obtain ⟨its2, r2, p2, _⟩ := I.list h2
    cases r2
    exact ⟨its, vals_empty r, .inr ⟨p, p2⟩⟩
theorem op_eqN (hu : X.A.units + 64 < cLine) : OpR X (compareOp .Eq) (rEqN X.K id) := by
  intro pins s σ H x y v u Q I rx ry h
  obtain ⟨a, b, xs, rfl, rfl, k, q⟩ := h
  cases rx
  cases ry
  obtain ⟨its, e, z⟩ := nil_at I k
  exact (rc_nil z (by omega)).1 X.prog X.w X.xe _ ⟨.bl _, H, I, rfl, by rw [← e]; exact q⟩
theorem op_neN (hu : X.A.units + 64 < cLine) : OpR X (compareOp .NotEq) (rEqN X.K (!·)) := by
  intro pins s σ H x y v u Q I rx ry h
  obtain ⟨a, b, xs, rfl, rfl, k, q⟩ := h
  cases rx
  cases ry
  obtain ⟨its, e, z⟩ := nil_at I k
  exact (rc_nil z (by omega)).2 X.prog X.w X.xe _ ⟨.bl _, H, I, rfl, by rw [← e]; exact q⟩
theorem op_eqG (hu : X.A.units + 64 < cLine) : OpR X (compareOp .Eq) (fun x y H Q => (rEq x y H Q ∨ rEqD X.K x y H Q) ∨ rEqN X.K id x y H Q) := (op_eqA hu).or (op_eqN hu)
theorem op_neG (hu : X.A.units + 64 < cLine) : OpR X (compareOp .NotEq) (fun x y H Q => (rNe x y H Q ∨ rNeD X.K x y H Q) ∨ rEqN X.K (!·) x y H Q) := (op_neA hu).or (op_neN hu)
theorem rvs_empty {φ : Lay} {H : Hp} {ds : List DV} {xs : List V} (r : RVs g φ H ds xs) : ds.isEmpty = xs.isEmpty := by
  cases ds with
  | nil => simp only [RVs] at r; subst r; rfl
  | cons d ds => simp only [RVs] at r; obtain ⟨x, r', rfl, _⟩ := r; rfl
theorem nilC_ok {φ : Lay} {H : Hp} {dx dy : DV} {x y : V} {b : Bool} (rx : RV g φ H dx x) (ry : RV g φ H dy y) (e : nilC dx dy = some b) :
    ∃ a c xs, x = .ref a ∧ y = .ref c ∧ ((SqT g.K H a xs ∧ SqT g.K H c []) ∨ (SqL g.K H a xs ∧ SqL g.K H c [])) ∧ xs.isEmpty = b := by
  unfold nilC at e
  split at e
  · rename_i ds
    obtain ⟨a, xs, rfl, q, rs⟩ := rvTup rx
    obtain ⟨c, ys, rfl, q2, rs2⟩ := rvTup ry
    simp only [RVs] at rs2
    subst rs2
    cases e
    exact ⟨a, c, xs, rfl, rfl, .inl ⟨q, q2⟩, (rvs_empty rs).symm⟩
  · rename_i ds
    simp only [RV] at rx ry
    obtain ⟨a, xs, rfl, _, q, rs⟩ := rx
    obtain ⟨c, ys, rfl, _, q2, rs2⟩ := ry
    simp only [RVs] at rs2
    subst rs2
    cases e
    exact ⟨a, c, xs, rfl, rfl, .inr ⟨.of q, .of q2⟩, (rvs_empty rs).symm⟩
  · cases e
theorem pr_eqG : Prim2 g (fun x y H Q => (rEq x y H Q ∨ rEqD g.K x y H Q) ∨ rEqN g.K id x y H Q) eqGP := by
  intro φ st H x y dx dy Q s rx ry h
  unfold eqGP at h
  cases e : nilC dx dy with
  | none => rw [e] at h; exact .inl (pr_eq φ st H x y dx dy Q s rx ry h)
  | some b =>
    rw [e] at h
    obtain ⟨a, c, xs, e1, e2, e3, e4⟩ := nilC_ok rx ry e
    exact .inr ⟨a, c, xs, e1, e2, e3, by rw [e4]; exact po1 s h mkRVbl⟩
theorem pr_neG : Prim2 g (fun x y H Q => (rNe x y H Q ∨ rNeD g.K x y H Q) ∨ rEqN g.K (!·) x y H Q) neGP := by
  intro φ st H x y dx dy Q s rx ry h
  unfold neGP at h
  cases e : nilC dx dy with
  | none => rw [e] at h; exact .inl (pr_ne φ st H x y dx dy Q s rx ry h)
  | some b =>
    rw [e] at h
    obtain ⟨a, c, xs, e1, e2, e3, e4⟩ := nilC_ok rx ry e
    exact .inr ⟨a, c, xs, e1, e2, e3, by rw [e4]; exact po1 s h mkRVbl⟩
end
end DM

namespace DM
open PySem PySem.Spec PyProof.Rows L2

def topS (i : Nat) : Stmt := PySem.Challenge.pw_manyblocks_k64_what_is_a_history.main.body.getD i (.Pass ⟨0, 0, 0, 0⟩)
abbrev s_is_whole : Stmt := topS 4
abbrev N_is_whole : List Str := ["thing"]
abbrev ps_is_whole : List Str := ["thing"]
theorem nd_is_whole : N_is_whole.Nodup := by decide +kernel
def b_is_whole : Sm :=
  (sRet (eAnd (eB (isiP "int") (asCons (eVar 0) (asCons (eC (.ty "int")) asNil))) (eNot (eB (isiP "bool") (asCons (eVar 0) (asCons (eC (.ty "bool")) asNil))))))
def m_is_whole : Fn := runFn N_is_whole.length b_is_whole
abbrev s_is_row : Stmt := topS 5
abbrev N_is_row : List Str := ["thing", "client", "word", "content", "begun", "ended", "one"]
abbrev ps_is_row : List Str := ["thing"]
theorem nd_is_row : N_is_row.Nodup := by decide +kernel
def b_is_row : Sm :=
  (sSeq (sIf (bOr (bNot (bOf (eB (isiP "tuple") (asCons (eVar 0) (asCons (eC (.ty "tuple")) asNil))))) (bOf (e2 neP (eB lenP (asCons (eVar 0) asNil)) (eC (.int 5))))) (sRet (eC (.bl false))) sNx)
    (sSeq (sAsg (eVar 0) (gT 5 (gsCons (gN 1) (gsCons (gN 2) (gsCons (gN 3) (gsCons (gN 4) (gsCons (gN 5) gsNil)))))))
    (sSeq (sIf (bOr (bNot (bOf (eB allP (asCons (eLc (iSeq (eTup (asCons (eVar 1) (asCons (eVar 3) (asCons (eVar 4) (asCons (eVar 5) asNil)))))) (gN 6) bYes (eCall m_is_whole (fun us ws => pick [(0, 0)] us ws []) 1 0 (asCons (eVar 6) asNil) asNil) [6]) asNil)))) (bNot (bOf (eB (isiP "str") (asCons (eVar 2) (asCons (eC (.ty "str")) asNil)))))) (sRet (eC (.bl false))) sNx)
    (sSeq (sIf (bOr (bOf (e2 notinP (eVar 2) (eC (.tup [.str "read", .str "write"])))) (bOr (bOf (e2 ltP (eB min2P (asCons (eVar 1) (asCons (eVar 4) asNil))) (eC (.int 0)))) (bNot (bOf (eChain leP leP (eC (.int 0)) (eVar 3) (eC (.int 999999))))))) (sRet (eC (.bl false))) sNx)
    (sRet (eOr (e2 geP (eVar 5) (eVar 4)) (eAnd (e2 eqP (eVar 5) (e1 negP (eC (.int 1)))) (e2 eqP (eVar 2) (eC (.str "write"))))))))))
def m_is_row : Fn := runFn N_is_row.length b_is_row
abbrev s_is_history : Stmt := topS 6
abbrev N_is_history : List Str := ["thing", "one"]
abbrev ps_is_history : List Str := ["thing"]
theorem nd_is_history : N_is_history.Nodup := by decide +kernel
def b_is_history : Sm :=
  (sRet (eAnd (eB (isiP "tuple") (asCons (eVar 0) (asCons (eC (.ty "tuple")) asNil))) (eB allP (asCons (eLc (iSeq (eVar 0)) (gN 1) bYes (eCall m_is_row (fun us ws => pick [(0, 0)] us ws []) 1 0 (asCons (eVar 1) asNil) asNil) [1]) asNil))))
def m_is_history : Fn := runFn N_is_history.length b_is_history
abbrev s__law_deck : Stmt := topS 8
abbrev N__law_deck : List Str := ["_law_script", "_law_cells", "_law_seed", "_law_cell"]
abbrev ps__law_deck : List Str := ["_law_script"]
theorem nd__law_deck : N__law_deck.Nodup := by decide +kernel
def b__law_deck : Sm :=
  (sSeq (sAsg (eB listP (asCons (eSl slP (eVar 0) oNone (oSome (eC (.int 63)))) asNil)) (gN 1))
    (sSeq (sAsg (eC (.int 60013)) (gN 2))
    (sSeq (sFor (iSeq (eVar 1)) (gN 3) (sAsg (e2 modP (e2 addP (e2 addP (e2 mulP (eVar 2) (eC (.int 48271))) (e2 modP (eVar 3) (eC (.int 2147483629)))) (eC (.int 13))) (eC (.int 2147483587))) (gN 2)))
    (sRet (eDisp (ksCons (eC (.str "cells")) (e1 revRP (eVar 1)) (ksCons (eC (.str "seed")) (eVar 2) (ksCons (eC (.str "turn")) (eC (.int 0)) ksNil))))))))
def m__law_deck : Fn := runFn N__law_deck.length b__law_deck
abbrev s__law_draw : Stmt := topS 9
abbrev N__law_draw : List Str := ["_law_deck_here", "_law_many", "_law_turn", "_law_cell", "_law_number"]
abbrev ps__law_draw : List Str := ["_law_deck_here", "_law_many"]
theorem nd__law_draw : N__law_draw.Nodup := by decide +kernel
def b__law_draw : Sm :=
  (sSeq (sSetIx (e2 addP (e2 dgetP (eVar 0) (eC (.str "turn"))) (eC (.int 1))) (eVar 0) (eC (.str "turn")) dputP)
    (sSeq (sAsg (eTup (asCons (e2 dgetP (eVar 0) (eC (.str "turn"))) (asCons (e2 dgetP (eVar 0) (eC (.str "seed"))) asNil))) (gT 2 (gsCons (gN 2) (gsCons (gN 3) gsNil))))
    (sSeq (sIf (bOf (e2 neP (e2 dgetP (eVar 0) (eC (.str "cells"))) (eLst asNil))) (sSeq (sAsg (eMet "list" popP (e2 dgetP (eVar 0) (eC (.str "cells"))) asNil) (gN 3))
    (sSeq (sIf (bOf (e2 geP (eVar 3) (e2 powP (eC (.int 10)) (eC (.int 18))))) (sSeq (sExpr (eMet "list" appendP (e2 dgetP (eVar 0) (eC (.str "cells"))) (asCons (e2 divWP (eVar 3) (eVar 1)) asNil)))
    (sRet (e2 modP (eVar 3) (eVar 1)))) sNx)
    (sAsg (e2 addP (eVar 3) (e2 dgetP (eVar 0) (eC (.str "seed")))) (gN 3)))) sNx)
    (sSeq (sAsg (e2 modP (e2 mulP (e2 addP (e2 addP (e2 modP (eVar 3) (eC (.int 2147483629))) (e2 mulP (e2 mulP (eC (.int 104729)) (eVar 2)) (eVar 2))) (eC (.int 31))) (eC (.int 39373))) (eC (.int 2147483647))) (gN 4))
    (sSeq (sAsg (e2 modP (e2 addP (e2 addP (e2 mulP (eVar 4) (eVar 4)) (e2 mulP (eC (.int 69621)) (eVar 2))) (eC (.int 5))) (eC (.int 2147483587))) (gN 4))
    (sRet (e2 modP (e2 divWP (e2 modP (e2 mulP (eVar 4) (eC (.int 40692))) (eC (.int 2147483563))) (eC (.int 64))) (eVar 1))))))))
def m__law_draw : Fn := runFn N__law_draw.length b__law_draw
abbrev s__law_pick : Stmt := topS 10
abbrev N__law_pick : List Str := ["_law_deck_here", "_law_some"]
abbrev ps__law_pick : List Str := ["_law_deck_here", "_law_some"]
theorem nd__law_pick : N__law_pick.Nodup := by decide +kernel
def b__law_pick : Sm :=
  (sRet (e2 ixP (eVar 1) (eCall m__law_draw (fun us ws => pick [(0, 0), (0, 1)] us ws []) 2 0 (asCons (eVar 0) (asCons (eB lenP (asCons (eVar 1) asNil)) asNil)) asNil)))
def m__law_pick : Fn := runFn N__law_pick.length b__law_pick
abbrev s__law_odd : Stmt := topS 11
abbrev N__law_odd : List Str := ["_law_deck_here", "_law_it", "_law_near", "_law_some"]
abbrev ps__law_odd : List Str := ["_law_deck_here", "_law_it"]
theorem nd__law_odd : N__law_odd.Nodup := by decide +kernel
def b__law_odd : Sm :=
  (sSeq (sAsg (eIf (bOf (eB (isiP "int") (asCons (eVar 1) (asCons (eC (.ty "int")) asNil)))) (eLst (asCons (e2 addXP (eVar 1) (eC (.int 1))) (asCons (e2 subXP (eVar 1) (eC (.int 1))) (asCons (e2 subXP (eC (.int 0)) (eVar 1)) (asCons (e2 eqP (eVar 1) (eC (.int 1))) (asCons (eB strXP (asCons (eVar 1) asNil)) asNil)))))) (eLst (asCons (eVar 1) (asCons (eLst (asCons (eVar 1) asNil)) asNil)))) (gN 2))
    (sSeq (sAsg (eLst (asCons (eC .non) (asCons (eC (.bl true)) (asCons (eC (.bl false)) (asCons (eC (.int 0)) (asCons (eC (.int 1)) (asCons (e1 negP (eC (.int 1))) (asCons (e2 powP (eC (.int 10)) (eC (.int 39))) (asCons (e2 powP (eC (.int 10)) (eC (.int 6))) (asCons (eC (.str "read")) (asCons (eC (.str "write")) (asCons (eC (.str "")) (asCons (eTup asNil) (asCons (eLst asNil) (asCons eD0 (asCons (eTup (asCons (eC (.int 0)) asNil)) (asCons (eTup (asCons (eVar 1) asNil)) (asCons (e1 negP (eC (.int 2))) asNil)))))))))))))))))) (gN 3))
    (sRet (eCall m__law_pick (fun us ws => pick [(0, 0), (0, 1)] us ws []) 2 0 (asCons (eVar 0) (asCons (e2 addXP (eVar 2) (eVar 3)) asNil)) asNil))))
def m__law_odd : Fn := runFn N__law_odd.length b__law_odd
abbrev s__law_spoilt : Stmt := topS 12
abbrev N__law_spoilt : List Str := ["_law_deck_here", "_law_it", "_law_way", "_law_at", "_law_some"]
abbrev ps__law_spoilt : List Str := ["_law_deck_here", "_law_it"]
theorem nd__law_spoilt : N__law_spoilt.Nodup := by decide +kernel
def b__law_spoilt (rec_ : Fn) : Sm :=
  (sSeq (sAsg (eCall m__law_draw (fun us ws => pick [(0, 0), (0, 1)] us ws []) 2 0 (asCons (eVar 0) (asCons (eC (.int 8)) asNil)) asNil) (gN 2))
    (sSeq (sIf (bOr (bNot (bOf (eB (isiP "tuple") (asCons (eVar 1) (asCons (eC (.ty "tuple")) asNil))))) (bOr (bOf (e2 eqGP (eVar 1) (eTup asNil))) (bOf (e2 eqP (eVar 2) (eC (.int 0)))))) (sRet (eCall m__law_odd (fun us ws => pick [(0, 0), (0, 1)] us ws []) 2 0 (asCons (eVar 0) (asCons (eVar 1) asNil)) asNil)) sNx)
    (sSeq (sAsg (eCall m__law_draw (fun us ws => pick [(0, 0), (0, 1)] us ws []) 2 0 (asCons (eVar 0) (asCons (eB lenP (asCons (eVar 1) asNil)) asNil)) asNil) (gN 3))
    (sSeq (sAsg (eLstR (asCons (e2 addXP (eSl slP (eVar 1) oNone (oSome (eVar 3))) (eSl slP (eVar 1) (oSome (e2 addXP (eVar 3) (eC (.int 1)))) oNone)) (asCons (e2 addXP (eSl slP (eVar 1) oNone (oSome (e2 addXP (eVar 3) (eC (.int 1))))) (eSl slP (eVar 1) (oSome (eVar 3)) oNone)) asNil))) (gN 4))
    (sSeq (sExpr (eMet "list" appendP (eVar 4) (asCons (e2 addXP (e2 addXP (eSl slP (eVar 1) oNone (oSome (eVar 3))) (e1 revXP (eSl slP (eVar 1) (oSome (eVar 3)) (oSome (e2 addXP (eVar 3) (eC (.int 2))))))) (eSl slP (eVar 1) (oSome (e2 addXP (eVar 3) (eC (.int 2)))) oNone)) asNil)))
    (sSeq (sIf (bOf (e2 ltP (eVar 2) (eC (.int 4)))) (sRet (e2 ixP (eVar 4) (e2 subXP (eVar 2) (eC (.int 1))))) sNx)
    (sRet (e2 addXP (e2 addXP (eSl slP (eVar 1) oNone (oSome (eVar 3))) (eTup (asCons (eCall rec_ (fun us ws => pick [(0, 0), (0, 1)] us ws []) 2 0 (asCons (eVar 0) (asCons (e2 ixP (eVar 1) (eVar 3)) asNil)) asNil) asNil))) (eSl slP (eVar 1) (oSome (e2 addXP (eVar 3) (eC (.int 1)))) oNone)))))))))
def m__law_spoilt : Nat → Fn
  | 0 => fun _ _ => .bad
  | n + 1 => runFn N__law_spoilt.length (b__law_spoilt (m__law_spoilt n))
abbrev s__law_is_number : Stmt := topS 13
abbrev N__law_is_number : List Str := ["_law_it"]
abbrev ps__law_is_number : List Str := ["_law_it"]
theorem nd__law_is_number : N__law_is_number.Nodup := by decide +kernel
def b__law_is_number : Sm :=
  (sRet (eAnd (eB (isiP "int") (asCons (eVar 0) (asCons (eC (.ty "int")) asNil))) (eNot (eB (isiP "bool") (asCons (eVar 0) (asCons (eC (.ty "bool")) asNil))))))
def m__law_is_number : Fn := runFn N__law_is_number.length b__law_is_number
abbrev s__law_is_row : Stmt := topS 14
abbrev N__law_is_row : List Str := ["_law_it", "_law_client", "_law_word", "_law_content", "_law_begun", "_law_ended", "_law_one"]
abbrev ps__law_is_row : List Str := ["_law_it"]
theorem nd__law_is_row : N__law_is_row.Nodup := by decide +kernel
def b__law_is_row : Sm :=
  (sSeq (sIf (bOr (bNot (bOf (eB (isiP "tuple") (asCons (eVar 0) (asCons (eC (.ty "tuple")) asNil))))) (bOf (e2 neP (eB lenP (asCons (eVar 0) asNil)) (eC (.int 5))))) (sRet (eC (.bl false))) sNx)
    (sSeq (sAsg (eVar 0) (gT 5 (gsCons (gN 1) (gsCons (gN 2) (gsCons (gN 3) (gsCons (gN 4) (gsCons (gN 5) gsNil)))))))
    (sSeq (sIf (bOf (e2 neGP (eLc (iSeq (eTup (asCons (eVar 1) (asCons (eVar 3) (asCons (eVar 4) (asCons (eVar 5) asNil)))))) (gN 6) (bNot (bOf (eCall m__law_is_number (fun us ws => pick [(0, 0)] us ws []) 1 0 (asCons (eVar 6) asNil) asNil))) (eVar 6) [6]) (eLst asNil))) (sRet (eC (.bl false))) sNx)
    (sSeq (sIf (bOr (bNot (bOf (eB (isiP "str") (asCons (eVar 2) (asCons (eC (.ty "str")) asNil))))) (bOr (bOf (e2 ltP (eVar 1) (eC (.int 0)))) (bOr (bOf (e2 ltP (eVar 4) (eC (.int 0)))) (bOr (bOf (e2 ltP (eVar 3) (eC (.int 0)))) (bOf (e2 gtP (eVar 3) (eC (.int 999999)))))))) (sRet (eC (.bl false))) sNx)
    (sSeq (sIf (bOf (e2 eqP (eVar 2) (eC (.str "read")))) (sRet (e2 geP (eVar 5) (eVar 4))) sNx)
    (sRet (eAnd (e2 eqP (eVar 2) (eC (.str "write"))) (eOr (e2 geP (eVar 5) (eVar 4)) (e2 eqP (eVar 5) (e1 negP (eC (.int 1))))))))))))
def m__law_is_row : Fn := runFn N__law_is_row.length b__law_is_row
abbrev s__law_is_due : Stmt := topS 15
abbrev N__law_is_due : List Str := ["_law_it", "_law_row"]
abbrev ps__law_is_due : List Str := ["_law_it"]
theorem nd__law_is_due : N__law_is_due.Nodup := by decide +kernel
def b__law_is_due : Sm :=
  (sRet (eAnd (eB (isiP "tuple") (asCons (eVar 0) (asCons (eC (.ty "tuple")) asNil))) (e2 eqGP (eLc (iSeq (eVar 0)) (gN 1) (bNot (bOf (eCall m__law_is_row (fun us ws => pick [(0, 0)] us ws []) 1 0 (asCons (eVar 1) asNil) asNil))) (eVar 1) [1]) (eLst asNil))))
def m__law_is_due : Fn := runFn N__law_is_due.length b__law_is_due
abbrev s__law_a_row : Stmt := topS 16
abbrev N__law_a_row : List Str := ["_law_deck_here", "_law_way", "_law_content", "_law_begun", "_law_more", "_law_ended"]
abbrev ps__law_a_row : List Str := ["_law_deck_here"]
theorem nd__law_a_row : N__law_a_row.Nodup := by decide +kernel
def b__law_a_row : Sm :=
  (sSeq (sAsg (eTup (asCons (eCall m__law_draw (fun us ws => pick [(0, 0), (0, 1)] us ws []) 2 0 (asCons (eVar 0) (asCons (eC (.int 3)) asNil)) asNil) (asCons (e2 ixP (eLst (asCons (eC (.int 0)) (asCons (eC (.int 999999)) (asCons (eCall m__law_draw (fun us ws => pick [(0, 0), (0, 1)] us ws []) 2 0 (asCons (eVar 0) (asCons (e2 powP (eC (.int 10)) (eC (.int 6))) asNil)) asNil) asNil)))) (eCall m__law_draw (fun us ws => pick [(0, 0), (0, 1)] us ws []) 2 0 (asCons (eVar 0) (asCons (eC (.int 3)) asNil)) asNil)) asNil))) (gT 2 (gsCons (gN 1) (gsCons (gN 2) gsNil))))
    (sSeq (sAsg (eTup (asCons (e2 ixP (eLst (asCons (eC (.int 0)) (asCons (eCall m__law_draw (fun us ws => pick [(0, 0), (0, 1)] us ws []) 2 0 (asCons (eVar 0) (asCons (eC (.int 30)) asNil)) asNil) (asCons (eCall m__law_draw (fun us ws => pick [(0, 0), (0, 1)] us ws []) 2 0 (asCons (eVar 0) (asCons (eC (.int 900)) asNil)) asNil) asNil)))) (eCall m__law_draw (fun us ws => pick [(0, 0), (0, 1)] us ws []) 2 0 (asCons (eVar 0) (asCons (eC (.int 3)) asNil)) asNil)) (asCons (eCall m__law_draw (fun us ws => pick [(0, 0), (0, 1)] us ws []) 2 0 (asCons (eVar 0) (asCons (eC (.int 60)) asNil)) asNil) asNil))) (gT 2 (gsCons (gN 3) (gsCons (gN 4) gsNil))))
    (sSeq (sAsg (e2 ixP (eLst (asCons (eVar 3) (asCons (e2 addXP (eVar 3) (eVar 4)) (asCons (eIf (bOf (e2 eqP (eVar 1) (eC (.int 2)))) (e1 negP (eC (.int 1))) (e2 addXP (eVar 3) (eC (.int 1)))) asNil)))) (eCall m__law_draw (fun us ws => pick [(0, 0), (0, 1)] us ws []) 2 0 (asCons (eVar 0) (asCons (eC (.int 3)) asNil)) asNil)) (gN 5))
    (sRet (eTup (asCons (eCall m__law_draw (fun us ws => pick [(0, 0), (0, 1)] us ws []) 2 0 (asCons (eVar 0) (asCons (eC (.int 4)) asNil)) asNil) (asCons (e2 ixP (eLst (asCons (eC (.str "read")) (asCons (eC (.str "write")) (asCons (eC (.str "write")) asNil)))) (eVar 1)) (asCons (eVar 2) (asCons (eVar 3) (asCons (eVar 5) asNil))))))))))
def m__law_a_row : Fn := runFn N__law_a_row.length b__law_a_row
abbrev s__law_edges : Stmt := topS 17
abbrev N__law_edges : List Str := ["_law_found"]
abbrev ps__law_edges : List Str := []
theorem nd__law_edges : N__law_edges.Nodup := by decide +kernel
def b__law_edges : Sm :=
  (sSeq (sAsg (eLst (asCons (eTup (asCons (eC (.int 0)) (asCons (eC (.str "read")) (asCons (eC (.int 0)) (asCons (eC (.int 0)) (asCons (eC (.int 0)) asNil)))))) (asCons (eTup (asCons (eC (.int 0)) (asCons (eC (.str "write")) (asCons (eC (.int 999999)) (asCons (eC (.int 7)) (asCons (e1 negP (eC (.int 1))) asNil)))))) (asCons (eTup (asCons (eC (.int 3)) (asCons (eC (.str "write")) (asCons (eC (.int 1)) (asCons (eC (.int 7)) (asCons (eC (.int 7)) asNil)))))) (asCons (eTup (asCons (eC (.int 0)) (asCons (eC (.str "read")) (asCons (eC (.int 1000000)) (asCons (eC (.int 0)) (asCons (eC (.int 0)) asNil)))))) asNil))))) (gN 0))
    (sSeq (sAsg (e2 addXP (eVar 0) (eLst (asCons (eTup (asCons (eC (.int 0)) (asCons (eC (.str "read")) (asCons (eC (.int 0)) (asCons (eC (.int 7)) (asCons (e1 negP (eC (.int 1))) asNil)))))) (asCons (eTup (asCons (eC (.int 0)) (asCons (eC (.str "read")) (asCons (eC (.int 0)) (asCons (eC (.int 7)) (asCons (eC (.int 6)) asNil)))))) (asCons (eTup (asCons (eC (.int 0)) (asCons (eC (.str "write")) (asCons (eC (.int 0)) (asCons (eC (.int 7)) (asCons (eC (.int 6)) asNil)))))) (asCons (eTup (asCons (eC (.int 0)) (asCons (eC (.str "write")) (asCons (e1 negP (eC (.int 1))) (asCons (eC (.int 7)) (asCons (eC (.int 8)) asNil)))))) asNil)))))) (gN 0))
    (sSeq (sAsg (e2 addXP (eVar 0) (eLst (asCons (eTup (asCons (e1 negP (eC (.int 1))) (asCons (eC (.str "read")) (asCons (eC (.int 0)) (asCons (eC (.int 0)) (asCons (eC (.int 0)) asNil)))))) (asCons (eTup (asCons (eC (.int 0)) (asCons (eC (.str "read")) (asCons (eC (.int 0)) (asCons (e1 negP (eC (.int 1))) (asCons (eC (.int 0)) asNil)))))) (asCons (eTup (asCons (eC (.int 0)) (asCons (eC (.str "write")) (asCons (eC (.int 0)) (asCons (eC (.int 0)) (asCons (e1 negP (eC (.int 2))) asNil)))))) (asCons (eTup (asCons (eC (.int 0)) (asCons (eC (.str "Read")) (asCons (eC (.int 0)) (asCons (eC (.int 0)) (asCons (eC (.int 0)) asNil)))))) asNil)))))) (gN 0))
    (sSeq (sAsg (e2 addXP (eVar 0) (eLst (asCons (eTup (asCons (eC (.bl true)) (asCons (eC (.str "read")) (asCons (eC (.int 0)) (asCons (eC (.int 0)) (asCons (eC (.int 0)) asNil)))))) (asCons (eTup (asCons (eC (.int 0)) (asCons (eC (.str "read")) (asCons (eC (.bl false)) (asCons (eC (.int 0)) (asCons (eC (.int 0)) asNil)))))) (asCons (eTup (asCons (eC (.int 0)) (asCons (eC (.str "read")) (asCons (eC (.int 0)) (asCons (eC (.bl false)) (asCons (eC (.int 0)) asNil)))))) asNil))))) (gN 0))
    (sSeq (sAsg (e2 addXP (eVar 0) (eLst (asCons (eTup (asCons (eC (.int 0)) (asCons (eC (.str "write")) (asCons (eC (.int 0)) (asCons (eC (.int 0)) (asCons (eC (.bl true)) asNil)))))) (asCons (eTup (asCons (eC (.int 0)) (asCons (eC (.str "read")) (asCons (eC (.int 0)) (asCons (eC (.int 0)) asNil))))) (asCons (eTup (asCons (eC (.int 0)) (asCons (eC (.str "read")) (asCons (eC (.int 0)) (asCons (eC (.int 0)) (asCons (eC (.int 0)) (asCons (eC (.int 0)) asNil))))))) (asCons (eLst (asCons (eC (.int 0)) (asCons (eC (.str "read")) (asCons (eC (.int 0)) (asCons (eC (.int 0)) (asCons (eC (.int 0)) asNil)))))) asNil)))))) (gN 0))
    (sSeq (sAsg (e2 addXP (eVar 0) (eLst (asCons (eTup (asCons (eC (.int 7)) (asCons (eC (.str "write")) (asCons (eC (.int 3)) (asCons (e2 powP (eC (.int 10)) (eC (.int 30))) (asCons (e1 negP (eC (.int 1))) asNil)))))) (asCons (eTup (asCons (e2 powP (eC (.int 10)) (eC (.int 9))) (asCons (eC (.str "read")) (asCons (eC (.int 0)) (asCons (eC (.int 1001)) (asCons (eC (.int 1001)) asNil)))))) (asCons (eTup (asCons (eC (.int 4)) (asCons (eC (.str "read")) (asCons (eC (.int 0)) (asCons (eC (.int 1001)) (asCons (eC (.int 1000)) asNil)))))) asNil))))) (gN 0))
    (sRet (e2 addXP (eVar 0) (eLst (asCons (eTup (asCons (eC (.int 0)) (asCons (eC .non) (asCons (eC (.int 0)) (asCons (eC (.int 0)) (asCons (eC (.int 0)) asNil)))))) (asCons (eTup (asCons (eC (.str "0")) (asCons (eC (.str "read")) (asCons (eC (.int 0)) (asCons (eC (.int 0)) (asCons (eC (.int 0)) asNil)))))) (asCons (eTup (asCons (eC (.int 0)) (asCons (eC (.str "read")) (asCons (eC (.str "0")) (asCons (eC (.int 0)) (asCons (eC (.int 0)) asNil)))))) (asCons (eTup (asCons (eC (.int 0)) (asCons (eTup (asCons (eC (.str "read")) asNil)) (asCons (eC (.int 0)) (asCons (eC (.int 0)) (asCons (eC (.int 0)) asNil)))))) asNil)))))))))))))
def m__law_edges : Fn := runFn N__law_edges.length b__law_edges
abbrev s__law_right : Stmt := topS 18
abbrev N__law_right : List Str := ["_law_it", "_law_kept", "_law_due", "_law_told"]
abbrev ps__law_right : List Str := ["_law_it"]
theorem nd__law_right : N__law_right.Nodup := by decide +kernel
def b__law_right : Sm :=
  (sSeq (sAsg (eTup (asCons (eB reprGP (asCons (eVar 0) asNil)) (asCons (eCall m__law_is_due (fun us ws => pick [(0, 0)] us ws []) 1 0 (asCons (eVar 0) asNil) asNil) asNil))) (gT 2 (gsCons (gN 1) (gsCons (gN 2) gsNil))))
    (sSeq (sAsg (eLst (asCons (eCall m_is_history (fun us ws => pick [(0, 0)] us ws []) 1 0 (asCons (eVar 0) asNil) asNil) (asCons (eCall m_is_history (fun us ws => pick [(1, 0)] us ws []) 0 1 asNil (asCons (eVar 0) asNil)) asNil))) (gN 3))
    (sRet (eAnd (e2 eqP (eB reprGP (asCons (eVar 3) asNil)) (eB reprGP (asCons (eLst (asCons (eVar 2) (asCons (eVar 2) asNil))) asNil))) (e2 eqP (eB reprGP (asCons (eVar 0) asNil)) (eVar 1))))))
def m__law_right : Fn := runFn N__law_right.length b__law_right
abbrev s_law : Stmt := topS 19
abbrev N_law : List Str := ["_law_script", "_law_deck_here", "_law_things", "_law_turn", "_law_twice", "_law_rows", "_law_more", "_law_it", "_law_k", "_law_row"]
abbrev ps_law : List Str := ["_law_script"]
theorem nd_law : N_law.Nodup := by decide +kernel
def b_law : Sm :=
  (sSeq (sAsg (eCall m__law_deck (fun us ws => pick [(0, 0)] us ws []) 1 0 (asCons (eVar 0) asNil) asNil) (gN 1))
    (sSeq (sAsg (eLstR (asCons (eC .non) (asCons (eC (.bl true)) (asCons (eC (.int 0)) (asCons (eC (.str "")) (asCons (eC (.str "read")) (asCons (eLst asNil) (asCons eD0 (asCons (eTup asNil) (asCons (eTup (asCons (eTup asNil) asNil)) (asCons (eTup (asCons (eC .non) asNil)) (asCons (eLst (asCons (eTup (asCons (eC (.int 0)) (asCons (eC (.str "read")) (asCons (eC (.int 0)) (asCons (eC (.int 0)) (asCons (eC (.int 0)) asNil)))))) asNil)) (asCons (eTup (asCons (eC (.int 0)) (asCons (eC (.str "read")) (asCons (eC (.int 0)) (asCons (eC (.int 0)) (asCons (eC (.int 0)) asNil)))))) asNil))))))))))))) (gN 2))
    (sSeq (sFor (iRngA (asCons (eC (.int 4)) asNil)) (gN 3) (sSeq (sAsg (eLc (iRngA (asCons (eC (.int 10)) asNil)) (gN 8) bYes (eCall m__law_draw (fun us ws => pick [(0, 0), (0, 1)] us ws []) 2 0 (asCons (eVar 1) (asCons (eC (.int 2)) asNil)) asNil) [8]) (gN 4))
    (sSeq (sAsg (eB tupleP (asCons (eLc (iRngA (asCons (eCall m__law_draw (fun us ws => pick [(0, 0), (0, 1)] us ws []) 2 0 (asCons (eVar 1) (asCons (eC (.int 7)) asNil)) asNil) asNil)) (gN 8) bYes (eCall m__law_a_row (fun us ws => pick [(0, 0)] us ws []) 1 0 (asCons (eVar 1) asNil) asNil) [8]) asNil)) (gN 5))
    (sSeq (sIf (bOr (bOf (e2 isntA (eCall m_is_history (fun us ws => pick [(0, 0)] us ws []) 1 0 (asCons (eVar 5) asNil) asNil) (eC (.bl true)))) (bOf (e2 neGP (eLc (iSeq (eVar 5)) (gN 9) (bOf (e2 isntA (eCall m_is_history (fun us ws => pick [(0, 0)] us ws []) 1 0 (asCons (eTup (asCons (eVar 9) asNil)) asNil) asNil) (eC (.bl true)))) (eVar 9) [9]) (eLst asNil)))) (sRet (eC (.bl false))) sNx)
    (sSeq (sAsg (e2 addRP (eVar 2) (eLst (asCons (eVar 5) (asCons (e1 revXP (eVar 5)) (asCons (e2 addXP (eVar 5) (eVar 5)) (asCons (eB listP (asCons (eVar 5) asNil)) (asCons (eTup (asCons (eVar 5) asNil)) asNil))))))) (gN 2))
    (sFor (iSeq (eVar 4)) (gN 6) (sSeq (sAsg (eCall (m__law_spoilt 12) (fun us ws => pick [(0, 0), (0, 1)] us ws []) 2 0 (asCons (eVar 1) (asCons (eVar 5) asNil)) asNil) (gN 7))
    (sExpr (eMet "list" appendP (eVar 2) (asCons (eIf (bOf (e2 eqP (eVar 6) (eC (.int 1)))) (eCall (m__law_spoilt 12) (fun us ws => pick [(0, 0), (0, 1)] us ws []) 2 0 (asCons (eVar 1) (asCons (eVar 7) asNil)) asNil) (eVar 7)) asNil))))))))))
    (sSeq (sAsg (e2 addRP (e2 addXP (eVar 2) (eLc (iSeq (eCall m__law_edges (fun us ws => pick [] us ws []) 0 0 asNil asNil)) (gN 9) bYes (eTup (asCons (eVar 9) asNil)) [9])) (eLc (iSeq (eCall m__law_edges (fun us ws => pick [] us ws []) 0 0 asNil asNil)) (gN 9) bYes (eTup (asCons (eTup (asCons (eC (.int 0)) (asCons (eC (.str "read")) (asCons (eC (.int 0)) (asCons (eC (.int 0)) (asCons (eC (.int 0)) asNil)))))) (asCons (eVar 9) asNil))) [9])) (gN 2))
    (sRet (e2 eqGP (eLc (iSeq (e2 addXP (eVar 2) (eSl slP (eVar 2) oNone (oSome (eC (.int 20)))))) (gN 7) (bNot (bOf (eCall m__law_right (fun us ws => pick [(0, 0)] us ws []) 1 0 (asCons (eVar 7) asNil) asNil))) (eVar 7) [7]) (eLst asNil)))))))
def m_law : Fn := runFn N_law.length b_law
def kb_is_whole (g : Gam) (fd : FuncData) : Prop := KBp g.K ps_is_whole 1 [] [(0, 0)] [] fd
def kb_is_row (g : Gam) (fd : FuncData) : Prop := KBp g.K ps_is_row 1 [] [(0, 0)] [] fd
def kb_is_history (g : Gam) (fd : FuncData) : Prop := KBp g.K ps_is_history 1 [] [(0, 0)] [] fd ∧ KBp g.K ps_is_history 0 ["thing"] [(1, 0)] [] fd
def kb__law_deck (g : Gam) (fd : FuncData) : Prop := KBp g.K ps__law_deck 1 [] [(0, 0)] [] fd
def kb__law_draw (g : Gam) (fd : FuncData) : Prop := KBp g.K ps__law_draw 2 [] [(0, 0), (0, 1)] [] fd
def kb__law_pick (g : Gam) (fd : FuncData) : Prop := KBp g.K ps__law_pick 2 [] [(0, 0), (0, 1)] [] fd
def kb__law_odd (g : Gam) (fd : FuncData) : Prop := KBp g.K ps__law_odd 2 [] [(0, 0), (0, 1)] [] fd
def kb__law_spoilt (g : Gam) (fd : FuncData) : Prop := KBp g.K ps__law_spoilt 2 [] [(0, 0), (0, 1)] [] fd
def kb__law_is_number (g : Gam) (fd : FuncData) : Prop := KBp g.K ps__law_is_number 1 [] [(0, 0)] [] fd
def kb__law_is_row (g : Gam) (fd : FuncData) : Prop := KBp g.K ps__law_is_row 1 [] [(0, 0)] [] fd
def kb__law_is_due (g : Gam) (fd : FuncData) : Prop := KBp g.K ps__law_is_due 1 [] [(0, 0)] [] fd
def kb__law_a_row (g : Gam) (fd : FuncData) : Prop := KBp g.K ps__law_a_row 1 [] [(0, 0)] [] fd
def kb__law_edges (g : Gam) (fd : FuncData) : Prop := KBp g.K ps__law_edges 0 [] [] [] fd
def kb__law_right (g : Gam) (fd : FuncData) : Prop := KBp g.K ps__law_right 1 [] [(0, 0)] [] fd
theorem rvNonC {g : Gam} : ∀ φ H, RV g φ H .non .non := fun _ _ => by simp [RV]
structure Txt (g : Gam) (mg : Str → Option Value) : Prop where
  b_all : mg "all" = none
  b_bool : mg "bool" = none
  b_int : mg "int" = none
  b_isinstance : mg "isinstance" = none
  b_len : mg "len" = none
  b_list : mg "list" = none
  b_min : mg "min" = none
  b_range : mg "range" = none
  b_repr : mg "repr" = none
  b_str : mg "str" = none
  b_tuple : mg "tuple" = none
  c_MOST_CONTENT : ∃ u, mg "MOST_CONTENT" = some u ∧ RelV (.int 999999) u
  c_PARTS : ∃ u, mg "PARTS" = some u ∧ RelV (.int 5) u
  c_WORDS : ∃ u, mg "WORDS" = some u ∧ RelV (.ref (g.ad 200)) u
  d_WORDS : ∀ φ H, RV g φ H (.tup [.str "read", .str "write"]) (.ref (g.ad 200))
section
variable {P : Program} {w : World} {mg : Str → Option Value} {base : Heap} {g : Gam}
theorem sc_is_whole : FnScope N_is_whole ps_is_whole (defScope s_is_whole) := ⟨rfl, rfl, rfl, by decide +kernel, rfl, by decide +kernel, by decide +kernel⟩
theorem ok_is_whole {f : Addr} {fd : FuncData} (T : Txt g mg)  (F : FunD g.K "is_whole" "is_whole" (defArgs s_is_whole) (defBody s_is_whole) (defScope s_is_whole) [] [] f fd) :
    FnG P g.w g.K mg base 1 f fd ps_is_whole (spD g ps_is_whole.length m_is_whole) := by
  show FnG P g.w g.K mg base (0 + 1) f fd ps_is_whole (spD g ps_is_whole.length (runFn N_is_whole.length b_is_whole))
  exact fn_body (N := N_is_whole) (ps := ps_is_whole) (k := 0) (b := b_is_whole) F sc_is_whole fun cdv A outer s H E room hG =>
   (pss_sOne
    (ps_sRet (pe_eAnd (pe_eB (pr_isi rfl (T := "int") (by decide)) call_isi rfl T.b_isinstance (by decide +kernel) (pa_asCons (pe_eVar (pv 0)) (pa_asCons (pe_eTy rfl T.b_int (by decide +kernel)) pa_asNil))) (pe_one (pe_eNot (pe_eB (pr_isi rfl (T := "bool") (by decide)) call_isi rfl T.b_isinstance (by decide +kernel) (pa_asCons (pe_eVar (pv 0)) (pa_asCons (pe_eTy rfl T.b_bool (by decide +kernel)) pa_asNil))))))))
theorem sc_is_row : FnScope N_is_row ps_is_row (defScope s_is_row) := ⟨rfl, rfl, rfl, by decide +kernel, rfl, by decide +kernel, by decide +kernel⟩
theorem ok_is_row {f : Addr} {fd : FuncData} (T : Txt g mg) (c_is_whole : Cal P g.w base mg g 1 "is_whole" 0 ps_is_whole m_is_whole (kb_is_whole g)) (F : FunD g.K "is_row" "is_row" (defArgs s_is_row) (defBody s_is_row) (defScope s_is_row) [] [] f fd) :
    FnG P g.w g.K mg base 2 f fd ps_is_row (spD g ps_is_row.length m_is_row) := by
  show FnG P g.w g.K mg base (1 + 1) f fd ps_is_row (spD g ps_is_row.length (runFn N_is_row.length b_is_row))
  exact fn_body (N := N_is_row) (ps := ps_is_row) (k := 1) (b := b_is_row) F sc_is_row fun cdv A outer s H E room hG =>
   (pss_sSeq
    (ps_sIf (PW.pt (pw_bOr (pt_bNot (pt_bOf (pe_eB (pr_isi rfl (T := "tuple") (by decide)) call_isi rfl T.b_isinstance (by decide +kernel) (pa_asCons (pe_eVar (pv 0)) (pa_asCons (pe_eTy rfl T.b_tuple (by decide +kernel)) pa_asNil))))) (pw_bOneO (pt_bOfC (op_neA (hu64_of room)) pr_ne (nomark _) (pe_eB (pr_len rfl) cr_len rfl T.b_len (by decide +kernel) (pa_asCons (pe_eVar (pv 0)) pa_asNil)) (pe_eGlo rfl T.c_PARTS rvIntC))))) (pss_sOne
    (ps_sRet pe_eBl)) pss_sNil)
    (pss_sSeq
    (ps_sAsg (own := [1, 2, 3, 4, 5]) (pe_eVar (pv 0)) (pg_tup rfl (pgs_cons (pg_name (i := 1) nd_is_row rfl (.inl rfl)) (pgs_cons (pg_name (i := 2) nd_is_row rfl (.inl rfl)) (pgs_cons (pg_name (i := 3) nd_is_row rfl (.inl rfl)) (pgs_cons (pg_name (i := 4) nd_is_row rfl (.inl rfl)) (pgs_cons (pg_name (i := 5) nd_is_row rfl (.inl rfl)) pgs_nil)))))) (tg_gT (tgs_cons (tg_gN (by decide)) (tgs_cons (tg_gN (by decide)) (tgs_cons (tg_gN (by decide)) (tgs_cons (tg_gN (by decide)) (tgs_cons (tg_gN (by decide)) tgs_nil)))))))
    (pss_sSeq
    (ps_sIf (PW.pt (pw_bOr (pt_bNot (pt_bOf (pe_eB (pr_all rfl) (cr_all rfl) rfl T.b_all (by decide +kernel) (pa_asCons (pe_eLc (ownN := [("one", 6)]) rfl nd_is_row (pi_iSeq rfl (pe_eTup (pa_asCons (pe_eVar (pv 1)) (pa_asCons (pe_eVar (pv 3)) (pa_asCons (pe_eVar (pv 4)) (pa_asCons (pe_eVar (pv 5)) pa_asNil)))))) (blkOk_by (N := N_is_row) (sc := defScope s_is_row) (by decide +kernel)) (tg_gN (by decide)) (fun _ _ _ _ _ => (pg_name (i := 6) nd_is_row rfl (.inl rfl))) (fun _ _ _ _ _ => pts_bYes) (fun _ _ _ _ _ => (pe_call_ (hix := by rfl) (ix := [(0, 0)]) (ks := []) rfl c_is_whole (fun _ h => h) DefV.nil room (by decide) hG takes0 rfl (pa_asCons (pe_eVar (pv 6)) pa_asNil) pk_asNil))) pa_asNil)))) (pw_bOneO (pt_bNot (pt_bOf (pe_eB (pr_isi rfl (T := "str") (by decide)) call_isi rfl T.b_isinstance (by decide +kernel) (pa_asCons (pe_eVar (pv 2)) (pa_asCons (pe_eTy rfl T.b_str (by decide +kernel)) pa_asNil)))))))) (pss_sOne
    (ps_sRet pe_eBl)) pss_sNil)
    (pss_sSeq
    (ps_sIf (PW.pt (pw_bOr (pt_bOfC (or_notin (hu65_of room)) (pr_notin rfl) rfl (pe_eVar (pv 2)) (pe_eGlo rfl T.c_WORDS T.d_WORDS)) (pw_bOr (pt_bOfC or_lt pr_lt (nomark _) (pe_eB pr_min2 (call_min2 rfl) rfl T.b_min (by decide +kernel) (pa_asCons (pe_eVar (pv 1)) (pa_asCons (pe_eVar (pv 4)) pa_asNil))) pe_eInt) (pw_bOneO (pt_bNot (pt_bCh or_le or_le pr_le pr_le pe_eInt (pe_eVar (pv 3)) (pe_eGlo rfl T.c_MOST_CONTENT rvIntC))))))) (pss_sOne
    (ps_sRet pe_eBl)) pss_sNil)
    (pss_sOne
    (ps_sRet (pe_eOr (pe_c2 or_ge pr_ge (nomark _) (pe_eVar (pv 5)) (pe_eVar (pv 4))) (pe_one (pe_eAnd (pe_c2 (op_eqA (hu64_of room)) pr_eq (nomark _) (pe_eVar (pv 5)) (pe_u1 un_neg pr_neg pe_eInt)) (pe_one (pe_c2 (op_eqA (hu64_of room)) pr_eq (nomark _) (pe_eVar (pv 2)) pe_eStr)))))))))))
theorem sc_is_history : FnScope N_is_history ps_is_history (defScope s_is_history) := ⟨rfl, rfl, rfl, by decide +kernel, rfl, by decide +kernel, by decide +kernel⟩
theorem ok_is_history {f : Addr} {fd : FuncData} (T : Txt g mg) (c_is_row : Cal P g.w base mg g 2 "is_row" 1 ps_is_row m_is_row (kb_is_row g)) (F : FunD g.K "is_history" "is_history" (defArgs s_is_history) (defBody s_is_history) (defScope s_is_history) [] [] f fd) :
    FnG P g.w g.K mg base 3 f fd ps_is_history (spD g ps_is_history.length m_is_history) := by
  show FnG P g.w g.K mg base (2 + 1) f fd ps_is_history (spD g ps_is_history.length (runFn N_is_history.length b_is_history))
  exact fn_body (N := N_is_history) (ps := ps_is_history) (k := 2) (b := b_is_history) F sc_is_history fun cdv A outer s H E room hG =>
   (pss_sOne
    (ps_sRet (pe_eAnd (pe_eB (pr_isi rfl (T := "tuple") (by decide)) call_isi rfl T.b_isinstance (by decide +kernel) (pa_asCons (pe_eVar (pv 0)) (pa_asCons (pe_eTy rfl T.b_tuple (by decide +kernel)) pa_asNil))) (pe_one (pe_eB (pr_all rfl) (cr_all rfl) rfl T.b_all (by decide +kernel) (pa_asCons (pe_eLc (ownN := [("one", 1)]) rfl nd_is_history (pi_iSeq rfl (pe_eVar (pv 0))) (blkOk_by (N := N_is_history) (sc := defScope s_is_history) (by decide +kernel)) (tg_gN (by decide)) (fun _ _ _ _ _ => (pg_name (i := 1) nd_is_history rfl (.inl rfl))) (fun _ _ _ _ _ => pts_bYes) (fun _ _ _ _ _ => (pe_call_ (hix := by rfl) (ix := [(0, 0)]) (ks := []) rfl c_is_row (fun _ h => h) DefV.nil room (by decide) hG takes0 rfl (pa_asCons (pe_eVar (pv 1)) pa_asNil) pk_asNil))) pa_asNil))))))
theorem sc__law_deck : FnScope N__law_deck ps__law_deck (defScope s__law_deck) := ⟨rfl, rfl, rfl, by decide +kernel, rfl, by decide +kernel, by decide +kernel⟩
theorem ok__law_deck {f : Addr} {fd : FuncData} (T : Txt g mg)  (F : FunD g.K "_law_deck" "_law_deck" (defArgs s__law_deck) (defBody s__law_deck) (defScope s__law_deck) [] [] f fd) :
    FnG P g.w g.K mg base 1 f fd ps__law_deck (spD g ps__law_deck.length m__law_deck) := by
  show FnG P g.w g.K mg base (0 + 1) f fd ps__law_deck (spD g ps__law_deck.length (runFn N__law_deck.length b__law_deck))
  exact fn_body (N := N__law_deck) (ps := ps__law_deck) (k := 0) (b := b__law_deck) F sc__law_deck fun cdv A outer s H E room hG =>
   (pss_sSeq
    (ps_sSet (i := 1) nd__law_deck rfl (.inl rfl) (pe_eT (pr_listOf rfl) call_list_of rfl T.b_list (by decide +kernel) (pa_asCons (pe_eSl sl_all (pr_sl rfl) (pe_eVar (pv 0)) po_oNone (po_oSome pe_eInt)) pa_asNil)))
    (pss_sSeq
    (ps_sSet (i := 2) nd__law_deck rfl (.inl rfl) pe_eInt)
    (pss_sSeq
    (ps_sFor (own := [3]) (passes_of rfl) rfl (pi_iSeq rfl (pe_eVar (pv 1))) (pg_name (i := 3) nd__law_deck rfl (.inl rfl)) (tg_gN (by decide)) (pss_sOne
    (ps_sSet (i := 2) nd__law_deck rfl (.inl rfl) (pe_e2 op_mod pr_mod (pe_e2 or_add pr_add (pe_e2 or_add pr_add (pe_e2 or_mul pr_mul (pe_eVar (pv 2)) pe_eInt) (pe_e2 op_mod pr_mod (pe_eVar (pv 3)) pe_eInt)) pe_eInt) pe_eInt))))
    (pss_sOne
    (ps_sRet (pe_eDisp (pps_cons pe_eStr (pe_eRevR rfl (pe_eVar (pv 1))) (pps_cons pe_eStr (pe_eVar (pv 2)) (pps_cons pe_eStr pe_eInt pps_nil))) (ppm_cons (ppm_cons (ppm_cons ppm_nil)))))))))
theorem sc__law_draw : FnScope N__law_draw ps__law_draw (defScope s__law_draw) := ⟨rfl, rfl, rfl, by decide +kernel, rfl, by decide +kernel, by decide +kernel⟩
theorem ok__law_draw {f : Addr} {fd : FuncData} (T : Txt g mg)  (F : FunD g.K "_law_draw" "_law_draw" (defArgs s__law_draw) (defBody s__law_draw) (defScope s__law_draw) [] [] f fd) :
    FnG P g.w g.K mg base 1 f fd ps__law_draw (spD g ps__law_draw.length m__law_draw) := by
  show FnG P g.w g.K mg base (0 + 1) f fd ps__law_draw (spD g ps__law_draw.length (runFn N__law_draw.length b__law_draw))
  exact fn_body (N := N__law_draw) (ps := ps__law_draw) (k := 0) (b := b__law_draw) F sc__law_draw fun cdv A outer s H E room hG =>
   (pss_sSeq
    (ps_sDPut (hu_of room) (pe_e2 or_add pr_add (pe_eDg (hu_of room) (pe_eVar (pv 0)) pe_eStr) pe_eInt) (pe_eVar (pv 0)) pe_eStr)
    (pss_sSeq
    (ps_sPar2 (i := 2) (l := 3) rfl nd__law_draw rfl rfl (by decide) rfl rfl (pa_asCons (pe_eDg (hu_of room) (pe_eVar (pv 0)) pe_eStr) (pa_asCons (pe_eDg (hu_of room) (pe_eVar (pv 0)) pe_eStr) pa_asNil)) rfl)
    (pss_sSeq
    (ps_sIf (pt_bOfC (op_neA (hu64_of room)) pr_ne (nomark _) (pe_eDg (hu_of room) (pe_eVar (pv 0)) pe_eStr) (pe_eLst pa_asNil)) (pss_sSeq
    (ps_sSet (i := 3) nd__law_draw rfl (.inl rfl) (pe_eMet0 rfl pr_pop PySem.F.plainAttrs_list PySem.F.slot_list_pop PySem.F.type_list_pop mt_pop (pe_eDg (hu_of room) (pe_eVar (pv 0)) pe_eStr)))
    (pss_sSeq
    (ps_sIf (pt_bOfC or_ge pr_ge (nomark _) (pe_eVar (pv 3)) (pe_e2 op_pow pr_pow pe_eInt pe_eInt)) (pss_sSeq
    (ps_sExpr (pe_eMet rfl pr_append PySem.F.plainAttrs_list PySem.F.slot_list_append PySem.F.type_list_append mt_append (pe_eDg (hu_of room) (pe_eVar (pv 0)) pe_eStr) (pa_asCons (pe_e2 op_fdivW pr_divW (pe_eVar (pv 3)) (pe_eVar (pv 1))) pa_asNil)))
    (pss_sOne
    (ps_sRet (pe_e2 op_mod pr_mod (pe_eVar (pv 3)) (pe_eVar (pv 1)))))) pss_sNil)
    (pss_sOne
    (ps_sSet (i := 3) nd__law_draw rfl (.inl rfl) (pe_e2 or_add pr_add (pe_eVar (pv 3)) (pe_eDg (hu_of room) (pe_eVar (pv 0)) pe_eStr)))))) pss_sNil)
    (pss_sSeq
    (ps_sSet (i := 4) nd__law_draw rfl (.inl rfl) (pe_e2 op_mod pr_mod (pe_e2 or_mul pr_mul (pe_e2 or_add pr_add (pe_e2 or_add pr_add (pe_e2 op_mod pr_mod (pe_eVar (pv 3)) pe_eInt) (pe_e2 or_mul pr_mul (pe_e2 or_mul pr_mul pe_eInt (pe_eVar (pv 2))) (pe_eVar (pv 2)))) pe_eInt) pe_eInt) pe_eInt))
    (pss_sSeq
    (ps_sSet (i := 4) nd__law_draw rfl (.inl rfl) (pe_e2 op_mod pr_mod (pe_e2 or_add pr_add (pe_e2 or_add pr_add (pe_e2 or_mul pr_mul (pe_eVar (pv 4)) (pe_eVar (pv 4))) (pe_e2 or_mul pr_mul pe_eInt (pe_eVar (pv 2)))) pe_eInt) pe_eInt))
    (pss_sOne
    (ps_sRet (pe_e2 op_mod pr_mod (pe_e2 op_fdivW pr_divW (pe_e2 op_mod pr_mod (pe_e2 or_mul pr_mul (pe_eVar (pv 4)) pe_eInt) pe_eInt) pe_eInt) (pe_eVar (pv 1))))))))))
theorem sc__law_pick : FnScope N__law_pick ps__law_pick (defScope s__law_pick) := ⟨rfl, rfl, rfl, by decide +kernel, rfl, by decide +kernel, by decide +kernel⟩
theorem ok__law_pick {f : Addr} {fd : FuncData} (T : Txt g mg) (c__law_draw : Cal P g.w base mg g 1 "_law_draw" 4 ps__law_draw m__law_draw (kb__law_draw g)) (F : FunD g.K "_law_pick" "_law_pick" (defArgs s__law_pick) (defBody s__law_pick) (defScope s__law_pick) [] [] f fd) :
    FnG P g.w g.K mg base 2 f fd ps__law_pick (spD g ps__law_pick.length m__law_pick) := by
  show FnG P g.w g.K mg base (1 + 1) f fd ps__law_pick (spD g ps__law_pick.length (runFn N__law_pick.length b__law_pick))
  exact fn_body (N := N__law_pick) (ps := ps__law_pick) (k := 1) (b := b__law_pick) F sc__law_pick fun cdv A outer s H E room hG =>
   (pss_sOne
    (ps_sRet (pe_eIx rfl (pe_eVar (pv 1)) (pe_call_ (hix := by rfl) (ix := [(0, 0), (0, 1)]) (ks := []) rfl c__law_draw (fun _ h => h) DefV.nil room (by decide) hG (takes_of rfl rfl rfl rfl) rfl (pa_asCons (pe_eVar (pv 0)) (pa_asCons (pe_eB (pr_len rfl) cr_len rfl T.b_len (by decide +kernel) (pa_asCons (pe_eVar (pv 1)) pa_asNil)) pa_asNil)) pk_asNil))))
theorem sc__law_odd : FnScope N__law_odd ps__law_odd (defScope s__law_odd) := ⟨rfl, rfl, rfl, by decide +kernel, rfl, by decide +kernel, by decide +kernel⟩
theorem ok__law_odd {f : Addr} {fd : FuncData} (T : Txt g mg) (c__law_pick : Cal P g.w base mg g 2 "_law_pick" 5 ps__law_pick m__law_pick (kb__law_pick g)) (F : FunD g.K "_law_odd" "_law_odd" (defArgs s__law_odd) (defBody s__law_odd) (defScope s__law_odd) [] [] f fd) :
    FnG P g.w g.K mg base 3 f fd ps__law_odd (spD g ps__law_odd.length m__law_odd) := by
  show FnG P g.w g.K mg base (2 + 1) f fd ps__law_odd (spD g ps__law_odd.length (runFn N__law_odd.length b__law_odd))
  exact fn_body (N := N__law_odd) (ps := ps__law_odd) (k := 2) (b := b__law_odd) F sc__law_odd fun cdv A outer s H E room hG =>
   (pss_sSeq
    (ps_sSet (i := 2) nd__law_odd rfl (.inl rfl) (pe_eIf (pt_bOf (pe_eB (pr_isi rfl (T := "int") (by decide)) call_isi rfl T.b_isinstance (by decide +kernel) (pa_asCons (pe_eVar (pv 1)) (pa_asCons (pe_eTy rfl T.b_int (by decide +kernel)) pa_asNil)))) (pe_eLst (pa_asCons (pe_e2 or_addX pr_addX (pe_eVar (pv 1)) pe_eInt) (pa_asCons (pe_e2 or_subX pr_subX (pe_eVar (pv 1)) pe_eInt) (pa_asCons (pe_e2 or_subX pr_subX pe_eInt (pe_eVar (pv 1))) (pa_asCons (pe_c2 (op_eqA (hu64_of room)) pr_eq (nomark _) (pe_eVar (pv 1)) pe_eInt) (pa_asCons (pe_eT pr_strX cr_strX rfl T.b_str (by decide +kernel) (pa_asCons (pe_eVar (pv 1)) pa_asNil)) pa_asNil)))))) (pe_eLst (pa_asCons (pe_eVar (pv 1)) (pa_asCons (pe_eLst (pa_asCons (pe_eVar (pv 1)) pa_asNil)) pa_asNil)))))
    (pss_sSeq
    (ps_sSet (i := 3) nd__law_odd rfl (.inl rfl) (pe_eLst (pa_asCons pe_eNon (pa_asCons pe_eBl (pa_asCons pe_eBl (pa_asCons pe_eInt (pa_asCons pe_eInt (pa_asCons (pe_u1 un_neg pr_neg pe_eInt) (pa_asCons (pe_e2 op_pow pr_pow pe_eInt pe_eInt) (pa_asCons (pe_e2 op_pow pr_pow pe_eInt pe_eInt) (pa_asCons pe_eStr (pa_asCons pe_eStr (pa_asCons pe_eStr (pa_asCons (pe_eTup pa_asNil) (pa_asCons (pe_eLst pa_asNil) (pa_asCons pe_eD0 (pa_asCons (pe_eTup (pa_asCons pe_eInt pa_asNil)) (pa_asCons (pe_eTup (pa_asCons (pe_eVar (pv 1)) pa_asNil)) (pa_asCons (pe_u1 un_neg pr_neg pe_eInt) pa_asNil)))))))))))))))))))
    (pss_sOne
    (ps_sRet (pe_call_ (hix := by rfl) (ix := [(0, 0), (0, 1)]) (ks := []) rfl c__law_pick (fun _ h => h) DefV.nil room (by decide) hG (takes_of rfl rfl rfl rfl) rfl (pa_asCons (pe_eVar (pv 0)) (pa_asCons (pe_e2 or_addX pr_addX (pe_eVar (pv 2)) (pe_eVar (pv 3))) pa_asNil)) pk_asNil)))))
theorem sc__law_spoilt : FnScope N__law_spoilt ps__law_spoilt (defScope s__law_spoilt) := ⟨rfl, rfl, rfl, by decide +kernel, rfl, by decide +kernel, by decide +kernel⟩
theorem ok__law_spoilt {fd : FuncData} (T : Txt g mg) (c__law_draw : Cal P g.w base mg g 1 "_law_draw" 4 ps__law_draw m__law_draw (kb__law_draw g)) (c__law_odd : Cal P g.w base mg g 3 "_law_odd" 6 ps__law_odd m__law_odd (kb__law_odd g)) (F : FunD g.K "_law_spoilt" "_law_spoilt" (defArgs s__law_spoilt) (defBody s__law_spoilt) (defScope s__law_spoilt) [] [] (g.ad 7) fd)
    (hb_ : kb__law_spoilt g fd) (hm_ : mg "_law_spoilt" = some (.ref (g.ad 7))) (kp_ : PySem.W.keepIn g.K (.ref (g.ad 7)) = true) : ∀ n, FnG P g.w g.K mg base (4 + n) (g.ad 7) fd ps__law_spoilt (spD g ps__law_spoilt.length (m__law_spoilt n))
  | 0 => fnG_bad
  | n + 1 => by
    have c__law_spoilt : Cal P g.w base mg g (4 + n) "_law_spoilt" 7 ps__law_spoilt (m__law_spoilt n) (kb__law_spoilt g) := ⟨⟨fd, ok__law_spoilt T c__law_draw c__law_odd F hb_ hm_ kp_ n, hb_⟩, hm_, kp_⟩
    show FnG P g.w g.K mg base (4 + n + 1) (g.ad 7) fd ps__law_spoilt (spD g ps__law_spoilt.length (runFn N__law_spoilt.length (b__law_spoilt (m__law_spoilt n))))
    exact fn_body (N := N__law_spoilt) (ps := ps__law_spoilt) (k := 4 + n) (b := b__law_spoilt (m__law_spoilt n)) F sc__law_spoilt fun cdv A outer s H E room hG =>
   (pss_sSeq
    (ps_sSet (i := 2) nd__law_spoilt rfl (.inl rfl) (pe_call_ (hix := by rfl) (ix := [(0, 0), (0, 1)]) (ks := []) rfl c__law_draw (fun _ h => h) DefV.nil room (by omega) hG (takes_of rfl rfl rfl rfl) rfl (pa_asCons (pe_eVar (pv 0)) (pa_asCons pe_eInt pa_asNil)) pk_asNil))
    (pss_sSeq
    (ps_sIf (PW.pt (pw_bOr (pt_bNot (pt_bOf (pe_eB (pr_isi rfl (T := "tuple") (by decide)) call_isi rfl T.b_isinstance (by decide +kernel) (pa_asCons (pe_eVar (pv 1)) (pa_asCons (pe_eTy rfl T.b_tuple (by decide +kernel)) pa_asNil))))) (pw_bOr (pt_bOfC (op_eqG (hu64_of room)) pr_eqG (nomark _) (pe_eVar (pv 1)) (pe_eTup pa_asNil)) (pw_bOneO (pt_bOfC (op_eqA (hu64_of room)) pr_eq (nomark _) (pe_eVar (pv 2)) pe_eInt))))) (pss_sOne
    (ps_sRet (pe_call_ (hix := by rfl) (ix := [(0, 0), (0, 1)]) (ks := []) rfl c__law_odd (fun _ h => h) DefV.nil room (by omega) hG (takes_of rfl rfl rfl rfl) rfl (pa_asCons (pe_eVar (pv 0)) (pa_asCons (pe_eVar (pv 1)) pa_asNil)) pk_asNil))) pss_sNil)
    (pss_sSeq
    (ps_sSet (i := 3) nd__law_spoilt rfl (.inl rfl) (pe_call_ (hix := by rfl) (ix := [(0, 0), (0, 1)]) (ks := []) rfl c__law_draw (fun _ h => h) DefV.nil room (by omega) hG (takes_of rfl rfl rfl rfl) rfl (pa_asCons (pe_eVar (pv 0)) (pa_asCons (pe_eB (pr_len rfl) cr_len rfl T.b_len (by decide +kernel) (pa_asCons (pe_eVar (pv 1)) pa_asNil)) pa_asNil)) pk_asNil))
    (pss_sSeq
    (ps_sSet (i := 4) nd__law_spoilt rfl (.inl rfl) (pe_eLstR (pa_asCons (pe_e2 or_addX pr_addX (pe_eSl sl_all (pr_sl rfl) (pe_eVar (pv 1)) po_oNone (po_oSome (pe_eVar (pv 3)))) (pe_eSl sl_all (pr_sl rfl) (pe_eVar (pv 1)) (po_oSome (pe_e2 or_addX pr_addX (pe_eVar (pv 3)) pe_eInt)) po_oNone)) (pa_asCons (pe_e2 or_addX pr_addX (pe_eSl sl_all (pr_sl rfl) (pe_eVar (pv 1)) po_oNone (po_oSome (pe_e2 or_addX pr_addX (pe_eVar (pv 3)) pe_eInt))) (pe_eSl sl_all (pr_sl rfl) (pe_eVar (pv 1)) (po_oSome (pe_eVar (pv 3))) po_oNone)) pa_asNil))))
    (pss_sSeq
    (ps_sExpr (pe_eMet rfl pr_append PySem.F.plainAttrs_list PySem.F.slot_list_append PySem.F.type_list_append mt_append (pe_eVar (pv 4)) (pa_asCons (pe_e2 or_addX pr_addX (pe_e2 or_addX pr_addX (pe_eSl sl_all (pr_sl rfl) (pe_eVar (pv 1)) po_oNone (po_oSome (pe_eVar (pv 3)))) (pe_eRevX rfl (pe_eSl sl_all (pr_sl rfl) (pe_eVar (pv 1)) (po_oSome (pe_eVar (pv 3))) (po_oSome (pe_e2 or_addX pr_addX (pe_eVar (pv 3)) pe_eInt))))) (pe_eSl sl_all (pr_sl rfl) (pe_eVar (pv 1)) (po_oSome (pe_e2 or_addX pr_addX (pe_eVar (pv 3)) pe_eInt)) po_oNone)) pa_asNil)))
    (pss_sSeq
    (ps_sIf (pt_bOfC or_lt pr_lt (nomark _) (pe_eVar (pv 2)) pe_eInt) (pss_sOne
    (ps_sRet (pe_eIx rfl (pe_eVar (pv 4)) (pe_e2 or_subX pr_subX (pe_eVar (pv 2)) pe_eInt)))) pss_sNil)
    (pss_sOne
    (ps_sRet (pe_e2 or_addX pr_addX (pe_e2 or_addX pr_addX (pe_eSl sl_all (pr_sl rfl) (pe_eVar (pv 1)) po_oNone (po_oSome (pe_eVar (pv 3)))) (pe_eTup (pa_asCons (pe_call_ (hix := by rfl) (ix := [(0, 0), (0, 1)]) (ks := []) rfl c__law_spoilt (fun _ h => h) DefV.nil room (by omega) hG (takes_of rfl rfl rfl rfl) rfl (pa_asCons (pe_eVar (pv 0)) (pa_asCons (pe_eIx rfl (pe_eVar (pv 1)) (pe_eVar (pv 3))) pa_asNil)) pk_asNil) pa_asNil))) (pe_eSl sl_all (pr_sl rfl) (pe_eVar (pv 1)) (po_oSome (pe_e2 or_addX pr_addX (pe_eVar (pv 3)) pe_eInt)) po_oNone))))))))))
theorem sc__law_is_number : FnScope N__law_is_number ps__law_is_number (defScope s__law_is_number) := ⟨rfl, rfl, rfl, by decide +kernel, rfl, by decide +kernel, by decide +kernel⟩
theorem ok__law_is_number {f : Addr} {fd : FuncData} (T : Txt g mg)  (F : FunD g.K "_law_is_number" "_law_is_number" (defArgs s__law_is_number) (defBody s__law_is_number) (defScope s__law_is_number) [] [] f fd) :
    FnG P g.w g.K mg base 1 f fd ps__law_is_number (spD g ps__law_is_number.length m__law_is_number) := by
  show FnG P g.w g.K mg base (0 + 1) f fd ps__law_is_number (spD g ps__law_is_number.length (runFn N__law_is_number.length b__law_is_number))
  exact fn_body (N := N__law_is_number) (ps := ps__law_is_number) (k := 0) (b := b__law_is_number) F sc__law_is_number fun cdv A outer s H E room hG =>
   (pss_sOne
    (ps_sRet (pe_eAnd (pe_eB (pr_isi rfl (T := "int") (by decide)) call_isi rfl T.b_isinstance (by decide +kernel) (pa_asCons (pe_eVar (pv 0)) (pa_asCons (pe_eTy rfl T.b_int (by decide +kernel)) pa_asNil))) (pe_one (pe_eNot (pe_eB (pr_isi rfl (T := "bool") (by decide)) call_isi rfl T.b_isinstance (by decide +kernel) (pa_asCons (pe_eVar (pv 0)) (pa_asCons (pe_eTy rfl T.b_bool (by decide +kernel)) pa_asNil))))))))
theorem sc__law_is_row : FnScope N__law_is_row ps__law_is_row (defScope s__law_is_row) := ⟨rfl, rfl, rfl, by decide +kernel, rfl, by decide +kernel, by decide +kernel⟩
theorem ok__law_is_row {f : Addr} {fd : FuncData} (T : Txt g mg) (c__law_is_number : Cal P g.w base mg g 1 "_law_is_number" 8 ps__law_is_number m__law_is_number (kb__law_is_number g)) (F : FunD g.K "_law_is_row" "_law_is_row" (defArgs s__law_is_row) (defBody s__law_is_row) (defScope s__law_is_row) [] [] f fd) :
    FnG P g.w g.K mg base 2 f fd ps__law_is_row (spD g ps__law_is_row.length m__law_is_row) := by
  show FnG P g.w g.K mg base (1 + 1) f fd ps__law_is_row (spD g ps__law_is_row.length (runFn N__law_is_row.length b__law_is_row))
  exact fn_body (N := N__law_is_row) (ps := ps__law_is_row) (k := 1) (b := b__law_is_row) F sc__law_is_row fun cdv A outer s H E room hG =>
   (pss_sSeq
    (ps_sIf (PW.pt (pw_bOr (pt_bNot (pt_bOf (pe_eB (pr_isi rfl (T := "tuple") (by decide)) call_isi rfl T.b_isinstance (by decide +kernel) (pa_asCons (pe_eVar (pv 0)) (pa_asCons (pe_eTy rfl T.b_tuple (by decide +kernel)) pa_asNil))))) (pw_bOneO (pt_bOfC (op_neA (hu64_of room)) pr_ne (nomark _) (pe_eB (pr_len rfl) cr_len rfl T.b_len (by decide +kernel) (pa_asCons (pe_eVar (pv 0)) pa_asNil)) pe_eInt)))) (pss_sOne
    (ps_sRet pe_eBl)) pss_sNil)
    (pss_sSeq
    (ps_sAsg (own := [1, 2, 3, 4, 5]) (pe_eVar (pv 0)) (pg_tup rfl (pgs_cons (pg_name (i := 1) nd__law_is_row rfl (.inl rfl)) (pgs_cons (pg_name (i := 2) nd__law_is_row rfl (.inl rfl)) (pgs_cons (pg_name (i := 3) nd__law_is_row rfl (.inl rfl)) (pgs_cons (pg_name (i := 4) nd__law_is_row rfl (.inl rfl)) (pgs_cons (pg_name (i := 5) nd__law_is_row rfl (.inl rfl)) pgs_nil)))))) (tg_gT (tgs_cons (tg_gN (by decide)) (tgs_cons (tg_gN (by decide)) (tgs_cons (tg_gN (by decide)) (tgs_cons (tg_gN (by decide)) (tgs_cons (tg_gN (by decide)) tgs_nil)))))))
    (pss_sSeq
    (ps_sIf (pt_bOfC (op_neG (hu64_of room)) pr_neG (nomark _) (pe_eLc (ownN := [("_law_one", 6)]) rfl nd__law_is_row (pi_iSeq rfl (pe_eTup (pa_asCons (pe_eVar (pv 1)) (pa_asCons (pe_eVar (pv 3)) (pa_asCons (pe_eVar (pv 4)) (pa_asCons (pe_eVar (pv 5)) pa_asNil)))))) (blkOk_by (N := N__law_is_row) (sc := defScope s__law_is_row) (by decide +kernel)) (tg_gN (by decide)) (fun _ _ _ _ _ => (pg_name (i := 6) nd__law_is_row rfl (.inl rfl))) (fun _ _ _ _ _ => (pts_bOne (pt_bNot (pt_bOf (pe_call_ (hix := by rfl) (ix := [(0, 0)]) (ks := []) rfl c__law_is_number (fun _ h => h) DefV.nil room (by decide) hG takes0 rfl (pa_asCons (pe_eVar (pv 6)) pa_asNil) pk_asNil))))) (fun _ _ _ _ _ => (pe_eVar (pv 6)))) (pe_eLst pa_asNil)) (pss_sOne
    (ps_sRet pe_eBl)) pss_sNil)
    (pss_sSeq
    (ps_sIf (PW.pt (pw_bOr (pt_bNot (pt_bOf (pe_eB (pr_isi rfl (T := "str") (by decide)) call_isi rfl T.b_isinstance (by decide +kernel) (pa_asCons (pe_eVar (pv 2)) (pa_asCons (pe_eTy rfl T.b_str (by decide +kernel)) pa_asNil))))) (pw_bOr (pt_bOfC or_lt pr_lt (nomark _) (pe_eVar (pv 1)) pe_eInt) (pw_bOr (pt_bOfC or_lt pr_lt (nomark _) (pe_eVar (pv 4)) pe_eInt) (pw_bOr (pt_bOfC or_lt pr_lt (nomark _) (pe_eVar (pv 3)) pe_eInt) (pw_bOneO (pt_bOfC or_gt pr_gt (nomark _) (pe_eVar (pv 3)) pe_eInt))))))) (pss_sOne
    (ps_sRet pe_eBl)) pss_sNil)
    (pss_sSeq
    (ps_sIf (pt_bOfC (op_eqA (hu64_of room)) pr_eq (nomark _) (pe_eVar (pv 2)) pe_eStr) (pss_sOne
    (ps_sRet (pe_c2 or_ge pr_ge (nomark _) (pe_eVar (pv 5)) (pe_eVar (pv 4))))) pss_sNil)
    (pss_sOne
    (ps_sRet (pe_eAnd (pe_c2 (op_eqA (hu64_of room)) pr_eq (nomark _) (pe_eVar (pv 2)) pe_eStr) (pe_one (pe_eOr (pe_c2 or_ge pr_ge (nomark _) (pe_eVar (pv 5)) (pe_eVar (pv 4))) (pe_one (pe_c2 (op_eqA (hu64_of room)) pr_eq (nomark _) (pe_eVar (pv 5)) (pe_u1 un_neg pr_neg pe_eInt)))))))))))))
theorem sc__law_is_due : FnScope N__law_is_due ps__law_is_due (defScope s__law_is_due) := ⟨rfl, rfl, rfl, by decide +kernel, rfl, by decide +kernel, by decide +kernel⟩
theorem ok__law_is_due {f : Addr} {fd : FuncData} (T : Txt g mg) (c__law_is_row : Cal P g.w base mg g 2 "_law_is_row" 9 ps__law_is_row m__law_is_row (kb__law_is_row g)) (F : FunD g.K "_law_is_due" "_law_is_due" (defArgs s__law_is_due) (defBody s__law_is_due) (defScope s__law_is_due) [] [] f fd) :
    FnG P g.w g.K mg base 3 f fd ps__law_is_due (spD g ps__law_is_due.length m__law_is_due) := by
  show FnG P g.w g.K mg base (2 + 1) f fd ps__law_is_due (spD g ps__law_is_due.length (runFn N__law_is_due.length b__law_is_due))
  exact fn_body (N := N__law_is_due) (ps := ps__law_is_due) (k := 2) (b := b__law_is_due) F sc__law_is_due fun cdv A outer s H E room hG =>
   (pss_sOne
    (ps_sRet (pe_eAnd (pe_eB (pr_isi rfl (T := "tuple") (by decide)) call_isi rfl T.b_isinstance (by decide +kernel) (pa_asCons (pe_eVar (pv 0)) (pa_asCons (pe_eTy rfl T.b_tuple (by decide +kernel)) pa_asNil))) (pe_one (pe_c2 (op_eqG (hu64_of room)) pr_eqG (nomark _) (pe_eLc (ownN := [("_law_row", 1)]) rfl nd__law_is_due (pi_iSeq rfl (pe_eVar (pv 0))) (blkOk_by (N := N__law_is_due) (sc := defScope s__law_is_due) (by decide +kernel)) (tg_gN (by decide)) (fun _ _ _ _ _ => (pg_name (i := 1) nd__law_is_due rfl (.inl rfl))) (fun _ _ _ _ _ => (pts_bOne (pt_bNot (pt_bOf (pe_call_ (hix := by rfl) (ix := [(0, 0)]) (ks := []) rfl c__law_is_row (fun _ h => h) DefV.nil room (by decide) hG takes0 rfl (pa_asCons (pe_eVar (pv 1)) pa_asNil) pk_asNil))))) (fun _ _ _ _ _ => (pe_eVar (pv 1)))) (pe_eLst pa_asNil))))))
theorem sc__law_a_row : FnScope N__law_a_row ps__law_a_row (defScope s__law_a_row) := ⟨rfl, rfl, rfl, by decide +kernel, rfl, by decide +kernel, by decide +kernel⟩
theorem ok__law_a_row {f : Addr} {fd : FuncData} (T : Txt g mg) (c__law_draw : Cal P g.w base mg g 1 "_law_draw" 4 ps__law_draw m__law_draw (kb__law_draw g)) (F : FunD g.K "_law_a_row" "_law_a_row" (defArgs s__law_a_row) (defBody s__law_a_row) (defScope s__law_a_row) [] [] f fd) :
    FnG P g.w g.K mg base 2 f fd ps__law_a_row (spD g ps__law_a_row.length m__law_a_row) := by
  show FnG P g.w g.K mg base (1 + 1) f fd ps__law_a_row (spD g ps__law_a_row.length (runFn N__law_a_row.length b__law_a_row))
  exact fn_body (N := N__law_a_row) (ps := ps__law_a_row) (k := 1) (b := b__law_a_row) F sc__law_a_row fun cdv A outer s H E room hG =>
   (pss_sSeq
    (ps_sPar2 (i := 1) (l := 2) rfl nd__law_a_row rfl rfl (by decide) rfl rfl (pa_asCons (pe_call_ (hix := by rfl) (ix := [(0, 0), (0, 1)]) (ks := []) rfl c__law_draw (fun _ h => h) DefV.nil room (by decide) hG (takes_of rfl rfl rfl rfl) rfl (pa_asCons (pe_eVar (pv 0)) (pa_asCons pe_eInt pa_asNil)) pk_asNil) (pa_asCons (pe_eIx rfl (pe_eLst (pa_asCons pe_eInt (pa_asCons pe_eInt (pa_asCons (pe_call_ (hix := by rfl) (ix := [(0, 0), (0, 1)]) (ks := []) rfl c__law_draw (fun _ h => h) DefV.nil room (by decide) hG (takes_of rfl rfl rfl rfl) rfl (pa_asCons (pe_eVar (pv 0)) (pa_asCons (pe_e2 op_pow pr_pow pe_eInt pe_eInt) pa_asNil)) pk_asNil) pa_asNil)))) (pe_call_ (hix := by rfl) (ix := [(0, 0), (0, 1)]) (ks := []) rfl c__law_draw (fun _ h => h) DefV.nil room (by decide) hG (takes_of rfl rfl rfl rfl) rfl (pa_asCons (pe_eVar (pv 0)) (pa_asCons pe_eInt pa_asNil)) pk_asNil)) pa_asNil)) rfl)
    (pss_sSeq
    (ps_sPar2 (i := 3) (l := 4) rfl nd__law_a_row rfl rfl (by decide) rfl rfl (pa_asCons (pe_eIx rfl (pe_eLst (pa_asCons pe_eInt (pa_asCons (pe_call_ (hix := by rfl) (ix := [(0, 0), (0, 1)]) (ks := []) rfl c__law_draw (fun _ h => h) DefV.nil room (by decide) hG (takes_of rfl rfl rfl rfl) rfl (pa_asCons (pe_eVar (pv 0)) (pa_asCons pe_eInt pa_asNil)) pk_asNil) (pa_asCons (pe_call_ (hix := by rfl) (ix := [(0, 0), (0, 1)]) (ks := []) rfl c__law_draw (fun _ h => h) DefV.nil room (by decide) hG (takes_of rfl rfl rfl rfl) rfl (pa_asCons (pe_eVar (pv 0)) (pa_asCons pe_eInt pa_asNil)) pk_asNil) pa_asNil)))) (pe_call_ (hix := by rfl) (ix := [(0, 0), (0, 1)]) (ks := []) rfl c__law_draw (fun _ h => h) DefV.nil room (by decide) hG (takes_of rfl rfl rfl rfl) rfl (pa_asCons (pe_eVar (pv 0)) (pa_asCons pe_eInt pa_asNil)) pk_asNil)) (pa_asCons (pe_call_ (hix := by rfl) (ix := [(0, 0), (0, 1)]) (ks := []) rfl c__law_draw (fun _ h => h) DefV.nil room (by decide) hG (takes_of rfl rfl rfl rfl) rfl (pa_asCons (pe_eVar (pv 0)) (pa_asCons pe_eInt pa_asNil)) pk_asNil) pa_asNil)) rfl)
    (pss_sSeq
    (ps_sSet (i := 5) nd__law_a_row rfl (.inl rfl) (pe_eIx rfl (pe_eLst (pa_asCons (pe_eVar (pv 3)) (pa_asCons (pe_e2 or_addX pr_addX (pe_eVar (pv 3)) (pe_eVar (pv 4))) (pa_asCons (pe_eIf (pt_bOfC (op_eqA (hu64_of room)) pr_eq (nomark _) (pe_eVar (pv 1)) pe_eInt) (pe_u1 un_neg pr_neg pe_eInt) (pe_e2 or_addX pr_addX (pe_eVar (pv 3)) pe_eInt)) pa_asNil)))) (pe_call_ (hix := by rfl) (ix := [(0, 0), (0, 1)]) (ks := []) rfl c__law_draw (fun _ h => h) DefV.nil room (by decide) hG (takes_of rfl rfl rfl rfl) rfl (pa_asCons (pe_eVar (pv 0)) (pa_asCons pe_eInt pa_asNil)) pk_asNil)))
    (pss_sOne
    (ps_sRet (pe_eTup (pa_asCons (pe_call_ (hix := by rfl) (ix := [(0, 0), (0, 1)]) (ks := []) rfl c__law_draw (fun _ h => h) DefV.nil room (by decide) hG (takes_of rfl rfl rfl rfl) rfl (pa_asCons (pe_eVar (pv 0)) (pa_asCons pe_eInt pa_asNil)) pk_asNil) (pa_asCons (pe_eIx rfl (pe_eLst (pa_asCons pe_eStr (pa_asCons pe_eStr (pa_asCons pe_eStr pa_asNil)))) (pe_eVar (pv 1))) (pa_asCons (pe_eVar (pv 2)) (pa_asCons (pe_eVar (pv 3)) (pa_asCons (pe_eVar (pv 5)) pa_asNil)))))))))))
theorem sc__law_edges : FnScope N__law_edges ps__law_edges (defScope s__law_edges) := ⟨rfl, rfl, rfl, by decide +kernel, rfl, by decide +kernel, by decide +kernel⟩
theorem ok__law_edges {f : Addr} {fd : FuncData} (T : Txt g mg)  (F : FunD g.K "_law_edges" "_law_edges" (defArgs s__law_edges) (defBody s__law_edges) (defScope s__law_edges) [] [] f fd) :
    FnG P g.w g.K mg base 1 f fd ps__law_edges (spD g ps__law_edges.length m__law_edges) := by
  show FnG P g.w g.K mg base (0 + 1) f fd ps__law_edges (spD g ps__law_edges.length (runFn N__law_edges.length b__law_edges))
  exact fn_body (N := N__law_edges) (ps := ps__law_edges) (k := 0) (b := b__law_edges) F sc__law_edges fun cdv A outer s H E room hG =>
   (pss_sSeq
    (ps_sSet (i := 0) nd__law_edges rfl (.inl rfl) (pe_eLst (pa_asCons (pe_eTup (pa_asCons pe_eInt (pa_asCons pe_eStr (pa_asCons pe_eInt (pa_asCons pe_eInt (pa_asCons pe_eInt pa_asNil)))))) (pa_asCons (pe_eTup (pa_asCons pe_eInt (pa_asCons pe_eStr (pa_asCons pe_eInt (pa_asCons pe_eInt (pa_asCons (pe_u1 un_neg pr_neg pe_eInt) pa_asNil)))))) (pa_asCons (pe_eTup (pa_asCons pe_eInt (pa_asCons pe_eStr (pa_asCons pe_eInt (pa_asCons pe_eInt (pa_asCons pe_eInt pa_asNil)))))) (pa_asCons (pe_eTup (pa_asCons pe_eInt (pa_asCons pe_eStr (pa_asCons pe_eInt (pa_asCons pe_eInt (pa_asCons pe_eInt pa_asNil)))))) pa_asNil))))))
    (pss_sSeq
    (ps_sSet (i := 0) nd__law_edges rfl (.inl rfl) (pe_e2 or_addX pr_addX (pe_eVar (pv 0)) (pe_eLst (pa_asCons (pe_eTup (pa_asCons pe_eInt (pa_asCons pe_eStr (pa_asCons pe_eInt (pa_asCons pe_eInt (pa_asCons (pe_u1 un_neg pr_neg pe_eInt) pa_asNil)))))) (pa_asCons (pe_eTup (pa_asCons pe_eInt (pa_asCons pe_eStr (pa_asCons pe_eInt (pa_asCons pe_eInt (pa_asCons pe_eInt pa_asNil)))))) (pa_asCons (pe_eTup (pa_asCons pe_eInt (pa_asCons pe_eStr (pa_asCons pe_eInt (pa_asCons pe_eInt (pa_asCons pe_eInt pa_asNil)))))) (pa_asCons (pe_eTup (pa_asCons pe_eInt (pa_asCons pe_eStr (pa_asCons (pe_u1 un_neg pr_neg pe_eInt) (pa_asCons pe_eInt (pa_asCons pe_eInt pa_asNil)))))) pa_asNil)))))))
    (pss_sSeq
    (ps_sSet (i := 0) nd__law_edges rfl (.inl rfl) (pe_e2 or_addX pr_addX (pe_eVar (pv 0)) (pe_eLst (pa_asCons (pe_eTup (pa_asCons (pe_u1 un_neg pr_neg pe_eInt) (pa_asCons pe_eStr (pa_asCons pe_eInt (pa_asCons pe_eInt (pa_asCons pe_eInt pa_asNil)))))) (pa_asCons (pe_eTup (pa_asCons pe_eInt (pa_asCons pe_eStr (pa_asCons pe_eInt (pa_asCons (pe_u1 un_neg pr_neg pe_eInt) (pa_asCons pe_eInt pa_asNil)))))) (pa_asCons (pe_eTup (pa_asCons pe_eInt (pa_asCons pe_eStr (pa_asCons pe_eInt (pa_asCons pe_eInt (pa_asCons (pe_u1 un_neg pr_neg pe_eInt) pa_asNil)))))) (pa_asCons (pe_eTup (pa_asCons pe_eInt (pa_asCons pe_eStr (pa_asCons pe_eInt (pa_asCons pe_eInt (pa_asCons pe_eInt pa_asNil)))))) pa_asNil)))))))
    (pss_sSeq
    (ps_sSet (i := 0) nd__law_edges rfl (.inl rfl) (pe_e2 or_addX pr_addX (pe_eVar (pv 0)) (pe_eLst (pa_asCons (pe_eTup (pa_asCons pe_eBl (pa_asCons pe_eStr (pa_asCons pe_eInt (pa_asCons pe_eInt (pa_asCons pe_eInt pa_asNil)))))) (pa_asCons (pe_eTup (pa_asCons pe_eInt (pa_asCons pe_eStr (pa_asCons pe_eBl (pa_asCons pe_eInt (pa_asCons pe_eInt pa_asNil)))))) (pa_asCons (pe_eTup (pa_asCons pe_eInt (pa_asCons pe_eStr (pa_asCons pe_eInt (pa_asCons pe_eBl (pa_asCons pe_eInt pa_asNil)))))) pa_asNil))))))
    (pss_sSeq
    (ps_sSet (i := 0) nd__law_edges rfl (.inl rfl) (pe_e2 or_addX pr_addX (pe_eVar (pv 0)) (pe_eLst (pa_asCons (pe_eTup (pa_asCons pe_eInt (pa_asCons pe_eStr (pa_asCons pe_eInt (pa_asCons pe_eInt (pa_asCons pe_eBl pa_asNil)))))) (pa_asCons (pe_eTup (pa_asCons pe_eInt (pa_asCons pe_eStr (pa_asCons pe_eInt (pa_asCons pe_eInt pa_asNil))))) (pa_asCons (pe_eTup (pa_asCons pe_eInt (pa_asCons pe_eStr (pa_asCons pe_eInt (pa_asCons pe_eInt (pa_asCons pe_eInt (pa_asCons pe_eInt pa_asNil))))))) (pa_asCons (pe_eLst (pa_asCons pe_eInt (pa_asCons pe_eStr (pa_asCons pe_eInt (pa_asCons pe_eInt (pa_asCons pe_eInt pa_asNil)))))) pa_asNil)))))))
    (pss_sSeq
    (ps_sSet (i := 0) nd__law_edges rfl (.inl rfl) (pe_e2 or_addX pr_addX (pe_eVar (pv 0)) (pe_eLst (pa_asCons (pe_eTup (pa_asCons pe_eInt (pa_asCons pe_eStr (pa_asCons pe_eInt (pa_asCons (pe_e2 op_pow pr_pow pe_eInt pe_eInt) (pa_asCons (pe_u1 un_neg pr_neg pe_eInt) pa_asNil)))))) (pa_asCons (pe_eTup (pa_asCons (pe_e2 op_pow pr_pow pe_eInt pe_eInt) (pa_asCons pe_eStr (pa_asCons pe_eInt (pa_asCons pe_eInt (pa_asCons pe_eInt pa_asNil)))))) (pa_asCons (pe_eTup (pa_asCons pe_eInt (pa_asCons pe_eStr (pa_asCons pe_eInt (pa_asCons pe_eInt (pa_asCons pe_eInt pa_asNil)))))) pa_asNil))))))
    (pss_sOne
    (ps_sRet (pe_e2 or_addX pr_addX (pe_eVar (pv 0)) (pe_eLst (pa_asCons (pe_eTup (pa_asCons pe_eInt (pa_asCons pe_eNon (pa_asCons pe_eInt (pa_asCons pe_eInt (pa_asCons pe_eInt pa_asNil)))))) (pa_asCons (pe_eTup (pa_asCons pe_eStr (pa_asCons pe_eStr (pa_asCons pe_eInt (pa_asCons pe_eInt (pa_asCons pe_eInt pa_asNil)))))) (pa_asCons (pe_eTup (pa_asCons pe_eInt (pa_asCons pe_eStr (pa_asCons pe_eStr (pa_asCons pe_eInt (pa_asCons pe_eInt pa_asNil)))))) (pa_asCons (pe_eTup (pa_asCons pe_eInt (pa_asCons (pe_eTup (pa_asCons pe_eStr pa_asNil)) (pa_asCons pe_eInt (pa_asCons pe_eInt (pa_asCons pe_eInt pa_asNil)))))) pa_asNil))))))))))))))
theorem sc__law_right : FnScope N__law_right ps__law_right (defScope s__law_right) := ⟨rfl, rfl, rfl, by decide +kernel, rfl, by decide +kernel, by decide +kernel⟩
theorem ok__law_right {f : Addr} {fd : FuncData} (T : Txt g mg) (c__law_is_due : Cal P g.w base mg g 3 "_law_is_due" 10 ps__law_is_due m__law_is_due (kb__law_is_due g)) (c_is_history : Cal P g.w base mg g 3 "is_history" 2 ps_is_history m_is_history (kb_is_history g)) (F : FunD g.K "_law_right" "_law_right" (defArgs s__law_right) (defBody s__law_right) (defScope s__law_right) [] [] f fd) :
    FnG P g.w g.K mg base 4 f fd ps__law_right (spD g ps__law_right.length m__law_right) := by
  show FnG P g.w g.K mg base (3 + 1) f fd ps__law_right (spD g ps__law_right.length (runFn N__law_right.length b__law_right))
  exact fn_body (N := N__law_right) (ps := ps__law_right) (k := 3) (b := b__law_right) F sc__law_right fun cdv A outer s H E room hG =>
   (pss_sSeq
    (ps_sPar2 (i := 1) (l := 2) rfl nd__law_right rfl rfl (by decide) rfl rfl (pa_asCons (pe_eB (pr_reprG rfl) (cr_reprG hG (hu64_of room)) rfl T.b_repr (by decide +kernel) (pa_asCons (pe_eVar (pv 0)) pa_asNil)) (pa_asCons (pe_call_ (hix := by rfl) (ix := [(0, 0)]) (ks := []) rfl c__law_is_due (fun _ h => h) DefV.nil room (by decide) hG (takes_of rfl rfl rfl rfl) rfl (pa_asCons (pe_eVar (pv 0)) pa_asNil) pk_asNil) pa_asNil)) rfl)
    (pss_sSeq
    (ps_sSet (i := 3) nd__law_right rfl (.inl rfl) (pe_eLst (pa_asCons (pe_call_ (hix := by rfl) (ix := [(0, 0)]) (ks := []) rfl c_is_history (fun _ h => h.1) DefV.nil room (by decide) hG (takes_of rfl rfl rfl rfl) rfl (pa_asCons (pe_eVar (pv 0)) pa_asNil) pk_asNil) (pa_asCons (pe_call0_ (hix := by rfl) (ix := [(1, 0)]) (ks := ["thing"]) rfl c_is_history (fun _ h => h.2) DefV.nil room (by decide) hG (takes_of rfl rfl rfl rfl) rfl (pk_asCons (pe_eVar (pv 0)) pk_asNil)) pa_asNil))))
    (pss_sOne
    (ps_sRet (pe_eAnd (pe_c2 (op_eqA (hu64_of room)) pr_eq (nomark _) (pe_eB (pr_reprG rfl) (cr_reprG hG (hu64_of room)) rfl T.b_repr (by decide +kernel) (pa_asCons (pe_eVar (pv 3)) pa_asNil)) (pe_eB (pr_reprG rfl) (cr_reprG hG (hu64_of room)) rfl T.b_repr (by decide +kernel) (pa_asCons (pe_eLst (pa_asCons (pe_eVar (pv 2)) (pa_asCons (pe_eVar (pv 2)) pa_asNil))) pa_asNil))) (pe_one (pe_c2 (op_eqA (hu64_of room)) pr_eq (nomark _) (pe_eB (pr_reprG rfl) (cr_reprG hG (hu64_of room)) rfl T.b_repr (by decide +kernel) (pa_asCons (pe_eVar (pv 0)) pa_asNil)) (pe_eVar (pv 1)))))))))
theorem sc_law : FnScope N_law ps_law (defScope s_law) := ⟨rfl, rfl, rfl, by decide +kernel, rfl, by decide +kernel, by decide +kernel⟩
theorem ok_law {f : Addr} {fd : FuncData} (T : Txt g mg) (c__law_deck : Cal P g.w base mg g 1 "_law_deck" 3 ps__law_deck m__law_deck (kb__law_deck g)) (c__law_draw : Cal P g.w base mg g 1 "_law_draw" 4 ps__law_draw m__law_draw (kb__law_draw g)) (c__law_a_row : Cal P g.w base mg g 2 "_law_a_row" 11 ps__law_a_row m__law_a_row (kb__law_a_row g)) (c_is_history : Cal P g.w base mg g 3 "is_history" 2 ps_is_history m_is_history (kb_is_history g)) (c__law_spoilt : Cal P g.w base mg g 16 "_law_spoilt" 7 ps__law_spoilt (m__law_spoilt 12) (kb__law_spoilt g)) (c__law_edges : Cal P g.w base mg g 1 "_law_edges" 12 ps__law_edges m__law_edges (kb__law_edges g)) (c__law_right : Cal P g.w base mg g 4 "_law_right" 13 ps__law_right m__law_right (kb__law_right g)) (F : FunD g.K "law" "law" (defArgs s_law) (defBody s_law) (defScope s_law) [] [] f fd) :
    FnG P g.w g.K mg base 17 f fd ps_law (spD g ps_law.length m_law) := by
  show FnG P g.w g.K mg base (16 + 1) f fd ps_law (spD g ps_law.length (runFn N_law.length b_law))
  exact fn_body (N := N_law) (ps := ps_law) (k := 16) (b := b_law) F sc_law fun cdv A outer s H E room hG =>
   (pss_sSeq
    (ps_sSet (i := 1) nd_law rfl (.inr rfl) (pe_call_ (hix := by rfl) (ix := [(0, 0)]) (ks := []) rfl c__law_deck (fun _ h => h) DefV.nil room (by decide) hG (takes_of rfl rfl rfl rfl) rfl (pa_asCons (pe_eVar (pv 0)) pa_asNil) pk_asNil))
    (pss_sSeq
    (ps_sSet (i := 2) nd_law rfl (.inl rfl) (pe_eLstR (pa_asCons pe_eNon (pa_asCons pe_eBl (pa_asCons pe_eInt (pa_asCons pe_eStr (pa_asCons pe_eStr (pa_asCons (pe_eLst pa_asNil) (pa_asCons pe_eD0 (pa_asCons (pe_eTup pa_asNil) (pa_asCons (pe_eTup (pa_asCons (pe_eTup pa_asNil) pa_asNil)) (pa_asCons (pe_eTup (pa_asCons pe_eNon pa_asNil)) (pa_asCons (pe_eLst (pa_asCons (pe_eTup (pa_asCons pe_eInt (pa_asCons pe_eStr (pa_asCons pe_eInt (pa_asCons pe_eInt (pa_asCons pe_eInt pa_asNil)))))) pa_asNil)) (pa_asCons (pe_eTup (pa_asCons pe_eInt (pa_asCons pe_eStr (pa_asCons pe_eInt (pa_asCons pe_eInt (pa_asCons pe_eInt pa_asNil)))))) pa_asNil))))))))))))))
    (pss_sSeq
    (ps_sFor (own := [3]) (passes_of rfl) rfl (pi_iRngA rfl T.b_range (pa_asCons pe_eInt pa_asNil)) (pg_name (i := 3) nd_law rfl (.inl rfl)) (tg_gN (by decide)) (pss_sSeq
    (ps_sSetLc (ownN := [("_law_k", 8)]) rfl nd_law (i := 4) rfl rfl rfl (pi_iRngA rfl T.b_range (pa_asCons pe_eInt pa_asNil)) (blkOk_by (N := N_law) (sc := defScope s_law) (by decide +kernel)) (tg_gN (by decide)) (fun _ _ _ _ _ => (pg_name (i := 8) nd_law rfl (.inl rfl))) (fun _ _ _ _ _ => pts_bYes) (fun _ _ _ _ _ => (pe_call_ (hix := by rfl) (ix := [(0, 0), (0, 1)]) (ks := []) rfl c__law_draw (fun _ h => h) DefV.nil room (by decide) hG takes0 rfl (pa_asCons (pe_eVar (pv 1)) (pa_asCons pe_eInt pa_asNil)) pk_asNil)))
    (pss_sSeq
    (ps_sSet (i := 5) nd_law rfl (.inl rfl) (pe_eT (pr_tupleOf rfl) call_tuple_of rfl T.b_tuple (by decide +kernel) (pa_asCons (pe_eLc (ownN := [("_law_k", 8)]) rfl nd_law (pi_iRngA rfl T.b_range (pa_asCons (pe_call_ (hix := by rfl) (ix := [(0, 0), (0, 1)]) (ks := []) rfl c__law_draw (fun _ h => h) DefV.nil room (by decide) hG (takes_of rfl rfl rfl rfl) rfl (pa_asCons (pe_eVar (pv 1)) (pa_asCons pe_eInt pa_asNil)) pk_asNil) pa_asNil)) (blkOk_by (N := N_law) (sc := defScope s_law) (by decide +kernel)) (tg_gN (by decide)) (fun _ _ _ _ _ => (pg_name (i := 8) nd_law rfl (.inl rfl))) (fun _ _ _ _ _ => pts_bYes) (fun _ _ _ _ _ => (pe_call_ (hix := by rfl) (ix := [(0, 0)]) (ks := []) rfl c__law_a_row (fun _ h => h) DefV.nil room (by decide) hG takes0 rfl (pa_asCons (pe_eVar (pv 1)) pa_asNil) pk_asNil))) pa_asNil)))
    (pss_sSeq
    (ps_sIf (PW.pt (pw_bOr (pt_bOfC or_isntA pr_isntA (nomark _) (pe_call_ (hix := by rfl) (ix := [(0, 0)]) (ks := []) rfl c_is_history (fun _ h => h.1) DefV.nil room (by decide) hG (takes_of rfl rfl rfl rfl) rfl (pa_asCons (pe_eVar (pv 5)) pa_asNil) pk_asNil) pe_eBl) (pw_bOneO (pt_bOfC (op_neG (hu64_of room)) pr_neG (nomark _) (pe_eLc (ownN := [("_law_row", 9)]) rfl nd_law (pi_iSeq rfl (pe_eVar (pv 5))) (blkOk_by (N := N_law) (sc := defScope s_law) (by decide +kernel)) (tg_gN (by decide)) (fun _ _ _ _ _ => (pg_name (i := 9) nd_law rfl (.inl rfl))) (fun _ _ _ _ _ => (pts_bOne (pt_bOfC or_isntA pr_isntA (nomark _) (pe_call_ (hix := by rfl) (ix := [(0, 0)]) (ks := []) rfl c_is_history (fun _ h => h.1) DefV.nil room (by decide) hG takes0 rfl (pa_asCons (pe_eTup (pa_asCons (pe_eVar (pv 9)) pa_asNil)) pa_asNil) pk_asNil) pe_eBl))) (fun _ _ _ _ _ => (pe_eVar (pv 9)))) (pe_eLst pa_asNil))))) (pss_sOne
    (ps_sRet pe_eBl)) pss_sNil)
    (pss_sSeq
    (ps_sSet (i := 2) nd_law rfl (.inl rfl) (pe_e2 op_cat pr_addR (pe_eVar (pv 2)) (pe_eLst (pa_asCons (pe_eVar (pv 5)) (pa_asCons (pe_eRevX rfl (pe_eVar (pv 5))) (pa_asCons (pe_e2 or_addX pr_addX (pe_eVar (pv 5)) (pe_eVar (pv 5))) (pa_asCons (pe_eT (pr_listOf rfl) call_list_of rfl T.b_list (by decide +kernel) (pa_asCons (pe_eVar (pv 5)) pa_asNil)) (pa_asCons (pe_eTup (pa_asCons (pe_eVar (pv 5)) pa_asNil)) pa_asNil))))))))
    (pss_sOne
    (ps_sFor (own := [6]) (passes_of rfl) rfl (pi_iSeq rfl (pe_eVar (pv 4))) (pg_name (i := 6) nd_law rfl (.inl rfl)) (tg_gN (by decide)) (pss_sSeq
    (ps_sSet (i := 7) nd_law rfl (.inl rfl) (pe_call_ (hix := by rfl) (ix := [(0, 0), (0, 1)]) (ks := []) rfl c__law_spoilt (fun _ h => h) DefV.nil room (by decide) hG (takes_of rfl rfl rfl rfl) rfl (pa_asCons (pe_eVar (pv 1)) (pa_asCons (pe_eVar (pv 5)) pa_asNil)) pk_asNil))
    (pss_sOne
    (ps_sExpr (pe_eMet rfl pr_append PySem.F.plainAttrs_list PySem.F.slot_list_append PySem.F.type_list_append mt_append (pe_eVar (pv 2)) (pa_asCons (pe_eIf (pt_bOfC (op_eqA (hu64_of room)) pr_eq (nomark _) (pe_eVar (pv 6)) pe_eInt) (pe_call_ (hix := by rfl) (ix := [(0, 0), (0, 1)]) (ks := []) rfl c__law_spoilt (fun _ h => h) DefV.nil room (by decide) hG (takes_of rfl rfl rfl rfl) rfl (pa_asCons (pe_eVar (pv 1)) (pa_asCons (pe_eVar (pv 7)) pa_asNil)) pk_asNil) (pe_eVar (pv 7))) pa_asNil))))))))))))
    (pss_sSeq
    (ps_sSet (i := 2) nd_law rfl (.inl rfl) (pe_e2 op_cat pr_addR (pe_e2 or_addX pr_addX (pe_eVar (pv 2)) (pe_eLc (ownN := [("_law_row", 9)]) rfl nd_law (pi_iSeq rfl (pe_call0_ (hix := by rfl) (ix := []) (ks := []) rfl c__law_edges (fun _ h => h) DefV.nil room (by decide) hG (takes_of rfl rfl rfl rfl) rfl pk_asNil)) (blkOk_by (N := N_law) (sc := defScope s_law) (by decide +kernel)) (tg_gN (by decide)) (fun _ _ _ _ _ => (pg_name (i := 9) nd_law rfl (.inl rfl))) (fun _ _ _ _ _ => pts_bYes) (fun _ _ _ _ _ => (pe_eTup (pa_asCons (pe_eVar (pv 9)) pa_asNil))))) (pe_eLc (ownN := [("_law_row", 9)]) rfl nd_law (pi_iSeq rfl (pe_call0_ (hix := by rfl) (ix := []) (ks := []) rfl c__law_edges (fun _ h => h) DefV.nil room (by decide) hG (takes_of rfl rfl rfl rfl) rfl pk_asNil)) (blkOk_by (N := N_law) (sc := defScope s_law) (by decide +kernel)) (tg_gN (by decide)) (fun _ _ _ _ _ => (pg_name (i := 9) nd_law rfl (.inl rfl))) (fun _ _ _ _ _ => pts_bYes) (fun _ _ _ _ _ => (pe_eTup (pa_asCons (pe_eTup (pa_asCons pe_eInt (pa_asCons pe_eStr (pa_asCons pe_eInt (pa_asCons pe_eInt (pa_asCons pe_eInt pa_asNil)))))) (pa_asCons (pe_eVar (pv 9)) pa_asNil)))))))
    (pss_sOne
    (ps_sRet (pe_c2 (op_eqG (hu64_of room)) pr_eqG (nomark _) (pe_eLc (ownN := [("_law_it", 7)]) rfl nd_law (pi_iSeq rfl (pe_e2 or_addX pr_addX (pe_eVar (pv 2)) (pe_eSl sl_all (pr_sl rfl) (pe_eVar (pv 2)) po_oNone (po_oSome pe_eInt)))) (blkOk_by (N := N_law) (sc := defScope s_law) (by decide +kernel)) (tg_gN (by decide)) (fun _ _ _ _ _ => (pg_name (i := 7) nd_law rfl (.inl rfl))) (fun _ _ _ _ _ => (pts_bOne (pt_bNot (pt_bOf (pe_call_ (hix := by rfl) (ix := [(0, 0)]) (ks := []) rfl c__law_right (fun _ h => h) DefV.nil room (by decide) hG takes0 rfl (pa_asCons (pe_eVar (pv 7)) pa_asNil) pk_asNil))))) (fun _ _ _ _ _ => (pe_eVar (pv 7)))) (pe_eLst pa_asNil))))))))
end
set_option maxHeartbeats 0 in
theorem all_mk {l : PySem.W.OpenLaw} {w : World} {K : PySem.W.Frag} {h : Heap} {mg : Str → Option Value} {fa : Addr} (X : K.In h) (G : h.Ns mainGlobals mg) (hfa : mg "law" = some (.ref fa))
    {f0 f1 f2 f3 f4 f5 f6 f7 f8 f9 f10 f11 f12 f13 f14 t_WORDS : Addr} {od0 an0 od1 an1 od2 an2 od3 an3 od4 an4 od5 an5 od6 an6 od7 an7 od8 an8 od9 an9 od10 an10 od11 an11 od12 an12 od13 an13 od14 an14 : Option Addr} {sl0 sl1 sl2 sl3 sl4 sl5 sl6 sl7 sl8 sl9 sl10 sl11 sl12 sl13 sl14 : Array (Option Value)} {oc0 kV0 dc0 pm0 cd0 ct0 oc1 kV1 dc1 pm1 cd1 ct1 oc2 kV2 dc2 pm2 cd2 ct2 oc3 kV3 dc3 pm3 cd3 ct3 oc4 kV4 dc4 pm4 cd4 ct4 oc5 kV5 dc5 pm5 cd5 ct5 oc6 kV6 dc6 pm6 cd6 ct6 oc7 kV7 dc7 pm7 cd7 ct7 oc8 kV8 dc8 pm8 cd8 ct8 oc9 kV9 dc9 pm9 cd9 ct9 oc10 kV10 dc10 pm10 cd10 ct10 oc11 kV11 dc11 pm11 cd11 ct11 oc12 kV12 dc12 pm12 cd12 ct12 oc13 kV13 dc13 pm13 cd13 ct13 oc14 kV14 dc14 pm14 cd14 ct14 : Value}
    (a0 : PySem.W.nsIn K mainGlobals "is_whole" = some (some (.ref f0)))
    (l0 : K.lookup f0 = some ⟨oc0, od0, .func (PySem.W.fnOf "is_whole" "is_whole" (defArgs s_is_whole) (defBody s_is_whole) (defScope s_is_whole) .none kV0 dc0 pm0 an0 cd0 ct0), sl0⟩) (d0 : PySem.W.codeIn K cd0 "is_whole" = true) (k0 : PySem.W.keepIn K (.ref f0) = true) (v0 : kV0 = .none)
    (a1 : PySem.W.nsIn K mainGlobals "is_row" = some (some (.ref f1)))
    (l1 : K.lookup f1 = some ⟨oc1, od1, .func (PySem.W.fnOf "is_row" "is_row" (defArgs s_is_row) (defBody s_is_row) (defScope s_is_row) .none kV1 dc1 pm1 an1 cd1 ct1), sl1⟩) (d1 : PySem.W.codeIn K cd1 "is_row" = true) (k1 : PySem.W.keepIn K (.ref f1) = true) (v1 : kV1 = .none)
    (a2 : PySem.W.nsIn K mainGlobals "is_history" = some (some (.ref f2)))
    (l2 : K.lookup f2 = some ⟨oc2, od2, .func (PySem.W.fnOf "is_history" "is_history" (defArgs s_is_history) (defBody s_is_history) (defScope s_is_history) .none kV2 dc2 pm2 an2 cd2 ct2), sl2⟩) (d2 : PySem.W.codeIn K cd2 "is_history" = true) (k2 : PySem.W.keepIn K (.ref f2) = true) (v2 : kV2 = .none)
    (a3 : PySem.W.nsIn K mainGlobals "_law_deck" = some (some (.ref f3)))
    (l3 : K.lookup f3 = some ⟨oc3, od3, .func (PySem.W.fnOf "_law_deck" "_law_deck" (defArgs s__law_deck) (defBody s__law_deck) (defScope s__law_deck) .none kV3 dc3 pm3 an3 cd3 ct3), sl3⟩) (d3 : PySem.W.codeIn K cd3 "_law_deck" = true) (k3 : PySem.W.keepIn K (.ref f3) = true) (v3 : kV3 = .none)
    (a4 : PySem.W.nsIn K mainGlobals "_law_draw" = some (some (.ref f4)))
    (l4 : K.lookup f4 = some ⟨oc4, od4, .func (PySem.W.fnOf "_law_draw" "_law_draw" (defArgs s__law_draw) (defBody s__law_draw) (defScope s__law_draw) .none kV4 dc4 pm4 an4 cd4 ct4), sl4⟩) (d4 : PySem.W.codeIn K cd4 "_law_draw" = true) (k4 : PySem.W.keepIn K (.ref f4) = true) (v4 : kV4 = .none)
    (a5 : PySem.W.nsIn K mainGlobals "_law_pick" = some (some (.ref f5)))
    (l5 : K.lookup f5 = some ⟨oc5, od5, .func (PySem.W.fnOf "_law_pick" "_law_pick" (defArgs s__law_pick) (defBody s__law_pick) (defScope s__law_pick) .none kV5 dc5 pm5 an5 cd5 ct5), sl5⟩) (d5 : PySem.W.codeIn K cd5 "_law_pick" = true) (k5 : PySem.W.keepIn K (.ref f5) = true) (v5 : kV5 = .none)
    (a6 : PySem.W.nsIn K mainGlobals "_law_odd" = some (some (.ref f6)))
    (l6 : K.lookup f6 = some ⟨oc6, od6, .func (PySem.W.fnOf "_law_odd" "_law_odd" (defArgs s__law_odd) (defBody s__law_odd) (defScope s__law_odd) .none kV6 dc6 pm6 an6 cd6 ct6), sl6⟩) (d6 : PySem.W.codeIn K cd6 "_law_odd" = true) (k6 : PySem.W.keepIn K (.ref f6) = true) (v6 : kV6 = .none)
    (a7 : PySem.W.nsIn K mainGlobals "_law_spoilt" = some (some (.ref f7)))
    (l7 : K.lookup f7 = some ⟨oc7, od7, .func (PySem.W.fnOf "_law_spoilt" "_law_spoilt" (defArgs s__law_spoilt) (defBody s__law_spoilt) (defScope s__law_spoilt) .none kV7 dc7 pm7 an7 cd7 ct7), sl7⟩) (d7 : PySem.W.codeIn K cd7 "_law_spoilt" = true) (k7 : PySem.W.keepIn K (.ref f7) = true) (v7 : kV7 = .none)
    (a8 : PySem.W.nsIn K mainGlobals "_law_is_number" = some (some (.ref f8)))
    (l8 : K.lookup f8 = some ⟨oc8, od8, .func (PySem.W.fnOf "_law_is_number" "_law_is_number" (defArgs s__law_is_number) (defBody s__law_is_number) (defScope s__law_is_number) .none kV8 dc8 pm8 an8 cd8 ct8), sl8⟩) (d8 : PySem.W.codeIn K cd8 "_law_is_number" = true) (k8 : PySem.W.keepIn K (.ref f8) = true) (v8 : kV8 = .none)
    (a9 : PySem.W.nsIn K mainGlobals "_law_is_row" = some (some (.ref f9)))
    (l9 : K.lookup f9 = some ⟨oc9, od9, .func (PySem.W.fnOf "_law_is_row" "_law_is_row" (defArgs s__law_is_row) (defBody s__law_is_row) (defScope s__law_is_row) .none kV9 dc9 pm9 an9 cd9 ct9), sl9⟩) (d9 : PySem.W.codeIn K cd9 "_law_is_row" = true) (k9 : PySem.W.keepIn K (.ref f9) = true) (v9 : kV9 = .none)
    (a10 : PySem.W.nsIn K mainGlobals "_law_is_due" = some (some (.ref f10)))
    (l10 : K.lookup f10 = some ⟨oc10, od10, .func (PySem.W.fnOf "_law_is_due" "_law_is_due" (defArgs s__law_is_due) (defBody s__law_is_due) (defScope s__law_is_due) .none kV10 dc10 pm10 an10 cd10 ct10), sl10⟩) (d10 : PySem.W.codeIn K cd10 "_law_is_due" = true) (k10 : PySem.W.keepIn K (.ref f10) = true) (v10 : kV10 = .none)
    (a11 : PySem.W.nsIn K mainGlobals "_law_a_row" = some (some (.ref f11)))
    (l11 : K.lookup f11 = some ⟨oc11, od11, .func (PySem.W.fnOf "_law_a_row" "_law_a_row" (defArgs s__law_a_row) (defBody s__law_a_row) (defScope s__law_a_row) .none kV11 dc11 pm11 an11 cd11 ct11), sl11⟩) (d11 : PySem.W.codeIn K cd11 "_law_a_row" = true) (k11 : PySem.W.keepIn K (.ref f11) = true) (v11 : kV11 = .none)
    (a12 : PySem.W.nsIn K mainGlobals "_law_edges" = some (some (.ref f12)))
    (l12 : K.lookup f12 = some ⟨oc12, od12, .func (PySem.W.fnOf "_law_edges" "_law_edges" (defArgs s__law_edges) (defBody s__law_edges) (defScope s__law_edges) .none kV12 dc12 pm12 an12 cd12 ct12), sl12⟩) (d12 : PySem.W.codeIn K cd12 "_law_edges" = true) (k12 : PySem.W.keepIn K (.ref f12) = true) (v12 : kV12 = .none)
    (a13 : PySem.W.nsIn K mainGlobals "_law_right" = some (some (.ref f13)))
    (l13 : K.lookup f13 = some ⟨oc13, od13, .func (PySem.W.fnOf "_law_right" "_law_right" (defArgs s__law_right) (defBody s__law_right) (defScope s__law_right) .none kV13 dc13 pm13 an13 cd13 ct13), sl13⟩) (d13 : PySem.W.codeIn K cd13 "_law_right" = true) (k13 : PySem.W.keepIn K (.ref f13) = true) (v13 : kV13 = .none)
    (a14 : PySem.W.nsIn K mainGlobals "law" = some (some (.ref f14)))
    (l14 : K.lookup f14 = some ⟨oc14, od14, .func (PySem.W.fnOf "law" "law" (defArgs s_law) (defBody s_law) (defScope s_law) .none kV14 dc14 pm14 an14 cd14 ct14), sl14⟩) (d14 : PySem.W.codeIn K cd14 "law" = true) (k14 : PySem.W.keepIn K (.ref f14) = true) (v14 : kV14 = .none)
    (z_all : PySem.W.nsIn K mainGlobals "all" = some none)
    (z_bool : PySem.W.nsIn K mainGlobals "bool" = some none)
    (z_int : PySem.W.nsIn K mainGlobals "int" = some none)
    (z_isinstance : PySem.W.nsIn K mainGlobals "isinstance" = some none)
    (z_len : PySem.W.nsIn K mainGlobals "len" = some none)
    (z_list : PySem.W.nsIn K mainGlobals "list" = some none)
    (z_min : PySem.W.nsIn K mainGlobals "min" = some none)
    (z_range : PySem.W.nsIn K mainGlobals "range" = some none)
    (z_repr : PySem.W.nsIn K mainGlobals "repr" = some none)
    (z_str : PySem.W.nsIn K mainGlobals "str" = some none)
    (z_tuple : PySem.W.nsIn K mainGlobals "tuple" = some none)
    {tk_MOST_CONTENT : Tok} (y_MOST_CONTENT : PySem.W.nsIn K mainGlobals "MOST_CONTENT" = some (some (.int (999999) tk_MOST_CONTENT)))
    {tk_PARTS : Tok} (y_PARTS : PySem.W.nsIn K mainGlobals "PARTS" = some (some (.int (5) tk_PARTS)))
    (y_WORDS : PySem.W.nsIn K mainGlobals "WORDS" = some (some (.ref t_WORDS))) {tk0_WORDS tk1_WORDS : Tok} {oT_WORDS : Option Addr} {nT_WORDS : Nat} {sT_WORDS : Array (Option Value)} (lt_WORDS : K.lookup t_WORDS = some ⟨.type "tuple", oT_WORDS, .seq #[.str "read" tk0_WORDS, .str "write" tk1_WORDS] nT_WORDS, sT_WORDS⟩)
    : ∃ (fd : FuncData) (g : Gam), g.K = K ∧ (∀ (s : Shared) (u : Value), BindsTo s fd ⟨[u], []⟩ [("_law_script", u)]) ∧ ∀ base : Heap, K.In base → base.Ns mainGlobals mg → FnG l.prog w K mg base 17 fa fd ["_law_script"] (spD g 1 m_law) := by
  have e := hfa.symm.trans (PySem.W.mg_of X G a14)
  cases e
  subst v0
  subst v1
  subst v2
  subst v3
  subst v4
  subst v5
  subst v6
  subst v7
  subst v8
  subst v9
  subst v10
  subst v11
  subst v12
  subst v13
  subst v14
  let g : Gam := ⟨K, fun n => match n with | 0 => f0 | 1 => f1 | 2 => f2 | 3 => f3 | 4 => f4 | 5 => f5 | 6 => f6 | 7 => f7 | 8 => f8 | 9 => f9 | 10 => f10 | 11 => f11 | 12 => f12 | 13 => f13 | 14 => fa | 200 => t_WORDS | _ => fa, w⟩
  have T : Txt g mg := ⟨PySem.W.mg_none_of X G z_all,
    PySem.W.mg_none_of X G z_bool,
    PySem.W.mg_none_of X G z_int,
    PySem.W.mg_none_of X G z_isinstance,
    PySem.W.mg_none_of X G z_len,
    PySem.W.mg_none_of X G z_list,
    PySem.W.mg_none_of X G z_min,
    PySem.W.mg_none_of X G z_range,
    PySem.W.mg_none_of X G z_repr,
    PySem.W.mg_none_of X G z_str,
    PySem.W.mg_none_of X G z_tuple,
    ⟨_, PySem.W.mg_of X G y_MOST_CONTENT, _, rfl⟩,
    ⟨_, PySem.W.mg_of X G y_PARTS, _, rfl⟩,
    ⟨_, PySem.W.mg_of X G y_WORDS, rfl⟩,
    fun φ H => by simp only [RV]; exact ⟨_, [V.str "read", V.str "write"], rfl, .inr ⟨_, _, _, lt_WORDS, rfl, rfl, (by show (2 : Nat) ≤ _; decide), (.cons ⟨_, rfl⟩ (.cons ⟨_, rfl⟩ .nil))⟩, (RVs.cons (by simp [RV]) (RVs.cons (by simp [RV]) RVs.nil))⟩⟩
  have F0 : FunD g.K "is_whole" "is_whole" (defArgs s_is_whole) (defBody s_is_whole) (defScope s_is_whole) [] [] f0 _ := ⟨⟨oc0, od0, .none, .none, dc0, pm0, an0, cd0, ct0, sl0, rfl, l0, d0, .inl ⟨rfl, rfl⟩, .inl rfl⟩, k0⟩
  have F1 : FunD g.K "is_row" "is_row" (defArgs s_is_row) (defBody s_is_row) (defScope s_is_row) [] [] f1 _ := ⟨⟨oc1, od1, .none, .none, dc1, pm1, an1, cd1, ct1, sl1, rfl, l1, d1, .inl ⟨rfl, rfl⟩, .inl rfl⟩, k1⟩
  have F2 : FunD g.K "is_history" "is_history" (defArgs s_is_history) (defBody s_is_history) (defScope s_is_history) [] [] f2 _ := ⟨⟨oc2, od2, .none, .none, dc2, pm2, an2, cd2, ct2, sl2, rfl, l2, d2, .inl ⟨rfl, rfl⟩, .inl rfl⟩, k2⟩
  have F3 : FunD g.K "_law_deck" "_law_deck" (defArgs s__law_deck) (defBody s__law_deck) (defScope s__law_deck) [] [] f3 _ := ⟨⟨oc3, od3, .none, .none, dc3, pm3, an3, cd3, ct3, sl3, rfl, l3, d3, .inl ⟨rfl, rfl⟩, .inl rfl⟩, k3⟩
  have F4 : FunD g.K "_law_draw" "_law_draw" (defArgs s__law_draw) (defBody s__law_draw) (defScope s__law_draw) [] [] f4 _ := ⟨⟨oc4, od4, .none, .none, dc4, pm4, an4, cd4, ct4, sl4, rfl, l4, d4, .inl ⟨rfl, rfl⟩, .inl rfl⟩, k4⟩
  have F5 : FunD g.K "_law_pick" "_law_pick" (defArgs s__law_pick) (defBody s__law_pick) (defScope s__law_pick) [] [] f5 _ := ⟨⟨oc5, od5, .none, .none, dc5, pm5, an5, cd5, ct5, sl5, rfl, l5, d5, .inl ⟨rfl, rfl⟩, .inl rfl⟩, k5⟩
  have F6 : FunD g.K "_law_odd" "_law_odd" (defArgs s__law_odd) (defBody s__law_odd) (defScope s__law_odd) [] [] f6 _ := ⟨⟨oc6, od6, .none, .none, dc6, pm6, an6, cd6, ct6, sl6, rfl, l6, d6, .inl ⟨rfl, rfl⟩, .inl rfl⟩, k6⟩
  have F7 : FunD g.K "_law_spoilt" "_law_spoilt" (defArgs s__law_spoilt) (defBody s__law_spoilt) (defScope s__law_spoilt) [] [] f7 _ := ⟨⟨oc7, od7, .none, .none, dc7, pm7, an7, cd7, ct7, sl7, rfl, l7, d7, .inl ⟨rfl, rfl⟩, .inl rfl⟩, k7⟩
  have F8 : FunD g.K "_law_is_number" "_law_is_number" (defArgs s__law_is_number) (defBody s__law_is_number) (defScope s__law_is_number) [] [] f8 _ := ⟨⟨oc8, od8, .none, .none, dc8, pm8, an8, cd8, ct8, sl8, rfl, l8, d8, .inl ⟨rfl, rfl⟩, .inl rfl⟩, k8⟩
  have F9 : FunD g.K "_law_is_row" "_law_is_row" (defArgs s__law_is_row) (defBody s__law_is_row) (defScope s__law_is_row) [] [] f9 _ := ⟨⟨oc9, od9, .none, .none, dc9, pm9, an9, cd9, ct9, sl9, rfl, l9, d9, .inl ⟨rfl, rfl⟩, .inl rfl⟩, k9⟩
  have F10 : FunD g.K "_law_is_due" "_law_is_due" (defArgs s__law_is_due) (defBody s__law_is_due) (defScope s__law_is_due) [] [] f10 _ := ⟨⟨oc10, od10, .none, .none, dc10, pm10, an10, cd10, ct10, sl10, rfl, l10, d10, .inl ⟨rfl, rfl⟩, .inl rfl⟩, k10⟩
  have F11 : FunD g.K "_law_a_row" "_law_a_row" (defArgs s__law_a_row) (defBody s__law_a_row) (defScope s__law_a_row) [] [] f11 _ := ⟨⟨oc11, od11, .none, .none, dc11, pm11, an11, cd11, ct11, sl11, rfl, l11, d11, .inl ⟨rfl, rfl⟩, .inl rfl⟩, k11⟩
  have F12 : FunD g.K "_law_edges" "_law_edges" (defArgs s__law_edges) (defBody s__law_edges) (defScope s__law_edges) [] [] f12 _ := ⟨⟨oc12, od12, .none, .none, dc12, pm12, an12, cd12, ct12, sl12, rfl, l12, d12, .inl ⟨rfl, rfl⟩, .inl rfl⟩, k12⟩
  have F13 : FunD g.K "_law_right" "_law_right" (defArgs s__law_right) (defBody s__law_right) (defScope s__law_right) [] [] f13 _ := ⟨⟨oc13, od13, .none, .none, dc13, pm13, an13, cd13, ct13, sl13, rfl, l13, d13, .inl ⟨rfl, rfl⟩, .inl rfl⟩, k13⟩
  have F14 : FunD g.K "law" "law" (defArgs s_law) (defBody s_law) (defScope s_law) [] [] fa _ := ⟨⟨oc14, od14, .none, .none, dc14, pm14, an14, cd14, ct14, sl14, rfl, l14, d14, .inl ⟨rfl, rfl⟩, .inl rfl⟩, k14⟩
  have B0 : kb_is_whole g (PySem.W.fnOf "is_whole" "is_whole" (defArgs s_is_whole) (defBody s_is_whole) (defScope s_is_whole) .none .none dc0 pm0 an0 cd0 ct0) := ⟨[], .nil, fun s us ws X h1 h2 => match us, ws, h1, h2 with | [_], [], _, _ => .of_eq rfl⟩
  have B1 : kb_is_row g (PySem.W.fnOf "is_row" "is_row" (defArgs s_is_row) (defBody s_is_row) (defScope s_is_row) .none .none dc1 pm1 an1 cd1 ct1) := ⟨[], .nil, fun s us ws X h1 h2 => match us, ws, h1, h2 with | [_], [], _, _ => .of_eq rfl⟩
  have B2 : kb_is_history g (PySem.W.fnOf "is_history" "is_history" (defArgs s_is_history) (defBody s_is_history) (defScope s_is_history) .none .none dc2 pm2 an2 cd2 ct2) := ⟨⟨[], .nil, fun s us ws X h1 h2 => match us, ws, h1, h2 with | [_], [], _, _ => .of_eq rfl⟩,
    ⟨[], .nil, fun s us ws X h1 h2 => match us, ws, h1, h2 with | [], [_], _, _ => .of_eq rfl⟩⟩
  have B3 : kb__law_deck g (PySem.W.fnOf "_law_deck" "_law_deck" (defArgs s__law_deck) (defBody s__law_deck) (defScope s__law_deck) .none .none dc3 pm3 an3 cd3 ct3) := ⟨[], .nil, fun s us ws X h1 h2 => match us, ws, h1, h2 with | [_], [], _, _ => .of_eq rfl⟩
  have B4 : kb__law_draw g (PySem.W.fnOf "_law_draw" "_law_draw" (defArgs s__law_draw) (defBody s__law_draw) (defScope s__law_draw) .none .none dc4 pm4 an4 cd4 ct4) := ⟨[], .nil, fun s us ws X h1 h2 => match us, ws, h1, h2 with | [_, _], [], _, _ => .of_eq rfl⟩
  have B5 : kb__law_pick g (PySem.W.fnOf "_law_pick" "_law_pick" (defArgs s__law_pick) (defBody s__law_pick) (defScope s__law_pick) .none .none dc5 pm5 an5 cd5 ct5) := ⟨[], .nil, fun s us ws X h1 h2 => match us, ws, h1, h2 with | [_, _], [], _, _ => .of_eq rfl⟩
  have B6 : kb__law_odd g (PySem.W.fnOf "_law_odd" "_law_odd" (defArgs s__law_odd) (defBody s__law_odd) (defScope s__law_odd) .none .none dc6 pm6 an6 cd6 ct6) := ⟨[], .nil, fun s us ws X h1 h2 => match us, ws, h1, h2 with | [_, _], [], _, _ => .of_eq rfl⟩
  have B7 : kb__law_spoilt g (PySem.W.fnOf "_law_spoilt" "_law_spoilt" (defArgs s__law_spoilt) (defBody s__law_spoilt) (defScope s__law_spoilt) .none .none dc7 pm7 an7 cd7 ct7) := ⟨[], .nil, fun s us ws X h1 h2 => match us, ws, h1, h2 with | [_, _], [], _, _ => .of_eq rfl⟩
  have B8 : kb__law_is_number g (PySem.W.fnOf "_law_is_number" "_law_is_number" (defArgs s__law_is_number) (defBody s__law_is_number) (defScope s__law_is_number) .none .none dc8 pm8 an8 cd8 ct8) := ⟨[], .nil, fun s us ws X h1 h2 => match us, ws, h1, h2 with | [_], [], _, _ => .of_eq rfl⟩
  have B9 : kb__law_is_row g (PySem.W.fnOf "_law_is_row" "_law_is_row" (defArgs s__law_is_row) (defBody s__law_is_row) (defScope s__law_is_row) .none .none dc9 pm9 an9 cd9 ct9) := ⟨[], .nil, fun s us ws X h1 h2 => match us, ws, h1, h2 with | [_], [], _, _ => .of_eq rfl⟩
  have B10 : kb__law_is_due g (PySem.W.fnOf "_law_is_due" "_law_is_due" (defArgs s__law_is_due) (defBody s__law_is_due) (defScope s__law_is_due) .none .none dc10 pm10 an10 cd10 ct10) := ⟨[], .nil, fun s us ws X h1 h2 => match us, ws, h1, h2 with | [_], [], _, _ => .of_eq rfl⟩
  have B11 : kb__law_a_row g (PySem.W.fnOf "_law_a_row" "_law_a_row" (defArgs s__law_a_row) (defBody s__law_a_row) (defScope s__law_a_row) .none .none dc11 pm11 an11 cd11 ct11) := ⟨[], .nil, fun s us ws X h1 h2 => match us, ws, h1, h2 with | [_], [], _, _ => .of_eq rfl⟩
  have B12 : kb__law_edges g (PySem.W.fnOf "_law_edges" "_law_edges" (defArgs s__law_edges) (defBody s__law_edges) (defScope s__law_edges) .none .none dc12 pm12 an12 cd12 ct12) := ⟨[], .nil, fun s us ws X h1 h2 => match us, ws, h1, h2 with | [], [], _, _ => .of_eq rfl⟩
  have B13 : kb__law_right g (PySem.W.fnOf "_law_right" "_law_right" (defArgs s__law_right) (defBody s__law_right) (defScope s__law_right) .none .none dc13 pm13 an13 cd13 ct13) := ⟨[], .nil, fun s us ws X h1 h2 => match us, ws, h1, h2 with | [_], [], _, _ => .of_eq rfl⟩
  refine ⟨PySem.W.fnOf "law" "law" (defArgs s_law) (defBody s_law) (defScope s_law) .none .none dc14 pm14 an14 cd14 ct14, g, rfl, fun s u => .of_eq rfl, fun base _ _ => ?_⟩
  have C3 : Cal l.prog g.w base mg g 1 "_law_deck" 3 ps__law_deck m__law_deck (kb__law_deck g) := ⟨⟨_, ok__law_deck (g := g) T  F3, B3⟩, PySem.W.mg_of X G a3, k3⟩
  have C4 : Cal l.prog g.w base mg g 1 "_law_draw" 4 ps__law_draw m__law_draw (kb__law_draw g) := ⟨⟨_, ok__law_draw (g := g) T  F4, B4⟩, PySem.W.mg_of X G a4, k4⟩
  have C11 : Cal l.prog g.w base mg g 2 "_law_a_row" 11 ps__law_a_row m__law_a_row (kb__law_a_row g) := ⟨⟨_, ok__law_a_row (g := g) T C4 F11, B11⟩, PySem.W.mg_of X G a11, k11⟩
  have C0 : Cal l.prog g.w base mg g 1 "is_whole" 0 ps_is_whole m_is_whole (kb_is_whole g) := ⟨⟨_, ok_is_whole (g := g) T  F0, B0⟩, PySem.W.mg_of X G a0, k0⟩
  have C1 : Cal l.prog g.w base mg g 2 "is_row" 1 ps_is_row m_is_row (kb_is_row g) := ⟨⟨_, ok_is_row (g := g) T C0 F1, B1⟩, PySem.W.mg_of X G a1, k1⟩
  have C2 : Cal l.prog g.w base mg g 3 "is_history" 2 ps_is_history m_is_history (kb_is_history g) := ⟨⟨_, ok_is_history (g := g) T C1 F2, B2⟩, PySem.W.mg_of X G a2, k2⟩
  have C5 : Cal l.prog g.w base mg g 2 "_law_pick" 5 ps__law_pick m__law_pick (kb__law_pick g) := ⟨⟨_, ok__law_pick (g := g) T C4 F5, B5⟩, PySem.W.mg_of X G a5, k5⟩
  have C6 : Cal l.prog g.w base mg g 3 "_law_odd" 6 ps__law_odd m__law_odd (kb__law_odd g) := ⟨⟨_, ok__law_odd (g := g) T C5 F6, B6⟩, PySem.W.mg_of X G a6, k6⟩
  have C7 : Cal l.prog g.w base mg g 16 "_law_spoilt" 7 ps__law_spoilt (m__law_spoilt 12) (kb__law_spoilt g) := ⟨⟨_, ok__law_spoilt (g := g) T C4 C6 F7 B7 (PySem.W.mg_of X G a7) k7 12, B7⟩, PySem.W.mg_of X G a7, k7⟩
  have C12 : Cal l.prog g.w base mg g 1 "_law_edges" 12 ps__law_edges m__law_edges (kb__law_edges g) := ⟨⟨_, ok__law_edges (g := g) T  F12, B12⟩, PySem.W.mg_of X G a12, k12⟩
  have C8 : Cal l.prog g.w base mg g 1 "_law_is_number" 8 ps__law_is_number m__law_is_number (kb__law_is_number g) := ⟨⟨_, ok__law_is_number (g := g) T  F8, B8⟩, PySem.W.mg_of X G a8, k8⟩
  have C9 : Cal l.prog g.w base mg g 2 "_law_is_row" 9 ps__law_is_row m__law_is_row (kb__law_is_row g) := ⟨⟨_, ok__law_is_row (g := g) T C8 F9, B9⟩, PySem.W.mg_of X G a9, k9⟩
  have C10 : Cal l.prog g.w base mg g 3 "_law_is_due" 10 ps__law_is_due m__law_is_due (kb__law_is_due g) := ⟨⟨_, ok__law_is_due (g := g) T C9 F10, B10⟩, PySem.W.mg_of X G a10, k10⟩
  have C13 : Cal l.prog g.w base mg g 4 "_law_right" 13 ps__law_right m__law_right (kb__law_right g) := ⟨⟨_, ok__law_right (g := g) T C10 C2 F13, B13⟩, PySem.W.mg_of X G a13, k13⟩
  exact ok_law (g := g) T C3 C4 C11 C2 C7 C12 C13 F14

end DM

namespace DM
open PySem PySem.Spec PyProof.Rows L2
/-! the deck is a dict -/
theorem key_ct : ¬ (("cells" : Str) = "turn") := by decide +kernel
theorem key_st : ¬ (("seed" : Str) = "turn") := by decide +kernel
theorem key_cs : ¬ (("cells" : Str) = "seed") := by decide +kernel
abbrev kvB (s t : Int) : List (Key × DV) := [(.inr "cells", .ref 0), (.inr "seed", .int s), (.inr "turn", .int t)]
def db (xs : List Int) (s t : Int) (rest : DSt) : DSt := .lst (xs.map .int) :: .dct (kvB s t) :: rest
theorem val_turn (s t : Int) : valG (kvB s t) (.inr "turn") = some (.int t) := by
  simp [valG, kvB, key_ct, key_st]
theorem val_seed (s t : Int) : valG (kvB s t) (.inr "seed") = some (.int s) := by
  simp [valG, kvB, key_cs]
theorem val_cells (s t : Int) : valG (kvB s t) (.inr "cells") = some (.ref 0) := by
  simp [valG, kvB]
theorem put_turn (s t v : Int) : putG (kvB s t) (.inr "turn") (.int v) = kvB s v := by
  simp [putG, kvB, key_ct, key_st]
theorem merge_kvB (s t : Int) : mergeG [] (kvB s t) = kvB s t := by
  have h1 : ¬ (("seed" : Str) = "cells") := by decide +kernel
  have h2 : ¬ (("turn" : Str) = "cells") := by decide +kernel
  have h3 : ¬ (("turn" : Str) = "seed") := by decide +kernel
  simp [mergeG, putG, kvB, key_ct, key_st, key_cs, h1, h2, h3]
theorem dget_turn {xs : List Int} {s t : Int} {rest : DSt} {Q : DV → DSt → Prop} (q : Q (.int t) (db xs s t rest)) : wO (dgetP (.ref 1) (.str "turn") (db xs s t rest)) Q := w_dget (kvs := kvB s t) rfl (val_turn s t) q
theorem dget_seed {xs : List Int} {s t : Int} {rest : DSt} {Q : DV → DSt → Prop} (q : Q (.int s) (db xs s t rest)) : wO (dgetP (.ref 1) (.str "seed") (db xs s t rest)) Q := w_dget (kvs := kvB s t) rfl (val_seed s t) q
theorem dget_cells {xs : List Int} {s t : Int} {rest : DSt} {Q : DV → DSt → Prop} (q : Q (.ref 0) (db xs s t rest)) : wO (dgetP (.ref 1) (.str "cells") (db xs s t rest)) Q := w_dget (kvs := kvB s t) rfl (val_cells s t) q
theorem dput_turn {xs : List Int} {s t v : Int} {rest : DSt} : dputP (.ref 1) (.str "turn") (.int v) (db xs s t rest) = some (db xs s v rest) := by
  have e : dputP (.ref 1) (.str "turn") (.int v) (db xs s t rest) = if (kvB s t).length < sizeLine then some ((db xs s t rest).set 1 (.dct (putG (kvB s t) (.inr "turn") (.int v)))) else none := rfl
  rw [e, if_pos (by show 3 < sizeLine; decide), put_turn]
  rfl
set_option maxHeartbeats 4000000
local macro_rules | `(tactic| bv_omega) => `(tactic| repeat first
  | with_reducible refine ⟨_, dput_turn, ?_⟩
  | with_reducible apply dget_turn
  | with_reducible apply dget_seed
  | with_reducible apply dget_cells
  | ((with_reducible apply w_eVar); (· rfl))
  | with_reducible apply w_eC
  | with_reducible apply w_e2
  | with_reducible apply w_asCons
  | with_reducible apply w_asNil
  | with_reducible apply w_eCall
  | with_reducible apply w_addI
  | with_reducible apply w_subI
  | ((with_reducible apply w_mod); (· (first | decide | omega | assumption)))
  | ((with_reducible apply w_mulR); (· (constructor <;> omega)))
  | ((with_reducible apply w_mulF); (· (constructor <;> omega)))
  | ((with_reducible apply w_div); (· (constructor <;> omega)))
  | ((with_reducible apply w_divW); (· (constructor <;> omega)))
  | with_reducible apply w_eqI
  | with_reducible apply w_eqS
  | with_reducible apply w_neI
  | with_reducible apply w_neS
  | with_reducible apply w_leI
  | with_reducible apply w_ltI
  | with_reducible apply w_gtI
  | with_reducible apply w_geI
  | with_reducible apply w_seqAsg
  | with_reducible apply w_seqExpr
  | with_reducible apply w_seqIf
  | with_reducible apply w_seqNx
  | with_reducible apply w_seqSeq
  | with_reducible apply w_seqRet
  | with_reducible apply w_seqRetN
  | with_reducible apply w_seqBrk
  | with_reducible apply w_seqCont
  | with_reducible apply w_seqSet
  | with_reducible apply w_sRet
  | with_reducible apply w_sAsg
  | with_reducible apply w_sExpr
  | with_reducible apply w_sIf
  | with_reducible apply w_sNx
  | with_reducible apply w_sBrk
  | with_reducible apply w_sCont
  | with_reducible apply w_sRetN
  | with_reducible apply w_sSetIx
  | with_reducible apply w_bOf
  | with_reducible apply w_bAnd
  | with_reducible apply w_bOr
  | with_reducible apply w_bNot
  | with_reducible apply w_bYes
  | with_reducible apply w_eB
  | with_reducible apply w_eTup
  | with_reducible apply w_eLst
  | with_reducible apply w_eLstR
  | with_reducible apply w_e1
  | with_reducible apply w_eIf
  | with_reducible apply w_eAnd
  | with_reducible apply w_eOr
  | with_reducible apply w_eNot
  | with_reducible apply w_eChain
  | with_reducible apply w_eMet
  | with_reducible apply w_eSl
  | with_reducible apply w_oNone
  | with_reducible apply w_oSome
  | with_reducible apply w_eLc
  | with_reducible apply w_eLcR
  | with_reducible apply w_iSeqO
  | with_reducible apply iteT
  | with_reducible apply iteTr
  | with_reducible apply iteF
  | with_reducible apply iteNT
  | with_reducible apply iteNF
  | with_reducible refine ⟨.inr ⟨rfl, rfl⟩, ?_⟩
  | with_reducible refine ⟨.inl ⟨rfl, rfl⟩, ?_⟩
  | ((with_reducible apply w_pow); (· decide))
  | with_reducible apply w_iRngA
  | with_reducible apply w_iRngB
  | with_reducible apply w_seqWhile
  | with_reducible apply w_sWhile
  | with_reducible apply w_seqFor
  | with_reducible apply w_sFor
  | with_reducible apply w_forCons
  | with_reducible apply w_forNil
  | with_reducible apply w_eRg1
  | ((with_reducible apply w_rgL); (· (refine ⟨?_, ?_, ?_, ?_⟩ <;> omega)))
  | ((with_reducible apply w_rgT); (· (refine ⟨?_, ?_, ?_, ?_⟩ <;> omega)))
  | ((with_reducible apply w_rgR); (· (refine ⟨?_, ?_, ?_, ?_⟩ <;> omega)))
  | with_reducible apply w_eJoin
  | with_reducible apply w_jCons
  | with_reducible apply w_jNil
  | with_reducible apply qN_nx
  | with_reducible apply qN_rt
  | with_reducible apply qN_bk
  | with_reducible apply qN_ct
  | with_reducible apply qF_rt
  | with_reducible apply qF_nx
  | with_reducible apply qI_nx
  | with_reducible apply qI_ct
  | with_reducible apply qI_bk
  | with_reducible apply qI_rt
  | with_reducible apply w_eD0
  | with_reducible apply w_eDisp
  | with_reducible apply w_ksCons
  | with_reducible apply w_ksNil
  | (with_reducible refine ⟨_, rfl, ?_⟩; try simp only [List.set_cons_zero, List.set_cons_succ])
  | (with_reducible refine ⟨len_ok ?_, ?_⟩; (· (simp only [List.length_cons, List.length_nil]; omega)))
  | with_reducible refine ⟨⟨rfl, rfl⟩, ?_⟩
  | with_reducible apply w_isiS
  | with_reducible apply w_neNil0
  | with_reducible apply w_eqNil0
  | (with_reducible refine ⟨rngOk ?_ ?_, ?_⟩; (· omega); (· omega))
  | ((with_reducible apply w_some); (· (fail_if_success (with_reducible apply repr_stop)); rfl)))

def Db (n : Nat) (rest : DSt) (st : DSt) : Prop := ∃ (xs : List Int) (s t : Int), xs.length ≤ 63 ∧ 0 ≤ t ∧ t ≤ (n : Int) ∧ 0 ≤ s ∧ s < 2147483587 ∧ st = db xs s t rest
theorem Db.mono {n m : Nat} {rest st : DSt} (h : Db n rest st) (hl : n ≤ m) : Db m rest st := by
  obtain ⟨xs, s, t, h1, h2, h3, h4⟩ := h
  exact ⟨xs, s, t, h1, h2, by omega, h4⟩
theorem Db.more {n : Nat} {rest st : DSt} (h : Db n rest st) (o : DO) : Db n (rest ++ [o]) (st ++ [o]) := by
  obtain ⟨xs, s, t, h1, h2, h3, h4, h5, rfl⟩ := h
  exact ⟨xs, s, t, h1, h2, h3, h4, h5, rfl⟩
theorem Db.len {n : Nat} {rest st : DSt} (h : Db n rest st) : st.length = rest.length + 2 := by
  obtain ⟨xs, s, t, h1, h2, h3, h4, h5, rfl⟩ := h
  simp [db]
theorem ne_db {xs : List Int} {s t : Int} {rest : DSt} {Q : DV → DSt → Prop} (q : Q (.bl (decide (xs ≠ []))) (db xs s t rest)) : wO (neP (.ref 0) (.lst []) (db xs s t rest)) Q := by
  refine w_some (d := .bl (decide (xs ≠ []))) (s := db xs s t rest) ?_ q
  have e1 : pyD (db xs s t rest) (.ref 0) = some (.list (xs.map .int)) := by
    show (pyVs (xs.map .int)).map PyData.list = _
    rw [pyVs_ints]
    rfl
  have h1 : SeqAt.shaped (.list (xs.map .int)) = true := by
    simp [SeqAt.shaped, PyData.canLay0, canLay_ints, PyData.depth, depth_ints]
  have e3 : eqB (db xs s t rest) (.ref 0) (.lst []) = some (PyData.eqv (.list (xs.map .int)) (.list [])) := by
    have h2 : SeqAt.shaped (.list []) = true := by decide
    have e2 : pyD (db xs s t rest) (.lst []) = some (.list []) := rfl
    show (pyD (db xs s t rest) (.ref 0)).bind _ = _
    rw [e1, Option.bind_some, e2, Option.bind_some, h1, h2]
    rfl
  unfold neP
  rw [e3]
  cases xs with
  | nil => rfl
  | cons x xs => rfl
theorem pop_db {ys : List Int} {y s t : Int} {rest : DSt} {Q : DV → DSt → Prop} (q : Q (.int y) (db ys s t rest)) : wO (popP (.ref 0) [] (db (ys ++ [y]) s t rest)) Q := by
  refine w_some (d := .int y) (s := db ys s t rest) ?_ q
  simp [popP, lstAt, db]
theorem app_db {ys : List Int} {y s t : Int} {rest : DSt} {Q : DV → DSt → Prop} (hl : ys.length ≤ 63) (q : Q .non (db (ys ++ [y]) s t rest)) : wO (appendP (.ref 0) [.int y] (db ys s t rest)) Q := by
  refine w_some (d := .non) (s := db (ys ++ [y]) s t rest) ?_ q
  have : ys.length < sizeLine := Nat.lt_of_le_of_lt hl (by decide)
  simp [appendP, lstAt, db, this]
theorem draw_ok {n : Nat} {rest st : DSt} {top : Int} {Q : DV → DSt → Prop} (hD : Db n rest st) (h1 : 1 ≤ top) (h2 : top < 2 ^ 40) (hc : n < 2 ^ 40)
    (q : ∀ i st', 0 ≤ i → i < top → Db (n + 1) rest st' → Q (.int i) st') : wR (m__law_draw [.ref 1, .int top] st) Q := by
  obtain ⟨xs, s, t, hx, t0, tn, s0, s1, rfl⟩ := hD
  unfold m__law_draw
  refine w_fn ?_
  unfold b__law_draw
  simp only [List.map_cons, List.map_nil, List.length_cons, List.length_nil, List.cons_append, List.nil_append, List.reduceReplicate, Nat.reduceAdd, Nat.reduceSub]
  bv_omega
  refine ne_db ?_
  refine ⟨_, rfl, ite_d (fun h => ?_) (fun h => ?_)⟩
  · obtain ⟨ys, y, rfl⟩ : ∃ ys y, xs = ys ++ [y] := ⟨_, _, (List.dropLast_concat_getLast h).symm⟩
    bv_omega
    refine pop_db ?_
    bv_omega
    refine ite_d (fun h => ?_) (fun h => ?_)
    · bv_omega
      refine app_db (by simp at hx; omega) ?_
      bv_omega
      refine q _ _ (Int.emod_nonneg _ (by omega)) (Int.emod_lt_of_pos _ (by omega)) ⟨_, _, t + 1, ?_, by omega, by omega, s0, s1, rfl⟩
      simpa using hx
    · bv_omega
      refine q _ _ (Int.emod_nonneg _ (by omega)) (Int.emod_lt_of_pos _ (by omega)) ⟨_, _, t + 1, ?_, by omega, by omega, s0, s1, rfl⟩
      simp at hx
      omega
  · bv_omega
    exact q _ _ (Int.emod_nonneg _ (by omega)) (Int.emod_lt_of_pos _ (by omega)) ⟨_, _, t + 1, hx, by omega, by omega, s0, s1, rfl⟩
theorem deck_ok {ns : List Int} {Q : DV → DSt → Prop} (q : ∀ st, Db 0 [] st → Q (.ref 1) st) : wR (m__law_deck [.fzl (ns.map .int)] []) Q := by
  unfold m__law_deck
  refine w_fn ?_
  unfold b__law_deck
  simp only [List.map_cons, List.map_nil, List.length_cons, List.length_nil, List.cons_append, List.nil_append, List.reduceReplicate, Nat.reduceAdd, Nat.reduceSub]
  bv_omega
  have hc : cutL (ns.map DV.int) none (some 63) = (ns.take 63).map DV.int := by
    have e : (63 : Int) = ((63 : Nat) : Int) := rfl
    simp only [cutL, HT.sIx_none, List.drop_zero, Nat.sub_zero, List.length_map]
    rw [e, HT.sIx_nat, List.map_take]
    by_cases h : 63 ≤ ns.length
    · rw [Nat.min_eq_left h]
    · rw [Nat.min_eq_right (by omega), List.take_of_length_le (by simp), List.take_of_length_le (by simp; omega)]
  rw [hc]
  refine for_inv (fun ds e s => ∃ (t : Int) (x : Option DV), 0 ≤ t ∧ t < 2147483587 ∧ s = [] ∧ (∀ d ∈ ds, ∃ i, d = .int i) ∧ e = [some (.fzl (ns.map .int)), some (.lst ((ns.take 63).map .int)), some (.int t), x]) ?_ ?_ ((ns.take 63).map .int) _ _ ⟨60013, none, by decide, by decide, rfl, fun d hd => ?_, rfl⟩
  · rintro d ds e s ⟨t, x, t0, t1, rfl, hd, rfl⟩
    obtain ⟨i, rfl⟩ := hd d List.mem_cons_self
    refine ⟨_, rfl, ?_⟩
    bv_omega
    exact ⟨_, _, Int.emod_nonneg _ (by decide), Int.emod_lt_of_pos _ (by decide), rfl, fun d h => hd d (List.mem_cons_of_mem _ h), rfl⟩
  · rintro e s ⟨t, x, t0, t1, rfl, hd, rfl⟩
    bv_omega
    refine ⟨by show 3 ≤ 15; decide, ?_⟩
    bv_omega
    refine q _ ⟨(ns.take 63).reverse, t, 0, by simp; omega, by decide, by decide, t0, t1, ?_⟩
    have e := merge_kvB t 0
    simp only [db, kvB] at e ⊢
    rw [← e]
    simp
  · obtain ⟨i, _, rfl⟩ := List.mem_map.mp hd
    exact ⟨i, rfl⟩
theorem rng_step {K : Int} {t : Nat} {d : DV} {ds : List DV} (h : d :: ds = (rng1 K).drop t) : d = .int (t : Int) ∧ ds = (rng1 K).drop (t + 1) ∧ (t : Int) < K := by
  have hl : t < (rng1 K).length := by
    rcases Nat.lt_or_ge t (rng1 K).length with h1 | h1
    · exact h1
    · rw [List.drop_eq_nil_of_le h1] at h; cases h
  rw [List.drop_eq_getElem_cons hl] at h
  simp only [List.cons.injEq] at h
  have h2 : t < K.toNat := by simpa [rng1] using hl
  refine ⟨?_, h.2, by omega⟩
  rw [h.1]
  simp [rng1]
theorem rng_done {K : Int} {t : Nat} (h : [] = (rng1 K).drop t) : K ≤ t := by
  have := congrArg List.length h
  simp [rng1] at this
  omega
theorem Db.at_ {n : Nat} {rest st : DSt} {p : Nat} (D : Db n rest st) : st[p + 2]? = rest[p]? := by
  obtain ⟨xs, s, t, _, _, _, _, _, rfl⟩ := D
  rfl
theorem Db.set {n : Nat} {rest st : DSt} {p : Nat} (D : Db n rest st) (x : DO) : Db n (rest.set p x) (st.set (p + 2) x) := by
  obtain ⟨xs, s, t, h1, h2, h3, h4, h5, rfl⟩ := D
  exact ⟨xs, s, t, h1, h2, h3, h4, h5, rfl⟩
theorem Db.ext {n : Nat} {rest st : DSt} : ∀ (ext : DSt), Db n rest st → Db n (rest ++ ext) (st ++ ext)
  | [], D => by simpa using D
  | o :: ext, D => by
    have := Db.ext ext (D.more o)
    simpa using this
section
variable {n : Nat} {rest st : DSt} {Q : DV → DSt → Prop}
theorem seq_at {p : Nat} {as : List DV} (D : Db n rest st) (h : rest[p]? = some (.lst as)) : (seqOf st (.ref (p + 2))).isSome = true := by
  simp only [seqOf, D.at_, h]
  rfl
theorem app_at {p : Nat} {as : List DV} {d : DV} (D : Db n rest st) (h : rest[p]? = some (.lst as)) (hl : as.length < 1000) (q : ∀ st', Db n (rest.set p (.lst (as ++ [d]))) st' → Q .non st') : wO (appendP (.ref (p + 2)) [d] st) Q := by
  refine w_some (d := .non) (s := st.set (p + 2) (.lst (as ++ [d]))) ?_ (q _ (D.set _))
  have : as.length < sizeLine := Nat.lt_trans hl (by decide)
  simp only [appendP, lstAt, D.at_, h, Option.bind_some, if_pos this]
theorem w_max2 {i j : Int} (q : Q (.int (if j > i then j else i)) st) : wO (max2P [.int i, .int j] st) Q := w_some rfl q
theorem w_ixM {ds : List DV} {i : Int} {st : DSt} {Q : DV → DSt → Prop} (h0 : 0 ≤ i) (h1 : i < ds.length) (q : ∀ d ∈ ds, Q d st) : wO (ixP (.lst ds) (.int i) st) Q := by
  obtain ⟨k, rfl⟩ := Int.eq_ofNat_of_zero_le h0
  have hk : k < ds.length := by omega
  exact w_ixL (List.getElem?_eq_getElem hk) (q _ (List.getElem_mem hk))
theorem w_ifX {c : Prop} [Decidable c] {a b : Ex} {env : DEnv} {K : DV → DSt → Prop} (P : DV → DSt → Prop) (ha : c → wR (a env st) P) (hb : ¬ c → wR (b env st) P) (hk : ∀ d s, P d s → K d s) : if c then wR (a env st) K else wR (b env st) K := by
  by_cases h : c
  · rw [if_pos h]; exact wR_mono (ha h) hk
  · rw [if_neg h]; exact wR_mono (hb h) hk
theorem w_ixT {ds : List DV} {d : DV} {i : Nat} (h : ds[i]? = some d) (q : Q d st) : wO (ixP (.tup ds) (.int (i : Nat)) st) Q := w_some (by simp [ixP, L2.atI_nat h]) q
variable {ds : List DV}
theorem cut_mem {lo hi : Option Int} {x : DV} (h : x ∈ cutL ds lo hi) : x ∈ ds := List.mem_of_mem_drop (List.mem_of_mem_take h)
theorem cut_to (j : Nat) : cutL ds none (some (j : Int)) = ds.take j := by
  unfold cutL
  rw [HT.sIx_none, HT.sIx_nat]
  simp only [List.drop_zero, Nat.sub_zero]
  by_cases h : j ≤ ds.length
  · rw [Nat.min_eq_left h]
  · rw [Nat.min_eq_right (by omega), List.take_of_length_le (by omega), List.take_of_length_le (by omega)]
theorem cut_from (j : Nat) : cutL ds (some (j : Int)) none = ds.drop j := by
  unfold cutL
  rw [HT.sIx_none, HT.sIx_nat]
  by_cases h : j ≤ ds.length
  · rw [Nat.min_eq_left h, List.take_of_length_le (by rw [List.length_drop]; omega)]
  · rw [Nat.min_eq_right (by omega), List.drop_of_length_le (by omega), List.drop_of_length_le (by omega)]
    simp
end
end DM

namespace DM
open PySem PySem.Spec PyProof.Rows L2
set_option maxHeartbeats 4000000
local macro_rules | `(tactic| bv_omega) => `(tactic| repeat first
  | ((with_reducible apply w_addT); (· decide))
  | with_reducible refine ⟨_, dput_turn, ?_⟩
  | with_reducible apply dget_turn
  | with_reducible apply dget_seed
  | with_reducible apply dget_cells
  | ((with_reducible apply w_eVar); (· rfl))
  | with_reducible apply w_eC
  | with_reducible apply w_e2
  | with_reducible apply w_asCons
  | with_reducible apply w_asNil
  | with_reducible apply w_eCall
  | with_reducible apply w_addI
  | with_reducible apply w_subI
  | ((with_reducible apply w_mod); (· (first | decide | omega | assumption)))
  | ((with_reducible apply w_mulR); (· (constructor <;> omega)))
  | ((with_reducible apply w_mulF); (· (constructor <;> omega)))
  | ((with_reducible apply w_div); (· (constructor <;> omega)))
  | ((with_reducible apply w_divW); (· (constructor <;> omega)))
  | with_reducible apply w_eqI
  | with_reducible apply w_eqS
  | with_reducible apply w_neI
  | with_reducible apply w_neS
  | with_reducible apply w_leI
  | with_reducible apply w_ltI
  | with_reducible apply w_gtI
  | with_reducible apply w_geI
  | with_reducible apply w_seqAsg
  | with_reducible apply w_seqExpr
  | with_reducible apply w_seqIf
  | with_reducible apply w_seqNx
  | with_reducible apply w_seqSeq
  | with_reducible apply w_seqRet
  | with_reducible apply w_seqRetN
  | with_reducible apply w_seqBrk
  | with_reducible apply w_seqCont
  | with_reducible apply w_seqSet
  | with_reducible apply w_sRet
  | with_reducible apply w_sAsg
  | with_reducible apply w_sExpr
  | with_reducible apply w_sIf
  | with_reducible apply w_sNx
  | with_reducible apply w_sBrk
  | with_reducible apply w_sCont
  | with_reducible apply w_sRetN
  | with_reducible apply w_sSetIx
  | with_reducible apply w_bOf
  | with_reducible apply w_bAnd
  | with_reducible apply w_bOr
  | with_reducible apply w_bNot
  | with_reducible apply w_bYes
  | with_reducible apply w_eB
  | with_reducible apply w_eTup
  | with_reducible apply w_eLst
  | with_reducible apply w_eLstR
  | with_reducible apply w_e1
  | with_reducible apply w_eIf
  | with_reducible apply w_eAnd
  | with_reducible apply w_eOr
  | with_reducible apply w_eNot
  | with_reducible apply w_eChain
  | with_reducible apply w_eMet
  | with_reducible apply w_eSl
  | with_reducible apply w_oNone
  | with_reducible apply w_oSome
  | with_reducible apply w_eLc
  | with_reducible apply w_eLcR
  | with_reducible apply w_iSeqO
  | with_reducible apply iteT
  | with_reducible apply iteTr
  | with_reducible apply iteF
  | with_reducible apply iteNT
  | with_reducible apply iteNF
  | with_reducible refine ⟨.inr ⟨rfl, rfl⟩, ?_⟩
  | with_reducible refine ⟨.inl ⟨rfl, rfl⟩, ?_⟩
  | ((with_reducible apply w_pow); (· decide))
  | with_reducible apply w_iRngA
  | with_reducible apply w_iRngB
  | with_reducible apply w_seqWhile
  | with_reducible apply w_sWhile
  | with_reducible apply w_seqFor
  | with_reducible apply w_sFor
  | with_reducible apply w_forCons
  | with_reducible apply w_forNil
  | with_reducible apply w_eRg1
  | ((with_reducible apply w_rgL); (· (refine ⟨?_, ?_, ?_, ?_⟩ <;> omega)))
  | ((with_reducible apply w_rgT); (· (refine ⟨?_, ?_, ?_, ?_⟩ <;> omega)))
  | ((with_reducible apply w_rgR); (· (refine ⟨?_, ?_, ?_, ?_⟩ <;> omega)))
  | with_reducible apply w_eJoin
  | with_reducible apply w_jCons
  | with_reducible apply w_jNil
  | with_reducible apply qN_nx
  | with_reducible apply qN_rt
  | with_reducible apply qN_bk
  | with_reducible apply qN_ct
  | with_reducible apply qF_rt
  | with_reducible apply qF_nx
  | with_reducible apply qI_nx
  | with_reducible apply qI_ct
  | with_reducible apply qI_bk
  | with_reducible apply qI_rt
  | with_reducible apply w_eD0
  | with_reducible apply w_eDisp
  | with_reducible apply w_ksCons
  | with_reducible apply w_ksNil
  | (with_reducible refine ⟨_, rfl, ?_⟩; try simp only [List.set_cons_zero, List.set_cons_succ])
  | (with_reducible refine ⟨len_ok ?_, ?_⟩; (· (simp only [List.length_cons, List.length_nil]; omega)))
  | with_reducible refine ⟨⟨rfl, rfl⟩, ?_⟩
  | with_reducible apply w_isiS
  | with_reducible apply w_neNil0
  | with_reducible apply w_eqNil0
  | (with_reducible refine ⟨rngOk ?_ ?_, ?_⟩; (· omega); (· omega))
  | ((with_reducible apply w_some); (· (fail_if_success (with_reducible apply repr_stop)); rfl)))

/-! ### nested data whose references point at empty dicts -/
mutual
def wd (st : DSt) (k : Int) : DV → Prop
  | .tup ds => wds st k ds
  | .lst ds => wds st k ds
  | .ref n => st[n]? = some (.dct [])
  | .int j => -(10 ^ 39) - k ≤ j ∧ j ≤ 10 ^ 39 + k
  | .str s => s.cps.size ≤ 150 ∧ s.cps.toList.all (fun c => decide (c < 1114112)) = true
  | .non => True
  | .bl _ => True
  | .fzl _ => False
  | .glo _ => False
  | .ty _ => False
def wds (st : DSt) (k : Int) : List DV → Prop
  | [] => True
  | d :: ds => wd st k d ∧ wds st k ds
end
mutual
def bk : DV → Nat
  | .tup ds => bks ds
  | .lst ds => bks ds
  | .str s => s.cps.size
  | .fzl _ => 0
  | .ref _ => 0
  | .int _ => 0
  | .non => 0
  | .bl _ => 0
  | .glo _ => 0
  | .ty _ => 0
def bks : List DV → Nat
  | [] => 0
  | d :: ds => bk d + 1 + bks ds
end
mutual
def dp : DV → Nat
  | .tup ds => dps ds + 1
  | .lst ds => dps ds + 1
  | .ref _ => 1
  | .fzl _ => 0
  | .str _ => 0
  | .int _ => 0
  | .non => 0
  | .bl _ => 0
  | .glo _ => 0
  | .ty _ => 0
def dps : List DV → Nat
  | [] => 0
  | d :: ds => max (dp d) (dps ds)
end
section
variable {st : DSt} {k : Int} {Q : DV → DSt → Prop}
theorem wds_iff : ∀ {ds : List DV}, wds st k ds ↔ ∀ d ∈ ds, wd st k d
  | [] => by simp [wds]
  | d :: ds => by simp [wds, wds_iff (ds := ds)]
theorem dps_le {m : Nat} : ∀ {ds : List DV}, dps ds ≤ m ↔ ∀ d ∈ ds, dp d ≤ m
  | [] => by simp [dps]
  | d :: ds => by
    simp only [dps, List.mem_cons, forall_eq_or_imp, ← dps_le (ds := ds)]
    omega
theorem bks_app : ∀ (as bs : List DV), bks (as ++ bs) = bks as + bks bs
  | [], bs => by simp [bks]
  | a :: as, bs => by simp only [List.cons_append, bks, bks_app as bs]; omega
theorem bks_len : ∀ ds : List DV, ds.length ≤ bks ds
  | [] => by simp [bks]
  | d :: ds => by have := bks_len ds; simp only [List.length_cons, bks]; omega
theorem bks_mem {d : DV} : ∀ {ds : List DV}, d ∈ ds → bk d + 1 ≤ bks ds
  | x :: ds, h => by
    rcases List.mem_cons.mp h with rfl | h
    · simp only [bks]; omega
    · have := bks_mem h; simp only [bks]; omega
theorem bks_take (n : Nat) (ds : List DV) : bks (ds.take n) + bks (ds.drop n) = bks ds := by
  rw [← bks_app, List.take_append_drop]
theorem bks_rev : ∀ ds : List DV, bks ds.reverse = bks ds
  | [] => rfl
  | d :: ds => by rw [List.reverse_cons, bks_app, bks_rev ds]; simp only [bks]; omega
theorem log_j {j : Int} (h : -(10 ^ 39) - 100 ≤ j ∧ j ≤ 10 ^ 39 + 100) : j.natAbs.log2 < 140 := by
  by_cases hz : j.natAbs = 0
  · rw [hz]; decide
  · exact (Nat.log2_lt hz).mpr (Nat.lt_of_le_of_lt (m := 10 ^ 39 + 100) (by omega) (by decide))
mutual
theorem wd_py (hk : k ≤ 100) : ∀ d : DV, wd st k d → ∃ p, pyG st d = some p ∧ nice p = true ∧ p.depth ≤ dp d ∧ p.bulk ≤ bk d
  | .non, _ => ⟨.none, by simp [pyG], rfl, by simp [PyData.depth], by simp [PyData.bulk]⟩
  | .bl b, _ => ⟨.bool b, by simp [pyG], rfl, by simp [PyData.depth], by simp [PyData.bulk]⟩
  | .int j, h => by
    simp only [wd] at h
    refine ⟨.int j, by simp [pyG], ?_, by simp [PyData.depth], by simp [PyData.bulk]⟩
    simp only [nice, decide_eq_true_eq]
    have := log_j (j := j) (by omega)
    omega
  | .str s, h => by
    simp only [wd] at h
    exact ⟨.str s, by simp [pyG], by simp only [nice]; exact h.2, by simp [PyData.depth], by simp [PyData.bulk, bk]⟩
  | .ref n, h => by
    simp only [wd] at h
    exact ⟨.dict [], by simp [pyG, pyR, h, pyKs], rfl, by simp [PyData.depth, PyData.depthKv, dp], by simp [PyData.bulk, PyData.bulkKv]⟩
  | .tup ds, h => by
    simp only [wd] at h
    obtain ⟨ps, e1, e2, e3, e4⟩ := wds_py hk ds h
    exact ⟨.tuple ps, by simp [pyG, e1], by simpa only [nice] using e2, by simp only [PyData.depth, dp]; omega, by simpa only [PyData.bulk, bk] using e4⟩
  | .lst ds, h => by
    simp only [wd] at h
    obtain ⟨ps, e1, e2, e3, e4⟩ := wds_py hk ds h
    exact ⟨.list ps, by simp [pyG, e1], by simpa only [nice] using e2, by simp only [PyData.depth, dp]; omega, by simpa only [PyData.bulk, bk] using e4⟩
  | .fzl _, h => by simp [wd] at h
  | .glo _, h => by simp [wd] at h
  | .ty _, h => by simp [wd] at h
theorem wds_py (hk : k ≤ 100) : ∀ ds : List DV, wds st k ds → ∃ ps, pyGs st ds = some ps ∧ niceAll ps = true ∧ PyData.depthAll ps ≤ dps ds ∧ PyData.bulkAll ps ≤ bks ds
  | [], _ => ⟨[], by simp [pyGs], rfl, by simp [PyData.depthAll], by simp [PyData.bulkAll]⟩
  | d :: ds, h => by
    simp only [wds] at h
    obtain ⟨p, e1, e2, e3, e4⟩ := wd_py hk d h.1
    obtain ⟨ps, f1, f2, f3, f4⟩ := wds_py hk ds h.2
    exact ⟨p :: ps, by simp [pyGs, e1, f1], by simp [niceAll, e2, f2], by simp only [PyData.depthAll, dps]; omega, by simp only [PyData.bulkAll, bks]; omega⟩
end
theorem w_reprG {d : DV} {p : PyData} (e : pyG st d = some p) (ok : okShow p = true) (q : Q (.str p.shown) st) : wO (reprGP [d] st) Q :=
  w_some (d := .str p.shown) (s := st) (by simp only [reprGP, e, Option.bind_some, ok, if_true]) q
/-- the name of its kind -/
def kd : DV → String
  | .non => "NoneType"
  | .bl _ => "bool"
  | .int _ => "int"
  | .str _ => "str"
  | .tup _ => "tuple"
  | .ref _ => "dict"
  | .lst _ => "list"
  | _ => "list"
theorem wd_kd {d : DV} (h : wd st k d) : tyName st d = some (kd d) := by
  cases d <;> simp only [wd] at h <;> simp [tyName, kd, h]
def isI : DV → Bool
  | .int _ => true
  | _ => false
def isS : DV → Bool
  | .str _ => true
  | _ => false
theorem kd_int {d : DV} : (isaT (kd d) "int" && !isaT (kd d) "bool") = isI d := by
  cases d <;> simp only [kd, isI] <;> decide +kernel
theorem kd_str {d : DV} : isaT (kd d) "str" = isS d := by
  cases d <;> simp only [kd, isS] <;> decide +kernel
theorem whole_g {d : DV} (h : wd st k d) (q : Q (.bl (isI d)) st) : wR (m_is_whole [d] st) Q := by
  rw [← kd_int] at q
  unfold m_is_whole
  refine w_fn ?_
  unfold b_is_whole
  simp only [List.map_cons, List.map_nil, List.length_cons, List.length_nil, List.cons_append, List.nil_append, List.reduceReplicate, Nat.reduceAdd, Nat.reduceSub]
  bv_omega
  refine w_isi (wd_kd h) ?_
  refine ⟨_, rfl, ?_⟩
  cases e : isaT (kd d) "int" with
  | true =>
    rw [e] at q
    refine ite_tt rfl ?_
    bv_omega
    refine w_isi (wd_kd h) ?_
    refine ⟨_, rfl, ?_⟩
    exact q
  | false =>
    rw [e] at q
    refine ite_ff rfl ?_
    exact q
theorem number_g {d : DV} (h : wd st k d) (q : Q (.bl (isI d)) st) : wR (m__law_is_number [d] st) Q := by
  rw [← kd_int] at q
  unfold m__law_is_number
  refine w_fn ?_
  unfold b__law_is_number
  simp only [List.map_cons, List.map_nil, List.length_cons, List.length_nil, List.cons_append, List.nil_append, List.reduceReplicate, Nat.reduceAdd, Nat.reduceSub]
  bv_omega
  refine w_isi (wd_kd h) ?_
  refine ⟨_, rfl, ?_⟩
  cases e : isaT (kd d) "int" with
  | true =>
    rw [e] at q
    refine ite_tt rfl ?_
    bv_omega
    refine w_isi (wd_kd h) ?_
    refine ⟨_, rfl, ?_⟩
    exact q
  | false =>
    rw [e] at q
    refine ite_ff rfl ?_
    exact q
end
end DM

namespace DM
open PySem PySem.Spec PyProof.Rows L2
set_option maxHeartbeats 4000000
local macro_rules | `(tactic| bv_omega) => `(tactic| repeat first
  | ((with_reducible apply w_addT); (· decide))
  | with_reducible refine ⟨_, dput_turn, ?_⟩
  | with_reducible apply dget_turn
  | with_reducible apply dget_seed
  | with_reducible apply dget_cells
  | ((with_reducible apply w_eVar); (· rfl))
  | with_reducible apply w_eC
  | with_reducible apply w_e2
  | with_reducible apply w_asCons
  | with_reducible apply w_asNil
  | with_reducible apply w_eCall
  | with_reducible apply w_addI
  | with_reducible apply w_subI
  | ((with_reducible apply w_mod); (· (first | decide | omega | assumption)))
  | ((with_reducible apply w_mulR); (· (constructor <;> omega)))
  | ((with_reducible apply w_mulF); (· (constructor <;> omega)))
  | ((with_reducible apply w_div); (· (constructor <;> omega)))
  | ((with_reducible apply w_divW); (· (constructor <;> omega)))
  | with_reducible apply w_eqI
  | with_reducible apply w_eqS
  | with_reducible apply w_neI
  | with_reducible apply w_neS
  | with_reducible apply w_leI
  | with_reducible apply w_ltI
  | with_reducible apply w_gtI
  | with_reducible apply w_geI
  | with_reducible apply w_seqAsg
  | with_reducible apply w_seqExpr
  | with_reducible apply w_seqIf
  | with_reducible apply w_seqNx
  | with_reducible apply w_seqSeq
  | with_reducible apply w_seqRet
  | with_reducible apply w_seqRetN
  | with_reducible apply w_seqBrk
  | with_reducible apply w_seqCont
  | with_reducible apply w_seqSet
  | with_reducible apply w_sRet
  | with_reducible apply w_sAsg
  | with_reducible apply w_sExpr
  | with_reducible apply w_sIf
  | with_reducible apply w_sNx
  | with_reducible apply w_sBrk
  | with_reducible apply w_sCont
  | with_reducible apply w_sRetN
  | with_reducible apply w_sSetIx
  | with_reducible apply w_bOf
  | with_reducible apply w_bAnd
  | with_reducible apply w_bOr
  | with_reducible apply w_bNot
  | with_reducible apply w_bYes
  | with_reducible apply w_eB
  | with_reducible apply w_eTup
  | with_reducible apply w_eLst
  | with_reducible apply w_eLstR
  | with_reducible apply w_e1
  | with_reducible apply w_eIf
  | with_reducible apply w_eAnd
  | with_reducible apply w_eOr
  | with_reducible apply w_eNot
  | with_reducible apply w_eChain
  | with_reducible apply w_eMet
  | with_reducible apply w_eSl
  | with_reducible apply w_oNone
  | with_reducible apply w_oSome
  | with_reducible apply w_eLc
  | with_reducible apply w_eLcR
  | with_reducible apply w_iSeqO
  | with_reducible apply iteT
  | with_reducible apply iteTr
  | with_reducible apply iteF
  | with_reducible apply iteNT
  | with_reducible apply iteNF
  | with_reducible refine ⟨.inr ⟨rfl, rfl⟩, ?_⟩
  | with_reducible refine ⟨.inl ⟨rfl, rfl⟩, ?_⟩
  | ((with_reducible apply w_pow); (· decide))
  | with_reducible apply w_iRngA
  | with_reducible apply w_iRngB
  | with_reducible apply w_seqWhile
  | with_reducible apply w_sWhile
  | with_reducible apply w_seqFor
  | with_reducible apply w_sFor
  | with_reducible apply w_forCons
  | with_reducible apply w_forNil
  | with_reducible apply w_eRg1
  | ((with_reducible apply w_rgL); (· (refine ⟨?_, ?_, ?_, ?_⟩ <;> omega)))
  | ((with_reducible apply w_rgT); (· (refine ⟨?_, ?_, ?_, ?_⟩ <;> omega)))
  | ((with_reducible apply w_rgR); (· (refine ⟨?_, ?_, ?_, ?_⟩ <;> omega)))
  | with_reducible apply w_eJoin
  | with_reducible apply w_jCons
  | with_reducible apply w_jNil
  | with_reducible apply qN_nx
  | with_reducible apply qN_rt
  | with_reducible apply qN_bk
  | with_reducible apply qN_ct
  | with_reducible apply qF_rt
  | with_reducible apply qF_nx
  | with_reducible apply qI_nx
  | with_reducible apply qI_ct
  | with_reducible apply qI_bk
  | with_reducible apply qI_rt
  | with_reducible apply w_eD0
  | with_reducible apply w_eDisp
  | with_reducible apply w_ksCons
  | with_reducible apply w_ksNil
  | (with_reducible refine ⟨_, rfl, ?_⟩; try simp only [List.set_cons_zero, List.set_cons_succ])
  | (with_reducible refine ⟨len_ok ?_, ?_⟩; (· (simp only [List.length_cons, List.length_nil]; omega)))
  | with_reducible refine ⟨⟨rfl, rfl⟩, ?_⟩
  | with_reducible apply w_isiS
  | with_reducible apply w_neNil0
  | with_reducible apply w_eqNil0
  | (with_reducible refine ⟨rngOk ?_ ?_, ?_⟩; (· omega); (· omega))
  | ((with_reducible apply w_some); (· (fail_if_success (with_reducible apply repr_stop)); rfl)))

/-! ### what is a row -/
def rowOk : DV → Bool
  | .tup [.int c, .str w, .int x, .int b, .int e] => (decide (0 ≤ c) && decide (0 ≤ b) && (decide (0 ≤ x) && decide (x ≤ 999999))) && (decide (w = "read") && decide (b ≤ e) || decide (w = "write") && (decide (b ≤ e) || decide (e = -1)))
  | _ => false
section
variable {st : DSt} {k : Int} {Q : DV → DSt → Prop}
theorem isI_ex {d : DV} (h : isI d = true) : ∃ i, d = .int i := by
  cases d <;> simp only [isI, Bool.false_eq_true] at h
  exact ⟨_, rfl⟩
theorem isS_ex {d : DV} (h : isS d = true) : ∃ i, d = .str i := by
  cases d <;> simp only [isS, Bool.false_eq_true] at h
  exact ⟨_, rfl⟩
theorem five {ds : List DV} (h : ds.length = 5) : ∃ a b c d e, ds = [a, b, c, d, e] := by
  match ds, h with
  | [a, b, c, d, e], _ => exact ⟨a, b, c, d, e, rfl⟩
theorem row_len {ds : List DV} (h : ds.length ≠ 5) : rowOk (.tup ds) = false := by
  unfold rowOk
  split
  · rename_i heq
    simp only [DV.tup.injEq] at heq
    subst heq
    exact absurd rfl h
  · rfl
theorem isrow_g {d : DV} (h : wd st k d) (hb : bk d ≤ 8000) (q : Q (.bl (rowOk d)) st) : wR (m_is_row [d] st) Q := by
  unfold m_is_row
  refine w_fn ?_
  unfold b_is_row
  simp only [List.map_cons, List.map_nil, List.length_cons, List.length_nil, List.cons_append, List.nil_append, List.reduceReplicate, Nat.reduceAdd, Nat.reduceSub]
  bv_omega
  refine w_isi (wd_kd h) ?_
  by_cases ht : ∃ ds, d = .tup ds
  · obtain ⟨ds, rfl⟩ := ht
    have hl := bks_len ds
    simp only [bk] at hb
    refine ⟨_, rfl, ite_ff rfl ?_⟩
    bv_omega
    refine ite_nd (fun h5 => ?_) (fun h5 => ?_)
    · bv_omega
      rw [row_len (by omega)] at q
      exact q
    · obtain ⟨a, b, c, d, e, rfl⟩ := five (ds := ds) (by omega)
      simp only [wd, wds] at h
      obtain ⟨ha, hw, hc, hd, he, _⟩ := h
      bv_omega
      refine w_lcMap (fun d => .bl (isI d)) (fun x hx => ?_) (Nat.le_trans (m := 4) (by simp) (by decide)) ?_
      · have hx' : wd st k x := by
          simp only [List.mem_cons, List.not_mem_nil, or_false] at hx
          rcases hx with rfl | rfl | rfl | rfl <;> assumption
        refine ⟨_, rfl, ?_⟩
        bv_omega
        refine whole_g hx' ?_
        exact ⟨by first | rfl | trivial, by first | rfl | trivial⟩
      bv_omega
      by_cases h4 : isI a = true ∧ isI c = true ∧ isI d = true ∧ isI e = true
      · obtain ⟨h1, h2, h3, h4⟩ := h4
        obtain ⟨a, rfl⟩ := isI_ex h1
        obtain ⟨c, rfl⟩ := isI_ex h2
        obtain ⟨d, rfl⟩ := isI_ex h3
        obtain ⟨e, rfl⟩ := isI_ex h4
        refine ite_ff rfl ?_
        bv_omega
        refine w_isi (wd_kd hw) ?_
        rw [kd_str]
        by_cases hs : isS b = true
        · obtain ⟨b, rfl⟩ := isS_ex hs
          refine ⟨_, rfl, ite_ff rfl ?_⟩
          bv_omega
          by_cases hw : b = "read" ∨ b = "write"
          · refine ite_ff (by rcases hw with rfl | rfl <;> decide +kernel) ?_
            bv_omega
            refine ite_d (fun h6 => ?_) (fun h6 => ?_)
            · bv_omega
              rw [show rowOk (.tup [.int a, .str b, .int c, .int d, .int e]) = false from ?_] at q
              · exact q
              · simp only [rowOk, Bool.and_eq_false_iff, decide_eq_false_iff_not]
                refine .inl (.inl ?_)
                split at h6 <;> omega
            · bv_omega
              refine ite_d (fun h7 => ?_) (fun h7 => ?_)
              · bv_omega
                refine ite_nd (fun h8 => ?_) (fun h8 => ?_)
                · bv_omega
                  rw [show rowOk (.tup [.int a, .str b, .int c, .int d, .int e]) = false from ?_] at q
                  · exact q
                  · simp only [rowOk, Bool.and_eq_false_iff, decide_eq_false_iff_not]
                    exact .inl (.inr (.inr (by omega)))
                · have lo : (decide (0 ≤ a) && decide (0 ≤ d) && (decide (0 ≤ c) && decide (c ≤ 999999))) = true := by
                    simp only [Bool.and_eq_true, decide_eq_true_eq]
                    split at h6 <;> omega
                  have res : rowOk (.tup [.int a, .str b, .int c, .int d, .int e]) = (decide (d ≤ e) || (decide (e = -1) && decide (b = "write"))) := by
                    have nrw : ¬ (("read" : Str) = "write") := by decide +kernel
                    have nwr : ¬ (("write" : Str) = "read") := by decide +kernel
                    simp only [rowOk, lo, Bool.true_and]
                    rcases hw with rfl | rfl
                    · simp only [decide_eq_true_eq, nrw, decide_true, decide_false, Bool.true_and, Bool.false_and, Bool.or_false, Bool.and_false]
                    · simp only [nwr, decide_true, decide_false, Bool.true_and, Bool.false_and, Bool.false_or, Bool.and_true]
                  rw [res] at q
                  bv_omega
                  refine ite_d (fun h9 => ?_) (fun h9 => ?_)
                  · rw [decide_eq_true h9, Bool.true_or] at q
                    exact q
                  · rw [decide_eq_false h9, Bool.false_or] at q
                    bv_omega
                    refine ite_d (fun h10 => ?_) (fun h10 => ?_)
                    · rw [decide_eq_true h10, Bool.true_and] at q
                      bv_omega
                      exact q
                    · rw [decide_eq_false h10, Bool.false_and] at q
                      exact q
              · refine ⟨_, rfl, ite_tt rfl ?_⟩
                bv_omega
                rw [show rowOk (.tup [.int a, .str b, .int c, .int d, .int e]) = false from ?_] at q
                · exact q
                · simp only [rowOk, Bool.and_eq_false_iff, decide_eq_false_iff_not]
                  exact .inl (.inr (.inl (by omega)))
          · refine ite_tt ?_ ?_
            · simp only [List.any_cons, List.any_nil, eqF, Bool.or_false, Bool.not_eq_true', Bool.or_eq_false_iff, beq_eq_false_iff_ne, ne_eq]
              exact ⟨fun e => hw (.inl e.symm), fun e => hw (.inr e.symm)⟩
            bv_omega
            rw [show rowOk (.tup [.int a, .str b, .int c, .int d, .int e]) = false from ?_] at q
            · exact q
            · have h1 : decide (b = "read") = false := decide_eq_false fun e => hw (.inl e)
              have h2 : decide (b = "write") = false := decide_eq_false fun e => hw (.inr e)
              simp only [rowOk, h1, h2, Bool.false_and, Bool.or_self, Bool.and_false]
        · have hs' : isS b = false := by simpa using hs
          rw [hs']
          refine ⟨_, rfl, ite_tt rfl ?_⟩
          bv_omega
          have : rowOk (.tup [.int a, b, .int c, .int d, .int e]) = false := by cases b <;> first | rfl | exact absurd rfl hs
          rw [this] at q
          exact q
      · have : rowOk (.tup [a, b, c, d, e]) = false := by
          unfold rowOk
          split
          · rename_i heq
            simp only [DV.tup.injEq, List.cons.injEq] at heq
            obtain ⟨rfl, rfl, rfl, rfl, rfl, _⟩ := heq
            exact absurd ⟨rfl, rfl, rfl, rfl⟩ h4
          · rfl
        rw [this] at q
        refine ite_tt ?_ ?_
        · simp only [List.all_cons, List.all_nil, id, Bool.and_true, Bool.not_eq_true', Bool.and_eq_false_iff]
          cases e1 : isI a <;> cases e2 : isI c <;> cases e3 : isI d <;> cases e4 : isI e <;> simp_all
        · bv_omega
          exact q
  · have h1 : isaT (kd d) "tuple" = false := by
      cases d <;> simp only [kd] <;> first | decide +kernel | exact absurd ⟨_, rfl⟩ ht
    have h2 : rowOk d = false := by
      cases d <;> first | rfl | exact absurd ⟨_, rfl⟩ ht
    rw [h1]
    rw [h2] at q
    refine ⟨_, rfl, ite_tt rfl ?_⟩
    bv_omega
    exact q
theorem lawrow_g {d : DV} (h : wd st k d) (hb : bk d ≤ 8000) (q : Q (.bl (rowOk d)) st) : wR (m__law_is_row [d] st) Q := by
  unfold m__law_is_row
  refine w_fn ?_
  unfold b__law_is_row
  simp only [List.map_cons, List.map_nil, List.length_cons, List.length_nil, List.cons_append, List.nil_append, List.reduceReplicate, Nat.reduceAdd, Nat.reduceSub]
  bv_omega
  refine w_isi (wd_kd h) ?_
  by_cases ht : ∃ ds, d = .tup ds
  · obtain ⟨ds, rfl⟩ := ht
    have hl := bks_len ds
    simp only [bk] at hb
    refine ⟨_, rfl, ite_ff rfl ?_⟩
    bv_omega
    refine ite_nd (fun h5 => ?_) (fun h5 => ?_)
    · bv_omega
      rw [row_len (by omega)] at q
      exact q
    · obtain ⟨a, b, c, d, e, rfl⟩ := five (ds := ds) (by omega)
      simp only [wd, wds] at h
      obtain ⟨ha, hw, hc, hd, he, _⟩ := h
      bv_omega
      refine w_lcF (fun d => !isI d) id (by simp) (fun x hx => ?_) ?_
      · have hx' : wd st k x := by
          simp only [List.mem_cons, List.not_mem_nil, or_false] at hx
          rcases hx with rfl | rfl | rfl | rfl <;> assumption
        refine ⟨_, rfl, ?_⟩
        bv_omega
        refine number_g hx' ?_
        refine ⟨_, rfl, by first | rfl | trivial, by first | rfl | trivial, fun _ => ?_⟩
        bv_omega
        exact ⟨by first | rfl | trivial, by first | rfl | trivial⟩
      rw [List.map_id]
      bv_omega
      by_cases h4 : isI a = true ∧ isI c = true ∧ isI d = true ∧ isI e = true
      · obtain ⟨h1, h2, h3, h4⟩ := h4
        obtain ⟨a, rfl⟩ := isI_ex h1
        obtain ⟨c, rfl⟩ := isI_ex h2
        obtain ⟨d, rfl⟩ := isI_ex h3
        obtain ⟨e, rfl⟩ := isI_ex h4
        refine ite_ff rfl ?_
        bv_omega
        refine w_isi (wd_kd hw) ?_
        rw [kd_str]
        by_cases hs : isS b = true
        · obtain ⟨b, rfl⟩ := isS_ex hs
          refine ⟨_, rfl, ite_ff rfl ?_⟩
          bv_omega
          have no : ∀ z : Prop, (a < 0 ∨ d < 0 ∨ c < 0 ∨ 999999 < c) → rowOk (.tup [.int a, .str b, .int c, .int d, .int e]) = false := fun _ z => by
            simp only [rowOk, Bool.and_eq_false_iff, decide_eq_false_iff_not]
            rcases z with z | z | z | z
            · exact .inl (.inl (.inl (by omega)))
            · exact .inl (.inl (.inr (by omega)))
            · exact .inl (.inr (.inl (by omega)))
            · exact .inl (.inr (.inr (by omega)))
          refine ite_d (fun z1 => ?_) (fun z1 => ?_)
          · bv_omega
            rw [no True (.inl z1)] at q
            exact q
          bv_omega
          refine ite_d (fun z2 => ?_) (fun z2 => ?_)
          · bv_omega
            rw [no True (.inr (.inl z2))] at q
            exact q
          bv_omega
          refine ite_d (fun z3 => ?_) (fun z3 => ?_)
          · bv_omega
            rw [no True (.inr (.inr (.inl z3)))] at q
            exact q
          bv_omega
          refine ite_d (fun z4 => ?_) (fun z4 => ?_)
          · bv_omega
            rw [no True (.inr (.inr (.inr (by omega))))] at q
            exact q
          have lo : (decide (0 ≤ a) && decide (0 ≤ d) && (decide (0 ≤ c) && decide (c ≤ 999999))) = true := by
            simp only [Bool.and_eq_true, decide_eq_true_eq]
            omega
          have nwr : ¬ (("write" : Str) = "read") := by decide +kernel
          have nrw : ¬ (("read" : Str) = "write") := by decide +kernel
          bv_omega
          refine ite_d (fun z5 => ?_) (fun z5 => ?_)
          · subst z5
            bv_omega
            rw [show rowOk (.tup [.int a, .str "read", .int c, .int d, .int e]) = decide (d ≤ e) from ?_] at q
            · exact q
            · simp only [rowOk, lo, nrw, decide_true, decide_false, Bool.true_and, Bool.false_and, Bool.or_false]
          · bv_omega
            refine ite_d (fun z6 => ?_) (fun z6 => ?_)
            · subst z6
              rw [show rowOk (.tup [.int a, .str "write", .int c, .int d, .int e]) = (decide (d ≤ e) || decide (e = -1)) from ?_] at q
              · bv_omega
                refine ite_d (fun z7 => ?_) (fun z7 => ?_)
                · rw [decide_eq_true z7, Bool.true_or] at q
                  exact q
                · rw [decide_eq_false z7, Bool.false_or] at q
                  bv_omega
                  exact q
              · simp only [rowOk, lo, nwr, decide_true, decide_false, Bool.true_and, Bool.false_and, Bool.false_or]
            · rw [show rowOk (.tup [.int a, .str b, .int c, .int d, .int e]) = false from ?_] at q
              · exact q
              · simp only [rowOk, z5, z6, decide_false, Bool.false_and, Bool.or_self, Bool.and_false]
        · have hs' : isS b = false := by simpa using hs
          rw [hs']
          refine ⟨_, rfl, ite_tt rfl ?_⟩
          bv_omega
          have : rowOk (.tup [.int a, b, .int c, .int d, .int e]) = false := by cases b <;> first | rfl | exact absurd rfl hs
          rw [this] at q
          exact q
      · have : rowOk (.tup [a, b, c, d, e]) = false := by
          unfold rowOk
          split
          · rename_i heq
            simp only [DV.tup.injEq, List.cons.injEq] at heq
            obtain ⟨rfl, rfl, rfl, rfl, rfl, _⟩ := heq
            exact absurd ⟨rfl, rfl, rfl, rfl⟩ h4
          · rfl
        rw [this] at q
        refine ite_tt ?_ ?_
        · cases e1 : isI a <;> cases e2 : isI c <;> cases e3 : isI d <;> cases e4 : isI e <;> simp_all
        · bv_omega
          exact q
  · have h1 : isaT (kd d) "tuple" = false := by
      cases d <;> simp only [kd] <;> first | decide +kernel | exact absurd ⟨_, rfl⟩ ht
    have h2 : rowOk d = false := by
      cases d <;> first | rfl | exact absurd ⟨_, rfl⟩ ht
    rw [h1]
    rw [h2] at q
    refine ⟨_, rfl, ite_tt rfl ?_⟩
    bv_omega
    exact q
/-! ### what is a history -/
def histOk : DV → Bool
  | .tup ds => ds.all rowOk
  | _ => false
theorem kd_tup {d : DV} : (∃ ds, d = .tup ds) ∨ (isaT (kd d) "tuple" = false ∧ histOk d = false) := by
  cases d
  case tup ds => exact .inl ⟨_, rfl⟩
  all_goals
    refine .inr ⟨?_, rfl⟩
    simp only [kd]
    decide +kernel
theorem allOf_blf (f : DV → Bool) : ∀ ds : List DV, allOf blOf (ds.map fun d => DV.bl (f d)) = some (ds.map f)
  | [] => rfl
  | d :: ds => by simp [allOf, blOf, allOf_blf f ds]
theorem ishist_g {d : DV} (h : wd st k d) (hb : bk d ≤ 8000) (q : Q (.bl (histOk d)) st) : wR (m_is_history [d] st) Q := by
  unfold m_is_history
  refine w_fn ?_
  unfold b_is_history
  simp only [List.map_cons, List.map_nil, List.length_cons, List.length_nil, List.cons_append, List.nil_append, List.reduceReplicate, Nat.reduceAdd, Nat.reduceSub]
  bv_omega
  refine w_isi (wd_kd h) ?_
  rcases kd_tup (d := d) with ⟨ds, rfl⟩ | ⟨h1, h2⟩
  · have hl := bks_len ds
    simp only [bk] at hb
    refine ⟨_, rfl, ite_tt rfl ?_⟩
    bv_omega
    refine w_lcMap (fun d => .bl (rowOk d)) (fun x hx => ?_) (Nat.le_trans (m := 8000) (by omega) (by decide)) ?_
    · simp only [wd] at h
      have hx' := wds_iff.mp h x hx
      have := bks_mem hx
      refine ⟨_, rfl, ?_⟩
      bv_omega
      refine isrow_g hx' (by omega) ?_
      exact ⟨by first | rfl | trivial, by first | rfl | trivial⟩
    bv_omega
    refine w_all (bs := ds.map rowOk) (allOf_blf rowOk ds) ?_
    rw [List.all_map]
    exact q
  · rw [h1]
    rw [h2] at q
    refine ⟨_, rfl, ite_ff rfl ?_⟩
    exact q
theorem isdue_g {d : DV} (h : wd st k d) (hb : bk d ≤ 8000) (q : Q (.bl (histOk d)) st) : wR (m__law_is_due [d] st) Q := by
  unfold m__law_is_due
  refine w_fn ?_
  unfold b__law_is_due
  simp only [List.map_cons, List.map_nil, List.length_cons, List.length_nil, List.cons_append, List.nil_append, List.reduceReplicate, Nat.reduceAdd, Nat.reduceSub]
  bv_omega
  refine w_isi (wd_kd h) ?_
  rcases kd_tup (d := d) with ⟨ds, rfl⟩ | ⟨h1, h2⟩
  · have hl := bks_len ds
    simp only [bk] at hb
    refine ⟨_, rfl, ite_tt rfl ?_⟩
    bv_omega
    refine w_lcF (fun d => !rowOk d) id (by omega) (fun x hx => ?_) ?_
    · simp only [wd] at h
      have hx' := wds_iff.mp h x hx
      have := bks_mem hx
      refine ⟨_, rfl, ?_⟩
      bv_omega
      refine lawrow_g hx' (by omega) ?_
      refine ⟨_, rfl, by first | rfl | trivial, by first | rfl | trivial, fun _ => ?_⟩
      bv_omega
      exact ⟨by first | rfl | trivial, by first | rfl | trivial⟩
    rw [List.map_id]
    bv_omega
    have e : histOk (.tup ds) = (ds.filter fun d => !rowOk d).isEmpty := by
      rw [Bool.eq_iff_iff, List.isEmpty_iff]
      simp only [histOk, List.all_eq_true, List.filter_eq_nil_iff, Bool.not_eq_true', Bool.not_eq_false]
    rw [e] at q
    exact q
  · rw [h1]
    rw [h2] at q
    refine ⟨_, rfl, ite_ff rfl ?_⟩
    exact q
theorem right_g {d : DV} (h : wd st k d) (hk : k ≤ 100) (hb : bk d ≤ 8000) (hd : dp d ≤ 60) (q : Q (.bl true) st) : wR (m__law_right [d] st) Q := by
  obtain ⟨p, e1, e2, e3, e4⟩ := wd_py hk d h
  have ok : okShow p = true := okShow_of e2 (by omega) (by omega)
  unfold m__law_right
  refine w_fn ?_
  unfold b__law_right
  simp only [List.map_cons, List.map_nil, List.length_cons, List.length_nil, List.cons_append, List.nil_append, List.reduceReplicate, Nat.reduceAdd, Nat.reduceSub]
  bv_omega
  refine w_reprG e1 ok ?_
  bv_omega
  refine isdue_g h hb ?_
  bv_omega
  refine ishist_g h hb ?_
  bv_omega
  refine ishist_g h hb ?_
  bv_omega
  have e5 : pyG st (.lst [.bl (histOk d), .bl (histOk d)]) = some (.list [.bool (histOk d), .bool (histOk d)]) := by simp [pyG, pyGs]
  have ok5 : okShow (.list [.bool (histOk d), .bool (histOk d)]) = true := okShow_of rfl (by simp [PyData.depth, PyData.depthAll]) (by simp [PyData.bulk, PyData.bulkAll])
  refine w_reprG e5 ok5 ?_
  bv_omega
  refine w_reprG e5 ok5 ?_
  refine w_eqSame ?_
  refine ⟨_, rfl, ite_tt rfl ?_⟩
  bv_omega
  refine w_reprG e1 ok ?_
  bv_omega
  rw [decide_eq_true rfl]
  exact q
end
end DM

namespace DM
open PySem PySem.Spec PyProof.Rows L2
set_option maxHeartbeats 4000000
local macro_rules | `(tactic| bv_omega) => `(tactic| repeat first
  | ((with_reducible apply w_addT); (· decide))
  | with_reducible refine ⟨_, dput_turn, ?_⟩
  | with_reducible apply dget_turn
  | with_reducible apply dget_seed
  | with_reducible apply dget_cells
  | ((with_reducible apply w_eVar); (· rfl))
  | with_reducible apply w_eC
  | with_reducible apply w_e2
  | with_reducible apply w_asCons
  | with_reducible apply w_asNil
  | with_reducible apply w_eCall
  | with_reducible apply w_addI
  | with_reducible apply w_subI
  | ((with_reducible apply w_mod); (· (first | decide | omega | assumption)))
  | ((with_reducible apply w_mulR); (· (constructor <;> omega)))
  | ((with_reducible apply w_mulF); (· (constructor <;> omega)))
  | ((with_reducible apply w_div); (· (constructor <;> omega)))
  | ((with_reducible apply w_divW); (· (constructor <;> omega)))
  | with_reducible apply w_eqI
  | with_reducible apply w_eqS
  | with_reducible apply w_neI
  | with_reducible apply w_neS
  | with_reducible apply w_leI
  | with_reducible apply w_ltI
  | with_reducible apply w_gtI
  | with_reducible apply w_geI
  | with_reducible apply w_seqAsg
  | with_reducible apply w_seqExpr
  | with_reducible apply w_seqIf
  | with_reducible apply w_seqNx
  | with_reducible apply w_seqSeq
  | with_reducible apply w_seqRet
  | with_reducible apply w_seqRetN
  | with_reducible apply w_seqBrk
  | with_reducible apply w_seqCont
  | with_reducible apply w_seqSet
  | with_reducible apply w_sRet
  | with_reducible apply w_sAsg
  | with_reducible apply w_sExpr
  | with_reducible apply w_sIf
  | with_reducible apply w_sNx
  | with_reducible apply w_sBrk
  | with_reducible apply w_sCont
  | with_reducible apply w_sRetN
  | with_reducible apply w_sSetIx
  | with_reducible apply w_bOf
  | with_reducible apply w_bAnd
  | with_reducible apply w_bOr
  | with_reducible apply w_bNot
  | with_reducible apply w_bYes
  | with_reducible apply w_eB
  | with_reducible apply w_eTup
  | with_reducible apply w_eLst
  | with_reducible apply w_eLstR
  | with_reducible apply w_e1
  | with_reducible apply w_eIf
  | with_reducible apply w_eAnd
  | with_reducible apply w_eOr
  | with_reducible apply w_eNot
  | with_reducible apply w_eChain
  | with_reducible apply w_eMet
  | with_reducible apply w_eSl
  | with_reducible apply w_oNone
  | with_reducible apply w_oSome
  | with_reducible apply w_eLc
  | with_reducible apply w_eLcR
  | with_reducible apply w_iSeqO
  | with_reducible apply iteT
  | with_reducible apply iteTr
  | with_reducible apply iteF
  | with_reducible apply iteNT
  | with_reducible apply iteNF
  | with_reducible refine ⟨.inr ⟨rfl, rfl⟩, ?_⟩
  | with_reducible refine ⟨.inl ⟨rfl, rfl⟩, ?_⟩
  | ((with_reducible apply w_pow); (· decide))
  | with_reducible apply w_iRngA
  | with_reducible apply w_iRngB
  | with_reducible apply w_seqWhile
  | with_reducible apply w_sWhile
  | with_reducible apply w_seqFor
  | with_reducible apply w_sFor
  | with_reducible apply w_forCons
  | with_reducible apply w_forNil
  | with_reducible apply w_eRg1
  | ((with_reducible apply w_rgL); (· (refine ⟨?_, ?_, ?_, ?_⟩ <;> omega)))
  | ((with_reducible apply w_rgT); (· (refine ⟨?_, ?_, ?_, ?_⟩ <;> omega)))
  | ((with_reducible apply w_rgR); (· (refine ⟨?_, ?_, ?_, ?_⟩ <;> omega)))
  | with_reducible apply w_eJoin
  | with_reducible apply w_jCons
  | with_reducible apply w_jNil
  | with_reducible apply qN_nx
  | with_reducible apply qN_rt
  | with_reducible apply qN_bk
  | with_reducible apply qN_ct
  | with_reducible apply qF_rt
  | with_reducible apply qF_nx
  | with_reducible apply qI_nx
  | with_reducible apply qI_ct
  | with_reducible apply qI_bk
  | with_reducible apply qI_rt
  | with_reducible apply w_eD0
  | with_reducible apply w_eDisp
  | with_reducible apply w_ksCons
  | with_reducible apply w_ksNil
  | (with_reducible refine ⟨_, rfl, ?_⟩; try simp only [List.set_cons_zero, List.set_cons_succ])
  | (with_reducible refine ⟨len_ok ?_, ?_⟩; (· (simp only [List.length_cons, List.length_nil]; omega)))
  | with_reducible refine ⟨⟨rfl, rfl⟩, ?_⟩
  | with_reducible apply w_isiS
  | with_reducible apply w_neNil0
  | with_reducible apply w_eqNil0
  | (with_reducible refine ⟨rngOk ?_ ?_, ?_⟩; (· omega); (· omega))
  | ((with_reducible apply w_some); (· (fail_if_success (with_reducible apply repr_stop)); rfl)))

/-! ### spoils -/
def Kep (st st' : DSt) : Prop := ∀ n : Nat, st[n]? = some (DO.dct []) → st'[n]? = some (DO.dct [])
theorem Kep.trans {a b c : DSt} (h : Kep a b) (g : Kep b c) : Kep a c := fun n e => g n (h n e)
theorem Kep.app (a b : DSt) : Kep a (a ++ b) := fun n e => by rw [List.getElem?_append_left (List.getElem?_eq_some_iff.mp e).1]; exact e
theorem Db.kp {n m : Nat} {R R' st st' : DSt} (D : Db n R st) (D' : Db m R' st') (h : Kep R R') : Kep st st' := by
  obtain ⟨xs, s, t, _, _, _, _, _, rfl⟩ := D
  obtain ⟨xs', s', t', _, _, _, _, _, rfl⟩ := D'
  intro i e
  match i, e with
  | 0, e => simp [db] at e
  | 1, e => simp [db, kvB] at e
  | i + 2, e => exact h i e
mutual
theorem wd_kp {st st' : DSt} {k m : Int} (h : Kep st st') (hk : k ≤ m) : ∀ d : DV, wd st k d → wd st' m d
  | .non, _ => trivial
  | .bl _, _ => trivial
  | .int j, z => by simp only [wd] at z ⊢; omega
  | .str s, z => by simp only [wd] at z ⊢; exact z
  | .ref n, z => by simp only [wd] at z ⊢; exact h n z
  | .tup ds, z => by simp only [wd] at z ⊢; exact wds_kp h hk ds z
  | .lst ds, z => by simp only [wd] at z ⊢; exact wds_kp h hk ds z
  | .fzl _, z => by simp only [wd] at z
  | .glo _, z => by simp only [wd] at z
  | .ty _, z => by simp only [wd] at z
theorem wds_kp {st st' : DSt} {k m : Int} (h : Kep st st') (hk : k ≤ m) : ∀ ds : List DV, wds st k ds → wds st' m ds
  | [], _ => trivial
  | d :: ds, z => by simp only [wds] at z ⊢; exact ⟨wd_kp h hk d z.1, wds_kp h hk ds z.2⟩
end
/-- a thing made of another one -/
structure Nx (st : DSt) (k : Int) (D B : Nat) (d : DV) : Prop where
  w : wd st k d
  p : dp d ≤ D
  b : bk d ≤ B
section
variable {n : Nat} {R st : DSt} {k : Int} {Q : DV → DSt → Prop}
theorem Nx.kp {st' : DSt} {m : Int} {D B D' B' : Nat} {x : DV} (h : Nx st k D B x) (hs : Kep st st') (hm : k ≤ m) (hD : D ≤ D') (hB : B ≤ B') : Nx st' m D' B' x :=
  ⟨wd_kp hs hm x h.w, Nat.le_trans h.p hD, Nat.le_trans h.b hB⟩
theorem pick_ok {ds : List DV} (D : Db n R st) (h1 : 1 ≤ ds.length) (h2 : ds.length ≤ 1000) (hc : n < 2 ^ 40) (q : ∀ d ∈ ds, ∀ st', Db (n + 1) R st' → Q d st') : wR (m__law_pick [.ref 1, .lst ds] st) Q := by
  unfold m__law_pick
  refine w_fn ?_
  unfold b__law_pick
  simp only [List.map_cons, List.map_nil, List.length_cons, List.length_nil, List.cons_append, List.nil_append, List.reduceReplicate, Nat.reduceAdd, Nat.reduceSub]
  bv_omega
  refine draw_ok D (by omega) (by omega) hc fun i st1 i0 i1 D1 => ?_
  bv_omega
  refine w_ixM i0 i1 fun d hd => ?_
  exact q d hd st1 D1
theorem nx_str {s : String} {D B : Nat} (h : s.length ≤ 141) (hB : 150 ≤ B) : Nx st k D B (.str (Str.ofString s)) := by
  have hl : (Str.ofString s).cps.size = s.length := by
    rw [Str.ofString_eq_toList]
    simp only [List.size_toArray, List.length_map, String.length_toList]
  refine ⟨?_, by simp [dp], by simp only [bk]; omega⟩
  simp only [wd]
  refine ⟨by omega, ?_⟩
  rw [Str.ofString_eq_toList]
  simp only [List.all_eq_true, decide_eq_true_eq, List.mem_map]
  rintro c ⟨x, _, rfl⟩
  have := x.valid
  have h2 : x.toNat < 1114112 := by
    rcases this with h | h
    · have : x.toNat < 0xd800 := h
      omega
    · have : x.toNat < 0x110000 := h.2
      omega
  exact h2
theorem nx_int {j : Int} {D B : Nat} (h : -(10 ^ 39) - k ≤ j ∧ j ≤ 10 ^ 39 + k) : Nx st k D B (.int j) := ⟨by simpa only [wd] using h, by simp [dp], by simp [bk]⟩
theorem nx_bl {b : Bool} {D B : Nat} : Nx st k D B (.bl b) := ⟨trivial, by simp [dp], by simp [bk]⟩
theorem nx_non {D B : Nat} : Nx st k D B .non := ⟨trivial, by simp [dp], by simp [bk]⟩
theorem nx_one {D B : Nat} {x : DV} (h : Nx st k D B x) : Nx st k (D + 1) (B + 1) (.tup [x]) ∧ Nx st k (D + 1) (B + 1) (.lst [x]) := by
  obtain ⟨h1, h2, h3⟩ := h
  exact ⟨⟨by simp only [wd, wds]; exact ⟨h1, trivial⟩, by simp only [dp, dps]; omega, by simp only [bk, bks]; omega⟩,
    ⟨by simp only [wd, wds]; exact ⟨h1, trivial⟩, by simp only [dp, dps]; omega, by simp only [bk, bks]; omega⟩⟩
theorem w_ll {a b : List DV} (hl : a.length + b.length ≤ 1000) (q : Q (.lst (a ++ b)) st) : wO (addXP (.lst a) (.lst b) st) Q := by
  refine w_some (d := .lst (a ++ b)) (s := st) ?_ q
  have : a.length + b.length ≤ sizeLine := Nat.le_trans hl (by decide)
  simp only [addXP, addP, lstOf, Option.bind_some, if_pos this]
theorem w_tt {a b : List DV} (hl : a.length + b.length ≤ 10000) (q : Q (.tup (a ++ b)) st) : wO (addXP (.tup a) (.tup b) st) Q := by
  refine w_some (d := .tup (a ++ b)) (s := st) ?_ q
  have : a.length + b.length ≤ sizeLine := Nat.le_trans hl (by decide)
  simp only [addXP, if_pos this]
theorem app_last {as : List DV} {d : DV} (hl : as.length < 1000) (q : Q .non (st ++ [.lst (as ++ [d])])) : wO (appendP (.ref st.length) [d] (st ++ [.lst as])) Q := by
  refine w_some (d := .non) (s := st ++ [.lst (as ++ [d])]) ?_ q
  have h : (st ++ [DO.lst as])[st.length]? = some (.lst as) := by simp
  have : as.length < sizeLine := Nat.lt_trans hl (by decide)
  have e : (st ++ [DO.lst as]).set st.length (.lst (as ++ [d])) = st ++ [.lst (as ++ [d])] := by
    rw [List.set_append_right _ _ (Nat.le_refl _), Nat.sub_self]
    rfl
  simp only [appendP, lstAt, h, Option.bind_some, if_pos this, e]
theorem seq_last {as : List DV} : (seqOf (st ++ [DO.lst as]) (.ref st.length)).isSome = true := by
  have h : (st ++ [DO.lst as])[st.length]? = some (.lst as) := by simp
  simp only [seqOf, h]
  rfl
theorem cut_mid {ds : List DV} {a b : Nat} (h : a ≤ ds.length) : ∃ m, cutL ds (some (a : Int)) (some (b : Int)) = (ds.drop a).take m := by
  unfold cutL
  rw [HT.sIx_nat, HT.sIx_nat, Nat.min_eq_left h]
  exact ⟨_, rfl⟩
/-- the seventeen that stand at the end -/
def some17 (m : Nat) (d : DV) : List DV := [.non, .bl true, .bl false, .int 0, .int 1, .int (-1), .int (10 ^ 39), .int (10 ^ 6), .str "read", .str "write", .str "", .tup [], .lst [], .ref m, .tup [.int 0], .tup [d], .int (-2)]
theorem some17_nx {m D B : Nat} {d : DV} (hk : 0 ≤ k) (hd : Nx st k D B d) (hm : st[m]? = some (.dct [])) : ∀ x ∈ some17 m d, Nx st k (D + 1) (B + 200) x := by
  intro x hx
  simp only [some17, List.mem_cons, List.not_mem_nil, or_false] at hx
  rcases hx with rfl | rfl | rfl | rfl | rfl | rfl | rfl | rfl | rfl | rfl | rfl | rfl | rfl | rfl | rfl | rfl | rfl
  · exact nx_non
  · exact nx_bl
  · exact nx_bl
  · exact nx_int (by omega)
  · exact nx_int (by omega)
  · exact nx_int (by omega)
  · exact nx_int (by omega)
  · exact nx_int (by omega)
  · exact nx_str (by decide) (by omega)
  · exact nx_str (by decide) (by omega)
  · exact nx_str (by decide) (by omega)
  · exact ⟨trivial, by simp [dp, dps], by simp [bk, bks]⟩
  · exact ⟨trivial, by simp [dp, dps], by simp [bk, bks]⟩
  · exact ⟨by simpa only [wd] using hm, by simp [dp], by simp [bk]⟩
  · exact ⟨by simp only [wd, wds]; exact ⟨by omega, trivial⟩, by simp [dp, dps], by simp [bk, bks]⟩
  · have := (nx_one hd).1
    exact ⟨this.w, this.p, by have := this.b; omega⟩
  · exact nx_int (by omega)
theorem odd_g {D B : Nat} {d : DV} (hD : Db n R st) (hc : n < 2 ^ 40) (hk : 0 ≤ k ∧ k ≤ 50) (hd : Nx st k D B d)
    (q : ∀ x st' ext, Db (n + 1) (R ++ ext) st' → Nx st' (k + 1) (D + 1) (B + 200) x → Q x st') : wR (m__law_odd [.ref 1, d] st) Q := by
  have fin : ∀ near : List DV, near.length ≤ 10 → (∀ x ∈ near, Nx st (k + 1) (D + 1) (B + 200) x) → wR (m__law_pick [.ref 1, .lst (near ++ some17 st.length d)] (st ++ [.dct []])) Q := by
    intro near hl hn
    have hst : (st ++ [DO.dct []])[st.length]? = some (.dct []) := by simp
    refine pick_ok (hD.more (.dct [])) (by simp [some17]) (by simp [some17]; omega) hc fun x hx st' D' => ?_
    have kp : Kep (st ++ [DO.dct []]) st' := (hD.more (.dct [])).kp D' fun _ e => e
    refine q x st' [.dct []] D' ?_
    rcases List.mem_append.mp hx with h | h
    · exact (hn x h).kp ((Kep.app _ _).trans kp) (Int.le_refl _) (Nat.le_refl _) (Nat.le_refl _)
    · exact (some17_nx hk.1 (hd.kp (Kep.app _ _) (Int.le_refl _) (Nat.le_refl _) (Nat.le_refl _)) hst x h).kp kp (by omega) (Nat.le_refl _) (Nat.le_refl _)
  unfold m__law_odd
  refine w_fn ?_
  unfold b__law_odd
  simp only [List.map_cons, List.map_nil, List.length_cons, List.length_nil, List.cons_append, List.nil_append, List.reduceReplicate, Nat.reduceAdd, Nat.reduceSub]
  bv_omega
  refine w_isi (wd_kd hd.w) ?_
  refine ⟨_, rfl, ?_⟩
  refine w_ifX (fun v s => s = st ∧ ∃ near : List DV, v = .lst near ∧ near.length ≤ 10 ∧ ∀ x ∈ near, Nx st (k + 1) (D + 1) (B + 200) x) (fun hi => ?_) (fun hi => ?_) ?_
  · have up : Nx st (k + 1) D B d := hd.kp (fun _ e => e) (by omega) (Nat.le_refl _) (Nat.le_refl _)
    cases d
    case int j =>
      have hj := hd.w
      simp only [wd] at hj
      have hs := log_j (j := j) (by omega)
      have ht := int_text_length_le (a := j) (k := 140) (by decide) hs
      bv_omega
      refine w_some (d := .str (Str.ofString (toString j))) (s := st) ?_ ?_
      · have : j.natAbs.log2 < 1920 := by omega
        simp only [strXP, strP, if_pos this]
      bv_omega
      refine ⟨by first | rfl | trivial, _, rfl, by simp, fun x hx => ?_⟩
      simp only [List.mem_cons, List.not_mem_nil, or_false] at hx
      rcases hx with rfl | rfl | rfl | rfl | rfl
      · exact nx_int (by omega)
      · exact nx_int (by omega)
      · exact nx_int (by omega)
      · exact nx_bl
      · exact nx_str ht (by omega)
    case bl b =>
      bv_omega
      refine ⟨by first | rfl | trivial, _, rfl, by simp, fun x hx => ?_⟩
      have hb : 0 ≤ b2 b ∧ b2 b ≤ 1 := by cases b <;> decide
      simp only [List.mem_cons, List.not_mem_nil, or_false] at hx
      rcases hx with rfl | rfl | rfl | rfl | rfl
      · exact nx_int (by omega)
      · exact nx_int (by omega)
      · exact nx_int (by omega)
      · exact nx_bl
      · cases b
        · exact nx_str (s := "False") (by decide) (by omega)
        · exact nx_str (s := "True") (by decide) (by omega)
    all_goals exact absurd hi (by simp only [kd]; decide +kernel)
  · have up : Nx st (k + 1) D B d := hd.kp (fun _ e => e) (by omega) (Nat.le_refl _) (Nat.le_refl _)
    bv_omega
    refine ⟨by first | rfl | trivial, _, rfl, by simp, fun x hx => ?_⟩
    simp only [List.mem_cons, List.not_mem_nil, or_false] at hx
    rcases hx with rfl | rfl
    · exact up.kp (fun _ e => e) (Int.le_refl _) (by omega) (by omega)
    · exact (nx_one up).2.kp (fun _ e => e) (Int.le_refl _) (by omega) (by omega)
  rintro v s ⟨rfl, near, rfl, hl, hn⟩
  refine ⟨_, rfl, ?_⟩
  bv_omega
  refine w_ll (by simp; omega) ?_
  bv_omega
  exact wR_mono (fin near hl hn) fun d s h => h
theorem spoilt_g : ∀ (f : Nat) {n : Nat} {R st : DSt} {d : DV} {Q : DV → DSt → Prop}, Db n R st → n + 3 * f < 2 ^ 40 → 0 ≤ k ∧ k ≤ 50 → wd st k d → dp d < f → bk d ≤ 3000 →
    (∀ x st' ext m, m ≤ n + 3 * f → Db m (R ++ ext) st' → Nx st' (k + 1) (dp d + 1) (2 * bk d + 200) x → Q x st') → wR (m__law_spoilt f [.ref 1, d] st) Q
  | 0, _, _, _, _, _, _, _, _, _, h, _, _ => by omega
  | f + 1, n, R, st, d, Q, hD, hc, hk, hw, hd, hb, q => by
    have odd : ∀ {m : Nat} {s : DSt}, Db m R s → m ≤ n + 1 → wR (m__law_odd [.ref 1, d] s) Q := fun {m s} D1 hm =>
      odd_g (D := dp d) (B := bk d) D1 (by omega) hk ⟨wd_kp (hD.kp D1 fun _ e => e) (Int.le_refl _) d hw, Nat.le_refl _, Nat.le_refl _⟩ fun x st' ext D2 hx =>
        q x st' ext _ (by omega) D2 (hx.kp (fun _ e => e) (Int.le_refl _) (Nat.le_refl _) (by omega))
    unfold m__law_spoilt
    refine w_fn ?_
    unfold b__law_spoilt
    simp only [List.map_cons, List.map_nil, List.length_cons, List.length_nil, List.cons_append, List.nil_append, List.reduceReplicate, Nat.reduceAdd, Nat.reduceSub]
    bv_omega
    refine draw_ok hD (by decide) (by decide) (by omega) fun way st1 w0 w1 D1 => ?_
    bv_omega
    have hw1 := wd_kp (hD.kp D1 fun _ e => e) (Int.le_refl _) d hw
    refine w_isi (wd_kd hw1) ?_
    rcases kd_tup (d := d) with ⟨ds, rfl⟩ | ⟨h1, h2⟩
    · refine ⟨_, rfl, ite_ff rfl ?_⟩
      bv_omega
      cases ds with
      | nil =>
        refine ite_tt rfl ?_
        bv_omega
        exact odd D1 (by omega)
      | cons d0 dr =>
        refine ite_ff rfl ?_
        bv_omega
        refine ite_d (fun z => ?_) (fun z => ?_)
        · bv_omega
          exact odd D1 (by omega)
        have hl1 : 1 ≤ (d0 :: dr).length := by simp
        generalize d0 :: dr = ds at hl1 hw hw1 hd hb q odd ⊢
        have hl := bks_len ds
        simp only [bk] at hb
        simp only [dp] at hd
        have h3 : ds.length ≤ 3000 := by omega
        bv_omega
        refine draw_ok D1 (by omega) (by omega) (by omega) fun at_ st2 a0 a1 D2 => ?_
        obtain ⟨a, rfl⟩ := Int.eq_ofNat_of_zero_le a0
        have hal : a < ds.length := by omega
        have e1 : ((a : Int) + 1) = ((a + 1 : Nat) : Int) := by omega
        have e2 : ((a : Int) + 2) = ((a + 2 : Nat) : Int) := by omega
        have hw2 := wd_kp (hD.kp D2 fun _ e => e) (Int.le_refl k) _ hw
        simp only [wd] at hw2
        have mem : ∀ x ∈ ds, wd st2 k x := wds_iff.mp hw2
        bv_omega
        rw [e1, cut_to, cut_from]
        refine w_tt ?_ ?_
        · simp only [List.length_take, List.length_drop]
          omega
        bv_omega
        rw [e1, cut_to, cut_from]
        refine w_tt ?_ ?_
        · simp only [List.length_take, List.length_drop]
          omega
        bv_omega
        refine ⟨.inr ⟨rfl, seq_last⟩, ?_⟩
        bv_omega
        obtain ⟨m, em⟩ := cut_mid (ds := ds) (a := a) (b := a + 2) (by omega)
        rw [e2, em, cut_to]
        refine w_tt ?_ ?_
        · simp only [List.length_take, List.length_drop, List.length_reverse]
          omega
        bv_omega
        rw [e2, cut_from]
        refine w_tt ?_ ?_
        · simp only [List.length_take, List.length_drop, List.length_reverse, List.length_append]
          omega
        bv_omega
        refine app_last (Nat.lt_of_le_of_lt (m := 2) (by simp) (by decide)) ?_
        bv_omega
        have D3 := D2.more (.lst ([DV.tup (List.take a ds ++ List.drop (a + 1) ds), DV.tup (List.take (a + 1) ds ++ List.drop a ds)] ++ [DV.tup (List.take a ds ++ (List.take m (List.drop a ds)).reverse ++ List.drop (a + 2) ds)]))
        have kp3 := hD.kp D3 (Kep.app R _)
        have sub : ∀ (xs : List DV), (∀ x ∈ xs, x ∈ ds) → bks xs ≤ 2 * bks ds → Nx st2 k (dp (.tup ds)) (2 * bk (.tup ds)) (.tup xs) := fun xs h1 h2 =>
          ⟨by simp only [wd]; exact wds_iff.mpr fun x hx => mem x (h1 x hx), by
            simp only [dp]
            have := dps_le.mp (Nat.le_refl (dps ds))
            have : dps xs ≤ dps ds := dps_le.mpr fun x hx => this x (h1 x hx)
            omega, by simp only [bk]; exact h2⟩
        have t1 := bks_take a ds
        have t2 := bks_take (a + 1) ds
        have t3 := bks_take (a + 2) ds
        have t4 := bks_take m (ds.drop a)
        have three : ∀ d ∈ ([DV.tup (List.take a ds ++ List.drop (a + 1) ds), DV.tup (List.take (a + 1) ds ++ List.drop a ds)] ++ [DV.tup (List.take a ds ++ (List.take m (List.drop a ds)).reverse ++ List.drop (a + 2) ds)]), Nx st2 k (dp (.tup ds)) (2 * bk (.tup ds)) d := by
          intro d hd
          simp only [List.cons_append, List.nil_append, List.mem_cons, List.not_mem_nil, or_false] at hd
          rcases hd with rfl | rfl | rfl
          · refine sub _ (fun x hx => ?_) (by rw [bks_app]; omega)
            rcases List.mem_append.mp hx with h | h
            · exact List.mem_of_mem_take h
            · exact List.mem_of_mem_drop h
          · refine sub _ (fun x hx => ?_) (by rw [bks_app]; omega)
            rcases List.mem_append.mp hx with h | h
            · exact List.mem_of_mem_take h
            · exact List.mem_of_mem_drop h
          · refine sub _ (fun x hx => ?_) (by rw [bks_app, bks_app, bks_rev]; omega)
            rcases List.mem_append.mp hx with h | h
            · rcases List.mem_append.mp h with h | h
              · exact List.mem_of_mem_take h
              · exact List.mem_of_mem_drop (List.mem_of_mem_take (List.mem_reverse.mp h))
            · exact List.mem_of_mem_drop h
        have hlen : ([DV.tup (List.take a ds ++ List.drop (a + 1) ds), DV.tup (List.take (a + 1) ds ++ List.drop a ds)] ++ [DV.tup (List.take a ds ++ (List.take m (List.drop a ds)).reverse ++ List.drop (a + 2) ds)]).length = 3 := rfl
        generalize [DV.tup (List.take a ds ++ List.drop (a + 1) ds), DV.tup (List.take (a + 1) ds ++ List.drop a ds)] ++ [DV.tup (List.take a ds ++ (List.take m (List.drop a ds)).reverse ++ List.drop (a + 2) ds)] = th at D3 kp3 three hlen ⊢
        refine ite_d (fun w4 => ?_) (fun w4 => ?_)
        · bv_omega
          obtain ⟨i, ei⟩ := Int.eq_ofNat_of_zero_le (a := way - 1) (by omega)
          have hi : i < th.length := by omega
          rw [ei]
          refine w_ixR (by simp) (List.getElem?_eq_getElem hi) ?_
          have := three _ (List.getElem_mem hi)
          exact q _ _ _ _ (by omega) D3 (this.kp (Kep.app _ _) (by omega) (by omega) (by omega))
        · bv_omega
          refine w_ixT (List.getElem?_eq_getElem hal) ?_
          have hx := mem _ (List.getElem_mem hal)
          have bx := bks_mem (List.getElem_mem hal)
          have dx := dps_le.mp (Nat.le_refl (dps ds)) _ (List.getElem_mem hal)
          bv_omega
          refine spoilt_g f D3 (by omega) hk (wd_kp (Kep.app _ _) (Int.le_refl _) _ hx) (by omega) (by omega) fun x st' ext m' hm' D4 hx4 => ?_
          bv_omega
          rw [cut_to]
          refine w_tt ?_ ?_
          · simp only [List.length_take, List.length_cons, List.length_nil]
            omega
          bv_omega
          rw [e1, cut_from]
          refine w_tt ?_ ?_
          · simp only [List.length_take, List.length_drop, List.length_append, List.length_cons, List.length_nil]
            omega
          rw [List.append_assoc] at D4
          have kp4 := hD.kp D4 (Kep.app R _)
          refine q _ _ _ _ (by omega) D4 ⟨?_, ?_, ?_⟩
          · simp only [wd] at hw ⊢
            refine wds_iff.mpr fun y hy => ?_
            have old : y ∈ ds → wd st' (k + 1) y := fun h => wd_kp kp4 (by omega) _ (wds_iff.mp hw y h)
            rcases List.mem_append.mp hy with h | h
            · rcases List.mem_append.mp h with h | h
              · exact old (List.mem_of_mem_take h)
              · rw [List.mem_singleton.mp h]
                exact hx4.w
            · exact old (List.mem_of_mem_drop h)
          · simp only [dp]
            have hx4d := hx4.p
            have dm := dps_le.mp (Nat.le_refl (dps ds))
            have : dps (ds.take a ++ [x] ++ ds.drop (a + 1)) ≤ dps ds + 1 := by
              refine dps_le.mpr fun y hy => ?_
              have old : y ∈ ds → dp y ≤ dps ds + 1 := fun h => Nat.le_succ_of_le (dm y h)
              rcases List.mem_append.mp hy with h | h
              · rcases List.mem_append.mp h with h | h
                · exact old (List.mem_of_mem_take h)
                · rw [List.mem_singleton.mp h]
                  omega
              · exact old (List.mem_of_mem_drop h)
            omega
          · simp only [bk, bks_app, bks]
            have := hx4.b
            have e5 : ds.drop a = ds[a] :: ds.drop (a + 1) := List.drop_eq_getElem_cons hal
            rw [e5] at t1
            simp only [bks] at t1
            omega
    · rw [h1]
      refine ⟨_, rfl, ite_tt rfl ?_⟩
      bv_omega
      exact odd D1 (by omega)
end
end DM

namespace DM
open PySem PySem.Spec PyProof.Rows L2
set_option maxHeartbeats 4000000
local macro_rules | `(tactic| bv_omega) => `(tactic| repeat first
  | ((with_reducible apply w_addT); (· decide))
  | with_reducible refine ⟨_, dput_turn, ?_⟩
  | with_reducible apply dget_turn
  | with_reducible apply dget_seed
  | with_reducible apply dget_cells
  | ((with_reducible apply w_eVar); (· rfl))
  | with_reducible apply w_eC
  | with_reducible apply w_e2
  | with_reducible apply w_asCons
  | with_reducible apply w_asNil
  | with_reducible apply w_eCall
  | with_reducible apply w_addI
  | with_reducible apply w_subI
  | ((with_reducible apply w_mod); (· (first | decide | omega | assumption)))
  | ((with_reducible apply w_mulR); (· (constructor <;> omega)))
  | ((with_reducible apply w_mulF); (· (constructor <;> omega)))
  | ((with_reducible apply w_div); (· (constructor <;> omega)))
  | ((with_reducible apply w_divW); (· (constructor <;> omega)))
  | with_reducible apply w_eqI
  | with_reducible apply w_eqS
  | with_reducible apply w_neI
  | with_reducible apply w_neS
  | with_reducible apply w_leI
  | with_reducible apply w_ltI
  | with_reducible apply w_gtI
  | with_reducible apply w_geI
  | with_reducible apply w_seqAsg
  | with_reducible apply w_seqExpr
  | with_reducible apply w_seqIf
  | with_reducible apply w_seqNx
  | with_reducible apply w_seqSeq
  | with_reducible apply w_seqRet
  | with_reducible apply w_seqRetN
  | with_reducible apply w_seqBrk
  | with_reducible apply w_seqCont
  | with_reducible apply w_seqSet
  | with_reducible apply w_sRet
  | with_reducible apply w_sAsg
  | with_reducible apply w_sExpr
  | with_reducible apply w_sIf
  | with_reducible apply w_sNx
  | with_reducible apply w_sBrk
  | with_reducible apply w_sCont
  | with_reducible apply w_sRetN
  | with_reducible apply w_sSetIx
  | with_reducible apply w_bOf
  | with_reducible apply w_bAnd
  | with_reducible apply w_bOr
  | with_reducible apply w_bNot
  | with_reducible apply w_bYes
  | with_reducible apply w_eB
  | with_reducible apply w_eTup
  | with_reducible apply w_eLst
  | with_reducible apply w_eLstR
  | with_reducible apply w_e1
  | with_reducible apply w_eIf
  | with_reducible apply w_eAnd
  | with_reducible apply w_eOr
  | with_reducible apply w_eNot
  | with_reducible apply w_eChain
  | with_reducible apply w_eMet
  | with_reducible apply w_eSl
  | with_reducible apply w_oNone
  | with_reducible apply w_oSome
  | with_reducible apply w_eLc
  | with_reducible apply w_eLcR
  | with_reducible apply w_iSeqO
  | with_reducible apply iteT
  | with_reducible apply iteTr
  | with_reducible apply iteF
  | with_reducible apply iteNT
  | with_reducible apply iteNF
  | with_reducible refine ⟨.inr ⟨rfl, rfl⟩, ?_⟩
  | with_reducible refine ⟨.inl ⟨rfl, rfl⟩, ?_⟩
  | ((with_reducible apply w_pow); (· decide))
  | with_reducible apply w_iRngA
  | with_reducible apply w_iRngB
  | with_reducible apply w_seqWhile
  | with_reducible apply w_sWhile
  | with_reducible apply w_seqFor
  | with_reducible apply w_sFor
  | with_reducible apply w_forCons
  | with_reducible apply w_forNil
  | with_reducible apply w_eRg1
  | ((with_reducible apply w_rgL); (· (refine ⟨?_, ?_, ?_, ?_⟩ <;> omega)))
  | ((with_reducible apply w_rgT); (· (refine ⟨?_, ?_, ?_, ?_⟩ <;> omega)))
  | ((with_reducible apply w_rgR); (· (refine ⟨?_, ?_, ?_, ?_⟩ <;> omega)))
  | with_reducible apply w_eJoin
  | with_reducible apply w_jCons
  | with_reducible apply w_jNil
  | with_reducible apply qN_nx
  | with_reducible apply qN_rt
  | with_reducible apply qN_bk
  | with_reducible apply qN_ct
  | with_reducible apply qF_rt
  | with_reducible apply qF_nx
  | with_reducible apply qI_nx
  | with_reducible apply qI_ct
  | with_reducible apply qI_bk
  | with_reducible apply qI_rt
  | with_reducible apply w_eD0
  | with_reducible apply w_eDisp
  | with_reducible apply w_ksCons
  | with_reducible apply w_ksNil
  | (with_reducible refine ⟨_, rfl, ?_⟩; try simp only [List.set_cons_zero, List.set_cons_succ])
  | (with_reducible refine ⟨len_ok ?_, ?_⟩; (· (simp only [List.length_cons, List.length_nil]; omega)))
  | with_reducible refine ⟨⟨rfl, rfl⟩, ?_⟩
  | with_reducible apply w_isiS
  | with_reducible apply w_neNil0
  | with_reducible apply w_eqNil0
  | (with_reducible refine ⟨rngOk ?_ ?_, ?_⟩; (· omega); (· omega))
  | ((with_reducible apply w_some); (· (fail_if_success (with_reducible apply repr_stop)); rfl)))

/-! ### rows made -/
def MR (d : DV) : Prop := ∃ (c x b e : Int) (w : Str), d = .tup [.int c, .str w, .int x, .int b, .int e] ∧ 0 ≤ c ∧ c ≤ 10 ∧ 0 ≤ x ∧ x ≤ 999999 ∧ 0 ≤ b ∧ b ≤ 1000 ∧ -1 ≤ e ∧ e ≤ 2000 ∧ ((w = "read" ∧ b ≤ e) ∨ (w = "write" ∧ (b ≤ e ∨ e = -1)))
section
variable {n : Nat} {R st : DSt} {k : Int} {Q : DV → DSt → Prop}
theorem MR.ok {d : DV} (h : MR d) : rowOk d = true := by
  obtain ⟨c, x, b, e, w, rfl, c0, c1, x0, x1, b0, b1, e0, e1, h⟩ := h
  have lo : (decide (0 ≤ c) && decide (0 ≤ b) && (decide (0 ≤ x) && decide (x ≤ 999999))) = true := by
    simp only [Bool.and_eq_true, decide_eq_true_eq]
    omega
  rcases h with ⟨rfl, h⟩ | ⟨rfl, h⟩
  · simp only [rowOk, lo, h, decide_true, Bool.true_and, Bool.true_or]
  · rcases h with h | h
    · simp only [rowOk, lo, h, decide_true, Bool.true_and, Bool.true_or, Bool.or_true]
    · simp only [rowOk, lo, h, decide_true, Bool.true_and, Bool.or_true]
theorem MR.nx {d : DV} (hk : 0 ≤ k) (h : MR d) : Nx st k 1 10 d := by
  obtain ⟨c, x, b, e, w, rfl, c0, c1, x0, x1, b0, b1, e0, e1, h⟩ := h
  have hw : w.cps.size ≤ 5 ∧ wd st k (.str w) := by
    have h1 : ("read" : Str).cps.size = 4 := by decide +kernel
    have h2 : ("write" : Str).cps.size = 5 := by decide +kernel
    rcases h with ⟨rfl, _⟩ | ⟨rfl, _⟩
    · exact ⟨by omega, (nx_str (D := 0) (B := 150) (by decide) (by omega)).w⟩
    · exact ⟨by omega, (nx_str (D := 0) (B := 150) (by decide) (by omega)).w⟩
  refine ⟨?_, by simp [dp, dps], by simp only [bk, bks]; omega⟩
  simp only [wd, wds] at hw ⊢
  refine ⟨by omega, hw.2, by omega, by omega, by omega, trivial⟩
theorem arow_g (D : Db n R st) (hc : n < 2 ^ 30) (q : ∀ d st' m, MR d → m ≤ n + 20 → Db m R st' → Q d st') : wR (m__law_a_row [.ref 1] st) Q := by
  unfold m__law_a_row
  refine w_fn ?_
  unfold b__law_a_row
  simp only [List.map_cons, List.map_nil, List.length_cons, List.length_nil, List.cons_append, List.nil_append, List.reduceReplicate, Nat.reduceAdd, Nat.reduceSub]
  bv_omega
  refine draw_ok D (by decide) (by decide) (by omega) fun way s1 w0 w1 D1 => ?_
  bv_omega
  refine draw_ok D1 (by decide) (by decide) (by omega) fun c1 s2 c10 c11 D2 => ?_
  bv_omega
  refine draw_ok D2 (by decide) (by decide) (by omega) fun i1 s3 i10 i11 D3 => ?_
  bv_omega
  refine w_ixM i10 i11 fun x hx => ?_
  have hx' : ∃ j : Int, x = .int j ∧ 0 ≤ j ∧ j ≤ 999999 := by
    simp only [List.mem_cons, List.not_mem_nil, or_false] at hx
    rcases hx with rfl | rfl | rfl
    · exact ⟨0, rfl, by decide, by decide⟩
    · exact ⟨999999, rfl, by decide, by decide⟩
    · exact ⟨c1, rfl, c10, by have : (10 : Int) ^ (6 : Int).toNat = 1000000 := by decide
                              omega⟩
  obtain ⟨x, rfl, x0, x1⟩ := hx'
  clear hx
  bv_omega
  refine draw_ok D3 (by decide) (by decide) (by omega) fun b1 s4 b10 b11 D4 => ?_
  bv_omega
  refine draw_ok D4 (by decide) (by decide) (by omega) fun b2 s5 b20 b21 D5 => ?_
  bv_omega
  refine draw_ok D5 (by decide) (by decide) (by omega) fun i2 s6 i20 i21 D6 => ?_
  bv_omega
  refine w_ixM i20 i21 fun b hb => ?_
  have hb' : ∃ j : Int, b = .int j ∧ 0 ≤ j ∧ j ≤ 900 := by
    simp only [List.mem_cons, List.not_mem_nil, or_false] at hb
    rcases hb with rfl | rfl | rfl
    · exact ⟨0, rfl, by decide, by decide⟩
    · exact ⟨b1, rfl, by omega, by omega⟩
    · exact ⟨b2, rfl, by omega, by omega⟩
  obtain ⟨b, rfl, b0, b1⟩ := hb'
  clear hb
  bv_omega
  refine draw_ok D6 (by decide) (by decide) (by omega) fun mo s7 mo0 mo1 D7 => ?_
  bv_omega
  refine w_ifX (fun v s => s = s7 ∧ ∃ j : Int, v = .int j ∧ (j = b + 1 ∨ (way = 2 ∧ j = -1))) (fun hw => ?_) (fun hw => ?_) ?_
  · bv_omega
    exact ⟨by first | rfl | trivial, _, rfl, .inr ⟨by simpa using hw, rfl⟩⟩
  · bv_omega
    exact ⟨by first | rfl | trivial, _, rfl, .inl rfl⟩
  rintro v s ⟨rfl, j, rfl, hj⟩
  bv_omega
  refine draw_ok D7 (by decide) (by decide) (by omega) fun i3 s8 i30 i31 D8 => ?_
  bv_omega
  refine w_ixM i30 i31 fun e he => ?_
  have he' : ∃ e' : Int, e = .int e' ∧ ((b ≤ e' ∧ e' ≤ b + 60) ∨ (way = 2 ∧ e' = -1)) := by
    simp only [List.mem_cons, List.not_mem_nil, or_false] at he
    rcases he with rfl | rfl | rfl
    · exact ⟨b, rfl, .inl (by omega)⟩
    · exact ⟨b + mo, rfl, .inl (by omega)⟩
    · exact ⟨j, rfl, by omega⟩
  obtain ⟨e, rfl, he2⟩ := he'
  clear he
  bv_omega
  refine draw_ok D8 (by decide) (by decide) (by omega) fun c s9 c0 c1 D9 => ?_
  bv_omega
  have fin : ∀ w : Str, (way = 0 ∧ w = "read") ∨ (way ≠ 0 ∧ w = "write") → Q (.tup [.int c, .str w, .int x, .int b, .int e]) s9 := fun w hw => by
    refine q _ _ _ ⟨c, x, b, e, w, rfl, c0, by omega, x0, x1, b0, by omega, by omega, by omega, ?_⟩ (by omega) D9
    rcases hw with ⟨h1, rfl⟩ | ⟨h1, rfl⟩
    · exact .inl ⟨rfl, by omega⟩
    · exact .inr ⟨rfl, by omega⟩
  have h3 : way = 0 ∨ way = 1 ∨ way = 2 := by omega
  rcases h3 with rfl | rfl | rfl
  · refine w_ixL (i := 0) rfl ?_
    bv_omega
    exact fin _ (.inl ⟨rfl, rfl⟩)
  · refine w_ixL (i := 1) rfl ?_
    bv_omega
    exact fin _ (.inr ⟨by decide, rfl⟩)
  · refine w_ixL (i := 2) rfl ?_
    bv_omega
    exact fin _ (.inr ⟨by decide, rfl⟩)
mutual
/-- what holds of a thing written out -/
def wdc : DV → Bool
  | .tup ds => wdcs ds
  | .lst ds => wdcs ds
  | .int j => decide (-(10 ^ 39) ≤ j ∧ j ≤ 10 ^ 39)
  | .str s => decide (s.cps.size ≤ 150) && s.cps.toList.all (fun c => decide (c < 1114112))
  | .non => true
  | .bl _ => true
  | .ref _ => false
  | .fzl _ => false
  | .glo _ => false
  | .ty _ => false
def wdcs : List DV → Bool
  | [] => true
  | d :: ds => wdc d && wdcs ds
end
mutual
theorem wdc_ok (hk : 0 ≤ k) : ∀ d : DV, wdc d = true → wd st k d
  | .non, _ => trivial
  | .bl b, _ => trivial
  | .int j, h => by simp only [wdc, decide_eq_true_eq] at h; simp only [wd]; omega
  | .str s, h => by simp only [wdc, Bool.and_eq_true, decide_eq_true_eq] at h; simp only [wd]; exact h
  | .ref n, h => by simp [wdc] at h
  | .tup ds, h => by simp only [wdc] at h; simp only [wd]; exact wdcs_ok hk ds h
  | .lst ds, h => by simp only [wdc] at h; simp only [wd]; exact wdcs_ok hk ds h
  | .fzl _, h => by simp [wdc] at h
  | .glo _, h => by simp [wdc] at h
  | .ty _, h => by simp [wdc] at h
theorem wdcs_ok (hk : 0 ≤ k) : ∀ ds : List DV, wdcs ds = true → wds st k ds
  | [], _ => trivial
  | d :: ds, h => by simp only [wdcs, Bool.and_eq_true] at h; exact ⟨wdc_ok hk d h.1, wdcs_ok hk ds h.2⟩
end
theorem nx_all {D B : Nat} {ds : List DV} (hk : 0 ≤ k) (h : ds.all (fun d => wdc d && (decide (dp d ≤ D) && decide (bk d ≤ B))) = true) : ∀ d ∈ ds, Nx st k D B d := fun d hd => by
  have := List.all_eq_true.mp h d hd
  simp only [Bool.and_eq_true, decide_eq_true_eq] at this
  exact ⟨wdc_ok hk d this.1, this.2.1, this.2.2⟩
theorem edges_g (hk : 0 ≤ k) (q : ∀ ds : List DV, ds.length = 26 → (∀ d ∈ ds, Nx st k 3 40 d) → Q (.lst ds) st) : wR (m__law_edges [] st) Q := by
  unfold m__law_edges
  refine w_fn ?_
  unfold b__law_edges
  simp only [List.map_cons, List.map_nil, List.length_cons, List.length_nil, List.cons_append, List.nil_append, List.reduceReplicate, Nat.reduceAdd, Nat.reduceSub]
  bv_omega
  exact q _ rfl (nx_all hk (by decide +kernel))
end
end DM

namespace DM
open PySem PySem.Spec PyProof.Rows L2
set_option maxHeartbeats 4000000
local macro_rules | `(tactic| bv_omega) => `(tactic| repeat first
  | ((with_reducible apply w_addT); (· decide))
  | with_reducible refine ⟨_, dput_turn, ?_⟩
  | with_reducible apply dget_turn
  | with_reducible apply dget_seed
  | with_reducible apply dget_cells
  | ((with_reducible apply w_eVar); (· rfl))
  | with_reducible apply w_eC
  | with_reducible apply w_e2
  | with_reducible apply w_asCons
  | with_reducible apply w_asNil
  | with_reducible apply w_eCall
  | with_reducible apply w_addI
  | with_reducible apply w_subI
  | ((with_reducible apply w_mod); (· (first | decide | omega | assumption)))
  | ((with_reducible apply w_mulR); (· (constructor <;> omega)))
  | ((with_reducible apply w_mulF); (· (constructor <;> omega)))
  | ((with_reducible apply w_div); (· (constructor <;> omega)))
  | ((with_reducible apply w_divW); (· (constructor <;> omega)))
  | with_reducible apply w_eqI
  | with_reducible apply w_eqS
  | with_reducible apply w_neI
  | with_reducible apply w_neS
  | with_reducible apply w_leI
  | with_reducible apply w_ltI
  | with_reducible apply w_gtI
  | with_reducible apply w_geI
  | with_reducible apply w_seqAsg
  | with_reducible apply w_seqExpr
  | with_reducible apply w_seqIf
  | with_reducible apply w_seqNx
  | with_reducible apply w_seqSeq
  | with_reducible apply w_seqRet
  | with_reducible apply w_seqRetN
  | with_reducible apply w_seqBrk
  | with_reducible apply w_seqCont
  | with_reducible apply w_seqSet
  | with_reducible apply w_sRet
  | with_reducible apply w_sAsg
  | with_reducible apply w_sExpr
  | with_reducible apply w_sIf
  | with_reducible apply w_sNx
  | with_reducible apply w_sBrk
  | with_reducible apply w_sCont
  | with_reducible apply w_sRetN
  | with_reducible apply w_sSetIx
  | with_reducible apply w_bOf
  | with_reducible apply w_bAnd
  | with_reducible apply w_bOr
  | with_reducible apply w_bNot
  | with_reducible apply w_bYes
  | with_reducible apply w_eB
  | with_reducible apply w_eTup
  | with_reducible apply w_eLst
  | with_reducible apply w_eLstR
  | with_reducible apply w_e1
  | with_reducible apply w_eIf
  | with_reducible apply w_eAnd
  | with_reducible apply w_eOr
  | with_reducible apply w_eNot
  | with_reducible apply w_eChain
  | with_reducible apply w_eMet
  | with_reducible apply w_eSl
  | with_reducible apply w_oNone
  | with_reducible apply w_oSome
  | with_reducible apply w_eLc
  | with_reducible apply w_eLcR
  | with_reducible apply w_iSeqO
  | with_reducible apply iteT
  | with_reducible apply iteTr
  | with_reducible apply iteF
  | with_reducible apply iteNT
  | with_reducible apply iteNF
  | with_reducible refine ⟨.inr ⟨rfl, rfl⟩, ?_⟩
  | with_reducible refine ⟨.inl ⟨rfl, rfl⟩, ?_⟩
  | ((with_reducible apply w_pow); (· decide))
  | with_reducible apply w_iRngA
  | with_reducible apply w_iRngB
  | with_reducible apply w_seqWhile
  | with_reducible apply w_sWhile
  | with_reducible apply w_seqFor
  | with_reducible apply w_sFor
  | with_reducible apply w_forCons
  | with_reducible apply w_forNil
  | with_reducible apply w_eRg1
  | ((with_reducible apply w_rgL); (· (refine ⟨?_, ?_, ?_, ?_⟩ <;> omega)))
  | ((with_reducible apply w_rgT); (· (refine ⟨?_, ?_, ?_, ?_⟩ <;> omega)))
  | ((with_reducible apply w_rgR); (· (refine ⟨?_, ?_, ?_, ?_⟩ <;> omega)))
  | with_reducible apply w_eJoin
  | with_reducible apply w_jCons
  | with_reducible apply w_jNil
  | with_reducible apply qN_nx
  | with_reducible apply qN_rt
  | with_reducible apply qN_bk
  | with_reducible apply qN_ct
  | with_reducible apply qF_rt
  | with_reducible apply qF_nx
  | with_reducible apply qI_nx
  | with_reducible apply qI_ct
  | with_reducible apply qI_bk
  | with_reducible apply qI_rt
  | with_reducible apply w_eD0
  | with_reducible apply w_eDisp
  | with_reducible apply w_ksCons
  | with_reducible apply w_ksNil
  | (with_reducible refine ⟨_, rfl, ?_⟩; try simp only [List.set_cons_zero, List.set_cons_succ])
  | (with_reducible refine ⟨len_ok ?_, ?_⟩; (· (simp only [List.length_cons, List.length_nil]; omega)))
  | with_reducible refine ⟨⟨rfl, rfl⟩, ?_⟩
  | with_reducible apply w_isiS
  | with_reducible apply w_neNil0
  | with_reducible apply w_eqNil0
  | (with_reducible refine ⟨rngOk ?_ ?_, ?_⟩; (· omega); (· omega))
  | ((with_reducible apply w_some); (· (fail_if_success (with_reducible apply repr_stop)); rfl)))

theorem Kep.set {R : DSt} {i : Nat} {as bs : List DV} (h : R[i]? = some (.lst as)) : Kep R (R.set i (.lst bs)) := fun n e => by
  by_cases hn : n = i
  · subst hn; rw [h] at e; cases e
  · rw [List.getElem?_set_ne (fun z => hn z.symm)]; exact e
theorem mr_tup {st : DSt} {k : Int} {ds : List DV} {m : Nat} (hk : 0 ≤ k) (hl : ds.length ≤ m) (h : ∀ d ∈ ds, MR d) : Nx st k 2 (11 * m) (.tup ds) ∧ histOk (.tup ds) = true := by
  refine ⟨⟨?_, ?_, ?_⟩, ?_⟩
  · simp only [wd]
    exact wds_iff.mpr fun x hx => ((h x hx).nx hk).w
  · simp only [dp]
    have : dps ds ≤ 1 := dps_le.mpr fun x hx => ((h x hx).nx (st := st) hk).p
    omega
  · simp only [bk]
    have : ∀ xs : List DV, (∀ x ∈ xs, MR x) → bks xs ≤ 11 * xs.length := by
      intro xs
      induction xs with
      | nil => simp [bks]
      | cons x xs ih =>
        intro h
        have h1 := ((h x List.mem_cons_self).nx (st := st) hk).b
        have h2 := ih fun y hy => h y (List.mem_cons_of_mem _ hy)
        simp only [bks, List.length_cons]
        omega
    have := this ds h
    omega
  · simp only [histOk, List.all_eq_true]
    exact fun x hx => (h x hx).ok
theorem w_rl {st : DSt} {n : Nat} {a b : List DV} {Q : DV → DSt → Prop} (h : st[n]? = some (.lst a)) (hl : a.length + b.length ≤ 1000) (q : Q (.lst (a ++ b)) st) : wO (addXP (.ref n) (.lst b) st) Q := by
  refine w_some (d := .lst (a ++ b)) (s := st) ?_ q
  have : a.length + b.length ≤ sizeLine := Nat.le_trans hl (by decide)
  show addP (.ref n) (.lst b) st = _
  have e1 : lstOf st (.ref n) = some a := by simp only [lstOf, h]
  simp only [addP, e1, Option.bind_some]
  show (if _ then _ else _) = _
  rw [if_pos this]
theorem w_slR {st : DSt} {n : Nat} {a : List DV} {lo hi : Option Int} {Q : DV → DSt → Prop} (h : st[n]? = some (.lst a)) (q : Q (.lst (cutL a lo hi)) st) : wO (slP (.ref n) lo hi st) Q :=
  w_some (by simp only [slP, seqOf, h, Option.map_some]) q
theorem law_holds (ns : List Int) (hn : ns.length ≤ 63) : ∃ st, m_law [.fzl (ns.map .int)] [] = .ok (.bl true) st := by
  suffices h : wR (m_law [.fzl (ns.map .int)] []) fun d _ => d = .bl true by
    obtain ⟨d, s, e, rfl⟩ := wR_ex h
    exact ⟨s, e⟩
  unfold m_law
  refine w_fn ?_
  unfold b_law
  simp only [List.map_cons, List.map_nil, List.length_cons, List.length_nil, List.cons_append, List.nil_append, List.reduceReplicate, Nat.reduceAdd, Nat.reduceSub]
  bv_omega
  refine deck_ok fun s0 D0 => ?_
  bv_omega
  have c0 := D0.len
  have D1 := (D0.more (.dct [])).more (.lst [DV.non, DV.bl true, DV.int 0, DV.str "", DV.str "read", DV.lst [], DV.ref s0.length, DV.tup [], DV.tup [DV.tup []], DV.tup [DV.non], DV.lst [DV.tup [DV.int 0, DV.str "read", DV.int 0, DV.int 0, DV.int 0]], DV.tup [DV.int 0, DV.str "read", DV.int 0, DV.int 0, DV.int 0]])
  refine for_inv (fun ds e st => ∃ (t n i : Nat) (R : DSt) (th : List DV) (x3 x4 x5 x6 x7 x8 x9 : Option DV), ds = (rng1 4).drop t ∧ n ≤ 2000 * t ∧ t ≤ 4 ∧ Db n R st ∧ R[i]? = some (.lst th) ∧ (∀ d ∈ th, Nx st 2 8 4000 d) ∧ th.length ≤ 12 + 15 * t ∧ 
    e = [some (.fzl (ns.map .int)), some (.ref 1), some (.ref (i + 2)), x3, x4, x5, x6, x7, x8, x9]) ?_ ?_ _ _ _
    ⟨0, 0, 1, _, _, none, none, none, none, none, none, none, rfl, by omega, by omega, D1, rfl, ?_, by simp, by rw [List.length_append, c0]; rfl⟩
  · clear D1 D0 c0
    rintro d ds e st ⟨t, n, i, R, th, x3, x4, x5, x6, x7, x8, x9, e1, hn', ht, D, hi, hth, lth, rfl⟩
    obtain ⟨rfl, rfl, ht3⟩ := rng_step e1
    clear e1
    refine ⟨_, rfl, ?_⟩
    bv_omega
    refine lcM_inv (fun ds acc s => ∃ n2, Db n2 R s ∧ n2 + ds.length ≤ n + 10 ∧ acc.length + ds.length ≤ 10 ∧ ∀ d ∈ acc, ∃ j, d = .int j) ?_ ?_ _ [] _ ⟨n, D, by simp [rng1], by simp [rng1], by simp⟩
    · rintro d ds acc s ⟨n2, D2, hn2, hl, hs⟩
      simp only [List.length_cons] at hn2 hl
      refine ⟨_, rfl, ?_⟩
      bv_omega
      refine draw_ok D2 (by decide) (by decide) (by omega) fun x s3 y0 y1 D3 => ?_
      refine ⟨Nat.lt_of_le_of_lt (m := 10) (by omega) (by decide), n2 + 1, D3, by omega, by simp; omega, fun d hd => ?_⟩
      rcases List.mem_append.mp hd with h | h
      · exact hs d h
      · exact ⟨_, List.mem_singleton.mp h⟩
    rintro tw s2 ⟨n2, D2, hn2, hl2, htw⟩
    simp only [List.length_nil, Nat.add_zero] at hn2 hl2
    bv_omega
    refine draw_ok D2 (by decide) (by decide) (by omega) fun m s3 m0 m1 D3 => ?_
    bv_omega
    refine lcM_inv (fun ds acc s => ∃ n3, Db n3 R s ∧ n3 + 20 * ds.length ≤ n + 131 ∧ acc.length + ds.length ≤ 6 ∧ ∀ d ∈ acc, MR d) ?_ ?_ _ [] _ ⟨_, D3, by simp [rng1]; omega, by simp [rng1]; omega, by simp⟩
    · rintro d ds acc s ⟨n3, D4, hn3, hl, hs⟩
      simp only [List.length_cons] at hn3 hl
      refine ⟨_, rfl, ?_⟩
      bv_omega
      refine arow_g D4 (by omega) fun d s4 m4 hd4 hm4 D5 => ?_
      refine ⟨Nat.lt_of_le_of_lt (m := 10) (by omega) (by decide), m4, D5, by omega, by simp; omega, fun d hd => ?_⟩
      rcases List.mem_append.mp hd with h | h
      · exact hs d h
      · rw [List.mem_singleton.mp h]; exact hd4
    rintro rows s4 ⟨n4, D4, hn4, hl4, hrows⟩
    simp only [List.length_nil, Nat.add_zero] at hn4 hl4
    bv_omega
    obtain ⟨nr, ho⟩ := mr_tup (st := s4) (k := 0) (Int.le_refl _) hl4 hrows
    refine ishist_g nr.w (by have := nr.b; omega) ?_
    rw [ho]
    bv_omega
    refine ite_ff (by simp) ?_
    bv_omega
    refine w_lcF (fun _ => false) id (ds := rows) (by omega) (fun x hx => ?_) ?_
    · obtain ⟨n1, h1⟩ := mr_tup (st := s4) (k := 0) (ds := [x]) (m := 1) (Int.le_refl _) (by simp) (fun y hy => by rw [List.mem_singleton.mp hy]; exact hrows x hx)
      refine ⟨_, rfl, ?_⟩
      bv_omega
      refine ishist_g n1.w (by have := n1.b; omega) ?_
      rw [h1]
      bv_omega
      exact ⟨by first | rfl | trivial, by first | rfl | trivial, fun z => by cases z⟩
    rw [List.filter_eq_nil_iff.mpr (by simp), List.map_nil]
    bv_omega
    refine ite_ff rfl ?_
    bv_omega
    refine w_tt (by omega) ?_
    bv_omega
    have e1 : lstOf s4 (.ref (i + 2)) = some th := by simp only [lstOf, D4.at_, hi]
    refine w_addR e1 rfl (Nat.le_trans (m := 1000) (by simp; omega) (by decide)) ?_
    have D5 := D4.more (.lst (th ++ [DV.tup rows, DV.tup rows.reverse, DV.tup (rows ++ rows), DV.lst rows, DV.tup [DV.tup rows]]))
    have kp5 := D.kp D5 (Kep.app R _)
    have h5 : (R ++ [DO.lst (th ++ [DV.tup rows, DV.tup rows.reverse, DV.tup (rows ++ rows), DV.lst rows, DV.tup [DV.tup rows]])])[R.length]? = some (.lst (th ++ [DV.tup rows, DV.tup rows.reverse, DV.tup (rows ++ rows), DV.lst rows, DV.tup [DV.tup rows]])) := by simp
    have c4 := D4.len
    rw [c4]
    have nr5 := nr.kp (Kep.app s4 [DO.lst (th ++ [DV.tup rows, DV.tup rows.reverse, DV.tup (rows ++ rows), DV.lst rows, DV.tup [DV.tup rows]])]) (Int.le_refl _) (Nat.le_refl _) (Nat.le_refl _)
    have hth5 : ∀ d ∈ th ++ [DV.tup rows, DV.tup rows.reverse, DV.tup (rows ++ rows), DV.lst rows, DV.tup [DV.tup rows]], Nx (s4 ++ [DO.lst (th ++ [DV.tup rows, DV.tup rows.reverse, DV.tup (rows ++ rows), DV.lst rows, DV.tup [DV.tup rows]])]) 2 8 4000 d := by
      intro d hd
      rcases List.mem_append.mp hd with h | h
      · exact (hth d h).kp kp5 (Int.le_refl _) (Nat.le_refl _) (Nat.le_refl _)
      refine Nx.kp (k := 2) (D := 8) (B := 4000) (st := s4) ?_ (Kep.app _ _) (Int.le_refl _) (Nat.le_refl _) (Nat.le_refl _)
      have up : ∀ {x : DV} {m D B : Nat}, Nx s4 0 D B x → D ≤ 8 → B ≤ 4000 → Nx s4 2 8 4000 x := fun h a b => h.kp (fun _ e => e) (by decide) a b
      simp only [List.mem_cons, List.not_mem_nil, or_false] at h
      rcases h with rfl | rfl | rfl | rfl | rfl
      · exact up (m := 0) nr (by decide) (by decide)
      · exact up (m := 0) (mr_tup (m := 6) (Int.le_refl _) (by simp; omega) (fun x hx => hrows x (List.mem_reverse.mp hx))).1 (by decide) (by decide)
      · exact up (m := 0) (mr_tup (m := 12) (Int.le_refl _) (by simp; omega) (fun x hx => by rcases List.mem_append.mp hx with h | h <;> exact hrows x h)).1 (by decide) (by decide)
      · exact up (m := 0) (⟨by have := nr.w; simpa only [wd] using this, by have := nr.p; simpa only [dp] using this, by have := nr.b; simpa only [bk] using this⟩ : Nx s4 0 2 66 (.lst rows)) (by decide) (by decide)
      · exact up (m := 0) (nx_one nr).1 (by decide) (by decide)
    have l5 : (th ++ [DV.tup rows, DV.tup rows.reverse, DV.tup (rows ++ rows), DV.lst rows, DV.tup [DV.tup rows]]).length ≤ 12 + 15 * t + 5 := by simp; omega
    generalize th ++ [DV.tup rows, DV.tup rows.reverse, DV.tup (rows ++ rows), DV.lst rows, DV.tup [DV.tup rows]] = th5 at D5 h5 kp5 nr5 hth5 l5 ⊢
    generalize R ++ [DO.lst th5] = R5 at D5 h5 ⊢
    generalize s4 ++ [DO.lst th5] = s5 at D5 kp5 nr5 hth5 ⊢
    generalize R.length = i5 at h5 ⊢
    clear e1 c4 D4 D3 D2 D hi hth
    bv_omega
    refine for_inv (fun ds e s => ∃ (n6 : Nat) (R6 : DSt) (th6 : List DV) (y6 y7 : Option DV), (∀ d ∈ ds, ∃ j, d = DV.int j) ∧ n6 + 72 * ds.length ≤ n4 + 720 ∧ Db n6 R6 s ∧ R6[i5]? = some (.lst th6) ∧ (∀ d ∈ th6, Nx s 2 8 4000 d) ∧ th6.length + ds.length ≤ 12 + 15 * t + 15 ∧ Nx s 0 2 66 (.tup rows) ∧ 
      e = [some (.fzl (ns.map .int)), some (.ref 1), some (.ref (i5 + 2)), some (.int (t : Int)), some (.lst tw), some (.tup rows), y6, y7, x8, x9]) ?_ ?_ _ _ _
      ⟨n4, R5, th5, x6, x7, htw, by omega, D5, h5, hth5, by omega, nr5, rfl⟩
    · clear D5 h5 hth5 nr5 l5 kp5
      rintro d ds e s ⟨n6, R6, th6, y6, y7, hds, hn6, D6, h6, hth6, l6, nr6, rfl⟩
      simp only [List.length_cons] at hn6 l6
      obtain ⟨j, rfl⟩ := hds d List.mem_cons_self
      refine ⟨_, rfl, ?_⟩
      bv_omega
      have b6 := nr6.b
      have p6 := nr6.p
      refine spoilt_g (k := 0) 12 D6 (by omega) (by decide) nr6.w (by omega) (by omega) fun it s7 ext7 m7 hm7 D7 hx7 => ?_
      have kp7 := D6.kp D7 (Kep.app _ _)
      have h7 : (R6 ++ ext7)[i5]? = some (.lst th6) := by rw [List.getElem?_append_left (List.getElem?_eq_some_iff.mp h6).1]; exact h6
      bv_omega
      refine ⟨.inr ⟨rfl, seq_at (p := i5) D7 h7⟩, ?_⟩
      bv_omega
      refine w_ifX (fun v s => ∃ m8 R8, Db m8 R8 s ∧ m8 ≤ m7 + 36 ∧ R8[i5]? = some (.lst th6) ∧ Kep s7 s ∧ Nx s 2 8 4000 v) (fun hc => ?_) (fun hc => ?_) ?_
      · bv_omega
        have b7 := hx7.b
        have p7 := hx7.p
        refine spoilt_g (k := 1) 12 D7 (by omega) (by decide) hx7.w (by omega) (by omega) fun it2 s8 ext8 m8 hm8 D8 hx8 => ?_
        refine ⟨m8, _, D8, by omega, by rw [List.getElem?_append_left (List.getElem?_eq_some_iff.mp h7).1]; exact h7, D7.kp D8 (Kep.app _ _), hx8.kp (fun _ e => e) (by decide) (by omega) (by omega)⟩
      · bv_omega
        exact ⟨m7, _, D7, by omega, h7, fun _ e => e, hx7.kp (fun _ e => e) (by decide) (by omega) (by omega)⟩
      rintro v s8 ⟨m8, R8, D8, hm8, h8, kp8, hv⟩
      bv_omega
      refine app_at (p := i5) D8 h8 (by omega) fun s9 D9 => ?_
      have kp9 := D8.kp D9 (Kep.set h8)
      have kp69 := kp7.trans (kp8.trans kp9)
      bv_omega
      refine ⟨m8, _, th6 ++ [v], _, _, fun d hd => hds d (List.mem_cons_of_mem _ hd), by omega, D9, by rw [List.getElem?_set_self (List.getElem?_eq_some_iff.mp h8).1], fun d hd => ?_, by simp; omega, nr6.kp kp69 (Int.le_refl _) (Nat.le_refl _) (Nat.le_refl _), rfl⟩
      rcases List.mem_append.mp hd with h | h
      · exact (hth6 d h).kp kp69 (Int.le_refl _) (Nat.le_refl _) (Nat.le_refl _)
      · rw [List.mem_singleton.mp h]
        exact hv.kp kp9 (Int.le_refl _) (Nat.le_refl _) (Nat.le_refl _)
    · rintro e s ⟨n6, R6, th6, y6, y7, hds, hn6, D6, h6, hth6, l6, nr6, rfl⟩
      simp only [List.length_nil] at hn6 l6
      bv_omega
      exact ⟨t + 1, n6, i5, R6, th6, _, _, _, _, _, _, _, rfl, by omega, by omega, D6, h6, hth6, by omega, rfl⟩
  · rintro e st ⟨t, n, i, R, th, x3, x4, x5, x6, x7, x8, x9, e1, hn', ht, D, hi, hth, lth, rfl⟩
    bv_omega
    refine edges_g (k := 2) (by decide) fun E1 l1 h1 => ?_
    refine ⟨_, rfl, _, rfl, ?_⟩
    refine w_lcMap (fun d => .tup [d]) (fun x hx => ?_) (Nat.le_trans (m := 26) (by omega) (by decide)) ?_
    · refine ⟨_, rfl, ?_⟩
      bv_omega
      exact ⟨by first | rfl | trivial, by first | rfl | trivial⟩
    have g1 : st[i + 2]? = some (.lst th) := by rw [D.at_, hi]
    refine w_rl g1 (by simp; omega) ?_
    bv_omega
    refine edges_g (k := 2) (by decide) fun E2 l2 h2 => ?_
    refine ⟨_, rfl, _, rfl, ?_⟩
    refine w_lcMap (fun d => .tup [.tup [.int 0, .str "read", .int 0, .int 0, .int 0], d]) (fun x hx => ?_) (Nat.le_trans (m := 26) (by omega) (by decide)) ?_
    · refine ⟨_, rfl, ?_⟩
      bv_omega
      exact ⟨by first | rfl | trivial, by first | rfl | trivial⟩
    refine w_addR rfl rfl (Nat.le_trans (m := 1000) (by simp; omega) (by decide)) ?_
    have hall : ∀ d ∈ th ++ E1.map (fun d => DV.tup [d]) ++ E2.map (fun d => DV.tup [.tup [.int 0, .str "read", .int 0, .int 0, .int 0], d]), Nx st 2 8 4000 d := by
      intro d hd
      rcases List.mem_append.mp hd with h | h
      · rcases List.mem_append.mp h with h | h
        · exact hth d h
        · obtain ⟨x, hx, rfl⟩ := List.mem_map.mp h
          exact (nx_one (h1 x hx)).1.kp (fun _ e => e) (by decide) (by decide) (by decide)
      · obtain ⟨x, hx, rfl⟩ := List.mem_map.mp h
        obtain ⟨a1, a2, a3⟩ := h2 x hx
        obtain ⟨b1, b2, b3⟩ := nx_all (st := st) (k := 2) (D := 1) (B := 10) (ds := [.tup [.int 0, .str "read", .int 0, .int 0, .int 0]]) (by decide) (by decide +kernel) _ List.mem_cons_self
        refine ⟨?_, ?_, ?_⟩
        · rw [wd, wds, wds, wds]; exact ⟨b1, a1, trivial⟩
        · rw [dp, dps, dps, dps]; omega
        · rw [bk, bks, bks, bks]; omega
    have lall : (th ++ E1.map (fun d => DV.tup [d]) ++ E2.map (fun d => DV.tup [.tup [.int 0, .str "read", .int 0, .int 0, .int 0], d])).length ≤ 200 := by simp; omega
    generalize th ++ E1.map (fun d => DV.tup [d]) ++ E2.map (fun d => DV.tup [.tup [.int 0, .str "read", .int 0, .int 0, .int 0], d]) = al at hall lall ⊢
    bv_omega
    have g2 : (st ++ [DO.lst al])[st.length]? = some (.lst al) := by simp
    refine w_slR g2 ?_
    refine w_rl g2 ?_ ?_
    · have : (cutL al none (some (20 : Int))).length ≤ al.length := by
        unfold cutL
        rw [List.length_take, List.length_drop]
        omega
      omega
    refine ⟨_, rfl, _, rfl, ?_⟩
    refine w_lcF (fun _ => false) id (ds := al ++ cutL al none (some 20)) ?_ (fun x hx => ?_) ?_
    · have : (cutL al none (some (20 : Int))).length ≤ al.length := by
        unfold cutL
        rw [List.length_take, List.length_drop]
        omega
      rw [List.length_append]
      omega
    · have hx' : x ∈ al := by
        rcases List.mem_append.mp hx with h | h
        · exact h
        · exact cut_mem h
      obtain ⟨a1, a2, a3⟩ := (hall x hx').kp (Kep.app st [DO.lst al]) (Int.le_refl _) (Nat.le_refl _) (Nat.le_refl _)
      refine ⟨_, rfl, ?_⟩
      bv_omega
      refine right_g a1 (by decide) (by omega) (by omega) ?_
      refine ⟨_, rfl, by first | rfl | trivial, by first | rfl | trivial, fun z => by cases z⟩
    rw [List.filter_eq_nil_iff.mpr (by simp), List.map_nil]
    bv_omega
    first | rfl | trivial
  · intro d hd
    have e : ∀ d ∈ [DV.non, DV.bl true, DV.int 0, DV.str "", DV.str "read", DV.lst [], DV.tup [], DV.tup [DV.tup []], DV.tup [DV.non], DV.lst [DV.tup [DV.int 0, DV.str "read", DV.int 0, DV.int 0, DV.int 0]], DV.tup [DV.int 0, DV.str "read", DV.int 0, DV.int 0, DV.int 0]], Nx (s0 ++ [DO.dct []] ++ [DO.lst [DV.non, DV.bl true, DV.int 0, DV.str "", DV.str "read", DV.lst [], DV.ref s0.length, DV.tup [], DV.tup [DV.tup []], DV.tup [DV.non], DV.lst [DV.tup [DV.int 0, DV.str "read", DV.int 0, DV.int 0, DV.int 0]], DV.tup [DV.int 0, DV.str "read", DV.int 0, DV.int 0, DV.int 0]]]) 2 8 4000 d := nx_all (by decide) (by decide +kernel)
    by_cases h : d = .ref s0.length
    · subst h
      exact ⟨by simp [wd], by simp [dp], by simp [bk]⟩
    · refine e d ?_
      simp only [List.mem_cons, List.not_mem_nil, or_false, h, false_or] at hd ⊢
      exact hd
end DM

set_option autoImplicit true
open PySem PySem.W PyProof.Rows in
set_option maxRecDepth 100000 in
set_option maxHeartbeats 0 in
theorem PySem.Challenge.cw_manyblocks_k64_what_is_a_history_holds : PySem.Challenge.rw_manyblocks_k64_what_is_a_history.Holds := by
  w_on; o_law; k_head; (case hw => w_witness2)
  k_fill
  refine DM.walk_ofG (l := PySem.Challenge.rw_manyblocks_k64_what_is_a_history) (n := 63) (k := 17) (x := "_law_script") (m := DM.m_law) rfl (by decide) rfl ⟨rfl, by decide, by decide⟩ (fun w h Y => PySem.W.kIn_of Y) ?F DM.law_holds
  case F =>
    intro w mg fa h KX G hmg
    refine' DM.all_mk KX G hmg ?a0 ?l0 ?d0 ?k0 ?v0 ?a1 ?l1 ?d1 ?k1 ?v1 ?a2 ?l2 ?d2 ?k2 ?v2 ?a3 ?l3 ?d3 ?k3 ?v3 ?a4 ?l4 ?d4 ?k4 ?v4 ?a5 ?l5 ?d5 ?k5 ?v5 ?a6 ?l6 ?d6 ?k6 ?v6 ?a7 ?l7 ?d7 ?k7 ?v7 ?a8 ?l8 ?d8 ?k8 ?v8 ?a9 ?l9 ?d9 ?k9 ?v9 ?a10 ?l10 ?d10 ?k10 ?v10 ?a11 ?l11 ?d11 ?k11 ?v11 ?a12 ?l12 ?d12 ?k12 ?v12 ?a13 ?l13 ?d13 ?k13 ?v13 ?a14 ?l14 ?d14 ?k14 ?v14 ?z_all ?z_bool ?z_int ?z_isinstance ?z_len ?z_list ?z_min ?z_range ?z_repr ?z_str ?z_tuple ?y_MOST_CONTENT ?y_PARTS ?y_WORDS ?lt_WORDS
    (case a0 => k_is)
    (case l0 => k_is)
    (case d0 => k_is)
    (case k0 => k_is)
    (case v0 => rfl)
    (case a1 => k_is)
    (case l1 => k_is)
    (case d1 => k_is)
    (case k1 => k_is)
    (case v1 => rfl)
    (case a2 => k_is)
    (case l2 => k_is)
    (case d2 => k_is)
    (case k2 => k_is)
    (case v2 => rfl)
    (case a3 => k_is)
    (case l3 => k_is)
    (case d3 => k_is)
    (case k3 => k_is)
    (case v3 => rfl)
    (case a4 => k_is)
    (case l4 => k_is)
    (case d4 => k_is)
    (case k4 => k_is)
    (case v4 => rfl)
    (case a5 => k_is)
    (case l5 => k_is)
    (case d5 => k_is)
    (case k5 => k_is)
    (case v5 => rfl)
    (case a6 => k_is)
    (case l6 => k_is)
    (case d6 => k_is)
    (case k6 => k_is)
    (case v6 => rfl)
    (case a7 => k_is)
    (case l7 => k_is)
    (case d7 => k_is)
    (case k7 => k_is)
    (case v7 => rfl)
    (case a8 => k_is)
    (case l8 => k_is)
    (case d8 => k_is)
    (case k8 => k_is)
    (case v8 => rfl)
    (case a9 => k_is)
    (case l9 => k_is)
    (case d9 => k_is)
    (case k9 => k_is)
    (case v9 => rfl)
    (case a10 => k_is)
    (case l10 => k_is)
    (case d10 => k_is)
    (case k10 => k_is)
    (case v10 => rfl)
    (case a11 => k_is)
    (case l11 => k_is)
    (case d11 => k_is)
    (case k11 => k_is)
    (case v11 => rfl)
    (case a12 => k_is)
    (case l12 => k_is)
    (case d12 => k_is)
    (case k12 => k_is)
    (case v12 => rfl)
    (case a13 => k_is)
    (case l13 => k_is)
    (case d13 => k_is)
    (case k13 => k_is)
    (case v13 => rfl)
    (case a14 => k_is)
    (case l14 => k_is)
    (case d14 => k_is)
    (case k14 => k_is)
    (case v14 => rfl)
    (case z_all => k_is)
    (case z_bool => k_is)
    (case z_int => k_is)
    (case z_isinstance => k_is)
    (case z_len => k_is)
    (case z_list => k_is)
    (case z_min => k_is)
    (case z_range => k_is)
    (case z_repr => k_is)
    (case z_str => k_is)
    (case z_tuple => k_is)
    (case y_MOST_CONTENT => k_is)
    (case y_PARTS => k_is)
    (case y_WORDS => k_is)
    (case lt_WORDS => k_is)
