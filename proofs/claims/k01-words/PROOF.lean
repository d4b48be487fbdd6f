import PyProof.Rows.All
import Wide.All
import OpenK.AllK
import Wide.FinOn
import HandS.ForMost
import HandS.IsInst
import HandS.Deep
import HandS.TupAny
import HandS.Wide
import HandS.Zip
import PyProof.ReprRoads
import PySem.Challenge.RW_flatkeep_k01_words
set_option Elab.async false
set_option linter.all false
set_option maxRecDepth 100000
set_option maxHeartbeats 4000000
/-! ### values and heaps of a small Python, and how the layer's heap bears them -/
namespace FK
open PySem PySem.Spec PyProof.Rows L2
abbrev St := L2.St

/-- a value: tuples are trees; ref n: the n-th thing that may be changed; fl: a list just made that nothing else knows; fz: a list that nobody writes -/
inductive Vl where
  | non | bl (b : Bool) | int (i : Int) | str (x : Str) | ty (n : String)
  | tup (xs : List Vl) | ref (n : Nat) | fl (xs : List Vl) | fz (xs : List Vl)
  deriving Inhabited
/-- a thing that may be changed -/
inductive Ob where
  | lst (xs : List Vl)
  deriving Inhabited
abbrev AH := List Ob
abbrev AE := List (Option Vl)

section
variable (K : PySem.W.Frag)
/-- a list of the module's constants -/
def KL (a : Addr) (xs : List V) : Prop := SqL K (fun _ => none) a xs
/-- a list that nobody writes: locked, or of the module's constants -/
def SL (H : Hp) (a : Addr) (vs : List V) : Prop := (∃ o, H a = some (.frz o (.lst vs))) ∨ KL K a vs
mutual
def RepV (ρ : List Addr) (H : Hp) : Vl → V → Prop
  | .non, x => x = .non
  | .bl b, x => x = .bl b
  | .int i, x => x = .int i
  | .str s, x => x = .str s
  | .ty n, x => x = .ty n
  | .tup xs, x => ∃ a vs, x = .ref a ∧ SqT K H a vs ∧ RepVs ρ H xs vs
  | .ref n, x => ∃ a, x = .ref a ∧ ρ[n]? = some a
  | .fl _, _ => False
  | .fz xs, x => ∃ a vs, x = .ref a ∧ SL K H a vs ∧ RepVs ρ H xs vs
def RepVs (ρ : List Addr) (H : Hp) : List Vl → List V → Prop
  | [], vs => vs = []
  | x :: xs, vs => ∃ v r, vs = v :: r ∧ RepV ρ H x v ∧ RepVs ρ H xs r
end
/-- what an expression comes to: a value, or a list just made -/
def RepR (ρ : List Addr) (H : Hp) (v : Vl) (x : V) : Prop := match v with
  | .fl xs => ∃ a vs, x = .ref a ∧ a ∉ ρ ∧ H a = some (.lst vs) ∧ RepVs K ρ H xs vs
  | v => RepV K ρ H v x
def RepRs (ρ : List Addr) (H : Hp) : List Vl → List V → Prop
  | [], vs => vs = []
  | x :: xs, vs => ∃ v r, vs = v :: r ∧ RepR K ρ H x v ∧ RepRs ρ H xs r
def RepO (ρ : List Addr) (H : Hp) (a : Addr) : Ob → Prop
  | .lst xs => ∃ vs, H a = some (.lst vs) ∧ RepVs K ρ H xs vs
structure RepH (ρ : List Addr) (ah : AH) (H : Hp) : Prop where
  len : ρ.length = ah.length
  nd : ρ.Nodup
  ob : ∀ (n : Nat) a o, ρ[n]? = some a → ah[n]? = some o → RepO K ρ H a o
structure RepS (ρ : List Addr) (H : Hp) (e : AE) (σ : St) : Prop where
  len : e.length = σ.length
  at_ : ∀ (i : Nat) v, e[i]? = some (some v) → ∃ x, σ[i]? = some (some x) ∧ RepV K ρ H v x
end
/-- what an evaluation may do to the layer's heap -/
structure Ext (ρ : List Addr) (H : Hp) (ρ' : List Addr) (H' : Hp) : Prop where
  pre : ρ <+: ρ'
  fr : ∀ a o, a ∉ ρ → H a = some o → H' a = some o
  tp : ∀ a vs, H a = some (.tup vs) → H' a = some (.tup vs)
  fz : ∀ a o u, H a = some (.frz o u) → H' a = some (.frz o u)
  nw : ∀ a ∈ ρ', a ∈ ρ ∨ H a = none
theorem Ext.refl (ρ : List Addr) (H : Hp) : Ext ρ H ρ H := ⟨List.prefix_refl _, fun _ _ _ h => h, fun _ _ h => h, fun _ _ _ h => h, fun _ h => .inl h⟩
theorem Ext.not {ρ H ρ' H'} (x : Ext ρ H ρ' H') {a : Addr} {o : HO} (h : a ∉ ρ) (e : H a = some o) : a ∉ ρ' := fun q => by
  rcases x.nw a q with z | z
  · exact h z
  · rw [e] at z; cases z
theorem Ext.trans {ρ H ρ1 H1 ρ2 H2} (x : Ext ρ H ρ1 H1) (y : Ext ρ1 H1 ρ2 H2) : Ext ρ H ρ2 H2 where
  pre := x.pre.trans y.pre
  fr := fun a o h e => y.fr a o (x.not h e) (x.fr a o h e)
  tp := fun a vs h => y.tp a vs (x.tp a vs h)
  fz := fun a o u h => y.fz a o u (x.fz a o u h)
  nw := fun a h => by
    rcases y.nw a h with z | z
    · exact x.nw a z
    · by_cases hr : a ∈ ρ
      · exact .inl hr
      · cases q : H a with
        | none => exact .inr rfl
        | some o => rw [x.fr a o hr q] at z; cases z
theorem Ext.get {ρ H ρ' H'} (x : Ext ρ H ρ' H') {n : Nat} {a : Addr} (h : ρ[n]? = some a) : ρ'[n]? = some a := by
  obtain ⟨t, rfl⟩ := x.pre
  have hl : n < ρ.length := (List.getElem?_eq_some_iff.mp h).1
  rw [List.getElem?_append_left hl]; exact h
theorem Ext.sub {ρ H ρ' H'} (x : Ext ρ H ρ' H') {a : Addr} (h : a ∈ ρ) : a ∈ ρ' := x.pre.subset h
/-- what values lean on: numbers, tuples, what is locked -/
structure Lean3 (ρ : List Addr) (H : Hp) (ρ' : List Addr) (H' : Hp) : Prop where
  pre : ρ <+: ρ'
  tp : ∀ a vs, H a = some (.tup vs) → H' a = some (.tup vs)
  fz : ∀ a o u, H a = some (.frz o u) → H' a = some (.frz o u)
theorem Ext.l3 {ρ H ρ' H'} (x : Ext ρ H ρ' H') : Lean3 ρ H ρ' H' := ⟨x.pre, x.tp, x.fz⟩
section
variable {K : PySem.W.Frag} {ρ ρ' : List Addr} {H H' : Hp}
theorem KL.sq {a : Addr} {vs : List V} (h : KL K a vs) (H : Hp) : SqL K H a vs := by
  rcases h with (h | ⟨o, h⟩) | h
  · cases h
  · cases h
  · exact .inr h
theorem SL.sq {a : Addr} {vs : List V} (h : SL K H a vs) : SqL K H a vs := by
  rcases h with ⟨o, h⟩ | h
  · exact .inl (.inr ⟨o, h⟩)
  · exact h.sq H
theorem SL.mono (x : Lean3 ρ H ρ' H') {a : Addr} {vs : List V} (h : SL K H a vs) : SL K H' a vs := by
  rcases h with ⟨o, h⟩ | h
  · exact .inl ⟨o, x.fz _ _ _ h⟩
  · exact .inr h
theorem sqT_mono (x : Lean3 ρ H ρ' H') {a : Addr} {vs : List V} (h : SqT K H a vs) : SqT K H' a vs := by
  rcases h with (h | ⟨o, h⟩) | h
  · exact .inl (.inl (x.tp _ _ h))
  · exact .inl (.inr ⟨o, x.fz _ _ _ h⟩)
  · exact .inr h
theorem Lean3.get (x : Lean3 ρ H ρ' H') {n : Nat} {a : Addr} (h : ρ[n]? = some a) : ρ'[n]? = some a := by
  obtain ⟨t, rfl⟩ := x.pre
  have hl : n < ρ.length := (List.getElem?_eq_some_iff.mp h).1
  rw [List.getElem?_append_left hl]; exact h
mutual
theorem RepV.mono3 (x : Lean3 ρ H ρ' H') : ∀ {v : Vl} {y : V}, RepV K ρ H v y → RepV K ρ' H' v y
  | .non, _, h => by simpa only [RepV] using h
  | .bl _, _, h => by simpa only [RepV] using h
  | .int _, _, h => by simpa only [RepV] using h
  | .str _, _, h => by simpa only [RepV] using h
  | .ty _, _, h => by simpa only [RepV] using h
  | .fl _, _, h => by simp only [RepV] at h
  | .tup xs, _, h => by
    simp only [RepV] at h ⊢
    obtain ⟨a, vs, e, s, r⟩ := h
    exact ⟨a, vs, e, sqT_mono x s, RepVs.mono3 x r⟩
  | .ref n, _, h => by
    simp only [RepV] at h ⊢
    obtain ⟨a, e, s⟩ := h
    exact ⟨a, e, x.get s⟩
  | .fz xs, _, h => by
    simp only [RepV] at h ⊢
    obtain ⟨a, vs, e, s, r⟩ := h
    exact ⟨a, vs, e, s.mono x, RepVs.mono3 x r⟩
theorem RepVs.mono3 (x : Lean3 ρ H ρ' H') : ∀ {vs : List Vl} {ys : List V}, RepVs K ρ H vs ys → RepVs K ρ' H' vs ys
  | [], _, h => by simpa only [RepVs] using h
  | v :: vs, _, h => by
    simp only [RepVs] at h ⊢
    obtain ⟨y, r, e, h1, h2⟩ := h
    exact ⟨y, r, e, RepV.mono3 x h1, RepVs.mono3 x h2⟩
end
theorem RepV.mono (x : Ext ρ H ρ' H') {v : Vl} {y : V} (h : RepV K ρ H v y) : RepV K ρ' H' v y := h.mono3 x.l3
theorem RepVs.mono (x : Ext ρ H ρ' H') {vs : List Vl} {ys : List V} (h : RepVs K ρ H vs ys) : RepVs K ρ' H' vs ys := h.mono3 x.l3
theorem RepR.mono (x : Ext ρ H ρ' H') {v : Vl} {y : V} (h : RepR K ρ H v y) : RepR K ρ' H' v y := by
  cases v with
  | fl xs => obtain ⟨a, vs, e, n, s, r⟩ := h; exact ⟨a, vs, e, x.not n s, x.fr _ _ n s, r.mono x⟩
  | _ => exact RepV.mono x h
theorem RepV.r {v : Vl} {y : V} (h : RepV K ρ H v y) : RepR K ρ H v y := by
  cases v with
  | fl xs => simp only [RepV] at h
  | _ => exact h
theorem RepRs.mono (x : Ext ρ H ρ' H') : ∀ {vs : List Vl} {ys : List V}, RepRs K ρ H vs ys → RepRs K ρ' H' vs ys
  | [], _, h => h
  | v :: vs, _, ⟨y, r, e, h1, h2⟩ => ⟨y, r, e, h1.mono x, RepRs.mono x h2⟩
theorem RepVs.length : ∀ {vs : List Vl} {ys : List V}, RepVs K ρ H vs ys → ys.length = vs.length
  | [], _, h => by simp only [RepVs] at h; subst h; rfl
  | v :: vs, _, h => by
    simp only [RepVs] at h
    obtain ⟨y, r, e, h1, h2⟩ := h
    subst e
    simp [RepVs.length h2]
theorem RepVs.get : ∀ {vs : List Vl} {ys : List V} {i : Nat} {v : Vl}, RepVs K ρ H vs ys → vs[i]? = some v → ∃ y, ys[i]? = some y ∧ RepV K ρ H v y
  | [], _, _, _, _, e => by simp at e
  | v :: vs, _, 0, _, h, e => by
    simp only [RepVs] at h
    obtain ⟨y, r, rfl, h1, h2⟩ := h
    simp at e; subst e
    exact ⟨y, rfl, h1⟩
  | v :: vs, _, i + 1, _, h, e => by
    simp only [RepVs] at h
    obtain ⟨y, r, rfl, h1, h2⟩ := h
    obtain ⟨z, h3, h4⟩ := RepVs.get (i := i) h2 (by simpa using e)
    exact ⟨z, by simpa using h3, h4⟩
theorem RepVs.append : ∀ {vs ws : List Vl} {ys zs : List V}, RepVs K ρ H vs ys → RepVs K ρ H ws zs → RepVs K ρ H (vs ++ ws) (ys ++ zs)
  | [], _, _, _, h, g => by simp only [RepVs] at h; subst h; simpa using g
  | v :: vs, _, _, _, h, g => by
    simp only [RepVs] at h
    obtain ⟨y, r, rfl, h1, h2⟩ := h
    simp only [List.cons_append, RepVs]
    exact ⟨y, _, rfl, h1, RepVs.append h2 g⟩
theorem RepVs.one {v : Vl} {y : V} (h : RepV K ρ H v y) : RepVs K ρ H [v] [y] := by simp only [RepVs]; exact ⟨y, [], rfl, h, rfl⟩
theorem RepVs.cons {v : Vl} {y : V} {vs : List Vl} {ys : List V} (h : RepV K ρ H v y) (g : RepVs K ρ H vs ys) : RepVs K ρ H (v :: vs) (y :: ys) := by simp only [RepVs]; exact ⟨y, ys, rfl, h, g⟩
theorem RepVs.take : ∀ (n : Nat) {vs : List Vl} {ys : List V}, RepVs K ρ H vs ys → RepVs K ρ H (vs.take n) (ys.take n)
  | 0, _, _, _ => by simp [RepVs]
  | n + 1, [], _, h => by simp only [RepVs] at h; subst h; simp [RepVs]
  | n + 1, v :: vs, _, h => by
    simp only [RepVs] at h
    obtain ⟨y, r, rfl, h1, h2⟩ := h
    exact RepVs.cons h1 (RepVs.take n h2)
theorem RepVs.drop : ∀ (n : Nat) {vs : List Vl} {ys : List V}, RepVs K ρ H vs ys → RepVs K ρ H (vs.drop n) (ys.drop n)
  | 0, _, _, h => by simpa using h
  | n + 1, [], _, h => by simp only [RepVs] at h; subst h; simp [RepVs]
  | n + 1, v :: vs, _, h => by
    simp only [RepVs] at h
    obtain ⟨y, r, rfl, h1, h2⟩ := h
    simpa using RepVs.drop n h2
theorem RepVs.set : ∀ (n : Nat) {vs : List Vl} {ys : List V} {v : Vl} {y : V}, RepVs K ρ H vs ys → RepV K ρ H v y → RepVs K ρ H (vs.set n v) (ys.set n y)
  | _, [], _, _, _, h, _ => by simp only [RepVs] at h; subst h; simp [RepVs]
  | 0, _ :: vs, _, _, _, h, g => by
    simp only [RepVs] at h
    obtain ⟨y, r, rfl, h1, h2⟩ := h
    exact RepVs.cons g h2
  | n + 1, v :: vs, _, _, _, h, g => by
    simp only [RepVs] at h
    obtain ⟨y, r, rfl, h1, h2⟩ := h
    exact RepVs.cons h1 (RepVs.set n h2 g)
theorem RepVs.rev {vs : List Vl} : ∀ {ys : List V}, RepVs K ρ H vs ys → RepVs K ρ H vs.reverse ys.reverse := by
  induction vs with
  | nil => intro ys h; simp only [RepVs] at h; subst h; simp [RepVs]
  | cons v vs ih =>
    intro ys h
    simp only [RepVs] at h
    obtain ⟨y, r, rfl, h1, h2⟩ := h
    simp only [List.reverse_cons]
    exact RepVs.append (ih h2) (RepVs.one h1)

theorem RepS.mono (x : Ext ρ H ρ' H') {e : AE} {σ : St} (h : RepS K ρ H e σ) : RepS K ρ' H' e σ :=
  ⟨h.len, fun i v q => let ⟨y, h1, h2⟩ := h.at_ i v q; ⟨y, h1, h2.mono x⟩⟩
theorem RepS.set {e : AE} {σ : St} (h : RepS K ρ H e σ) (i : Nat) {v : Vl} {y : V} (r : RepV K ρ H v y) : RepS K ρ H (e.set i (some v)) (σ.set i (some y)) := by
  refine ⟨by simp [h.len], fun j w q => ?_⟩
  by_cases hj : i = j
  · subst hj
    have hl : i < e.length := by
      have := (List.getElem?_eq_some_iff.mp q).1
      simpa using this
    rw [List.getElem?_set_self hl] at q
    cases q
    exact ⟨y, List.getElem?_set_self (h.len ▸ hl), r⟩
  · rw [List.getElem?_set_ne hj] at q ⊢
    exact h.at_ j w q

variable {ah : AH}
theorem RepH.some_ (h : RepH K ρ ah H) {n : Nat} {a : Addr} (e : ρ[n]? = some a) : ∃ o, H a = some o := by
  have hl : n < ah.length := by rw [← h.len]; exact (List.getElem?_eq_some_iff.mp e).1
  have hr := h.ob n a _ e (List.getElem?_eq_getElem hl)
  revert hr
  cases ah[n] with
  | lst xs => intro hr; obtain ⟨vs, q, _⟩ := hr; exact ⟨_, q⟩
theorem RepH.mem (h : RepH K ρ ah H) {a : Addr} (e : a ∈ ρ) : ∃ o, H a = some o := by
  obtain ⟨n, q⟩ := List.mem_iff_getElem?.mp e
  exact h.some_ q
theorem RepH.ne (h : RepH K ρ ah H) {a p : Addr} (e : a ∈ ρ) (n : H p = none) : a ≠ p := by
  obtain ⟨o, q⟩ := h.mem e
  rintro rfl
  rw [n] at q; cases q
theorem RepH.notin (h : RepH K ρ ah H) {p : Addr} (n : H p = none) : p ∉ ρ := fun q => h.ne q n rfl
/-- a new thing of the layer's heap -/
theorem Ext.new {p : Addr} {o : HO} (n : H p = none) : Ext ρ H ρ (upd H p o) :=
  ⟨List.prefix_refl _, fun a u _ e => by rw [upd_ne (ne_of_none e n)]; exact e, fun a u e => by rw [upd_ne (ne_of_none e n)]; exact e, fun a u w e => by rw [upd_ne (ne_of_none e n)]; exact e, fun a h => .inl h⟩
theorem RepO.mono (x : Lean3 ρ H ρ' H') {a : Addr} (ha : ∀ o, H a = some o → H' a = some o) : ∀ {o : Ob}, RepO K ρ H a o → RepO K ρ' H' a o
  | .lst xs, ⟨vs, e, r⟩ => ⟨vs, ha _ e, r.mono3 x⟩
theorem RepH.new (h : RepH K ρ ah H) {p : Addr} {o : HO} (n : H p = none) : RepH K ρ ah (upd H p o) :=
  ⟨h.len, h.nd, fun k a u e1 e2 => (h.ob k a u e1 e2).mono (Ext.new (ρ := ρ) n).l3 fun u q => by rw [upd_ne (ne_of_none q n)]; exact q⟩
/-- a list of the layer's heap gets a number -/
theorem RepH.num (h : RepH K ρ ah H) {a : Addr} {xs : List Vl} {vs : List V} (n : a ∉ ρ) (e : H a = some (.lst vs)) (r : RepVs K ρ H xs vs) : RepH K (ρ ++ [a]) (ah ++ [.lst xs]) H := by
  have l : Lean3 ρ H (ρ ++ [a]) H := ⟨List.prefix_append _ _, fun _ _ h => h, fun _ _ _ h => h⟩
  refine ⟨by simp [h.len], ?_, fun k b u e1 e2 => ?_⟩
  · rw [List.nodup_append]
    refine ⟨h.nd, by simp, fun x hx y hy => ?_⟩
    obtain rfl : y = a := by simpa using hy
    rintro rfl
    exact n hx
  · by_cases hk : k < ρ.length
    · rw [List.getElem?_append_left hk] at e1
      rw [List.getElem?_append_left (h.len ▸ hk)] at e2
      exact (h.ob k b u e1 e2).mono l fun _ q => q
    · have hk' : k = ρ.length := by
        have := (List.getElem?_eq_some_iff.mp e1).1
        simp at this
        omega
      subst hk'
      rw [List.getElem?_append_right (Nat.le_refl _)] at e1
      rw [List.getElem?_append_right (by rw [h.len]; exact Nat.le_refl _)] at e2
      simp [h.len] at e1 e2
      subst e1 e2
      exact ⟨vs, e, r.mono3 l⟩
theorem Ext.num (x : Ext ρ H ρ' H') {a : Addr} (n : H a = none) : Ext ρ H (ρ' ++ [a]) H' :=
  ⟨x.pre.trans (List.prefix_append _ _), x.fr, x.tp, x.fz, fun b h => by
    rcases List.mem_append.mp h with z | z
    · exact x.nw b z
    · obtain rfl : b = a := by simpa using z
      exact .inr n⟩
/-- what is free behind an evaluation was free ahead of it -/
theorem Ext.back (x : Ext ρ H ρ' H') (h : RepH K ρ' ah H') {p : Addr} (n : H' p = none) : H p = none := by
  cases q : H p with
  | none => rfl
  | some o =>
    by_cases hp : p ∈ ρ
    · exact absurd rfl (h.ne (x.sub hp) n)
    · rw [x.fr p o hp q] at n; cases n
/-- a list with a number is written -/
theorem RepH.wr (h : RepH K ρ ah H) {n : Nat} {a : Addr} {xs : List Vl} {vs vs' : List V} (e : ρ[n]? = some a) (l : H a = some (.lst vs)) (r : RepVs K ρ H xs vs') :
    RepH K ρ (ah.set n (.lst xs)) (upd H a (.lst vs')) ∧ Ext ρ H ρ (upd H a (.lst vs')) := by
  have ha : a ∈ ρ := List.mem_of_getElem? e
  have x : Ext ρ H ρ (upd H a (.lst vs')) := ⟨List.prefix_refl _, fun b o hb q => by
      have hne : b ≠ a := by rintro rfl; exact hb ha
      rw [upd_ne hne]; exact q,
    fun b us q => by
      have hne : b ≠ a := by rintro rfl; rw [l] at q; cases q
      rw [upd_ne hne]; exact q,
    fun b o u q => by
      have hne : b ≠ a := by rintro rfl; rw [l] at q; cases q
      rw [upd_ne hne]; exact q,
    fun b hb => .inl hb⟩
  refine ⟨⟨by simp [h.len], h.nd, fun k b u e1 e2 => ?_⟩, x⟩
  by_cases hk : n = k
  · subst hk
    rw [e] at e1; cases e1
    have hl : n < ah.length := by rw [← h.len]; exact (List.getElem?_eq_some_iff.mp e).1
    rw [List.getElem?_set_self hl] at e2; cases e2
    exact ⟨vs', upd_same, r.mono x⟩
  · rw [List.getElem?_set_ne hk] at e2
    have hb : b ≠ a := fun z => by
      subst z
      obtain ⟨l1, g1⟩ := List.getElem?_eq_some_iff.mp e
      obtain ⟨l2, g2⟩ := List.getElem?_eq_some_iff.mp e1
      exact hk ((List.getElem_inj h.nd).mp (g1.trans g2.symm))
    exact (h.ob k b u e1 e2).mono x.l3 fun o q => by rw [upd_ne hb]; exact q
theorem RepH.lst (h : RepH K ρ ah H) {n : Nat} {xs : List Vl} (e : ah[n]? = some (.lst xs)) : ∃ a vs, ρ[n]? = some a ∧ H a = some (.lst vs) ∧ RepVs K ρ H xs vs := by
  have hl : n < ρ.length := by rw [h.len]; exact (List.getElem?_eq_some_iff.mp e).1
  obtain ⟨vs, q, r⟩ := h.ob n _ _ (List.getElem?_eq_getElem hl) e
  exact ⟨_, vs, List.getElem?_eq_getElem hl, q, r⟩
end
end FK

/-! ### the small Python: its text and what it comes to -/
namespace FK
open PySem PySem.Spec PyProof.Rows L2

inductive Bi where
  | len | abs | isinstance | all | any | tuple | list | str | min | max | sum | int
  deriving DecidableEq
inductive Me where
  | append | extend | pop | popAt | reverse | clear | join
  deriving DecidableEq
/-- what a for walks: a thing itself, range(..), enumerate(..), zip(..) -/
inductive Itk where
  | seq | rng | enum | zip
  deriving DecidableEq
inductive Tg where
  | name (i : Nat) | tup (is : List Nat)
  deriving DecidableEq
inductive Ex where
  | var (i : Nat) | cst (v : Vl) | glob (g : Nat) | bty (T : String)
  | bin (op : Operator) (a b : Ex) | neg (a : Ex)
  | cmp (op : CmpOp) (a b : Ex) | chain (op op' : CmpOp) (a b c : Ex)
  | and (a b : Ex) | or (a b : Ex) | not (a : Ex) | ite (c a b : Ex)
  | lst (es : Ex) | tup (es : Ex)
  | ix (a b : Ex) | sl (a lo hi : Ex)
  | lc (k : Itk) (it : Ex) (tg : Tg) (own : List Nat) (c e : Ex)
  | call (f : Nat) (es : Ex) | bi (f : Bi) (es : Ex) | me (m : Me) (o es : Ex)
  | nil | cons (e es : Ex) | val (e : Ex)
inductive Sx where
  | nil | seq (s r : Sx)
  | set (i : Nat) (e : Ex) | setT (is : List Nat) (e : Ex) | setIx (o i e : Ex)
  | aug (i : Nat) (op : Operator) (e : Ex)
  | ifs (c : Ex) (a b : Sx)
  | for_ (k : Itk) (it : Ex) (tg : Tg) (b : Sx)
  | whl (c : Ex) (b : Sx)
  | ret (e : Ex) | retN | expr (e : Ex) | pass | brk | cont
  | fail
inductive Fl where
  | nx | rt (v : Vl) | bk | ct

/-! values -/
def fix : Vl → AH → Vl × AH
  | .fl xs, h => (.ref h.length, h ++ [.lst xs])
  | v, h => (v, h)
/-- the items of a list or tuple -/
def lstOf : Vl → AH → Option (List Vl)
  | .fl xs, _ => some xs
  | .fz xs, _ => some xs
  | .ref n, h => match h[n]? with
    | some (.lst xs) => some xs
    | _ => none
  | _, _ => none
def seqOf : Vl → AH → Option (List Vl)
  | .tup xs, _ => some xs
  | v, h => lstOf v h
/-- a list that is no locked one -/
def lstW : Vl → AH → Option (List Vl)
  | .fl xs, _ => some xs
  | .ref n, h => match h[n]? with
    | some (.lst xs) => some xs
    | _ => none
  | _, _ => none
def CMulB (i j : Int) : Bool := (decide (-(2 ^ 64) < i) && decide (i < 2 ^ 64)) || (decide (-(2 ^ 64) < j) && decide (j < 2 ^ 64))
def addV : Vl → Vl → AH → Option Vl
  | .int i, .int j, _ => some (.int (i + j))
  | .str a, .str b, _ => if a.length + b.length ≤ sizeLine then some (.str (a ++ b)) else none
  | .tup a, .tup b, _ => if a.length + b.length ≤ sizeLine then some (.tup (a ++ b)) else none
  | x, y, h => match lstW x h, lstW y h with
    | some a, some b => if a.length + b.length ≤ sizeLine then some (.fl (a ++ b)) else none
    | _, _ => none
def binV : Operator → Vl → Vl → AH → Option Vl
  | .Add, x, y, h => addV x y h
  | .Sub, .int i, .int j, _ => some (.int (i - j))
  | .Mult, .int i, .int j, _ => if CMulB i j then some (.int (i * j)) else none
  | .Mult, x, .int k, h => match lstW x h with
    | some a => if -(2 ^ 63) ≤ k ∧ k < 2 ^ 63 ∧ a.length * k.toNat ≤ sizeLine then some (.fl (List.replicate k.toNat a).flatten) else none
    | none => none
  | .Mod, .int i, .int j, _ => if 0 < j then some (.int (i % j)) else none
  | .FloorDiv, .int i, .int j, _ => if 0 < j ∧ j < 1073741824 then some (.int (i / j)) else none
  | .Pow, .int i, .int j, _ => if 0 ≤ j ∧ j ≤ 1000000 ∧ i.natAbs < 2 ^ 64 then some (.int (i ^ j.toNat)) else none
  | _, _, _, _ => none
/-- data, for == -/
def toD : Nat → AH → Vl → Option PyData
  | 0, _, _ => none
  | n + 1, h, v => match v with
    | .non => some .none
    | .bl b => some (.bool b)
    | .int i => some (.int i)
    | .str x => some (.str x)
    | .tup xs => (xs.mapM (toD n h)).map .tuple
    | .fl xs => (xs.mapM (toD n h)).map .list
    | .fz xs => (xs.mapM (toD n h)).map .list
    | .ref k => match h[k]? with
      | some (.lst xs) => (xs.mapM (toD n h)).map .list
      | _ => none
    | .ty _ => none
def eqV (x y : Vl) (h : AH) : Option Bool := match x, y with
  | .non, .non => some true
  | .non, .int _ => some false | .int _, .non => some false | .non, .bl _ => some false | .bl _, .non => some false | .non, .str _ => some false | .str _, .non => some false
  | .int i, .int j => some (decide (i = j))
  | .bl i, .bl j => some (decide (i = j))
  | .str i, .str j => some (decide (i = j))
  | .int _, .str _ => some false | .str _, .int _ => some false | .bl _, .str _ => some false | .str _, .bl _ => some false
  | x, y => match toD 66 h x, toD 66 h y with
    | some d, some e => if SeqAt.shaped d && SeqAt.shaped e then some (d.eqv e) else none
    | _, _ => none
/-- flat values and == of them -/
def flV : Vl → Option V
  | .non => some .non
  | .bl b => some (.bl b)
  | .int i => some (.int i)
  | .str x => some (.str x)
  | _ => none
def inV (x y : Vl) (h : AH) : Option Bool := match x, y with
  | .str a, .str b => some (!(Builtin.Str.occurrences b a 0 b.length 1).isEmpty)
  | x, y => match flV x, (seqOf y h).bind (·.mapM flV) with
    | some a, some bs => some (L2.inV a bs)
    | _, _ => match toD 66 h x, toD 66 h y with
      | some d, some (.list ds) => if SeqAt.shaped d && SeqAt.shaped (.list ds) then some (ds.any fun z => z.eqv d) else none
      | _, _ => none
/-- a tuple of ints -/
def intsOf : List Vl → Option (List Int)
  | [] => some []
  | .int i :: r => (intsOf r).map (i :: ·)
  | _ => none
def cmpV : CmpOp → Vl → Vl → AH → Option Bool
  | .Eq, x, y, h => eqV x y h
  | .NotEq, x, y, h => (eqV x y h).map (!·)
  | .In, x, y, h => inV x y h
  | .NotIn, x, y, h => (inV x y h).map (!·)
  | .Lt, .int i, .int j, _ => some (decide (i < j))
  | .LtE, .int i, .int j, _ => some (decide (i ≤ j))
  | .Gt, .int i, .int j, _ => some (decide (j < i))
  | .GtE, .int i, .int j, _ => some (decide (j ≤ i))
  | .Lt, .tup a, .tup b, _ => match intsOf a, intsOf b with
    | some i, some j => some (HT.lexLt i j)
    | _, _ => none
  | .Is, x, .non, _ => match x with
    | .non => some true
    | _ => some false
  | .IsNot, x, .non, _ => match x with
    | .non => some false
    | _ => some true
  | _, _, _, _ => none
def ixV (x y : Vl) (h : AH) : Option Vl := match y with
  | .int i => match x with
    | .str z => if z.length ≤ sizeLine then (atI z.cps.toList i).map fun c => .str ⟨#[c]⟩ else none
    | x => (seqOf x h).bind fun xs => atI xs i
  | _ => none
def cutL {α : Type} (xs : List α) (lo hi : Option Int) : List α := List.take (HT.sIx xs.length xs.length hi - HT.sIx xs.length 0 lo) (List.drop (HT.sIx xs.length 0 lo) xs)
def slV (x : Vl) (lo hi : Option Int) (h : AH) : Option Vl := match x with
  | .str z => if z.length ≤ sizeLine then some (.str (cutS z lo hi)) else none
  | .tup xs => some (.tup (cutL xs lo hi))
  | x => (lstOf x h).map fun xs => .fl (cutL xs lo hi)
def tyOf (v : Vl) (h : AH) : Option String := match v with
  | .non => some "NoneType"
  | .bl _ => some "bool"
  | .int _ => some "int"
  | .str _ => some "str"
  | .tup _ => some "tuple"
  | .fl _ => some "list"
  | .fz _ => some "list"
  | .ref n => match h[n]? with
    | some (.lst _) => some "list"
    | _ => none
  | .ty _ => none
def isV (x c : Vl) (h : AH) : Option Bool := match c with
  | .ty T => (tyOf x h).bind fun t => kitB t T
  | _ => none
def strsOf : List Vl → Option (List Str)
  | [] => some []
  | .str i :: r => (strsOf r).map (i :: ·)
  | _ => none
def blsOf : List Vl → Option (List Bool)
  | [] => some []
  | .bl i :: r => (blsOf r).map (i :: ·)
  | _ => none
/-- str(x) -/
def strV (v : Vl) (h : AH) : Option Str := match v with
  | .str a => some a
  | v => match toD 66 h v with
    | some d => if d.showable && !d.hasDict && decide (d.depth ≤ 64) && decide (d.shown.length ≤ sizeLine) then some d.shown else none
    | none => none
def biV : Bi → List Vl → AH → Option Vl
  | .len, [x], h => match x with
    | .str z => if z.length ≤ sizeLine then some (.int z.length) else none
    | x => (seqOf x h).map fun xs => .int xs.length
  | .abs, [.int i], _ => some (.int (if i < 0 then -i else i))
  | .isinstance, [x, c], h => (isV x c h).map .bl
  | .all, [x], h => ((lstOf x h).bind blsOf).map fun bs => .bl (bs.all id)
  | .any, [x], h => ((lstOf x h).bind blsOf).map fun bs => .bl (bs.any id)
  | .tuple, [x], h => (seqOf x h).map .tup
  | .list, [x], h => (seqOf x h).map .fl
  | .int, [.bl b], _ => some (.int (if b then 1 else 0))
  | .int, [.int i], _ => some (.int i)
  | .min, [.int i, .int j], _ => some (.int (if j < i then j else i))
  | .max, [.int i, .int j], _ => some (.int (if j > i then j else i))
  | .str, [x], h => (strV x h).map .str
  | .sum, [x], h => ((lstOf x h).bind intsOf).map fun ns => .int ns.sum
  | _, _, _ => none
def meV : Me → Vl → List Vl → AH → Option (Vl × AH)
  | .append, .ref n, [y], h => match h[n]? with
    | some (.lst xs) => if xs.length < sizeLine then some (.non, h.set n (.lst (xs ++ [y]))) else none
    | _ => none
  | .extend, .ref n, [y], h => match h[n]?, lstW y h with
    | some (.lst xs), some ys => if xs.length + ys.length ≤ sizeLine then some (.non, h.set n (.lst (xs ++ ys))) else none
    | _, _ => none
  | .pop, .ref n, [], h => match h[n]? with
    | some (.lst xs) => (xs[xs.length - 1]?).map fun v => (v, h.set n (.lst xs.dropLast))
    | _ => none
  | .reverse, .ref n, [], h => match h[n]? with
    | some (.lst xs) => some (.non, h.set n (.lst xs.reverse))
    | _ => none
  | .clear, .ref n, [], h => match h[n]? with
    | some (.lst xs) => some (.non, h.set n (.lst []))
    | _ => none
  | .join, .str z, [x], h => match (seqOf x h).bind strsOf with
    | some ss => if (ss.map (·.length)).sum + ss.length * z.length ≤ 16777216 then some (.str (Txt.join z ss), h) else none
    | none => none
  | _, _, _, _ => none

/-- the method is one of this thing's -/
def meTy : Me → Vl → AH → Bool
  | .join, .str _, _ => true
  | .join, _, _ => false
  | _, .ref n, h => match h[n]? with
    | some (.lst _) => true
    | _ => false
  | _, _, _ => false
def setIxV : Vl → Vl → Vl → AH → Option AH
  | .ref n, .int i, v, h => match h[n]? with
    | some (.lst xs) => (ixN xs.length i).map fun k => h.set n (.lst (xs.set k v))
    | _ => none
  | _, _, _, _ => none
/-- what a loop walks -/
inductive Src where
  | st (xs : List Vl) | lv (n : Nat) | en (s : Src) | zp (s t : Src)
def enL (xs : List Vl) : List Vl := xs.zipIdx.map fun p => .tup [.int (p.2 : Nat), p.1]
def zpL (xs ys : List Vl) : List Vl := (xs.zip ys).map fun p => .tup [p.1, p.2]
def Src.get : Src → AH → Option (List Vl)
  | .st xs, _ => some xs
  | .lv n, h => match h[n]? with
    | some (.lst xs) => some xs
    | _ => none
  | .en s, h => (s.get h).map enL
  | .zp s t, h => match s.get h, t.get h with
    | some a, some b => some (zpL a b)
    | _, _ => none
def rngL (lo : Int) (n : Nat) : List Vl := (List.range n).map fun k => .int (lo + (k : Nat))
def in62 (i : Int) : Bool := decide (-(2 ^ 62) ≤ i) && decide (i < 2 ^ 62)
def seqSrc (v : Vl) (h : AH) : Option Src := match v with
  | .tup xs => some (.st xs)
  | .fl xs => some (.st xs)
  | .fz xs => some (.st xs)
  | .ref n => match h[n]? with
    | some (.lst _) => some (.lv n)
    | _ => none
  | _ => none
def srcOf (k : Itk) (vs : List Vl) (h : AH) : Option Src := match k with
  | .seq => match vs with
    | [v] => match v with
      | .str z => some (.st (z.cps.toList.map fun c => .str ⟨#[c]⟩))
      | v => seqSrc v h
    | _ => none
  | .rng => match vs with
    | [.int j] => if in62 j then some (.st (rngL 0 j.toNat)) else none
    | [.int i, .int j] => if in62 i && in62 j then some (.st (rngL i (j - i).toNat)) else none
    | _ => none
  | .enum => match vs with
    | [v] => (seqSrc v h).map .en
    | _ => none
  | .zip => match vs with
    | [v, w] => match seqSrc v h, seqSrc w h with
      | some a, some b => some (.zp a b)
      | _, _ => none
    | _ => none
def asgs : List Nat → List Vl → AE → Option AE
  | [], [], e => some e
  | i :: is, v :: vs, e => asgs is vs (e.set i (some v))
  | _, _, _ => none
def asg : Tg → Vl → AE → Option AE
  | .name i, v, e => some (e.set i (some v))
  | .tup is, .tup vs, e => asgs is vs e
  | _, _, _ => none
def wipeE (e : AE) : List Nat → AE
  | [] => e
  | i :: is => (wipeE e is).set i none
abbrev ME := AE → AH → Option (Vl × AH)
abbrev MT := AE → AH → Option (Bool × AH)
abbrev MA := AE → AH → Option (List Vl × AH)
abbrev MS := AE → AH → Option (Fl × AE × AH)
/-- a list comprehension's turns -/
def lcLoop (s : Src) (tg : Tg) (c : MT) (m : ME) (e : AE) : Nat → Nat → List Vl → AH → Option (List Vl × AH)
  | 0, i, acc, h => match s.get h with
    | some xs => if xs.length ≤ i then some (acc, h) else none
    | none => none
  | f + 1, i, acc, h => match s.get h with
    | none => none
    | some xs => match xs[i]? with
      | none => some (acc, h)
      | some x => match asg tg x e with
        | none => none
        | some e1 => match c e1 h with
          | none => none
          | some (false, h1) => lcLoop s tg c m e f (i + 1) acc h1
          | some (true, h1) => match m e1 h1 with
            | none => none
            | some (v, h2) => lcLoop s tg c m e f (i + 1) (acc ++ [(fix v h2).1]) (fix v h2).2
def forLoop (s : Src) (tg : Tg) (b : MS) : Nat → Nat → MS
  | 0, i, e, h => match s.get h with
    | some xs => if xs.length ≤ i then some (.nx, e, h) else none
    | none => none
  | f + 1, i, e, h => match s.get h with
    | none => none
    | some xs => match xs[i]? with
      | none => some (.nx, e, h)
      | some x => match asg tg x e with
        | none => none
        | some e1 => match b e1 h with
          | none => none
          | some (.nx, e2, h2) => forLoop s tg b f (i + 1) e2 h2
          | some (.ct, e2, h2) => forLoop s tg b f (i + 1) e2 h2
          | some (.bk, e2, h2) => some (.nx, e2, h2)
          | some (.rt v, e2, h2) => some (.rt v, e2, h2)
def whlLoop (c : MT) (b : MS) : Nat → MS
  | 0, _, _ => none
  | f + 1, e, h => match c e h with
    | none => none
    | some (false, h1) => some (.nx, e, h1)
    | some (true, h1) => match b e h1 with
      | none => none
      | some (.nx, e2, h2) => whlLoop c b f e2 h2
      | some (.ct, e2, h2) => whlLoop c b f e2 h2
      | some (.bk, e2, h2) => some (.nx, e2, h2)
      | some (.rt v, e2, h2) => some (.rt v, e2, h2)
section
variable (gl : List (Str × Vl)) (cl : Nat → List Vl → AH → Option (Vl × AH)) (fu : Nat)
def part : Vl → Option (Option Int)
  | .int i => some (some i)
  | _ => none
mutual
def evE : Ex → ME
  | .var i, e, h => match e[i]? with
    | some (some v) => some (v, h)
    | _ => none
  | .cst v, _, h => some (v, h)
  | .glob g, _, h => match gl[g]? with
    | some p => some (p.2, h)
    | none => none
  | .bty T, _, h => some (.ty T, h)
  | .bin op a b, e, h => match evE a e h with
    | none => none
    | some (x, h1) => match evE b e h1 with
      | none => none
      | some (y, h2) => match binV op x y h2 with
        | none => none
        | some v => some (v, h2)
  | .neg a, e, h => match evE a e h with
    | some (.int i, h1) => some (.int (-i), h1)
    | _ => none
  | .cmp op a b, e, h => match evE a e h with
    | none => none
    | some (x, h1) => match evE b e h1 with
      | none => none
      | some (y, h2) => match cmpV op x y h2 with
        | none => none
        | some v => some (.bl v, h2)
  | .chain op op' a b c, e, h => match evE a e h with
    | none => none
    | some (x, h1) => match evE b e h1 with
      | none => none
      | some (y, h2) => match cmpV op x y h2 with
        | none => none
        | some false => some (.bl false, h2)
        | some true => match evE c e h2 with
          | none => none
          | some (z, h3) => match cmpV op' y z h3 with
            | none => none
            | some v => some (.bl v, h3)
  | .and a b, e, h => match evE a e h with
    | some (.bl true, h1) => evE b e h1
    | some (.bl false, h1) => some (.bl false, h1)
    | _ => none
  | .or a b, e, h => match evE a e h with
    | some (.bl false, h1) => evE b e h1
    | some (.bl true, h1) => some (.bl true, h1)
    | _ => none
  | .not a, e, h => match evE a e h with
    | some (.bl b, h1) => some (.bl (!b), h1)
    | _ => none
  | .ite c a b, e, h => match evT c e h with
    | some (true, h1) => evE a e h1
    | some (false, h1) => evE b e h1
    | none => none
  | .lst es, e, h => match evA es e h with
    | some (vs, h1) => if vs.length ≤ sizeLine then some (.fl vs, h1) else none
    | none => none
  | .tup es, e, h => match evA es e h with
    | some (vs, h1) => if vs.length ≤ sizeLine then some (.tup vs, h1) else none
    | none => none
  | .ix a b, e, h => match evE a e h with
    | none => none
    | some (x, h1) => match evE b e h1 with
      | none => none
      | some (y, h2) => match ixV x y h2 with
        | none => none
        | some v => some (v, h2)
  | .sl a lo hi, e, h => match evE a e h with
    | none => none
    | some (x, h1) => match evO lo e h1 with
      | none => none
      | some (l, h2) => match evO hi e h2 with
        | none => none
        | some (u, h3) => match slV x l u h3 with
          | none => none
          | some v => some (v, h3)
  | .lc k it tg own c m, e, h => match evB it e h with
    | none => none
    | some (vs, h1) => match srcOf k vs h1 with
      | none => none
      | some s => match s.get h1 with
        | none => none
        | some xs => if xs.length ≤ sizeLine then match lcLoop s tg (evT c) (evE m) (wipeE e own) xs.length 0 [] h1 with
            | some (ys, h2) => some (.fl ys, h2)
            | none => none
          else none
  | .call f es, e, h => match evA es e h with
    | none => none
    | some (vs, h1) => cl f vs h1
  | .bi f es, e, h => match evB es e h with
    | none => none
    | some (vs, h1) => match biV f vs h1 with
      | none => none
      | some v => some (v, h1)
  | .me m o es, e, h => match evE o e h with
    | none => none
    | some (x, h1) => if meTy m x h1 then match evA es e h1 with
        | none => none
        | some (vs, h2) => meV m x vs h2
      else none
  | .nil, _, _ => none
  | .cons _ _, _, _ => none
  | .val _, _, _ => none
def evT : Ex → MT
  | .nil, _, h => some (true, h)
  | .and a b, e, h => match evT a e h with
    | some (true, h1) => evT b e h1
    | some (false, h1) => some (false, h1)
    | none => none
  | .or a b, e, h => match evT a e h with
    | some (false, h1) => evT b e h1
    | some (true, h1) => some (true, h1)
    | none => none
  | .not a, e, h => match evT a e h with
    | some (b, h1) => some (!b, h1)
    | none => none
  | .val a, e, h => match evE a e h with
    | some (.bl b, h1) => some (b, h1)
    | _ => none
  | _, _, _ => none
def evA : Ex → MA
  | .nil, _, h => some ([], h)
  | .cons a es, e, h => match evE a e h with
    | none => none
    | some (v, h1) => match evA es e (fix v h1).2 with
      | none => none
      | some (vs, h2) => some ((fix v h1).1 :: vs, h2)
  | _, _, _ => none
def evB : Ex → MA
  | .nil, _, h => some ([], h)
  | .cons a es, e, h => match evE a e h with
    | none => none
    | some (v, h1) => match evB es e h1 with
      | none => none
      | some (vs, h2) => some (v :: vs, h2)
  | _, _, _ => none
def evO : Ex → AE → AH → Option (Option Int × AH)
  | .nil, _, h => some (none, h)
  | .cons a _, e, h => match evE a e h with
    | some (.int i, h1) => some (some i, h1)
    | _ => none
  | _, _, _ => none
end
def augV : Operator → Vl → Vl → Option Vl
  | .Add, .int i, .int j => some (.int (i + j))
  | .Sub, .int i, .int j => some (.int (i - j))
  | _, _, _ => none
def evS : Sx → MS
  | .nil, e, h => some (.nx, e, h)
  | .seq s r, e, h => match evS s e h with
    | some (.nx, e1, h1) => evS r e1 h1
    | o => o
  | .set i x, e, h => match evE gl cl x e h with
    | some (v, h1) => some (.nx, e.set i (some (fix v h1).1), (fix v h1).2)
    | none => none
  | .setT is x, e, h => match evE gl cl x e h with
    | some (v, h1) => match asg (.tup is) v e with
      | some e1 => some (.nx, e1, h1)
      | none => none
    | none => none
  | .setIx o i x, e, h => match evE gl cl x e h with
    | none => none
    | some (v, h1) => match evE gl cl o e (fix v h1).2 with
      | none => none
      | some (p, h2) => match evE gl cl i e h2 with
        | none => none
        | some (j, h3) => match setIxV p j (fix v h1).1 h3 with
          | none => none
          | some h4 => some (.nx, e, h4)
  | .aug i op x, e, h => match e[i]? with
    | some (some u) => match evE gl cl x e h with
      | none => none
      | some (w, h1) => match augV op u w with
        | none => none
        | some v => some (.nx, e.set i (some v), h1)
    | _ => none
  | .ifs c a b, e, h => match evT gl cl c e h with
    | some (true, h1) => evS a e h1
    | some (false, h1) => evS b e h1
    | none => none
  | .for_ k it tg b, e, h => match evB gl cl it e h with
    | none => none
    | some (vs, h1) => match srcOf k vs h1 with
      | none => none
      | some s => match s.get h1 with
        | none => none
        | some xs => forLoop s tg (evS b) xs.length 0 e h1
  | .whl c b, e, h => whlLoop (evT gl cl c) (evS b) fu e h
  | .ret x, e, h => match evE gl cl x e h with
    | some (v, h1) => some (.rt v, e, h1)
    | none => none
  | .retN, e, h => some (.rt .non, e, h)
  | .expr x, e, h => match evE gl cl x e h with
    | some (_, h1) => some (.nx, e, h1)
    | none => none
  | .pass, e, h => some (.nx, e, h)
  | .brk, e, h => some (.bk, e, h)
  | .cont, e, h => some (.ct, e, h)
  | .fail, _, _ => none
end
structure Fn where
  np : Nat
  ns : Nat
  body : Sx
def runF (gl : List (Str × Vl)) (cl : Nat → List Vl → AH → Option (Vl × AH)) (fu : Nat) (F : Fn) (vs : List Vl) (h : AH) : Option (Vl × AH) :=
  if vs.length = F.np then match evS gl cl fu F.body (vs.map some ++ List.replicate (F.ns - vs.length) none) h with
    | some (.rt v, _, h1) => some (v, h1)
    | some (.nx, _, h1) => some (.non, h1)
    | _ => none
  else none
def callN (fns : List Fn) (gl : List (Str × Vl)) (fu : Nat) : Nat → Nat → List Vl → AH → Option (Vl × AH)
  | 0, _, _, _ => none
  | k + 1, f, vs, h => match fns[f]? with
    | none => none
    | some F => runF gl (callN fns gl fu k) fu F vs h
end FK

/-! ### operators by values -/
namespace FK
open PySem PySem.Spec PyProof.Rows L2
section
variable {K : PySem.W.Frag} {ρ ρ' : List Addr} {H H' : Hp} {ah ah' : AH}
/-- where a list just made lies, nothing lay -/
def Fr (H : Hp) (v : Vl) (z : V) : Prop := match v with
  | .fl _ => ∃ a, z = .ref a ∧ H a = none
  | _ => True
def Res (K : PySem.W.Frag) (ρ : List Addr) (H : Hp) (ah : AH) (v : Vl) (Q : VK) : Prop := ∀ H' z, Ext ρ H ρ H' → RepH K ρ ah H' → RepR K ρ H' v z → Fr H v z → Q z H'
theorem Res.flat {v : Vl} {Q : VK} {z : V} (h : Res K ρ H ah v Q) (r : RepH K ρ ah H) (e : RepV K ρ H v z) : Q z H := by
  refine h H z (Ext.refl _ _) r e.r ?_
  cases v <;> first | trivial | (simp only [RepV] at e)
theorem Res.fl {xs : List Vl} {vs : List V} {Q : VK} (h : Res K ρ H ah (.fl xs) Q) (r : RepH K ρ ah H) (e : RepVs K ρ H xs vs) (p : Addr) (n : H p = none) : Q (.ref p) (upd H p (.lst vs)) :=
  h _ _ (Ext.new n) (r.new n) ⟨p, vs, rfl, r.notin n, upd_same, e.mono (Ext.new (ρ := ρ) n)⟩ ⟨p, rfl, n⟩
theorem Res.tup {xs : List Vl} {vs : List V} {Q : VK} (h : Res K ρ H ah (.tup xs) Q) (r : RepH K ρ ah H) (e : RepVs K ρ H xs vs) (p : Addr) (n : H p = none) : Q (.ref p) (upd H p (.tup vs)) := by
  refine h _ _ (Ext.new n) (r.new n) ?_ trivial
  show RepV K ρ _ (.tup xs) _
  simp only [RepV]
  exact ⟨p, vs, rfl, .inl (.inl upd_same), e.mono (Ext.new (ρ := ρ) n)⟩
def NotFl : Vl → Bool
  | .fl _ => false
  | _ => true
theorem RepVs.nilR {xs : List Vl} (h : RepVs K ρ H xs []) : xs = [] := by
  cases xs with
  | nil => rfl
  | cons x r => simp only [RepVs] at h; obtain ⟨_, _, e, _⟩ := h; cases e
theorem RepR.v {v : Vl} {x : V} (h : RepR K ρ H v x) (n : NotFl v = true) : RepV K ρ H v x := by
  cases v <;> first | exact h | cases n
theorem RepR.int_ {i : Int} {x : V} (h : RepR K ρ H (.int i) x) : x = .int i := by simpa only [RepR, RepV] using h
theorem RepR.str_ {i : Str} {x : V} (h : RepR K ρ H (.str i) x) : x = .str i := by simpa only [RepR, RepV] using h
theorem RepR.bl_ {i : Bool} {x : V} (h : RepR K ρ H (.bl i) x) : x = .bl i := by simpa only [RepR, RepV] using h
theorem RepR.ty_ {i : String} {x : V} (h : RepR K ρ H (.ty i) x) : x = .ty i := by simpa only [RepR, RepV] using h
theorem RepR.non_ {x : V} (h : RepR K ρ H .non x) : x = .non := by simpa only [RepR, RepV] using h
theorem RepR.tup_ {xs : List Vl} {x : V} (h : RepR K ρ H (.tup xs) x) : ∃ a vs, x = .ref a ∧ SqT K H a vs ∧ RepVs K ρ H xs vs := by simpa only [RepR, RepV] using h
theorem RepR.ref_ {n : Nat} {x : V} (h : RepR K ρ H (.ref n) x) : ∃ a, x = .ref a ∧ ρ[n]? = some a := by simpa only [RepR, RepV] using h
theorem RepR.fz_ {xs : List Vl} {x : V} (h : RepR K ρ H (.fz xs) x) : ∃ a vs, x = .ref a ∧ SL K H a vs ∧ RepVs K ρ H xs vs := by simpa only [RepR, RepV] using h
theorem RepR.fl_ {xs : List Vl} {x : V} (h : RepR K ρ H (.fl xs) x) : ∃ a vs, x = .ref a ∧ a ∉ ρ ∧ H a = some (.lst vs) ∧ RepVs K ρ H xs vs := h
theorem lstW_ok {u : Vl} {x : V} {xs : List Vl} (r : RepH K ρ ah H) (h : RepR K ρ H u x) (e : lstW u ah = some xs) : ∃ a vs, x = .ref a ∧ H a = some (.lst vs) ∧ RepVs K ρ H xs vs := by
  cases u with
  | fl ys =>
    simp only [lstW, Option.some.injEq] at e
    subst e
    obtain ⟨a, vs, rfl, _, q, s⟩ := h
    exact ⟨a, vs, rfl, q, s⟩
  | ref n =>
    obtain ⟨a, rfl, ha⟩ := h.ref_
    simp only [lstW] at e
    split at e
    · rename_i ys hy
      cases e
      obtain ⟨b, vs, hb, q, s⟩ := r.lst hy
      rw [ha] at hb; cases hb
      exact ⟨a, vs, rfl, q, s⟩
    · cases e
  | _ => simp [lstW] at e
theorem lstOf_ok {u : Vl} {x : V} {xs : List Vl} (r : RepH K ρ ah H) (h : RepR K ρ H u x) (e : lstOf u ah = some xs) : ∃ a vs, x = .ref a ∧ SqL K H a vs ∧ RepVs K ρ H xs vs := by
  cases u with
  | fl ys =>
    obtain ⟨a, vs, h1, h2, h3⟩ := lstW_ok r h (show lstW (.fl ys) ah = some xs from e)
    exact ⟨a, vs, h1, .of h2, h3⟩
  | ref n =>
    obtain ⟨a, vs, h1, h2, h3⟩ := lstW_ok r h (show lstW (.ref n) ah = some xs from e)
    exact ⟨a, vs, h1, .of h2, h3⟩
  | fz ys =>
    simp only [lstOf, Option.some.injEq] at e
    subst e
    obtain ⟨a, vs, h1, h2, h3⟩ := h.fz_
    exact ⟨a, vs, h1, h2.sq, h3⟩
  | _ => simp [lstOf] at e
theorem seqOf_ok {u : Vl} {x : V} {xs : List Vl} (r : RepH K ρ ah H) (h : RepR K ρ H u x) (e : seqOf u ah = some xs) : ∃ a vs, x = .ref a ∧ (SqL K H a vs ∨ SqT K H a vs) ∧ RepVs K ρ H xs vs := by
  cases u with
  | tup ys =>
    simp only [seqOf, Option.some.injEq] at e
    subst e
    obtain ⟨a, vs, h1, h2, h3⟩ := h.tup_
    exact ⟨a, vs, h1, .inr h2, h3⟩
  | _ =>
    obtain ⟨a, vs, h1, h2, h3⟩ := lstOf_ok r h (by simpa only [seqOf] using e)
    exact ⟨a, vs, h1, .inl h2, h3⟩

/-! data -/
theorem mapM_ok {f : Vl → Option PyData} (hf : ∀ v x d, RepV K ρ H v x → f v = some d → Dp K H x d) : ∀ {xs : List Vl} {vs : List V} {ds : List PyData}, RepVs K ρ H xs vs → xs.mapM f = some ds → DpAll K H vs ds
  | [], _, _, h, e => by
    simp only [RepVs] at h
    subst h
    simp at e; subst e
    exact .nil
  | v :: xs, _, _, h, e => by
    simp only [RepVs] at h
    obtain ⟨y, r, rfl, h1, h2⟩ := h
    simp only [List.mapM_cons, Option.bind_eq_bind, Option.bind_eq_some_iff, Option.pure_def, Option.some.injEq] at e
    obtain ⟨d, e1, ds, e2, rfl⟩ := e
    exact .cons (hf _ _ _ h1 e1) (mapM_ok hf h2 e2)
theorem toD_ok (r : RepH K ρ ah H) : ∀ (n : Nat) (v : Vl) (x : V) (d : PyData), RepR K ρ H v x → toD n ah v = some d → Dp K H x d
  | 0, _, _, _, _, e => by simp [toD] at e
  | n + 1, v, x, d, h, e => by
    have ih := toD_ok r n
    have ih' : ∀ v x d, RepV K ρ H v x → toD n ah v = some d → Dp K H x d := fun v x d h => ih v x d h.r
    cases v with
    | non => obtain rfl := h.non_; simp only [toD, Option.some.injEq] at e; subst e; exact .non
    | bl b => obtain rfl := h.bl_; simp only [toD, Option.some.injEq] at e; subst e; exact .bl _
    | int b => obtain rfl := h.int_; simp only [toD, Option.some.injEq] at e; subst e; exact .int _
    | str b => obtain rfl := h.str_; simp only [toD, Option.some.injEq] at e; subst e; exact .str _
    | ty b => simp [toD] at e
    | tup xs =>
      obtain ⟨a, vs, rfl, s, q⟩ := h.tup_
      simp only [toD, Option.map_eq_some_iff] at e
      obtain ⟨ds, e, rfl⟩ := e
      exact .tup s (mapM_ok ih' q e)
    | fl xs =>
      obtain ⟨a, vs, rfl, _, s, q⟩ := h.fl_
      simp only [toD, Option.map_eq_some_iff] at e
      obtain ⟨ds, e, rfl⟩ := e
      exact .lst (.of s) (mapM_ok ih' q e)
    | fz xs =>
      obtain ⟨a, vs, rfl, s, q⟩ := h.fz_
      simp only [toD, Option.map_eq_some_iff] at e
      obtain ⟨ds, e, rfl⟩ := e
      exact .lst s.sq (mapM_ok ih' q e)
    | ref k =>
      simp only [toD] at e
      split at e
      · rename_i xs hx
        simp only [Option.map_eq_some_iff] at e
        obtain ⟨ds, e, rfl⟩ := e
        obtain ⟨a, vs, rfl, s, q⟩ := lstW_ok r h (show lstW (.ref k) ah = some xs by simp only [lstW, hx])
        exact .lst (.of s) (mapM_ok ih' q e)
      · cases e
theorem flV_ok {v : Vl} {x w : V} (h : RepR K ρ H v x) (e : flV v = some w) : x = w ∧ flatV x = true := by
  cases v with
  | non => obtain rfl := h.non_; simp only [flV, Option.some.injEq] at e; subst e; exact ⟨rfl, rfl⟩
  | bl b => obtain rfl := h.bl_; simp only [flV, Option.some.injEq] at e; subst e; exact ⟨rfl, rfl⟩
  | int b => obtain rfl := h.int_; simp only [flV, Option.some.injEq] at e; subst e; exact ⟨rfl, rfl⟩
  | str b => obtain rfl := h.str_; simp only [flV, Option.some.injEq] at e; subst e; exact ⟨rfl, rfl⟩
  | _ => simp [flV] at e
theorem flVs_ok : ∀ {xs : List Vl} {vs ws : List V}, RepVs K ρ H xs vs → xs.mapM flV = some ws → vs = ws ∧ vs.all flatV = true
  | [], _, _, h, e => by
    simp only [RepVs] at h
    subst h
    simp at e; subst e
    exact ⟨rfl, rfl⟩
  | v :: xs, _, _, h, e => by
    simp only [RepVs] at h
    obtain ⟨y, r, rfl, h1, h2⟩ := h
    simp only [List.mapM_cons, Option.bind_eq_bind, Option.bind_eq_some_iff, Option.pure_def, Option.some.injEq] at e
    obtain ⟨d, e1, ds, e2, rfl⟩ := e
    obtain ⟨rfl, f1⟩ := flV_ok h1.r e1
    obtain ⟨rfl, f2⟩ := flVs_ok h2 e2
    exact ⟨rfl, by simp [f1]; simpa using f2⟩
theorem intsOf_ok : ∀ {xs : List Vl} {vs : List V} {ns : List Int}, RepVs K ρ H xs vs → intsOf xs = some ns → vs = ns.map V.int
  | [], _, _, h, e => by
    simp only [RepVs] at h
    subst h
    simp only [intsOf, Option.some.injEq] at e; subst e
    rfl
  | v :: xs, _, _, h, e => by
    simp only [RepVs] at h
    obtain ⟨y, r, rfl, h1, h2⟩ := h
    cases v with
    | int i =>
      simp only [intsOf, Option.map_eq_some_iff] at e
      obtain ⟨ns, e, rfl⟩ := e
      obtain rfl := h1.r.int_
      rw [intsOf_ok h2 e]; rfl
    | _ => simp [intsOf] at e
theorem strsOf_ok : ∀ {xs : List Vl} {vs : List V} {ns : List Str}, RepVs K ρ H xs vs → strsOf xs = some ns → vs = ns.map V.str
  | [], _, _, h, e => by
    simp only [RepVs] at h
    subst h
    simp only [strsOf, Option.some.injEq] at e; subst e
    rfl
  | v :: xs, _, _, h, e => by
    simp only [RepVs] at h
    obtain ⟨y, r, rfl, h1, h2⟩ := h
    cases v with
    | str i =>
      simp only [strsOf, Option.map_eq_some_iff] at e
      obtain ⟨ns, e, rfl⟩ := e
      obtain rfl := h1.r.str_
      rw [strsOf_ok h2 e]; rfl
    | _ => simp [strsOf] at e
theorem blsOf_ok : ∀ {xs : List Vl} {vs : List V} {ns : List Bool}, RepVs K ρ H xs vs → blsOf xs = some ns → vs = ns.map V.bl
  | [], _, _, h, e => by
    simp only [RepVs] at h
    subst h
    simp only [blsOf, Option.some.injEq] at e; subst e
    rfl
  | v :: xs, _, _, h, e => by
    simp only [RepVs] at h
    obtain ⟨y, r, rfl, h1, h2⟩ := h
    cases v with
    | bl i =>
      simp only [blsOf, Option.map_eq_some_iff] at e
      obtain ⟨ns, e, rfl⟩ := e
      obtain rfl := h1.r.bl_
      rw [blsOf_ok h2 e]; rfl
    | _ => simp [blsOf] at e
end

section
variable {X : Cx}
def rBin (K : PySem.W.Frag) (f : Vl → Vl → AH → Option Vl) : R2 := fun x y H Q => ∃ ρ ah u w v, RepH K ρ ah H ∧ RepR K ρ H u x ∧ RepR K ρ H w y ∧ f u w ah = some v ∧ Res K ρ H ah v Q
theorem catL_ok {ρ : List Addr} {H : Hp} {ah : AH} {u w v : Vl} {x y : V} {Q : VK} (hH : RepH X.K ρ ah H) (ha : RepR X.K ρ H u x) (hb : RepR X.K ρ H w y)
    (hv : (match lstW u ah, lstW w ah with | some a, some b => if a.length + b.length ≤ sizeLine then some (Vl.fl (a ++ b)) else none | _, _ => none) = some v) (q : Res X.K ρ H ah v Q) : rCat x y H Q := by
  split at hv
  · rename_i a b e1 e2
    split at hv
    · rename_i hz
      cases hv
      obtain ⟨l, vs, rfl, h1, h2⟩ := lstW_ok hH ha e1
      obtain ⟨l', vs', rfl, h1', h2'⟩ := lstW_ok hH hb e2
      refine ⟨l, l', vs, vs', rfl, rfl, h1, h1', by rw [h2.length, h2'.length]; exact hz, fun p np => q.fl hH (h2.append h2') p np⟩
    · cases hv
  · cases hv
theorem add_ok : OpR X (binaryOp .Add) (rBin X.K addV) := by
  intro pins s σ H x y v u Q I rx ry h
  obtain ⟨ρ, ah, a, b, r, hH, ha, hb, hv, q⟩ := h
  unfold addV at hv
  split at hv
  · cases hv
    obtain rfl := ha.int_
    obtain rfl := hb.int_
    exact op_add pins s σ H _ _ v u Q I rx ry ⟨_, _, rfl, rfl, q.flat hH (by simp only [RepV])⟩
  · split at hv
    · rename_i hz
      cases hv
      obtain rfl := ha.str_
      obtain rfl := hb.str_
      exact op_add_str pins s σ H _ _ v u Q I rx ry ⟨_, _, rfl, rfl, hz, q.flat hH (by simp only [RepV])⟩
    · cases hv
  · split at hv
    · rename_i hz
      cases hv
      obtain ⟨p, vs, rfl, h1, h2⟩ := ha.tup_
      obtain ⟨p', vs', rfl, h1', h2'⟩ := hb.tup_
      refine op_catA pins s σ H _ _ v u Q I rx ry ⟨p, p', vs, vs', rfl, rfl, h1, h1', by rw [h2.length, h2'.length]; exact hz, fun e => ?_, fun _ e => ?_, fun _ _ p np => q.tup hH (h2.append h2') p np⟩
      · subst e
        have z := h2.nilR
        subst z
        exact q.flat hH (by simp only [RepV]; exact ⟨p', vs', rfl, h1', h2'⟩)
      · subst e
        have z := h2'.nilR
        subst z
        exact q.flat hH (by simp only [RepV, List.append_nil]; exact ⟨p, vs, rfl, h1, h2⟩)
    · cases hv
  · exact op_cat pins s σ H _ _ v u Q I rx ry (catL_ok hH ha hb hv q)
theorem bin_ok (op : Operator) : OpR X (binaryOp op) (rBin X.K (binV op)) := by
  intro pins s σ H x y v u Q I rx ry h
  obtain ⟨ρ, ah, a, b, r, hH, ha, hb, hv, q⟩ := h
  unfold binV at hv
  split at hv
  · exact add_ok pins s σ H x y v u Q I rx ry ⟨ρ, ah, a, b, r, hH, ha, hb, hv, q⟩
  · cases hv
    obtain rfl := ha.int_
    obtain rfl := hb.int_
    exact op_sub pins s σ H _ _ v u Q I rx ry ⟨_, _, rfl, rfl, q.flat hH (by simp only [RepV])⟩
  · split at hv
    · rename_i hc
      cases hv
      obtain rfl := ha.int_
      obtain rfl := hb.int_
      refine op_mul pins s σ H _ _ v u Q I rx ry ⟨_, _, rfl, rfl, ?_, q.flat hH (by simp only [RepV])⟩
      simpa [CMulB, CMul] using hc
    · cases hv
  · split at hv
    · rename_i xs e
      split at hv
      · rename_i hz
        cases hv
        obtain rfl := hb.int_
        obtain ⟨l, vs, rfl, h1, h2⟩ := lstW_ok hH ha e
        refine op_rep pins s σ H _ _ v u Q I rx ry ⟨l, _, vs, rfl, rfl, h1, hz.1, hz.2.1, by rw [h2.length]; exact hz.2.2, fun p np => q.fl hH ?_ p np⟩
        generalize Int.toNat _ = n
        induction n with
        | zero => simp [RepVs]
        | succ n ih =>
          simp only [List.replicate_succ, List.flatten_cons]
          exact h2.append ih
      · cases hv
    · cases hv
  · split at hv
    · rename_i hc
      cases hv
      obtain rfl := ha.int_
      obtain rfl := hb.int_
      exact op_mod pins s σ H _ _ v u Q I rx ry ⟨_, _, rfl, rfl, hc, q.flat hH (by simp only [RepV])⟩
    · cases hv
  · split at hv
    · rename_i hc
      cases hv
      obtain rfl := ha.int_
      obtain rfl := hb.int_
      exact op_fdiv pins s σ H _ _ v u Q I rx ry ⟨_, _, rfl, rfl, hc, q.flat hH (by simp only [RepV])⟩
    · cases hv
  · split at hv
    · rename_i hc
      cases hv
      obtain rfl := ha.int_
      obtain rfl := hb.int_
      exact op_pow pins s σ H _ _ v u Q I rx ry ⟨_, _, rfl, rfl, hc, q.flat hH (by simp only [RepV])⟩
    · cases hv
  · cases hv
end
end FK

/-! ### comparisons, subscripts, slices, built-ins, methods by values -/
namespace FK
open PySem PySem.Spec PyProof.Rows L2
section
variable {X : Cx} {ρ : List Addr} {H : Hp} {ah : AH} {u w : Vl} {x y : V}
theorem eqV_ok {K : PySem.W.Frag} {b : Bool} (hH : RepH K ρ ah H) (ha : RepR K ρ H u x) (hb : RepR K ρ H w y) (e : eqV u w ah = some b) :
    (scal x y = true ∧ decide (x = y) = b) ∨ ∃ d e, Dp K H x d ∧ Dp K H y e ∧ SeqAt.shaped d = true ∧ SeqAt.shaped e = true ∧ d.eqv e = b := by
  have deep : ∀ {b}, (match toD 66 ah u, toD 66 ah w with | some d, some e => if SeqAt.shaped d && SeqAt.shaped e then some (d.eqv e) else none | _, _ => none) = some b →
      ∃ d e, Dp K H x d ∧ Dp K H y e ∧ SeqAt.shaped d = true ∧ SeqAt.shaped e = true ∧ d.eqv e = b := fun {b} e => by
    split at e
    · rename_i d d' e1 e2
      split at e
      · rename_i hs
        simp only [Bool.and_eq_true] at hs
        cases e
        exact ⟨d, d', toD_ok hH _ _ _ _ ha e1, toD_ok hH _ _ _ _ hb e2, hs.1, hs.2, rfl⟩
      · cases e
    · cases e
  unfold eqV at e
  split at e
  all_goals first
    | exact .inr (deep e)
    | (left; cases e
       first | obtain rfl := ha.non_ | obtain rfl := ha.int_ | obtain rfl := ha.bl_ | obtain rfl := ha.str_
       first | obtain rfl := hb.non_ | obtain rfl := hb.int_ | obtain rfl := hb.bl_ | obtain rfl := hb.str_
       refine ⟨rfl, ?_⟩
       first | rfl | simp)
theorem eq_ok (hu : X.A.units + 65 < cLine) {Q : VK} {b : Bool} (hH : RepH X.K ρ ah H) (ha : RepR X.K ρ H u x) (hb : RepR X.K ρ H w y) (e : eqV u w ah = some b) (q : Q (.bl b) H) : rEq x y H Q ∨ rEqD X.K x y H Q := by
  rcases eqV_ok hH ha hb e with ⟨h1, rfl⟩ | ⟨d, d', h1, h2, h3, h4, rfl⟩
  · exact .inl ⟨h1, q⟩
  · exact .inr ⟨d, d', h1, h2, h3, h4, q⟩
theorem ne_ok (hu : X.A.units + 65 < cLine) {Q : VK} {b : Bool} (hH : RepH X.K ρ ah H) (ha : RepR X.K ρ H u x) (hb : RepR X.K ρ H w y) (e : eqV u w ah = some b) (q : Q (.bl (!b)) H) : rNe x y H Q ∨ rNeD X.K x y H Q := by
  rcases eqV_ok hH ha hb e with ⟨h1, rfl⟩ | ⟨d, d', h1, h2, h3, h4, rfl⟩
  · exact .inl ⟨h1, q⟩
  · exact .inr ⟨d, d', h1, h2, h3, h4, q⟩
theorem opOr {f : Value → Value → Sem Value} {r r' : R2} (h : OpR X f r) (h' : OpR X f r') : OpR X f (fun x y H Q => r x y H Q ∨ r' x y H Q) := by
  intro pins s σ H x y v u Q I rx ry q
  rcases q with q | q
  · exact h pins s σ H x y v u Q I rx ry q
  · exact h' pins s σ H x y v u Q I rx ry q
theorem inV_ok {K : PySem.W.Frag} {b : Bool} (hH : RepH K ρ ah H) (ha : RepR K ρ H u x) (hb : RepR K ρ H w y) (e : inV u w ah = some b) :
    (∃ i j, x = .str i ∧ y = .str j ∧ (!(Builtin.Str.occurrences j i 0 j.length 1).isEmpty) = b) ∨
    (∃ p xs, y = .ref p ∧ (SqL K H p xs ∨ SqT K H p xs) ∧ flatV x = true ∧ xs.all flatV = true ∧ L2.inV x xs = b) ∨
    ∃ d ds, Dp K H x d ∧ Dp K H y (PyData.list ds) ∧ SeqAt.shaped d = true ∧ SeqAt.shaped (PyData.list ds) = true ∧ (ds.any fun z => z.eqv d) = b := by
  unfold inV at e
  split at e
  · cases e
    obtain rfl := ha.str_
    obtain rfl := hb.str_
    exact .inl ⟨_, _, rfl, rfl, rfl⟩
  · right
    split at e
    · rename_i c bs e1 e2
      cases e
      simp only [Option.bind_eq_some_iff] at e2
      obtain ⟨xs, e2, e3⟩ := e2
      obtain ⟨p, vs, rfl, h1, h2⟩ := seqOf_ok hH hb e2
      obtain ⟨rfl, f1⟩ := flV_ok ha e1
      obtain ⟨rfl, f2⟩ := flVs_ok h2 e3
      exact .inl ⟨p, _, rfl, h1, f1, f2, rfl⟩
    · split at e
      · rename_i d ds e1 e2
        split at e
        · rename_i hs
          simp only [Bool.and_eq_true] at hs
          cases e
          exact .inr ⟨d, ds, toD_ok hH _ _ _ _ ha e1, toD_ok hH _ _ _ _ hb e2, hs.1, hs.2, rfl⟩
        · cases e
      · cases e
def isNon : Vl → Bool
  | .non => true
  | _ => false
theorem RepR.isN {K : PySem.W.Frag} (h : RepR K ρ H u x) : decide (x = V.non) = isNon u := by
  cases u with
  | non => obtain rfl := h.non_; rfl
  | bl b => obtain rfl := h.bl_; rfl
  | int b => obtain rfl := h.int_; rfl
  | str b => obtain rfl := h.str_; rfl
  | ty b => obtain rfl := h.ty_; rfl
  | tup xs => obtain ⟨a, vs, rfl, _⟩ := h.tup_; rfl
  | ref n => obtain ⟨a, rfl, _⟩ := h.ref_; rfl
  | fl xs => obtain ⟨a, vs, rfl, _⟩ := h.fl_; rfl
  | fz xs => obtain ⟨a, vs, rfl, _⟩ := h.fz_; rfl
def rCmp (K : PySem.W.Frag) (op : CmpOp) : R2 := fun x y H Q => ∃ ρ ah u w b, RepH K ρ ah H ∧ RepR K ρ H u x ∧ RepR K ρ H w y ∧ cmpV op u w ah = some b ∧ Q (.bl b) H
theorem cmp_ok (hu : X.A.units + 65 < cLine) (op : CmpOp) : OpR X (compareOp op) (rCmp X.K op) := by
  intro pins s σ H x y v u Q I rx ry h
  obtain ⟨ρ, ah, a, b, r, hH, ha, hb, hv, q⟩ := h
  unfold cmpV at hv
  split at hv
  · exact (opOr op_eq (op_eqD (by omega))) pins s σ H x y v u Q I rx ry (eq_ok hu hH ha hb hv q)
  · simp only [Option.map_eq_some_iff] at hv
    obtain ⟨c, e, rfl⟩ := hv
    exact (opOr op_ne (op_neD (by omega))) pins s σ H x y v u Q I rx ry (ne_ok hu hH ha hb e q)
  · rcases inV_ok hH ha hb hv with ⟨i, j, h1, h2, rfl⟩ | ⟨p, xs, h1, h2, h3, h4, rfl⟩ | ⟨d, ds, h1, h2, h3, h4, rfl⟩
    · exact op_in_str pins s σ H x y v u Q I rx ry ⟨i, j, h1, h2, q⟩
    · exact op_in_seq pins s σ H x y v u Q I rx ry ⟨p, xs, h1, h2, h3, h4, q⟩
    · exact op_inD hu pins s σ H x y v u Q I rx ry ⟨d, ds, h1, h2, h3, h4, q⟩
  · simp only [Option.map_eq_some_iff] at hv
    obtain ⟨c, e, rfl⟩ := hv
    rcases inV_ok hH ha hb e with ⟨i, j, h1, h2, rfl⟩ | ⟨p, xs, h1, h2, h3, h4, rfl⟩ | ⟨d, ds, h1, h2, h3, h4, rfl⟩
    · exact op_notin_str pins s σ H x y v u Q I rx ry ⟨i, j, h1, h2, q⟩
    · exact op_notIn_seq pins s σ H x y v u Q I rx ry ⟨p, xs, h1, h2, h3, h4, q⟩
    · exact op_notInD hu pins s σ H x y v u Q I rx ry ⟨d, ds, h1, h2, h3, h4, q⟩
  · cases hv
    obtain rfl := ha.int_
    obtain rfl := hb.int_
    exact op_lt pins s σ H _ _ v u Q I rx ry ⟨_, _, rfl, rfl, q⟩
  · cases hv
    obtain rfl := ha.int_
    obtain rfl := hb.int_
    exact op_le pins s σ H _ _ v u Q I rx ry ⟨_, _, rfl, rfl, q⟩
  · cases hv
    obtain rfl := ha.int_
    obtain rfl := hb.int_
    exact op_gt pins s σ H _ _ v u Q I rx ry ⟨_, _, rfl, rfl, q⟩
  · cases hv
    obtain rfl := ha.int_
    obtain rfl := hb.int_
    exact op_ge pins s σ H _ _ v u Q I rx ry ⟨_, _, rfl, rfl, q⟩
  · split at hv
    · rename_i i j e1 e2
      cases hv
      obtain ⟨p, vs, rfl, h1, h2⟩ := ha.tup_
      obtain ⟨p', vs', rfl, h1', h2'⟩ := hb.tup_
      rw [intsOf_ok h2 e1] at h1
      rw [intsOf_ok h2' e2] at h1'
      exact op_ltT (by omega) pins s σ H _ _ v u Q I rx ry ⟨p, p', i, j, rfl, rfl, h1, h1', q⟩
    · cases hv
  · obtain rfl := hb.non_
    refine op_isN pins s σ H _ _ v u Q I rx ry ⟨rfl, ?_⟩
    rw [ha.isN]
    cases a <;> (cases hv; exact q)
  · obtain rfl := hb.non_
    refine op_notN pins s σ H _ _ v u Q I rx ry ⟨rfl, ?_⟩
    rw [ha.isN]
    cases a <;> (cases hv; exact q)
  · cases hv

/-! subscripts -/
theorem atI_rep {K : PySem.W.Frag} {xs : List Vl} {vs : List V} {i : Int} {v : Vl} (h : RepVs K ρ H xs vs) (e : atI xs i = some v) : ∃ z, atI vs i = some z ∧ RepV K ρ H v z := by
  unfold atI at e ⊢
  rw [h.length]
  simp only [Option.bind_eq_some_iff] at e ⊢
  obtain ⟨j, e1, e2⟩ := e
  obtain ⟨z, h1, h2⟩ := h.get e2
  exact ⟨z, ⟨j, e1, h1⟩, h2⟩
theorem ix_ok : IxR X (rBin X.K ixV) := by
  intro value slice pins s σ H x y v u Q I rx ry h hsub
  refine ix_seq value slice pins s σ H x y v u Q I rx ry ?_ hsub
  obtain ⟨ρ, ah, a, b, r, hH, ha, hb, hv, q⟩ := h
  unfold ixV at hv
  split at hv
  · obtain rfl := hb.int_
    split at hv
    · split at hv
      · rename_i hz
        simp only [Option.map_eq_some_iff] at hv
        obtain ⟨c, e, rfl⟩ := hv
        obtain rfl := ha.str_
        exact .inr (.inr ⟨_, _, c, rfl, rfl, hz, e, q.flat hH (by simp only [RepV])⟩)
      · cases hv
    · simp only [Option.bind_eq_some_iff] at hv
      obtain ⟨xs, e1, e2⟩ := hv
      obtain ⟨p, vs, rfl, h1, h2⟩ := seqOf_ok hH ha e1
      obtain ⟨z, h3, h4⟩ := atI_rep h2 e2
      rcases h1 with h1 | h1
      · exact .inl ⟨p, vs, _, z, rfl, rfl, h1, h3, q.flat hH h4⟩
      · exact .inr (.inl ⟨p, vs, _, z, rfl, rfl, h1, h3, q.flat hH h4⟩)
  · cases hv
theorem cutL_rep {K : PySem.W.Frag} {xs : List Vl} {vs : List V} (h : RepVs K ρ H xs vs) (lo hi : Option Int) : RepVs K ρ H (cutL xs lo hi) (cutV vs lo hi) := by
  unfold cutL cutV
  rw [h.length]
  exact (h.drop _).take _
def rSl (K : PySem.W.Frag) : V → Option Int → Option Int → Hp → VK → Prop := fun x lo hi H Q => ∃ ρ ah u v, RepH K ρ ah H ∧ RepR K ρ H u x ∧ slV u lo hi ah = some v ∧ Res K ρ H ah v Q
theorem sl_ok : SlR X (rSl X.K) := by
  intro pins s σ H x v vl vu lo hi sl Q I rx h1 h2 h3 h
  obtain ⟨ρ, ah, a, r, hH, ha, hv, q⟩ := h
  unfold slV at hv
  split at hv
  · split at hv
    · rename_i hz
      cases hv
      obtain rfl := ha.str_
      exact sl_str pins s σ H _ v vl vu lo hi sl Q I rx h1 h2 h3 ⟨_, rfl, hz, q.flat hH (by simp only [RepV])⟩
    · cases hv
  · cases hv
    obtain ⟨p, vs, rfl, g1, g2⟩ := ha.tup_
    refine sl_tupA pins s σ H _ v vl vu lo hi sl Q I rx h1 h2 h3 ⟨p, vs, rfl, g1, fun e => ?_, fun _ p np => q.tup hH (cutL_rep g2 lo hi) p np⟩
    refine q.flat hH ?_
    simp only [RepV]
    refine ⟨p, vs, rfl, g1, ?_⟩
    have hc := cutL_rep g2 lo hi
    have e' : cutV vs lo hi = vs := by
      unfold cutV
      rw [e.1, e.2]
      simp
    rw [e'] at hc
    exact hc
  · simp only [Option.map_eq_some_iff] at hv
    obtain ⟨xs, e, rfl⟩ := hv
    obtain ⟨p, vs, rfl, g1, g2⟩ := lstOf_ok hH ha e
    exact sl_list pins s σ H _ v vl vu lo hi sl Q I rx h1 h2 h3 ⟨p, vs, rfl, g1, fun p np => q.fl hH (cutL_rep g2 lo hi) p np⟩
end
end FK

namespace FK
open PySem PySem.Spec PyProof.Rows L2
section
variable {X : Cx} {ρ : List Addr} {H : Hp} {ah : AH} {u w : Vl} {x y : V}
def Bi.val : Bi → Value
  | .len => .builtin "len" | .abs => .builtin "abs" | .isinstance => .builtin "isinstance" | .all => .builtin "all" | .any => .builtin "any"
  | .tuple => .type "tuple" | .list => .type "list" | .str => .type "str" | .min => .builtin "min" | .max => .builtin "max" | .sum => .builtin "sum" | .int => .type "int"
def Bi.name : Bi → Str
  | .len => "len" | .abs => "abs" | .isinstance => "isinstance" | .all => "all" | .any => "any"
  | .tuple => "tuple" | .list => "list" | .str => "str" | .min => "min" | .max => "max" | .sum => "sum" | .int => "int"
def rBi (K : PySem.W.Frag) (f : Bi) : List V → Hp → VK → Prop := fun xs H Q => ∃ ρ ah us v, RepH K ρ ah H ∧ RepRs K ρ H us xs ∧ biV f us ah = some v ∧ Res K ρ H ah v Q
theorem RepRs.one {K : PySem.W.Frag} {v : Vl} {xs : List V} (h : RepRs K ρ H [v] xs) : ∃ z, xs = [z] ∧ RepR K ρ H v z := by
  obtain ⟨z, r, rfl, h1, rfl⟩ := h
  exact ⟨z, rfl, h1⟩
theorem RepRs.two {K : PySem.W.Frag} {v v' : Vl} {xs : List V} (h : RepRs K ρ H [v, v'] xs) : ∃ z z', xs = [z, z'] ∧ RepR K ρ H v z ∧ RepR K ρ H v' z' := by
  obtain ⟨z, r, rfl, h1, z', r', rfl, h2, rfl⟩ := h
  exact ⟨z, z', rfl, h1, h2⟩
theorem tyX_list {K : PySem.W.Frag} {a : Addr} {vs : List V} (h : SqL K H a vs) : TyX K H (.ref a) (.type "list") := by
  rcases h with (h | ⟨o, h⟩) | ⟨o, its, n, h1, h2, _⟩
  · exact .base (.lst h)
  · exact .base (.frz h)
  · exact .kList h1 h2
theorem tyX_tup {K : PySem.W.Frag} {a : Addr} {vs : List V} (h : SqT K H a vs) : TyX K H (.ref a) (.type "tuple") := by
  rcases h with (h | ⟨o, h⟩) | ⟨o, its, n, h1, h2, _⟩
  · exact .base (.tup h)
  · exact .fTuple h
  · exact .kTuple h1 h2
theorem tyOf_ok {K : PySem.W.Frag} {t : String} (hH : RepH K ρ ah H) (h : RepR K ρ H u x) (e : tyOf u ah = some t) : TyX K H x (.type t) := by
  cases u with
  | non => obtain rfl := h.non_; simp only [tyOf, Option.some.injEq] at e; subst e; exact .base .non
  | bl b => obtain rfl := h.bl_; simp only [tyOf, Option.some.injEq] at e; subst e; exact .base (.bl _)
  | int b => obtain rfl := h.int_; simp only [tyOf, Option.some.injEq] at e; subst e; exact .base (.int _)
  | str b => obtain rfl := h.str_; simp only [tyOf, Option.some.injEq] at e; subst e; exact .base (.str _)
  | ty b => simp [tyOf] at e
  | tup xs => obtain ⟨a, vs, rfl, h1, _⟩ := h.tup_; simp only [tyOf, Option.some.injEq] at e; subst e; exact tyX_tup h1
  | fl xs => obtain ⟨a, vs, rfl, _, h1, _⟩ := h.fl_; simp only [tyOf, Option.some.injEq] at e; subst e; exact tyX_list (.of h1)
  | fz xs => obtain ⟨a, vs, rfl, h1, _⟩ := h.fz_; simp only [tyOf, Option.some.injEq] at e; subst e; exact tyX_list h1.sq
  | ref n =>
    simp only [tyOf] at e
    split at e
    · rename_i xs hx
      cases e
      obtain ⟨a, vs, rfl, h1, _⟩ := lstW_ok hH h (show lstW (.ref n) ah = some xs by simp only [lstW, hx])
      exact tyX_list (.of h1)
    · cases e
theorem isV_ok {K : PySem.W.Frag} {b : Bool} (hH : RepH K ρ ah H) (h : RepR K ρ H u x) (h' : RepR K ρ H w y) (e : isV u w ah = some b) : ∃ t c, ClsV y c ∧ TyX K H x t ∧ PySem.W.kitOne K t c = some b := by
  cases w with
  | ty T =>
    simp only [isV, Option.bind_eq_some_iff] at e
    obtain ⟨t, e1, e2⟩ := e
    obtain rfl := h'.ty_
    exact ⟨_, _, .ty T, tyOf_ok hH h e1, kit_ty e2⟩
  | _ => simp [isV] at e
theorem str_ok (hg : X.A.guards = some []) (hu : X.A.units + 68 < cLine) {pins : List (Addr × Obj)} {s : Shared} {σ : St} {z : V} {v : Value} {Q : VK} {a : Str} (I : L2.Inv X pins σ H s) (rz : RelV z v) (hH : RepH X.K ρ ah H) (hr : RepR X.K ρ H u z) (e : strV u ah = some a) (q : Q (.str a) H) :
    wpAny (model X.prog X.w) X.A (call (.type "str") [v]) (EP X pins σ Q) X.xe s := by
  have deep : ∀ {a}, (match toD 66 ah u with | some d => if d.showable && !d.hasDict && decide (d.depth ≤ 64) && decide (d.shown.length ≤ sizeLine) then some d.shown else none | none => none) = some a →
      ∃ d, Dp X.K H z d ∧ d.showable = true ∧ d.hasDict = false ∧ d.depth ≤ 64 ∧ d.shown.length ≤ sizeLine ∧ a = d.shown := fun {a} e => by
    split at e
    · rename_i d ed
      split at e
      · rename_i hc
        simp only [Bool.and_eq_true, decide_eq_true_eq, Bool.not_eq_true'] at hc
        cases e
        exact ⟨d, toD_ok hH _ _ _ _ hr ed, hc.1.1.1, hc.1.1.2, hc.1.2, hc.2, rfl⟩
      · cases e
    · cases e
  unfold strV at e
  split at e
  · cases e
    obtain rfl := hr.str_
    obtain ⟨t, rfl⟩ := rz
    exact PySem.P.str_of_str ⟨.str a, H, I, ⟨t, rfl⟩, q⟩
  · obtain ⟨d, h1, h2, h3, h4, h5, rfl⟩ := deep e
    have rd := Dp.reads I d z v h1 rz
    cases z with
    | non =>
      cases h1; cases rz
      exact PySem.P.str_of_none ⟨.str _, H, I.tok _, ⟨_, rfl⟩, q⟩
    | bl b =>
      cases h1; cases rz
      exact PySem.P.str_of_bool ⟨.str _, H, I.tok _, ⟨_, rfl⟩, by cases b <;> exact q⟩
    | int i =>
      cases h1
      obtain ⟨t, rfl⟩ := rz
      exact PySem.P.str_of_int (by simpa [PyData.showable] using h2) ⟨.str _, H, I.tok _, ⟨_, rfl⟩, q⟩
    | ref p =>
      obtain ⟨as, rd⟩ := rd
      cases rz
      exact str_of_reads rd h2 (fun z => by rw [h3] at z; cases z) hg (by omega) (fun b o e => e) (fun h' t tk hk => ⟨.str _, H, I.kept (h' := h') (t' := tk) hk, ⟨t, rfl⟩, q⟩) h5
    | str x =>
      rename_i hn
      cases h1
      cases u <;> first | exact absurd rfl (hn _) | (simp only [RepR, RepV] at hr; (first | (cases hr; done) | (obtain ⟨_, _, e, _⟩ := hr; cases e; done) | (obtain ⟨_, e, _⟩ := hr; cases e; done)))
    | _ => cases h1
theorem bi_ok (hg : X.A.guards = some []) (hu : X.A.units + 68 < cLine) (hc : X.calm = true) (f : Bi) : CallR X f.val (rBi X.K f) := by
  intro pins s σ H xs us Q I rx h
  obtain ⟨ρ, ah, ws, v, hH, hr, hv, q⟩ := h
  unfold biV at hv
  split at hv
  · -- len
    obtain ⟨z, rfl, hz⟩ := hr.one
    split at hv
    · split at hv
      · rename_i hl
        cases hv
        obtain rfl := hz.str_
        exact call_len_str pins s σ H _ us Q I rx ⟨_, rfl, hl, q.flat hH (by simp only [RepV])⟩
      · cases hv
    · simp only [Option.map_eq_some_iff] at hv
      obtain ⟨ys, e, rfl⟩ := hv
      obtain ⟨p, vs, rfl, h1, h2⟩ := seqOf_ok hH hz e
      exact call_len_seq pins s σ H _ us Q I rx ⟨p, vs, rfl, h1, q.flat hH (by simp only [RepV]; rw [h2.length])⟩
  · -- abs
    obtain ⟨z, rfl, hz⟩ := hr.one
    cases hv
    obtain rfl := hz.int_
    exact call_abs pins s σ H _ us Q I rx ⟨_, rfl, q.flat hH (by simp only [RepV])⟩
  · -- isinstance
    obtain ⟨z, z', rfl, hz, hz'⟩ := hr.two
    simp only [Option.map_eq_some_iff] at hv
    obtain ⟨b, e, rfl⟩ := hv
    obtain ⟨t, c, h1, h2, h3⟩ := isV_ok hH hz hz' e
    exact call_isi pins s σ H _ us Q I rx ⟨z, z', t, c, b, rfl, h1, h2, h3, q.flat hH (by simp only [RepV])⟩
  · -- all
    obtain ⟨z, rfl, hz⟩ := hr.one
    simp only [Option.map_eq_some_iff, Option.bind_eq_some_iff] at hv
    obtain ⟨bs, ⟨ys, e1, e2⟩, rfl⟩ := hv
    obtain ⟨p, vs, rfl, h1, h2⟩ := lstOf_ok hH hz e1
    rw [blsOf_ok h2 e2] at h1
    exact cr_all hc pins s σ H _ us Q I rx ⟨p, bs, rfl, h1, q.flat hH (by simp only [RepV])⟩
  · -- any
    obtain ⟨z, rfl, hz⟩ := hr.one
    simp only [Option.map_eq_some_iff, Option.bind_eq_some_iff] at hv
    obtain ⟨bs, ⟨ys, e1, e2⟩, rfl⟩ := hv
    obtain ⟨p, vs, rfl, h1, h2⟩ := lstOf_ok hH hz e1
    rw [blsOf_ok h2 e2] at h1
    exact cr_any hc pins s σ H _ us Q I rx ⟨p, bs, rfl, h1, q.flat hH (by simp only [RepV])⟩
  · -- tuple
    obtain ⟨z, rfl, hz⟩ := hr.one
    simp only [Option.map_eq_some_iff] at hv
    obtain ⟨ys, e, rfl⟩ := hv
    obtain ⟨p, vs, rfl, h1, h2⟩ := seqOf_ok hH hz e
    refine call_tuple_of pins s σ H _ us Q I rx ⟨p, vs, rfl, ?_⟩
    rcases h1 with h1 | h1
    · exact .inl ⟨h1, fun l nl => q.tup hH h2 l nl⟩
    · exact .inr ⟨h1, q.flat hH (by simp only [RepV]; exact ⟨p, vs, rfl, h1, h2⟩)⟩
  · -- list
    obtain ⟨z, rfl, hz⟩ := hr.one
    simp only [Option.map_eq_some_iff] at hv
    obtain ⟨ys, e, rfl⟩ := hv
    obtain ⟨p, vs, rfl, h1, h2⟩ := seqOf_ok hH hz e
    exact call_list_of pins s σ H _ us Q I rx ⟨p, vs, rfl, h1, fun l nl => q.fl hH h2 l nl⟩
  · obtain ⟨z, rfl, hz⟩ := hr.one
    cases hv
    obtain rfl := hz.bl_
    exact call_int1 pins s σ H _ us Q I rx (.inr ⟨_, rfl, q.flat hH (by simp only [RepV])⟩)
  · obtain ⟨z, rfl, hz⟩ := hr.one
    cases hv
    obtain rfl := hz.int_
    exact call_int1 pins s σ H _ us Q I rx (.inl ⟨_, rfl, q.flat hH (by simp only [RepV])⟩)
  · obtain ⟨z, z', rfl, hz, hz'⟩ := hr.two
    cases hv
    obtain rfl := hz.int_
    obtain rfl := hz'.int_
    exact call_min2 hc pins s σ H _ us Q I rx ⟨_, _, rfl, q.flat hH (by simp only [RepV])⟩
  · obtain ⟨z, z', rfl, hz, hz'⟩ := hr.two
    cases hv
    obtain rfl := hz.int_
    obtain rfl := hz'.int_
    exact call_max2 hc pins s σ H _ us Q I rx ⟨_, _, rfl, q.flat hH (by simp only [RepV])⟩
  · obtain ⟨z, rfl, hz⟩ := hr.one
    simp only [Option.map_eq_some_iff] at hv
    obtain ⟨a, e, rfl⟩ := hv
    obtain ⟨v', rfl, rz⟩ := L2.Vals.one rx
    exact str_ok hg hu I rz hH hz e (q.flat hH (by simp only [RepV]))
  · obtain ⟨z, rfl, hz⟩ := hr.one
    simp only [Option.map_eq_some_iff, Option.bind_eq_some_iff] at hv
    obtain ⟨ns, ⟨ys, e1, e2⟩, rfl⟩ := hv
    obtain ⟨p, vs, rfl, h1, h2⟩ := lstOf_ok hH hz e1
    rw [intsOf_ok h2 e2] at h1
    exact cr_sum hc pins s σ H _ us Q I rx ⟨p, ns, rfl, h1, q.flat hH (by simp only [RepV])⟩
  · cases hv

/-! methods -/
def Me.T : Me → String
  | .join => "str"
  | _ => "list"
def Me.id : Me → String
  | .append => "list.append" | .extend => "list.extend" | .pop => "list.pop" | .popAt => "list.pop" | .reverse => "list.reverse" | .clear => "list.clear" | .join => "str.join"
def Me.name : Me → Str
  | .append => "append" | .extend => "extend" | .pop => "pop" | .popAt => "pop" | .reverse => "reverse" | .clear => "clear" | .join => "join"
def rMe (K : PySem.W.Frag) (m : Me) : V → List V → Hp → VK → Prop := fun x xs H Q => ∃ ρ ah u ws v ah', RepH K ρ ah H ∧ RepR K ρ H u x ∧ RepVs K ρ H ws xs ∧ meV m u ws ah = some (v, ah') ∧ Res K ρ H ah' v Q
theorem RepVs.one_ {K : PySem.W.Frag} {v : Vl} {xs : List V} (h : RepVs K ρ H [v] xs) : ∃ z, xs = [z] ∧ RepV K ρ H v z := by
  simp only [RepVs] at h
  obtain ⟨z, r, rfl, h1, rfl⟩ := h
  exact ⟨z, rfl, h1⟩
theorem RepVs.nil_ {K : PySem.W.Frag} {xs : List V} (h : RepVs K ρ H [] xs) : xs = [] := by simpa only [RepVs] using h
/-- a list with a number, written -/
theorem Res.wr {K : PySem.W.Frag} {n : Nat} {a : Addr} {xs' : List Vl} {vs vs' : List V} {v : Vl} {z : V} {Q : VK} (hH : RepH K ρ ah H) (e : ρ[n]? = some a) (l : H a = some (.lst vs)) (r : RepVs K ρ H xs' vs')
    (q : Res K ρ H (ah.set n (.lst xs')) v Q) (hv : RepV K ρ H v z) : Q z (upd H a (.lst vs')) := by
  obtain ⟨h1, h2⟩ := hH.wr e l r
  refine q _ _ h2 h1 (hv.mono h2).r ?_
  cases v <;> first | trivial | (simp only [RepV] at hv)
theorem me_ok (m : Me) : MtR X m.id (rMe X.K m) := by
  intro pins s σ H x xs v us Q I rx rs h
  obtain ⟨ρ, ah, u, ws, r, ah', hH, hu, hw, hv, q⟩ := h
  have nn : RepV X.K ρ H .non .non := by simp only [RepV]
  unfold meV at hv
  split at hv
  · obtain ⟨z, rfl, hz⟩ := hw.one_
    split at hv
    · rename_i ys hy
      split at hv
      · rename_i hl
        cases hv
        obtain ⟨a, rfl, ha⟩ := hu.ref_
        obtain ⟨a', vs, ha', h1, h2⟩ := hH.lst hy
        rw [ha] at ha'; cases ha'
        exact mt_append pins s σ H _ _ v us Q I rx rs ⟨a, vs, z, rfl, rfl, h1, by rw [h2.length]; exact hl, q.wr hH ha h1 (h2.append (.one hz)) nn⟩
      · cases hv
    · cases hv
  · obtain ⟨z, rfl, hz⟩ := hw.one_
    split at hv
    · rename_i ys zs hy hzs
      split at hv
      · rename_i hl
        cases hv
        obtain ⟨a, rfl, ha⟩ := hu.ref_
        obtain ⟨a', vs, ha', h1, h2⟩ := hH.lst hy
        rw [ha] at ha'; cases ha'
        obtain ⟨b, vs', rfl, h1', h2'⟩ := lstW_ok hH hz.r hzs
        exact mt_extend pins s σ H _ _ v us Q I rx rs ⟨a, b, vs, vs', rfl, rfl, h1, h1', by rw [h2.length, h2'.length]; exact hl, q.wr hH ha h1 (h2.append h2') nn⟩
      · cases hv
    · cases hv
  · obtain rfl := hw.nil_
    split at hv
    · rename_i ys hy
      simp only [Option.map_eq_some_iff] at hv
      obtain ⟨w, e, e'⟩ := hv
      cases e'
      obtain ⟨a, rfl, ha⟩ := hu.ref_
      obtain ⟨a', vs, ha', h1, h2⟩ := hH.lst hy
      rw [ha] at ha'; cases ha'
      obtain ⟨z, hz1, hz2⟩ := h2.get e
      refine mt_pop pins s σ H _ _ v us Q I rx rs ⟨a, vs, z, rfl, rfl, h1, by rw [h2.length]; exact hz1, q.wr hH ha h1 ?_ hz2⟩
      rw [List.dropLast_eq_take, List.dropLast_eq_take, h2.length]
      exact h2.take _
    · cases hv
  · obtain rfl := hw.nil_
    split at hv
    · rename_i ys hy
      cases hv
      obtain ⟨a, rfl, ha⟩ := hu.ref_
      obtain ⟨a', vs, ha', h1, h2⟩ := hH.lst hy
      rw [ha] at ha'; cases ha'
      exact mt_reverse pins s σ H _ _ v us Q I rx rs ⟨a, vs, rfl, rfl, h1, q.wr hH ha h1 h2.rev nn⟩
    · cases hv
  · obtain rfl := hw.nil_
    split at hv
    · rename_i ys hy
      cases hv
      obtain ⟨a, rfl, ha⟩ := hu.ref_
      obtain ⟨a', vs, ha', h1, h2⟩ := hH.lst hy
      rw [ha] at ha'; cases ha'
      exact mt_clear pins s σ H _ _ v us Q I rx rs ⟨a, vs, rfl, rfl, h1, q.wr hH ha h1 (by simp only [RepVs]) nn⟩
    · cases hv
  · obtain ⟨z, rfl, hz⟩ := hw.one_
    split at hv
    · rename_i ss hs
      split at hv
      · rename_i hl
        cases hv
        simp only [Option.bind_eq_some_iff] at hs
        obtain ⟨ys, e1, e2⟩ := hs
        obtain rfl := hu.str_
        obtain ⟨p, vs, rfl, h1, h2⟩ := seqOf_ok hH hz.r e1
        rw [strsOf_ok h2 e2] at h1
        exact mt_join pins s σ H _ _ v us Q I rx rs ⟨_, p, ss, rfl, rfl, h1, hl, q.flat hH (by simp only [RepV])⟩
      · cases hv
    · cases hv
  · cases hv
theorem meTy_ok {K : PySem.W.Frag} {m : Me} (hH : RepH K ρ ah H) (h : RepR K ρ H u x) (e : meTy m u ah = true) : tyV K m.T x H := by
  have lst : ∀ n, u = .ref n → (match ah[n]? with | some (.lst _) => true | _ => false) = true → tyV K "list" x H := fun n e1 e2 => by
    subst e1
    split at e2
    · rename_i xs hx
      obtain ⟨a, vs, rfl, h1, _⟩ := lstW_ok hH h (show lstW (.ref n) ah = some xs by simp only [lstW, hx])
      exact .inl ⟨rfl, vs, .of h1⟩
    · cases e2
  cases m with
  | join => cases u <;> first | (simp [meTy] at e; done) | (obtain rfl := h.str_; rfl)
  | _ => cases u <;> first | (simp [meTy] at e; done) | exact lst _ rfl e
/-! a store to o[i] -/
def rSetIx (K : PySem.W.Frag) : V → V → V → Hp → (Hp → Prop) → Prop := fun o i v H Q => ∃ ρ ah u j w ah', RepH K ρ ah H ∧ RepR K ρ H u o ∧ RepR K ρ H j i ∧ RepV K ρ H w v ∧ setIxV u j w ah = some ah' ∧ ∀ H', Ext ρ H ρ H' → RepH K ρ ah' H' → Q H'
theorem setIx_ok : PSet X (rSetIx X.K) := by
  intro pins s σ H o i v ov iv uv Q I ro ri rv h
  refine set_list pins s σ H o i v ov iv uv Q I ro ri rv ?_
  obtain ⟨ρ, ah, u, j, w, ah', hH, hu, hj, hw, e, q⟩ := h
  unfold setIxV at e
  split at e
  · split at e
    · rename_i xs hx
      simp only [Option.map_eq_some_iff] at e
      obtain ⟨k, e, rfl⟩ := e
      obtain ⟨a, rfl, ha⟩ := hu.ref_
      obtain ⟨a', vs, ha', h1, h2⟩ := hH.lst hx
      rw [ha] at ha'; cases ha'
      obtain rfl := hj.int_
      obtain ⟨g1, g2⟩ := hH.wr ha h1 (h2.set k hw)
      exact ⟨a, vs, _, k, rfl, rfl, h1, by rw [h2.length]; exact e, q _ g2 g1⟩
    · cases e
  · cases e
end
end FK

/-! ### readings by the small Python -/
namespace FK
open PySem PySem.Spec PyProof.Rows L2
section
variable (K : PySem.W.Frag)
/-- behind an expression -/
def Aft (ρ : List Addr) (H : Hp) (v : Vl) (ah' : AH) (Q : VK) : Prop := ∀ ρ' H' z, Ext ρ H ρ' H' → RepH K ρ' ah' H' → RepR K ρ' H' v z → Fr H v z → Q z H'
def rE (m : ME) : TE := fun σ H Q => ∃ ρ e ah v ah', RepS K ρ H e σ ∧ RepH K ρ ah H ∧ m e ah = some (v, ah') ∧ Aft K ρ H v ah' Q
def rT (m : MT) : TT := fun σ H Q => ∃ ρ e ah b ah', RepS K ρ H e σ ∧ RepH K ρ ah H ∧ m e ah = some (b, ah') ∧ ∀ ρ' H', Ext ρ H ρ' H' → RepH K ρ' ah' H' → Q b H'
def rA (m : MA) : TA := fun σ H Q => ∃ ρ e ah vs ah', RepS K ρ H e σ ∧ RepH K ρ ah H ∧ m e ah = some (vs, ah') ∧ ∀ ρ' H' zs, Ext ρ H ρ' H' → RepH K ρ' ah' H' → RepVs K ρ' H' vs zs → Q zs H'
def rB (m : MA) : TA := fun σ H Q => ∃ ρ e ah vs ah', RepS K ρ H e σ ∧ RepH K ρ ah H ∧ m e ah = some (vs, ah') ∧ ∀ ρ' H' zs, Ext ρ H ρ' H' → RepH K ρ' ah' H' → RepRs K ρ' H' vs zs → Q zs H'
def rO (m : AE → AH → Option (Option Int × AH)) : TO := fun σ H Q => ∃ ρ e ah o ah', RepS K ρ H e σ ∧ RepH K ρ ah H ∧ m e ah = some (o, ah') ∧ ∀ ρ' H', Ext ρ H ρ' H' → RepH K ρ' ah' H' → Q o H'
end
section
variable {X : Cx} {K : PySem.W.Frag} {ρ ρ' : List Addr} {H H' : Hp} {ah ah' : AH} {v : Vl} {z : V}
theorem PE.imp {e : Expr} {t t' : TE} (h : PE X e t) (f : ∀ σ H Q, t' σ H Q → t σ H Q) : PE X e t' := ⟨fun pins s σ H Q I q => h.run pins s σ H Q I (f σ H Q q)⟩
theorem PT.imp {e : Expr} {t t' : TT} (h : PT X e t) (f : ∀ σ H Q, t' σ H Q → t σ H Q) : PT X e t' := ⟨fun pins s σ H Q I q => h.run pins s σ H Q I (f σ H Q q)⟩
theorem PW.imp {e : Expr} {t t' : TT} (h : PW X e t) (f : ∀ σ H Q, t' σ H Q → t σ H Q) : PW X e t' := ⟨fun w pins s σ H Q I q => h.run w pins s σ H Q I (f σ H Q q)⟩
theorem PA.imp {e : List Expr} {t t' : TA} (h : PA X e t) (f : ∀ σ H Q, t' σ H Q → t σ H Q) : PA X e t' := ⟨fun pos pins s σ H Q I q => h.run pos pins s σ H Q I (f σ H Q q)⟩
theorem PO.imp {e : Option Expr} {t t' : TO} (h : PO X e t) (f : ∀ σ H Q, t' σ H Q → t σ H Q) : PO X e t' := ⟨fun pins s σ H Q I q => h.run pins s σ H Q I (f σ H Q q)⟩
theorem PS.imp {e : Stmt} {t t' : TS} (h : PS X e t) (f : ∀ D σ H, t' D σ H → t D σ H) : PS X e t' := ⟨fun pins s σ H D I q => h.run pins s σ H D I (f D σ H q)⟩
theorem PSs.imp {e : List Stmt} {t t' : TS} (h : PSs X e t) (f : ∀ D σ H, t' D σ H → t D σ H) : PSs X e t' := ⟨fun pins s σ H D I q => h.run pins s σ H D I (f D σ H q)⟩
theorem Fr.back (f : Fr H' v z) (x : Ext ρ H ρ' H') (r : RepH K ρ' ah H') : Fr H v z := by
  cases v with
  | fl xs => obtain ⟨a, e, n⟩ := f; exact ⟨a, e, x.back r n⟩
  | _ => trivial
theorem fix_ok (x : Ext ρ H ρ' H') (r : RepH K ρ' ah' H') (q : RepR K ρ' H' v z) (f : Fr H v z) : ∃ ρ'', Ext ρ H ρ'' H' ∧ RepH K ρ'' (fix v ah').2 H' ∧ RepV K ρ'' H' (fix v ah').1 z := by
  cases v with
  | fl xs =>
    obtain ⟨a, vs, rfl, h1, h2, h3⟩ := q.fl_
    obtain ⟨a', e, n⟩ := f
    cases e
    refine ⟨ρ' ++ [a], x.num n, r.num h1 h2 h3, ?_⟩
    simp only [fix, RepV]
    refine ⟨a, rfl, ?_⟩
    rw [← r.len]
    simp
  | _ => exact ⟨ρ', x, r, q⟩
/-! expressions -/
variable {gl : List (Str × Vl)} {cl : Nat → List Vl → AH → Option (Vl × AH)} {a b c : Expr} {A B C : Ex} {pos : Pos}
theorem pe_const {v : Vl} {z : V} (h : PE X a (tC z)) (r : ∀ ρ H, RepV X.K ρ H v z) (m : ME) (hm : ∀ e ah, m e ah = some (v, ah)) : PE X a (rE X.K m) := by
  refine PE.imp h fun σ H Q ⟨ρ, e, ah, v', ah', hS, hH, hE, q⟩ => ?_
  rw [hm] at hE; cases hE
  refine q ρ H z (Ext.refl _ _) hH (r ρ H).r ?_
  have h2 := r ρ H
  cases v <;> first | trivial | (simp only [RepV] at h2)
theorem ok_var {i : Nat} (h : PE X a (tVar i)) : PE X a (rE X.K (evE gl cl (.var i))) := by
  refine PE.imp h fun σ H Q ⟨ρ, e, ah, v', ah', hS, hH, hE, q⟩ => ?_
  simp only [evE] at hE
  split at hE
  · rename_i w hw
    cases hE
    obtain ⟨x, h1, h2⟩ := hS.at_ i _ hw
    refine ⟨x, h1, q ρ H x (Ext.refl _ _) hH h2.r ?_⟩
    cases v' <;> first | trivial | (simp only [RepV] at h2)
  · cases hE
theorem ok_bin {op : Operator} (ha : PE X a (rE X.K (evE gl cl A))) (hb : PE X b (rE X.K (evE gl cl B))) : PE X (.BinOp a op b pos) (rE X.K (evE gl cl (.bin op A B))) := by
  refine PE.imp (pe_op (bin_ok op) ha hb) fun σ H Q ⟨ρ, e, ah, v, ah', hS, hH, hE, q⟩ => ?_
  simp only [evE] at hE
  split at hE; · cases hE
  rename_i x h1 e1
  split at hE; · cases hE
  rename_i y h2 e2
  split at hE; · cases hE
  rename_i w e3
  cases hE
  exact ⟨ρ, e, ah, x, h1, hS, hH, e1, fun ρ1 H1 z1 x1 r1 v1 f1 => ⟨ρ1, e, h1, y, ah', hS.mono x1, r1, e2, fun ρ2 H2 z2 x2 r2 v2 f2 =>
    ⟨ρ2, ah', x, y, v, r2, v1.mono x2, v2, e3, fun H' z x3 r3 v3 f3 => q ρ2 H' z ((x1.trans x2).trans x3) r3 v3 (f3.back (x1.trans x2) r2)⟩⟩⟩
theorem ok_ix (ha : PE X a (rE X.K (evE gl cl A))) (hb : PE X b (rE X.K (evE gl cl B))) (hp : PlainIx b) : PE X (.Subscript a b pos) (rE X.K (evE gl cl (.ix A B))) := by
  refine PE.imp (pe_ix ix_ok ha hb hp) fun σ H Q ⟨ρ, e, ah, v, ah', hS, hH, hE, q⟩ => ?_
  simp only [evE] at hE
  split at hE; · cases hE
  rename_i x h1 e1
  split at hE; · cases hE
  rename_i y h2 e2
  split at hE; · cases hE
  rename_i w e3
  cases hE
  exact ⟨ρ, e, ah, x, h1, hS, hH, e1, fun ρ1 H1 z1 x1 r1 v1 f1 => ⟨ρ1, e, h1, y, ah', hS.mono x1, r1, e2, fun ρ2 H2 z2 x2 r2 v2 f2 =>
    ⟨ρ2, ah', x, y, v, r2, v1.mono x2, v2, e3, fun H' z x3 r3 v3 f3 => q ρ2 H' z ((x1.trans x2).trans x3) r3 v3 (f3.back (x1.trans x2) r2)⟩⟩⟩
theorem bl_of {K : PySem.W.Frag} {ρ H b} : RepR K ρ H (.bl b) (.bl b) := by simp only [RepR, RepV]
theorem int_of {K : PySem.W.Frag} {ρ H b} : RepR K ρ H (.int b) (.int b) := by simp only [RepR, RepV]
theorem cmp_rd {op : CmpOp} {σ : St} {H : Hp} {Q : VK} (h : rE X.K (evE gl cl (.cmp op A B)) σ H Q) : tOp (rCmp X.K op) (rE X.K (evE gl cl A)) (rE X.K (evE gl cl B)) σ H Q := by
  obtain ⟨ρ, e, ah, v, ah', hS, hH, hE, q⟩ := h
  simp only [evE] at hE
  split at hE; · cases hE
  rename_i x h1 e1
  split at hE; · cases hE
  rename_i y h2 e2
  split at hE; · cases hE
  rename_i w e3
  cases hE
  exact ⟨ρ, e, ah, x, h1, hS, hH, e1, fun ρ1 H1 z1 x1 r1 v1 f1 => ⟨ρ1, e, h1, y, ah', hS.mono x1, r1, e2, fun ρ2 H2 z2 x2 r2 v2 f2 =>
    ⟨ρ2, ah', x, y, w, r2, v1.mono x2, v2, e3, q ρ2 H2 _ (x1.trans x2) r2 bl_of trivial⟩⟩⟩
theorem ok_cmp (hu : X.A.units + 65 < cLine) {op : CmpOp} (ha : PE X a (rE X.K (evE gl cl A))) (hb : PE X b (rE X.K (evE gl cl B))) (hm : behindInMarks op b = false) : PE X (.Compare a [op] [b] pos) (rE X.K (evE gl cl (.cmp op A B))) :=
  PE.imp (pe_cmpR (cmp_ok hu op) ha hb hm) fun σ H Q h => cmp_rd h
/-- a test by an expression's value -/
def vT (m : ME) : MT := fun e h => match m e h with
  | some (.bl b, h1) => some (b, h1)
  | _ => none
theorem vT_rd {m : ME} {σ : St} {H : Hp} {Q : Bool → Hp → Prop} (h : rT X.K (vT m) σ H Q) : rE X.K m σ H fun x H1 => ∃ c, x = .bl c ∧ Q c H1 := by
  obtain ⟨ρ, e, ah, v, ah', hS, hH, hE, q⟩ := h
  unfold vT at hE
  split at hE
  · rename_i b h1 e1
    cases hE
    exact ⟨ρ, e, ah, .bl v, ah', hS, hH, e1, fun ρ1 H1 z1 x1 r1 v1 f1 => ⟨v, v1.bl_, q ρ1 H1 x1 r1⟩⟩
  · cases hE
theorem okv_cmp (hu : X.A.units + 65 < cLine) {op : CmpOp} (ha : PE X a (rE X.K (evE gl cl A))) (hb : PE X b (rE X.K (evE gl cl B))) (hm : behindInMarks op b = false) : PT X (.Compare a [op] [b] pos) (rT X.K (vT (evE gl cl (.cmp op A B)))) :=
  PT.imp (pt_cmpR (cmp_ok hu op) ha hb hm) fun σ H Q h => cmp_rd (vT_rd h)
theorem okv_of {m : ME} (h : PE X a (rE X.K m)) (he : ∀ whole, isTrue a X.env whole = (do let v ← whole; standAt a.pos; holding [v] (truthy v))) : PT X a (rT X.K (vT m)) :=
  PT.imp (pt_val h he) fun σ H Q q => vT_rd q
theorem chain_rd {op op' : CmpOp} {σ : St} {H : Hp} {Q : VK} (h : rE X.K (evE gl cl (.chain op op' A B C)) σ H Q) : tChain (rCmp X.K op) (rCmp X.K op') (rE X.K (evE gl cl A)) (rE X.K (evE gl cl B)) (rE X.K (evE gl cl C)) σ H Q := by
  obtain ⟨ρ, e, ah, v, ah', hS, hH, hE, q⟩ := h
  simp only [evE] at hE
  split at hE; · cases hE
  rename_i x h1 e1
  split at hE; · cases hE
  rename_i y h2 e2
  split at hE
  · cases hE
  · rename_i e3
    cases hE
    refine ⟨ρ, e, ah, x, h1, hS, hH, e1, fun ρ1 H1 z1 x1 r1 v1 f1 => ⟨ρ1, e, h1, y, ah', hS.mono x1, r1, e2, fun ρ2 H2 z2 x2 r2 v2 f2 =>
      ⟨ρ2, ah', x, y, false, r2, v1.mono x2, v2, e3, false, rfl, ?_⟩⟩⟩
    rw [if_neg (by simp)]
    exact q ρ2 H2 _ (x1.trans x2) r2 bl_of trivial
  · rename_i e3
    split at hE; · cases hE
    rename_i w h3 e4
    split at hE; · cases hE
    rename_i b' e5
    cases hE
    refine ⟨ρ, e, ah, x, h1, hS, hH, e1, fun ρ1 H1 z1 x1 r1 v1 f1 => ⟨ρ1, e, h1, y, h2, hS.mono x1, r1, e2, fun ρ2 H2 z2 x2 r2 v2 f2 =>
      ⟨ρ2, h2, x, y, true, r2, v1.mono x2, v2, e3, true, rfl, ?_⟩⟩⟩
    rw [if_pos rfl]
    exact ⟨ρ2, e, h2, w, ah', (hS.mono x1).mono x2, r2, e4, fun ρ3 H3 z3 x3 r3 v3 f3 => ⟨ρ3, ah', y, w, b', r3, v2.mono x3, v3, e5, q ρ3 H3 _ ((x1.trans x2).trans x3) r3 bl_of trivial⟩⟩
theorem ok_chain (hu : X.A.units + 65 < cLine) {op op' : CmpOp} (ha : PE X a (rE X.K (evE gl cl A))) (hb : PE X b (rE X.K (evE gl cl B))) (hc : PE X c (rE X.K (evE gl cl C))) (hm : lastMarks [op, op'] [b, c] = false) :
    PE X (.Compare a [op, op'] [b, c] pos) (rE X.K (evE gl cl (.chain op op' A B C))) :=
  PE.imp (pe_chain (cmp_ok hu op) (cmp_ok hu op') ha hb hc hm) fun σ H Q h => chain_rd h
theorem okv_chain (hu : X.A.units + 65 < cLine) {op op' : CmpOp} (ha : PE X a (rE X.K (evE gl cl A))) (hb : PE X b (rE X.K (evE gl cl B))) (hc : PE X c (rE X.K (evE gl cl C))) (hm : lastMarks [op, op'] [b, c] = false) :
    PT X (.Compare a [op, op'] [b, c] pos) (rT X.K (vT (evE gl cl (.chain op op' A B C)))) :=
  PT.imp (pt_chain (cmp_ok hu op) (cmp_ok hu op') ha hb hc hm) fun σ H Q h => chain_rd (vT_rd h)
theorem ok_neg (ha : PE X a (rE X.K (evE gl cl A))) : PE X (.UnaryOp .USub a pos) (rE X.K (evE gl cl (.neg A))) := by
  refine PE.imp (pe_un un_neg ha) fun σ H Q ⟨ρ, e, ah, v, ah', hS, hH, hE, q⟩ => ?_
  simp only [evE] at hE
  split at hE
  · rename_i i h1 e1
    cases hE
    exact ⟨ρ, e, ah, .int i, ah', hS, hH, e1, fun ρ1 H1 z1 x1 r1 v1 f1 => ⟨i, v1.int_, q ρ1 H1 _ x1 r1 int_of trivial⟩⟩
  · cases hE
theorem ok_and {rest : List Expr} (ha : PE X a (rE X.K (evE gl cl A))) (hb : PE X (.BoolOp .And (b :: rest) pos) (rE X.K (evE gl cl B))) : PE X (.BoolOp .And (a :: b :: rest) pos) (rE X.K (evE gl cl (.and A B))) := by
  refine PE.imp (pe_and ha hb) fun σ H Q ⟨ρ, e, ah, v, ah', hS, hH, hE, q⟩ => ?_
  simp only [evE] at hE
  split at hE
  · rename_i h1 e1
    refine ⟨ρ, e, ah, .bl true, h1, hS, hH, e1, fun ρ1 H1 z1 x1 r1 v1 f1 => ⟨true, v1.bl_, ?_⟩⟩
    rw [if_pos rfl]
    exact ⟨ρ1, e, h1, v, ah', hS.mono x1, r1, hE, fun ρ2 H2 z2 x2 r2 v2 f2 => q ρ2 H2 z2 (x1.trans x2) r2 v2 (f2.back x1 r1)⟩
  · rename_i h1 e1
    cases hE
    refine ⟨ρ, e, ah, .bl false, ah', hS, hH, e1, fun ρ1 H1 z1 x1 r1 v1 f1 => ⟨false, v1.bl_, ?_⟩⟩
    rw [if_neg (by simp)]
    exact q ρ1 H1 _ x1 r1 bl_of trivial
  · cases hE
theorem ok_or {rest : List Expr} (ha : PE X a (rE X.K (evE gl cl A))) (hb : PE X (.BoolOp .Or (b :: rest) pos) (rE X.K (evE gl cl B))) : PE X (.BoolOp .Or (a :: b :: rest) pos) (rE X.K (evE gl cl (.or A B))) := by
  refine PE.imp (pe_or ha hb) fun σ H Q ⟨ρ, e, ah, v, ah', hS, hH, hE, q⟩ => ?_
  simp only [evE] at hE
  split at hE
  · rename_i h1 e1
    refine ⟨ρ, e, ah, .bl false, h1, hS, hH, e1, fun ρ1 H1 z1 x1 r1 v1 f1 => ⟨false, v1.bl_, ?_⟩⟩
    rw [if_neg (by simp)]
    exact ⟨ρ1, e, h1, v, ah', hS.mono x1, r1, hE, fun ρ2 H2 z2 x2 r2 v2 f2 => q ρ2 H2 z2 (x1.trans x2) r2 v2 (f2.back x1 r1)⟩
  · rename_i h1 e1
    cases hE
    refine ⟨ρ, e, ah, .bl true, ah', hS, hH, e1, fun ρ1 H1 z1 x1 r1 v1 f1 => ⟨true, v1.bl_, ?_⟩⟩
    rw [if_pos rfl]
    exact q ρ1 H1 _ x1 r1 bl_of trivial
  · cases hE
theorem ok_not (ha : PE X a (rE X.K (evE gl cl A))) : PE X (.UnaryOp .Not a pos) (rE X.K (evE gl cl (.not A))) := by
  refine PE.imp (pe_not ha) fun σ H Q ⟨ρ, e, ah, v, ah', hS, hH, hE, q⟩ => ?_
  simp only [evE] at hE
  split at hE
  · rename_i i h1 e1
    cases hE
    exact ⟨ρ, e, ah, .bl i, ah', hS, hH, e1, fun ρ1 H1 z1 x1 r1 v1 f1 => ⟨i, v1.bl_, q ρ1 H1 _ x1 r1 bl_of trivial⟩⟩
  · cases hE
theorem okt_and {rest : List Expr} (ha : PT X a (rT X.K (evT gl cl A))) (hb : PW X (.BoolOp .And (b :: rest) pos) (rT X.K (evT gl cl B))) : PW X (.BoolOp .And (a :: b :: rest) pos) (rT X.K (evT gl cl (.and A B))) := by
  refine PW.imp (pw_and ha hb) fun σ H Q ⟨ρ, e, ah, v, ah', hS, hH, hE, q⟩ => ?_
  simp only [evT] at hE
  split at hE
  · rename_i h1 e1
    refine ⟨ρ, e, ah, true, h1, hS, hH, e1, fun ρ1 H1 x1 r1 => ?_⟩
    dsimp only
    rw [if_pos rfl]
    exact ⟨ρ1, e, h1, v, ah', hS.mono x1, r1, hE, fun ρ2 H2 x2 r2 => q ρ2 H2 (x1.trans x2) r2⟩
  · rename_i h1 e1
    cases hE
    refine ⟨ρ, e, ah, false, ah', hS, hH, e1, fun ρ1 H1 x1 r1 => ?_⟩
    dsimp only
    rw [if_neg (by simp)]
    exact q ρ1 H1 x1 r1
  · cases hE
theorem okt_or {rest : List Expr} (ha : PT X a (rT X.K (evT gl cl A))) (hb : PW X (.BoolOp .Or (b :: rest) pos) (rT X.K (evT gl cl B))) : PW X (.BoolOp .Or (a :: b :: rest) pos) (rT X.K (evT gl cl (.or A B))) := by
  refine PW.imp (pw_or ha hb) fun σ H Q ⟨ρ, e, ah, v, ah', hS, hH, hE, q⟩ => ?_
  simp only [evT] at hE
  split at hE
  · rename_i h1 e1
    refine ⟨ρ, e, ah, false, h1, hS, hH, e1, fun ρ1 H1 x1 r1 => ?_⟩
    dsimp only
    rw [if_neg (by simp)]
    exact ⟨ρ1, e, h1, v, ah', hS.mono x1, r1, hE, fun ρ2 H2 x2 r2 => q ρ2 H2 (x1.trans x2) r2⟩
  · rename_i h1 e1
    cases hE
    refine ⟨ρ, e, ah, true, ah', hS, hH, e1, fun ρ1 H1 x1 r1 => ?_⟩
    dsimp only
    rw [if_pos rfl]
    exact q ρ1 H1 x1 r1
  · cases hE
theorem okt_not (ha : PT X a (rT X.K (evT gl cl A))) : PT X (.UnaryOp .Not a pos) (rT X.K (evT gl cl (.not A))) := by
  refine PT.imp (pt_not ha) fun σ H Q ⟨ρ, e, ah, v, ah', hS, hH, hE, q⟩ => ?_
  simp only [evT] at hE
  split at hE
  · rename_i i h1 e1
    cases hE
    exact ⟨ρ, e, ah, i, ah', hS, hH, e1, fun ρ1 H1 x1 r1 => q ρ1 H1 x1 r1⟩
  · cases hE
theorem okt_val (h : PT X a (rT X.K (vT (evE gl cl A)))) : PT X a (rT X.K (evT gl cl (.val A))) := by
  refine PT.imp h fun σ H Q ⟨ρ, e, ah, v, ah', hS, hH, hE, q⟩ => ⟨ρ, e, ah, v, ah', hS, hH, ?_, q⟩
  simp only [evT] at hE
  split at hE
  · rename_i b h1 e1
    cases hE
    unfold vT
    rw [e1]
  · cases hE
theorem ok_ite (hc : PT X c (rT X.K (evT gl cl C))) (ha : PE X a (rE X.K (evE gl cl A))) (hb : PE X b (rE X.K (evE gl cl B))) : PE X (.IfExp c a b pos) (rE X.K (evE gl cl (.ite C A B))) := by
  refine PE.imp (pe_ifExp hc ha hb) fun σ H Q ⟨ρ, e, ah, v, ah', hS, hH, hE, q⟩ => ?_
  simp only [evE] at hE
  split at hE
  · rename_i h1 e1
    refine ⟨ρ, e, ah, true, h1, hS, hH, e1, fun ρ1 H1 x1 r1 => ?_⟩
    dsimp only
    rw [if_pos rfl]
    exact ⟨ρ1, e, h1, v, ah', hS.mono x1, r1, hE, fun ρ2 H2 z2 x2 r2 v2 f2 => q ρ2 H2 z2 (x1.trans x2) r2 v2 (f2.back x1 r1)⟩
  · rename_i h1 e1
    refine ⟨ρ, e, ah, false, h1, hS, hH, e1, fun ρ1 H1 x1 r1 => ?_⟩
    dsimp only
    rw [if_neg (by simp)]
    exact ⟨ρ1, e, h1, v, ah', hS.mono x1, r1, hE, fun ρ2 H2 z2 x2 r2 v2 f2 => q ρ2 H2 z2 (x1.trans x2) r2 v2 (f2.back x1 r1)⟩
  · cases hE
/-! arguments -/
variable {es : List Expr} {Es : Ex}
theorem oka_nil : PA X [] (rA X.K (evA gl cl .nil)) :=
  PA.imp pa_nil fun σ H Q ⟨ρ, e, ah, v, ah', hS, hH, hE, q⟩ => by
    simp only [evA] at hE; cases hE
    exact q ρ H [] (Ext.refl _ _) hH (by simp only [RepVs])
theorem okb_nil : PA X [] (rB X.K (evB gl cl .nil)) :=
  PA.imp pa_nil fun σ H Q ⟨ρ, e, ah, v, ah', hS, hH, hE, q⟩ => by
    simp only [evB] at hE; cases hE
    exact q ρ H [] (Ext.refl _ _) hH rfl
theorem oka_cons (ha : PE X a (rE X.K (evE gl cl A))) (he : PA X es (rA X.K (evA gl cl Es))) (hs : starEach (a :: es) X.env = (false, eval a X.env) :: starEach es X.env) : PA X (a :: es) (rA X.K (evA gl cl (.cons A Es))) := by
  refine PA.imp (pa_cons ha he hs) fun σ H Q ⟨ρ, e, ah, v, ah', hS, hH, hE, q⟩ => ?_
  simp only [evA] at hE
  split at hE; · cases hE
  rename_i x h1 e1
  split at hE; · cases hE
  rename_i vs h2 e2
  cases hE
  refine ⟨ρ, e, ah, x, h1, hS, hH, e1, fun ρ1 H1 z1 x1 r1 v1 f1 => ?_⟩
  obtain ⟨ρ1', x1', r1', v1'⟩ := fix_ok x1 r1 v1 f1
  exact ⟨ρ1', e, _, vs, ah', hS.mono x1', r1', e2, fun ρ2 H2 zs x2 r2 v2 => q ρ2 H2 (z1 :: zs) (x1'.trans x2) r2 (.cons (v1'.mono x2) v2)⟩
theorem okb_cons (ha : PE X a (rE X.K (evE gl cl A))) (he : PA X es (rB X.K (evB gl cl Es))) (hs : starEach (a :: es) X.env = (false, eval a X.env) :: starEach es X.env) : PA X (a :: es) (rB X.K (evB gl cl (.cons A Es))) := by
  refine PA.imp (pa_cons ha he hs) fun σ H Q ⟨ρ, e, ah, v, ah', hS, hH, hE, q⟩ => ?_
  simp only [evB] at hE
  split at hE; · cases hE
  rename_i x h1 e1
  split at hE; · cases hE
  rename_i vs h2 e2
  cases hE
  exact ⟨ρ, e, ah, x, h1, hS, hH, e1, fun ρ1 H1 z1 x1 r1 v1 f1 => ⟨ρ1, e, _, vs, ah', hS.mono x1, r1, e2, fun ρ2 H2 zs x2 r2 v2 => q ρ2 H2 (z1 :: zs) (x1.trans x2) r2 ⟨z1, zs, rfl, v1.mono x2, v2⟩⟩⟩
theorem ok_lst (he : PA X es (rA X.K (evA gl cl Es))) : PE X (.List es pos) (rE X.K (evE gl cl (.lst Es))) := by
  refine PE.imp (pe_lst he) fun σ H Q ⟨ρ, e, ah, v, ah', hS, hH, hE, q⟩ => ?_
  simp only [evE] at hE
  split at hE
  · rename_i vs h1 e1
    split at hE
    · rename_i hz
      cases hE
      exact ⟨ρ, e, ah, vs, ah', hS, hH, e1, fun ρ1 H1 zs x1 r1 v1 => ⟨by rw [v1.length]; exact hz, fun p np => q ρ1 _ _ (x1.trans (Ext.new np)) (r1.new np)
        ⟨p, zs, rfl, r1.notin np, upd_same, v1.mono (Ext.new (ρ := ρ1) np)⟩ ⟨p, rfl, x1.back r1 np⟩⟩⟩
    · cases hE
  · cases hE
theorem ok_tup {kk : Nat} (he : PA X es (rA X.K (evA gl cl Es))) : PE X (.Tuple es kk pos) (rE X.K (evE gl cl (.tup Es))) := by
  refine PE.imp (pe_tup he) fun σ H Q ⟨ρ, e, ah, v, ah', hS, hH, hE, q⟩ => ?_
  simp only [evE] at hE
  split at hE
  · rename_i vs h1 e1
    split at hE
    · rename_i hz
      cases hE
      refine ⟨ρ, e, ah, vs, ah', hS, hH, e1, fun ρ1 H1 zs x1 r1 v1 => ⟨by rw [v1.length]; exact hz, fun p np => q ρ1 _ _ (x1.trans (Ext.new np)) (r1.new np) ?_ trivial⟩⟩
      simp only [RepR, RepV]
      exact ⟨p, zs, rfl, .inl (.inl upd_same), v1.mono (Ext.new (ρ := ρ1) np)⟩
    · cases hE
  · cases hE
theorem oko_none : PO X none (rO X.K (evO gl cl .nil)) :=
  PO.imp po_none fun σ H Q ⟨ρ, e, ah, v, ah', hS, hH, hE, q⟩ => by
    simp only [evO] at hE; cases hE
    exact q ρ H (Ext.refl _ _) hH
theorem oko_some {Z : Ex} (ha : PE X a (rE X.K (evE gl cl A))) : PO X (some a) (rO X.K (evO gl cl (.cons A Z))) := by
  refine PO.imp (po_some ha) fun σ H Q ⟨ρ, e, ah, v, ah', hS, hH, hE, q⟩ => ?_
  simp only [evO] at hE
  split at hE
  · rename_i i h1 e1
    cases hE
    exact ⟨ρ, e, ah, .int i, ah', hS, hH, e1, fun ρ1 H1 z1 x1 r1 v1 f1 => ⟨i, v1.int_, q ρ1 H1 x1 r1⟩⟩
  · cases hE
theorem ok_sl {lo hi : Option Expr} {L U : Ex} {p2 : Pos} (ha : PE X a (rE X.K (evE gl cl A))) (hl : PO X lo (rO X.K (evO gl cl L))) (hh : PO X hi (rO X.K (evO gl cl U))) : PE X (.Subscript a (.Slice lo hi none p2) pos) (rE X.K (evE gl cl (.sl A L U))) := by
  refine PE.imp (pe_slice sl_ok ha hl hh) fun σ H Q ⟨ρ, e, ah, v, ah', hS, hH, hE, q⟩ => ?_
  simp only [evE] at hE
  split at hE; · cases hE
  rename_i x h1 e1
  split at hE; · cases hE
  rename_i l h2 e2
  split at hE; · cases hE
  rename_i u h3 e3
  split at hE; · cases hE
  rename_i w e4
  cases hE
  exact ⟨ρ, e, ah, x, h1, hS, hH, e1, fun ρ1 H1 z1 x1 r1 v1 f1 => ⟨ρ1, e, h1, l, h2, hS.mono x1, r1, e2, fun ρ2 H2 x2 r2 => ⟨ρ2, e, h2, u, ah', (hS.mono x1).mono x2, r2, e3, fun ρ3 H3 x3 r3 =>
    ⟨ρ3, ah', x, v, r3, (v1.mono x2).mono x3, e4, fun H' z x4 r4 v4 f4 => q ρ3 H' z (((x1.trans x2).trans x3).trans x4) r4 v4 (f4.back ((x1.trans x2).trans x3) r3)⟩⟩⟩⟩
end
end FK

/-! ### defs whose callers have no repr under way (so that str of a list or tuple is known) -/
namespace FK
open PySem PySem.Spec PyProof.Rows L2
/-- the promise of a def by the small Python -/
def spF (K : PySem.W.Frag) (m : List Vl → AH → Option (Vl × AH)) (zs : List V) (H : Hp) (Q : VK) : Prop :=
  ∃ ρ vs ah v ah', RepVs K ρ H vs zs ∧ RepH K ρ ah H ∧ m vs ah = some (v, ah') ∧ Aft K ρ H v ah' Q
/-- the def at f keeps it, called where no repr is under way -/
structure FnG (P : Program) (w : World) (K : PySem.W.Frag) (mg : Str → Option Value) (base : Heap) (k : Nat) (f : Addr) (fd : FuncData) (ps : List Str) (m : List Vl → AH → Option (Vl × AH)) : Prop where
  len : ∀ zs H Q, spF K m zs H Q → zs.length = ps.length
  run : ∀ (A : Around) (out : List Env) (s : Shared) (H : Hp) (args : Args) (us : List Value) (zs : List V) (Q : VK), Room k A → A.guards = some [] → Env0 P w K mg base A out s H → BindsTo s fd args (ps.zip us) →
    Vals zs us → spF K m zs H Q → codeAny (model P w) A (.call (.ref f) args) (CR CX0 out P w H s Q E0) s
section
variable {X : Cx} {k : Nat} {f : Addr} {fd : FuncData} {ps : List Str} {m : List Vl → AH → Option (Vl × AH)}
theorem FnG.goes (G : FnG X.prog X.w X.K X.mg X.base k f fd ps m) (room : Room k X.A) (gd : X.A.guards = some []) (bnd : Binds X.K fd ps []) {pins : List (Addr × Obj)} {σ : St} {H : Hp} {s : Shared} {Q : VK} {us : List Value} {zs : List V}
    (J : L2.Inv X pins σ H s) (vals : Vals zs us) (q : spF X.K m zs H Q) : wpAny (model X.prog X.w) X.A (call (.ref f) us) (EP X pins σ Q) X.xe s := by
  have many : (us ++ []).length = ps.length := by
    rw [List.append_nil, ← vals.length]
    exact G.len _ _ _ q
  have bound := bnd s us J.kIn many
  rw [List.append_nil] at bound
  refine wpAny_call (codeAny_mono (G.run X.A X.stack s H _ us zs Q room gd J.env0 bound vals q) ?_)
  rintro (e | fl) s' hq
  · exact False.elim hq
  · cases fl <;> first | exact J.after hq | exact False.elim hq
theorem FnG.call {x : Str} {p pos : Pos} {e : Expr} {es : List Expr} {t : TA} (G : FnG X.prog X.w X.K X.mg X.base k f fd ps m) (room : Room k X.A) (gd : X.A.guards = some []) (gl : Gl X x) (at_ : X.mg x = some (.ref f)) (kp : PySem.W.keepIn X.K (.ref f) = true)
    (bnd : Binds X.K fd ps []) (args : PA X (e :: es) t) (nd : (x == ("__debug__" : Str)) = false) (st : starEach (e :: es) X.env = (false, eval e X.env) :: starEach es X.env) (ns : (backTo pos (starEach es X.env)).any (·.1) = false) :
    PE X (.Call (.Name x p) (e :: es) [] pos) (fun σ H Q => t σ H fun zs H1 => spF X.K m zs H1 Q) :=
  ⟨fun pins s σ H Q J h => wpAny_Call_Name_kw (ld_glob J gl at_ (PySem.W.callWith_K (h₀ := X.base) J.ok.mod.kin kp
    (thn (args.run pos pins s σ H _ J h) fun us s1 ⟨zs, H1, J1, vals, q⟩ => ⟨J1.kIn, G.goes room gd bnd J1 vals q⟩) st ns) nd)⟩
theorem FnG.call0 {x : Str} {p pos : Pos} (G : FnG X.prog X.w X.K X.mg X.base k f fd ps m) (room : Room k X.A) (gd : X.A.guards = some []) (gl : Gl X x) (at_ : X.mg x = some (.ref f)) (kp : PySem.W.keepIn X.K (.ref f) = true)
    (bnd : Binds X.K fd ps []) (nd : (x == ("__debug__" : Str)) = false) : PE X (.Call (.Name x p) [] [] pos) (fun σ H Q => spF X.K m [] H Q) :=
  ⟨fun pins s σ H Q J h => wpAny_Call_Name_kw (ld_glob J gl at_ (PySem.W.callWith_K0 J.kIn kp (G.goes (us := []) room gd bnd J .nil h)) nd)⟩
end
section
variable {P : Program} {w : World} {K : PySem.W.Frag} {mg : Str → Option Value} {base : Heap}
/-- a def by its body -/
theorem fnG_of {k : Nat} {x qual : Str} {st : Stmt} {f : Addr} {fd : FuncData} {N ps : List Str} {m : List Vl → AH → Option (Vl × AH)} (F : Fun K x qual st f fd) (S : FnScope N ps (defScope st)) (len : ∀ zs H Q, spF K m zs H Q → zs.length = ps.length)
    (body : ∀ (cdv : Value) (A : Around) (out : List Env) (s : Shared) (H : Hp) (zs : List V) (Q : VK), Room k (A.deeper (envOfC qual (defScope st) s.heap.objs.size f cdv)) → A.guards = some [] → spF K m zs H Q →
      ∃ t, PSs (cxOf CX0 P w K mg base N qual (defScope st) f cdv A out s H E0).nox (defBody st) t ∧ t { nx := fun _ H' => Q .non H', rt := Q } (L2.start N zs) H) : FnG P w K mg base (k + 1) f fd ps m := by
  obtain ⟨oc, od, kV, doc, pm, an, cdv, ct, osl, rfl, look, code⟩ := F.ex
  refine ⟨len, fun A out s H args us zs Q room gd env0 bound vals q => ?_⟩
  have kin : K.In s.heap := env0.mod.kin.keeps fun b o z => (env0.bs b o z).1
  obtain ⟨t, ht, hq⟩ := body cdv A out s H zs Q (room.deeper _) gd q
  refine codeAny_call_function room.depth (kin _ _ look) rfl S.co S.gen rfl (PySem.W.codeRec_of kin code) (bound _ _ _ _ ?_)
  refine wpAny_newFunctionEnv_cells S.kind (fun y hy => ?_) fun env ee s1 inn => ?_
  · rcases S.par y.1 (List.of_mem_zip hy).1 with z | z
    · exact Or.inl z
    · exact Or.inr ⟨z, PySem.W.cellsFrom_some _ _ _ (Or.inl z)⟩
  · subst ee
    refine ⟨(env0.mod.nolimit.keeps fun b o z => (env0.bs b o z).1).keeps inn.toInCall.keep, codeAny_func ?_⟩
    have J := inv_start (CX := CX0) (E := E0) (cd := cdv) S room.hd env0 (len _ _ _ q) vals inn
    refine wpAny_mono (ht.nox.run [] s1 _ H _ J hq) ?_ fun _ _ z => z
    intro fl s' hs
    cases fl with
    | ret u => exact let ⟨v, _, H', J', rel, qq⟩ := hs; ⟨v, H', J'.os, J'.bare, J'.base, J'.hok, rel, qq⟩
    | next => exact let ⟨_, H', J', qq⟩ := hs; ⟨.non, H', J'.os, J'.bare, J'.base, J'.hok, rfl, qq⟩
    | brk => exact let ⟨_, _, _, qq⟩ := hs; False.elim qq
    | cont => exact let ⟨_, _, _, qq⟩ := hs; False.elim qq
end
end FK

/-! ### calls, what is walked, comprehensions, loops -/
namespace FK
open PySem PySem.Spec PyProof.Rows L2
section
variable {X : Cx} {K : PySem.W.Frag} {ρ ρ' : List Addr} {H H' : Hp} {ah ah' : AH} {v : Vl} {z : V}
variable {gl : List (Str × Vl)} {cl : Nat → List Vl → AH → Option (Vl × AH)} {a b c : Expr} {A B C : Ex} {pos : Pos} {es : List Expr} {Es : Ex}
theorem call_rd {f : Nat} {σ : St} {H : Hp} {Q : VK} (h : rE X.K (evE gl cl (.call f Es)) σ H Q) : rA X.K (evA gl cl Es) σ H fun zs H1 => spF X.K (cl f) zs H1 Q := by
  obtain ⟨ρ, e, ah, v, ah', hS, hH, hE, q⟩ := h
  simp only [evE] at hE
  split at hE; · cases hE
  rename_i vs h1 e1
  exact ⟨ρ, e, ah, vs, h1, hS, hH, e1, fun ρ1 H1 zs x1 r1 v1 => ⟨ρ1, vs, h1, v, ah', v1, r1, hE, fun ρ2 H2 z x2 r2 v2 f2 => q ρ2 H2 z (x1.trans x2) r2 v2 (f2.back x1 r1)⟩⟩
theorem bi_rd {f : Bi} {σ : St} {H : Hp} {Q : VK} (h : rE X.K (evE gl cl (.bi f Es)) σ H Q) : tCB (rBi X.K f) (rB X.K (evB gl cl Es)) σ H Q := by
  obtain ⟨ρ, e, ah, v, ah', hS, hH, hE, q⟩ := h
  simp only [evE] at hE
  split at hE; · cases hE
  rename_i vs h1 e1
  split at hE; · cases hE
  rename_i w e2
  cases hE
  exact ⟨ρ, e, ah, vs, ah', hS, hH, e1, fun ρ1 H1 zs x1 r1 v1 => ⟨ρ1, ah', vs, v, r1, v1, e2, fun H' z x2 r2 v2 f2 => q ρ1 H' z (x1.trans x2) r2 v2 (f2.back x1 r1)⟩⟩
theorem me_rd {m : Me} {σ : St} {H : Hp} {Q : VK} (h : rE X.K (evE gl cl (.me m A Es)) σ H Q) : tBM X.K m.T (rMe X.K m) (rE X.K (evE gl cl A)) (rA X.K (evA gl cl Es)) σ H Q := by
  obtain ⟨ρ, e, ah, v, ah', hS, hH, hE, q⟩ := h
  simp only [evE] at hE
  split at hE; · cases hE
  rename_i x h1 e1
  split at hE
  · rename_i ht
    split at hE; · cases hE
    rename_i vs h2 e2
    exact ⟨ρ, e, ah, x, h1, hS, hH, e1, fun ρ1 H1 z1 x1 r1 v1 f1 => ⟨meTy_ok r1 v1 ht, ρ1, e, h1, vs, h2, hS.mono x1, r1, e2, fun ρ2 H2 zs x2 r2 v2 =>
      ⟨ρ2, h2, x, vs, v, ah', r2, v1.mono x2, v2, hE, fun H' z x3 r3 v3 f3 => q ρ2 H' z ((x1.trans x2).trans x3) r3 v3 (f3.back (x1.trans x2) r2)⟩⟩⟩
  · cases hE
theorem me0_rd {m : Me} {σ : St} {H : Hp} {Q : VK} (h : rE X.K (evE gl cl (.me m A .nil)) σ H Q) : tBM0 X.K m.T (rMe X.K m) (rE X.K (evE gl cl A)) σ H Q := by
  obtain ⟨ρ, e, ah, v, ah', hS, hH, hE, q⟩ := h
  simp only [evE] at hE
  split at hE; · cases hE
  rename_i x h1 e1
  split at hE
  · rename_i ht
    simp only [evA] at hE
    exact ⟨ρ, e, ah, x, h1, hS, hH, e1, fun ρ1 H1 z1 x1 r1 v1 f1 => ⟨meTy_ok r1 v1 ht, 
      ρ1, h1, x, [], v, ah', r1, v1, by simp only [RepVs], hE, fun H' z x3 r3 v3 f3 => q ρ1 H' z (x1.trans x3) r3 v3 (f3.back x1 r1)⟩⟩
  · cases hE
/-! what is walked -/
/-- the iterator J gives what s gives, from (ρ, H) on -/
structure Gives (K : PySem.W.Frag) (J : It) (ρ : List Addr) (H : Hp) (s : Src) : Prop where
  go : ∀ ρ' H' ah' xs, Ext ρ H ρ' H' → RepH K ρ' ah' H' → s.get ah' = some xs → ∀ i, i < xs.length → J.go i H'
  stop : ∀ ρ' H' ah' xs, Ext ρ H ρ' H' → RepH K ρ' ah' H' → s.get ah' = some xs → ∀ i, xs.length ≤ i → J.stop i H'
  yld : ∀ ρ' H' ah' xs, Ext ρ H ρ' H' → RepH K ρ' ah' H' → s.get ah' = some xs → ∀ (i : Nat) x H'' v, xs[i]? = some v → J.yld i H' x H'' → Ext ρ' H' ρ' H'' ∧ RepH K ρ' ah' H'' ∧ RepV K ρ' H'' v x
theorem getx {vs : List V} {xs : List Vl} {i : Nat} (r : RepVs K ρ H xs vs) (h : i < xs.length) : ∃ y, vs[i]? = some y := by
  obtain ⟨y, h1, _⟩ := r.get (List.getElem?_eq_getElem h)
  exact ⟨y, h1⟩
theorem gives_T {a : Addr} {vs : List V} {xs : List Vl} (h : SqT K H a vs) (r : RepVs K ρ H xs vs) : Gives K (Itt K a) ρ H (.st xs) where
  go := fun ρ' H' ah' ys x r' e i hi => by
    cases e
    obtain ⟨y, h1⟩ := getx r hi
    exact ⟨vs, y, sqT_mono x.l3 h, h1⟩
  stop := fun ρ' H' ah' ys x r' e i hi => by
    cases e
    exact ⟨vs, sqT_mono x.l3 h, by rw [r.length]; exact hi⟩
  yld := fun ρ' H' ah' ys x r' e i z H'' v hv hy => by
    cases e
    obtain ⟨rfl, hq⟩ := hy
    obtain ⟨y, h1, h2⟩ := r.get hv
    have h3 := hq vs (sqT_mono x.l3 h)
    rw [h1] at h3; cases h3
    exact ⟨Ext.refl _ _, r', h2.mono x⟩
theorem gives_L {a : Addr} {vs : List V} {xs : List Vl} (h : ∀ ρ' H', Ext ρ H ρ' H' → SqL K H' a vs) (r : RepVs K ρ H xs vs) : Gives K (Itl K a) ρ H (.st xs) where
  go := fun ρ' H' ah' ys x r' e i hi => by
    cases e
    obtain ⟨y, h1⟩ := getx r hi
    exact ⟨vs, y, h _ _ x, h1⟩
  stop := fun ρ' H' ah' ys x r' e i hi => by
    cases e
    exact ⟨vs, h _ _ x, by rw [r.length]; exact hi⟩
  yld := fun ρ' H' ah' ys x r' e i z H'' v hv hy => by
    cases e
    obtain ⟨rfl, hq⟩ := hy
    obtain ⟨y, h1, h2⟩ := r.get hv
    have h3 := hq vs (h _ _ x)
    rw [h1] at h3; cases h3
    exact ⟨Ext.refl _ _, r', h2.mono x⟩
theorem gives_R {a : Addr} {n : Nat} (h : ρ[n]? = some a) : Gives K (Itl K a) ρ H (.lv n) where
  go := fun ρ' H' ah' ys x r' e i hi => by
    simp only [Src.get] at e
    split at e
    · rename_i zs hz
      cases e
      obtain ⟨b, vs, hb, h1, h2⟩ := r'.lst hz
      rw [x.get h] at hb; cases hb
      obtain ⟨y, h3⟩ := getx h2 hi
      exact ⟨vs, y, .of h1, h3⟩
    · cases e
  stop := fun ρ' H' ah' ys x r' e i hi => by
    simp only [Src.get] at e
    split at e
    · rename_i zs hz
      cases e
      obtain ⟨b, vs, hb, h1, h2⟩ := r'.lst hz
      rw [x.get h] at hb; cases hb
      exact ⟨vs, .of h1, by rw [h2.length]; exact hi⟩
    · cases e
  yld := fun ρ' H' ah' ys x r' e i z H'' v hv hy => by
    simp only [Src.get] at e
    split at e
    · rename_i zs hz
      cases e
      obtain ⟨b, vs, hb, h1, h2⟩ := r'.lst hz
      rw [x.get h] at hb; cases hb
      obtain ⟨rfl, hq⟩ := hy
      obtain ⟨y, h3, h4⟩ := h2.get hv
      have h5 := hq vs (.of h1)
      rw [h3] at h5; cases h5
      exact ⟨Ext.refl _ _, r', h4⟩
    · cases e
theorem gives_S (z : Str) : Gives K (Its z) ρ H (.st (z.cps.toList.map fun c => .str ⟨#[c]⟩)) where
  go := fun ρ' H' ah' ys x r' e i hi => by
    cases e
    simpa [Its] using hi
  stop := fun ρ' H' ah' ys x r' e i hi => by
    cases e
    simpa [Its] using hi
  yld := fun ρ' H' ah' ys x r' e i w H'' v hv hy => by
    cases e
    obtain ⟨rfl, c, hc, rfl⟩ := hy
    simp only [List.getElem?_map, Option.map_eq_some_iff, Array.getElem?_toList] at hv
    obtain ⟨d, hd, rfl⟩ := hv
    rw [hc] at hd; cases hd
    exact ⟨Ext.refl _ _, r', by simp only [RepV]⟩
theorem gives_I (lo : Int) (n : Nat) : Gives K (Itr lo n) ρ H (.st (rngL lo n)) where
  go := fun ρ' H' ah' ys x r' e i hi => by
    cases e
    simpa [Itr, rngL] using hi
  stop := fun ρ' H' ah' ys x r' e i hi => by
    cases e
    simpa [Itr, rngL] using hi
  yld := fun ρ' H' ah' ys x r' e i w H'' v hv hy => by
    cases e
    obtain ⟨rfl, rfl⟩ := hy
    simp only [rngL, List.getElem?_map, Option.map_eq_some_iff] at hv
    obtain ⟨d, hd, rfl⟩ := hv
    obtain ⟨hl, hd⟩ := List.getElem?_eq_some_iff.mp hd
    simp at hd
    subst hd
    exact ⟨Ext.refl _ _, r', by simp only [RepV]⟩
/-- what a loop's head reads -/
def rI (K : PySem.W.Frag) (k : Itk) (m : MA) : TI := fun σ H R => ∃ ρ e ah vs ah' s, RepS K ρ H e σ ∧ RepH K ρ ah H ∧ m e ah = some (vs, ah') ∧ srcOf k vs ah' = some s ∧ ∀ ρ' H' J, Ext ρ H ρ' H' → RepH K ρ' ah' H' → Gives K J ρ' H' s → R J H'
theorem oki_seq {tg : Expr} (ha : PE X a (rE X.K (evE gl cl A))) : PI X tg a (rI X.K .seq (evB gl cl (.cons A .nil))) := by
  refine ⟨fun pins s σ H R I h => ?_⟩
  obtain ⟨ρ, e, ah, vs, ah', sr, hS, hH, hE, hs, q⟩ := h
  simp only [evB] at hE
  split at hE; · cases hE
  rename_i v h1 e1
  cases hE
  cases v with
  | str y =>
    cases hs
    exact (pi_str ha).run pins s σ H R I ⟨ρ, e, ah, _, _, hS, hH, e1, fun ρ1 H1 z1 x1 r1 v1 _ => ⟨y, v1.str_, q ρ1 H1 _ x1 r1 (gives_S y)⟩⟩
  | tup ys =>
    cases hs
    refine (pi_tup ha).run pins s σ H R I ⟨ρ, e, ah, _, _, hS, hH, e1, fun ρ1 H1 z1 x1 r1 v1 _ => ?_⟩
    obtain ⟨a', zs, rfl, g1, g2⟩ := v1.tup_
    exact ⟨a', rfl, ⟨zs, g1⟩, q ρ1 H1 _ x1 r1 (gives_T g1 g2)⟩
  | fl ys =>
    cases hs
    refine (pi_list ha).run pins s σ H R I ⟨ρ, e, ah, _, _, hS, hH, e1, fun ρ1 H1 z1 x1 r1 v1 _ => ?_⟩
    obtain ⟨a', zs, rfl, g0, g1, g2⟩ := v1.fl_
    exact ⟨a', rfl, ⟨zs, .of g1⟩, q ρ1 H1 _ x1 r1 (gives_L (fun ρ' H' x => .of (x.fr _ _ g0 g1)) g2)⟩
  | fz ys =>
    cases hs
    refine (pi_list ha).run pins s σ H R I ⟨ρ, e, ah, _, _, hS, hH, e1, fun ρ1 H1 z1 x1 r1 v1 _ => ?_⟩
    obtain ⟨a', zs, rfl, g1, g2⟩ := v1.fz_
    exact ⟨a', rfl, ⟨zs, g1.sq⟩, q ρ1 H1 _ x1 r1 (gives_L (fun ρ' H' x => (g1.mono x.l3).sq) g2)⟩
  | ref n =>
    simp only [srcOf, seqSrc] at hs
    split at hs
    · rename_i xs hx
      cases hs
      refine (pi_list ha).run pins s σ H R I ⟨ρ, e, ah, _, _, hS, hH, e1, fun ρ1 H1 z1 x1 r1 v1 _ => ?_⟩
      obtain ⟨a', rfl, g1⟩ := v1.ref_
      obtain ⟨b, zs, hb, g2, g3⟩ := r1.lst hx
      rw [g1] at hb; cases hb
      exact ⟨a', rfl, ⟨zs, .of g2⟩, q ρ1 H1 _ x1 r1 (gives_R g1)⟩
    · cases hs
  | _ => simp [srcOf, seqSrc] at hs
theorem in62_iff {i : Int} (h : in62 i = true) : -(2 ^ 62) ≤ i ∧ i < 2 ^ 62 := by simpa [in62] using h
theorem rngB_inv {K : PySem.W.Frag} {vs : List Vl} {zs : List V} {s : Src} (h : srcOf .rng vs ah = some s) (r : RepRs K ρ H vs zs) :
    (∃ j, zs = [.int j] ∧ in62 j = true ∧ s = .st (rngL 0 j.toNat)) ∨ ∃ i j, zs = [.int i, .int j] ∧ in62 i = true ∧ in62 j = true ∧ s = .st (rngL i (j - i).toNat) := by
  simp only [srcOf] at h
  split at h
  · split at h
    · rename_i hj
      cases h
      obtain ⟨z, rfl, hz⟩ := r.one
      obtain rfl := hz.int_
      exact .inl ⟨_, rfl, hj, rfl⟩
    · cases h
  · split at h
    · rename_i hj
      cases h
      simp only [Bool.and_eq_true] at hj
      obtain ⟨z, z', rfl, hz, hz'⟩ := r.two
      obtain rfl := hz.int_
      obtain rfl := hz'.int_
      exact .inr ⟨_, _, rfl, hj.1, hj.2, rfl⟩
    · cases h
  · cases h
theorem PI.imp {tg iter : Expr} {t t' : TI} (h : PI X tg iter t) (f : ∀ σ H R, t' σ H R → t σ H R) : PI X tg iter t' := ⟨fun pins s σ H R I q => h.run pins s σ H R I (f σ H R q)⟩
theorem oki_rng1 {tg : Expr} {p : Pos} (hg : Gl X "range") (hm : X.mg "range" = none) (ha : PA X [a] (rB X.K (evB gl cl (.cons A .nil)))) (hs : starEach [a] X.env = [(false, eval a X.env)]) : PI X tg (.Call (.Name "range" p) [a] [] pos) (rI X.K .rng (evB gl cl (.cons A .nil))) := by
  refine PI.imp (pi_range1 hg hm ha hs) fun σ H R ⟨ρ, e, ah, vs, ah', sr, hS, hH, hE, hs, q⟩ => ?_
  refine ⟨ρ, e, ah, vs, ah', hS, hH, hE, fun ρ1 H1 zs x1 r1 v1 => ?_⟩
  have hl : vs.length = 1 := by
    simp only [evB] at hE
    split at hE; · cases hE
    cases hE; rfl
  rcases rngB_inv hs v1 with ⟨j, rfl, hj, rfl⟩ | ⟨i, j, rfl, hi, hj, rfl⟩
  · exact ⟨j, rfl, (in62_iff hj).1, (in62_iff hj).2, q ρ1 H1 _ x1 r1 (gives_I 0 j.toNat)⟩
  · exfalso
    have hl2 : ([.int i, .int j] : List V).length = vs.length := by
      clear hs hE q
      match vs, hl, v1 with
      | [w], _, h => obtain ⟨z, e, _⟩ := h.one; cases e
    simp [hl] at hl2
theorem oki_rng2 {tg : Expr} {p : Pos} (hg : Gl X "range") (hm : X.mg "range" = none) (ha : PA X [a, b] (rB X.K (evB gl cl (.cons A (.cons B .nil))))) (hs : starEach [a, b] X.env = [(false, eval a X.env), (false, eval b X.env)]) (hs2 : starEach [b] X.env = [(false, eval b X.env)]) :
    PI X tg (.Call (.Name "range" p) [a, b] [] pos) (rI X.K .rng (evB gl cl (.cons A (.cons B .nil)))) := by
  refine PI.imp (pi_range2 hg hm ha hs hs2) fun σ H R ⟨ρ, e, ah, vs, ah', sr, hS, hH, hE, hs, q⟩ => ?_
  refine ⟨ρ, e, ah, vs, ah', hS, hH, hE, fun ρ1 H1 zs x1 r1 v1 => ?_⟩
  have hl : vs.length = 2 := by
    simp only [evB] at hE
    split at hE; · cases hE
    split at hE; · cases hE
    rename_i h3
    split at h3; · cases h3
    cases h3
    cases hE; rfl
  rcases rngB_inv hs v1 with ⟨j, rfl, hj, rfl⟩ | ⟨i, j, rfl, hi, hj, rfl⟩
  · exfalso
    clear hs hE q
    match vs, hl, v1 with
    | [w, w'], _, h => obtain ⟨z, z', e, _⟩ := h.two; cases e
  · exact ⟨i, j, rfl, ⟨(in62_iff hi).1, (in62_iff hi).2, (in62_iff hj).1, (in62_iff hj).2⟩, q ρ1 H1 _ x1 r1 (gives_I i (j - i).toNat)⟩
end
end FK

/-! ### targets, comprehensions, loops, statements -/
namespace FK
open PySem PySem.Spec PyProof.Rows L2
section
variable {X : Cx} {K : PySem.W.Frag} {ρ ρ' : List Addr} {H H' : Hp} {ah ah' : AH} {v : Vl} {z : V}
variable {gl : List (Str × Vl)} {cl : Nat → List Vl → AH → Option (Vl × AH)} {a b c : Expr} {A B C : Ex} {pos : Pos} {es : List Expr} {Es : Ex}
def gNs : List Nat → TGs
  | [] => gNil
  | i :: is => gCons (gName i) (gNs is)
def gTg (K : PySem.W.Frag) : Tg → TG
  | .name i => gName i
  | .tup is => gTup K is.length (gNs is)
/-- slots but these are as they were -/
def SameBut (σ σ' : St) (is : List Nat) : Prop := σ'.length = σ.length ∧ ∀ i, i ∉ is → σ'[i]? = σ[i]?
theorem asgs_ok {is : List Nat} : ∀ {vs : List Vl} {zs : List V} {e e1 : AE} {σ : St} {Q : St → Hp → Prop}, RepS K ρ H e σ → RepVs K ρ H vs zs → asgs is vs e = some e1 → (∀ σ', RepS K ρ H e1 σ' → SameBut σ σ' is → Q σ' H) → zs.length = is.length ∧ gNs is zs σ H Q := by
  induction is with
  | nil =>
    intro vs zs e e1 σ Q hS hv he q
    cases vs with
    | nil =>
      simp only [asgs, Option.some.injEq] at he
      subst he
      obtain rfl := hv.nil_
      exact ⟨rfl, rfl, q σ hS ⟨rfl, fun _ _ => rfl⟩⟩
    | cons v vs => simp [asgs] at he
  | cons i is ih =>
    intro vs zs e e1 σ Q hS hv he q
    cases vs with
    | nil => simp [asgs] at he
    | cons v vs =>
      simp only [asgs] at he
      simp only [RepVs] at hv
      obtain ⟨y, r, rfl, h1, h2⟩ := hv
      obtain ⟨l, g⟩ := ih (Q := Q) (hS.set i h1) h2 he fun σ' s' ⟨e1', e2'⟩ => q σ' s' ⟨by rw [e1']; simp, fun j hj => by
        rw [e2' j (fun z => hj (List.mem_cons_of_mem _ z)), List.getElem?_set_ne (fun z => hj (by simp [z]))]⟩
      exact ⟨by simp [l], y, r, rfl, g⟩
def Tg.slots : Tg → List Nat
  | .name i => [i]
  | .tup is => is
theorem asg_ok {tg : Tg} {v : Vl} {z : V} {e e1 : AE} {σ : St} {Q : St → Hp → Prop} (hS : RepS K ρ H e σ) (hv : RepV K ρ H v z) (he : asg tg v e = some e1) (q : ∀ σ', RepS K ρ H e1 σ' → SameBut σ σ' tg.slots → Q σ' H) : gTg K tg z σ H Q := by
  cases tg with
  | name i =>
    simp only [asg, Option.some.injEq] at he
    subst he
    exact q _ (hS.set i hv) ⟨by simp, fun j hj => List.getElem?_set_ne (fun z => hj (by simp [Tg.slots, z]))⟩
  | tup is =>
    cases v with
    | tup vs =>
      simp only [asg] at he
      simp only [RepV] at hv
      obtain ⟨a, zs, rfl, h1, h2⟩ := hv
      obtain ⟨l, g⟩ := asgs_ok hS h2 he q
      exact ⟨a, zs, rfl, h1, l, g⟩
    | _ => simp [asg] at he
theorem RepS.setN {e : AE} {σ : St} (h : RepS K ρ H e σ) (i : Nat) : RepS K ρ H (e.set i none) (σ.set i none) := by
  refine ⟨by simp [h.len], fun j w q => ?_⟩
  by_cases hj : i = j
  · subst hj
    have hl : i < e.length := by
      have := (List.getElem?_eq_some_iff.mp q).1
      simpa using this
    rw [List.getElem?_set_self hl] at q
    cases q
  · rw [List.getElem?_set_ne hj] at q ⊢
    exact h.at_ j w q
theorem wipe_rep : ∀ {is : List Nat} {e : AE} {σ : St}, RepS K ρ H e σ → RepS K ρ H (wipeE e is) (wipe σ is)
  | [], _, _, h => h
  | i :: is, e, σ, h => (wipe_rep (is := is) h).setN i
theorem wipe_in : ∀ {is : List Nat} {σ : St} {i : Nat}, i ∈ is → (wipe σ is)[i]? = if i < σ.length then some none else none
  | j :: is, σ, i, h => by
    show ((wipe σ is).set j none)[i]? = _
    rw [List.getElem?_set]
    by_cases hj : j = i
    · subst hj
      rw [wipe_length]
      simp
    · have hi : i ∈ is := by
        rcases List.mem_cons.mp h with z | z
        · exact absurd z.symm hj
        · exact z
      rw [wipe_in hi, if_neg hj]
theorem wipe_same {is : List Nat} {σ σ' : St} {js : List Nat} (h : SameBut (wipe σ is) σ' js) (hs : ∀ j ∈ js, j ∈ is) : wipe σ' is = wipe σ is := by
  obtain ⟨h1, h2⟩ := h
  apply List.ext_getElem?
  intro i
  by_cases hi : i ∈ is
  · rw [wipe_in hi, wipe_in hi, h1, wipe_length]
  · rw [wipe_out hi, h2 i (fun z => hi (hs i z))]
/-- what stands outside is written -/
theorem upd_out {D : Addr} {vs vs' : List V} (n : D ∉ ρ) (e : H D = some (.lst vs)) : Lean3 ρ H ρ (upd H D (.lst vs')) :=
  ⟨List.prefix_refl _, fun b us q => by
      have hne : b ≠ D := by rintro rfl; rw [e] at q; cases q
      rw [upd_ne hne]; exact q,
    fun b o u q => by
      have hne : b ≠ D := by rintro rfl; rw [e] at q; cases q
      rw [upd_ne hne]; exact q⟩
theorem RepH.out {D : Addr} {vs vs' : List V} (h : RepH K ρ ah H) (n : D ∉ ρ) (e : H D = some (.lst vs)) : RepH K ρ ah (upd H D (.lst vs')) :=
  ⟨h.len, h.nd, fun k a u e1 e2 => (h.ob k a u e1 e2).mono (upd_out n e) fun o q => by
    have hne : a ≠ D := by rintro rfl; exact n (List.mem_of_getElem? e1)
    rw [upd_ne hne]; exact q⟩
theorem Ext.out {D : Addr} {o : HO} (x : Ext ρ H ρ' H') (n : H D = none) : Ext ρ H ρ' (upd H' D o) :=
  ⟨x.pre, fun a u h e => by rw [upd_ne (ne_of_none e n)]; exact x.fr a u h e, fun a u e => by rw [upd_ne (ne_of_none e n)]; exact x.tp a u e,
    fun a u w e => by rw [upd_ne (ne_of_none e n)]; exact x.fz a u w e, x.nw⟩
theorem lc_rd {k : Itk} {tg : Tg} {own : List Nat} {σ : St} {H : Hp} {Q : VK} (hown : ∀ j ∈ tg.slots, j ∈ own) (h : rE X.K (evE gl cl (.lc k Es tg own C A)) σ H Q) :
    tLc (rI X.K k (evB gl cl Es)) (gTg X.K tg) (rT X.K (evT gl cl C)) (rE X.K (evE gl cl A)) own σ H Q := by
  obtain ⟨ρ, e, ah, v, ah', hS, hH, hE, q⟩ := h
  simp only [evE] at hE
  split at hE; · cases hE
  rename_i vs h1 e1
  split at hE; · cases hE
  rename_i s e2
  split at hE; · cases hE
  rename_i xs e3
  split at hE
  · rename_i hz
    split at hE
    · rename_i ys h2 e4
      cases hE
      refine ⟨ρ, e, ah, vs, h1, s, hS, hH, e1, e2, fun ρ1 H1 J x1 r1 g1 D nD => ?_⟩
      refine ⟨fun i m H3 => ∃ ρ3 ah3 acc vacc, Ext ρ1 H1 ρ3 H3 ∧ RepH X.K ρ3 ah3 H3 ∧ D ∉ ρ3 ∧ H3 D = some (.lst vacc) ∧ RepVs X.K ρ3 H3 acc vacc ∧ acc.length ≤ i ∧ i + m = xs.length ∧
        lcLoop s tg (evT gl cl C) (evE gl cl A) (wipeE e own) m i acc ah3 = some (ys, ah'), ?_, ?_⟩
      · exact ⟨xs.length, ρ1, h1, [], [], Ext.new nD, r1.new nD, r1.notin nD, upd_same, by simp only [RepVs], Nat.le_refl _, by simp, e4⟩
      · intro i m H3 hW
        obtain ⟨ρ3, ah3, acc, vacc, x3, r3, n3, d3, v3, l3, em, hL⟩ := hW
        have fin : ∀ zs, s.get ah3 = some zs → zs.length ≤ i → (acc, ah3) = (ys, ah') → J.stop i H3 ∧ Q (.ref D) H3 := fun zs g l e => by
          cases e
          exact ⟨g1.stop ρ3 H3 _ zs x3 r3 g i l, q ρ3 H3 _ (x1.trans x3) r3 ⟨D, vacc, rfl, n3, d3, v3⟩ ⟨D, rfl, x1.back r1 nD⟩⟩
        cases m with
        | zero =>
          simp only [lcLoop] at hL
          split at hL
          · rename_i zs g
            split at hL
            · rename_i l
              exact .inl (fin zs g l (Option.some.inj hL))
            · cases hL
          · cases hL
        | succ m =>
          simp only [lcLoop] at hL
          split at hL; · cases hL
          rename_i zs g
          split at hL
          · rename_i hn
            exact .inl (fin zs g (List.getElem?_eq_none_iff.mp hn) (Option.some.inj hL))
          · rename_i x hx
            split at hL; · cases hL
            rename_i ee1 ea
            have hlt : i < zs.length := (List.getElem?_eq_some_iff.mp hx).1
            refine .inr ⟨g1.go ρ3 H3 ah3 zs x3 r3 g i hlt, _, fun H' hN => ⟨m, Nat.lt_succ_self m, hN⟩, fun x0 H' hy => ?_⟩
            obtain ⟨y1, y2, y3⟩ := g1.yld ρ3 H3 ah3 zs x3 r3 g i x0 H' x hx hy
            have hS3 : RepS X.K ρ3 H' (wipeE e own) (wipe σ own) := wipe_rep (hS.mono ((x1.trans x3).trans y1))
            have n3' : D ∉ ρ3 := n3
            have d3' : H' D = some (.lst vacc) := y1.fr _ _ n3 d3
            refine asg_ok hS3 y3 ea fun σ2 hS4 sb => ⟨wipe_same sb hown, ?_⟩
            split at hL
            · cases hL
            · rename_i h5 ec
              refine ⟨ρ3, ee1, ah3, false, h5, hS4, y2, ec, fun ρ4 H4 x4 r4 => ?_⟩
              dsimp only
              rw [if_neg (by simp)]
              exact ⟨ρ4, h5, acc, vacc, (x3.trans y1).trans x4, r4, x4.not n3' d3', x4.fr _ _ n3' d3', (v3.mono y1).mono x4, by omega, by omega, hL⟩
            · rename_i h5 ec
              refine ⟨ρ3, ee1, ah3, true, h5, hS4, y2, ec, fun ρ4 H4 x4 r4 => ?_⟩
              dsimp only
              rw [if_pos rfl]
              split at hL; · cases hL
              rename_i w h6 em'
              refine ⟨ρ4, ee1, h5, w, h6, hS4.mono x4, r4, em', fun ρ5 H5 zz x5 r5 v5 f5 => ?_⟩
              obtain ⟨ρ6, x6, r6, v6⟩ := fix_ok x5 r5 v5 f5
              have n4 := x4.not n3' d3'
              have d4 := x4.fr _ _ n3' d3'
              have n6 := x6.not n4 d4
              have d6 := x6.fr _ _ n4 d4
              have v7 : RepVs X.K ρ6 H5 (acc ++ [(fix w h6).1]) (vacc ++ [zz]) := (((v3.mono y1).mono x4).mono x6).append (.one v6)
              refine ⟨vacc, d6, ?_, ρ6, _, _, _, ((((x3.trans y1).trans x4).trans x6).out nD), r6.out n6 d6, n6, upd_same, v7.mono3 (upd_out n6 d6), ?_, by omega, hL⟩
              · rw [v3.length]; omega
              · simp; omega
    · cases hE
  · cases hE
/-! statements -/
section
variable (K : PySem.W.Frag)
/-- behind a statement -/
def AftS (ρ : List Addr) (H : Hp) (f : Fl) (e' : AE) (ah' : AH) (D : Ends) : Prop := match f with
  | .nx => ∀ ρ' H' σ', Ext ρ H ρ' H' → RepH K ρ' ah' H' → RepS K ρ' H' e' σ' → D.nx σ' H'
  | .rt v => ∀ ρ' H' z, Ext ρ H ρ' H' → RepH K ρ' ah' H' → RepR K ρ' H' v z → Fr H v z → D.rt z H'
  | .bk => ∀ ρ' H' σ', Ext ρ H ρ' H' → RepH K ρ' ah' H' → RepS K ρ' H' e' σ' → D.bk σ' H'
  | .ct => ∀ ρ' H' σ', Ext ρ H ρ' H' → RepH K ρ' ah' H' → RepS K ρ' H' e' σ' → D.ct σ' H'
def rS (m : MS) : TS := fun D σ H => ∃ ρ e ah f e' ah', RepS K ρ H e σ ∧ RepH K ρ ah H ∧ m e ah = some (f, e', ah') ∧ AftS K ρ H f e' ah' D
end
theorem AftS.back {f : Fl} {e' : AE} {D : Ends} {ah1 : AH} (q : AftS K ρ H f e' ah' D) (x : Ext ρ H ρ' H') (r : RepH K ρ' ah1 H') : AftS K ρ' H' f e' ah' D := by
  cases f with
  | nx => exact fun ρ2 H2 σ2 x2 r2 s2 => q ρ2 H2 σ2 (x.trans x2) r2 s2
  | rt v => exact fun ρ2 H2 z2 x2 r2 v2 f2 => q ρ2 H2 z2 (x.trans x2) r2 v2 (f2.back x r)
  | bk => exact fun ρ2 H2 σ2 x2 r2 s2 => q ρ2 H2 σ2 (x.trans x2) r2 s2
  | ct => exact fun ρ2 H2 σ2 x2 r2 s2 => q ρ2 H2 σ2 (x.trans x2) r2 s2
variable {fu : Nat} {st : Stmt} {rest : List Stmt} {S R : Sx}
theorem oks_nil : PSs X [] (rS X.K (evS gl cl fu .nil)) :=
  PSs.imp pss_nil fun D σ H ⟨ρ, e, ah, f, e', ah', hS, hH, hE, q⟩ => by
    simp only [evS] at hE; cases hE
    exact q ρ H σ (Ext.refl _ _) hH hS
theorem oks_cons (h1 : PS X st (rS X.K (evS gl cl fu S))) (h2 : PSs X rest (rS X.K (evS gl cl fu R))) : PSs X (st :: rest) (rS X.K (evS gl cl fu (.seq S R))) := by
  refine PSs.imp (pss_cons h1 h2) fun D σ H ⟨ρ, e, ah, f, e', ah', hS, hH, hE, q⟩ => ?_
  simp only [evS] at hE
  split at hE
  · rename_i e1 h1' eq
    exact ⟨ρ, e, ah, .nx, e1, h1', hS, hH, eq, fun ρ1 H1 σ1 x1 r1 s1 => ⟨ρ1, e1, h1', f, e', ah', s1, r1, hE, q.back x1 r1⟩⟩
  · rename_i o hn
    refine ⟨ρ, e, ah, f, e', ah', hS, hH, hE, ?_⟩
    cases f with
    | nx => exact absurd hE (hn _ _)
    | rt v => exact q
    | bk => exact q
    | ct => exact q
theorem oks_set {i : Nat} {x : Str} {pos' : Pos} (hN : X.N.Nodup) (hi : X.N[i]? = some x) (hx : Loc X.env.scope x) (ha : PE X a (rE X.K (evE gl cl A))) (hs : swapsWith a (some (.Name x pos')) pos.line X.env = pure false)
    (hf : X.fn x = true ∨ List.lookup x X.env.scope.names = some NameKind.local) : PS X (.Assign [.Name x pos'] a pos) (rS X.K (evS gl cl fu (.set i A))) := by
  refine PS.imp (ps_set hN hi hx ha hs hf) fun D σ H ⟨ρ, e, ah, f, e', ah', hS, hH, hE, q⟩ => ?_
  simp only [evS] at hE
  split at hE
  · rename_i v h1 e1
    cases hE
    refine ⟨ρ, e, ah, v, h1, hS, hH, e1, fun ρ1 H1 z1 x1 r1 v1 f1 => ?_⟩
    obtain ⟨ρ2, x2, r2, v2⟩ := fix_ok x1 r1 v1 f1
    exact q ρ2 H1 _ x2 r2 ((hS.mono x2).set i v2)
  · cases hE
/-- name = [.. for ..] on one line -/
theorem oks_setLc {i : Nat} {y : Str} {py : Pos} {elt tgx iter : Expr} {ifs : List Expr} {scope : Scope} {spos : Pos} {k : Itk} {tg : Tg} {own : List (Str × Nat)} (hc : X.calm = true) (hN : X.N.Nodup) (hy : X.N[i]? = some y) (hyl : X.env.scope.names.lookup y = some .local)
    (hw : swapsWith (.ListComp elt [⟨tgx, iter, ifs, 0⟩] scope pos) (some (.Name y py)) spos.line X.env = pure true) (hi : PI X tgx iter (rI X.K k (evB gl cl Es))) (ok : BlkOk X.N X.env.scope scope own)
    (hg : ∀ s H C cl' fp, PG (X.blk s H scope (compEnvC scope cl' C X.env) fp) tgx (gTg X.K tg)) (ht : ∀ s H C' cl' fp, PTs (X.blk s H scope (compEnvC scope cl' C' X.env) fp) ifs (rT X.K (evT gl cl C)))
    (he : ∀ s H C cl' fp, PE (X.blk s H scope (compEnvC scope cl' C X.env) fp) elt (rE X.K (evE gl cl A))) (hs : ∀ x, foldedSetIterable iter X.env x = pure x) (hown : ∀ j ∈ tg.slots, j ∈ own.map (·.2)) :
    PS X (.Assign [.Name y py] (.ListComp elt [⟨tgx, iter, ifs, 0⟩] scope pos) spos) (rS X.K (evS gl cl fu (.set i (.lc k Es tg (own.map (·.2)) C A)))) := by
  refine PS.imp (ps_setLc hc hN hy hyl hw hi ok hg ht he hs) fun D σ H ⟨ρ, e, ah, f, e', ah', hS, hH, hE, q⟩ => ?_
  simp only [evS] at hE
  split at hE
  · rename_i v h1 e1
    cases hE
    refine lc_rd hown ⟨ρ, e, ah, v, h1, hS, hH, e1, fun ρ1 H1 z1 x1 r1 v1 f1 => ?_⟩
    obtain ⟨ρ2, x2, r2, v2⟩ := fix_ok x1 r1 v1 f1
    exact q ρ2 H1 _ x2 r2 ((hS.mono x2).set i v2)
  · cases hE
theorem oks_setT {is : List Nat} {tgx : Expr} (ha : PE X a (rE X.K (evE gl cl A))) (hg : PG X tgx (gTg X.K (.tup is))) (h1 : swapsWithSole [tgx] a pos.line X.env = pure false) (h2 : swappedStores [tgx] a X.env = pure none)
    (h3 : List.map (fun x => x.snd) (assignEach [tgx] X.env) = [assign tgx X.env]) : PS X (.Assign [tgx] a pos) (rS X.K (evS gl cl fu (.setT is A))) := by
  refine PS.imp (ps_asg ha hg h1 h2 h3) fun D σ H ⟨ρ, e, ah, f, e', ah', hS, hH, hE, q⟩ => ?_
  simp only [evS] at hE
  split at hE
  · rename_i v h1 e1
    split at hE
    · rename_i e2 ea
      cases hE
      refine ⟨ρ, e, ah, v, ah', hS, hH, e1, fun ρ1 H1 z1 x1 r1 v1 f1 => ?_⟩
      have v1' : RepV X.K ρ1 H1 v z1 := by
        cases v <;> first | exact v1 | (simp [asg] at ea)
      exact asg_ok (hS.mono x1) v1' ea fun σ' hS' _ => q ρ1 H1 σ' x1 r1 hS'
    · cases hE
  · cases hE
theorem oks_setIx {o i : Expr} {O J : Ex} {p2 : Pos} (ho : PE X o (rE X.K (evE gl cl O))) (hi : PE X i (rE X.K (evE gl cl J))) (ha : PE X a (rE X.K (evE gl cl A)))
    (hsub : ∀ (v : Value), assign (o.Subscript i p2) X.env v = do
                let ov ← holding [v] (eval o X.env)
                let iv ← holding [v, ov] (eval i X.env)
                standAt p2
                holding [v, ov, iv] (setItem ov iv v)
                release [v, ov, iv] [])
    (h1 : swapsWithSole [o.Subscript i p2] a pos.line X.env = pure false) (h2 : swappedStores [o.Subscript i p2] a X.env = pure none) (h3 : List.map (fun x => x.snd) (assignEach [o.Subscript i p2] X.env) = [assign (o.Subscript i p2) X.env]) :
    PS X (.Assign [.Subscript o i p2] a pos) (rS X.K (evS gl cl fu (.setIx O J A))) := by
  refine PS.imp (ps_asg ha (pg_sub ho hi setIx_ok hsub) h1 h2 h3) fun D σ H ⟨ρ, e, ah, f, e', ah', hS, hH, hE, q⟩ => ?_
  simp only [evS] at hE
  split at hE; · cases hE
  rename_i v g1 e1
  split at hE; · cases hE
  rename_i p g2 e2
  split at hE; · cases hE
  rename_i j g3 e3
  split at hE; · cases hE
  rename_i g4 e4
  cases hE
  refine ⟨ρ, e, ah, v, g1, hS, hH, e1, fun ρ1 H1 z1 x1 r1 v1 f1 => ?_⟩
  obtain ⟨ρ2, x2, r2, v2⟩ := fix_ok x1 r1 v1 f1
  refine ⟨ρ2, e, _, p, g2, hS.mono x2, r2, e2, fun ρ3 H3 z3 x3 r3 v3 f3 => ⟨ρ3, e, g2, j, g3, (hS.mono x2).mono x3, r3, e3, fun ρ4 H4 z4 x4 r4 v4 f4 =>
    ⟨ρ4, g3, p, j, (fix v g1).1, ah', r4, v3.mono x4, v4, (v2.mono x3).mono x4, e4, fun H5 x5 r5 => q ρ4 H5 σ (((x2.trans x3).trans x4).trans x5) r5 ((((hS.mono x2).mono x3).mono x4).mono x5)⟩⟩⟩
theorem oks_aug {i : Nat} {x : Str} {op : Operator} {pos' : Pos} (hN : X.N.Nodup) (hi : X.N[i]? = some x) (hx : Loc X.env.scope x) (ha : PE X a (rE X.K (evE gl cl A)))
    (hf : X.fn x = true ∨ List.lookup x X.env.scope.names = some NameKind.local) (hop : op = .Add ∨ op = .Sub) : PS X (.AugAssign (.Name x pos') op a pos) (rS X.K (evS gl cl fu (.aug i op A))) := by
  have core : ∀ (g : Int → Int → Int) (hg : ∀ u w, augV op u w = match u, w with | .int i, .int j => some (.int (g i j)) | _, _ => none) (D : Ends) (σ : St) (H : Hp), rS X.K (evS gl cl fu (.aug i op A)) D σ H → tAug i (rE X.K (evE gl cl A)) (ipI g) D σ H := by
    intro g hg D σ H ⟨ρ, e, ah, f, e', ah', hS, hH, hE, q⟩
    simp only [evS] at hE
    split at hE
    · rename_i u hu
      split at hE; · cases hE
      rename_i w h1 e1
      split at hE; · cases hE
      rename_i v e2
      cases hE
      rw [hg] at e2
      split at e2
      · rename_i m n
        cases e2
        obtain ⟨y, y1, y2⟩ := hS.at_ i _ hu
        obtain rfl := y2.r.int_
        refine ⟨_, y1, ρ, e, ah, .int n, ah', hS, hH, e1, fun ρ1 H1 z1 x1 r1 v1 f1 => ⟨m, n, rfl, v1.int_, q ρ1 H1 _ x1 r1 ((hS.mono x1).set i (by simp only [RepV]))⟩⟩
      · cases e2
    · cases hE
  rcases hop with rfl | rfl
  · exact PS.imp (ps_aug hN hi hx ha ip_add hf) (core _ fun u w => by cases u <;> cases w <;> rfl)
  · exact PS.imp (ps_aug hN hi hx ha ip_sub hf) (core _ fun u w => by cases u <;> cases w <;> rfl)
theorem oks_if {as bs : List Stmt} (hc : PT X c (rT X.K (evT gl cl C))) (ha : PSs X as (rS X.K (evS gl cl fu S))) (hb : PSs X bs (rS X.K (evS gl cl fu R))) : PS X (.If c as bs pos) (rS X.K (evS gl cl fu (.ifs C S R))) := by
  refine PS.imp (ps_if hc ha hb) fun D σ H ⟨ρ, e, ah, f, e', ah', hS, hH, hE, q⟩ => ?_
  simp only [evS] at hE
  split at hE
  · rename_i h1 e1
    refine ⟨ρ, e, ah, true, h1, hS, hH, e1, fun ρ1 H1 x1 r1 => ?_⟩
    dsimp only
    rw [if_pos rfl]
    exact ⟨ρ1, e, h1, f, e', ah', hS.mono x1, r1, hE, q.back x1 r1⟩
  · rename_i h1 e1
    refine ⟨ρ, e, ah, false, h1, hS, hH, e1, fun ρ1 H1 x1 r1 => ?_⟩
    dsimp only
    rw [if_neg (by simp)]
    exact ⟨ρ1, e, h1, f, e', ah', hS.mono x1, r1, hE, q.back x1 r1⟩
  · cases hE
theorem oks_for {k : Itk} {tg : Tg} {tgx iter : Expr} {body : List Stmt} (hx : X.xe = fun _ _ => False) (hc : X.calm = true) (hi : PI X tgx iter (rI X.K k (evB gl cl Es))) (hg : PG X tgx (gTg X.K tg)) (hb : PSs X body (rS X.K (evS gl cl fu S)))
    (hs : ∀ x, foldedSetIterable iter X.env x = pure x) : PS X (.For tgx iter body [] pos) (rS X.K (evS gl cl fu (.for_ k Es tg S))) := by
  refine PS.imp (ps_for (by rw [hx]; exact PassesOwn.never) hc hi hg hb hs) fun D σ H ⟨ρ, e, ah, f, e', ah', hS, hH, hE, q⟩ => ?_
  simp only [evS] at hE
  split at hE; · cases hE
  rename_i vs h1 e1
  split at hE; · cases hE
  rename_i s e2
  split at hE; · cases hE
  rename_i xs e3
  refine ⟨ρ, e, ah, vs, h1, s, hS, hH, e1, e2, fun ρ1 H1 J x1 r1 g1 => ?_⟩
  refine ⟨fun i m σ3 H3 => ∃ ρ3 e3 ah3, Ext ρ1 H1 ρ3 H3 ∧ RepH X.K ρ3 ah3 H3 ∧ RepS X.K ρ3 H3 e3 σ3 ∧ forLoop s tg (evS gl cl fu S) m i e3 ah3 = some (f, e', ah'), ⟨xs.length, ρ1, e, h1, Ext.refl _ _, r1, hS.mono x1, hE⟩, ?_⟩
  intro i m σ3 H3 ⟨ρ3, e3, ah3, x3, r3, s3, hL⟩
  have fin : ∀ zs, s.get ah3 = some zs → zs.length ≤ i → (Fl.nx, e3, ah3) = (f, e', ah') → J.stop i H3 ∧ D.nx σ3 H3 := fun zs g l e => by
    cases e
    exact ⟨g1.stop ρ3 H3 _ zs x3 r3 g i l, q ρ3 H3 σ3 (x1.trans x3) r3 s3⟩
  cases m with
  | zero =>
    simp only [forLoop] at hL
    split at hL
    · rename_i zs g
      split at hL
      · rename_i l
        exact .inl (fin zs g l (Option.some.inj hL))
      · cases hL
    · cases hL
  | succ m =>
    simp only [forLoop] at hL
    split at hL; · cases hL
    rename_i zs g
    split at hL
    · rename_i hn
      exact .inl (fin zs g (List.getElem?_eq_none_iff.mp hn) (Option.some.inj hL))
    · rename_i x hx'
      split at hL; · cases hL
      rename_i ee1 ea
      have hlt : i < zs.length := (List.getElem?_eq_some_iff.mp hx').1
      refine .inr ⟨g1.go ρ3 H3 ah3 zs x3 r3 g i hlt, _, fun σ' H' hN => ⟨m, Nat.lt_succ_self m, hN⟩, fun x0 H' hy => ?_⟩
      obtain ⟨y1, y2, y3⟩ := g1.yld ρ3 H3 ah3 zs x3 r3 g i x0 H' x hx' hy
      refine asg_ok (s3.mono y1) y3 ea fun σ2 hS4 _ => ?_
      have x3' := x3.trans y1
      split at hL
      · cases hL
      · rename_i ee2 h5 eb
        exact ⟨ρ3, ee1, ah3, .nx, ee2, h5, hS4, y2, eb, fun ρ4 H4 σ4 x4 r4 s4 => ⟨ρ4, ee2, h5, x3'.trans x4, r4, s4, hL⟩⟩
      · rename_i ee2 h5 eb
        exact ⟨ρ3, ee1, ah3, .ct, ee2, h5, hS4, y2, eb, fun ρ4 H4 σ4 x4 r4 s4 => ⟨ρ4, ee2, h5, x3'.trans x4, r4, s4, hL⟩⟩
      · rename_i ee2 h5 eb
        cases hL
        exact ⟨ρ3, ee1, ah3, .bk, _, _, hS4, y2, eb, fun ρ4 H4 σ4 x4 r4 s4 => q ρ4 H4 σ4 (x1.trans (x3'.trans x4)) r4 s4⟩
      · rename_i w ee2 h5 eb
        cases hL
        exact ⟨ρ3, ee1, ah3, .rt w, _, _, hS4, y2, eb, fun ρ4 H4 z4 x4 r4 v4 f4 => q ρ4 H4 z4 (x1.trans (x3'.trans x4)) r4 v4 (f4.back (x1.trans x3') y2)⟩
theorem oks_whl {body : List Stmt} (hx : X.xe = fun _ _ => False) (hc : PT X c (rT X.K (evT gl cl C))) (hb : PSs X body (rS X.K (evS gl cl fu S))) : PS X (.While c body [] pos) (rS X.K (evS gl cl fu (.whl C S))) := by
  refine PS.imp (ps_while (by rw [hx]; exact PassesOwn.never) hc hb) fun D σ H ⟨ρ, e, ah, f, e', ah', hS, hH, hE, q⟩ => ?_
  simp only [evS] at hE
  refine ⟨fun m σ3 H3 => ∃ ρ3 e3 ah3, Ext ρ H ρ3 H3 ∧ RepH X.K ρ3 ah3 H3 ∧ RepS X.K ρ3 H3 e3 σ3 ∧ whlLoop (evT gl cl C) (evS gl cl fu S) m e3 ah3 = some (f, e', ah'), ⟨fu, ρ, e, ah, Ext.refl _ _, hH, hS, hE⟩, ?_⟩
  intro m σ3 H3 ⟨ρ3, e3, ah3, x3, r3, s3, hL⟩
  cases m with
  | zero => simp [whlLoop] at hL
  | succ m =>
    simp only [whlLoop] at hL
    split at hL
    · cases hL
    · rename_i h4 e4
      cases hL
      refine ⟨ρ3, _, ah3, false, _, s3, r3, e4, fun ρ4 H4 x4 r4 => ?_⟩
      dsimp only
      rw [if_neg (by simp)]
      exact q ρ4 H4 σ3 (x3.trans x4) r4 (s3.mono x4)
    · rename_i h4 e4
      refine ⟨ρ3, e3, ah3, true, h4, s3, r3, e4, fun ρ4 H4 x4 r4 => ?_⟩
      dsimp only
      rw [if_pos rfl]
      refine ⟨_, fun σ' H' hN => ⟨m, Nat.lt_succ_self m, hN⟩, ?_⟩
      have x3' := x3.trans x4
      split at hL
      · cases hL
      · rename_i ee2 h5 eb
        exact ⟨ρ4, e3, h4, .nx, ee2, h5, s3.mono x4, r4, eb, fun ρ5 H5 σ5 x5 r5 s5 => ⟨ρ5, ee2, h5, x3'.trans x5, r5, s5, hL⟩⟩
      · rename_i ee2 h5 eb
        exact ⟨ρ4, e3, h4, .ct, ee2, h5, s3.mono x4, r4, eb, fun ρ5 H5 σ5 x5 r5 s5 => ⟨ρ5, ee2, h5, x3'.trans x5, r5, s5, hL⟩⟩
      · rename_i ee2 h5 eb
        cases hL
        exact ⟨ρ4, e3, h4, .bk, _, _, s3.mono x4, r4, eb, fun ρ5 H5 σ5 x5 r5 s5 => q ρ5 H5 σ5 (x3'.trans x5) r5 s5⟩
      · rename_i w ee2 h5 eb
        cases hL
        exact ⟨ρ4, e3, h4, .rt w, _, _, s3.mono x4, r4, eb, fun ρ5 H5 z5 x5 r5 v5 f5 => q ρ5 H5 z5 (x3'.trans x5) r5 v5 (f5.back x3' r4)⟩
theorem oks_ret (ha : PE X a (rE X.K (evE gl cl A))) : PS X (.Return (some a) pos) (rS X.K (evS gl cl fu (.ret A))) := by
  refine PS.imp (ps_ret ha) fun D σ H ⟨ρ, e, ah, f, e', ah', hS, hH, hE, q⟩ => ?_
  simp only [evS] at hE
  split at hE
  · rename_i v h1 e1
    cases hE
    exact ⟨ρ, e, ah, v, ah', hS, hH, e1, q⟩
  · cases hE
theorem oks_retN : PS X (.Return none pos) (rS X.K (evS gl cl fu .retN)) :=
  PS.imp ps_retN fun D σ H ⟨ρ, e, ah, f, e', ah', hS, hH, hE, q⟩ => by
    simp only [evS] at hE; cases hE
    exact q ρ H .non (Ext.refl _ _) hH (by simp only [RepR, RepV]) trivial
theorem oks_expr (ha : PE X a (rE X.K (evE gl cl A))) (hs : swapsWith a none pos.line X.env = pure false) : PS X (.Expr a pos) (rS X.K (evS gl cl fu (.expr A))) := by
  refine PS.imp (ps_expr ha hs) fun D σ H ⟨ρ, e, ah, f, e', ah', hS, hH, hE, q⟩ => ?_
  simp only [evS] at hE
  split at hE
  · rename_i v h1 e1
    cases hE
    exact ⟨ρ, e, ah, v, ah', hS, hH, e1, fun ρ1 H1 z1 x1 r1 v1 f1 => q ρ1 H1 σ x1 r1 (hS.mono x1)⟩
  · cases hE
theorem oks_pass : PS X (.Pass pos) (rS X.K (evS gl cl fu .pass)) :=
  PS.imp ps_pass fun D σ H ⟨ρ, e, ah, f, e', ah', hS, hH, hE, q⟩ => by
    simp only [evS] at hE; cases hE
    exact q ρ H σ (Ext.refl _ _) hH hS
theorem oks_brk : PS X (.Break pos) (rS X.K (evS gl cl fu .brk)) :=
  PS.imp ps_break fun D σ H ⟨ρ, e, ah, f, e', ah', hS, hH, hE, q⟩ => by
    simp only [evS] at hE; cases hE
    exact q ρ H σ (Ext.refl _ _) hH hS
theorem oks_fail : PS X st (rS X.K (evS gl cl fu .fail)) :=
  ⟨fun pins s σ H D I ⟨ρ, e, ah, f, e', ah', hS, hH, hE, q⟩ => by simp [evS] at hE⟩
end
end FK

/-! ### is a text of the small Python the one that stands in the row? -/
namespace FK
open PySem PySem.Spec PyProof.Rows L2
structure Tab where
  gl : List (Str × Vl)
  fnm : List Str
def BN : List Str := ["len", "abs", "isinstance", "all", "any", "tuple", "list", "str", "min", "max", "sum", "int", "range", "bool", "enumerate", "zip", "sorted", "set", "dict", "repr"]
def tyTab : List (Str × String) := [("str", "str"), ("int", "int"), ("tuple", "tuple"), ("list", "list"), ("bool", "bool"), ("dict", "dict")]
def isGl (sc : Scope) (x : Str) : Bool := decide (sc.names.lookup x = some .globalImplicit) && !(x == ("__debug__" : Str))
def isVis (sc : Scope) (x : Str) : Bool := (decide (sc.names.lookup x = some .local) || decide (sc.names.lookup x = some .cell) || decide (sc.names.lookup x = some .free)) && !(x == ("__debug__" : Str)) && !(x == ("__classdict__" : Str))
def isLoc (sc : Scope) (x : Str) : Bool := decide (sc.names.lookup x = some .local) || decide (sc.names.lookup x = some .cell)
def notStar : Expr → Bool
  | .Starred _ _ => false
  | _ => true
def notSet : Expr → Bool
  | .Set _ _ _ => false
  | _ => true
def notSlice : Expr → Bool
  | .Slice _ _ _ _ => false
  | _ => true
def notCall : Expr → Bool
  | .Call _ _ _ _ => false
  | _ => true
def plainTest : Expr → Bool
  | .Name _ _ => true
  | .Call _ _ _ _ => true
  | .Constant _ _ _ => true
  | .Subscript _ _ _ => true
  | .Attribute _ _ _ => true
  | _ => false
def cstOk : Vl → Const → Bool
  | .int i, .int j => decide (i = j)
  | .str i, .str j => decide (i = j)
  | .bl i, .bool j => i == j
  | .non, .none => true
  | _, _ => false
def chkNs (N : List Str) (sc : Scope) : List Nat → List Expr → Bool
  | [], [] => true
  | i :: is, .Name x _ :: es => decide (N[i]? = some x) && isLoc sc x && chkNs N sc is es
  | _, _ => false
def chkTg (N : List Str) (sc : Scope) : Tg → Expr → Bool
  | .name i, .Name x _ => decide (N[i]? = some x) && isLoc sc x
  | .tup is, .Tuple es _ _ => chkNs N sc is es
  | _, _ => false
def isNil : Ex → Bool
  | .nil => true
  | _ => false
def ownN (N : List Str) (own : List Nat) : List (Str × Nat) := own.map fun j => (N.getD j "", j)
section
variable (T : Tab) (N : List Str)
mutual
def chkE : Scope → Ex → Expr → Bool
  | sc, .var i, .Name x _ => decide (N[i]? = some x) && isVis sc x
  | sc, .cst v, .Constant c _ _ => cstOk v c
  | sc, .glob g, .Name x _ => (match T.gl[g]? with | some p => decide (p.1 = x) | none => false) && isGl sc x
  | sc, .bty t, .Name x _ => decide ((x, t) ∈ tyTab) && isGl sc x
  | sc, .bin op a b, .BinOp l o r _ => decide (op = o) && chkE sc a l && chkE sc b r
  | sc, .neg a, .UnaryOp o x _ => decide (o = .USub) && chkE sc a x
  | sc, .cmp op a b, .Compare l [o] [r] _ => decide (op = o) && chkE sc a l && chkE sc b r && notSet r
  | sc, .chain op op' a b c, .Compare l [o, o'] [m, r] _ => decide (op = o) && decide (op' = o') && chkE sc a l && chkE sc b m && chkE sc c r && notSet r
  | sc, .and a b, .BoolOp o (x :: y :: rest) pos => decide (o = .And) && chkE sc a x && chkE sc b (match rest with | [] => y | _ :: _ => .BoolOp .And (y :: rest) pos)
  | sc, .or a b, .BoolOp o (x :: y :: rest) pos => decide (o = .Or) && chkE sc a x && chkE sc b (match rest with | [] => y | _ :: _ => .BoolOp .Or (y :: rest) pos)
  | sc, .not a, .UnaryOp o x _ => decide (o = .Not) && chkE sc a x
  | sc, .ite c a b, .IfExp t x y _ => chkT sc c t && chkE sc a x && chkE sc b y
  | sc, .lst es, .List xs _ => chkA sc es xs
  | sc, .tup es, .Tuple xs _ _ => chkA sc es xs
  | sc, .ix a b, .Subscript x y _ => chkE sc a x && chkE sc b y && notSlice y
  | sc, .sl a lo hi, .Subscript x (.Slice l u none _) _ => chkE sc a x && chkO sc lo l && chkO sc hi u
  | sc, .lc k it tg own c e, .ListComp elt [⟨t, i, ifs, z⟩] scope _ => decide (z = 0) && chkI sc k it i && notSet i && chkTg N scope tg t && (match ifs with | [] => isNil c | [x] => chkT scope c x | _ => false) && chkE scope e elt && blkC N sc scope (ownN N own) && tg.slots.all (own.contains ·)
  | sc, .call f es, .Call (.Name x _) args [] _ => decide (T.fnm[f]? = some x) && isGl sc x && chkA sc es args
  | sc, .bi f es, .Call (.Name x _) (a :: as) [] _ => decide (x = f.name) && isGl sc x && chkA sc es (a :: as)
  | sc, .me m o es, .Call (.Attribute ob nm apos) args [] cpos => decide (nm = m.name) && chkE sc o ob && chkA sc es args && (apos.endLine == cpos.line) && notCall ob && decide (args.length < 30)
  | _, _, _ => false
def chkT : Scope → Ex → Expr → Bool
  | sc, .and a b, .BoolOp o (x :: y :: rest) pos => decide (o = .And) && chkT sc a x && (match rest with | [] => chkT sc b y | _ :: _ => chkT sc b (.BoolOp .And (y :: rest) pos))
  | sc, .or a b, .BoolOp o (x :: y :: rest) pos => decide (o = .Or) && chkT sc a x && (match rest with | [] => chkT sc b y | _ :: _ => chkT sc b (.BoolOp .Or (y :: rest) pos))
  | sc, .not a, .UnaryOp o x _ => decide (o = .Not) && chkT sc a x
  | sc, .val a, x => chkE sc a x && (plainTest x || (match x with | .Compare _ _ _ _ => true | _ => false))
  | _, _, _ => false
def chkA : Scope → Ex → List Expr → Bool
  | _, .nil, [] => true
  | sc, .cons a es, x :: xs => notStar x && chkE sc a x && chkA sc es xs
  | _, _, _ => false
def chkO : Scope → Ex → Option Expr → Bool
  | _, .nil, none => true
  | sc, .cons a _, some x => chkE sc a x
  | _, _, _ => false
def chkI : Scope → Itk → Ex → Expr → Bool
  | sc, k, .cons a es, x => match k with
    | .seq => isNil es && chkE sc a x
    | .rng => match x with
      | .Call (.Name f _) (y :: ys) [] _ => decide (f = "range") && isGl sc f && notStar y && chkE sc a y && chkA sc es ys && decide (ys.length ≤ 1)
      | _ => false
    | _ => false
  | _, _, _, _ => false
end
end
end FK

namespace FK
open PySem PySem.Spec PyProof.Rows L2
/-- the scope where one stands is the written one, up to what is a cell of the def around -/
def ScOk (s sc : Scope) : Prop := ∀ x kd, sc.names.lookup x = some kd → s.names.lookup x = some kd ∨ (kd = .free ∧ s.names.lookup x = some .cell)
structure GX (T : Tab) (cl : Nat → List Vl → AH → Option (Vl × AH)) (k : Nat) (N : List Str) (sc : Scope) (X : Cx) : Prop where
  calm : X.calm = true
  xe : X.xe = fun _ _ => False
  hN : X.N = N
  nd : N.Nodup
  kd : X.env.scope.kind = .function
  sco : ScOk X.env.scope sc
  fn : ∀ x, sc.names.lookup x = some .cell → X.fn x = true
  room : Room k X.A
  gd : X.A.guards = some []
  gl : ∀ (g : Nat) p, T.gl[g]? = some p → ∃ u z, X.mg p.1 = some u ∧ RelV z u ∧ ∀ ρ H, RepV X.K ρ H p.2 z
  bn : ∀ x ∈ BN, X.mg x = none
  fns : ∀ (f : Nat) x, T.fnm[f]? = some x → ∃ fa fd ps, X.mg x = some (.ref fa) ∧ PySem.W.keepIn X.K (.ref fa) = true ∧ Binds X.K fd ps [] ∧ FnG X.prog X.w X.K X.mg X.base k fa fd ps (cl f)
section
variable {T : Tab} {cl : Nat → List Vl → AH → Option (Vl × AH)} {k : Nat} {N : List Str} {sc : Scope} {X : Cx}
theorem GX.hu (G : GX T cl k N sc X) : X.A.units + 65 < cLine := by have := G.room.un; omega
theorem GX.hu2 (G : GX T cl k N sc X) : X.A.units + 68 < cLine := by have := G.room.un; omega
theorem GX.glob (G : GX T cl k N sc X) {x : Str} (h : isGl sc x = true) : Gl X x ∧ (x == ("__debug__" : Str)) = false := by
  simp only [isGl, Bool.and_eq_true, decide_eq_true_eq, Bool.not_eq_true'] at h
  refine ⟨?_, h.2⟩
  rcases G.sco x _ h.1 with e | ⟨e, _⟩
  · exact e
  · cases e
theorem GX.vis (G : GX T cl k N sc X) {x : Str} (h : isVis sc x = true) : Vis X.env.scope x ∧ (x == ("__debug__" : Str)) = false ∧ (x == ("__classdict__" : Str)) = false := by
  simp only [isVis, Bool.and_eq_true, Bool.or_eq_true, decide_eq_true_eq, Bool.not_eq_true'] at h
  refine ⟨?_, h.1.2, h.2⟩
  rcases h.1.1 with (h | h) | h
  · rcases G.sco x _ h with e | ⟨e, _⟩
    · exact .inl e
    · cases e
  · rcases G.sco x _ h with e | ⟨e, _⟩
    · exact .inr (.inl e)
    · cases e
  · rcases G.sco x _ h with e | ⟨_, e⟩
    · exact .inr (.inr e)
    · exact .inr (.inl e)
theorem GX.loc (G : GX T cl k N sc X) {x : Str} (h : isLoc sc x = true) : Loc X.env.scope x ∧ (X.fn x = true ∨ X.env.scope.names.lookup x = some .local) := by
  simp only [isLoc, Bool.or_eq_true, decide_eq_true_eq] at h
  rcases h with h | h
  · rcases G.sco x _ h with e | ⟨e, _⟩
    · exact ⟨.inl e, .inr e⟩
    · cases e
  · rcases G.sco x _ h with e | ⟨e, _⟩
    · exact ⟨.inr e, .inl (G.fn x h)⟩
    · cases e
theorem lookup_map (f : Str × NameKind → Str × NameKind) (hf : ∀ p, (f p).1 = p.1) : ∀ (l : List (Str × NameKind)) (x : Str) (kd : NameKind), l.lookup x = some kd → (l.map f).lookup x = some (f (x, kd)).2
  | [], _, _, h => by simp at h
  | (n, k') :: r, x, kd, h => by
    rw [List.lookup_cons] at h
    simp only [List.map_cons]
    have e1 : (f (n, k')) = (n, (f (n, k')).2) := Prod.ext (hf _) rfl
    rw [e1, List.lookup_cons]
    cases hx : (x == n) with
    | true =>
      simp only [hx] at h ⊢
      cases h
      have : x = n := by simpa using hx
      subst this
      rfl
    | false =>
      simp only [hx] at h ⊢
      exact lookup_map f hf r x kd h
theorem relabel_ok (scope : Scope) (env : Env) : ScOk (relabel scope env) scope := by
  intro x kd h
  have e := lookup_map (fun (n, k) => if (k == .free && env.scope.kind == .function && env.kindOf n == some .cell) then (n, .cell) else (n, k)) (fun p => by obtain ⟨n, k⟩ := p; dsimp only; split <;> rfl) scope.names x kd h
  have e' : (relabel scope env).names.lookup x = some (if (kd == .free && env.scope.kind == .function && env.kindOf x == some .cell) = true then ((x, NameKind.cell) : Str × NameKind) else (x, kd)).2 := e
  by_cases hc : (kd == .free && env.scope.kind == .function && env.kindOf x == some .cell) = true
  · rw [if_pos hc] at e'
    simp only [Bool.and_eq_true] at hc
    exact .inr ⟨by simpa using hc.1.1, e'⟩
  · rw [if_neg hc] at e'
    exact .inl e'
theorem GX.blk (G : GX T cl k N sc X) {scope : Scope} (hk : scope.kind = .function) (s : Shared) (H : Hp) (C : Addr) (cl' : List (Str × Addr)) (fp : List Addr) : GX T cl k N scope (X.blk s H scope (compEnvC scope cl' C X.env) fp) where
  calm := G.calm
  xe := rfl
  hN := G.hN
  nd := G.nd
  kd := hk
  sco := relabel_ok scope X.env
  fn := fun x h => by
    show (scope.names.lookup x == some .cell) = true
    rw [h]; rfl
  room := G.room
  gd := G.gd
  gl := G.gl
  bn := G.bn
  fns := G.fns
theorem GX.blkOk (G : GX T cl k N sc X) {scope : Scope} {own : List (Str × Nat)} (h : blkC N sc scope own = true) : BlkOk X.N X.env.scope scope own := by
  have B := blkOk_by h
  rw [G.hN]
  refine ⟨B.kind, B.uniq, B.ix, fun y hy e => ?_, B.own⟩
  rcases B.free y hy e with z | z
  · rcases G.sco _ _ z with q | ⟨q, _⟩
    · exact .inl q
    · cases q
  · rcases G.sco _ _ z with q | ⟨_, q⟩
    · exact .inr q
    · exact .inl q
theorem notSet_marks {op : CmpOp} {r : Expr} (h : notSet r = true) : behindInMarks op r = false := by
  cases r <;> first | rfl | (simp [notSet] at h)
theorem notSet_fold {r : Expr} {env : Env} (h : notSet r = true) : ∀ x, foldedSetIterable r env x = pure x := by
  intro x
  cases r <;> first | rfl | (simp [notSet] at h)
theorem notSlice_ix {r : Expr} (h : notSlice r = true) : PlainIx r := by
  intro o i
  cases r <;> first | rfl | (simp [notSlice] at h)
theorem notStar_each {x : Expr} {xs : List Expr} {env : Env} (h : notStar x = true) : starEach (x :: xs) env = (false, eval x env) :: starEach xs env := by
  cases x <;> first | rfl | (simp [notStar] at h)
theorem noStars {pos : Pos} {env : Env} : ∀ {xs : List Expr}, xs.all notStar = true → (backTo pos (starEach xs env)).any (·.1) = false
  | [], _ => rfl
  | x :: xs, h => by
    simp only [List.all_cons, Bool.and_eq_true] at h
    rw [notStar_each h.1]
    show (false || (backTo pos (starEach xs env)).any (·.1)) = false
    rw [noStars h.2]; rfl
theorem noStars2 {pos : Pos} {env : Env} : ∀ {xs : List Expr}, xs.all notStar = true → (backTo pos (starEach xs env)).all (fun x => !x.1) = true
  | [], _ => rfl
  | x :: xs, h => by
    simp only [List.all_cons, Bool.and_eq_true] at h
    rw [notStar_each h.1]
    show (!false && (backTo pos (starEach xs env)).all (fun x => !x.1)) = true
    rw [noStars2 h.2]; rfl
theorem starEach_len {env : Env} : ∀ {xs : List Expr}, (starEach xs env).length = xs.length
  | [] => rfl
  | x :: xs => by
    cases x <;> simp [starEach, starEach_len (xs := xs)]
theorem chkA_star {e : Ex} : ∀ {xs : List Expr}, chkA T N sc e xs = true → xs.all notStar = true := by
  induction e with
  | nil => intro xs h; cases xs <;> simp [chkA] at h ⊢
  | cons a es _ ih =>
    intro xs h
    cases xs with
    | nil => simp [chkA] at h
    | cons x xs =>
      simp only [chkA, Bool.and_eq_true] at h
      simp only [List.all_cons, Bool.and_eq_true]
      exact ⟨h.1.1, ih h.2⟩
  | _ => intro xs h; simp [chkA] at h
theorem plain_true {x : Expr} {env : Env} (h : plainTest x = true) : ∀ whole, isTrue x env whole = (do let v ← whole; standAt x.pos; holding [v] (truthy v)) := by
  intro w
  cases x <;> first | rfl | (simp [plainTest] at h)
theorem tyTab_ok {x : Str} {t : String} (h : (x, t) ∈ tyTab) : bootBuiltins x = some (.type t) ∧ x ∈ BN ∧ x ≠ "__name__" := by
  have all : tyTab.all (fun p => decide (bootBuiltins p.1 = some (.type p.2)) && decide (p.1 ∈ BN) && decide (p.1 ≠ "__name__")) = true := by decide +kernel
  have q := List.all_eq_true.mp all _ h
  simp only [Bool.and_eq_true, decide_eq_true_eq] at q
  exact ⟨q.1.1, q.1.2, q.2⟩
theorem Bi.ok (f : Bi) : bootBuiltins f.name = some f.val ∧ f.name ∈ BN ∧ f.name ≠ "__name__" := by
  cases f <;> exact ⟨by decide +kernel, by decide +kernel, by decide +kernel⟩
theorem chkNs_ok (G : GX T cl k N sc X) : ∀ {is : List Nat} {es : List Expr}, chkNs N sc is es = true → PGs X es (gNs is) ∧ (assignEach es X.env).length = is.length ∧ List.findIdx? (fun x => x.fst) (assignEach es X.env) = none
  | [], [], _ => ⟨pgs_nil, rfl, rfl⟩
  | i :: is, .Name x p :: es, h => by
    simp only [chkNs, Bool.and_eq_true, decide_eq_true_eq] at h
    obtain ⟨h1, h2, h3⟩ := chkNs_ok G h.2
    obtain ⟨l1, l2⟩ := G.loc h.1.2
    refine ⟨pgs_cons (pg_name (i := i) (by rw [G.hN]; exact G.nd) (by rw [G.hN]; exact h.1.1) l1 l2) h1 rfl, ?_, ?_⟩
    · show (assignEach es X.env).length + 1 = _
      rw [h2]; rfl
    · show List.findIdx? (fun x => x.fst) ((false, assign (.Name x p) X.env) :: assignEach es X.env) = none
      rw [List.findIdx?_cons]
      simp [h3]
  | [], _ :: _, h => by simp [chkNs] at h
  | _ :: _, [], h => by simp [chkNs] at h
theorem chkTg_ok (G : GX T cl k N sc X) {tg : Tg} {t : Expr} (h : chkTg N sc tg t = true) : PG X t (gTg X.K tg) := by
  cases tg with
  | name i =>
    cases t <;> first | (simp [chkTg] at h; done) | skip
    simp only [chkTg, Bool.and_eq_true, decide_eq_true_eq] at h
    obtain ⟨l1, l2⟩ := G.loc h.2
    exact pg_name (by rw [G.hN]; exact G.nd) (by rw [G.hN]; exact h.1) l1 l2
  | tup is =>
    cases t <;> first | (simp [chkTg] at h; done) | skip
    simp only [chkTg] at h
    obtain ⟨h1, h2, h3⟩ := chkNs_ok G h
    exact pg_tup G.calm h1 h2 h3
def cmpB : Expr → Bool
  | .Compare _ _ _ _ => true
  | _ => false
structure POK (T : Tab) (cl : Nat → List Vl → AH → Option (Vl × AH)) (k : Nat) (N : List Str) (ex : Ex) : Prop where
  e : ∀ sc X, GX T cl k N sc X → ∀ x, chkE T N sc ex x = true → PE X x (rE X.K (evE T.gl cl ex))
  v : ∀ sc X, GX T cl k N sc X → ∀ x, chkE T N sc ex x = true → cmpB x = true → PT X x (rT X.K (vT (evE T.gl cl ex)))
  t : ∀ sc X, GX T cl k N sc X → ∀ x, chkT T N sc ex x = true → PT X x (rT X.K (evT T.gl cl ex))
  w : ∀ sc X, GX T cl k N sc X → ∀ o xs pos, chkT T N sc ex (.BoolOp o xs pos) = true → PW X (.BoolOp o xs pos) (rT X.K (evT T.gl cl ex))
  a : ∀ sc X, GX T cl k N sc X → ∀ xs, chkA T N sc ex xs = true → PA X xs (rA X.K (evA T.gl cl ex)) ∧ PA X xs (rB X.K (evB T.gl cl ex))
  o : ∀ sc X, GX T cl k N sc X → ∀ x, chkO T N sc ex x = true → PO X x (rO X.K (evO T.gl cl ex))
  i : ∀ sc X, GX T cl k N sc X → ∀ q tg x, chkI T N sc q ex x = true → PI X tg x (rI X.K q (evB T.gl cl ex))
/-- of one that is an expression alone -/
theorem POK.of {e : Ex} (h : ∀ sc X, GX T cl k N sc X → ∀ x, chkE T N sc e x = true → PE X x (rE X.K (evE T.gl cl e))) (hv : ∀ sc x, chkE T N sc e x = true → cmpB x = false) (ht : ∀ sc x, chkT T N sc e x = false) (ha : ∀ sc x, chkA T N sc e x = false) (ho : ∀ sc x, chkO T N sc e x = false)
    (hi : ∀ sc q x, chkI T N sc q e x = false) : POK T cl k N e where
  e := h
  v := fun sc X G x h1 h2 => by rw [hv sc x h1] at h2; cases h2
  t := fun sc X G x h1 => by rw [ht] at h1; cases h1
  w := fun sc X G o xs p h1 => by rw [ht] at h1; cases h1
  a := fun sc X G x h1 => by rw [ha] at h1; cases h1
  o := fun sc X G x h1 => by rw [ho] at h1; cases h1
  i := fun sc X G q tg x h1 => by rw [hi] at h1; cases h1
end
end FK

namespace FK
open PySem PySem.Spec PyProof.Rows L2
section
variable {T : Tab} {cl : Nat → List Vl → AH → Option (Vl × AH)} {k : Nat} {N : List Str} {sc : Scope} {X : Cx}
theorem nolast {op op' : CmpOp} {m r : Expr} (h : notSet r = true) : lastMarks [op, op'] [m, r] = false := notSet_marks h
theorem mem_range : ("range" : Str) ∈ BN := by decide +kernel
theorem pts_of (G : GX T cl k N sc X) {c : Ex} (hc : POK T cl k N c) {ifs : List Expr} (h : (match ifs with | [] => isNil c | [x] => chkT T N sc c x | _ => false) = true) : PTs X ifs (rT X.K (evT T.gl cl c)) := by
  match ifs, h with
  | [], h =>
    cases c <;> first | (simp [isNil] at h; done) | skip
    refine ⟨fun pins s σ H Q I ⟨ρ, e, ah, b, ah', hS, hH, hE, q⟩ => ?_⟩
    simp only [evT] at hE
    cases hE
    exact pts_nil.run pins s σ H Q I (q ρ H (Ext.refl _ _) hH)
  | [x], h => exact pts_one (hc.t sc X G x h)
theorem pok (e : Ex) : POK T cl k N e := by
  induction e with
  | var i =>
    refine .of (fun sc X G x h => ?_) (fun sc x h => ?_) (fun sc x => by simp [chkT]) (fun sc x => by simp [chkA]) (fun sc x => by simp [chkO]) (fun sc q x => by simp [chkI])
    · cases x <;> first | (simp [chkE] at h; done) | skip
      simp only [chkE, Bool.and_eq_true, decide_eq_true_eq] at h
      obtain ⟨h1, h2, h3⟩ := G.vis h.2
      exact ok_var (pe_var (by rw [G.hN]; exact h.1) h1 h2 h3)
    · cases x <;> first | rfl | (simp [chkE] at h; done)
  | cst v =>
    refine .of (fun sc X G x h => ?_) (fun sc x h => ?_) (fun sc x => by simp [chkT]) (fun sc x => by simp [chkA]) (fun sc x => by simp [chkO]) (fun sc q x => by simp [chkI])
    · cases x <;> first | (simp [chkE] at h; done) | skip
      rename_i c _ _
      simp only [chkE] at h
      cases v <;> cases c <;> first | (simp [cstOk] at h; done) | skip
      · exact pe_const (v := .non) (z := .non) pe_non (fun ρ H => by simp only [RepV]) _ fun e ah => by simp only [evE]
      · simp only [cstOk, beq_iff_eq] at h; subst h
        rename_i c0
        exact pe_const (v := .bl c0) (z := .bl c0) pe_bl (fun ρ H => by simp only [RepV]) _ fun e ah => by simp only [evE]
      · simp only [cstOk, decide_eq_true_eq] at h; subst h
        rename_i c0
        exact pe_const (v := .int c0) (z := .int c0) pe_int (fun ρ H => by simp only [RepV]) _ fun e ah => by simp only [evE]
      · simp only [cstOk, decide_eq_true_eq] at h; subst h
        rename_i c0
        exact pe_const (v := .str c0) (z := .str c0) pe_str (fun ρ H => by simp only [RepV]) _ fun e ah => by simp only [evE]
    · cases x <;> first | rfl | (simp [chkE] at h; done)
  | glob g =>
    refine .of (fun sc X G x h => ?_) (fun sc x h => ?_) (fun sc x => by simp [chkT]) (fun sc x => by simp [chkA]) (fun sc x => by simp [chkO]) (fun sc q x => by simp [chkI])
    · cases x <;> first | (simp [chkE] at h; done) | skip
      simp only [chkE, Bool.and_eq_true] at h
      obtain ⟨h1, h2⟩ := G.glob h.2
      have h3 := h.1
      split at h3
      · rename_i p hp
        simp only [decide_eq_true_eq] at h3
        subst h3
        obtain ⟨u, z, m1, m2, m3⟩ := G.gl g p hp
        exact pe_const (pe_glob h1 m1 m2 h2) m3 _ fun e ah => by simp only [evE, hp]
      · cases h3
    · cases x <;> first | rfl | (simp [chkE] at h; done)
  | bty t =>
    refine .of (fun sc X G x h => ?_) (fun sc x h => ?_) (fun sc x => by simp [chkT]) (fun sc x => by simp [chkA]) (fun sc x => by simp [chkO]) (fun sc q x => by simp [chkI])
    · cases x <;> first | (simp [chkE] at h; done) | skip
      simp only [chkE, Bool.and_eq_true, decide_eq_true_eq] at h
      obtain ⟨h1, h2⟩ := G.glob h.2
      obtain ⟨b1, b2, b3⟩ := tyTab_ok h.1
      exact pe_const (v := .ty t) (pe_bltn (v := .ty t) h1 (G.bn _ b2) b1 rfl b3 h2) (fun ρ H => by simp only [RepV]) _ fun e ah => by simp only [evE]
    · cases x <;> first | rfl | (simp [chkE] at h; done)
  | bin op a b iha ihb =>
    refine .of (fun sc X G x h => ?_) (fun sc x h => ?_) (fun sc x => by simp [chkT]) (fun sc x => by simp [chkA]) (fun sc x => by simp [chkO]) (fun sc q x => by simp [chkI])
    · cases x <;> first | (simp [chkE] at h; done) | skip
      simp only [chkE, Bool.and_eq_true, decide_eq_true_eq] at h
      obtain ⟨⟨rfl, h1⟩, h2⟩ := h
      exact ok_bin (iha.e sc X G _ h1) (ihb.e sc X G _ h2)
    · cases x <;> first | rfl | (simp [chkE] at h; done)
  | neg a iha =>
    refine .of (fun sc X G x h => ?_) (fun sc x h => ?_) (fun sc x => by simp [chkT]) (fun sc x => by simp [chkA]) (fun sc x => by simp [chkO]) (fun sc q x => by simp [chkI])
    · cases x <;> first | (simp [chkE] at h; done) | skip
      simp only [chkE, Bool.and_eq_true, decide_eq_true_eq] at h
      obtain ⟨rfl, h1⟩ := h
      exact ok_neg (iha.e sc X G _ h1)
    · cases x <;> first | rfl | (simp [chkE] at h; done)
  | cmp op a b iha ihb =>
    have inv : ∀ sc x, chkE T N sc (.cmp op a b) x = true → ∃ l r p, x = .Compare l [op] [r] p ∧ chkE T N sc a l = true ∧ chkE T N sc b r = true ∧ notSet r = true := fun sc x h => by
      cases x <;> first | (simp [chkE] at h; done) | skip
      rename_i l ops cs p
      rcases ops with _ | ⟨o, _ | ⟨o', ops⟩⟩ <;> rcases cs with _ | ⟨r, _ | ⟨r', cs⟩⟩ <;> first | (simp [chkE] at h; done) | skip
      simp only [chkE, Bool.and_eq_true, decide_eq_true_eq] at h
      obtain ⟨⟨⟨rfl, h1⟩, h2⟩, h3⟩ := h
      exact ⟨l, r, p, rfl, h1, h2, h3⟩
    refine { e := fun sc X G x h => ?_, v := fun sc X G x h _ => ?_, t := fun sc X G x h => by simp [chkT] at h, w := fun sc X G o xs p h => by simp [chkT] at h, a := fun sc X G x h => by simp [chkA] at h, o := fun sc X G x h => by simp [chkO] at h, i := fun sc X G q tg x h => by simp [chkI] at h }
    · obtain ⟨l, r, p, rfl, h1, h2, h3⟩ := inv sc x h
      exact ok_cmp G.hu (iha.e sc X G _ h1) (ihb.e sc X G _ h2) (notSet_marks h3)
    · obtain ⟨l, r, p, rfl, h1, h2, h3⟩ := inv sc x h
      exact okv_cmp G.hu (iha.e sc X G _ h1) (ihb.e sc X G _ h2) (notSet_marks h3)
  | chain op op2 a b c iha ihb ihc =>
    have inv : ∀ sc x, chkE T N sc (.chain op op2 a b c) x = true → ∃ l m r p, x = .Compare l [op, op2] [m, r] p ∧ chkE T N sc a l = true ∧ chkE T N sc b m = true ∧ chkE T N sc c r = true ∧ notSet r = true := fun sc x h => by
      cases x <;> first | (simp [chkE] at h; done) | skip
      rename_i l ops cs p
      rcases ops with _ | ⟨o, _ | ⟨o', _ | ⟨o'', ops⟩⟩⟩ <;> rcases cs with _ | ⟨r, _ | ⟨r', _ | ⟨r'', cs⟩⟩⟩ <;> first | (simp [chkE] at h; done) | skip
      simp only [chkE, Bool.and_eq_true, decide_eq_true_eq] at h
      obtain ⟨⟨⟨⟨⟨rfl, rfl⟩, h1⟩, h2⟩, h3⟩, h4⟩ := h
      exact ⟨l, _, _, p, rfl, h1, h2, h3, h4⟩
    refine { e := fun sc X G x h => ?_, v := fun sc X G x h _ => ?_, t := fun sc X G x h => by simp [chkT] at h, w := fun sc X G o xs p h => by simp [chkT] at h, a := fun sc X G x h => by simp [chkA] at h, o := fun sc X G x h => by simp [chkO] at h, i := fun sc X G q tg x h => by simp [chkI] at h }
    · obtain ⟨l, m, r, p, rfl, h1, h2, h3, h4⟩ := inv sc x h
      exact ok_chain G.hu (iha.e sc X G _ h1) (ihb.e sc X G _ h2) (ihc.e sc X G _ h3) (nolast h4)
    · obtain ⟨l, m, r, p, rfl, h1, h2, h3, h4⟩ := inv sc x h
      exact okv_chain G.hu (iha.e sc X G _ h1) (ihb.e sc X G _ h2) (ihc.e sc X G _ h3) (nolast h4)
  | and a b iha ihb =>
    have W : ∀ sc X, GX T cl k N sc X → ∀ o xs pos, chkT T N sc (.and a b) (.BoolOp o xs pos) = true → PW X (.BoolOp o xs pos) (rT X.K (evT T.gl cl (.and a b))) := fun sc X G o xs pos h => by
      rcases xs with _ | ⟨x, _ | ⟨y, rest⟩⟩ <;> first | (simp [chkT] at h; done) | skip
      simp only [chkT, Bool.and_eq_true, decide_eq_true_eq] at h
      obtain ⟨⟨rfl, h1⟩, h2⟩ := h
      cases rest with
      | nil => exact okt_and (iha.t sc X G _ h1) (pw_and1 (ihb.t sc X G _ h2))
      | cons z rest => exact okt_and (iha.t sc X G _ h1) (ihb.w sc X G _ _ _ h2)
    refine { e := fun sc X G x h => ?_, v := fun sc X G x h hc => ?_, t := fun sc X G x h => ?_, w := W, a := fun sc X G x h => by simp [chkA] at h, o := fun sc X G x h => by simp [chkO] at h, i := fun sc X G q tg x h => by simp [chkI] at h }
    · cases x <;> first | (simp [chkE] at h; done) | skip
      rename_i o xs pos
      rcases xs with _ | ⟨x, _ | ⟨y, rest⟩⟩ <;> first | (simp [chkE] at h; done) | skip
      simp only [chkE, Bool.and_eq_true, decide_eq_true_eq] at h
      obtain ⟨⟨rfl, h1⟩, h2⟩ := h
      cases rest with
      | nil => exact ok_and (iha.e sc X G _ h1) (pe_one (ihb.e sc X G _ h2))
      | cons z rest => exact ok_and (iha.e sc X G _ h1) (ihb.e sc X G _ h2)
    · cases x <;> first | (simp [chkE] at h; done) | (simp [cmpB] at hc; done)
    · cases x <;> first | (simp [chkT] at h; done) | skip
      exact (W sc X G _ _ _ h).pt
  | or a b iha ihb =>
    have W : ∀ sc X, GX T cl k N sc X → ∀ o xs pos, chkT T N sc (.or a b) (.BoolOp o xs pos) = true → PW X (.BoolOp o xs pos) (rT X.K (evT T.gl cl (.or a b))) := fun sc X G o xs pos h => by
      rcases xs with _ | ⟨x, _ | ⟨y, rest⟩⟩ <;> first | (simp [chkT] at h; done) | skip
      simp only [chkT, Bool.and_eq_true, decide_eq_true_eq] at h
      obtain ⟨⟨rfl, h1⟩, h2⟩ := h
      cases rest with
      | nil => exact okt_or (iha.t sc X G _ h1) (pw_or1 (ihb.t sc X G _ h2))
      | cons z rest => exact okt_or (iha.t sc X G _ h1) (ihb.w sc X G _ _ _ h2)
    refine { e := fun sc X G x h => ?_, v := fun sc X G x h hc => ?_, t := fun sc X G x h => ?_, w := W, a := fun sc X G x h => by simp [chkA] at h, o := fun sc X G x h => by simp [chkO] at h, i := fun sc X G q tg x h => by simp [chkI] at h }
    · cases x <;> first | (simp [chkE] at h; done) | skip
      rename_i o xs pos
      rcases xs with _ | ⟨x, _ | ⟨y, rest⟩⟩ <;> first | (simp [chkE] at h; done) | skip
      simp only [chkE, Bool.and_eq_true, decide_eq_true_eq] at h
      obtain ⟨⟨rfl, h1⟩, h2⟩ := h
      cases rest with
      | nil => exact ok_or (iha.e sc X G _ h1) (pe_one (ihb.e sc X G _ h2))
      | cons z rest => exact ok_or (iha.e sc X G _ h1) (ihb.e sc X G _ h2)
    · cases x <;> first | (simp [chkE] at h; done) | (simp [cmpB] at hc; done)
    · cases x <;> first | (simp [chkT] at h; done) | skip
      exact (W sc X G _ _ _ h).pt
  | not a iha =>
    refine { e := fun sc X G x h => ?_, v := fun sc X G x h hc => ?_, t := fun sc X G x h => ?_, w := fun sc X G o xs p h => by simp [chkT] at h, a := fun sc X G x h => by simp [chkA] at h, o := fun sc X G x h => by simp [chkO] at h, i := fun sc X G q tg x h => by simp [chkI] at h }
    · cases x <;> first | (simp [chkE] at h; done) | skip
      simp only [chkE, Bool.and_eq_true, decide_eq_true_eq] at h
      obtain ⟨rfl, h1⟩ := h
      exact ok_not (iha.e sc X G _ h1)
    · cases x <;> first | (simp [chkE] at h; done) | (simp [cmpB] at hc; done)
    · cases x <;> first | (simp [chkT] at h; done) | skip
      simp only [chkT, Bool.and_eq_true, decide_eq_true_eq] at h
      obtain ⟨rfl, h1⟩ := h
      exact okt_not (iha.t sc X G _ h1)
  | val a iha =>
    refine { e := fun sc X G x h => by simp [chkE] at h, v := fun sc X G x h hc => by simp [chkE] at h, t := fun sc X G x h => ?_, w := fun sc X G o xs p h => ?_, a := fun sc X G x h => by simp [chkA] at h, o := fun sc X G x h => by simp [chkO] at h, i := fun sc X G q tg x h => by simp [chkI] at h }
    · simp only [chkT, Bool.and_eq_true, Bool.or_eq_true] at h
      obtain ⟨h1, h2⟩ := h
      rcases h2 with h2 | h2
      · exact okt_val (okv_of (iha.e sc X G _ h1) (plain_true h2))
      · exact okt_val (iha.v sc X G _ h1 (by cases x <;> first | rfl | (cases h2)))
    · simp [chkT, plainTest] at h
  | ite c a b ihc iha ihb =>
    refine .of (fun sc X G x h => ?_) (fun sc x h => ?_) (fun sc x => by simp [chkT]) (fun sc x => by simp [chkA]) (fun sc x => by simp [chkO]) (fun sc q x => by simp [chkI])
    · cases x <;> first | (simp [chkE] at h; done) | skip
      simp only [chkE, Bool.and_eq_true] at h
      obtain ⟨⟨h1, h2⟩, h3⟩ := h
      exact ok_ite (ihc.t sc X G _ h1) (iha.e sc X G _ h2) (ihb.e sc X G _ h3)
    · cases x <;> first | rfl | (simp [chkE] at h; done)
  | lst es ihe =>
    refine .of (fun sc X G x h => ?_) (fun sc x h => ?_) (fun sc x => by simp [chkT]) (fun sc x => by simp [chkA]) (fun sc x => by simp [chkO]) (fun sc q x => by simp [chkI])
    · cases x <;> first | (simp [chkE] at h; done) | skip
      simp only [chkE] at h
      exact ok_lst (ihe.a sc X G _ h).1
    · cases x <;> first | rfl | (simp [chkE] at h; done)
  | tup es ihe =>
    refine .of (fun sc X G x h => ?_) (fun sc x h => ?_) (fun sc x => by simp [chkT]) (fun sc x => by simp [chkA]) (fun sc x => by simp [chkO]) (fun sc q x => by simp [chkI])
    · cases x <;> first | (simp [chkE] at h; done) | skip
      simp only [chkE] at h
      exact ok_tup (ihe.a sc X G _ h).1
    · cases x <;> first | rfl | (simp [chkE] at h; done)
  | ix a b iha ihb =>
    refine .of (fun sc X G x h => ?_) (fun sc x h => ?_) (fun sc x => by simp [chkT]) (fun sc x => by simp [chkA]) (fun sc x => by simp [chkO]) (fun sc q x => by simp [chkI])
    · cases x <;> first | (simp [chkE] at h; done) | skip
      rename_i vx sx px
      simp only [chkE, Bool.and_eq_true] at h
      obtain ⟨⟨h1, h2⟩, h3⟩ := h
      exact ok_ix (iha.e sc X G _ h1) (ihb.e sc X G _ h2) (notSlice_ix h3)
    · cases x <;> first | rfl | (simp [chkE] at h; done)
  | sl a lo hi iha ihl ihh =>
    refine .of (fun sc X G x h => ?_) (fun sc x h => ?_) (fun sc x => by simp [chkT]) (fun sc x => by simp [chkA]) (fun sc x => by simp [chkO]) (fun sc q x => by simp [chkI])
    · cases x <;> first | (simp [chkE] at h; done) | skip
      rename_i vx sx px
      cases sx <;> first | (simp [chkE] at h; done) | skip
      rename_i l u st sp
      cases st <;> first | (simp [chkE] at h; done) | skip
      simp only [chkE, Bool.and_eq_true] at h
      obtain ⟨⟨h1, h2⟩, h3⟩ := h
      exact ok_sl (iha.e sc X G _ h1) (ihl.o sc X G _ h2) (ihh.o sc X G _ h3)
    · cases x <;> first | rfl | (simp [chkE] at h; done)
  | lc q it tg own c m ihi ihc ihm =>
    refine .of (fun sc X G x h => ?_) (fun sc x h => ?_) (fun sc x => by simp [chkT]) (fun sc x => by simp [chkA]) (fun sc x => by simp [chkO]) (fun sc q x => by simp [chkI])
    · cases x <;> first | (simp [chkE] at h; done) | skip
      rename_i elt gs scope pos
      rcases gs with _ | ⟨⟨t, i, ifs, z⟩, _ | ⟨g', gs⟩⟩ <;> first | (simp [chkE] at h; done) | skip
      simp only [chkE, Bool.and_eq_true, decide_eq_true_eq] at h
      obtain ⟨⟨⟨⟨⟨⟨⟨rfl, h1⟩, h2⟩, h3⟩, h4⟩, h5⟩, h6⟩, h7⟩ := h
      have hk : scope.kind = .function := (blkOk_by h6).kind
      have eo : (ownN N own).map (·.2) = own := by simp [ownN, Function.comp_def]
      refine PE.imp (pe_lc (own := ownN N own) (g := gTg X.K tg) (tt := rT X.K (evT T.gl cl c)) (te := rE X.K (evE T.gl cl m)) G.calm (by rw [G.hN]; exact G.nd) (ihi.i sc X G q t i h1) (G.blkOk h6) (fun s H C cl' fp => chkTg_ok (G.blk hk s H C cl' fp) h3) (fun s H C cl' fp => pts_of (G.blk hk s H C cl' fp) ihc h4) (fun s H C cl' fp => ihm.e scope _ (G.blk hk s H C cl' fp) _ h5) (notSet_fold h2)) fun σ H Q hq => ?_
      rw [eo]
      exact lc_rd (fun j hj => by simpa using List.all_eq_true.mp h7 j hj) hq
    · cases x <;> first | rfl | (simp [chkE] at h; done)
  | call f es ihe =>
    refine .of (fun sc X G x h => ?_) (fun sc x h => ?_) (fun sc x => by simp [chkT]) (fun sc x => by simp [chkA]) (fun sc x => by simp [chkO]) (fun sc q x => by simp [chkI])
    · cases x <;> first | (simp [chkE] at h; done) | skip
      rename_i fx args kws pos
      cases fx <;> first | (simp [chkE] at h; done) | skip
      cases kws <;> first | (simp [chkE] at h; done) | skip
      simp only [chkE, Bool.and_eq_true, decide_eq_true_eq] at h
      obtain ⟨⟨h1, h2⟩, h3⟩ := h
      obtain ⟨g1, g2⟩ := G.glob h2
      obtain ⟨fa, fd, ps, m1, m2, m3, m4⟩ := G.fns f _ h1
      have hA := (ihe.a sc X G _ h3).1
      cases args with
      | nil =>
        refine PE.imp (m4.call0 G.room G.gd g1 m1 m2 m3 g2) fun σ H Q hq => ?_
        have h4 := call_rd hq
        cases es <;> first | (simp [chkA] at h3; done) | skip
        obtain ⟨ρ, e, ah, vs, ah', hS, hH, hE, q⟩ := h4
        simp only [evA] at hE
        cases hE
        exact q ρ H [] (Ext.refl _ _) hH (by simp only [RepVs])
      | cons y ys =>
        have hst := chkA_star h3
        simp only [List.all_cons, Bool.and_eq_true] at hst
        exact PE.imp (m4.call G.room G.gd g1 m1 m2 m3 hA g2 (notStar_each hst.1) (noStars hst.2)) fun σ H Q hq => call_rd hq
    · cases x <;> first | rfl | (simp [chkE] at h; done)
  | bi f es ihe =>
    refine .of (fun sc X G x h => ?_) (fun sc x h => ?_) (fun sc x => by simp [chkT]) (fun sc x => by simp [chkA]) (fun sc x => by simp [chkO]) (fun sc q x => by simp [chkI])
    · cases x <;> first | (simp [chkE] at h; done) | skip
      rename_i fx args kws pos
      cases fx <;> first | (simp [chkE] at h; done) | skip
      cases kws <;> first | (simp [chkE] at h; done) | skip
      cases args <;> first | (simp [chkE] at h; done) | skip
      simp only [chkE, Bool.and_eq_true, decide_eq_true_eq] at h
      obtain ⟨⟨rfl, h2⟩, h3⟩ := h
      obtain ⟨g1, g2⟩ := G.glob h2
      obtain ⟨b1, b2, b3⟩ := Bi.ok f
      have hA := (ihe.a sc X G _ h3).2
      have hst := chkA_star h3
      simp only [List.all_cons, Bool.and_eq_true] at hst
      have hc := bi_ok (X := X) G.gd G.hu2 G.calm f
      have e1 := notStar_each (xs := by assumption) (env := X.env) hst.1
      cases f <;> first
        | exact PE.imp (pe_callB hc g1 (G.bn _ b2) b1 hA b3 g2 (notStar_each hst.1) (noStars hst.2)) fun σ H Q hq => bi_rd hq
        | exact PE.imp (pe_callTy hc g1 (G.bn _ b2) b1 hA b3 g2 (notStar_each hst.1) (noStars hst.2)) fun σ H Q hq => bi_rd hq
    · cases x <;> first | rfl | (simp [chkE] at h; done)
  | me m o es iho ihe =>
    refine .of (fun sc X G x h => ?_) (fun sc x h => ?_) (fun sc x => by simp [chkT]) (fun sc x => by simp [chkA]) (fun sc x => by simp [chkO]) (fun sc q x => by simp [chkI])
    · cases x <;> first | (simp [chkE] at h; done) | skip
      rename_i fx args kws pos
      cases fx <;> first | (simp [chkE] at h; done) | skip
      rename_i ob nm apos
      cases kws <;> first | (simp [chkE] at h; done) | skip
      simp only [chkE, Bool.and_eq_true, decide_eq_true_eq] at h
      obtain ⟨⟨⟨⟨⟨rfl, h1⟩, h2⟩, h3⟩, h4⟩, h5⟩ := h
      have hO := iho.e sc X G _ h1
      have hA := (ihe.a sc X G _ h2).1
      have hb : attributeBase ob m.name X.env (eval ob X.env) = eval ob X.env := by cases ob <;> first | rfl | (simp [notCall] at h4; done)
      cases args with
      | nil =>
        cases es <;> first | (simp [chkA] at h2; done) | skip
        have hm := me_ok (X := X) m
        cases m <;> first
          | exact PE.imp (pe_bm0 PySem.F.plainAttrs_list PySem.F.slot_list_append PySem.F.type_list_append hm hO hb h3) fun σ H Q hq => me0_rd hq
          | exact PE.imp (pe_bm0 PySem.F.plainAttrs_list PySem.F.slot_list_extend PySem.F.type_list_extend hm hO hb h3) fun σ H Q hq => me0_rd hq
          | exact PE.imp (pe_bm0 PySem.F.plainAttrs_list PySem.F.slot_list_pop PySem.F.type_list_pop hm hO hb h3) fun σ H Q hq => me0_rd hq
          | exact PE.imp (pe_bm0 PySem.F.plainAttrs_list PySem.F.slot_list_reverse PySem.F.type_list_reverse hm hO hb h3) fun σ H Q hq => me0_rd hq
          | exact PE.imp (pe_bm0 PySem.F.plainAttrs_list PySem.F.slot_list_clear PySem.F.type_list_clear hm hO hb h3) fun σ H Q hq => me0_rd hq
          | exact PE.imp (pe_bm0 PySem.F.plainAttrs_str PySem.F.slot_str_join PySem.F.type_str_join hm hO hb h3) fun σ H Q hq => me0_rd hq
      | cons y ys =>
        have hst := chkA_star h2
        have hfew : ((backTo pos (starEach (y :: ys) X.env)).all (fun x => !x.1) && (backToKw pos (keywordEach [] X.env)).all (fun x => x.1.isSome) && decide ((y :: ys).length + ([] : List Keyword).length + (if ([] : List Keyword).isEmpty then 0 else 1) < 30)) = true := by
          rw [noStars2 hst]
          simpa [backToKw, keywordEach] using h5
        simp only [List.all_cons, Bool.and_eq_true] at hst
        have hm := me_ok (X := X) m
        cases m <;> first
          | exact PE.imp (pe_bm PySem.F.plainAttrs_list PySem.F.slot_list_append PySem.F.type_list_append hm hO hA hb hfew h3 (notStar_each hst.1) (noStars hst.2)) fun σ H Q hq => me_rd hq
          | exact PE.imp (pe_bm PySem.F.plainAttrs_list PySem.F.slot_list_extend PySem.F.type_list_extend hm hO hA hb hfew h3 (notStar_each hst.1) (noStars hst.2)) fun σ H Q hq => me_rd hq
          | exact PE.imp (pe_bm PySem.F.plainAttrs_list PySem.F.slot_list_pop PySem.F.type_list_pop hm hO hA hb hfew h3 (notStar_each hst.1) (noStars hst.2)) fun σ H Q hq => me_rd hq
          | exact PE.imp (pe_bm PySem.F.plainAttrs_list PySem.F.slot_list_reverse PySem.F.type_list_reverse hm hO hA hb hfew h3 (notStar_each hst.1) (noStars hst.2)) fun σ H Q hq => me_rd hq
          | exact PE.imp (pe_bm PySem.F.plainAttrs_list PySem.F.slot_list_clear PySem.F.type_list_clear hm hO hA hb hfew h3 (notStar_each hst.1) (noStars hst.2)) fun σ H Q hq => me_rd hq
          | exact PE.imp (pe_bm PySem.F.plainAttrs_str PySem.F.slot_str_join PySem.F.type_str_join hm hO hA hb hfew h3 (notStar_each hst.1) (noStars hst.2)) fun σ H Q hq => me_rd hq
    · cases x <;> first | rfl | (simp [chkE] at h; done)
  | nil =>
    refine { e := fun sc X G x h => by simp [chkE] at h, v := fun sc X G x h hc => by simp [chkE] at h, t := fun sc X G x h => by simp [chkT] at h, w := fun sc X G o xs p h => by simp [chkT] at h, a := fun sc X G x h => ?_, o := fun sc X G x h => ?_, i := fun sc X G q tg x h => by simp [chkI] at h }
    · cases x <;> first | (simp [chkA] at h; done) | exact ⟨oka_nil, okb_nil⟩
    · cases x <;> first | (simp [chkO] at h; done) | exact oko_none
  | cons a es iha ihe =>
    refine { e := fun sc X G x h => by simp [chkE] at h, v := fun sc X G x h hc => by simp [chkE] at h, t := fun sc X G x h => by simp [chkT] at h, w := fun sc X G o xs p h => by simp [chkT] at h, a := fun sc X G x h => ?_, o := fun sc X G x h => ?_, i := fun sc X G q tg x h => ?_ }
    · cases x with
      | nil => simp [chkA] at h
      | cons y ys =>
        simp only [chkA, Bool.and_eq_true] at h
        obtain ⟨⟨h1, h2⟩, h3⟩ := h
        obtain ⟨g1, g2⟩ := ihe.a sc X G _ h3
        exact ⟨oka_cons (iha.e sc X G _ h2) g1 (notStar_each h1), okb_cons (iha.e sc X G _ h2) g2 (notStar_each h1)⟩
    · cases x with
      | none => simp [chkO] at h
      | some y =>
        simp only [chkO] at h
        exact oko_some (iha.e sc X G _ h)
    · simp only [chkI] at h
      cases q <;> first | (simp at h; done) | skip
      · simp only [Bool.and_eq_true] at h
        obtain ⟨h1, h2⟩ := h
        cases es <;> first | (simp [isNil] at h1; done) | skip
        exact oki_seq (iha.e sc X G _ h2)
      · simp only at h
        cases x <;> first | (simp at h; done) | skip
        rename_i fx args kws pos
        cases fx <;> first | (simp at h; done) | skip
        cases kws <;> first | (simp at h; done) | skip
        rcases args with _ | ⟨y, ys⟩ <;> first | (simp at h; done) | skip
        simp only [Bool.and_eq_true, decide_eq_true_eq] at h
        obtain ⟨⟨⟨⟨⟨rfl, h1⟩, h2⟩, h3⟩, h4⟩, h5⟩ := h
        obtain ⟨g1, g2⟩ := G.glob h1
        have hm := G.bn _ mem_range
        have hE := iha.e sc X G _ h3
        have hA := (ihe.a sc X G _ h4).2
        rcases ys with _ | ⟨y', _ | ⟨y'', ys⟩⟩
        · cases es <;> first | (simp [chkA] at h4; done) | skip
          exact oki_rng1 g1 hm (okb_cons hE okb_nil (notStar_each h2)) (notStar_each h2)
        · cases es <;> first | (simp [chkA] at h4; done) | skip
          rename_i b es
          simp only [chkA, Bool.and_eq_true] at h4
          obtain ⟨⟨h41, h42⟩, h43⟩ := h4
          cases es <;> first | (simp [chkA] at h43; done) | skip
          exact oki_rng2 g1 hm (okb_cons hE hA (notStar_each h2)) ((notStar_each h2).trans (by rw [notStar_each h41]; rfl)) (notStar_each h41)
        · simp at h5
end
end FK

namespace FK
open PySem PySem.Spec PyProof.Rows L2
def notComp : Expr → Bool
  | .ListComp _ _ _ _ => false
  | .SetComp _ _ _ _ => false
  | .DictComp _ _ _ _ _ => false
  | _ => true
def notTup : Expr → Bool
  | .Tuple _ _ _ => false
  | _ => true
/-- parts of a statement -/
def sole : Stmt → Option (Expr × Expr)
  | .Assign ts v _ => match ts with
    | t :: r => match r with
      | [] => some (t, v)
      | _ :: _ => none
    | [] => none
  | _ => none
theorem sole_ok {st : Stmt} {t v : Expr} (h : sole st = some (t, v)) : ∃ pos, st = .Assign [t] v pos := by
  cases st <;> first | (simp [sole] at h; done) | skip
  rename_i ts v' pos
  rcases ts with _ | ⟨t', _ | ⟨t'', ts⟩⟩
  · simp [sole] at h
  · simp only [sole, Option.some.injEq, Prod.mk.injEq] at h
    obtain ⟨rfl, rfl⟩ := h
    exact ⟨pos, rfl⟩
  · simp [sole] at h
def nameOf : Expr → Option Str
  | .Name x _ => some x
  | _ => none
theorem nameOf_ok {e : Expr} {x : Str} (h : nameOf e = some x) : ∃ p, e = .Name x p := by
  cases e <;> first | (simp [nameOf] at h; done) | skip
  simp only [nameOf, Option.some.injEq] at h
  subst h
  exact ⟨_, rfl⟩
def isEmpty' : List Stmt → Bool
  | [] => true
  | _ :: _ => false
section
variable (T : Tab) (N : List Str)
mutual
def chkS (sc : Scope) : Sx → Stmt → Bool
  | .set i e, st => match sole st with
    | some (t, v) => match nameOf t with
      | some x => decide (N[i]? = some x) && isLoc sc x && chkE T N sc e v
      | none => false
    | none => false
  | .setT is e, st => match sole st with
    | some (.Tuple es _ _, v) => chkNs N sc is es && chkE T N sc e v && notTup v && notComp v
    | _ => false
  | .setIx o i e, st => match sole st with
    | some (.Subscript ob ix _, v) => chkE T N sc o ob && chkE T N sc i ix && notSlice ix && chkE T N sc e v
    | _ => false
  | .aug i op e, st => match st with
    | .AugAssign t o v _ => match nameOf t with
      | some x => decide (op = o) && (decide (o = .Add) || decide (o = .Sub)) && decide (N[i]? = some x) && isLoc sc x && chkE T N sc e v
      | none => false
    | _ => false
  | .ifs c a b, st => match st with
    | .If t as bs _ => chkT T N sc c t && chkSs sc a as && chkSs sc b bs
    | _ => false
  | .for_ q it tg b, st => match st with
    | .For t i body els _ => isEmpty' els && chkI T N sc q it i && notSet i && chkTg N sc tg t && chkSs sc b body
    | _ => false
  | .whl c b, st => match st with
    | .While t body els _ => isEmpty' els && chkT T N sc c t && chkSs sc b body
    | _ => false
  | .ret e, st => match st with
    | .Return v _ => match v with
      | some v => chkE T N sc e v
      | none => false
    | _ => false
  | .retN, st => match st with
    | .Return v _ => match v with
      | some _ => false
      | none => true
    | _ => false
  | .expr e, st => match st with
    | .Expr v _ => chkE T N sc e v && notComp v
    | _ => false
  | .pass, st => match st with
    | .Pass _ => true
    | _ => false
  | .brk, st => match st with
    | .Break _ => true
    | _ => false
  | .fail, _ => true
  | .nil, _ => false
  | .seq _ _, _ => false
  | .cont, _ => false
def chkSs (sc : Scope) : Sx → List Stmt → Bool
  | .nil, sts => isEmpty' sts
  | .seq s r, sts => match sts with
    | st :: sts => chkS sc s st && chkSs sc r sts
    | [] => false
  | _, _ => false
end
end
section
variable {T : Tab} {cl : Nat → List Vl → AH → Option (Vl × AH)} {k fu : Nat} {N : List Str} {sc : Scope} {X : Cx}
theorem noswap {v : Expr} {t : Option Expr} {l : Nat} {env : Env} (h : notComp v = true) : swapsWith v t l env = pure false := by
  cases v <;> first | rfl | (simp [notComp] at h; done)
theorem swap_lc {elt : Expr} {gs : List Comprehension} {scope : Scope} {pos py : Pos} {y : Str} {l : Nat} {env : Env} : swapsWith (.ListComp elt gs scope pos) (some (.Name y py)) l env = pure (env.blockKind == .function && env.kindOf y == some .local && py.line == pos.line
      && !(scope.names.any fun (n, k) => n == y && (k == .local || k == .cell))) := rfl
structure SOK (T : Tab) (cl : Nat → List Vl → AH → Option (Vl × AH)) (k fu : Nat) (N : List Str) (sx : Sx) : Prop where
  s : ∀ sc X, GX T cl k N sc X → ∀ st, chkS T N sc sx st = true → PS X st (rS X.K (evS T.gl cl fu sx))
  l : ∀ sc X, GX T cl k N sc X → ∀ sts, chkSs T N sc sx sts = true → PSs X sts (rS X.K (evS T.gl cl fu sx))
theorem set_ok (G : GX T cl k N sc X) {i : Nat} {x : Str} {e : Ex} {v : Expr} {px pos : Pos} (h : (N[i]? = some x ∧ isLoc sc x = true) ∧ chkE T N sc e v = true) : PS X (.Assign [.Name x px] v pos) (rS X.K (evS T.gl cl fu (.set i e))) := by
  obtain ⟨⟨h1, h2⟩, h3⟩ := h
  obtain ⟨l1, l2⟩ := G.loc h2
  have hE := (pok (T := T) (cl := cl) (k := k) (N := N) e).e sc X G _ h3
  have hnd : X.N.Nodup := by rw [G.hN]; exact G.nd
  have hx : X.N[i]? = some x := by rw [G.hN]; exact h1
  by_cases hc : notComp v = true
  · exact oks_set hnd hx l1 hE (noswap hc) l2
  · cases v <;> first | (exact absurd rfl hc) | skip
    · rename_i elt gs scope p
      by_cases hb : (X.env.blockKind == .function && X.env.kindOf x == some .local && px.line == p.line && !(scope.names.any fun (n, k) => n == x && (k == .local || k == .cell))) = true
      · have hw : swapsWith (.ListComp elt gs scope p) (some (.Name x px)) pos.line X.env = pure true := by rw [swap_lc, hb]
        simp only [Bool.and_eq_true] at hb
        have hyl : X.env.scope.names.lookup x = some .local := by have q := hb.1.1.2; simp only [beq_iff_eq] at q; exact q
        cases e <;> first | (simp [chkE] at h3; done) | skip
        rename_i q it tg own c m
        rcases gs with _ | ⟨⟨t, i', ifs, z⟩, _ | ⟨g', gs⟩⟩ <;> first | (simp [chkE] at h3; done) | skip
        simp only [chkE, Bool.and_eq_true, decide_eq_true_eq] at h3
        obtain ⟨⟨⟨⟨⟨⟨⟨rfl, g1⟩, g2⟩, g3⟩, g4⟩, g5⟩, g6⟩, g7⟩ := h3
        have hk : scope.kind = .function := (blkOk_by g6).kind
        have eo : (ownN N own).map (·.2) = own := by simp [ownN, Function.comp_def]
        have R := oks_setLc (fu := fu) (gl := T.gl) (cl := cl) (own := ownN N own) (tg := tg) (C := c) (A := m) (Es := it) (k := q) G.calm hnd hx hyl hw ((pok it).i sc X G q t i' g1) (G.blkOk g6) (fun s H C cl' fp => chkTg_ok (G.blk hk s H C cl' fp) g3)
          (fun s H C cl' fp => pts_of (G.blk hk s H C cl' fp) (pok c) g4) (fun s H C cl' fp => (pok m).e scope _ (G.blk hk s H C cl' fp) _ g5) (notSet_fold g2) (fun j hj => by rw [eo]; simpa using List.all_eq_true.mp g7 j hj)
        rw [eo] at R
        exact R
      · have hw : swapsWith (.ListComp elt gs scope p) (some (.Name x px)) pos.line X.env = pure false := by rw [swap_lc, Bool.eq_false_iff.mpr hb]
        exact oks_set hnd hx l1 hE hw l2
    · cases e <;> simp [chkE] at h3
    · cases e <;> simp [chkE] at h3
theorem sok (s : Sx) : SOK T cl k fu N s := by
  induction s with
  | nil =>
    refine ⟨fun sc X G st h => by simp [chkS] at h, fun sc X G sts h => ?_⟩
    cases sts <;> first | (simp [chkSs, isEmpty'] at h; done) | exact oks_nil
  | seq s r ih1 ih2 =>
    refine ⟨fun sc X G st h => by simp [chkS] at h, fun sc X G sts h => ?_⟩
    cases sts <;> first | (simp [chkSs] at h; done) | skip
    simp only [chkSs, Bool.and_eq_true] at h
    exact oks_cons (ih1.s sc X G _ h.1) (ih2.l sc X G _ h.2)
  | set i e =>
    refine ⟨fun sc X G st h => ?_, fun sc X G sts h => by simp [chkSs] at h⟩
    simp only [chkS] at h
    split at h
    · rename_i t v hs
      obtain ⟨pos, rfl⟩ := sole_ok hs
      split at h
      · rename_i x hx
        obtain ⟨px, rfl⟩ := nameOf_ok hx
        simp only [Bool.and_eq_true, decide_eq_true_eq] at h
        exact set_ok G h
      · cases h
    · cases h
  | setT is e =>
    refine ⟨fun sc X G st h => ?_, fun sc X G sts h => by simp [chkSs] at h⟩
    simp only [chkS] at h
    split at h
    · rename_i es kk p v hs
      obtain ⟨pos, rfl⟩ := sole_ok hs
      simp only [Bool.and_eq_true] at h
      obtain ⟨⟨⟨h1, h2⟩, h3⟩, h4⟩ := h
      refine oks_setT ((pok e).e sc X G _ h2) (chkTg_ok (tg := .tup is) G h1) (by exact noswap (t := some (.Tuple es kk p)) (l := pos.line) (env := X.env) h4) ?_ rfl
      cases v <;> first | rfl | (simp [notTup] at h3; done)
    · cases h
  | setIx o i e =>
    refine ⟨fun sc X G st h => ?_, fun sc X G sts h => by simp [chkSs] at h⟩
    simp only [chkS] at h
    split at h
    · rename_i ob ix p2 v hs
      obtain ⟨pos, rfl⟩ := sole_ok hs
      simp only [Bool.and_eq_true] at h
      obtain ⟨⟨⟨h1, h2⟩, h3⟩, h4⟩ := h
      refine oks_setIx ((pok o).e sc X G _ h1) ((pok i).e sc X G _ h2) ((pok e).e sc X G _ h4) ?_ ?_ ?_ rfl
      · intro v
        cases ix <;> first | rfl | (simp [notSlice] at h3; done)
      · cases v <;> rfl
      · cases v <;> rfl
    · cases h
  | aug i op e =>
    refine ⟨fun sc X G st h => ?_, fun sc X G sts h => by simp [chkSs] at h⟩
    simp only [chkS] at h
    split at h
    · split at h
      · rename_i x hx
        obtain ⟨px, rfl⟩ := nameOf_ok hx
        simp only [Bool.and_eq_true, Bool.or_eq_true, decide_eq_true_eq] at h
        obtain ⟨⟨⟨⟨rfl, h1⟩, h2⟩, h3⟩, h4⟩ := h
        obtain ⟨l1, l2⟩ := G.loc h3
        exact oks_aug (by rw [G.hN]; exact G.nd) (by rw [G.hN]; exact h2) l1 ((pok e).e sc X G _ h4) l2 h1
      · cases h
    · cases h
  | ifs c a b iha ihb =>
    refine ⟨fun sc X G st h => ?_, fun sc X G sts h => by simp [chkSs] at h⟩
    cases st <;> first | (simp [chkS] at h; done) | skip
    simp only [chkS, Bool.and_eq_true] at h
    obtain ⟨⟨h1, h2⟩, h3⟩ := h
    exact oks_if ((pok c).t sc X G _ h1) (iha.l sc X G _ h2) (ihb.l sc X G _ h3)
  | for_ q it tg b ihb =>
    refine ⟨fun sc X G st h => ?_, fun sc X G sts h => by simp [chkSs] at h⟩
    cases st <;> first | (simp [chkS] at h; done) | skip
    rename_i t i body els pos
    simp only [chkS, Bool.and_eq_true] at h
    obtain ⟨⟨⟨⟨h0, h1⟩, h2⟩, h3⟩, h4⟩ := h
    cases els <;> first | (simp [isEmpty'] at h0; done) | skip
    exact oks_for G.xe G.calm ((pok it).i sc X G q t i h1) (chkTg_ok G h3) (ihb.l sc X G _ h4) (notSet_fold h2)
  | whl c b ihb =>
    refine ⟨fun sc X G st h => ?_, fun sc X G sts h => by simp [chkSs] at h⟩
    cases st <;> first | (simp [chkS] at h; done) | skip
    rename_i t body els pos
    simp only [chkS, Bool.and_eq_true] at h
    obtain ⟨⟨h0, h1⟩, h2⟩ := h
    cases els <;> first | (simp [isEmpty'] at h0; done) | skip
    exact oks_whl G.xe ((pok c).t sc X G _ h1) (ihb.l sc X G _ h2)
  | ret e =>
    refine ⟨fun sc X G st h => ?_, fun sc X G sts h => by simp [chkSs] at h⟩
    cases st <;> first | (simp [chkS] at h; done) | skip
    rename_i v pos
    cases v <;> first | (simp [chkS] at h; done) | skip
    simp only [chkS] at h
    exact oks_ret ((pok e).e sc X G _ h)
  | retN =>
    refine ⟨fun sc X G st h => ?_, fun sc X G sts h => by simp [chkSs] at h⟩
    cases st <;> first | (simp [chkS] at h; done) | skip
    rename_i v pos
    cases v <;> first | (simp [chkS] at h; done) | skip
    exact oks_retN
  | expr e =>
    refine ⟨fun sc X G st h => ?_, fun sc X G sts h => by simp [chkSs] at h⟩
    cases st <;> first | (simp [chkS] at h; done) | skip
    simp only [chkS, Bool.and_eq_true] at h
    exact oks_expr ((pok e).e sc X G _ h.1) (noswap h.2)
  | pass =>
    refine ⟨fun sc X G st h => ?_, fun sc X G sts h => by simp [chkSs] at h⟩
    cases st <;> first | (simp [chkS] at h; done) | exact oks_pass
  | brk =>
    refine ⟨fun sc X G st h => ?_, fun sc X G sts h => by simp [chkSs] at h⟩
    cases st <;> first | (simp [chkS] at h; done) | exact oks_brk
  | cont => exact ⟨fun sc X G st h => by simp [chkS] at h, fun sc X G sts h => by simp [chkSs] at h⟩
  | fail => exact ⟨fun sc X G st h => oks_fail, fun sc X G sts h => by simp [chkSs] at h⟩
end
end FK

/-! ### the defs of a text -/
namespace FK
open PySem PySem.Spec PyProof.Rows L2
/-- a def: its name, its statement in the row, its names by slots, its parameters, its text in the small Python -/
structure En where
  x : Str
  st : Stmt
  N : List Str
  ps : List Str
  F : Fn
def scC (N ps : List Str) (sc : Scope) : Bool := decide (sc.kind = .function) && (sc.isCoroutine == false) && (sc.isGenerator == false) && decide N.Nodup && decide (N.take ps.length = ps)
  && ps.all (fun x => decide (sc.names.lookup x = some .local) || decide (sc.names.lookup x = some .cell)) && sc.names.all (fun y => decide (y.2 ≠ .free))
theorem scC_ok {N ps : List Str} {sc : Scope} (h : scC N ps sc = true) : FnScope N ps sc := by
  simp only [scC, Bool.and_eq_true, decide_eq_true_eq, beq_iff_eq, List.all_eq_true, Bool.or_eq_true] at h
  obtain ⟨⟨⟨⟨⟨⟨h1, h2⟩, h3⟩, h4⟩, h5⟩, h6⟩, h7⟩ := h
  exact ⟨h1, h2, h3, h4, h5, h6, h7⟩
def En.ok (T : Tab) (E : En) : Bool := scC E.N E.ps (defScope E.st) && decide (E.F.np = E.ps.length) && decide (E.F.ns = E.N.length) && chkSs T E.N (defScope E.st) E.F.body (defBody E.st)
section
variable {P : Program} {w : World} {K : PySem.W.Frag} {mg : Str → Option Value} {base : Heap}
/-- what the top has left for the names -/
structure Top (T : Tab) (K : PySem.W.Frag) (mg : Str → Option Value) : Prop where
  gl : ∀ (g : Nat) p, T.gl[g]? = some p → ∃ u z, mg p.1 = some u ∧ RelV z u ∧ ∀ ρ H, RepV K ρ H p.2 z
  bn : ∀ x ∈ BN, mg x = none
theorem start_rep {ρ : List Addr} {H : Hp} {vs : List Vl} {zs : List V} {N : List Str} {ns : Nat} (h : RepVs K ρ H vs zs) (e : ns = N.length) : RepS K ρ H (vs.map some ++ List.replicate (ns - vs.length) none) (start N zs) := by
  have hl := h.length
  refine ⟨by simp [L2.start, hl, e], fun i v q => ?_⟩
  unfold L2.start
  by_cases hi : i < vs.length
  · rw [List.getElem?_append_left (by simpa using hi)] at q
    rw [List.getElem?_append_left (by simpa [hl] using hi)]
    simp only [List.getElem?_map, Option.map_eq_some_iff, Option.some.injEq] at q
    obtain ⟨w, q, rfl⟩ := q
    obtain ⟨y, h1, h2⟩ := h.get q
    exact ⟨y, by simp [h1], h2⟩
  · rw [List.getElem?_append_right (by simpa using hi)] at q
    simp only [List.getElem?_replicate] at q
    split at q <;> cases q
theorem fn_step {T : Tab} {k fu : Nat} {cl : Nat → List Vl → AH → Option (Vl × AH)} {E : En} {fa : Addr} {fd : FuncData} {qual : Str} (F : Fun K E.x qual E.st fa fd) (hE : E.ok T = true) (G : Top T K mg)
    (IH : ∀ (f : Nat) x, T.fnm[f]? = some x → ∃ fa fd ps, mg x = some (.ref fa) ∧ PySem.W.keepIn K (.ref fa) = true ∧ Binds K fd ps [] ∧ FnG P w K mg base k fa fd ps (cl f)) :
    FnG P w K mg base (k + 1) fa fd E.ps (runF T.gl cl fu E.F) := by
  simp only [En.ok, Bool.and_eq_true, decide_eq_true_eq] at hE
  obtain ⟨⟨⟨h1, h2⟩, h3⟩, h4⟩ := hE
  have S := scC_ok h1
  refine fnG_of F S (fun zs H Q h => ?_) (fun cdv A outer s H zs Q hr gd h => ?_)
  · obtain ⟨ρ, vs, ah, v, ah', hv, hH, he, q⟩ := h
    unfold runF at he
    split at he
    · rename_i hl
      rw [hv.length, hl, h2]
    · cases he
  · obtain ⟨ρ, vs, ah, v, ah', hv, hH, he, q⟩ := h
    unfold runF at he
    split at he
    · rename_i hl
      refine ⟨rS K (evS T.gl cl fu E.F.body), (sok (T := T) (cl := cl) (k := k) (fu := fu) (N := E.N) E.F.body).l (defScope E.st) _ ?_ _ h4, ?_⟩
      · exact { calm := rfl, xe := rfl, hN := rfl, nd := S.nd, kd := S.kind, sco := fun x kd h => .inl h, fn := fun _ _ => rfl, room := hr, gd := gd, gl := G.gl, bn := G.bn, fns := IH }
      · split at he
        · rename_i w e1 h5 eq
          cases he
          exact ⟨ρ, _, ah, .rt v, e1, ah', start_rep hv h3, hH, eq, q⟩
        · rename_i e1 h5 eq
          cases he
          exact ⟨ρ, _, ah, .nx, e1, ah', start_rep hv h3, hH, eq, fun ρ' H' σ' x r _ => q ρ' H' .non x r (by simp only [RepR, RepV]) trivial⟩
        · cases he
    · cases he
/-- where the defs stand -/
structure Stands (K : PySem.W.Frag) (mg : Str → Option Value) (E : En) (fa : Addr) (fd : FuncData) : Prop where
  f : Fun K E.x E.x E.st fa fd
  m : mg E.x = some (.ref fa)
  b : Binds K fd E.ps []
theorem all_ok {T : Tab} {fu : Nat} {es : List En} (hT : T.fnm = es.map (·.x)) (hE : es.all (·.ok T) = true) (G : Top T K mg) (hS : ∀ E ∈ es, ∃ fa fd, Stands K mg E fa fd) :
    ∀ (k : Nat) (f : Nat) E, es[f]? = some E → ∃ fa fd, Stands K mg E fa fd ∧ FnG P w K mg base k fa fd E.ps (callN (es.map (·.F)) T.gl fu k f)
  | 0, f, E, h => by
    obtain ⟨fa, fd, S⟩ := hS E (List.mem_of_getElem? h)
    refine ⟨fa, fd, S, ⟨fun zs H Q q => ?_, fun A outer s H args us zs Q _ _ _ _ _ q => ?_⟩⟩
    · obtain ⟨ρ, vs, ah, v, ah', _, _, he, _⟩ := q
      simp [callN] at he
    · obtain ⟨ρ, vs, ah, v, ah', _, _, he, _⟩ := q
      simp [callN] at he
  | k + 1, f, E, h => by
    obtain ⟨fa, fd, S⟩ := hS E (List.mem_of_getElem? h)
    refine ⟨fa, fd, S, ?_⟩
    have R := fn_step (P := P) (w := w) (base := base) (k := k) (fu := fu) (cl := callN (es.map (·.F)) T.gl fu k) S.f (List.all_eq_true.mp hE E (List.mem_of_getElem? h)) G fun f' x hx => by
      rw [hT] at hx
      simp only [List.getElem?_map, Option.map_eq_some_iff] at hx
      obtain ⟨E', hx, rfl⟩ := hx
      obtain ⟨fa', fd', S', R'⟩ := all_ok hT hE G hS k f' E' hx
      exact ⟨fa', fd', E'.ps, S'.m, S'.f.kp, S'.b, R'⟩
    have e : callN (es.map (·.F)) T.gl fu (k + 1) f = runF T.gl (callN (es.map (·.F)) T.gl fu k) fu E.F := by
      funext vs ah
      simp only [callN, List.getElem?_map, h, Option.map_some]
    rw [e]
    exact R
theorem ints_rep {ρ : List Addr} {H : Hp} : ∀ (ns : List Int), RepVs K ρ H (ns.map Vl.int) (ns.map V.int)
  | [] => by simp only [List.map_nil, RepVs]
  | n :: ns => by
    simp only [List.map_cons]
    exact .cons (by simp only [RepV]) (ints_rep ns)
/-- what the script may be in the layer's heap -/
def scriptH (K : PySem.W.Frag) (a : Addr) (o : Obj) (ns : List Int) : Hp := fun b => if (K.lookup a).isNone && decide (b = a) then some (.frz o (.lst (ns.map V.int))) else none
/-- THE LAW's CALL: where the small Python comes to True at the script -/
theorem law_goes {mb : Str → Option Value} {m : List Vl → AH → Option (Vl × AH)} {k : Nat} {fa a : Addr} {fd : FuncData} {x : Str} {s : Shared} {vs : List Value} {ns : List Int} (kin : K.In s.heap) (hg : s.heap.Ns mainGlobals mg) (hb : s.heap.Ns builtinsNs mb)
    (hbb : ∀ x : Str, x ≠ "__name__" → mb x = bootBuiltins x) (lim : s.heap.NoLimit) (gens : s.gens = #[]) (obj : s.heap.get? a = some { cls := .type "list", data := .seq vs.toArray }) (areI : IntsAre vs ns) (few : ns.length ≤ sizeLine) (room : Room k callerA)
    (F : ∀ base : Heap, K.In base → base.Ns mainGlobals mg → FnG P w K mg base k fa fd [x] m) (bnd : Binds K fd [x] []) (hm : ∃ h', m [.fz (ns.map .int)] [] = some (.bl true, h')) :
    codeAny (model P w) callerA (.call (.ref fa) ⟨[.ref a], []⟩) (fun r s' => r = .ok (.ret (.bool true)) ∧ OldK s.heap s'.heap ∧ s'.os = s.os ∧ AllBare s'.gens) s := by
  have vals := vals_ints areI
  have many : vs.length = ns.length := by rw [← vals.length, List.length_map]
  obtain ⟨ob, eob⟩ : ∃ ob : Obj, ob = { cls := .type "list", data := .seq vs.toArray } := ⟨_, rfl⟩
  rw [← eob] at obj
  obtain ⟨H, eH⟩ : ∃ H, H = scriptH K a ob ns := ⟨_, rfl⟩
  -- what stands in H
  have atH : ∀ b u, H b = some u → b = a ∧ K.lookup a = none ∧ u = .frz ob (.lst (ns.map V.int)) := fun b u e => by
    rw [eH] at e
    unfold scriptH at e
    split at e
    · rename_i hc
      simp only [Bool.and_eq_true, decide_eq_true_eq, Option.isNone_iff_eq_none] at hc
      exact ⟨hc.2, hc.1, (Option.some.inj e).symm⟩
    · cases e
  have isL : ObjOk P w H s.heap a (.lst (ns.map V.int)) := ⟨by rw [List.length_map]; exact few, vs, _, vals, by rw [obj, eob]⟩
  have hok : HOk P w H s.heap := fun b u e => by
    obtain ⟨rfl, _, rfl⟩ := atH b u e
    exact ⟨obj, isL⟩
  have rd : SL K H a (ns.map V.int) := by
    cases q : K.lookup a with
    | none => exact .inl ⟨ob, by rw [eH]; simp [scriptH, q]⟩
    | some o =>
      have e := kin a o q
      rw [obj] at e
      cases e
      refine .inr (.inr ⟨ob, vs.toArray, 0, q, by rw [eob], by rw [eob], by rw [eob], by simpa [many] using few, by simpa using vals⟩)
  -- the base: all that is not tracked
  have stays : ∀ {b : Addr} {o : Obj}, s.heap.get? b = some o → H b = none → (hidT s.heap H).get? b = some o := fun e n => hidT_get e n
  have free : ∀ {b : Addr} {o : Obj}, s.heap.get? b = some o → o ≠ ob → H b = none := fun {b o} e ne => by
    cases q : H b with
    | none => rfl
    | some u =>
      obtain ⟨rfl, _, _⟩ := atH b u q
      rw [obj] at e
      exact absurd (Option.some.inj e).symm ne
  have names : ∀ {b : Addr} {mp : Str → Option Value}, s.heap.Ns b mp → (hidT s.heap H).Ns b mp := fun {b mp} ⟨o, es, ep, e, d, r⟩ => ⟨o, es, ep, stays e (free e fun z => by
    rw [z, eob] at d
    cases d), d, r⟩
  have kin' : K.In (hidT s.heap H) := fun b o e => stays (kin b o e) (by
    cases q : H b with
    | none => rfl
    | some u =>
      obtain ⟨rfl, z, _⟩ := atH b u q
      rw [z] at e; cases e)
  obtain ⟨mc, lim1, lim2⟩ := id lim
  have mod : Mod K mg (hidT s.heap H) := { kin := kin', glob := names hg, blt := ⟨mb, names hb, hbb⟩, nolimit := ⟨mc, names lim1, lim2⟩ }
  have env0 : Env0 P w K mg (hidT s.heap H) callerA [] s H := { frames := rfl, mod := mod, bs := fun b o e => of_hidT e, bsz := Nat.le_of_eq (hidT_size _ _), funs := trivial, frf := (fun b z => nomatch z), hok := hok, bare := .of_eq gens }
  obtain ⟨h', em⟩ := hm
  have promise : spF K m [.ref a] H (fun v _ => v = .bl true) := by
    refine ⟨[], [.fz (ns.map .int)], [], .bl true, h', RepVs.cons ?_ (by simp only [RepVs]), ⟨rfl, .nil, fun n b o e => by simp at e⟩, em, fun ρ' H' z x r v f => v.bl_⟩
    simp only [RepV]
    exact ⟨a, ns.map V.int, rfl, rd, ints_rep ns⟩
  refine codeAny_mono ((F _ kin' (names hg)).run callerA [] s H ⟨[.ref a], []⟩ [.ref a] [.ref a] _ room rfl env0 (bnd s [.ref a] kin rfl) (.cons rfl .nil) promise) fun r s' end_ => ?_
  match r, end_ with
  | .error _, z => exact False.elim z
  | .ok .next, z => exact False.elim z
  | .ok .brk, z => exact False.elim z
  | .ok .cont, z => exact False.elim z
  | .ok (.ret u), ⟨v, H', os, bare, un, hok', rel, q⟩ =>
    have q' : v = .bl true := q
    subst q'
    have eu : u = Value.bool true := rel
    subst eu
    refine ⟨rfl, OldK.of_keep fun b o e => ?_, os, bare⟩
    cases q2 : H b with
    | none => exact un.keep b o e q2 (fun z => nomatch z) (fun z => nomatch z)
    | some u =>
      obtain ⟨rfl, _, rfl⟩ := atH b u q2
      rw [e] at obj
      cases obj
      exact (hok' b _ (un.frzs b _ _ q2)).1
end
end FK

namespace FK
open PySem PySem.Spec PyProof.Rows L2
/-- the walk that k_head leaves, from the small Python's own end -/
theorem walkG {l : PySem.W.OpenLaw} {k : Nat} {q : Program} {loose : List Str} {XP : (Str → Option Value) → Heap → Prop} {YP : World → Heap → Prop} {d : DefRec} {K : Params → PySem.W.Frag} {x : Str} {m : List Vl → AH → Option (Vl × AH)}
    (most : l.most = some 63) (plain : d.params.defaults = []) (room : Room k callerA) (kin : ∀ (w : World) (h : Heap), YP w h → (K w.params).In h)
    (F : ∀ (w : World) (mg : Str → Option Value) (fa : Addr) (h : Heap), (K w.params).In h → h.Ns mainGlobals mg → mg d.name = some (.ref fa) →
      ∃ fd : FuncData, Binds (K w.params) fd [x] [] ∧ ∀ base : Heap, (K w.params).In base → base.Ns mainGlobals mg → FnG l.prog w (K w.params) mg base k fa fd [x] m)
    (hm : ∀ ns : List Int, ns.length ≤ 63 → ∃ h', m [.fz (ns.map .int)] [] = some (.bl true, h')) : PySem.W.WalkO q loose XP YP l.row.toRowW d [] (fun f vs => PySem.call f vs) := by
  refine Att.attach_call most plain ?_
  intro w sA sB mg mb fa o pm cd doc a vs ns gr yp obj dat code at_ lst areI few gens
  have inn := kin w _ yp
  obtain ⟨fd, bnd, goes⟩ := F w mg fa _ inn gr.T.g at_
  exact law_goes inn gr.T.g gr.T.b gr.T.builtins gr.T.nolimit gens lst areI (Nat.le_trans few (by decide)) room goes bnd (hm ns few)
/-- a def's place from what the head tells -/
theorem stands_mk {K : PySem.W.Frag} {mg : Str → Option Value} {h : Heap} {E : En} {f : Addr} {oc : Value} {od an : Option Addr} {osl : Array (Option Value)} {kV doc pm cdv ct : Value} (X : K.In h) (G : h.Ns mainGlobals mg)
    (a : PySem.W.nsIn K mainGlobals E.x = some (some (.ref f))) (l : K.lookup f = some ⟨oc, od, .func (PySem.W.fnOf E.x E.x (defArgs E.st) (defBody E.st) (defScope E.st) .none kV doc pm an cdv ct), osl⟩)
    (c : PySem.W.codeIn K cdv E.x = true) (k : PySem.W.keepIn K (.ref f) = true)
    (b : ∀ (kV doc pm : Value) (an : Option Addr) (cdv ct : Value) (us : List Value), us.length = E.ps.length → bindArgs (PySem.W.fnOf E.x E.x (defArgs E.st) (defBody E.st) (defScope E.st) .none kV doc pm an cdv ct) ⟨us, []⟩ = pure (E.ps.zip us)) : ∃ fa fd, Stands K mg E fa fd := by
  have F := fun_mk (st := E.st) l c k
  exact ⟨f, _, F, PySem.W.mg_of X G a, F.binds b⟩
/-- the law's def, from all that the head tells -/
theorem law_mk {P : Program} {w : World} {K : PySem.W.Frag} {mg : Str → Option Value} {fa : Addr} {T : Tab} {es : List En} {x : Str} {f k fu : Nat} {E : En} (hf : es[f]? = some E) (hx : E.ps = [x]) (hfa : mg E.x = some (.ref fa)) (hT : T.fnm = es.map (·.x)) (hE : es.all (·.ok T) = true) (G : Top T K mg)
    (hS : ∀ E ∈ es, ∃ fa fd, Stands K mg E fa fd) : ∃ fd : FuncData, Binds K fd [x] [] ∧ ∀ base : Heap, K.In base → base.Ns mainGlobals mg → FnG P w K mg base k fa fd [x] (callN (es.map (·.F)) T.gl fu k f) := by
  obtain ⟨fa', fd, S⟩ := hS E (List.mem_of_getElem? hf)
  have e := S.m
  rw [hfa] at e
  cases e
  refine ⟨fd, hx ▸ S.b, fun base _ _ => ?_⟩
  obtain ⟨fb, fd', S', R⟩ := all_ok (P := P) (w := w) (base := base) (fu := fu) hT hE G hS k f E hf
  have e' := S'.m
  rw [hfa] at e'
  cases e'
  have l1 := S.f.ex
  have l2 := S'.f.ex
  obtain ⟨_, _, _, _, _, _, _, _, _, rfl, l1, _⟩ := l1
  obtain ⟨_, _, _, _, _, _, _, _, _, rfl, l2, _⟩ := l2
  rw [l1] at l2
  have q := Option.some.inj l2
  injection q with _ _ q _
  injection q with q
  rw [← hx]
  rw [← q] at R
  exact R
theorem gl_str {K : PySem.W.Frag} {mg : Str → Option Value} {h : Heap} {x v : Str} {t : Tok} (X : K.In h) (G : h.Ns mainGlobals mg) (a : PySem.W.nsIn K mainGlobals x = some (some (.str v t))) : ∃ u z, mg x = some u ∧ RelV z u ∧ ∀ ρ H, RepV K ρ H (.str v) z :=
  ⟨_, .str v, PySem.W.mg_of X G a, ⟨t, rfl⟩, fun ρ H => by simp only [RepV]⟩
theorem gl_int {K : PySem.W.Frag} {mg : Str → Option Value} {h : Heap} {x : Str} {v : Int} {t : Tok} (X : K.In h) (G : h.Ns mainGlobals mg) (a : PySem.W.nsIn K mainGlobals x = some (some (.int v t))) : ∃ u z, mg x = some u ∧ RelV z u ∧ ∀ ρ H, RepV K ρ H (.int v) z :=
  ⟨_, .int v, PySem.W.mg_of X G a, ⟨t, rfl⟩, fun ρ H => by simp only [RepV]⟩
end FK

/-! ### reasoning over the small Python: loops, comprehensions, kinds -/
namespace FK
open PySem PySem.Spec PyProof.Rows L2
/-- the i-th turn of a comprehension over things that stay -/
theorem lc_turns {xs : List Vl} {tg : Tg} {c : MT} {m : ME} {e : AE} (P : Nat → List Vl → AH → Prop)
    (step : ∀ (i : Nat) x acc h, xs[i]? = some x → P i acc h → ∃ e1, asg tg x e = some e1 ∧ ((∃ h1, c e1 h = some (false, h1) ∧ P (i + 1) acc h1) ∨ ∃ h1 v h2, c e1 h = some (true, h1) ∧ m e1 h1 = some (v, h2) ∧ P (i + 1) (acc ++ [(fix v h2).1]) (fix v h2).2)) :
    ∀ (f i : Nat) acc h, i + f = xs.length → P i acc h → ∃ ys h', lcLoop (.st xs) tg c m e f i acc h = some (ys, h') ∧ P xs.length ys h'
  | 0, i, acc, h, hf, hP => by
    have : i = xs.length := by omega
    subst this
    exact ⟨acc, h, by simp [lcLoop, Src.get], hP⟩
  | f + 1, i, acc, h, hf, hP => by
    have hi : i < xs.length := by omega
    have hx := List.getElem?_eq_getElem hi
    obtain ⟨e1, ea, q⟩ := step i _ acc h hx hP
    rcases q with ⟨h1, ec, hP'⟩ | ⟨h1, v, h2, ec, em, hP'⟩
    · obtain ⟨ys, h', r1, r2⟩ := lc_turns P step f (i + 1) acc h1 (by omega) hP'
      exact ⟨ys, h', by simp only [lcLoop, Src.get, hx, ea, ec]; exact r1, r2⟩
    · obtain ⟨ys, h', r1, r2⟩ := lc_turns P step f (i + 1) _ _ (by omega) hP'
      exact ⟨ys, h', by simp only [lcLoop, Src.get, hx, ea, ec, em]; exact r1, r2⟩
theorem lc_inv {xs : List Vl} {tg : Tg} {c : MT} {m : ME} {e : AE} {h : AH} (P : Nat → List Vl → AH → Prop) (h0 : P 0 [] h)
    (step : ∀ (i : Nat) x acc h, xs[i]? = some x → P i acc h → ∃ e1, asg tg x e = some e1 ∧ ((∃ h1, c e1 h = some (false, h1) ∧ P (i + 1) acc h1) ∨ ∃ h1 v h2, c e1 h = some (true, h1) ∧ m e1 h1 = some (v, h2) ∧ P (i + 1) (acc ++ [(fix v h2).1]) (fix v h2).2)) :
    ∃ ys h', lcLoop (.st xs) tg c m e xs.length 0 [] h = some (ys, h') ∧ P xs.length ys h' := lc_turns P step xs.length 0 [] h (by omega) h0
theorem fix_int (i : Int) (h : AH) : fix (.int i) h = (.int i, h) := rfl
theorem fix_bl (i : Bool) (h : AH) : fix (.bl i) h = (.bl i, h) := rfl
theorem fix_str (i : Str) (h : AH) : fix (.str i) h = (.str i, h) := rfl
theorem fix_tup (i : List Vl) (h : AH) : fix (.tup i) h = (.tup i, h) := rfl
theorem fix_ref (i : Nat) (h : AH) : fix (.ref i) h = (.ref i, h) := rfl
theorem fix_fz (i : List Vl) (h : AH) : fix (.fz i) h = (.fz i, h) := rfl
theorem fix_ty (i : String) (h : AH) : fix (.ty i) h = (.ty i, h) := rfl
theorem fix_non (h : AH) : fix .non h = (.non, h) := rfl
theorem fix_fl (i : List Vl) (h : AH) : fix (.fl i) h = (.ref h.length, h ++ [.lst i]) := rfl
def noFl : Vl → Prop
  | .fl _ => False
  | _ => True
theorem fix_no {v : Vl} {h : AH} (n : noFl v) : fix v h = (v, h) := by cases v <;> first | rfl | exact n.elim
/-- a comprehension that changes nothing -/
theorem lc_map {xs : List Vl} {tg : Tg} {c : MT} {m : ME} {e : AE} {h : AH} (g : Vl → Vl) (hc : ∀ e h, c e h = some (true, h)) (hm : ∀ x ∈ xs, noFl (g x) ∧ ∃ e1, asg tg x e = some e1 ∧ m e1 h = some (g x, h)) :
    lcLoop (.st xs) tg c m e xs.length 0 [] h = some (xs.map g, h) := by
  obtain ⟨ys, h', r1, r2, r3⟩ := lc_inv (xs := xs) (tg := tg) (c := c) (m := m) (e := e) (h := h) (fun i acc h' => acc = (xs.take i).map g ∧ h' = h) ⟨by simp, rfl⟩ fun i x acc h' hx ⟨ha, hh⟩ => by
    subst hh
    obtain ⟨n, e1, ea, em⟩ := hm x (List.mem_of_getElem? hx)
    refine ⟨e1, ea, .inr ⟨h', g x, h', hc _ _, em, ?_, by rw [fix_no n]⟩⟩
    rw [fix_no n, ha, List.take_add_one, hx]
    simp
  rw [r1, r2, r3]
  simp
/-- a for over things that stay, whose turns go through -/
theorem for_turns {xs : List Vl} {tg : Tg} {b : MS} (P : Nat → AE → AH → Prop)
    (step : ∀ (i : Nat) x e h, xs[i]? = some x → P i e h → ∃ e1, asg tg x e = some e1 ∧ ∃ e2 h2, (b e1 h = some (.nx, e2, h2) ∨ b e1 h = some (.ct, e2, h2)) ∧ P (i + 1) e2 h2) :
    ∀ (f i : Nat) e h, i + f = xs.length → P i e h → ∃ e' h', forLoop (.st xs) tg b f i e h = some (.nx, e', h') ∧ P xs.length e' h'
  | 0, i, e, h, hf, hP => by
    have : i = xs.length := by omega
    subst this
    exact ⟨e, h, by simp [forLoop, Src.get], hP⟩
  | f + 1, i, e, h, hf, hP => by
    have hi : i < xs.length := by omega
    have hx := List.getElem?_eq_getElem hi
    obtain ⟨e1, ea, e2, h2, eb, hP'⟩ := step i _ e h hx hP
    obtain ⟨e', h', r1, r2⟩ := for_turns P step f (i + 1) e2 h2 (by omega) hP'
    rcases eb with eb | eb
    · exact ⟨e', h', by simp only [forLoop, Src.get, hx, ea, eb]; exact r1, r2⟩
    · exact ⟨e', h', by simp only [forLoop, Src.get, hx, ea, eb]; exact r1, r2⟩
theorem for_inv {xs : List Vl} {tg : Tg} {b : MS} {e : AE} {h : AH} (P : Nat → AE → AH → Prop) (h0 : P 0 e h)
    (step : ∀ (i : Nat) x e h, xs[i]? = some x → P i e h → ∃ e1, asg tg x e = some e1 ∧ ∃ e2 h2, (b e1 h = some (.nx, e2, h2) ∨ b e1 h = some (.ct, e2, h2)) ∧ P (i + 1) e2 h2) :
    ∃ e' h', forLoop (.st xs) tg b xs.length 0 e h = some (.nx, e', h') ∧ P xs.length e' h' := for_turns P step xs.length 0 e h (by omega) h0
/-! kinds -/
theorem kit_tab : kitB "NoneType" "str" = some false ∧ kitB "bool" "str" = some false ∧ kitB "int" "str" = some false ∧ kitB "str" "str" = some true ∧ kitB "tuple" "str" = some false ∧ kitB "list" "str" = some false ∧
    kitB "NoneType" "bool" = some false ∧ kitB "bool" "bool" = some true ∧ kitB "int" "bool" = some false ∧ kitB "str" "bool" = some false ∧ kitB "tuple" "bool" = some false ∧ kitB "list" "bool" = some false ∧
    kitB "NoneType" "int" = some false ∧ kitB "bool" "int" = some true ∧ kitB "int" "int" = some true ∧ kitB "str" "int" = some false ∧ kitB "tuple" "int" = some false ∧ kitB "list" "int" = some false ∧
    kitB "NoneType" "tuple" = some false ∧ kitB "bool" "tuple" = some false ∧ kitB "int" "tuple" = some false ∧ kitB "str" "tuple" = some false ∧ kitB "tuple" "tuple" = some true ∧ kitB "list" "tuple" = some false ∧
    kitB "NoneType" "list" = some false ∧ kitB "bool" "list" = some false ∧ kitB "int" "list" = some false ∧ kitB "str" "list" = some false ∧ kitB "tuple" "list" = some false ∧ kitB "list" "list" = some true := by decide +kernel
theorem str_app (a b : Str) : (a ++ b).cps.toList = a.cps.toList ++ b.cps.toList := by
  show (a.cps ++ b.cps).toList = _
  simp
theorem str_len (a : Str) : a.length = a.cps.toList.length := by
  show a.cps.size = _
  simp
/-- a sign in a text -/
def sg (c : Nat) (z : Str) : Bool := decide (c ∈ z.cps.toList)
theorem sg_app (c : Nat) (y z : Str) : sg c (y ++ z) = (sg c y || sg c z) := by
  unfold sg
  show decide (c ∈ (y.cps ++ z.cps).toList) = _
  simp
theorem sign_in (c : Nat) (z : Str) (h : AH) : FK.inV (.str ⟨#[c]⟩) (.str z) h = some (sg c z) := by
  simp only [FK.inV, sg]
  rw [← PySem.StrLaws.found_one z c]
/-- a comprehension over things that stay, by its turns -/
theorem ev_lc {gl : List (Str × Vl)} {cl : Nat → List Vl → AH → Option (Vl × AH)} {k : Itk} {it c m : Ex} {tg : Tg} {own : List Nat} {e : AE} {h h1 h2 : AH} {vs xs ys : List Vl} (hb : evB gl cl it e h = some (vs, h1)) (hs : srcOf k vs h1 = some (.st xs)) (hz : xs.length ≤ sizeLine)
    (L : lcLoop (.st xs) tg (evT gl cl c) (evE gl cl m) (wipeE e own) xs.length 0 [] h1 = some (ys, h2)) : evE gl cl (.lc k it tg own c m) e h = some (.fl ys, h2) := by
  simp only [evE, hb, hs, Src.get, hz, if_pos, L]
theorem ev_for {gl : List (Str × Vl)} {cl : Nat → List Vl → AH → Option (Vl × AH)} {fu : Nat} {k : Itk} {it : Ex} {tg : Tg} {b : Sx} {e : AE} {h h1 : AH} {vs xs : List Vl} {r : Option (Fl × AE × AH)} (hb : evB gl cl it e h = some (vs, h1)) (hs : srcOf k vs h1 = some (.st xs))
    (L : forLoop (.st xs) tg (evS gl cl fu b) xs.length 0 e h1 = r) : evS gl cl fu (.for_ k it tg b) e h = r := by
  simp only [evS, hb, hs, Src.get, L]
theorem evT_nil {gl : List (Str × Vl)} {cl : Nat → List Vl → AH → Option (Vl × AH)} (e : AE) (h : AH) : evT gl cl .nil e h = some (true, h) := by simp only [evT]
/-- the sgs of a text, one by one -/
def sgs (z : Str) : List Vl := z.cps.toList.map fun c => .str ⟨#[c]⟩
theorem srcOf_str (z : Str) (h : AH) : srcOf .seq [.str z] h = some (.st (sgs z)) := rfl
theorem sgs_len (z : Str) : (sgs z).length = z.length := by
  rw [str_len]
  simp [sgs]
theorem blsOf_map {α : Type} (l : List α) (g : α → Bool) : blsOf (l.map fun x => Vl.bl (g x)) = some (l.map g) := by
  induction l with
  | nil => rfl
  | cons x r ih => simp only [List.map_cons, blsOf, ih, Option.map_some]
end FK

/-! ### how long a shown thing is -/
namespace FK
open PySem PySem.Spec PyProof.Rows L2
theorem app_len (a b : Str) : (a ++ b).length = a.length + b.length := by
  rw [str_len, str_len, str_len, str_app, List.length_append]
mutual
def szD : PyData → Nat
  | .none => 4
  | .bool _ => 5
  | .int i => i.natAbs.log2 + 3
  | .str x => 10 * x.length + 2
  | .list xs => szDs xs + 4
  | .tuple xs => szDs xs + 4
  | .dict _ => 0
def szDs : List PyData → Nat
  | [] => 0
  | d :: ds => szD d + 2 + szDs ds
end
def smallS (x : Str) : Prop := ∀ c ∈ x.cps.toList, c < 16 ^ 8
mutual
def okD : PyData → Prop
  | .none => True
  | .bool _ => True
  | .int _ => True
  | .str x => smallS x
  | .list xs => okDs xs
  | .tuple xs => okDs xs
  | .dict _ => False
def okDs : List PyData → Prop
  | [] => True
  | d :: ds => okD d ∧ okDs ds
end
theorem textFrom_le : ∀ (ts : List Str) (k : Nat) (acc : Str), (textFrom k acc ts).length ≤ acc.length + piled ts
  | [], _, _ => Nat.le_add_right _ _
  | t :: r, k, acc => by
    have ih := textFrom_le r (k + 1) (acc ++ (if k > 0 then ", " else "" : String) ++ t)
    have e : (acc ++ (if k > 0 then ", " else "" : String) ++ t).length ≤ acc.length + 2 + t.length := by
      rw [app_len, app_len]
      have : (Str.ofString (if k > 0 then ", " else "")).length ≤ 2 := by split <;> decide +kernel
      omega
    rw [piled_cons]
    show (textFrom (k + 1) (acc ++ (if k > 0 then ", " else "" : String) ++ t) r).length ≤ _
    omega
theorem listText_le (ts : List Str) : (listText ts).length ≤ piled ts + 2 := by
  unfold listText
  rw [app_len]
  have h := textFrom_le ts 0 "["
  have e1 : (Str.ofString "[").length = 1 := by decide +kernel
  have e2 : (Str.ofString "]").length = 1 := by decide +kernel
  omega
theorem tupleText_le (ts : List Str) : (tupleText ts).length ≤ piled ts + 3 := by
  unfold tupleText
  rw [app_len, app_len]
  have e1 : (Str.ofString "(").length = 1 := by decide +kernel
  have e2 : (Str.ofString (if ts.length == 1 then ",)" else ")")).length ≤ 2 := by split <;> decide +kernel
  have e3 : (Str.join ", " ts).length ≤ piled ts := by
    cases ts with
    | nil => exact Nat.zero_le _
    | cons t r =>
      have := join_length_add (t :: r) (by simp)
      omega
  omega
theorem intText_le (i : Int) : (Str.ofString (toString i)).length ≤ i.natAbs.log2 + 3 := by
  have h := int_text_length_le (a := i) (k := i.natAbs.log2 + 1) (by omega) (by omega)
  have e := PySem.ofString_length (toString i)
  omega
mutual
theorem shown_le : ∀ (d : PyData), okD d → d.shown.length ≤ szD d
  | .none, _ => by show (Str.ofString "None").length ≤ 4; decide +kernel
  | .bool b, _ => by cases b <;> (simp only [PyData.shown, szD]; decide +kernel)
  | .int i, _ => by simp only [PyData.shown, szD]; exact intText_le i
  | .str x, h => by
    simp only [PyData.shown, szD]
    simp only [okD] at h
    exact StrLaws.reprText_len x h
  | .list xs, h => by
    simp only [okD] at h
    simp only [PyData.shown, szD]
    have h1 := shownAll_le xs h
    have h2 := listText_le (PyData.shownAll xs)
    omega
  | .tuple xs, h => by
    simp only [okD] at h
    simp only [PyData.shown, szD]
    have h1 := shownAll_le xs h
    have h2 := tupleText_le (PyData.shownAll xs)
    omega
  | .dict kvs, h => by simp only [okD] at h
theorem shownAll_le : ∀ (ds : List PyData), okDs ds → piled (PyData.shownAll ds) ≤ szDs ds
  | [], _ => by simp [PyData.shownAll, piled, szDs]
  | d :: ds, h => by
    simp only [okDs] at h
    simp only [PyData.shownAll, piled_cons, szDs]
    have h1 := shown_le d h.1
    have h2 := shownAll_le ds h.2
    omega
end
end FK

namespace K01
open PySem PySem.Spec PyProof.Rows L2 FK
/-! printed by gen.py: the defs of the row in the small Python -/
def topS (i : Nat) : Stmt := PySem.Challenge.pw_flatkeep_k01_words.main.body.getD i (.Pass ⟨0, 0, 0, 0⟩)
/-- is_word: 0 thing, 1 sign -/
def b_is_word : Sx := (.seq (.ifs (.or (.not (.val (.bi .isinstance (.cons (.var 0) (.cons (.bty "str") .nil))))) (.or (.not (.val (.chain .LtE .LtE (.cst (.int 1)) (.bi .len (.cons (.var 0) .nil)) (.glob 2)))) (.val (.cmp .NotIn (.ix (.var 0) (.cst (.int 0))) (.glob 0))))) (.seq (.ret (.cst (.bl false))) .nil) .nil) (.seq (.ret (.bi .all (.cons (.lc .seq (.cons (.var 0) .nil) (.name 1) [1] .nil (.cmp .In (.var 1) (.bin .Add (.glob 0) (.glob 1)))) .nil))) .nil))
/-- _law_mix: 0 law_cell, 1 law_k, 2 law_m -/
def b_law_mix : Sx := (.seq (.set 2 (.bin .Mod (.bin .Mult (.bin .Add (.bin .Add (.bin .Mod (.var 0) (.cst (.int 2147483629))) (.bin .Mult (.bin .Mult (.var 1) (.var 1)) (.cst (.int 7919)))) (.cst (.int 11))) (.cst (.int 48271))) (.cst (.int 2147483647)))) (.seq (.ret (.bin .Mod (.bin .Mult (.var 2) (.var 2)) (.cst (.int 1999999973)))) .nil))
/-- _law_left: 0 law_script, 1 law_k, 2 law_cell, 3 law_own -/
def b_law_left : Sx := (.seq (.set 2 (.ite (.val (.cmp .Lt (.var 1) (.bi .len (.cons (.var 0) .nil)))) (.ix (.var 0) (.var 1)) (.cst (.int 0)))) (.seq (.set 3 (.ite (.val (.cmp .GtE (.bi .abs (.cons (.var 2) .nil)) (.bin .Pow (.cst (.int 10)) (.cst (.int 18))))) (.bi .abs (.cons (.var 2) .nil)) (.cst (.int 0)))) (.seq (.ret (.lst (.cons (.var 3) (.cons (.bin .Add (.var 2) (.bin .Mult (.cst (.int 1000003)) (.var 1))) (.cons (.cst (.int 0)) .nil))))) .nil)))
/-- _law_pick: 0 law_left_here, 1 law_many, 2 law_digit -/
def b_law_pick : Sx := (.seq (.setIx (.var 0) (.cst (.int 2)) (.bin .Add (.ix (.var 0) (.cst (.int 2))) (.cst (.int 1)))) (.seq (.ifs (.val (.cmp .Gt (.ix (.var 0) (.cst (.int 0))) (.cst (.int 0)))) (.seq (.set 2 (.bin .Mod (.ix (.var 0) (.cst (.int 0))) (.var 1))) (.seq (.setIx (.var 0) (.cst (.int 0)) (.bin .FloorDiv (.ix (.var 0) (.cst (.int 0))) (.var 1))) (.seq (.ret (.var 2)) .nil))) .nil) (.seq (.ret (.bin .Mod (.bin .FloorDiv (.call 1 (.cons (.call 1 (.cons (.ix (.var 0) (.cst (.int 1))) (.cons (.ix (.var 0) (.cst (.int 2))) .nil))) (.cons (.bin .Add (.ix (.var 0) (.cst (.int 2))) (.cst (.int 64))) .nil))) (.cst (.int 64))) (.var 1))) .nil)))
/-- _law_is_word: 0 law_thing, 1 law_letters, 2 law_sign -/
def b_law_is_word : Sx := (.seq (.set 1 (.cst (.str "abcdefghijklmnopqrstuvwxyz"))) (.seq (.ifs (.or (.not (.val (.bi .isinstance (.cons (.var 0) (.cons (.bty "str") .nil))))) (.or (.val (.cmp .Lt (.bi .len (.cons (.var 0) .nil)) (.cst (.int 1)))) (.val (.cmp .Gt (.bi .len (.cons (.var 0) .nil)) (.cst (.int 8)))))) (.seq (.ret (.cst (.bl false))) .nil) .nil) (.seq (.ret (.and (.cmp .In (.ix (.var 0) (.cst (.int 0))) (.var 1)) (.bi .all (.cons (.lc .seq (.cons (.var 0) .nil) (.name 2) [2] .nil (.or (.cmp .In (.var 2) (.var 1)) (.cmp .In (.var 2) (.cst (.str "0123456789"))))) .nil)))) .nil)))
/-- _law_other: 0 law_left_here, 1 law_text, 2 law_way, 3 law_at, 4 law_signs, 5 law_sign -/
def b_law_other : Sx := (.seq (.set 2 (.call 3 (.cons (.var 0) (.cons (.cst (.int 3)) .nil)))) (.seq (.set 3 (.call 3 (.cons (.var 0) (.cons (.bin .Add (.bi .len (.cons (.var 1) .nil)) (.cst (.int 1))) .nil)))) (.seq (.set 4 (.bin .Add (.cst (.str "abcdefghijklmnopqrstuvwxyzABCDEFGHIJKLMNOPQRSTUVWXYZ0123456789 _-.,:/()~")) (.cst (.str "\n")))) (.seq (.set 5 (.ix (.var 4) (.call 3 (.cons (.var 0) (.cons (.bi .len (.cons (.var 4) .nil)) .nil))))) (.seq (.ret (.ix (.lst (.cons (.bin .Add (.bin .Add (.sl (.var 1) .nil (.cons (.var 3) .nil)) (.var 5)) (.sl (.var 1) (.cons (.var 3) .nil) .nil)) (.cons (.bin .Add (.sl (.var 1) .nil (.cons (.var 3) .nil)) (.sl (.var 1) (.cons (.bin .Add (.var 3) (.cst (.int 1))) .nil) .nil)) (.cons (.bin .Add (.bin .Add (.sl (.var 1) .nil (.cons (.var 3) .nil)) (.var 5)) (.sl (.var 1) (.cons (.bin .Add (.var 3) (.cst (.int 1))) .nil) .nil)) .nil)))) (.var 2))) .nil)))))
/-- _law_right: 0 law_thing, 1 law_kept, 2 law_turn, 3 law_found -/
def b_law_right : Sx := (.seq (.set 1 (.bi .str (.cons (.var 0) .nil))) (.seq (.for_ .rng (.cons (.cst (.int 2)) .nil) (.name 2) (.seq (.set 3 (.call 0 (.cons (.var 0) .nil))) (.seq (.ifs (.or (.not (.val (.bi .isinstance (.cons (.var 3) (.cons (.bty "bool") .nil))))) (.val (.cmp .NotEq (.var 3) (.call 4 (.cons (.var 0) .nil))))) (.seq (.ret (.cst (.bl false))) .nil) .nil) .nil))) (.seq (.ret (.cmp .Eq (.bi .str (.cons (.var 0) .nil)) (.var 1))) .nil)))
/-- law: 0 law_script, 1 law_signs, 2 law_k, 3 law_left_here, 4 law_size, 5 law_first, 6 law_text, 7 law_odd, 8 law_thing, 9 law_j -/
def b_law : Sx := (.seq (.set 1 (.cst (.str "abcdefghijklmnopqrstuvwxyz0123456789"))) (.seq (.for_ .rng (.cons (.bin .Add (.cst (.int 1)) (.bi .len (.cons (.sl (.var 0) .nil (.cons (.cst (.int 62)) .nil)) .nil))) .nil) (.name 2) (.seq (.set 3 (.call 2 (.cons (.var 0) (.cons (.var 2) .nil)))) (.seq (.set 4 (.call 3 (.cons (.var 3) (.cons (.cst (.int 10)) .nil)))) (.seq (.set 5 (.ix (.var 1) (.call 3 (.cons (.var 3) (.cons (.ix (.lst (.cons (.cst (.int 26)) (.cons (.cst (.int 36)) .nil))) (.call 3 (.cons (.var 3) (.cons (.cst (.int 2)) .nil)))) .nil))))) (.seq (.set 6 (.sl (.bin .Add (.var 5) (.me .join (.cst (.str "")) (.cons (.lc .rng (.cons (.cst (.int 9)) .nil) (.name 9) [9] .nil (.ix (.var 1) (.call 3 (.cons (.var 3) (.cons (.cst (.int 36)) .nil))))) .nil))) .nil (.cons (.var 4) .nil))) (.seq (.set 7 (.ix (.lst (.cons (.cst .non) (.cons (.cst (.bl true)) (.cons (.cst (.int 7)) (.cons (.neg (.cst (.int 1))) (.cons (.tup (.cons (.var 6) .nil)) (.cons (.lst (.cons (.var 6) .nil)) (.cons (.tup .nil) (.cons (.lst .nil) (.cons (.tup (.cons (.cst (.str "a")) (.cons (.cst (.str "b")) .nil))) (.cons (.cst (.int 0)) .nil))))))))))) (.call 3 (.cons (.var 3) (.cons (.cst (.int 10)) .nil))))) (.seq (.for_ .seq (.cons (.tup (.cons (.var 6) (.cons (.call 5 (.cons (.var 3) (.cons (.var 6) .nil))) (.cons (.call 5 (.cons (.var 3) (.cons (.var 6) .nil))) (.cons (.var 7) .nil))))) .nil) (.name 8) (.seq (.ifs (.not (.val (.call 6 (.cons (.var 8) .nil)))) (.seq (.ret (.cst (.bl false))) .nil) .nil) .nil)) .nil))))))) (.seq (.ret (.cst (.bl true))) .nil)))
def gls : List (Str × Vl) := [("LETTERS", .str "abcdefghijklmnopqrstuvwxyz"), ("FIGURES", .str "0123456789"), ("MOST_SIGNS", .int 8)]
def f_is_word : Fn := ⟨1, 2, b_is_word⟩
def en_is_word : En := ⟨"is_word", topS 4, ["thing", "sign"], ["thing"], f_is_word⟩
def f_law_mix : Fn := ⟨2, 3, b_law_mix⟩
def en_law_mix : En := ⟨"_law_mix", topS 6, ["_law_cell", "_law_k", "_law_m"], ["_law_cell", "_law_k"], f_law_mix⟩
def f_law_left : Fn := ⟨2, 4, b_law_left⟩
def en_law_left : En := ⟨"_law_left", topS 7, ["_law_script", "_law_k", "_law_cell", "_law_own"], ["_law_script", "_law_k"], f_law_left⟩
def f_law_pick : Fn := ⟨2, 3, b_law_pick⟩
def en_law_pick : En := ⟨"_law_pick", topS 8, ["_law_left_here", "_law_many", "_law_digit"], ["_law_left_here", "_law_many"], f_law_pick⟩
def f_law_is_word : Fn := ⟨1, 3, b_law_is_word⟩
def en_law_is_word : En := ⟨"_law_is_word", topS 9, ["_law_thing", "_law_letters", "_law_sign"], ["_law_thing"], f_law_is_word⟩
def f_law_other : Fn := ⟨2, 6, b_law_other⟩
def en_law_other : En := ⟨"_law_other", topS 10, ["_law_left_here", "_law_text", "_law_way", "_law_at", "_law_signs", "_law_sign"], ["_law_left_here", "_law_text"], f_law_other⟩
def f_law_right : Fn := ⟨1, 4, b_law_right⟩
def en_law_right : En := ⟨"_law_right", topS 11, ["_law_thing", "_law_kept", "_law_turn", "_law_found"], ["_law_thing"], f_law_right⟩
def f_law : Fn := ⟨1, 10, b_law⟩
def en_law : En := ⟨"law", topS 12, ["_law_script", "_law_signs", "_law_k", "_law_left_here", "_law_size", "_law_first", "_law_text", "_law_odd", "_law_thing", "_law_j"], ["_law_script"], f_law⟩
def ens : List En := [en_is_word, en_law_mix, en_law_left, en_law_pick, en_law_is_word, en_law_other, en_law_right, en_law]
def tab : Tab := ⟨gls, ["is_word", "_law_mix", "_law_left", "_law_pick", "_law_is_word", "_law_other", "_law_right", "law"]⟩
def fns : List Fn := [f_is_word, f_law_mix, f_law_left, f_law_pick, f_law_is_word, f_law_other, f_law_right, f_law]
theorem ens_ok : ens.all (·.ok tab) = true := by decide +kernel
theorem tab_ok : tab.fnm = ens.map (·.x) := rfl
theorem fns_ok : ens.map (·.F) = fns := rfl
end K01

namespace K01
open PySem PySem.Spec PyProof.Rows L2 FK
abbrev C (k f : Nat) (vs : List Vl) (h : AH) : Option (Vl × AH) := callN fns gls 1000 k f vs h
theorem C_succ (k f : Nat) (vs : List Vl) (h : AH) (F : Fn) (e : fns[f]? = some F) : C (k + 1) f vs h = runF gls (C k) 1000 F vs h := by
  show callN fns gls 1000 (k + 1) f vs h = _
  rw [callN, e]
def mixI (c j : Int) : Int := let m := (c % 2147483629 + j * j * 7919 + 11) * 48271 % 2147483647; m * m % 1999999973
theorem mulR {i j : Int} (h1 : -(2 ^ 64) < j) (h2 : j < 2 ^ 64) : CMulB i j = true := by
  simp [CMulB]; omega
theorem c_mix (k : Nat) (c j : Int) (h : AH) (h1 : 0 ≤ j) (h2 : j < 2 ^ 60) : C (k + 1) 1 [.int c, .int j] h = some (.int (mixI c j), h) := by
  rw [C_succ k 1 _ _ f_law_mix rfl]
  have e1 : CMulB j j = true := mulR (by omega) (by omega)
  have e2 : CMulB (j * j) 7919 = true := mulR (by decide) (by decide)
  have e3 : CMulB (c % 2147483629 + j * j * 7919 + 11) 48271 = true := mulR (by decide) (by decide)
  have e4 : ∀ x : Int, CMulB (x % 2147483647) (x % 2147483647) = true := fun x => mulR (by omega) (by omega)
  simp [runF, f_law_mix, b_law_mix, evS, evE, binV, addV, fix, e1, e2, e3, e4, mixI]
/-- what is drawn from, at address a, by draw n -/
def Dr (h : AH) (a : Nat) (n : Int) : Prop := ∃ o c, h[a]? = some (.lst [.int o, .int c, .int n])
theorem c_pick (k a : Nat) (o c n many : Int) (h : AH) (e : h[a]? = some (.lst [.int o, .int c, .int n])) (hn : 0 ≤ n ∧ n < 2 ^ 50) (hm : 0 < many ∧ many < 1073741824) :
    ∃ d o', 0 ≤ d ∧ d < many ∧ C (k + 2) 3 [.ref a, .int many] h = some (.int d, h.set a (.lst [.int o', .int c, .int (n + 1)])) := by
  rw [C_succ (k + 1) 3 _ _ f_law_pick rfl]
  have hl : a < h.length := (List.getElem?_eq_some_iff.mp e).1
  have m1 : C (k + 1) 1 [.int c, .int (n + 1)] (h.set a (.lst [.int o, .int c, .int (n + 1)])) = some (.int (mixI c (n + 1)), _) := c_mix k c (n + 1) _ (by omega) (by omega)
  have m2 : C (k + 1) 1 [.int (mixI c (n + 1)), .int (n + 1 + 64)] (h.set a (.lst [.int o, .int c, .int (n + 1)])) = some (.int (mixI (mixI c (n + 1)) (n + 1 + 64)), _) := c_mix k _ (n + 1 + 64) _ (by omega) (by omega)
  have s1 : ∀ u, (h.set a u)[a]? = some u := fun u => List.getElem?_set_self hl
  by_cases ho : 0 < o
  · refine ⟨o % many, o / many, Int.emod_nonneg _ (by omega), Int.emod_lt_of_pos _ hm.1, ?_⟩
    simp [runF, f_law_pick, b_law_pick, evS, evE, evT, binV, addV, fix, ixV, seqOf, lstOf, atI, ixN, setIxV, e, s1, cmpV, ho, hm]
  · refine ⟨mixI (mixI c (n + 1)) (n + 1 + 64) / 64 % many, o, Int.emod_nonneg _ (by omega), Int.emod_lt_of_pos _ hm.1, ?_⟩
    simp [runF, f_law_pick, b_law_pick, evS, evE, evT, evA, binV, addV, fix, ixV, seqOf, lstOf, atI, ixN, setIxV, e, s1, cmpV, ho, hm, m1, m2]
theorem c_left (k : Nat) (ns : List Int) (j : Nat) (h : AH) (hj : j < 2 ^ 50) : ∃ o c, C (k + 1) 2 [.fz (ns.map .int), .int j] h = some (.fl [.int o, .int c, .int 0], h) := by
  rw [C_succ k 2 _ _ f_law_left rfl]
  have m1 : ∀ j : Int, CMulB 1000003 j = true := fun j => by simp [CMulB]
  have hat : ∀ hj : j < ns.length, atI (ns.map Vl.int) (j : Int) = some (.int ns[j]) := fun hj => by
    exact atI_nat (j := j) (by simp [hj])
  by_cases hj' : j < ns.length
  · by_cases ha : (1000000000000000000 : Int) ≤ (if ns[j] < 0 then -ns[j] else ns[j])
    · refine ⟨(if ns[j] < 0 then -ns[j] else ns[j]), ns[j] + 1000003 * j, ?_⟩
      simp [runF, f_law_left, b_law_left, evS, evE, evT, evA, evB, binV, addV, fix, ixV, seqOf, lstOf, cmpV, biV, hj', hat hj', m1, sizeLine, ha]
    · refine ⟨0, ns[j] + 1000003 * j, ?_⟩
      simp [runF, f_law_left, b_law_left, evS, evE, evT, evA, evB, binV, addV, fix, ixV, seqOf, lstOf, cmpV, biV, hj', hat hj', m1, sizeLine, ha]
  · refine ⟨0, 0 + 1000003 * j, ?_⟩
    simp [runF, f_law_left, b_law_left, evS, evE, evT, evA, evB, binV, addV, fix, ixV, seqOf, lstOf, cmpV, biV, hj', m1, sizeLine]
end K01

namespace K01
open PySem PySem.Spec PyProof.Rows L2 FK
def lets : Str := "abcdefghijklmnopqrstuvwxyz"
def figs : Str := "0123456789"
def hd0 (z : Str) : Nat := z.cps.toList.headD 0
def isW (z : Str) : Bool := decide (1 ≤ z.length) && decide (z.length ≤ 8) && sg (hd0 z) lets && z.cps.toList.all fun c => sg c lets || sg c figs
theorem at0 {z : Str} (h : 1 ≤ z.length) : atI z.cps.toList 0 = some (hd0 z) := by
  rw [str_len] at h
  unfold hd0
  cases e : z.cps.toList with
  | nil => rw [e] at h; simp at h
  | cons c r => simp [atI, ixN]
theorem gl0 : gls[0]? = some ((("LETTERS" : Str), Vl.str lets) : Str × Vl) := rfl
theorem gl1 : gls[1]? = some ((("FIGURES" : Str), Vl.str figs) : Str × Vl) := rfl
theorem gl2 : gls[2]? = some ((("MOST_SIGNS" : Str), Vl.int 8) : Str × Vl) := rfl
theorem lf_len : lets.length + figs.length ≤ sizeLine := by decide +kernel
theorem lc_signs {m : ME} {e : AE} {h : AH} {z : Str} {i : Nat} {c : MT} (g : Nat → Bool) (hc : ∀ e h, c e h = some (true, h)) (hm : ∀ c, m (e.set i (some (.str ⟨#[c]⟩))) h = some (.bl (g c), h)) :
    lcLoop (.st (sgs z)) (.name i) c m e (sgs z).length 0 [] h = some (z.cps.toList.map fun c => Vl.bl (g c), h) := by
  have L := lc_map (xs := sgs z) (tg := .name i) (c := c) (m := m) (e := e) (h := h) (fun v => match v with | .str s => .bl (g (hd0 s)) | _ => .non) hc fun x hx => by
    simp only [sgs, List.mem_map] at hx
    obtain ⟨c, _, rfl⟩ := hx
    exact ⟨trivial, _, rfl, hm c⟩
  rw [L]
  simp only [sgs, List.map_map, Function.comp_def]
  rfl
theorem c_word (k : Nat) (z : Str) (h : AH) (hz : z.length ≤ sizeLine) : C (k + 1) 0 [.str z] h = some (.bl (isW z), h) := by
  rw [C_succ k 0 _ _ f_is_word rfl]
  have kt := kit_tab.2.2.2.1
  have L := ev_lc (gl := gls) (cl := C k) (k := .seq) (it := .cons (.var 0) .nil) (c := .nil) (m := .cmp .In (.var 1) (.bin .Add (.glob 0) (.glob 1))) (tg := .name 1) (own := [1]) (e := [some (.str z), none]) (h := h) (h1 := h) (vs := [.str z]) (by simp [evE.eq_1, evE.eq_2, evE.eq_3, evE.eq_4, evE.eq_5, evE.eq_6, evE.eq_7, evE.eq_8, evE.eq_9, evE.eq_10, evE.eq_11, evE.eq_12, evE.eq_13, evE.eq_14, evE.eq_15, evE.eq_16, evE.eq_18, evE.eq_19, evE.eq_20, evT.eq_1, evT.eq_2, evT.eq_3, evT.eq_4, evT.eq_5, evA.eq_1, evA.eq_2, evB.eq_1, evB.eq_2, evO.eq_1, evO.eq_2, evS.eq_1, evS.eq_2, evS.eq_3, evS.eq_4, evS.eq_5, evS.eq_6, evS.eq_7, evS.eq_10, evS.eq_11, evS.eq_12, evS.eq_13, evS.eq_14, evS.eq_15]) (srcOf_str z h) (by rw [sgs_len]; exact hz)
    (lc_signs (fun c => sg c lets || sg c figs) evT_nil fun c => by simp [evE.eq_1, evE.eq_2, evE.eq_3, evE.eq_4, evE.eq_5, evE.eq_6, evE.eq_7, evE.eq_8, evE.eq_9, evE.eq_10, evE.eq_11, evE.eq_12, evE.eq_13, evE.eq_14, evE.eq_15, evE.eq_16, evE.eq_18, evE.eq_19, evE.eq_20, evT.eq_1, evT.eq_2, evT.eq_3, evT.eq_4, evT.eq_5, evA.eq_1, evA.eq_2, evB.eq_1, evB.eq_2, evO.eq_1, evO.eq_2, evS.eq_1, evS.eq_2, evS.eq_3, evS.eq_4, evS.eq_5, evS.eq_6, evS.eq_7, evS.eq_10, evS.eq_11, evS.eq_12, evS.eq_13, evS.eq_14, evS.eq_15, binV, addV, fix_int, fix_bl, fix_str, fix_tup, fix_ref, fix_fz, fix_ty, fix_non, fix_fl, ixV, seqOf, lstOf, lstW, slV, biV, isV, tyOf, cmpV, augV, setIxV, meV, meTy, runF, wipeE, gl0, gl1, lf_len, sign_in, sg_app])
  have B := blsOf_map z.cps.toList fun c => sg c lets || sg c figs
  by_cases h1 : 1 ≤ z.length
  · have h1' : (1 : Int) ≤ z.length := by omega
    by_cases h8 : z.length ≤ 8
    · have h8' : (z.length : Int) ≤ 8 := by omega
      by_cases hl : sg (hd0 z) lets = true
      · simp [f_is_word, b_is_word, evE.eq_1, evE.eq_2, evE.eq_3, evE.eq_4, evE.eq_5, evE.eq_6, evE.eq_7, evE.eq_8, evE.eq_9, evE.eq_10, evE.eq_11, evE.eq_12, evE.eq_13, evE.eq_14, evE.eq_15, evE.eq_16, evE.eq_18, evE.eq_19, evE.eq_20, evT.eq_1, evT.eq_2, evT.eq_3, evT.eq_4, evT.eq_5, evA.eq_1, evA.eq_2, evB.eq_1, evB.eq_2, evO.eq_1, evO.eq_2, evS.eq_1, evS.eq_2, evS.eq_3, evS.eq_4, evS.eq_5, evS.eq_6, evS.eq_7, evS.eq_10, evS.eq_11, evS.eq_12, evS.eq_13, evS.eq_14, evS.eq_15, binV, addV, fix_int, fix_bl, fix_str, fix_tup, fix_ref, fix_fz, fix_ty, fix_non, fix_fl, ixV, seqOf, lstOf, lstW, slV, biV, isV, tyOf, cmpV, augV, setIxV, meV, meTy, runF, kt, gl0, gl1, gl2, hz, at0 h1, h1, h8, h1', h8', sign_in, hl, isW, L, B, List.all_map, Function.comp_def]
      · simp [f_is_word, b_is_word, evE.eq_1, evE.eq_2, evE.eq_3, evE.eq_4, evE.eq_5, evE.eq_6, evE.eq_7, evE.eq_8, evE.eq_9, evE.eq_10, evE.eq_11, evE.eq_12, evE.eq_13, evE.eq_14, evE.eq_15, evE.eq_16, evE.eq_18, evE.eq_19, evE.eq_20, evT.eq_1, evT.eq_2, evT.eq_3, evT.eq_4, evT.eq_5, evA.eq_1, evA.eq_2, evB.eq_1, evB.eq_2, evO.eq_1, evO.eq_2, evS.eq_1, evS.eq_2, evS.eq_3, evS.eq_4, evS.eq_5, evS.eq_6, evS.eq_7, evS.eq_10, evS.eq_11, evS.eq_12, evS.eq_13, evS.eq_14, evS.eq_15, binV, addV, fix_int, fix_bl, fix_str, fix_tup, fix_ref, fix_fz, fix_ty, fix_non, fix_fl, ixV, seqOf, lstOf, lstW, slV, biV, isV, tyOf, cmpV, augV, setIxV, meV, meTy, runF, kt, gl0, gl1, gl2, hz, at0 h1, h1, h8, h1', h8', sign_in, hl, isW]
    · have h8' : ¬ ((z.length : Int) ≤ 8) := by omega
      simp [f_is_word, b_is_word, evE.eq_1, evE.eq_2, evE.eq_3, evE.eq_4, evE.eq_5, evE.eq_6, evE.eq_7, evE.eq_8, evE.eq_9, evE.eq_10, evE.eq_11, evE.eq_12, evE.eq_13, evE.eq_14, evE.eq_15, evE.eq_16, evE.eq_18, evE.eq_19, evE.eq_20, evT.eq_1, evT.eq_2, evT.eq_3, evT.eq_4, evT.eq_5, evA.eq_1, evA.eq_2, evB.eq_1, evB.eq_2, evO.eq_1, evO.eq_2, evS.eq_1, evS.eq_2, evS.eq_3, evS.eq_4, evS.eq_5, evS.eq_6, evS.eq_7, evS.eq_10, evS.eq_11, evS.eq_12, evS.eq_13, evS.eq_14, evS.eq_15, binV, addV, fix_int, fix_bl, fix_str, fix_tup, fix_ref, fix_fz, fix_ty, fix_non, fix_fl, ixV, seqOf, lstOf, lstW, slV, biV, isV, tyOf, cmpV, augV, setIxV, meV, meTy, runF, kt, gl0, gl1, gl2, hz, isW, h8, h8', h1']
  · have h1' : ¬ ((1 : Int) ≤ z.length) := by omega
    simp [f_is_word, b_is_word, evE.eq_1, evE.eq_2, evE.eq_3, evE.eq_4, evE.eq_5, evE.eq_6, evE.eq_7, evE.eq_8, evE.eq_9, evE.eq_10, evE.eq_11, evE.eq_12, evE.eq_13, evE.eq_14, evE.eq_15, evE.eq_16, evE.eq_18, evE.eq_19, evE.eq_20, evT.eq_1, evT.eq_2, evT.eq_3, evT.eq_4, evT.eq_5, evA.eq_1, evA.eq_2, evB.eq_1, evB.eq_2, evO.eq_1, evO.eq_2, evS.eq_1, evS.eq_2, evS.eq_3, evS.eq_4, evS.eq_5, evS.eq_6, evS.eq_7, evS.eq_10, evS.eq_11, evS.eq_12, evS.eq_13, evS.eq_14, evS.eq_15, binV, addV, fix_int, fix_bl, fix_str, fix_tup, fix_ref, fix_fz, fix_ty, fix_non, fix_fl, ixV, seqOf, lstOf, lstW, slV, biV, isV, tyOf, cmpV, augV, setIxV, meV, meTy, runF, kt, gl0, gl1, gl2, hz, isW, h1, h1']
end K01

namespace K01
open PySem PySem.Spec PyProof.Rows L2 FK
theorem at_some {α : Type} {xs : List α} {d : Int} (h0 : 0 ≤ d) (h1 : d < xs.length) : ∃ v, atI xs d = some v ∧ v ∈ xs := by
  obtain ⟨n, rfl⟩ := Int.eq_ofNat_of_zero_le h0
  have hn : n < xs.length := by omega
  exact ⟨xs[n], atI_nat (j := n) (List.getElem?_eq_getElem hn), List.getElem_mem hn⟩
/-- a thing that is no text -/
theorem c_no (k : Nat) (v : Vl) (t : String) (h : AH) (e : tyOf v h = some t) (n : kitB t "str" = some false) : C (k + 1) 0 [v] h = some (.bl false, h) ∧ C (k + 1) 4 [v] h = some (.bl false, h) := by
  have ei : isV v (.ty "str") h = some false := by simp only [isV, e, Option.bind_some, n]
  constructor
  · rw [C_succ k 0 _ _ f_is_word rfl]
    simp [f_is_word, b_is_word, evE.eq_1, evE.eq_2, evE.eq_3, evE.eq_4, evE.eq_5, evE.eq_6, evE.eq_7, evE.eq_8, evE.eq_9, evE.eq_10, evE.eq_11, evE.eq_12, evE.eq_13, evE.eq_14, evE.eq_15, evE.eq_16, evE.eq_18, evE.eq_19, evE.eq_20, evT.eq_1, evT.eq_2, evT.eq_3, evT.eq_4, evT.eq_5, evA.eq_1, evA.eq_2, evB.eq_1, evB.eq_2, evO.eq_1, evO.eq_2, evS.eq_1, evS.eq_2, evS.eq_3, evS.eq_4, evS.eq_5, evS.eq_6, evS.eq_7, evS.eq_10, evS.eq_11, evS.eq_12, evS.eq_13, evS.eq_14, evS.eq_15, fix_int, fix_bl, fix_str, fix_tup, fix_ref, fix_fz, fix_ty, fix_non, fix_fl, biV, runF, ei]
  · rw [C_succ k 4 _ _ f_law_is_word rfl]
    simp [f_law_is_word, b_law_is_word, evE.eq_1, evE.eq_2, evE.eq_3, evE.eq_4, evE.eq_5, evE.eq_6, evE.eq_7, evE.eq_8, evE.eq_9, evE.eq_10, evE.eq_11, evE.eq_12, evE.eq_13, evE.eq_14, evE.eq_15, evE.eq_16, evE.eq_18, evE.eq_19, evE.eq_20, evT.eq_1, evT.eq_2, evT.eq_3, evT.eq_4, evT.eq_5, evA.eq_1, evA.eq_2, evB.eq_1, evB.eq_2, evO.eq_1, evO.eq_2, evS.eq_1, evS.eq_2, evS.eq_3, evS.eq_4, evS.eq_5, evS.eq_6, evS.eq_7, evS.eq_10, evS.eq_11, evS.eq_12, evS.eq_13, evS.eq_14, evS.eq_15, fix_int, fix_bl, fix_str, fix_tup, fix_ref, fix_fz, fix_ty, fix_non, fix_fl, biV, runF, ei]
theorem c_lword (k : Nat) (z : Str) (h : AH) (hz : z.length ≤ sizeLine) : C (k + 1) 4 [.str z] h = some (.bl (isW z), h) := by
  rw [C_succ k 4 _ _ f_law_is_word rfl]
  have kt := kit_tab.2.2.2.1
  have L := ev_lc (gl := gls) (cl := C k) (k := .seq) (it := .cons (.var 0) .nil) (c := .nil) (m := .or (.cmp .In (.var 2) (.var 1)) (.cmp .In (.var 2) (.cst (.str "0123456789")))) (tg := .name 2) (own := [2]) (e := [some (.str z), some (.str "abcdefghijklmnopqrstuvwxyz"), none]) (h := h) (h1 := h) (vs := [.str z]) (by simp [evE.eq_1, evE.eq_2, evE.eq_3, evE.eq_4, evE.eq_5, evE.eq_6, evE.eq_7, evE.eq_8, evE.eq_9, evE.eq_10, evE.eq_11, evE.eq_12, evE.eq_13, evE.eq_14, evE.eq_15, evE.eq_16, evE.eq_18, evE.eq_19, evE.eq_20, evT.eq_1, evT.eq_2, evT.eq_3, evT.eq_4, evT.eq_5, evA.eq_1, evA.eq_2, evB.eq_1, evB.eq_2, evO.eq_1, evO.eq_2, evS.eq_1, evS.eq_2, evS.eq_3, evS.eq_4, evS.eq_5, evS.eq_6, evS.eq_7, evS.eq_10, evS.eq_11, evS.eq_12, evS.eq_13, evS.eq_14, evS.eq_15]) (srcOf_str z h) (by rw [sgs_len]; exact hz)
    (lc_signs (fun c => sg c lets || sg c figs) evT_nil fun c => by
      show evE gls (C k) _ _ _ = _
      cases e : sg c lets with
      | true =>
        have e' : sg c "abcdefghijklmnopqrstuvwxyz" = true := e
        simp [evE.eq_1, evE.eq_2, evE.eq_3, evE.eq_4, evE.eq_5, evE.eq_6, evE.eq_7, evE.eq_8, evE.eq_9, evE.eq_10, evE.eq_11, evE.eq_12, evE.eq_13, evE.eq_14, evE.eq_15, evE.eq_16, evE.eq_18, evE.eq_19, evE.eq_20, evT.eq_1, evT.eq_2, evT.eq_3, evT.eq_4, evT.eq_5, evA.eq_1, evA.eq_2, evB.eq_1, evB.eq_2, evO.eq_1, evO.eq_2, evS.eq_1, evS.eq_2, evS.eq_3, evS.eq_4, evS.eq_5, evS.eq_6, evS.eq_7, evS.eq_10, evS.eq_11, evS.eq_12, evS.eq_13, evS.eq_14, evS.eq_15, binV, addV, fix_int, fix_bl, fix_str, fix_tup, fix_ref, fix_fz, fix_ty, fix_non, fix_fl, ixV, seqOf, lstOf, lstW, slV, biV, isV, tyOf, cmpV, augV, setIxV, meV, meTy, runF, wipeE, sign_in, e']
      | false =>
        have e' : sg c "abcdefghijklmnopqrstuvwxyz" = false := e
        simp [evE.eq_1, evE.eq_2, evE.eq_3, evE.eq_4, evE.eq_5, evE.eq_6, evE.eq_7, evE.eq_8, evE.eq_9, evE.eq_10, evE.eq_11, evE.eq_12, evE.eq_13, evE.eq_14, evE.eq_15, evE.eq_16, evE.eq_18, evE.eq_19, evE.eq_20, evT.eq_1, evT.eq_2, evT.eq_3, evT.eq_4, evT.eq_5, evA.eq_1, evA.eq_2, evB.eq_1, evB.eq_2, evO.eq_1, evO.eq_2, evS.eq_1, evS.eq_2, evS.eq_3, evS.eq_4, evS.eq_5, evS.eq_6, evS.eq_7, evS.eq_10, evS.eq_11, evS.eq_12, evS.eq_13, evS.eq_14, evS.eq_15, binV, addV, fix_int, fix_bl, fix_str, fix_tup, fix_ref, fix_fz, fix_ty, fix_non, fix_fl, ixV, seqOf, lstOf, lstW, slV, biV, isV, tyOf, cmpV, augV, setIxV, meV, meTy, runF, wipeE, sign_in, e', figs])
  have B := blsOf_map z.cps.toList fun c => sg c lets || sg c figs
  by_cases h1 : 1 ≤ z.length
  · have h1' : ¬ ((z.length : Int) < 1) := by omega
    by_cases h8 : z.length ≤ 8
    · have h8' : ¬ (8 < (z.length : Int)) := by omega
      cases hl : sg (hd0 z) lets with
      | true =>
        have hl' : sg (hd0 z) "abcdefghijklmnopqrstuvwxyz" = true := hl
        simp [f_law_is_word, b_law_is_word, evE.eq_1, evE.eq_2, evE.eq_3, evE.eq_4, evE.eq_5, evE.eq_6, evE.eq_7, evE.eq_8, evE.eq_9, evE.eq_10, evE.eq_11, evE.eq_12, evE.eq_13, evE.eq_14, evE.eq_15, evE.eq_16, evE.eq_18, evE.eq_19, evE.eq_20, evT.eq_1, evT.eq_2, evT.eq_3, evT.eq_4, evT.eq_5, evA.eq_1, evA.eq_2, evB.eq_1, evB.eq_2, evO.eq_1, evO.eq_2, evS.eq_1, evS.eq_2, evS.eq_3, evS.eq_4, evS.eq_5, evS.eq_6, evS.eq_7, evS.eq_10, evS.eq_11, evS.eq_12, evS.eq_13, evS.eq_14, evS.eq_15, binV, addV, fix_int, fix_bl, fix_str, fix_tup, fix_ref, fix_fz, fix_ty, fix_non, fix_fl, ixV, seqOf, lstOf, lstW, slV, biV, isV, tyOf, cmpV, augV, setIxV, meV, meTy, runF, kt, hz, at0 h1, h1, h8, h1', h8', sign_in, hl', hl, isW, L, B, List.all_map, Function.comp_def]
      | false =>
        have hl' : sg (hd0 z) "abcdefghijklmnopqrstuvwxyz" = false := hl
        simp [f_law_is_word, b_law_is_word, evE.eq_1, evE.eq_2, evE.eq_3, evE.eq_4, evE.eq_5, evE.eq_6, evE.eq_7, evE.eq_8, evE.eq_9, evE.eq_10, evE.eq_11, evE.eq_12, evE.eq_13, evE.eq_14, evE.eq_15, evE.eq_16, evE.eq_18, evE.eq_19, evE.eq_20, evT.eq_1, evT.eq_2, evT.eq_3, evT.eq_4, evT.eq_5, evA.eq_1, evA.eq_2, evB.eq_1, evB.eq_2, evO.eq_1, evO.eq_2, evS.eq_1, evS.eq_2, evS.eq_3, evS.eq_4, evS.eq_5, evS.eq_6, evS.eq_7, evS.eq_10, evS.eq_11, evS.eq_12, evS.eq_13, evS.eq_14, evS.eq_15, binV, addV, fix_int, fix_bl, fix_str, fix_tup, fix_ref, fix_fz, fix_ty, fix_non, fix_fl, ixV, seqOf, lstOf, lstW, slV, biV, isV, tyOf, cmpV, augV, setIxV, meV, meTy, runF, kt, hz, at0 h1, h1, h8, h1', h8', sign_in, hl', hl, isW]
    · have h8' : 8 < (z.length : Int) := by omega
      simp [f_law_is_word, b_law_is_word, evE.eq_1, evE.eq_2, evE.eq_3, evE.eq_4, evE.eq_5, evE.eq_6, evE.eq_7, evE.eq_8, evE.eq_9, evE.eq_10, evE.eq_11, evE.eq_12, evE.eq_13, evE.eq_14, evE.eq_15, evE.eq_16, evE.eq_18, evE.eq_19, evE.eq_20, evT.eq_1, evT.eq_2, evT.eq_3, evT.eq_4, evT.eq_5, evA.eq_1, evA.eq_2, evB.eq_1, evB.eq_2, evO.eq_1, evO.eq_2, evS.eq_1, evS.eq_2, evS.eq_3, evS.eq_4, evS.eq_5, evS.eq_6, evS.eq_7, evS.eq_10, evS.eq_11, evS.eq_12, evS.eq_13, evS.eq_14, evS.eq_15, binV, addV, fix_int, fix_bl, fix_str, fix_tup, fix_ref, fix_fz, fix_ty, fix_non, fix_fl, ixV, seqOf, lstOf, lstW, slV, biV, isV, tyOf, cmpV, augV, setIxV, meV, meTy, runF, kt, hz, isW, h8, h8', h1']
  · have h1' : (z.length : Int) < 1 := by omega
    simp [f_law_is_word, b_law_is_word, evE.eq_1, evE.eq_2, evE.eq_3, evE.eq_4, evE.eq_5, evE.eq_6, evE.eq_7, evE.eq_8, evE.eq_9, evE.eq_10, evE.eq_11, evE.eq_12, evE.eq_13, evE.eq_14, evE.eq_15, evE.eq_16, evE.eq_18, evE.eq_19, evE.eq_20, evT.eq_1, evT.eq_2, evT.eq_3, evT.eq_4, evT.eq_5, evA.eq_1, evA.eq_2, evB.eq_1, evB.eq_2, evO.eq_1, evO.eq_2, evS.eq_1, evS.eq_2, evS.eq_3, evS.eq_4, evS.eq_5, evS.eq_6, evS.eq_7, evS.eq_10, evS.eq_11, evS.eq_12, evS.eq_13, evS.eq_14, evS.eq_15, binV, addV, fix_int, fix_bl, fix_str, fix_tup, fix_ref, fix_fz, fix_ty, fix_non, fix_fl, ixV, seqOf, lstOf, lstW, slV, biV, isV, tyOf, cmpV, augV, setIxV, meV, meTy, runF, kt, hz, isW, h1, h1']
theorem c_right (k : Nat) (v : Vl) (h : AH) (b : Bool) (s : Str) (nf : noFl v) (hw : C (k + 1) 0 [v] h = some (.bl b, h)) (hw' : C (k + 1) 4 [v] h = some (.bl b, h)) (hs : strV v h = some s) : C (k + 2) 6 [v] h = some (.bl true, h) := by
  rw [C_succ (k + 1) 6 _ _ f_law_right rfl]
  have kt := kit_tab.2.2.2.2.2.2.2.1
  have fx : fix v h = (v, h) := fix_no nf
  have F := ev_for (gl := gls) (cl := C (k + 1)) (fu := 1000) (k := .rng) (it := .cons (.cst (.int 2)) .nil) (tg := .name 2) (e := [some v, some (.str s), none, none]) (h := h) (h1 := h) (vs := [.int 2]) (xs := [.int 0, .int 1])
    (b := .seq (.set 3 (.call 0 (.cons (.var 0) .nil))) (.seq (.ifs (.or (.not (.val (.bi .isinstance (.cons (.var 3) (.cons (.bty "bool") .nil))))) (.val (.cmp .NotEq (.var 3) (.call 4 (.cons (.var 0) .nil))))) (.seq (.ret (.cst (.bl false))) .nil) .nil) .nil)) (r := some (.nx, [some v, some (.str s), some (.int 1), some (.bl b)], h)) (by simp [evE.eq_1, evE.eq_2, evE.eq_3, evE.eq_4, evE.eq_5, evE.eq_6, evE.eq_7, evE.eq_8, evE.eq_9, evE.eq_10, evE.eq_11, evE.eq_12, evE.eq_13, evE.eq_14, evE.eq_15, evE.eq_16, evE.eq_18, evE.eq_19, evE.eq_20, evT.eq_1, evT.eq_2, evT.eq_3, evT.eq_4, evT.eq_5, evA.eq_1, evA.eq_2, evB.eq_1, evB.eq_2, evO.eq_1, evO.eq_2, evS.eq_1, evS.eq_2, evS.eq_3, evS.eq_4, evS.eq_5, evS.eq_6, evS.eq_7, evS.eq_10, evS.eq_11, evS.eq_12, evS.eq_13, evS.eq_14, evS.eq_15]) rfl
    (by simp [forLoop, Src.get, asg, evE.eq_1, evE.eq_2, evE.eq_3, evE.eq_4, evE.eq_5, evE.eq_6, evE.eq_7, evE.eq_8, evE.eq_9, evE.eq_10, evE.eq_11, evE.eq_12, evE.eq_13, evE.eq_14, evE.eq_15, evE.eq_16, evE.eq_18, evE.eq_19, evE.eq_20, evT.eq_1, evT.eq_2, evT.eq_3, evT.eq_4, evT.eq_5, evA.eq_1, evA.eq_2, evB.eq_1, evB.eq_2, evO.eq_1, evO.eq_2, evS.eq_1, evS.eq_2, evS.eq_3, evS.eq_4, evS.eq_5, evS.eq_6, evS.eq_7, evS.eq_10, evS.eq_11, evS.eq_12, evS.eq_13, evS.eq_14, evS.eq_15, biV, isV, tyOf, kt, fx, hw, hw', cmpV, FK.eqV, fix_int, fix_bl, fix_str, fix_tup, fix_ref, fix_fz, fix_ty, fix_non, fix_fl])
  simp [f_law_right, b_law_right, evE.eq_1, evE.eq_2, evE.eq_3, evE.eq_4, evE.eq_5, evE.eq_6, evE.eq_7, evE.eq_8, evE.eq_9, evE.eq_10, evE.eq_11, evE.eq_12, evE.eq_13, evE.eq_14, evE.eq_15, evE.eq_16, evE.eq_18, evE.eq_19, evE.eq_20, evT.eq_1, evT.eq_2, evT.eq_3, evT.eq_4, evT.eq_5, evA.eq_1, evA.eq_2, evB.eq_1, evB.eq_2, evO.eq_1, evO.eq_2, evS.eq_1, evS.eq_2, evS.eq_3, evS.eq_4, evS.eq_5, evS.eq_6, evS.eq_7, evS.eq_10, evS.eq_11, evS.eq_12, evS.eq_13, evS.eq_14, evS.eq_15, runF, biV, hs, F, fix_int, fix_bl, fix_str, fix_tup, fix_ref, fix_fz, fix_ty, fix_non, fix_fl, cmpV, FK.eqV]
end K01

namespace K01
open PySem PySem.Spec PyProof.Rows L2 FK
theorem c_pickA (k : Nat) (h t : AH) (o c n many : Int) (hn : 0 ≤ n ∧ n < 2 ^ 50) (hm : 0 < many ∧ many < 1073741824) :
    ∃ d o' n', n' = n + 1 ∧ 0 ≤ d ∧ d < many ∧ C (k + 2) 3 [.ref h.length, .int many] (h ++ .lst [.int o, .int c, .int n] :: t) = some (.int d, h ++ .lst [.int o', .int c, .int n'] :: t) := by
  obtain ⟨d, o', h1, h2, h3⟩ := c_pick k h.length o c n many (h ++ .lst [.int o, .int c, .int n] :: t) (by simp) hn hm
  refine ⟨d, o', n + 1, rfl, h1, h2, ?_⟩
  rw [h3]
  simp
theorem cut_mem {z : Str} {lo hi : Option Int} {c : Nat} (h : c ∈ (cutS z lo hi).cps.toList) : c ∈ z.cps.toList := by
  unfold cutS at h
  simp only [List.toList_toArray] at h
  exact List.mem_of_mem_drop (List.mem_of_mem_take h)
theorem cut_len (z : Str) (lo hi : Option Int) : (cutS z lo hi).length ≤ z.length := by
  rw [str_len, str_len]
  unfold cutS
  simp only [List.toList_toArray, List.length_take, List.length_drop]
  omega
theorem one_len (c : Nat) : (⟨#[c]⟩ : Str).length = 1 := rfl
def sgO : Str := "abcdefghijklmnopqrstuvwxyzABCDEFGHIJKLMNOPQRSTUVWXYZ0123456789 _-.,:/()~"
def sgN : Str := "\n"
theorem sgO_len : (sgO ++ sgN).length = 73 := by decide +kernel
theorem c_other (k : Nat) (h t : AH) (o c n : Int) (z : Str) (hn : 0 ≤ n ∧ n < 2 ^ 40) (hz : z.length ≤ 100) :
    ∃ z' o' n', n' = n + 3 ∧ z'.length ≤ sizeLine ∧ C (k + 3) 5 [.ref h.length, .str z] (h ++ .lst [.int o, .int c, .int n] :: t) = some (.str z', h ++ .lst [.int o', .int c, .int n'] :: t) := by
  rw [C_succ (k + 2) 5 _ _ f_law_other rfl]
  obtain ⟨w, o1, n1, en1, w0, w1, e1⟩ := c_pickA k h t o c n 3 (by omega) (by omega)
  obtain ⟨d, o2, n2, en2, d0, d1, e2⟩ := c_pickA k h t o1 c n1 (z.length + 1) (by omega) (by omega)
  obtain ⟨g, o3, n3, en3, g0, g1, e3⟩ := c_pickA k h t o2 c n2 73 (by omega) (by omega)
  obtain ⟨ch, c0, _⟩ := at_some (xs := (sgO ++ sgN).cps.toList) (d := g) g0 (by rw [← str_len, sgO_len]; exact g1)
  have q1 : sgO.length + sgN.length ≤ sizeLine := by decide +kernel
  have q2 : (sgO ++ sgN).length ≤ sizeLine := by rw [sgO_len]; decide
  have z1 : z.length ≤ sizeLine := Nat.le_trans hz (by decide)
  have sz : (300 : Nat) ≤ sizeLine := by decide
  have p1 : (cutS z none (some d)).length + (⟨#[ch]⟩ : Str).length ≤ sizeLine := by have := cut_len z none (some d); rw [one_len]; omega
  have p2 : ∀ y, (cutS z none (some d) ++ ⟨#[ch]⟩).length + (cutS z (some y) none).length ≤ sizeLine := fun y => by
    have := cut_len z none (some d)
    have := cut_len z (some y) none
    rw [app_len, one_len]; omega
  have p3 : ∀ y, (cutS z none (some d)).length + (cutS z (some y) none).length ≤ sizeLine := fun y => by
    have := cut_len z none (some d)
    have := cut_len z (some y) none
    omega
  obtain ⟨v, a0, a1⟩ := at_some (xs := [Vl.str (cutS z none (some d) ++ ⟨#[ch]⟩ ++ cutS z (some d) none), .str (cutS z none (some d) ++ cutS z (some (d + 1)) none), .str (cutS z none (some d) ++ ⟨#[ch]⟩ ++ cutS z (some (d + 1)) none)]) (d := w) w0 w1
  have key : ∃ z', v = .str z' ∧ z'.length ≤ sizeLine := by
    simp only [List.mem_cons, List.not_mem_nil, or_false] at a1
    rcases a1 with rfl | rfl | rfl
    · exact ⟨_, rfl, by rw [app_len]; exact p2 d⟩
    · exact ⟨_, rfl, by rw [app_len]; exact p3 (d + 1)⟩
    · exact ⟨_, rfl, by rw [app_len]; exact p2 (d + 1)⟩
  obtain ⟨z', rfl, hz'⟩ := key
  refine ⟨z', o3, n3, by omega, hz', ?_⟩
  have b5 : b_law_other = .seq (.set 2 (.call 3 (.cons (.var 0) (.cons (.cst (.int 3)) .nil)))) (.seq (.set 3 (.call 3 (.cons (.var 0) (.cons (.bin .Add (.bi .len (.cons (.var 1) .nil)) (.cst (.int 1))) .nil)))) (.seq (.set 4 (.bin .Add (.cst (.str sgO)) (.cst (.str sgN)))) (.seq (.set 5 (.ix (.var 4) (.call 3 (.cons (.var 0) (.cons (.bi .len (.cons (.var 4) .nil)) .nil))))) (.seq (.ret (.ix (.lst (.cons (.bin .Add (.bin .Add (.sl (.var 1) .nil (.cons (.var 3) .nil)) (.var 5)) (.sl (.var 1) (.cons (.var 3) .nil) .nil)) (.cons (.bin .Add (.sl (.var 1) .nil (.cons (.var 3) .nil)) (.sl (.var 1) (.cons (.bin .Add (.var 3) (.cst (.int 1))) .nil) .nil)) (.cons (.bin .Add (.bin .Add (.sl (.var 1) .nil (.cons (.var 3) .nil)) (.var 5)) (.sl (.var 1) (.cons (.bin .Add (.var 3) (.cst (.int 1))) .nil) .nil)) .nil)))) (.var 2))) .nil)))) := rfl
  have l73 : (((sgO ++ sgN).length : Nat) : Int) = 73 := by rw [sgO_len]; rfl
  simp [f_law_other, b5, evE.eq_1, evE.eq_2, evE.eq_3, evE.eq_4, evE.eq_5, evE.eq_6, evE.eq_7, evE.eq_8, evE.eq_9, evE.eq_10, evE.eq_11, evE.eq_12, evE.eq_13, evE.eq_14, evE.eq_15, evE.eq_16, evE.eq_18, evE.eq_19, evE.eq_20, evT.eq_1, evT.eq_2, evT.eq_3, evT.eq_4, evT.eq_5, evA.eq_1, evA.eq_2, evB.eq_1, evB.eq_2, evO.eq_1, evO.eq_2, evS.eq_1, evS.eq_2, evS.eq_3, evS.eq_4, evS.eq_5, evS.eq_6, evS.eq_7, evS.eq_10, evS.eq_11, evS.eq_12, evS.eq_13, evS.eq_14, evS.eq_15, binV, addV, fix_int, fix_bl, fix_str, fix_tup, fix_ref, fix_fz, fix_ty, fix_non, fix_fl, ixV, seqOf, lstOf, lstW, slV, biV, isV, tyOf, cmpV, augV, setIxV, meV, meTy, runF, e1, e2, e3, z1, q1, q2, l73, c0, p1, p2, p3, a0, -List.append_assoc, show (3 : Nat) ≤ sizeLine by decide]
end K01

namespace K01
open PySem PySem.Spec PyProof.Rows L2 FK
def sgA : Str := "abcdefghijklmnopqrstuvwxyz0123456789"
theorem sgA_len : sgA.length = 36 := by decide +kernel
theorem sgA_small : smallS sgA := by
  have q : sgA.cps.toList.all (fun c => decide (c < 16 ^ 8)) = true := by decide +kernel
  intro c hc
  simpa using List.all_eq_true.mp q c hc
def eltS : Ex := .ix (.var 1) (.call 3 (.cons (.var 3) (.cons (.cst (.int 36)) .nil)))
def oddE : Ex := .lst (.cons (.cst .non) (.cons (.cst (.bl true)) (.cons (.cst (.int 7)) (.cons (.neg (.cst (.int 1))) (.cons (.tup (.cons (.var 6) .nil)) (.cons (.lst (.cons (.var 6) .nil)) (.cons (.tup .nil) (.cons (.lst .nil) (.cons (.tup (.cons (.cst (.str "a")) (.cons (.cst (.str "b")) .nil))) (.cons (.cst (.int 0)) .nil))))))))))
def tstS : Sx := .seq (.ifs (.not (.val (.call 6 (.cons (.var 8) .nil)))) (.seq (.ret (.cst (.bl false))) .nil) .nil) .nil
def bodyS : Sx := .seq (.set 3 (.call 2 (.cons (.var 0) (.cons (.var 2) .nil)))) (.seq (.set 4 (.call 3 (.cons (.var 3) (.cons (.cst (.int 10)) .nil)))) (.seq (.set 5 (.ix (.var 1) (.call 3 (.cons (.var 3) (.cons (.ix (.lst (.cons (.cst (.int 26)) (.cons (.cst (.int 36)) .nil))) (.call 3 (.cons (.var 3) (.cons (.cst (.int 2)) .nil)))) .nil)))))
  (.seq (.set 6 (.sl (.bin .Add (.var 5) (.me .join (.cst (.str "")) (.cons (.lc .rng (.cons (.cst (.int 9)) .nil) (.name 9) [9] .nil eltS) .nil))) .nil (.cons (.var 4) .nil)))
  (.seq (.set 7 (.ix oddE (.call 3 (.cons (.var 3) (.cons (.cst (.int 10)) .nil)))))
  (.seq (.for_ .seq (.cons (.tup (.cons (.var 6) (.cons (.call 5 (.cons (.var 3) (.cons (.var 6) .nil))) (.cons (.call 5 (.cons (.var 3) (.cons (.var 6) .nil))) (.cons (.var 7) .nil))))) .nil) (.name 8) tstS) .nil)))))
theorem b_law_eq : b_law = .seq (.set 1 (.cst (.str sgA))) (.seq (.for_ .rng (.cons (.bin .Add (.cst (.int 1)) (.bi .len (.cons (.sl (.var 0) .nil (.cons (.cst (.int 62)) .nil)) .nil))) .nil) (.name 2) bodyS) (.seq (.ret (.cst (.bl true))) .nil)) := rfl
/-- one letter drawn -/
theorem c_letter (k : Nat) (h t : AH) (o c n : Int) (many : Int) (hn : 0 ≤ n ∧ n < 2 ^ 50) (hm : 0 < many ∧ many ≤ 36) :
    ∃ d o' n' ch, n' = n + 1 ∧ C (k + 2) 3 [.ref h.length, .int many] (h ++ .lst [.int o, .int c, .int n] :: t) = some (.int d, h ++ .lst [.int o', .int c, .int n'] :: t) ∧ ixV (.str sgA) (.int d) (h ++ .lst [.int o', .int c, .int n'] :: t) = some (.str ⟨#[ch]⟩) ∧ ch ∈ sgA.cps.toList := by
  obtain ⟨d, o', n', en, d0, d1, e⟩ := c_pickA k h t o c n many hn (by omega)
  obtain ⟨ch, c0, c1⟩ := at_some (xs := sgA.cps.toList) (d := d) d0 (by rw [← str_len, sgA_len]; omega)
  refine ⟨d, o', n', ch, en, e, ?_, c1⟩
  simp only [ixV, c0, Option.map_some]
  rw [if_pos (by rw [sgA_len]; decide)]
theorem small1 {ch : Nat} (h : ch ∈ sgA.cps.toList) : smallS ⟨#[ch]⟩ := fun c hc => by
  have : c = ch := by simpa using hc
  subst this
  exact sgA_small c h
theorem small_app {a b : Str} (ha : smallS a) (hb : smallS b) : smallS (a ++ b) := fun c hc => by
  rw [str_app] at hc
  rcases List.mem_append.mp hc with z | z
  · exact ha c z
  · exact hb c z
theorem small_cut {a : Str} (ha : smallS a) (lo hi : Option Int) : smallS (cutS a lo hi) := fun c hc => ha c (cut_mem hc)
theorem join_small : ∀ (ss : List Str), (∀ s ∈ ss, s.length ≤ 1 ∧ smallS s) → smallS (Str.join "" ss) ∧ (Str.join "" ss).length ≤ ss.length
  | [], _ => ⟨(fun c hc => nomatch hc), Nat.le_refl _⟩
  | [x], h => ⟨(h x (by simp)).2, (h x (by simp)).1⟩
  | x :: y :: r, h => by
    obtain ⟨h1, h2⟩ := join_small (y :: r) fun s hs => h s (List.mem_cons_of_mem _ hs)
    have h3 := h x (by simp)
    have es : smallS (Str.ofString "") := fun c hc => by
      have : (Str.ofString "").cps.toList = [] := by decide +kernel
      rw [this] at hc; cases hc
    have e0 : (Str.ofString "").length = 0 := by decide +kernel
    show smallS (x ++ "" ++ Str.join "" (y :: r)) ∧ (x ++ "" ++ Str.join "" (y :: r)).length ≤ _
    refine ⟨small_app (small_app h3.2 es) h1, ?_⟩
    rw [app_len, app_len, e0]
    simp only [List.length_cons] at h2 ⊢
    omega
/-- nine letters -/
theorem c_nine (k : Nat) (h t : AH) (o c n : Int) (hn : 0 ≤ n ∧ n < 2 ^ 40) (e : AE) (h1 : e[1]? = some (some (.str sgA))) (h3 : e[3]? = some (some (.ref h.length))) :
    ∃ (ss : List Str) (o' n' : Int), n' = n + 9 ∧ ss.length = 9 ∧ (∀ s ∈ ss, s.length ≤ 1 ∧ smallS s) ∧ evE gls (C (k + 2)) (.lc .rng (.cons (.cst (.int 9)) .nil) (.name 9) [9] .nil eltS) e (h ++ .lst [.int o, .int c, .int n] :: t) = some (.fl (ss.map .str), h ++ .lst [.int o', .int c, .int n'] :: t) := by
  obtain ⟨ys, h', r, ss, o', q1, q2, q3, q4⟩ := lc_inv (xs := rngL 0 9) (tg := .name 9) (c := evT gls (C (k + 2)) .nil) (m := evE gls (C (k + 2)) eltS) (e := wipeE e [9]) (h := h ++ .lst [.int o, .int c, .int n] :: t)
    (fun i acc h' => ∃ (ss : List Str) (o' : Int), acc = ss.map .str ∧ ss.length = i ∧ (∀ s ∈ ss, s.length ≤ 1 ∧ smallS s) ∧ h' = h ++ .lst [.int o', .int c, .int (n + i)] :: t) ⟨[], o, rfl, rfl, (fun s hs => nomatch hs), by simp⟩ (by
      intro i x acc h' hx ⟨ss, o', a1, a2, a3, a4⟩
      refine ⟨_, rfl, .inr ?_⟩
      have hi : i < 9 := by
        have := (List.getElem?_eq_some_iff.mp hx).1
        simpa [rngL] using this
      obtain ⟨d, o2, n2, ch, en2, p1, p2, p3⟩ := c_letter k h t o' c (n + i) 36 (by omega) (by omega)
      have g1 : ((wipeE e [9]).set 9 (some x))[1]? = some (some (.str sgA)) := by
        rw [List.getElem?_set_ne (by decide)]
        show (e.set 9 none)[1]? = _
        rw [List.getElem?_set_ne (by decide)]; exact h1
      have g3 : ((wipeE e [9]).set 9 (some x))[3]? = some (some (.ref h.length)) := by
        rw [List.getElem?_set_ne (by decide)]
        show (e.set 9 none)[3]? = _
        rw [List.getElem?_set_ne (by decide)]; exact h3
      refine ⟨h', .str ⟨#[ch]⟩, _, evT_nil _ _, by subst a4; simp only [eltS, evE.eq_1, evE.eq_2, evE.eq_3, evE.eq_4, evE.eq_5, evE.eq_6, evE.eq_7, evE.eq_8, evE.eq_9, evE.eq_10, evE.eq_11, evE.eq_12, evE.eq_13, evE.eq_14, evE.eq_15, evE.eq_16, evE.eq_18, evE.eq_19, evE.eq_20, evT.eq_1, evT.eq_2, evT.eq_3, evT.eq_4, evT.eq_5, evA.eq_1, evA.eq_2, evB.eq_1, evB.eq_2, evO.eq_1, evO.eq_2, evS.eq_1, evS.eq_2, evS.eq_3, evS.eq_4, evS.eq_5, evS.eq_6, evS.eq_7, evS.eq_10, evS.eq_11, evS.eq_12, evS.eq_13, evS.eq_14, evS.eq_15, g1, g3, fix_int, fix_bl, fix_str, fix_tup, fix_ref, fix_fz, fix_ty, fix_non, fix_fl, p1, p2]; rfl, ss ++ [⟨#[ch]⟩], o2, ?_, ?_, ?_, ?_⟩
      · rw [fix_str, a1, List.map_append]; rfl
      · simp [a2]
      · intro s hs
        rcases List.mem_append.mp hs with z | z
        · exact a3 s z
        · obtain rfl : s = ⟨#[ch]⟩ := by simpa using z
          exact ⟨Nat.le_refl _, small1 p3⟩
      · rw [fix_str]
        have : n + ((i + 1 : Nat) : Int) = n2 := by omega
        rw [this])
  refine ⟨ss, o', n + 9, rfl, q2, q3, ?_⟩
  have e9 : (rngL 0 9).length = 9 := rfl
  rw [e9] at q4 r
  rw [← q1, show n + 9 = n + ((9 : Nat) : Int) from rfl, ← q4]
  exact ev_lc (vs := [.int 9]) (by simp [evE.eq_1, evE.eq_2, evE.eq_3, evE.eq_4, evE.eq_5, evE.eq_6, evE.eq_7, evE.eq_8, evE.eq_9, evE.eq_10, evE.eq_11, evE.eq_12, evE.eq_13, evE.eq_14, evE.eq_15, evE.eq_16, evE.eq_18, evE.eq_19, evE.eq_20, evT.eq_1, evT.eq_2, evT.eq_3, evT.eq_4, evT.eq_5, evA.eq_1, evA.eq_2, evB.eq_1, evB.eq_2, evO.eq_1, evO.eq_2, evS.eq_1, evS.eq_2, evS.eq_3, evS.eq_4, evS.eq_5, evS.eq_6, evS.eq_7, evS.eq_10, evS.eq_11, evS.eq_12, evS.eq_13, evS.eq_14, evS.eq_15]) rfl (by decide) r
end K01

namespace K01
open PySem PySem.Spec PyProof.Rows L2 FK
theorem strV_of {v : Vl} {h : AH} {d : PyData} (nv : ∀ s, v ≠ .str s) (e : toD 66 h v = some d) (h1 : d.showable = true) (h2 : d.hasDict = false) (h3 : d.depth ≤ 64) (h4 : okD d) (h5 : szD d ≤ sizeLine) : strV v h = some d.shown := by
  unfold strV
  split
  · rename_i s; exact absurd rfl (nv s)
  · rw [e]
    simp only [h1, h2, Bool.not_false, Bool.and_true, Bool.true_and, Bool.and_eq_true, decide_eq_true_eq]
    rw [if_pos ⟨h3, Nat.le_trans (shown_le d h4) h5⟩]
/-- what the odd thing may be -/
def odds (m : Nat) (z : Str) : List Vl := [.non, .bl true, .int 7, .int (-1), .tup [.str z], .ref (m + 2), .tup [], .ref (m + 3), .tup [.str "a", .str "b"], .int 0]
def hpO (h : AH) (L T : Ob) (z : Str) : AH := h ++ L :: [T, .lst [.str z], .lst []]
theorem hpO_2 (h : AH) (L T : Ob) (z : Str) : (hpO h L T z)[h.length + 2]? = some (.lst [.str z]) := by simp [hpO]
theorem hpO_3 (h : AH) (L T : Ob) (z : Str) : (hpO h L T z)[h.length + 3]? = some (.lst []) := by simp [hpO]
theorem right_odd (k : Nat) (h : AH) (L T : Ob) (z : Str) (hz : z.length ≤ 100) (sm : smallS z) (v : Vl) (hv : v ∈ odds h.length z) : C (k + 2) 6 [v] (hpO h L T z) = some (.bl true, hpO h L T z) := by
  obtain ⟨k1, k2, k3, k4, k5, k6, _⟩ := kit_tab
  have go : ∀ v t d, noFl v → (∀ s, v ≠ .str s) → tyOf v (hpO h L T z) = some t → kitB t "str" = some false → toD 66 (hpO h L T z) v = some d → d.showable = true → d.hasDict = false → d.depth ≤ 64 → okD d → szD d ≤ sizeLine →
      C (k + 2) 6 [v] (hpO h L T z) = some (.bl true, hpO h L T z) := fun v t d nf nv ty kb td a1 a2 a3 a4 a5 => by
    obtain ⟨w1, w2⟩ := c_no k v t _ ty kb
    exact c_right k v _ false d.shown nf w1 w2 (strV_of nv td a1 a2 a3 a4 a5)
  have big : (2000 : Nat) ≤ sizeLine := by decide
  have sa : smallS (Str.ofString "a") := fun c hc => by
    have : (Str.ofString "a").cps.toList = [97] := by decide +kernel
    rw [this] at hc
    obtain rfl : c = 97 := by simpa using hc
    decide
  have sb : smallS (Str.ofString "b") := fun c hc => by
    have : (Str.ofString "b").cps.toList = [98] := by decide +kernel
    rw [this] at hc
    obtain rfl : c = 98 := by simpa using hc
    decide
  have la : (Str.ofString "a").length = 1 := by decide +kernel
  have lb : (Str.ofString "b").length = 1 := by decide +kernel
  have l7 : (7 : Int).natAbs.log2 = 2 := by decide
  have l1 : (-1 : Int).natAbs.log2 = 0 := by decide
  have l0 : (0 : Int).natAbs.log2 = 0 := by decide
  simp only [odds, List.mem_cons, List.not_mem_nil, or_false] at hv
  rcases hv with rfl | rfl | rfl | rfl | rfl | rfl | rfl | rfl | rfl | rfl
  · exact go _ "NoneType" .none trivial (fun s => nofun) rfl k1 rfl rfl rfl (by decide) trivial (by simp only [szD]; omega)
  · exact go _ "bool" (.bool true) trivial (fun s => nofun) rfl k2 rfl rfl rfl (by decide) trivial (by simp only [szD]; omega)
  · exact go _ "int" (.int 7) trivial (fun s => nofun) rfl k3 rfl (by decide) rfl (by decide) trivial (by simp only [szD, l7]; omega)
  · exact go _ "int" (.int (-1)) trivial (fun s => nofun) rfl k3 rfl (by decide) rfl (by decide) trivial (by simp only [szD, l1]; omega)
  · exact go _ "tuple" (.tuple [.str z]) trivial (fun s => nofun) rfl k5 rfl rfl rfl (show 1 ≤ 64 by decide) (by simp only [okD, okDs]; exact ⟨sm, trivial⟩) (by simp only [szD, szDs]; omega)
  · exact go _ "list" (.list [.str z]) trivial (fun s => nofun) (by simp only [tyOf, hpO_2]) k6 (by simp only [toD, hpO_2]; rfl) rfl rfl (show 1 ≤ 64 by decide) (by simp only [okD, okDs]; exact ⟨sm, trivial⟩) (by simp only [szD, szDs]; omega)
  · exact go _ "tuple" (.tuple []) trivial (fun s => nofun) rfl k5 rfl rfl rfl (by decide) (by simp only [okD, okDs]) (by simp only [szD, szDs]; omega)
  · exact go _ "list" (.list []) trivial (fun s => nofun) (by simp only [tyOf, hpO_3]) k6 (by simp only [toD, hpO_3]; rfl) rfl rfl (by decide) (by simp only [okD, okDs]) (by simp only [szD, szDs]; omega)
  · exact go _ "tuple" (.tuple [.str "a", .str "b"]) trivial (fun s => nofun) rfl k5 rfl rfl rfl (by decide) (by simp only [okD, okDs]; exact ⟨sa, sb, trivial⟩) (by simp only [szD, szDs, la, lb]; omega)
  · exact go _ "int" (.int 0) trivial (fun s => nofun) rfl k3 rfl (by decide) rfl (by decide) trivial (by simp only [szD, l0]; omega)
theorem right_str (k : Nat) (h : AH) (z : Str) (hz : z.length ≤ sizeLine) : C (k + 2) 6 [.str z] h = some (.bl true, h) :=
  c_right k (.str z) h (isW z) z trivial (c_word k z h hz) (c_lword k z h hz) rfl
theorem c_odd (k : Nat) (h : AH) (T : Ob) (o c n : Int) (z : Str) (hn : 0 ≤ n ∧ n < 2 ^ 40) (e : AE) (h6 : e[6]? = some (some (.str z))) (h3 : e[3]? = some (some (.ref h.length))) :
    ∃ v o' n', n' = n + 1 ∧ v ∈ odds h.length z ∧ evE gls (C (k + 2)) (.ix oddE (.call 3 (.cons (.var 3) (.cons (.cst (.int 10)) .nil)))) e (h ++ .lst [.int o, .int c, .int n] :: [T]) = some (v, hpO h (.lst [.int o', .int c, .int n']) T z) := by
  obtain ⟨d, o', n', en, d0, d1, p⟩ := c_pickA k h [T, .lst [.str z], .lst []] o c n 10 (by omega) (by omega)
  obtain ⟨v, a0, a1⟩ := at_some (xs := odds h.length z) (d := d) d0 d1
  refine ⟨v, o', n', en, a1, ?_⟩
  have sz : (10 : Nat) ≤ sizeLine := by decide
  have E1 : evE gls (C (k + 2)) oddE e (h ++ .lst [.int o, .int c, .int n] :: [T]) = some (.fl (odds h.length z), h ++ .lst [.int o, .int c, .int n] :: [T, .lst [.str z], .lst []]) := by
    simp [oddE, evE.eq_1, evE.eq_2, evE.eq_3, evE.eq_4, evE.eq_5, evE.eq_6, evE.eq_7, evE.eq_8, evE.eq_9, evE.eq_10, evE.eq_11, evE.eq_12, evE.eq_13, evE.eq_14, evE.eq_15, evE.eq_16, evE.eq_18, evE.eq_19, evE.eq_20, evT.eq_1, evT.eq_2, evT.eq_3, evT.eq_4, evT.eq_5, evA.eq_1, evA.eq_2, evB.eq_1, evB.eq_2, evO.eq_1, evO.eq_2, evS.eq_1, evS.eq_2, evS.eq_3, evS.eq_4, evS.eq_5, evS.eq_6, evS.eq_7, evS.eq_10, evS.eq_11, evS.eq_12, evS.eq_13, evS.eq_14, evS.eq_15, h6, fix_int, fix_bl, fix_str, fix_tup, fix_ref, fix_fz, fix_ty, fix_non, fix_fl, odds, sz, show (1 : Nat) ≤ sizeLine by decide, show (2 : Nat) ≤ sizeLine by decide, Nat.add_assoc]
  rw [evE.eq_15, E1]
  simp only [evE.eq_1, evE.eq_2, evE.eq_3, evE.eq_4, evE.eq_5, evE.eq_6, evE.eq_7, evE.eq_8, evE.eq_9, evE.eq_10, evE.eq_11, evE.eq_12, evE.eq_13, evE.eq_14, evE.eq_15, evE.eq_16, evE.eq_18, evE.eq_19, evE.eq_20, evT.eq_1, evT.eq_2, evT.eq_3, evT.eq_4, evT.eq_5, evA.eq_1, evA.eq_2, evB.eq_1, evB.eq_2, evO.eq_1, evO.eq_2, evS.eq_1, evS.eq_2, evS.eq_3, evS.eq_4, evS.eq_5, evS.eq_6, evS.eq_7, evS.eq_10, evS.eq_11, evS.eq_12, evS.eq_13, evS.eq_14, evS.eq_15, h3, fix_int, fix_bl, fix_str, fix_tup, fix_ref, fix_fz, fix_ty, fix_non, fix_fl, p, ixV, seqOf, lstOf, Option.bind_some, a0, hpO]
theorem strs_map (ss : List Str) : strsOf (ss.map Vl.str) = some ss := by
  induction ss with
  | nil => rfl
  | cons x r ih => simp only [List.map_cons, strsOf, ih, Option.map_some]
theorem sum_le9 : ∀ (ss : List Str), (∀ s ∈ ss, s.length ≤ 1) → (ss.map (·.length)).sum ≤ ss.length
  | [], _ => Nat.le_refl _
  | x :: r, h => by
    have := sum_le9 r fun s hs => h s (List.mem_cons_of_mem _ hs)
    have := h x (by simp)
    simp only [List.map_cons, List.sum_cons, List.length_cons]
    omega
/-- the text that is drawn -/
theorem c_text (k : Nat) (h : AH) (o c n d : Int) (ch : Nat) (hc : ch ∈ sgA.cps.toList) (hn : 0 ≤ n ∧ n < 2 ^ 40) (e : AE) (h1 : e[1]? = some (some (.str sgA))) (h3 : e[3]? = some (some (.ref h.length))) (h4 : e[4]? = some (some (.int d))) (h5 : e[5]? = some (some (.str ⟨#[ch]⟩))) :
    ∃ z T o' n', n' = n + 9 ∧ z.length ≤ 100 ∧ smallS z ∧ evE gls (C (k + 2)) (.sl (.bin .Add (.var 5) (.me .join (.cst (.str "")) (.cons (.lc .rng (.cons (.cst (.int 9)) .nil) (.name 9) [9] .nil eltS) .nil))) .nil (.cons (.var 4) .nil)) e (h ++ [.lst [.int o, .int c, .int n]]) = some (.str z, h ++ .lst [.int o', .int c, .int n'] :: [T]) := by
  obtain ⟨ss, o', n', en, s1, s2, L⟩ := c_nine k h [] o c n hn e h1 h3
  obtain ⟨j1, j2⟩ := join_small ss s2
  have jn : Txt.join "" ss = Str.join "" ss := StrLaws.glued_eq_join _ _
  have e0 : (Str.ofString "").length = 0 := by decide +kernel
  have sm := sum_le9 ss fun s hs => (s2 s hs).1
  have big : (1000 : Nat) ≤ sizeLine := by decide
  have q1 : (ss.map (·.length)).sum + ss.length * (Str.ofString "").length ≤ 16777216 := by rw [e0]; omega
  have q2 : (⟨#[ch]⟩ : Str).length + (Str.join "" ss).length ≤ sizeLine := by rw [one_len]; omega
  have q3 : ((⟨#[ch]⟩ : Str) ++ Str.join "" ss).length ≤ sizeLine := by rw [app_len]; exact q2
  refine ⟨cutS ((⟨#[ch]⟩ : Str) ++ Str.join "" ss) none (some d), .lst (ss.map .str), o', n', en, ?_, small_cut (small_app (small1 hc) j1) _ _, ?_⟩
  · have := cut_len ((⟨#[ch]⟩ : Str) ++ Str.join "" ss) none (some d)
    rw [app_len, one_len] at this
    omega
  · simp [evE.eq_1, evE.eq_2, evE.eq_3, evE.eq_4, evE.eq_5, evE.eq_6, evE.eq_7, evE.eq_8, evE.eq_9, evE.eq_10, evE.eq_11, evE.eq_12, evE.eq_13, evE.eq_14, evE.eq_15, evE.eq_16, evE.eq_18, evE.eq_19, evE.eq_20, evT.eq_1, evT.eq_2, evT.eq_3, evT.eq_4, evT.eq_5, evA.eq_1, evA.eq_2, evB.eq_1, evB.eq_2, evO.eq_1, evO.eq_2, evS.eq_1, evS.eq_2, evS.eq_3, evS.eq_4, evS.eq_5, evS.eq_6, evS.eq_7, evS.eq_10, evS.eq_11, evS.eq_12, evS.eq_13, evS.eq_14, evS.eq_15, h5, h4, L, fix_int, fix_bl, fix_str, fix_tup, fix_ref, fix_fz, fix_ty, fix_non, fix_fl, meTy, meV, seqOf, lstOf, strs_map, q1, jn, binV, addV, q2, slV, q3]
theorem c_body (k : Nat) (ns : List Int) (i : Nat) (hi : i < 2 ^ 50) (h : AH) (x3 x4 x5 x6 x7 x8 x9 : Option Vl) :
    ∃ y3 y4 y5 y6 y7 y8 h', evS gls (C (k + 4)) 1000 bodyS [some (.fz (ns.map .int)), some (.str sgA), some (.int i), x3, x4, x5, x6, x7, x8, x9] h = some (.nx, [some (.fz (ns.map .int)), some (.str sgA), some (.int i), y3, y4, y5, y6, y7, y8, x9], h') := by
  obtain ⟨o, c, L⟩ := c_left (k + 3) ns i h hi
  obtain ⟨d1, o1, n1, en1, a0, a1, P1⟩ := c_pickA (k + 2) h [] o c 0 10 (by omega) (by omega)
  obtain ⟨d2, o2, n2, en2, b0, b1, P2⟩ := c_pickA (k + 2) h [] o1 c n1 2 (by omega) (by omega)
  obtain ⟨w, w0, w1⟩ := at_some (xs := [Vl.int 26, .int 36]) (d := d2) b0 b1
  have hw : ∃ m : Int, w = .int m ∧ 0 < m ∧ m ≤ 36 := by
    simp only [List.mem_cons, List.not_mem_nil, or_false] at w1
    rcases w1 with rfl | rfl
    · exact ⟨26, rfl, by omega, by omega⟩
    · exact ⟨36, rfl, by omega, by omega⟩
  obtain ⟨m, rfl, m0, m1⟩ := hw
  obtain ⟨d3, o3, n3, ch, en3, P3, P4, hc⟩ := c_letter (k + 2) h [] o2 c n2 m (by omega) ⟨m0, m1⟩
  obtain ⟨z, T, o4, n4, en4, hz, sm, P5⟩ := c_text (k + 2) h o3 c n3 d1 ch hc (by omega) [some (.fz (ns.map .int)), some (.str sgA), some (.int i), some (.ref h.length), some (.int d1), some (.str ⟨#[ch]⟩), x6, x7, x8, x9] rfl rfl rfl rfl
  obtain ⟨v, o5, n5, en5, hv, P6⟩ := c_odd (k + 2) h T o4 c n4 z (by omega) [some (.fz (ns.map .int)), some (.str sgA), some (.int i), some (.ref h.length), some (.int d1), some (.str ⟨#[ch]⟩), some (.str z), x7, x8, x9] rfl rfl
  obtain ⟨z1, o6, n6, en6, l1, P7⟩ := c_other (k + 1) h [T, .lst [.str z], .lst []] o5 c n5 z (by omega) hz
  obtain ⟨z2, o7, n7, en7, l2, P8⟩ := c_other (k + 1) h [T, .lst [.str z], .lst []] o6 c n6 z (by omega) hz
  have nf : noFl v := by
    simp only [odds, List.mem_cons, List.not_mem_nil, or_false] at hv
    rcases hv with rfl | rfl | rfl | rfl | rfl | rfl | rfl | rfl | rfl | rfl <;> trivial
  have zl : z.length ≤ sizeLine := Nat.le_trans hz (by decide)
  have R : ∀ x ∈ [Vl.str z, .str z1, .str z2, v], noFl x ∧ C (k + 4) 6 [x] (hpO h (.lst [.int o7, .int c, .int n7]) T z) = some (.bl true, hpO h (.lst [.int o7, .int c, .int n7]) T z) := fun x hx => by
    simp only [List.mem_cons, List.not_mem_nil, or_false] at hx
    rcases hx with rfl | rfl | rfl | rfl
    · exact ⟨trivial, right_str (k + 2) _ _ zl⟩
    · exact ⟨trivial, right_str (k + 2) _ _ l1⟩
    · exact ⟨trivial, right_str (k + 2) _ _ l2⟩
    · exact ⟨nf, right_odd (k + 2) h _ T z hz sm _ hv⟩
  obtain ⟨e', h', F, ⟨y8, E8⟩, EH⟩ := for_inv (xs := [Vl.str z, .str z1, .str z2, v]) (tg := .name 8) (b := evS gls (C (k + 4)) 1000 tstS)
    (e := [some (.fz (ns.map .int)), some (.str sgA), some (.int i), some (.ref h.length), some (.int d1), some (.str ⟨#[ch]⟩), some (.str z), some v, x8, x9]) (h := hpO h (.lst [.int o7, .int c, .int n7]) T z)
    (fun _ e' h' => (∃ y8, e' = [some (.fz (ns.map .int)), some (.str sgA), some (.int i), some (.ref h.length), some (.int d1), some (.str ⟨#[ch]⟩), some (.str z), some v, y8, x9]) ∧ h' = hpO h (.lst [.int o7, .int c, .int n7]) T z) ⟨⟨x8, rfl⟩, rfl⟩ (by
      intro j x e' h' hx ⟨⟨y8, E8⟩, EH⟩
      subst E8 EH
      obtain ⟨nx, rx⟩ := R x (List.mem_of_getElem? hx)
      refine ⟨_, rfl, _, _, .inl ?_, ⟨some x, rfl⟩, rfl⟩
      simp only [tstS, evE.eq_1, evE.eq_2, evE.eq_3, evE.eq_4, evE.eq_5, evE.eq_6, evE.eq_7, evE.eq_8, evE.eq_9, evE.eq_10, evE.eq_11, evE.eq_12, evE.eq_13, evE.eq_14, evE.eq_15, evE.eq_16, evE.eq_18, evE.eq_19, evE.eq_20, evT.eq_1, evT.eq_2, evT.eq_3, evT.eq_4, evT.eq_5, evA.eq_1, evA.eq_2, evB.eq_1, evB.eq_2, evO.eq_1, evO.eq_2, evS.eq_1, evS.eq_2, evS.eq_3, evS.eq_4, evS.eq_5, evS.eq_6, evS.eq_7, evS.eq_10, evS.eq_11, evS.eq_12, evS.eq_13, evS.eq_14, evS.eq_15, List.set, List.getElem?_cons_succ, List.getElem?_cons_zero, fix_no nx, rx, Bool.not_true])
  refine ⟨some (.ref h.length), some (.int d1), some (.str ⟨#[ch]⟩), some (.str z), some v, y8, h', ?_⟩
  subst E8
  have fv : ∀ H, fix v H = (v, H) := fun H => fix_no nf
  have F2 := ev_for (gl := gls) (cl := C (k + 4)) (fu := 1000) (k := .seq) (it := .cons (.tup (.cons (.var 6) (.cons (.call 5 (.cons (.var 3) (.cons (.var 6) .nil))) (.cons (.call 5 (.cons (.var 3) (.cons (.var 6) .nil))) (.cons (.var 7) .nil))))) .nil) (tg := .name 8) (b := tstS)
    (e := [some (.fz (ns.map .int)), some (.str sgA), some (.int i), some (.ref h.length), some (.int d1), some (.str ⟨#[ch]⟩), some (.str z), some v, x8, x9]) (h := hpO h (.lst [.int o5, .int c, .int n5]) T z) (h1 := hpO h (.lst [.int o7, .int c, .int n7]) T z)
    (vs := [.tup [.str z, .str z1, .str z2, v]]) (xs := [.str z, .str z1, .str z2, v]) (by
      have q4 : (4 : Nat) ≤ sizeLine := by decide
      simp [evE.eq_1, evE.eq_2, evE.eq_3, evE.eq_4, evE.eq_5, evE.eq_6, evE.eq_7, evE.eq_8, evE.eq_9, evE.eq_10, evE.eq_11, evE.eq_12, evE.eq_13, evE.eq_14, evE.eq_15, evE.eq_16, evE.eq_18, evE.eq_19, evE.eq_20, evT.eq_1, evT.eq_2, evT.eq_3, evT.eq_4, evT.eq_5, evA.eq_1, evA.eq_2, evB.eq_1, evB.eq_2, evO.eq_1, evO.eq_2, evS.eq_1, evS.eq_2, evS.eq_3, evS.eq_4, evS.eq_5, evS.eq_6, evS.eq_7, evS.eq_10, evS.eq_11, evS.eq_12, evS.eq_13, evS.eq_14, evS.eq_15, fix_int, fix_bl, fix_str, fix_tup, fix_ref, fix_fz, fix_ty, fix_non, fix_fl, hpO, P7, P8, fv, q4]) rfl F
  have s2 : (2 : Nat) ≤ sizeLine := by decide
  have hw : ixV (.fl [.int 26, .int 36]) (.int d2) (h ++ [.lst [.int o2, .int c, .int n2]]) = some (.int m) := by simp only [ixV, seqOf, lstOf, Option.bind_some, w0]
  simp [bodyS, evE.eq_1, evE.eq_2, evE.eq_3, evE.eq_4, evE.eq_5, evE.eq_6, evE.eq_7, evE.eq_8, evE.eq_9, evE.eq_10, evE.eq_11, evE.eq_12, evE.eq_13, evE.eq_14, evE.eq_15, evE.eq_16, evE.eq_18, evE.eq_19, evE.eq_20, evT.eq_1, evT.eq_2, evT.eq_3, evT.eq_4, evT.eq_5, evA.eq_1, evA.eq_2, evB.eq_1, evB.eq_2, evO.eq_1, evO.eq_2, evS.eq_1, evS.eq_2, evS.eq_3, evS.eq_4, evS.eq_5, evS.eq_6, evS.eq_7, evS.eq_10, evS.eq_11, evS.eq_12, evS.eq_13, evS.eq_14, evS.eq_15, fix_int, fix_bl, fix_str, fix_tup, fix_ref, fix_fz, fix_ty, fix_non, fix_fl, L, P1, P2, P3, P4, P5, P6, F2, hw, s2, fv]
end K01

namespace K01
open PySem PySem.Spec PyProof.Rows L2 FK
theorem law_true (ns : List Int) (hl : ns.length ≤ 63) : ∃ h', callN fns gls 1000 20 7 [.fz (ns.map .int)] [] = some (.bl true, h') := by
  obtain ⟨m, hm, em⟩ : ∃ m : Nat, m ≤ 63 ∧ (cutL (ns.map Vl.int) none (some 62)).length = m := ⟨_, by
    unfold cutL
    simp only [List.length_take, List.length_drop, List.length_map]
    omega, rfl⟩
  obtain ⟨e', h', F, x2, x3, x4, x5, x6, x7, x8, x9, E⟩ := for_inv (xs := rngL 0 (1 + (m : Int)).toNat) (tg := .name 2) (b := evS gls (C 19) 1000 bodyS) (e := [some (.fz (ns.map .int)), some (.str sgA), none, none, none, none, none, none, none, none]) (h := [])
    (fun _ e' _ => ∃ x2 x3 x4 x5 x6 x7 x8 x9, e' = [some (.fz (ns.map .int)), some (.str sgA), x2, x3, x4, x5, x6, x7, x8, x9]) ⟨_, _, _, _, _, _, _, _, rfl⟩ (by
      intro i x e' h' hx ⟨x2, x3, x4, x5, x6, x7, x8, x9, E⟩
      subst E
      have hi : i < (1 + (m : Int)).toNat := by
        have := (List.getElem?_eq_some_iff.mp hx).1
        simpa [rngL] using this
      have ex : x = .int (i : Nat) := by
        simp only [rngL, List.getElem?_map, Option.map_eq_some_iff] at hx
        obtain ⟨j, hj, rfl⟩ := hx
        obtain ⟨_, hj⟩ := List.getElem?_eq_some_iff.mp hj
        simp at hj
        subst hj
        simp
      subst ex
      obtain ⟨y3, y4, y5, y6, y7, y8, h2, B⟩ := c_body 15 ns i (by omega) h' x3 x4 x5 x6 x7 x8 x9
      exact ⟨_, rfl, _, _, .inl B, _, _, _, _, _, _, _, _, rfl⟩)
  refine ⟨h', ?_⟩
  have n62 : in62 (1 + (m : Int)) = true := by simp [in62]; omega
  have F2 := ev_for (gl := gls) (cl := C 19) (fu := 1000) (k := .rng) (it := .cons (.bin .Add (.cst (.int 1)) (.bi .len (.cons (.sl (.var 0) .nil (.cons (.cst (.int 62)) .nil)) .nil))) .nil) (tg := .name 2) (b := bodyS)
    (e := [some (.fz (ns.map .int)), some (.str sgA), none, none, none, none, none, none, none, none]) (h := []) (h1 := []) (vs := [.int (1 + (m : Int))]) (xs := rngL 0 (1 + (m : Int)).toNat) (by
      simp [evE.eq_1, evE.eq_2, evE.eq_3, evE.eq_4, evE.eq_5, evE.eq_6, evE.eq_7, evE.eq_8, evE.eq_9, evE.eq_10, evE.eq_11, evE.eq_12, evE.eq_13, evE.eq_14, evE.eq_15, evE.eq_16, evE.eq_18, evE.eq_19, evE.eq_20, evT.eq_1, evT.eq_2, evT.eq_3, evT.eq_4, evT.eq_5, evA.eq_1, evA.eq_2, evB.eq_1, evB.eq_2, evO.eq_1, evO.eq_2, evS.eq_1, evS.eq_2, evS.eq_3, evS.eq_4, evS.eq_5, evS.eq_6, evS.eq_7, evS.eq_10, evS.eq_11, evS.eq_12, evS.eq_13, evS.eq_14, evS.eq_15, binV, addV, fix_int, fix_bl, fix_str, fix_tup, fix_ref, fix_fz, fix_ty, fix_non, fix_fl, ixV, seqOf, lstOf, lstW, slV, biV, isV, tyOf, cmpV, augV, setIxV, meV, meTy, runF, em]) (by simp only [srcOf, n62, if_pos]) F
  subst E
  show C (19 + 1) 7 _ _ = _
  rw [C_succ 19 7 _ _ f_law rfl]
  simp [f_law, b_law_eq, evE.eq_1, evE.eq_2, evE.eq_3, evE.eq_4, evE.eq_5, evE.eq_6, evE.eq_7, evE.eq_8, evE.eq_9, evE.eq_10, evE.eq_11, evE.eq_12, evE.eq_13, evE.eq_14, evE.eq_15, evE.eq_16, evE.eq_18, evE.eq_19, evE.eq_20, evT.eq_1, evT.eq_2, evT.eq_3, evT.eq_4, evT.eq_5, evA.eq_1, evA.eq_2, evB.eq_1, evB.eq_2, evO.eq_1, evO.eq_2, evS.eq_1, evS.eq_2, evS.eq_3, evS.eq_4, evS.eq_5, evS.eq_6, evS.eq_7, evS.eq_10, evS.eq_11, evS.eq_12, evS.eq_13, evS.eq_14, evS.eq_15, fix_int, fix_bl, fix_str, fix_tup, fix_ref, fix_fz, fix_ty, fix_non, fix_fl, runF, F2]
end K01

namespace K01
open PySem PySem.Spec PyProof.Rows L2 FK
theorem mk {w : World} {K : PySem.W.Frag} {h : Heap} {mg : Str → Option Value} {fa : Addr} (X : K.In h) (G : h.Ns mainGlobals mg) (hfa : mg "law" = some (.ref fa))
    {f0 : Addr} {oc0 kV0 dc0 pm0 cd0 ct0 : Value} {od0 an0 : Option Addr} {sl0 : Array (Option Value)}
    (a0 : PySem.W.nsIn K mainGlobals "is_word" = some (some (.ref f0))) (l0 : K.lookup f0 = some ⟨oc0, od0, .func (PySem.W.fnOf "is_word" "is_word" (defArgs (topS 4)) (defBody (topS 4)) (defScope (topS 4)) .none kV0 dc0 pm0 an0 cd0 ct0), sl0⟩) (c0 : PySem.W.codeIn K cd0 "is_word" = true) (k0 : PySem.W.keepIn K (.ref f0) = true)
    {f1 : Addr} {oc1 kV1 dc1 pm1 cd1 ct1 : Value} {od1 an1 : Option Addr} {sl1 : Array (Option Value)}
    (a1 : PySem.W.nsIn K mainGlobals "_law_mix" = some (some (.ref f1))) (l1 : K.lookup f1 = some ⟨oc1, od1, .func (PySem.W.fnOf "_law_mix" "_law_mix" (defArgs (topS 6)) (defBody (topS 6)) (defScope (topS 6)) .none kV1 dc1 pm1 an1 cd1 ct1), sl1⟩) (c1 : PySem.W.codeIn K cd1 "_law_mix" = true) (k1 : PySem.W.keepIn K (.ref f1) = true)
    {f2 : Addr} {oc2 kV2 dc2 pm2 cd2 ct2 : Value} {od2 an2 : Option Addr} {sl2 : Array (Option Value)}
    (a2 : PySem.W.nsIn K mainGlobals "_law_left" = some (some (.ref f2))) (l2 : K.lookup f2 = some ⟨oc2, od2, .func (PySem.W.fnOf "_law_left" "_law_left" (defArgs (topS 7)) (defBody (topS 7)) (defScope (topS 7)) .none kV2 dc2 pm2 an2 cd2 ct2), sl2⟩) (c2 : PySem.W.codeIn K cd2 "_law_left" = true) (k2 : PySem.W.keepIn K (.ref f2) = true)
    {f3 : Addr} {oc3 kV3 dc3 pm3 cd3 ct3 : Value} {od3 an3 : Option Addr} {sl3 : Array (Option Value)}
    (a3 : PySem.W.nsIn K mainGlobals "_law_pick" = some (some (.ref f3))) (l3 : K.lookup f3 = some ⟨oc3, od3, .func (PySem.W.fnOf "_law_pick" "_law_pick" (defArgs (topS 8)) (defBody (topS 8)) (defScope (topS 8)) .none kV3 dc3 pm3 an3 cd3 ct3), sl3⟩) (c3 : PySem.W.codeIn K cd3 "_law_pick" = true) (k3 : PySem.W.keepIn K (.ref f3) = true)
    {f4 : Addr} {oc4 kV4 dc4 pm4 cd4 ct4 : Value} {od4 an4 : Option Addr} {sl4 : Array (Option Value)}
    (a4 : PySem.W.nsIn K mainGlobals "_law_is_word" = some (some (.ref f4))) (l4 : K.lookup f4 = some ⟨oc4, od4, .func (PySem.W.fnOf "_law_is_word" "_law_is_word" (defArgs (topS 9)) (defBody (topS 9)) (defScope (topS 9)) .none kV4 dc4 pm4 an4 cd4 ct4), sl4⟩) (c4 : PySem.W.codeIn K cd4 "_law_is_word" = true) (k4 : PySem.W.keepIn K (.ref f4) = true)
    {f5 : Addr} {oc5 kV5 dc5 pm5 cd5 ct5 : Value} {od5 an5 : Option Addr} {sl5 : Array (Option Value)}
    (a5 : PySem.W.nsIn K mainGlobals "_law_other" = some (some (.ref f5))) (l5 : K.lookup f5 = some ⟨oc5, od5, .func (PySem.W.fnOf "_law_other" "_law_other" (defArgs (topS 10)) (defBody (topS 10)) (defScope (topS 10)) .none kV5 dc5 pm5 an5 cd5 ct5), sl5⟩) (c5 : PySem.W.codeIn K cd5 "_law_other" = true) (k5 : PySem.W.keepIn K (.ref f5) = true)
    {f6 : Addr} {oc6 kV6 dc6 pm6 cd6 ct6 : Value} {od6 an6 : Option Addr} {sl6 : Array (Option Value)}
    (a6 : PySem.W.nsIn K mainGlobals "_law_right" = some (some (.ref f6))) (l6 : K.lookup f6 = some ⟨oc6, od6, .func (PySem.W.fnOf "_law_right" "_law_right" (defArgs (topS 11)) (defBody (topS 11)) (defScope (topS 11)) .none kV6 dc6 pm6 an6 cd6 ct6), sl6⟩) (c6 : PySem.W.codeIn K cd6 "_law_right" = true) (k6 : PySem.W.keepIn K (.ref f6) = true)
    {f7 : Addr} {oc7 kV7 dc7 pm7 cd7 ct7 : Value} {od7 an7 : Option Addr} {sl7 : Array (Option Value)}
    (a7 : PySem.W.nsIn K mainGlobals "law" = some (some (.ref f7))) (l7 : K.lookup f7 = some ⟨oc7, od7, .func (PySem.W.fnOf "law" "law" (defArgs (topS 12)) (defBody (topS 12)) (defScope (topS 12)) .none kV7 dc7 pm7 an7 cd7 ct7), sl7⟩) (c7 : PySem.W.codeIn K cd7 "law" = true) (k7 : PySem.W.keepIn K (.ref f7) = true)
    {t0 : Tok} (g0 : PySem.W.nsIn K mainGlobals "LETTERS" = some (some (.str "abcdefghijklmnopqrstuvwxyz" t0)))
    {t1 : Tok} (g1 : PySem.W.nsIn K mainGlobals "FIGURES" = some (some (.str "0123456789" t1)))
    {t2 : Tok} (g2 : PySem.W.nsIn K mainGlobals "MOST_SIGNS" = some (some (.int 8 t2)))
    (z0 : PySem.W.nsIn K mainGlobals "len" = some none)
    (z1 : PySem.W.nsIn K mainGlobals "abs" = some none)
    (z2 : PySem.W.nsIn K mainGlobals "isinstance" = some none)
    (z3 : PySem.W.nsIn K mainGlobals "all" = some none)
    (z4 : PySem.W.nsIn K mainGlobals "any" = some none)
    (z5 : PySem.W.nsIn K mainGlobals "tuple" = some none)
    (z6 : PySem.W.nsIn K mainGlobals "list" = some none)
    (z7 : PySem.W.nsIn K mainGlobals "str" = some none)
    (z8 : PySem.W.nsIn K mainGlobals "min" = some none)
    (z9 : PySem.W.nsIn K mainGlobals "max" = some none)
    (z10 : PySem.W.nsIn K mainGlobals "sum" = some none)
    (z11 : PySem.W.nsIn K mainGlobals "int" = some none)
    (z12 : PySem.W.nsIn K mainGlobals "range" = some none)
    (z13 : PySem.W.nsIn K mainGlobals "bool" = some none)
    (z14 : PySem.W.nsIn K mainGlobals "enumerate" = some none)
    (z15 : PySem.W.nsIn K mainGlobals "zip" = some none)
    (z16 : PySem.W.nsIn K mainGlobals "sorted" = some none)
    (z17 : PySem.W.nsIn K mainGlobals "set" = some none)
    (z18 : PySem.W.nsIn K mainGlobals "dict" = some none)
    (z19 : PySem.W.nsIn K mainGlobals "repr" = some none)
    : ∃ fd : FuncData, Binds K fd ["_law_script"] [] ∧ ∀ base : Heap, K.In base → base.Ns mainGlobals mg → FnG PySem.Challenge.rw_flatkeep_k01_words.prog w K mg base 20 fa fd ["_law_script"] (callN fns gls 1000 20 7) := by
  have gl : ∀ (g : Nat) p, tab.gl[g]? = some p → ∃ u z, mg p.1 = some u ∧ RelV z u ∧ ∀ ρ H, RepV K ρ H p.2 z := fun g p e => by
    match g, e with
    | 0, e => cases e; exact gl_str X G g0
    | 1, e => cases e; exact gl_str X G g1
    | 2, e => cases e; exact gl_int X G g2
    | _ + 3, e => cases e
  have bn : ∀ x ∈ BN, mg x = none := fun x e => by
    simp only [BN, List.mem_cons, List.not_mem_nil, or_false] at e
    rcases e with rfl | rfl | rfl | rfl | rfl | rfl | rfl | rfl | rfl | rfl | rfl | rfl | rfl | rfl | rfl | rfl | rfl | rfl | rfl | rfl
    · exact PySem.W.mg_none_of X G z0
    · exact PySem.W.mg_none_of X G z1
    · exact PySem.W.mg_none_of X G z2
    · exact PySem.W.mg_none_of X G z3
    · exact PySem.W.mg_none_of X G z4
    · exact PySem.W.mg_none_of X G z5
    · exact PySem.W.mg_none_of X G z6
    · exact PySem.W.mg_none_of X G z7
    · exact PySem.W.mg_none_of X G z8
    · exact PySem.W.mg_none_of X G z9
    · exact PySem.W.mg_none_of X G z10
    · exact PySem.W.mg_none_of X G z11
    · exact PySem.W.mg_none_of X G z12
    · exact PySem.W.mg_none_of X G z13
    · exact PySem.W.mg_none_of X G z14
    · exact PySem.W.mg_none_of X G z15
    · exact PySem.W.mg_none_of X G z16
    · exact PySem.W.mg_none_of X G z17
    · exact PySem.W.mg_none_of X G z18
    · exact PySem.W.mg_none_of X G z19
  have st : ∀ E ∈ ens, ∃ fa fd, Stands K mg E fa fd := fun E e => by
    simp only [ens, List.mem_cons, List.not_mem_nil, or_false] at e
    rcases e with rfl | rfl | rfl | rfl | rfl | rfl | rfl | rfl
    · exact stands_mk (E := en_is_word) X G a0 l0 c0 k0 fun _ _ _ _ _ _ us hl => match us, hl with | [_], _ => rfl
    · exact stands_mk (E := en_law_mix) X G a1 l1 c1 k1 fun _ _ _ _ _ _ us hl => match us, hl with | [_, _], _ => rfl
    · exact stands_mk (E := en_law_left) X G a2 l2 c2 k2 fun _ _ _ _ _ _ us hl => match us, hl with | [_, _], _ => rfl
    · exact stands_mk (E := en_law_pick) X G a3 l3 c3 k3 fun _ _ _ _ _ _ us hl => match us, hl with | [_, _], _ => rfl
    · exact stands_mk (E := en_law_is_word) X G a4 l4 c4 k4 fun _ _ _ _ _ _ us hl => match us, hl with | [_], _ => rfl
    · exact stands_mk (E := en_law_other) X G a5 l5 c5 k5 fun _ _ _ _ _ _ us hl => match us, hl with | [_, _], _ => rfl
    · exact stands_mk (E := en_law_right) X G a6 l6 c6 k6 fun _ _ _ _ _ _ us hl => match us, hl with | [_], _ => rfl
    · exact stands_mk (E := en_law) X G a7 l7 c7 k7 fun _ _ _ _ _ _ us hl => match us, hl with | [_], _ => rfl
  exact law_mk (T := tab) (es := ens) (f := 7) (E := en_law) (fu := 1000) rfl rfl hfa tab_ok ens_ok ⟨gl, bn⟩ st
end K01
open PySem PySem.W PyProof.Rows
set_option maxRecDepth 100000 in
set_option maxHeartbeats 0 in
theorem PySem.Challenge.cw_flatkeep_k01_words_holds : PySem.Challenge.rw_flatkeep_k01_words.Holds := by
  w_on; o_law; k_head; (case hw => w_witness2)
  k_fill
  refine FK.walkG (l := PySem.Challenge.rw_flatkeep_k01_words) (k := 20) (x := "_law_script") (m := FK.callN K01.fns K01.gls 1000 20 7) rfl rfl ⟨rfl, by decide +kernel, by decide +kernel⟩ (fun w h Y => PySem.W.kIn_of Y) ?F K01.law_true
  case F =>
    intro w mg fa h KX G hmg
    refine' K01.mk KX G hmg ?q_a0 ?q_l0 ?q_c0 ?q_k0 ?q_a1 ?q_l1 ?q_c1 ?q_k1 ?q_a2 ?q_l2 ?q_c2 ?q_k2 ?q_a3 ?q_l3 ?q_c3 ?q_k3 ?q_a4 ?q_l4 ?q_c4 ?q_k4 ?q_a5 ?q_l5 ?q_c5 ?q_k5 ?q_a6 ?q_l6 ?q_c6 ?q_k6 ?q_a7 ?q_l7 ?q_c7 ?q_k7 ?q_g0 ?q_g1 ?q_g2 ?q_z0 ?q_z1 ?q_z2 ?q_z3 ?q_z4 ?q_z5 ?q_z6 ?q_z7 ?q_z8 ?q_z9 ?q_z10 ?q_z11 ?q_z12 ?q_z13 ?q_z14 ?q_z15 ?q_z16 ?q_z17 ?q_z18 ?q_z19
    (case q_a0 => k_is)
    (case q_l0 => k_is)
    (case q_c0 => k_is)
    (case q_k0 => k_is)
    (case q_a1 => k_is)
    (case q_l1 => k_is)
    (case q_c1 => k_is)
    (case q_k1 => k_is)
    (case q_a2 => k_is)
    (case q_l2 => k_is)
    (case q_c2 => k_is)
    (case q_k2 => k_is)
    (case q_a3 => k_is)
    (case q_l3 => k_is)
    (case q_c3 => k_is)
    (case q_k3 => k_is)
    (case q_a4 => k_is)
    (case q_l4 => k_is)
    (case q_c4 => k_is)
    (case q_k4 => k_is)
    (case q_a5 => k_is)
    (case q_l5 => k_is)
    (case q_c5 => k_is)
    (case q_k5 => k_is)
    (case q_a6 => k_is)
    (case q_l6 => k_is)
    (case q_c6 => k_is)
    (case q_k6 => k_is)
    (case q_a7 => k_is)
    (case q_l7 => k_is)
    (case q_c7 => k_is)
    (case q_k7 => k_is)
    (case q_g0 => k_is)
    (case q_g1 => k_is)
    (case q_g2 => k_is)
    (case q_z0 => k_is)
    (case q_z1 => k_is)
    (case q_z2 => k_is)
    (case q_z3 => k_is)
    (case q_z4 => k_is)
    (case q_z5 => k_is)
    (case q_z6 => k_is)
    (case q_z7 => k_is)
    (case q_z8 => k_is)
    (case q_z9 => k_is)
    (case q_z10 => k_is)
    (case q_z11 => k_is)
    (case q_z12 => k_is)
    (case q_z13 => k_is)
    (case q_z14 => k_is)
    (case q_z15 => k_is)
    (case q_z16 => k_is)
    (case q_z17 => k_is)
    (case q_z18 => k_is)
    (case q_z19 => k_is)
