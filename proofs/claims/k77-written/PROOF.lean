import PyProof.Rows.All
import Wide.All
import OpenK.AllK
import Wide.FinOn
import HandS.ForMost
import HandS.IsInst
import HandS.Deep
import HandS.TupAny
import HandS.Wide
import HandS.Zip
import HandS.Style
import HandS.TupSets
import HandS.SortInts
import HandS.Dict
import PyProof.ReprRoads
import HandS.Iter
import KE.GoesMore
import PyProof.EnumMake
import PySem.Challenge.RW_flatkeep_k77_programs_written
set_option Elab.async false
set_option linter.all false
set_option maxRecDepth 100000
set_option maxHeartbeats 4000000
/-! ### values and heaps of a small Python, and how the layer's heap bears them -/
namespace FK
open PySem PySem.Spec PyProof.Rows L2
abbrev St := L2.St

/-- keys of a dict: an int or a text; a tuple of these -/
inductive Ky where
  | k (x : Key) | t (xs : List Key)
  deriving DecidableEq
/-- a value: tuples are trees; ref n: the n-th thing that may be changed; fl, fd: a list, a dict just made that nothing else knows; fz, zd: one that nobody writes any more;
bw, bd: a look at one that a name of this call owns; kz: a list that is locked -/
inductive Vl where
  | non | bl (b : Bool) | int (i : Int) | str (x : Str) | ty (n : String)
  | tup (xs : List Vl) | ref (n : Nat) | fl (xs : List Vl) | fz (xs : List Vl) | bw (xs : List Vl) | kz (xs : List Vl)
  | fd (ks : List Ky) (xs : List Vl) | zd (ks : List Ky) (xs : List Vl) | bd (ks : List Ky) (xs : List Vl)
  deriving Inhabited
/-- a thing that may be changed -/
inductive Ob where
  | lst (xs : List Vl) | dct (ks : List Ky) (xs : List Vl) | ins (c : Nat) (fs : List Str) (xs : List Vl)
  deriving Inhabited
/-- the classes of the program -/
def clsName : Nat → Str
  | 0 => "Scope" | 1 => "Room" | 2 => "Code" | 3 => "NestedRun" | 4 => "Uses" | 5 => "Sight" | 6 => "Plan" | 7 => "Thing" | 8 => "Pair" | 9 => "Call" | 10 => "FlatRun" | 11 => "Look" | 12 => "Flats" | 13 => "Rows" | 14 => "Desk" | _ => ""
/-- where a class stands -/
def caK (K : PySem.W.Frag) (x : Str) : Addr := match PySem.W.nsIn K mainGlobals x with
  | some (some (.ref a)) => a
  | _ => 0
abbrev AH := List Ob
abbrev AE := List (Option Vl)
/-- numbers of the things that may be changed; which things nobody writes any more -/
structure Mp where
  r : List Addr
  z : Addr → Prop

section
variable (K : PySem.W.Frag)
/-- a list of the module's constants -/
def KL (a : Addr) (xs : List V) : Prop := SqL K (fun _ => none) a xs
/-- a list that nobody writes: locked, or of the module's constants -/
def SL (H : Hp) (a : Addr) (vs : List V) : Prop := (∃ o, H a = some (.frz o (.lst vs))) ∨ KL K a vs
end
/-- a dict of the layer's heap by keys and values -/
def DO (ks : List Ky) (vs : List V) (o : HO) : Prop :=
  (∃ l : List (Key × V), o = .dK l ∧ ks = l.map (fun p => .k p.1) ∧ vs = l.map (·.2)) ∨ (∃ l : List (List Key × V), l ≠ [] ∧ o = .dT l ∧ ks = l.map (fun p => .t p.1) ∧ vs = l.map (·.2))
section
variable (K : PySem.W.Frag)
mutual
def RepV (ρ : Mp) (H : Hp) : Vl → V → Prop
  | .non, x => x = .non
  | .bl b, x => x = .bl b
  | .int i, x => x = .int i
  | .str s, x => x = .str s
  | .ty n, x => x = .ty n
  | .tup xs, x => ∃ a vs, x = .ref a ∧ SqT K H a vs ∧ RepVs ρ H xs vs
  | .ref n, x => ∃ a, x = .ref a ∧ ρ.r[n]? = some a
  | .fl _, _ => False
  | .bw _, _ => False
  | .fd _ _, _ => False
  | .bd _ _, _ => False
  | .fz xs, x => ∃ a vs, x = .ref a ∧ ρ.z a ∧ H a = some (.lst vs) ∧ RepVs ρ H xs vs
  | .kz xs, x => ∃ a vs, x = .ref a ∧ SL K H a vs ∧ RepVs ρ H xs vs
  | .zd ks xs, x => ∃ a vs o, x = .ref a ∧ ρ.z a ∧ H a = some o ∧ DO ks vs o ∧ RepVs ρ H xs vs
def RepVs (ρ : Mp) (H : Hp) : List Vl → List V → Prop
  | [], vs => vs = []
  | x :: xs, vs => ∃ v r, vs = v :: r ∧ RepV ρ H x v ∧ RepVs ρ H xs r
end
/-- a list that has no number and may still be written -/
def RepL (ρ : Mp) (H : Hp) (xs : List Vl) (x : V) : Prop := ∃ a vs, x = .ref a ∧ a ∉ ρ.r ∧ ¬ ρ.z a ∧ H a = some (.lst vs) ∧ RepVs K ρ H xs vs
def RepD (ρ : Mp) (H : Hp) (ks : List Ky) (xs : List Vl) (x : V) : Prop := ∃ a vs o, x = .ref a ∧ a ∉ ρ.r ∧ ¬ ρ.z a ∧ H a = some o ∧ DO ks vs o ∧ RepVs K ρ H xs vs
/-- what an expression comes to: a value, or a thing that has no number -/
def RepR (ρ : Mp) (H : Hp) (v : Vl) (x : V) : Prop := match v with
  | .fl xs => RepL K ρ H xs x
  | .bw xs => RepL K ρ H xs x
  | .fd ks xs => RepD K ρ H ks xs x
  | .bd ks xs => RepD K ρ H ks xs x
  | v => RepV K ρ H v x
def RepRs (ρ : Mp) (H : Hp) : List Vl → List V → Prop
  | [], vs => vs = []
  | x :: xs, vs => ∃ v r, vs = v :: r ∧ RepR K ρ H x v ∧ RepRs ρ H xs r
def RepO (ρ : Mp) (H : Hp) (a : Addr) : Ob → Prop
  | .lst xs => ∃ vs, H a = some (.lst vs) ∧ RepVs K ρ H xs vs
  | .dct ks xs => ∃ vs o, H a = some o ∧ DO ks vs o ∧ RepVs K ρ H xs vs
  | .ins c fs xs => ∃ dx vs, H a = some (.ins (caK K (clsName c)) dx (fs.zip vs)) ∧ fs.length = vs.length ∧ RepVs K ρ H xs vs
structure RepH (ρ : Mp) (ah : AH) (H : Hp) : Prop where
  len : ρ.r.length = ah.length
  nd : ρ.r.Nodup
  dj : ∀ a, ρ.z a → a ∉ ρ.r
  zi : ∀ a, ρ.z a → H a ≠ none
  ob : ∀ (n : Nat) a o, ρ.r[n]? = some a → ah[n]? = some o → RepO K ρ H a o
/-- a value that a name of the call owns -/
def Vl.owned : Vl → Bool
  | .fl _ => true
  | .fd _ _ => true
  | _ => false
/-- no look at another's thing -/
def Vl.noBw : Vl → Bool
  | .bw _ => false
  | .bd _ _ => false
  | _ => true
structure RepS (ρ : Mp) (H : Hp) (e : AE) (σ : St) : Prop where
  len : e.length = σ.length
  at_ : ∀ (i : Nat) v, e[i]? = some (some v) → ∃ x, σ[i]? = some (some x) ∧ RepR K ρ H v x
  nd : ∀ (i j : Nat) v w x, e[i]? = some (some v) → e[j]? = some (some w) → v.owned = true → w.owned = true → σ[i]? = some (some x) → σ[j]? = some (some x) → i = j
  nb : ∀ (i : Nat) v, e[i]? = some (some v) → Vl.noBw v = true
end
/-- what the names of a call own -/
def Own (e : AE) (σ : St) (a : Addr) : Prop := ∃ (i : Nat) (v : Vl), e[i]? = some (some v) ∧ v.owned = true ∧ σ[i]? = some (some (V.ref a))
/-- what may be done to the layer's heap, where O may be written -/
structure ExtO (O : Addr → Prop) (ρ : Mp) (H : Hp) (ρ' : Mp) (H' : Hp) : Prop where
  pre : ρ.r <+: ρ'.r
  sub : ∀ a, ρ.z a → ρ'.z a
  fr : ∀ a o, a ∉ ρ.r → ¬ O a → H a = some o → H' a = some o
  tp : ∀ a vs, H a = some (.tup vs) → H' a = some (.tup vs)
  fz : ∀ a o u, H a = some (.frz o u) → H' a = some (.frz o u)
  zp : ∀ a o, ρ.z a → H a = some o → H' a = some o
  kp : ∀ a, H' a = none → H a = none
  nw : ∀ a ∈ ρ'.r, a ∈ ρ.r ∨ H a = none ∨ O a
  nz : ∀ a, ρ'.z a → ρ.z a ∨ H a = none ∨ O a
def Noh : Addr → Prop := fun _ => False
/-- what an evaluation may do to the layer's heap -/
abbrev Ext := ExtO Noh
theorem ExtO.refl (O : Addr → Prop) (ρ : Mp) (H : Hp) : ExtO O ρ H ρ H := ⟨List.prefix_refl _, fun _ h => h, fun _ _ _ _ h => h, fun _ _ h => h, fun _ _ _ h => h, fun _ _ _ h => h, fun _ h => h, fun _ h => .inl h, fun _ h => .inl h⟩
theorem Ext.refl (ρ : Mp) (H : Hp) : Ext ρ H ρ H := ExtO.refl _ _ _
theorem ExtO.not {O ρ H ρ' H'} (x : ExtO O ρ H ρ' H') {a : Addr} {o : HO} (h : a ∉ ρ.r) (hO : ¬ O a) (e : H a = some o) : a ∉ ρ'.r := fun q => by
  rcases x.nw a q with z | z | z
  · exact h z
  · rw [e] at z; cases z
  · exact hO z
theorem ExtO.notz {O ρ H ρ' H'} (x : ExtO O ρ H ρ' H') {a : Addr} {o : HO} (h : ¬ ρ.z a) (hO : ¬ O a) (e : H a = some o) : ¬ ρ'.z a := fun q => by
  rcases x.nz a q with z | z | z
  · exact h z
  · rw [e] at z; cases z
  · exact hO z
theorem ExtO.trans {O O1 ρ H ρ1 H1 ρ2 H2} (x : ExtO O ρ H ρ1 H1) (y : ExtO O1 ρ1 H1 ρ2 H2) (hO : ∀ a, O1 a → O a ∨ H a = none) : ExtO O ρ H ρ2 H2 where
  pre := x.pre.trans y.pre
  sub := fun a h => y.sub a (x.sub a h)
  fr := fun a o h hn e => y.fr a o (x.not h hn e) (fun q => (hO a q).elim hn fun z => by rw [e] at z; cases z) (x.fr a o h hn e)
  tp := fun a vs h => y.tp a vs (x.tp a vs h)
  fz := fun a o u h => y.fz a o u (x.fz a o u h)
  zp := fun a o h e => y.zp a o (x.sub a h) (x.zp a o h e)
  kp := fun a h => x.kp a (y.kp a h)
  nw := fun a h => by
    rcases y.nw a h with z | z | z
    · exact x.nw a z
    · exact .inr (.inl (x.kp a z))
    · exact (hO a z).elim (fun q => .inr (.inr q)) fun q => .inr (.inl q)
  nz := fun a h => by
    rcases y.nz a h with z | z | z
    · exact x.nz a z
    · exact .inr (.inl (x.kp a z))
    · exact (hO a z).elim (fun q => .inr (.inr q)) fun q => .inr (.inl q)

theorem Ext.trans {ρ H ρ1 H1 ρ2 H2} (x : Ext ρ H ρ1 H1) (y : Ext ρ1 H1 ρ2 H2) : Ext ρ H ρ2 H2 := ExtO.trans x y fun _ h => .inl h
theorem ExtO.trans0 {O ρ H ρ1 H1 ρ2 H2} (x : ExtO O ρ H ρ1 H1) (y : Ext ρ1 H1 ρ2 H2) : ExtO O ρ H ρ2 H2 := ExtO.trans x y fun _ h => h.elim
theorem Ext.to {O ρ H ρ1 H1} (x : Ext ρ H ρ1 H1) : ExtO O ρ H ρ1 H1 := (ExtO.refl O ρ H).trans0 x
theorem Ext.not {ρ H ρ' H'} (x : Ext ρ H ρ' H') {a : Addr} {o : HO} (h : a ∉ ρ.r) (e : H a = some o) : a ∉ ρ'.r := ExtO.not x h (fun z => z) e
theorem Ext.notz {ρ H ρ' H'} (x : Ext ρ H ρ' H') {a : Addr} {o : HO} (h : ¬ ρ.z a) (e : H a = some o) : ¬ ρ'.z a := ExtO.notz x h (fun z => z) e
theorem ExtO.get {O ρ H ρ' H'} (x : ExtO O ρ H ρ' H') {n : Nat} {a : Addr} (h : ρ.r[n]? = some a) : ρ'.r[n]? = some a := by
  obtain ⟨t, e⟩ := x.pre
  have hl : n < ρ.r.length := (List.getElem?_eq_some_iff.mp h).1
  rw [← e, List.getElem?_append_left hl]; exact h
/-- what values lean on: numbers, tuples, what is locked, what nobody writes -/
structure Lean3 (ρ : Mp) (H : Hp) (ρ' : Mp) (H' : Hp) : Prop where
  pre : ρ.r <+: ρ'.r
  sub : ∀ a, ρ.z a → ρ'.z a
  tp : ∀ a vs, H a = some (.tup vs) → H' a = some (.tup vs)
  fz : ∀ a o u, H a = some (.frz o u) → H' a = some (.frz o u)
  zp : ∀ a o, ρ.z a → H a = some o → H' a = some o
theorem ExtO.l3 {O ρ H ρ' H'} (x : ExtO O ρ H ρ' H') : Lean3 ρ H ρ' H' := ⟨x.pre, x.sub, x.tp, x.fz, x.zp⟩
section
variable {K : PySem.W.Frag} {ρ ρ' : Mp} {H H' : Hp} {O : Addr → Prop}
theorem KL.sq {a : Addr} {vs : List V} (h : KL K a vs) (H : Hp) : SqL K H a vs := by
  rcases h with (h | ⟨o, h⟩) | h
  · cases h
  · cases h
  · exact .inr h
theorem SL.sq {a : Addr} {vs : List V} (h : SL K H a vs) : SqL K H a vs := by
  rcases h with ⟨o, h⟩ | h
  · exact .inl (.inr ⟨o, h⟩)
  · exact h.sq H
theorem SL.mono (x : Lean3 ρ H ρ' H') {a : Addr} {vs : List V} (h : SL K H a vs) : SL K H' a vs := by
  rcases h with ⟨o, h⟩ | h
  · exact .inl ⟨o, x.fz _ _ _ h⟩
  · exact .inr h
theorem sqT_mono (x : Lean3 ρ H ρ' H') {a : Addr} {vs : List V} (h : SqT K H a vs) : SqT K H' a vs := by
  rcases h with (h | ⟨o, h⟩) | h
  · exact .inl (.inl (x.tp _ _ h))
  · exact .inl (.inr ⟨o, x.fz _ _ _ h⟩)
  · exact .inr h
theorem Lean3.get (x : Lean3 ρ H ρ' H') {n : Nat} {a : Addr} (h : ρ.r[n]? = some a) : ρ'.r[n]? = some a := by
  obtain ⟨t, e⟩ := x.pre
  have hl : n < ρ.r.length := (List.getElem?_eq_some_iff.mp h).1
  rw [← e, List.getElem?_append_left hl]; exact h
mutual
theorem RepV.mono3 (x : Lean3 ρ H ρ' H') : ∀ {v : Vl} {y : V}, RepV K ρ H v y → RepV K ρ' H' v y
  | .non, _, h => by simpa only [RepV] using h
  | .bl _, _, h => by simpa only [RepV] using h
  | .int _, _, h => by simpa only [RepV] using h
  | .str _, _, h => by simpa only [RepV] using h
  | .ty _, _, h => by simpa only [RepV] using h
  | .fl _, _, h => by simp only [RepV] at h
  | .bw _, _, h => by simp only [RepV] at h
  | .fd _ _, _, h => by simp only [RepV] at h
  | .bd _ _, _, h => by simp only [RepV] at h
  | .tup xs, _, h => by
    simp only [RepV] at h ⊢
    obtain ⟨a, vs, e, s, r⟩ := h
    exact ⟨a, vs, e, sqT_mono x s, RepVs.mono3 x r⟩
  | .ref n, _, h => by
    simp only [RepV] at h ⊢
    obtain ⟨a, e, s⟩ := h
    exact ⟨a, e, x.get s⟩
  | .fz xs, _, h => by
    simp only [RepV] at h ⊢
    obtain ⟨a, vs, e, z, s, r⟩ := h
    exact ⟨a, vs, e, x.sub a z, x.zp a _ z s, RepVs.mono3 x r⟩
  | .kz xs, _, h => by
    simp only [RepV] at h ⊢
    obtain ⟨a, vs, e, s, r⟩ := h
    exact ⟨a, vs, e, s.mono x, RepVs.mono3 x r⟩
  | .zd ks xs, _, h => by
    simp only [RepV] at h ⊢
    obtain ⟨a, vs, o, e, z, s, d, r⟩ := h
    exact ⟨a, vs, o, e, x.sub a z, x.zp a _ z s, d, RepVs.mono3 x r⟩
theorem RepVs.mono3 (x : Lean3 ρ H ρ' H') : ∀ {vs : List Vl} {ys : List V}, RepVs K ρ H vs ys → RepVs K ρ' H' vs ys
  | [], _, h => by simpa only [RepVs] using h
  | v :: vs, _, h => by
    simp only [RepVs] at h ⊢
    obtain ⟨y, r, e, h1, h2⟩ := h
    exact ⟨y, r, e, RepV.mono3 x h1, RepVs.mono3 x h2⟩
end
theorem RepV.mono (x : Ext ρ H ρ' H') {v : Vl} {y : V} (h : RepV K ρ H v y) : RepV K ρ' H' v y := h.mono3 x.l3
theorem RepVs.mono (x : Ext ρ H ρ' H') {vs : List Vl} {ys : List V} (h : RepVs K ρ H vs ys) : RepVs K ρ' H' vs ys := h.mono3 x.l3
theorem RepL.mono (x : Ext ρ H ρ' H') {xs : List Vl} {y : V} (h : RepL K ρ H xs y) : RepL K ρ' H' xs y :=
  let ⟨a, vs, e, n, m, s, r⟩ := h; ⟨a, vs, e, x.not n s, x.notz m s, x.fr _ _ n (fun z => z) s, r.mono x⟩
theorem RepD.mono (x : Ext ρ H ρ' H') {ks : List Ky} {xs : List Vl} {y : V} (h : RepD K ρ H ks xs y) : RepD K ρ' H' ks xs y :=
  let ⟨a, vs, o, e, n, m, s, d, r⟩ := h; ⟨a, vs, o, e, x.not n s, x.notz m s, x.fr _ _ n (fun z => z) s, d, r.mono x⟩
theorem RepR.mono (x : Ext ρ H ρ' H') {v : Vl} {y : V} (h : RepR K ρ H v y) : RepR K ρ' H' v y := by
  cases v with
  | fl xs => exact RepL.mono x h
  | bw xs => exact RepL.mono x h
  | fd ks xs => exact RepD.mono x h
  | bd ks xs => exact RepD.mono x h
  | _ => exact RepV.mono x h
/-- no thing without a number -/
def NotFl : Vl → Bool
  | .fl _ => false
  | .bw _ => false
  | .fd _ _ => false
  | .bd _ _ => false
  | _ => true
theorem RepV.nf {v : Vl} {y : V} (h : RepV K ρ H v y) : NotFl v = true := by
  cases v with
  | fl xs => simp only [RepV] at h
  | bw xs => simp only [RepV] at h
  | fd ks xs => simp only [RepV] at h
  | bd ks xs => simp only [RepV] at h
  | _ => rfl
theorem RepV.r {v : Vl} {y : V} (h : RepV K ρ H v y) : RepR K ρ H v y := by
  have n := h.nf
  cases v <;> first | exact h | cases n
theorem RepR.v {v : Vl} {x : V} (h : RepR K ρ H v x) (n : NotFl v = true) : RepV K ρ H v x := by
  cases v <;> first | exact h | cases n
theorem RepRs.mono (x : Ext ρ H ρ' H') : ∀ {vs : List Vl} {ys : List V}, RepRs K ρ H vs ys → RepRs K ρ' H' vs ys
  | [], _, h => h
  | v :: vs, _, ⟨y, r, e, h1, h2⟩ => ⟨y, r, e, h1.mono x, RepRs.mono x h2⟩
theorem RepVs.length : ∀ {vs : List Vl} {ys : List V}, RepVs K ρ H vs ys → ys.length = vs.length
  | [], _, h => by simp only [RepVs] at h; subst h; rfl
  | v :: vs, _, h => by
    simp only [RepVs] at h
    obtain ⟨y, r, e, h1, h2⟩ := h
    subst e
    simp [RepVs.length h2]
theorem RepVs.get : ∀ {vs : List Vl} {ys : List V} {i : Nat} {v : Vl}, RepVs K ρ H vs ys → vs[i]? = some v → ∃ y, ys[i]? = some y ∧ RepV K ρ H v y
  | [], _, _, _, _, e => by simp at e
  | v :: vs, _, 0, _, h, e => by
    simp only [RepVs] at h
    obtain ⟨y, r, rfl, h1, h2⟩ := h
    simp at e; subst e
    exact ⟨y, rfl, h1⟩
  | v :: vs, _, i + 1, _, h, e => by
    simp only [RepVs] at h
    obtain ⟨y, r, rfl, h1, h2⟩ := h
    obtain ⟨z, h3, h4⟩ := RepVs.get (i := i) h2 (by simpa using e)
    exact ⟨z, by simpa using h3, h4⟩
theorem RepVs.append : ∀ {vs ws : List Vl} {ys zs : List V}, RepVs K ρ H vs ys → RepVs K ρ H ws zs → RepVs K ρ H (vs ++ ws) (ys ++ zs)
  | [], _, _, _, h, g => by simp only [RepVs] at h; subst h; simpa using g
  | v :: vs, _, _, _, h, g => by
    simp only [RepVs] at h
    obtain ⟨y, r, rfl, h1, h2⟩ := h
    simp only [List.cons_append, RepVs]
    exact ⟨y, _, rfl, h1, RepVs.append h2 g⟩
theorem RepVs.one {v : Vl} {y : V} (h : RepV K ρ H v y) : RepVs K ρ H [v] [y] := by simp only [RepVs]; exact ⟨y, [], rfl, h, rfl⟩
theorem RepVs.cons {v : Vl} {y : V} {vs : List Vl} {ys : List V} (h : RepV K ρ H v y) (g : RepVs K ρ H vs ys) : RepVs K ρ H (v :: vs) (y :: ys) := by simp only [RepVs]; exact ⟨y, ys, rfl, h, g⟩
theorem RepVs.take : ∀ (n : Nat) {vs : List Vl} {ys : List V}, RepVs K ρ H vs ys → RepVs K ρ H (vs.take n) (ys.take n)
  | 0, _, _, _ => by simp [RepVs]
  | n + 1, [], _, h => by simp only [RepVs] at h; subst h; simp [RepVs]
  | n + 1, v :: vs, _, h => by
    simp only [RepVs] at h
    obtain ⟨y, r, rfl, h1, h2⟩ := h
    exact RepVs.cons h1 (RepVs.take n h2)
theorem RepVs.drop : ∀ (n : Nat) {vs : List Vl} {ys : List V}, RepVs K ρ H vs ys → RepVs K ρ H (vs.drop n) (ys.drop n)
  | 0, _, _, h => by simpa using h
  | n + 1, [], _, h => by simp only [RepVs] at h; subst h; simp [RepVs]
  | n + 1, v :: vs, _, h => by
    simp only [RepVs] at h
    obtain ⟨y, r, rfl, h1, h2⟩ := h
    simpa using RepVs.drop n h2
theorem RepVs.set : ∀ (n : Nat) {vs : List Vl} {ys : List V} {v : Vl} {y : V}, RepVs K ρ H vs ys → RepV K ρ H v y → RepVs K ρ H (vs.set n v) (ys.set n y)
  | _, [], _, _, _, h, _ => by simp only [RepVs] at h; subst h; simp [RepVs]
  | 0, _ :: vs, _, _, _, h, g => by
    simp only [RepVs] at h
    obtain ⟨y, r, rfl, h1, h2⟩ := h
    exact RepVs.cons g h2
  | n + 1, v :: vs, _, _, _, h, g => by
    simp only [RepVs] at h
    obtain ⟨y, r, rfl, h1, h2⟩ := h
    exact RepVs.cons h1 (RepVs.set n h2 g)
theorem RepVs.rev {vs : List Vl} : ∀ {ys : List V}, RepVs K ρ H vs ys → RepVs K ρ H vs.reverse ys.reverse := by
  induction vs with
  | nil => intro ys h; simp only [RepVs] at h; subst h; simp [RepVs]
  | cons v vs ih =>
    intro ys h
    simp only [RepVs] at h
    obtain ⟨y, r, rfl, h1, h2⟩ := h
    simp only [List.reverse_cons]
    exact RepVs.append (ih h2) (RepVs.one h1)


theorem RepS.mono (x : Ext ρ H ρ' H') {e : AE} {σ : St} (h : RepS K ρ H e σ) : RepS K ρ' H' e σ :=
  ⟨h.len, fun i v q => let ⟨y, h1, h2⟩ := h.at_ i v q; ⟨y, h1, h2.mono x⟩, h.nd, h.nb⟩
theorem owned_ref {v : Vl} {y : V} (h : RepR K ρ H v y) (o : v.owned = true) : ∃ a u, y = .ref a ∧ a ∉ ρ.r ∧ ¬ ρ.z a ∧ H a = some u := by
  cases v with
  | fl xs => obtain ⟨a, vs, e, n, m, s, r⟩ := h; exact ⟨a, _, e, n, m, s⟩
  | fd ks xs => obtain ⟨a, vs, u, e, n, m, s, d, r⟩ := h; exact ⟨a, _, e, n, m, s⟩
  | _ => cases o
theorem Own.some_ {e : AE} {σ : St} (h : RepS K ρ H e σ) {a : Addr} (o : Own e σ a) : a ∉ ρ.r ∧ ¬ ρ.z a ∧ ∃ u, H a = some u := by
  obtain ⟨i, v, e1, e2, e3⟩ := o
  obtain ⟨x, h1, h2⟩ := h.at_ i v e1
  rw [e3] at h1
  cases h1
  obtain ⟨b, u, q, n, m, s⟩ := owned_ref h2 e2
  cases q
  exact ⟨n, m, u, s⟩
theorem set_at {α : Type} {l : List α} {i j : Nat} {x y : α} (q : (l.set i x)[j]? = some y) : (i = j ∧ x = y ∧ i < l.length) ∨ (i ≠ j ∧ l[j]? = some y) := by
  by_cases hj : i = j
  · subst hj
    have hl : i < l.length := by
      have := (List.getElem?_eq_some_iff.mp q).1
      simpa using this
    rw [List.getElem?_set_self hl] at q
    cases q
    exact .inl ⟨rfl, rfl, hl⟩
  · rw [List.getElem?_set_ne hj] at q
    exact .inr ⟨hj, q⟩
/-- a name gets a value: none that's owned already -/
theorem RepS.setR {e : AE} {σ : St} (h : RepS K ρ H e σ) (i : Nat) {v : Vl} {y : V} (r : RepR K ρ H v y) (hb : v.noBw = true) (f : v.owned = true → ∀ j w, e[j]? = some (some w) → w.owned = true → j ≠ i → σ[j]? ≠ some (some y)) : RepS K ρ H (e.set i (some v)) (σ.set i (some y)) := by
  refine ⟨by simp [h.len], fun j w q => ?_, fun j k w w' x q1 q2 o1 o2 s1 s2 => ?_, fun j w q => ?_⟩
  rotate_left 2
  · rcases set_at q with ⟨rfl, e1, hl⟩ | ⟨hj, q⟩
    · cases e1; exact hb
    · exact h.nb j w q
  · rcases set_at q with ⟨rfl, e1, hl⟩ | ⟨hj, q⟩
    · cases e1
      exact ⟨y, List.getElem?_set_self (h.len ▸ hl), r⟩
    · rw [List.getElem?_set_ne hj]
      exact h.at_ j w q
  · rcases set_at q1 with ⟨rfl, e1, hl⟩ | ⟨hj, q1⟩
    · cases e1
      rcases set_at q2 with ⟨rfl, e2, hl2⟩ | ⟨hk, q2⟩
      · rfl
      · rw [List.getElem?_set_self (h.len ▸ hl)] at s1
        cases s1
        rw [List.getElem?_set_ne hk] at s2
        exact absurd s2 (f o1 k w' q2 o2 (Ne.symm hk))
    · rw [List.getElem?_set_ne hj] at s1
      rcases set_at q2 with ⟨rfl, e2, hl2⟩ | ⟨hk, q2⟩
      · cases e2
        rw [List.getElem?_set_self (h.len ▸ hl2)] at s2
        cases s2
        exact absurd s1 (f o2 j w q1 o1 (Ne.symm hj))
      · rw [List.getElem?_set_ne hk] at s2
        exact h.nd j k w w' x q1 q2 o1 o2 s1 s2
theorem nf_own {v : Vl} (h : NotFl v = true) : v.owned = false := by cases v <;> first | rfl | cases h
theorem nf_nb {v : Vl} (h : NotFl v = true) : v.noBw = true := by cases v <;> first | rfl | cases h
theorem own_nb {v : Vl} (h : v.owned = true) : v.noBw = true := by cases v <;> first | rfl | cases h
theorem RepS.set {e : AE} {σ : St} (h : RepS K ρ H e σ) (i : Nat) {v : Vl} {y : V} (r : RepV K ρ H v y) : RepS K ρ H (e.set i (some v)) (σ.set i (some y)) :=
  h.setR i r.r (nf_nb r.nf) fun o => by rw [nf_own r.nf] at o; cases o
theorem Own.set {e : AE} {σ : St} (hl : e.length = σ.length) {i : Nat} {v : Vl} {y : V} {a : Addr} (o : Own (e.set i (some v)) (σ.set i (some y)) a) : Own e σ a ∨ (v.owned = true ∧ y = .ref a) := by
  obtain ⟨j, w, e1, e2, e3⟩ := o
  rcases set_at e1 with ⟨rfl, q, hi⟩ | ⟨hj, q⟩
  · cases q
    rw [List.getElem?_set_self (hl ▸ hi)] at e3
    cases e3
    exact .inr ⟨e2, rfl⟩
  · rw [List.getElem?_set_ne hj] at e3
    exact .inl ⟨j, w, q, e2, e3⟩
/-- a name is forgotten -/
theorem RepS.drop {e : AE} {σ : St} (h : RepS K ρ H e σ) (i : Nat) : RepS K ρ H (e.set i none) σ := by
  have back : ∀ {j : Nat} {w : Vl}, (e.set i none)[j]? = some (some w) → e[j]? = some (some w) := fun {j w} q => by
    rcases set_at q with ⟨_, q, _⟩ | ⟨_, q⟩
    · cases q
    · exact q
  exact ⟨by simp [h.len], fun j w q => h.at_ j w (back q), fun j k w w' x q1 q2 => h.nd j k w w' x (back q1) (back q2), fun j w q => h.nb j w (back q)⟩
theorem Own.drop {e : AE} {σ : St} {i : Nat} {a : Addr} (o : Own (e.set i none) σ a) : Own e σ a := by
  obtain ⟨j, w, e1, e2, e3⟩ := o
  rcases set_at e1 with ⟨_, q, _⟩ | ⟨_, q⟩
  · cases q
  · exact ⟨j, w, q, e2, e3⟩
variable {ah : AH}
theorem RepH.some_ (h : RepH K ρ ah H) {n : Nat} {a : Addr} (e : ρ.r[n]? = some a) : ∃ o, H a = some o := by
  have hl : n < ah.length := by rw [← h.len]; exact (List.getElem?_eq_some_iff.mp e).1
  have hr := h.ob n a _ e (List.getElem?_eq_getElem hl)
  revert hr
  cases ah[n] with
  | lst xs => intro hr; obtain ⟨vs, q, _⟩ := hr; exact ⟨_, q⟩
  | dct ks xs => intro hr; obtain ⟨vs, o, q, _⟩ := hr; exact ⟨_, q⟩
  | ins c fs xs => intro hr; obtain ⟨_, vs, q, _⟩ := hr; exact ⟨_, q⟩
theorem RepH.mem (h : RepH K ρ ah H) {a : Addr} (e : a ∈ ρ.r) : ∃ o, H a = some o := by
  obtain ⟨n, q⟩ := List.mem_iff_getElem?.mp e
  exact h.some_ q
theorem RepH.ne (h : RepH K ρ ah H) {a p : Addr} (e : a ∈ ρ.r) (n : H p = none) : a ≠ p := by
  obtain ⟨o, q⟩ := h.mem e
  rintro rfl
  rw [n] at q; cases q
theorem RepH.notin (h : RepH K ρ ah H) {p : Addr} (n : H p = none) : p ∉ ρ.r := fun q => h.ne q n rfl
theorem RepH.notz (h : RepH K ρ ah H) {p : Addr} (n : H p = none) : ¬ ρ.z p := fun q => h.zi p q n
theorem zi_mono (x : ExtO O ρ H ρ' H') {z : Addr → Prop} (h : ∀ a, z a → H a ≠ none) : ∀ a, z a → H' a ≠ none := fun a q e => h a q (x.kp a e)
/-- a new thing of the layer's heap -/
theorem Ext.new {p : Addr} {o : HO} (n : H p = none) : Ext ρ H ρ (upd H p o) :=
  ⟨List.prefix_refl _, fun _ h => h, fun a u _ _ e => by rw [upd_ne (ne_of_none e n)]; exact e, fun a u e => by rw [upd_ne (ne_of_none e n)]; exact e, fun a u w e => by rw [upd_ne (ne_of_none e n)]; exact e,
   fun a u _ e => by rw [upd_ne (ne_of_none e n)]; exact e, fun a h => by
     by_cases q : a = p
     · subst q; exact n
     · rw [upd_ne q] at h; exact h, fun a h => .inl h, fun a h => .inl h⟩
theorem RepO.mono (x : Lean3 ρ H ρ' H') {a : Addr} (ha : ∀ o, H a = some o → H' a = some o) : ∀ {o : Ob}, RepO K ρ H a o → RepO K ρ' H' a o
  | .lst xs, ⟨vs, e, r⟩ => ⟨vs, ha _ e, r.mono3 x⟩
  | .dct ks xs, ⟨vs, o, e, d, r⟩ => ⟨vs, o, ha _ e, d, r.mono3 x⟩
  | .ins c fs xs, ⟨dx, vs, e, l, r⟩ => ⟨dx, vs, ha _ e, l, r.mono3 x⟩
theorem RepH.new (h : RepH K ρ ah H) {p : Addr} {o : HO} (n : H p = none) : RepH K ρ ah (upd H p o) :=
  ⟨h.len, h.nd, h.dj, zi_mono (Ext.new (ρ := ρ) n) h.zi, fun k a u e1 e2 => (h.ob k a u e1 e2).mono (Ext.new (ρ := ρ) n).l3 fun u q => by rw [upd_ne (ne_of_none q n)]; exact q⟩
/-- with one number more -/
def Mp.num (ρ : Mp) (a : Addr) : Mp := ⟨ρ.r ++ [a], ρ.z⟩
/-- with one thing more that nobody writes -/
def Mp.frz (ρ : Mp) (a : Addr) : Mp := ⟨ρ.r, fun b => ρ.z b ∨ b = a⟩
theorem l3_num {a : Addr} : Lean3 ρ H (ρ.num a) H := ⟨List.prefix_append _ _, fun _ h => h, fun _ _ h => h, fun _ _ _ h => h, fun _ _ _ h => h⟩
theorem l3_frz {a : Addr} : Lean3 ρ H (ρ.frz a) H := ⟨List.prefix_refl _, fun _ h => .inl h, fun _ _ h => h, fun _ _ _ h => h, fun _ _ _ h => h⟩
/-- a thing of the layer's heap gets a number -/
theorem RepH.num (h : RepH K ρ ah H) {a : Addr} {ob : Ob} (n : a ∉ ρ.r) (m : ¬ ρ.z a) (r : RepO K ρ H a ob) : RepH K (ρ.num a) (ah ++ [ob]) H := by
  refine ⟨by simp [Mp.num, h.len], ?_, fun b z q => ?_, h.zi, fun k b u e1 e2 => ?_⟩
  · simp only [Mp.num]
    rw [List.nodup_append]
    refine ⟨h.nd, by simp, fun x hx y hy => ?_⟩
    obtain rfl : y = a := by simpa using hy
    rintro rfl
    exact n hx
  · rcases List.mem_append.mp q with q | q
    · exact h.dj b z q
    · obtain rfl : b = a := by simpa using q
      exact m z
  · by_cases hk : k < ρ.r.length
    · simp only [Mp.num] at e1
      rw [List.getElem?_append_left hk] at e1
      rw [List.getElem?_append_left (h.len ▸ hk)] at e2
      exact (h.ob k b u e1 e2).mono l3_num fun _ q => q
    · simp only [Mp.num] at e1
      have hk' : k = ρ.r.length := by
        have := (List.getElem?_eq_some_iff.mp e1).1
        simp at this
        omega
      subst hk'
      rw [List.getElem?_append_right (Nat.le_refl _)] at e1
      rw [List.getElem?_append_right (by rw [h.len]; exact Nat.le_refl _)] at e2
      simp [h.len] at e1 e2
      subst e1 e2
      exact r.mono l3_num fun _ q => q
/-- a thing of the layer's heap is written no more -/
theorem RepH.frz (h : RepH K ρ ah H) {a : Addr} (n : a ∉ ρ.r) {o : HO} (e : H a = some o) : RepH K (ρ.frz a) ah H :=
  ⟨h.len, h.nd, fun b z q => z.elim (fun z => h.dj b z q) fun z => by subst z; exact n q, fun b z q => z.elim (fun z => h.zi b z q) fun z => (by subst z; rw [e] at q; cases q), fun k b u e1 e2 => (h.ob k b u e1 e2).mono l3_frz fun _ q => q⟩
theorem ExtO.num (x : ExtO O ρ H ρ' H') {a : Addr} (n : H a = none ∨ O a) : ExtO O ρ H (ρ'.num a) H' :=
  ⟨x.pre.trans (List.prefix_append _ _), x.sub, x.fr, x.tp, x.fz, x.zp, x.kp, fun b h => by
    rcases List.mem_append.mp h with z | z
    · exact x.nw b z
    · obtain rfl : b = a := by simpa using z
      exact .inr n, x.nz⟩
theorem ExtO.frz (x : ExtO O ρ H ρ' H') {a : Addr} (n : H a = none ∨ O a) : ExtO O ρ H (ρ'.frz a) H' :=
  ⟨x.pre, fun b h => .inl (x.sub b h), x.fr, x.tp, x.fz, x.zp, x.kp, x.nw, fun b h => by
    rcases h with h | rfl
    · exact x.nz b h
    · exact .inr n⟩
/-- a thing with a number is written -/
theorem RepH.wrO (h : RepH K ρ ah H) {n : Nat} {a : Addr} {ho : HO} {ob : Ob} (e : ρ.r[n]? = some a) (nt : ∀ vs, H a ≠ some (.tup vs)) (nf : ∀ o u, H a ≠ some (.frz o u)) (r : Lean3 ρ H ρ (upd H a ho) → RepO K ρ (upd H a ho) a ob) :
    RepH K ρ (ah.set n ob) (upd H a ho) ∧ Ext ρ H ρ (upd H a ho) := by
  have ha : a ∈ ρ.r := List.mem_of_getElem? e
  have x : Ext ρ H ρ (upd H a ho) := ⟨List.prefix_refl _, fun _ h => h, fun b o hb _ q => by
      have hne : b ≠ a := by rintro rfl; exact hb ha
      rw [upd_ne hne]; exact q,
    fun b us q => by
      have hne : b ≠ a := by rintro rfl; exact nt _ q
      rw [upd_ne hne]; exact q,
    fun b o u q => by
      have hne : b ≠ a := by rintro rfl; exact nf _ _ q
      rw [upd_ne hne]; exact q,
    fun b o z q => by
      have hne : b ≠ a := by rintro rfl; exact h.dj _ z ha
      rw [upd_ne hne]; exact q,
    fun b q => by
      by_cases hne : b = a
      · subst hne; rw [upd_same] at q; cases q
      · rw [upd_ne hne] at q; exact q,
    fun b hb => .inl hb, fun b hb => .inl hb⟩
  refine ⟨⟨by simp [h.len], h.nd, h.dj, zi_mono x h.zi, fun k b u e1 e2 => ?_⟩, x⟩
  by_cases hk : n = k
  · subst hk
    rw [e] at e1; cases e1
    have hl : n < ah.length := by rw [← h.len]; exact (List.getElem?_eq_some_iff.mp e).1
    rw [List.getElem?_set_self hl] at e2; cases e2
    exact r x.l3
  · rw [List.getElem?_set_ne hk] at e2
    have hb : b ≠ a := fun z => by
      subst z
      obtain ⟨l1, g1⟩ := List.getElem?_eq_some_iff.mp e
      obtain ⟨l2, g2⟩ := List.getElem?_eq_some_iff.mp e1
      exact hk ((List.getElem_inj h.nd).mp (g1.trans g2.symm))
    exact (h.ob k b u e1 e2).mono x.l3 fun o q => by rw [upd_ne hb]; exact q
theorem RepH.wr (h : RepH K ρ ah H) {n : Nat} {a : Addr} {xs : List Vl} {vs vs' : List V} (e : ρ.r[n]? = some a) (l : H a = some (.lst vs)) (r : RepVs K ρ H xs vs') :
    RepH K ρ (ah.set n (.lst xs)) (upd H a (.lst vs')) ∧ Ext ρ H ρ (upd H a (.lst vs')) :=
  h.wrO e (fun vs q => by rw [l] at q; cases q) (fun o u q => by rw [l] at q; cases q) fun l3 => ⟨vs', upd_same, r.mono3 l3⟩
/-- a thing that a name owns is written -/
theorem RepH.wrOwn (h : RepH K ρ ah H) {a : Addr} {ho : HO} (n : a ∉ ρ.r) (m : ¬ ρ.z a) (nt : ∀ vs, H a ≠ some (.tup vs)) (nf : ∀ o u, H a ≠ some (.frz o u)) (o : O a) :
    RepH K ρ ah (upd H a ho) ∧ ExtO O ρ H ρ (upd H a ho) := by
  have x : ExtO O ρ H ρ (upd H a ho) := ⟨List.prefix_refl _, fun _ h => h, fun b u hb hO q => by
      have hne : b ≠ a := by rintro rfl; exact hO o
      rw [upd_ne hne]; exact q,
    fun b us q => by
      have hne : b ≠ a := by rintro rfl; exact nt _ q
      rw [upd_ne hne]; exact q,
    fun b o u q => by
      have hne : b ≠ a := by rintro rfl; exact nf _ _ q
      rw [upd_ne hne]; exact q,
    fun b o z q => by
      have hne : b ≠ a := by rintro rfl; exact m z
      rw [upd_ne hne]; exact q,
    fun b q => by
      by_cases hne : b = a
      · subst hne; rw [upd_same] at q; cases q
      · rw [upd_ne hne] at q; exact q,
    fun b hb => .inl hb, fun b hb => .inl hb⟩
  refine ⟨⟨h.len, h.nd, h.dj, zi_mono x h.zi, fun k b u e1 e2 => ?_⟩, x⟩
  have hb : b ≠ a := fun z => by subst z; exact n (List.mem_of_getElem? e1)
  exact (h.ob k b u e1 e2).mono x.l3 fun o q => by rw [upd_ne hb]; exact q
theorem RepH.at_ (h : RepH K ρ ah H) {n : Nat} {ob : Ob} (e : ah[n]? = some ob) : ∃ a, ρ.r[n]? = some a ∧ RepO K ρ H a ob := by
  have hl : n < ρ.r.length := by rw [h.len]; exact (List.getElem?_eq_some_iff.mp e).1
  exact ⟨_, List.getElem?_eq_getElem hl, h.ob n _ _ (List.getElem?_eq_getElem hl) e⟩
theorem RepH.lst (h : RepH K ρ ah H) {n : Nat} {xs : List Vl} (e : ah[n]? = some (.lst xs)) : ∃ a vs, ρ.r[n]? = some a ∧ H a = some (.lst vs) ∧ RepVs K ρ H xs vs := by
  obtain ⟨a, q, vs, h1, h2⟩ := h.at_ e
  exact ⟨a, vs, q, h1, h2⟩
theorem RepH.dct (h : RepH K ρ ah H) {n : Nat} {ks : List Ky} {xs : List Vl} (e : ah[n]? = some (.dct ks xs)) : ∃ a vs o, ρ.r[n]? = some a ∧ H a = some o ∧ DO ks vs o ∧ RepVs K ρ H xs vs := by
  obtain ⟨a, q, vs, o, h1, h2, h3⟩ := h.at_ e
  exact ⟨a, vs, o, q, h1, h2, h3⟩
end
end FK

/-! ### the small Python: its text and what it comes to -/
namespace FK
open PySem PySem.Spec PyProof.Rows L2

inductive Bi where
  | len | abs | isinstance | all | any | tuple | list | str | min | max | sum | int | sorted
  deriving DecidableEq
inductive Me where
  | append | extend | pop | popAt | reverse | clear | join | split
  deriving DecidableEq
/-- what a for walks: a thing itself, range(..), enumerate(..), zip(..) -/
inductive Itk where
  | seq | rng | enum | zip
  deriving DecidableEq
inductive Tg where
  | name (i : Nat) | tup (is : List Nat)
  deriving DecidableEq
inductive Ex where
  | var (i : Nat) | cst (v : Vl) | glob (x : Str) | bty (T : String)
  | bin (op : Operator) (a b : Ex) | neg (a : Ex)
  | cmp (op : CmpOp) (a b : Ex) | chain (op op' : CmpOp) (a b c : Ex)
  | and (a b : Ex) | or (a b : Ex) | not (a : Ex) | ite (c a b : Ex)
  | lst (es : Ex) | tup (es : Ex)
  | ix (a b : Ex) | sl (a lo hi : Ex)
  | lc (k : Itk) (it : Ex) (tg : Tg) (own : List Nat) (c e : Ex)
  | call (f : Nat) (es : Ex) | pcall (f : Nat) (es : Ex) | bi (f : Bi) (es : Ex) | me (m : Me) (o es : Ex)
  | dsp (es : Ex) | new (e : Ex) | fld (o : Ex) (x : Str) | mk (c f : Nat) (es : Ex) | um (c f : Nat) (o es : Ex)
  | nil | cons (e es : Ex) | val (e : Ex)
inductive Sx where
  | nil | seq (s r : Sx)
  | set (i : Nat) (e : Ex) | setT (is : List Nat) (e : Ex) | setIx (o i e : Ex)
  | aug (i : Nat) (op : Operator) (e : Ex)
  | ifs (c : Ex) (a b : Sx)
  | for_ (k : Itk) (it : Ex) (tg : Tg) (b : Sx)
  | whl (c : Ex) (b : Sx)
  | ret (e : Ex) | retN | expr (e : Ex) | pass | brk | cont
  | fail
  /- names that own what they hold; two or three names at once; a field; marks that the program does not have: names forgotten, a name's thing written no more -/
  | setO (i : Nat) (e : Ex) | retO (i : Nat) | appO (i : Nat) (e : Ex) | extO (i : Nat) (e : Ex) | revO (i : Nat) | putO (i : Nat) (j e : Ex)
  | par (ms : List (Nat × Bool)) (es : Ex) | setFld (o : Ex) (x : Str) (e : Ex)
  | wipe (is : List Nat) (s : Sx) | frz (i : Nat)
inductive Fl where
  | nx | rt (v : Vl) | bk | ct

/-! values -/
/-- what is kept by another thing, or by a name that owns nothing -/
def frzV : Vl → Option Vl
  | .fl xs => some (.fz xs)
  | .fd ks xs => some (.zd ks xs)
  | .bw _ => none
  | .bd _ _ => none
  | v => some v
/-- what a name is read as -/
def rdV : Vl → Vl
  | .fl xs => .bw xs
  | .fd ks xs => .bd ks xs
  | v => v
mutual
/-- no thing that may be changed is in it -/
def noRef : Vl → Bool
  | .ref _ => false
  | .tup xs => noRefs xs
  | .fl xs => noRefs xs
  | .fz xs => noRefs xs
  | .bw xs => noRefs xs
  | .kz xs => noRefs xs
  | .fd _ xs => noRefs xs
  | .zd _ xs => noRefs xs
  | .bd _ xs => noRefs xs
  | _ => true
def noRefs : List Vl → Bool
  | [] => true
  | x :: xs => noRef x && noRefs xs
end
def noRefO : Ob → Bool
  | .lst xs => noRefs xs
  | .dct _ xs => noRefs xs
  | .ins _ _ xs => noRefs xs
/-- the items of a list or tuple -/
def lstW : Vl → AH → Option (List Vl)
  | .fl xs, _ => some xs
  | .fz xs, _ => some xs
  | .bw xs, _ => some xs
  | .ref n, h => match h[n]? with
    | some (.lst xs) => some xs
    | _ => none
  | _, _ => none
def lstOf : Vl → AH → Option (List Vl)
  | .kz xs, _ => some xs
  | v, h => lstW v h
def seqOf : Vl → AH → Option (List Vl)
  | .tup xs, _ => some xs
  | v, h => lstOf v h
def dctOf : Vl → AH → Option (List Ky × List Vl)
  | .fd ks xs, _ => some (ks, xs)
  | .zd ks xs, _ => some (ks, xs)
  | .bd ks xs, _ => some (ks, xs)
  | .ref n, h => match h[n]? with
    | some (.dct ks xs) => some (ks, xs)
    | _ => none
  | _, _ => none
def keyOf : Vl → Option Key
  | .int i => some (.inl i)
  | .str x => some (.inr x)
  | _ => none
def kyOf (v : Vl) : Option Ky := (keyOf v).map .k
def kdOk (ks : List Ky) (k : Ky) : Bool := ks.all fun c => match c, k with
  | .k _, .k _ => true
  | .t _, .t _ => true
  | _, _ => false
def dGet (d : List Ky × List Vl) (k : Ky) : Option Vl := ((d.1.zip d.2).find? fun p => decide (p.1 = k)).map (·.2)
def CMulB (i j : Int) : Bool := (decide (-(2 ^ 64) < i) && decide (i < 2 ^ 64)) || (decide (-(2 ^ 64) < j) && decide (j < 2 ^ 64))
def CMulC (i j : Int) : Bool := decide (i.natAbs.log2 + j.natAbs.log2 < 1000000)
def addV : Vl → Vl → AH → Option Vl
  | .int i, .int j, _ => some (.int (i + j))
  | .str a, .str b, _ => if a.length + b.length ≤ sizeLine then some (.str (a ++ b)) else none
  | .tup a, .tup b, _ => if a.length + b.length ≤ sizeLine then some (.tup (a ++ b)) else none
  | x, y, h => match lstW x h, lstW y h with
    | some a, some b => if a.length + b.length ≤ sizeLine then some (.fl (a ++ b)) else none
    | _, _ => none
def binV : Operator → Vl → Vl → AH → Option Vl
  | .Add, x, y, h => addV x y h
  | .Sub, .int i, .int j, _ => some (.int (i - j))
  | .Mult, .int i, .int j, _ => if CMulB i j then some (.int (i * j)) else if CMulC i j then some (.int (i * j)) else none
  | .Mult, x, .int k, h => match lstW x h with
    | some a => if -(2 ^ 63) ≤ k ∧ k < 2 ^ 63 ∧ a.length * k.toNat ≤ sizeLine then some (.fl (List.replicate k.toNat a).flatten) else none
    | none => none
  | .Mod, .int i, .int j, _ => if 0 < j then some (.int (i % j)) else none
  | .FloorDiv, .int i, .int j, _ => if 0 < j ∧ j < 1073741824 then some (.int (i / j)) else if 0 < j ∧ j.natAbs.log2 < 9000 then some (.int (i / j)) else none
  | .Pow, .int i, .int j, _ => if 0 ≤ j ∧ j ≤ 1000000 ∧ i.natAbs < 2 ^ 64 then some (.int (i ^ j.toNat)) else none
  | _, _, _, _ => none
/-- data, for == -/
def toD : Nat → AH → Vl → Option PyData
  | 0, _, _ => none
  | n + 1, h, v => match v with
    | .non => some .none
    | .bl b => some (.bool b)
    | .int i => some (.int i)
    | .str x => some (.str x)
    | .tup xs => (xs.mapM (toD n h)).map .tuple
    | .fl xs => (xs.mapM (toD n h)).map .list
    | .fz xs => (xs.mapM (toD n h)).map .list
    | .bw xs => (xs.mapM (toD n h)).map .list
    | .kz xs => (xs.mapM (toD n h)).map .list
    | .ref k => match h[k]? with
      | some (.lst xs) => (xs.mapM (toD n h)).map .list
      | _ => none
    | _ => none
def eqV (x y : Vl) (h : AH) : Option Bool := match x, y with
  | .non, .non => some true
  | .non, .int _ => some false | .int _, .non => some false | .non, .bl _ => some false | .bl _, .non => some false | .non, .str _ => some false | .str _, .non => some false
  | .int i, .int j => some (decide (i = j))
  | .bl i, .bl j => some (decide (i = j))
  | .str i, .str j => some (decide (i = j))
  | .int _, .str _ => some false | .str _, .int _ => some false | .bl _, .str _ => some false | .str _, .bl _ => some false
  | x, y => match toD 66 h x, toD 66 h y with
    | some d, some e => if SeqAt.shaped d && SeqAt.shaped e then some (d.eqv e) else none
    | _, _ => none
/-- flat values and == of them -/
def flV : Vl → Option V
  | .non => some .non
  | .bl b => some (.bl b)
  | .int i => some (.int i)
  | .str x => some (.str x)
  | _ => none
def inV (x y : Vl) (h : AH) : Option Bool := match dctOf y h with
  | some d => match kyOf x with
    | some k => if kdOk d.1 k then some (dGet d k).isSome else none
    | none => none
  | none => match x, y with
  | .str a, .str b => some (!(Builtin.Str.occurrences b a 0 b.length 1).isEmpty)
  | x, y => match flV x, (seqOf y h).bind (·.mapM flV) with
    | some a, some bs => some (L2.inV a bs)
    | _, _ => match toD 66 h x, toD 66 h y with
      | some d, some (.list ds) => if SeqAt.shaped d && SeqAt.shaped (.list ds) then some (ds.any fun z => z.eqv d) else none
      | _, _ => none
/-- a tuple of ints -/
def intsOf : List Vl → Option (List Int)
  | [] => some []
  | .int i :: r => (intsOf r).map (i :: ·)
  | _ => none
def cmpV : CmpOp → Vl → Vl → AH → Option Bool
  | .Eq, x, y, h => eqV x y h
  | .NotEq, x, y, h => (eqV x y h).map (!·)
  | .In, x, y, h => inV x y h
  | .NotIn, x, y, h => (inV x y h).map (!·)
  | .Lt, .int i, .int j, _ => some (decide (i < j))
  | .LtE, .int i, .int j, _ => some (decide (i ≤ j))
  | .Gt, .int i, .int j, _ => some (decide (j < i))
  | .GtE, .int i, .int j, _ => some (decide (j ≤ i))
  | .Lt, .tup a, .tup b, _ => match intsOf a, intsOf b with
    | some i, some j => some (HT.lexLt i j)
    | _, _ => none
  | .Is, x, .non, _ => match x with
    | .non => some true
    | _ => some false
  | .IsNot, x, .non, _ => match x with
    | .non => some false
    | _ => some true
  | .Is, .bl a, .bl b, _ => some (decide (a = b))
  | .IsNot, .bl a, .bl b, _ => some (!decide (a = b))
  | _, _, _, _ => none
def ixV (x y : Vl) (h : AH) : Option Vl := match dctOf x h with
  | some d => match kyOf y with
    | some k => if kdOk d.1 k then dGet d k else none
    | none => none
  | none => match y with
  | .int i => match x with
    | .str z => if z.length ≤ sizeLine then (atI z.cps.toList i).map fun c => .str ⟨#[c]⟩ else none
    | x => (seqOf x h).bind fun xs => atI xs i
  | _ => none
def cutL {α : Type} (xs : List α) (lo hi : Option Int) : List α := List.take (HT.sIx xs.length xs.length hi - HT.sIx xs.length 0 lo) (List.drop (HT.sIx xs.length 0 lo) xs)
def slV (x : Vl) (lo hi : Option Int) (h : AH) : Option Vl := match x with
  | .str z => if z.length ≤ sizeLine then some (.str (cutS z lo hi)) else none
  | .tup xs => some (.tup (cutL xs lo hi))
  | x => (lstOf x h).map fun xs => .fl (cutL xs lo hi)
def tyOf (v : Vl) (h : AH) : Option String := match v with
  | .non => some "NoneType"
  | .bl _ => some "bool"
  | .int _ => some "int"
  | .str _ => some "str"
  | .tup _ => some "tuple"
  | .fl _ => some "list"
  | .fz _ => some "list"
  | .bw _ => some "list"
  | .kz _ => some "list"
  | .ref n => match h[n]? with
    | some (.lst _) => some "list"
    | _ => none
  | _ => none
def anyT (t : String) : List Vl → Option Bool
  | [] => some false
  | .ty T :: r => match kitB t T, anyT t r with
    | some b, some c => some (b || c)
    | _, _ => none
  | _ => none
def isV (x c : Vl) (h : AH) : Option Bool := match c with
  | .ty T => (tyOf x h).bind fun t => kitB t T
  | .tup cs => (tyOf x h).bind fun t => anyT t cs
  | _ => none
/-- tuples of ints -/
def tupsOf : List Vl → Option (List (List Int))
  | [] => some []
  | .tup xs :: r => match intsOf xs, tupsOf r with
    | some i, some is => some (i :: is)
    | _, _ => none
  | _ => none
def insI (i : Int) : List Int → List Int
  | [] => [i]
  | j :: r => if i ≤ j then i :: j :: r else j :: insI i r
def sortI : List Int → List Int
  | [] => []
  | i :: r => insI i (sortI r)
def leT (a b : List Int) : Bool := !HT.lexLt b a
def insT (i : List Int) : List (List Int) → List (List Int)
  | [] => [i]
  | j :: r => if leT i j then i :: j :: r else j :: insT i r
def sortT : List (List Int) → List (List Int)
  | [] => []
  | i :: r => insT i (sortT r)
def tI (ns : List Int) : Vl := .tup (ns.map .int)
def sortV (xs : List Vl) : Option (List Vl) := match intsOf xs with
  | some ns => some ((sortI ns).map .int)
  | none => none
def strsOf : List Vl → Option (List Str)
  | [] => some []
  | .str i :: r => (strsOf r).map (i :: ·)
  | _ => none
def blsOf : List Vl → Option (List Bool)
  | [] => some []
  | .bl i :: r => (blsOf r).map (i :: ·)
  | _ => none
/-- str(x) -/
def strV (v : Vl) (h : AH) : Option Str := match v with
  | .str a => some a
  | v => match toD 66 h v with
    | some d => if d.showable && !d.hasDict && decide (d.depth ≤ 64) && decide (d.shown.length ≤ sizeLine) then some d.shown else none
    | none => none
def biV : Bi → List Vl → AH → Option Vl
  | .len, [x], h => match x with
    | .str z => if z.length ≤ sizeLine then some (.int z.length) else none
    | x => (seqOf x h).map fun xs => .int xs.length
  | .abs, [.int i], _ => some (.int (if i < 0 then -i else i))
  | .isinstance, [x, c], h => (isV x c h).map .bl
  | .all, [x], h => ((lstOf x h).bind blsOf).map fun bs => .bl (bs.all id)
  | .any, [x], h => ((lstOf x h).bind blsOf).map fun bs => .bl (bs.any id)
  | .tuple, [x], h => (seqOf x h).map .tup
  | .list, [x], h => (seqOf x h).map .fl
  | .int, [.bl b], _ => some (.int (if b then 1 else 0))
  | .int, [.int i], _ => some (.int i)
  | .min, [.int i, .int j], _ => some (.int (if j < i then j else i))
  | .max, [.int i, .int j], _ => some (.int (if j > i then j else i))
  | .str, [x], h => (strV x h).map .str
  | .sum, [x], h => ((lstOf x h).bind intsOf).map fun ns => .int ns.sum
  | .sorted, [x], h => ((lstOf x h).bind sortV).map .fl
  | _, _, _ => none
def meV : Me → Vl → List Vl → AH → Option (Vl × AH)
  | .append, .ref n, [y], h => match h[n]? with
    | some (.lst xs) => if xs.length < sizeLine then some (.non, h.set n (.lst (xs ++ [y]))) else none
    | _ => none
  | .extend, .ref n, [y], h => match h[n]?, lstW y h with
    | some (.lst xs), some ys => if xs.length + ys.length ≤ sizeLine then some (.non, h.set n (.lst (xs ++ ys))) else none
    | _, _ => none
  | .pop, .ref n, [], h => match h[n]? with
    | some (.lst xs) => (xs[xs.length - 1]?).map fun v => (v, h.set n (.lst xs.dropLast))
    | _ => none
  | .reverse, .ref n, [], h => match h[n]? with
    | some (.lst xs) => some (.non, h.set n (.lst xs.reverse))
    | _ => none
  | .clear, .ref n, [], h => match h[n]? with
    | some (.lst xs) => some (.non, h.set n (.lst []))
    | _ => none
  | .join, .str z, [x], h => match (seqOf x h).bind strsOf with
    | some ss => if (ss.map (·.length)).sum + ss.length * z.length ≤ 16777216 then some (.str (Txt.join z ss), h) else none
    | none => none
  | .split, .str a, [.str b], h => if (b.length == 0) = false ∧ a.length + 2 ≤ sizeLine then some (.fl ((Txt.split a b).map .str), h) else none
  | _, _, _, _ => none

/-- the method is one of this thing's -/
def meTy : Me → Vl → AH → Bool
  | .join, .str _, _ => true
  | .join, _, _ => false
  | .split, .str _, _ => true
  | .split, _, _ => false
  | _, .ref n, h => match h[n]? with
    | some (.lst _) => true
    | _ => false
  | _, _, _ => false
def setIxV : Vl → Vl → Vl → AH → Option AH
  | .ref n, .int i, v, h => match h[n]? with
    | some (.lst xs) => (ixN xs.length i).map fun k => h.set n (.lst (xs.set k v))
    | _ => none
  | _, _, _, _ => none
/-- what a loop walks -/
inductive Src where
  | st (xs : List Vl) | lv (n : Nat) | en (s : Src) | zp (s t : Src)
def enL (xs : List Vl) : List Vl := xs.zipIdx.map fun p => .tup [.int (p.2 : Nat), p.1]
def zpL (xs ys : List Vl) : List Vl := (xs.zip ys).map fun p => .tup [p.1, p.2]
def Src.get : Src → AH → Option (List Vl)
  | .st xs, _ => some xs
  | .lv n, h => match h[n]? with
    | some (.lst xs) => some xs
    | _ => none
  | .en s, h => (s.get h).map enL
  | .zp s t, h => match s.get h, t.get h with
    | some a, some b => some (zpL a b)
    | _, _ => none
def rngL (lo : Int) (n : Nat) : List Vl := (List.range n).map fun k => .int (lo + (k : Nat))
def in62 (i : Int) : Bool := decide (-(2 ^ 62) ≤ i) && decide (i < 2 ^ 62)
def seqSrc (v : Vl) (h : AH) : Option Src := match v with
  | .tup xs => some (.st xs)
  | .fl xs => some (.st xs)
  | .fz xs => some (.st xs)
  | .bw xs => some (.st xs)
  | .kz xs => some (.st xs)
  | .ref n => match h[n]? with
    | some (.lst _) => some (.lv n)
    | _ => none
  | _ => none
def isTup : Vl → Bool
  | .tup _ => true
  | _ => false
def srcOf (k : Itk) (vs : List Vl) (h : AH) : Option Src := match k with
  | .seq => match vs with
    | [v] => match v with
      | .str z => some (.st (z.cps.toList.map fun c => .str ⟨#[c]⟩))
      | v => seqSrc v h
    | _ => none
  | .rng => match vs with
    | [.int j] => if in62 j then some (.st (rngL 0 j.toNat)) else none
    | [.int i, .int j] => if in62 i && in62 j then some (.st (rngL i (j - i).toNat)) else none
    | _ => none
  | .enum => match vs with
    | [v] => (seqSrc v h).map .en
    | _ => none
  | .zip => match vs with
    | [v, w] => match seqSrc v h, seqSrc w h with
      | some a, some b => if isTup v == isTup w then some (.zp a b) else none
      | _, _ => none
    | _ => none
def asgs : List Nat → List Vl → AE → Option AE
  | [], [], e => some e
  | i :: is, v :: vs, e => asgs is vs (e.set i (some v))
  | _, _, _ => none
def asg : Tg → Vl → AE → Option AE
  | .name i, v, e => some (e.set i (some v))
  | .tup is, .tup vs, e => asgs is vs e
  | _, _, _ => none
def wipeE (e : AE) : List Nat → AE
  | [] => e
  | i :: is => (wipeE e is).set i none
abbrev ME := AE → AH → Option (Vl × AH)
abbrev MT := AE → AH → Option (Bool × AH)
abbrev MA := AE → AH → Option (List Vl × AH)
abbrev MS := AE → AH → Option (Fl × AE × AH)
/-- a list comprehension's turns -/
def lcLoop (s : Src) (tg : Tg) (c : MT) (m : ME) (e : AE) : Nat → Nat → List Vl → AH → Option (List Vl × AH)
  | 0, i, acc, h => match s.get h with
    | some xs => if xs.length ≤ i then some (acc, h) else none
    | none => none
  | f + 1, i, acc, h => match s.get h with
    | none => none
    | some xs => match xs[i]? with
      | none => some (acc, h)
      | some x => match asg tg x e with
        | none => none
        | some e1 => match c e1 h with
          | none => none
          | some (false, h1) => lcLoop s tg c m e f (i + 1) acc h1
          | some (true, h1) => match m e1 h1 with
            | none => none
            | some (v, h2) => match frzV v with
              | none => none
              | some w => lcLoop s tg c m e f (i + 1) (acc ++ [w]) h2
def forLoop (s : Src) (tg : Tg) (b : MS) : Nat → Nat → MS
  | 0, i, e, h => match s.get h with
    | some xs => if xs.length ≤ i then some (.nx, e, h) else none
    | none => none
  | f + 1, i, e, h => match s.get h with
    | none => none
    | some xs => match xs[i]? with
      | none => some (.nx, e, h)
      | some x => match asg tg x e with
        | none => none
        | some e1 => match b e1 h with
          | none => none
          | some (.nx, e2, h2) => forLoop s tg b f (i + 1) e2 h2
          | some (.ct, e2, h2) => forLoop s tg b f (i + 1) e2 h2
          | some (.bk, e2, h2) => some (.nx, e2, h2)
          | some (.rt v, e2, h2) => some (.rt v, e2, h2)
def whlLoop (c : MT) (b : MS) : Nat → MS
  | 0, _, _ => none
  | f + 1, e, h => match c e h with
    | none => none
    | some (false, h1) => some (.nx, e, h1)
    | some (true, h1) => match b e h1 with
      | none => none
      | some (.nx, e2, h2) => whlLoop c b f e2 h2
      | some (.ct, e2, h2) => whlLoop c b f e2 h2
      | some (.bk, e2, h2) => some (.nx, e2, h2)
      | some (.rt v, e2, h2) => some (.rt v, e2, h2)
/-- calls that see the things handed to them alone -/
def lendV : Vl → Vl
  | .fl xs => .fz xs
  | .bw xs => .fz xs
  | .fd ks xs => .zd ks xs
  | .bd ks xs => .zd ks xs
  | v => v
def refNo : Vl → Option Nat
  | .ref n => some n
  | _ => none
def pins : List Vl → List Nat → Option (List Vl × List Nat)
  | [], ns => some ([], ns)
  | v :: vs, ns => match refNo v with
    | some n => if n ∈ ns then none else match pins vs (ns ++ [n]) with
      | some (ws, ms) => some (.ref ns.length :: ws, ms)
      | none => none
    | none => if noRef v then match pins vs ns with
        | some (ws, ms) => some (lendV v :: ws, ms)
        | none => none
      else none
def getAll (h : AH) : List Nat → Option (List Ob)
  | [] => some []
  | n :: ns => match h[n]?, getAll h ns with
    | some o, some os => some (o :: os)
    | _, _ => none
def putAll : AH → List Nat → List Ob → AH
  | h, n :: ns, o :: os => putAll (h.set n o) ns os
  | h, _, _ => h
mutual
/-- no list and no dict is in it -/
def noLst : Vl → Bool
  | .non => true
  | .bl _ => true
  | .int _ => true
  | .str _ => true
  | .ty _ => true
  | .tup xs => noLsts xs
  | _ => false
def noLsts : List Vl → Bool
  | [] => true
  | x :: xs => noLst x && noLsts xs
end
def noLstO : Ob → Bool
  | .lst xs => noLsts xs
  | .dct _ xs => noLsts xs
  | .ins _ _ xs => noLsts xs
def anyBw : List Vl → Bool
  | [] => false
  | .bw _ :: _ => true
  | .bd _ _ :: _ => true
  | _ :: r => anyBw r
/-- what a call with things of its own hands out: k things were handed to it -/
def outV (k : Nat) (h : AH) (v : Vl) : Option Vl := match v with
  | .ref n => if k ≤ n then match h[n]? with
      | some (.lst xs) => if noRefs xs then some (.fl xs) else none
      | some (.dct ks xs) => if noRefs xs then some (.fd ks xs) else none
      | _ => none
    else none
  | .bw _ => none
  | .bd _ _ => none
  | v => if noRef v then some v else none
def run0 (g : List Vl → AH → Option (Vl × AH)) (ws : List Vl) (os : AH) : Option (Vl × AH) := match g ws os with
  | none => none
  | some (v, h2) => match outV os.length h2 v with
    | none => none
    | some u => if (h2.take os.length).all noRefO then some (u, h2.take os.length) else none
def frm (g : List Vl → AH → Option (Vl × AH)) (vs : List Vl) (h : AH) : Option (Vl × AH) := match pins vs [] with
  | none => none
  | some (ws, ns) => match getAll h ns with
    | none => none
    | some os => if os.all noRefO then match run0 g ws os with
        | none => none
        | some (u, os') => if anyBw vs && !(noLst u && os'.all noLstO) then none else some (u, putAll h ns os')
      else none
def newV : Vl → AH → Option (Vl × AH)
  | .fl xs, h => some (.ref h.length, h ++ [.lst xs])
  | .fd ks xs, h => some (.ref h.length, h ++ [.dct ks xs])
  | _, _ => none
/-- a dict display -/
def dspV : List Vl → List (Ky × Vl) → Option (List (Ky × Vl))
  | [], acc => some acc
  | k :: v :: r, acc => match keyOf k with
    | some x => if acc.any (·.1 == .k x) then none else dspV r (acc ++ [(.k x, v)])
    | none => none
  | _, _ => none
section
variable (gl : List (Str × Vl)) (cl : Nat → List Vl → AH → Option (Vl × AH)) (fu : Nat)
def part : Vl → Option (Option Int)
  | .int i => some (some i)
  | _ => none
mutual
def evE : Ex → ME
  | .var i, e, h => match e[i]? with
    | some (some v) => some (rdV v, h)
    | _ => none
  | .cst v, _, h => some (v, h)
  | .glob x, _, h => match gl.lookup x with
    | some v => some (v, h)
    | none => none
  | .bty T, _, h => some (.ty T, h)
  | .bin op a b, e, h => match evE a e h with
    | none => none
    | some (x, h1) => match evE b e h1 with
      | none => none
      | some (y, h2) => match binV op x y h2 with
        | none => none
        | some v => some (v, h2)
  | .neg a, e, h => match evE a e h with
    | some (.int i, h1) => some (.int (-i), h1)
    | _ => none
  | .cmp op a b, e, h => match evE a e h with
    | none => none
    | some (x, h1) => match evE b e h1 with
      | none => none
      | some (y, h2) => match cmpV op x y h2 with
        | none => none
        | some v => some (.bl v, h2)
  | .chain op op' a b c, e, h => match evE a e h with
    | none => none
    | some (x, h1) => match evE b e h1 with
      | none => none
      | some (y, h2) => match cmpV op x y h2 with
        | none => none
        | some false => some (.bl false, h2)
        | some true => match evE c e h2 with
          | none => none
          | some (z, h3) => match cmpV op' y z h3 with
            | none => none
            | some v => some (.bl v, h3)
  | .and a b, e, h => match evE a e h with
    | some (.bl true, h1) => evE b e h1
    | some (.bl false, h1) => some (.bl false, h1)
    | _ => none
  | .or a b, e, h => match evE a e h with
    | some (.bl false, h1) => evE b e h1
    | some (.bl true, h1) => some (.bl true, h1)
    | _ => none
  | .not a, e, h => match evE a e h with
    | some (.bl b, h1) => some (.bl (!b), h1)
    | _ => none
  | .ite c a b, e, h => match evT c e h with
    | some (true, h1) => evE a e h1
    | some (false, h1) => evE b e h1
    | none => none
  | .lst es, e, h => match evA es e h with
    | some (vs, h1) => if vs.length ≤ sizeLine then some (.fl vs, h1) else none
    | none => none
  | .tup es, e, h => match evA es e h with
    | some (vs, h1) => if vs.length ≤ sizeLine then some (.tup vs, h1) else none
    | none => none
  | .ix a b, e, h => match evE a e h with
    | none => none
    | some (x, h1) => match evE b e h1 with
      | none => none
      | some (y, h2) => match ixV x y h2 with
        | none => none
        | some v => some (v, h2)
  | .sl a lo hi, e, h => match evE a e h with
    | none => none
    | some (x, h1) => match evO lo e h1 with
      | none => none
      | some (l, h2) => match evO hi e h2 with
        | none => none
        | some (u, h3) => match slV x l u h3 with
          | none => none
          | some v => some (v, h3)
  | .lc k it tg own c m, e, h => match evB it e h with
    | none => none
    | some (vs, h1) => match srcOf k vs h1 with
      | none => none
      | some s => match s.get h1 with
        | none => none
        | some xs => if xs.length ≤ sizeLine then match lcLoop s tg (evT c) (evE m) (wipeE e own) xs.length 0 [] h1 with
            | some (ys, h2) => some (.fl ys, h2)
            | none => none
          else none
  | .call f es, e, h => match evA es e h with
    | none => none
    | some (vs, h1) => cl f vs h1
  | .pcall f es, e, h => match evB es e h with
    | none => none
    | some (vs, h1) => frm (cl f) vs h1
  | .dsp es, e, h => match evA es e h with
    | none => none
    | some (vs, h1) => match dspV vs [] with
      | some kvs => if kvs.length ≤ 15 then some (.fd (kvs.map (·.1)) (kvs.map (·.2)), h1) else none
      | none => none
  | .new a, e, h => match evE a e h with
    | none => none
    | some (v, h1) => newV v h1
  | .fld _ _, _, _ => none
  | .mk _ _ _, _, _ => none
  | .um _ _ _ _, _, _ => none
  | .bi f es, e, h => match evB es e h with
    | none => none
    | some (vs, h1) => match biV f vs h1 with
      | none => none
      | some v => some (v, h1)
  | .me m o es, e, h => match evE o e h with
    | none => none
    | some (x, h1) => if meTy m x h1 then match evA es e h1 with
        | none => none
        | some (vs, h2) => meV m x vs h2
      else none
  | .nil, _, _ => none
  | .cons _ _, _, _ => none
  | .val _, _, _ => none
def evT : Ex → MT
  | .nil, _, h => some (true, h)
  | .and a b, e, h => match evT a e h with
    | some (true, h1) => evT b e h1
    | some (false, h1) => some (false, h1)
    | none => none
  | .or a b, e, h => match evT a e h with
    | some (false, h1) => evT b e h1
    | some (true, h1) => some (true, h1)
    | none => none
  | .not a, e, h => match evT a e h with
    | some (b, h1) => some (!b, h1)
    | none => none
  | .val a, e, h => match evE a e h with
    | some (.bl b, h1) => some (b, h1)
    | _ => none
  | _, _, _ => none
def evA : Ex → MA
  | .nil, _, h => some ([], h)
  | .cons a es, e, h => match evE a e h with
    | none => none
    | some (v, h1) => match frzV v with
      | none => none
      | some w => match evA es e h1 with
        | none => none
        | some (vs, h2) => some (w :: vs, h2)
  | _, _, _ => none
def evB : Ex → MA
  | .nil, _, h => some ([], h)
  | .cons a es, e, h => match evE a e h with
    | none => none
    | some (v, h1) => match evB es e h1 with
      | none => none
      | some (vs, h2) => some (v :: vs, h2)
  | _, _, _ => none
def evO : Ex → AE → AH → Option (Option Int × AH)
  | .nil, _, h => some (none, h)
  | .cons a _, e, h => match evE a e h with
    | some (.int i, h1) => some (some i, h1)
    | _ => none
  | _, _, _ => none
end
/-- two or three names at once: true for a name that owns what it gets -/
def parV : List (Nat × Bool) → List Vl → AE → Option AE
  | [], [], e => some e
  | (i, true) :: ms, v :: vs, e => if v.owned then parV ms vs (e.set i (some v)) else none
  | (i, false) :: ms, v :: vs, e => match frzV v with
    | some w => parV ms vs (e.set i (some w))
    | none => none
  | _, _, _ => none
def augV : Operator → Vl → Vl → Option Vl
  | .Add, .int i, .int j => some (.int (i + j))
  | .Sub, .int i, .int j => some (.int (i - j))
  | _, _, _ => none
def evS : Sx → MS
  | .nil, e, h => some (.nx, e, h)
  | .seq s r, e, h => match evS s e h with
    | some (.nx, e1, h1) => evS r e1 h1
    | o => o
  | .set i x, e, h => match evE gl cl x e h with
    | some (v, h1) => match frzV v with
      | some w => some (.nx, e.set i (some w), h1)
      | none => none
    | none => none
  | .setT is x, e, h => match evE gl cl x e h with
    | some (v, h1) => match asg (.tup is) v e with
      | some e1 => some (.nx, e1, h1)
      | none => none
    | none => none
  | .setIx o i x, e, h => match evE gl cl x e h with
    | none => none
    | some (v, h1) => match frzV v with
      | none => none
      | some w => match evE gl cl o e h1 with
        | none => none
        | some (p, h2) => match evE gl cl i e h2 with
          | none => none
          | some (j, h3) => match setIxV p j w h3 with
            | none => none
            | some h4 => some (.nx, e, h4)
  | .aug i op x, e, h => match e[i]? with
    | some (some u) => match evE gl cl x e h with
      | none => none
      | some (w, h1) => match augV op u w with
        | none => none
        | some v => some (.nx, e.set i (some v), h1)
    | _ => none
  | .ifs c a b, e, h => match evT gl cl c e h with
    | some (true, h1) => evS a e h1
    | some (false, h1) => evS b e h1
    | none => none
  | .for_ k it tg b, e, h => match evB gl cl it e h with
    | none => none
    | some (vs, h1) => match srcOf k vs h1 with
      | none => none
      | some s => match s.get h1 with
        | none => none
        | some xs => if anyBw vs then none else forLoop s tg (evS b) xs.length 0 e h1
  | .whl c b, e, h => whlLoop (evT gl cl c) (evS b) fu e h
  | .ret x, e, h => match evE gl cl x e h with
    | some (v, h1) => if anyBw [v] then none else some (.rt v, e, h1)
    | none => none
  | .retN, e, h => some (.rt .non, e, h)
  | .expr x, e, h => match evE gl cl x e h with
    | some (_, h1) => some (.nx, e, h1)
    | none => none
  | .pass, e, h => some (.nx, e, h)
  | .brk, e, h => some (.bk, e, h)
  | .cont, e, h => some (.ct, e, h)
  | .fail, _, _ => none
  | .setO i x, e, h => match evE gl cl x e h with
    | some (v, h1) => if v.owned then some (.nx, e.set i (some v), h1) else none
    | none => none
  | .retO i, e, h => match e[i]? with
    | some (some v) => if v.owned then some (.rt v, e, h) else none
    | _ => none
  | .appO i x, e, h => match e[i]? with
    | some (some (.fl xs)) => match evE gl cl x e h with
      | none => none
      | some (v, h1) => match frzV v with
        | none => none
        | some w => if xs.length < sizeLine then some (.nx, e.set i (some (.fl (xs ++ [w]))), h1) else none
    | _ => none
  | .extO i x, e, h => match e[i]? with
    | some (some (.fl xs)) => match evE gl cl x e h with
      | none => none
      | some (v, h1) => match lstW v h1 with
        | none => none
        | some ys => if xs.length + ys.length ≤ sizeLine then some (.nx, e.set i (some (.fl (xs ++ ys))), h1) else none
    | _ => none
  | .revO i, e, h => match e[i]? with
    | some (some (.fl xs)) => some (.nx, e.set i (some (.fl xs.reverse)), h)
    | _ => none
  | .putO i j x, e, h => match evE gl cl x e h with
    | none => none
    | some (v, h1) => match frzV v with
      | none => none
      | some w => match e[i]? with
        | some (some (.fl xs)) => match evE gl cl j e h1 with
          | some (.int n, h2) => match ixN xs.length n with
            | some k => some (.nx, e.set i (some (.fl (xs.set k w))), h2)
            | none => none
          | _ => none
        | _ => none
  | .par ms es, e, h => match evB gl cl es e h with
    | none => none
    | some (vs, h1) => match parV ms vs e with
      | none => none
      | some e1 => some (.nx, e1, h1)
  | .setFld _ _ _, _, _ => none
  | .wipe is s, e, h => match evS s e h with
    | some (f, e1, h1) => some (f, wipeE e1 is, h1)
    | none => none
  | .frz i, e, h => match e[i]? with
    | some (some v) => match frzV v with
      | some w => some (.nx, e.set i (some w), h)
      | none => none
    | _ => none
end
structure Fn where
  np : Nat
  ns : Nat
  body : Sx
def runF (gl : List (Str × Vl)) (cl : Nat → List Vl → AH → Option (Vl × AH)) (fu : Nat) (F : Fn) (vs : List Vl) (h : AH) : Option (Vl × AH) :=
  if vs.length = F.np then match evS gl cl fu F.body (vs.map some ++ List.replicate (F.ns - vs.length) none) h with
    | some (.rt v, _, h1) => some (v, h1)
    | some (.nx, _, h1) => some (.non, h1)
    | _ => none
  else none
def callN (fns : List (Nat × Fn)) (gl : List (Str × Vl)) (fu : Nat) : Nat → Nat → List Vl → AH → Option (Vl × AH)
  | 0, _, _, _ => none
  | k + 1, f, vs, h => match fns.lookup f with
    | none => none
    | some F => runF gl (callN fns gl fu k) fu F vs h
end FK

/-! ### operators by values -/
namespace FK
open PySem PySem.Spec PyProof.Rows L2
section
variable {K : PySem.W.Frag} {ρ ρ' : Mp} {H H' : Hp} {ah ah' : AH}
/-- where a thing just made lies, nothing lay -/
def Fr (H : Hp) (v : Vl) (z : V) : Prop := v.owned = true → ∃ a, z = .ref a ∧ H a = none
theorem Fr.of {v : Vl} {z : V} (h : v.owned = false) : Fr H v z := fun o => by rw [h] at o; cases o
def Res (K : PySem.W.Frag) (ρ : Mp) (H : Hp) (ah : AH) (v : Vl) (Q : VK) : Prop := ∀ H' z, Ext ρ H ρ H' → RepH K ρ ah H' → RepR K ρ H' v z → Fr H v z → Q z H'
theorem Res.flat {v : Vl} {Q : VK} {z : V} (h : Res K ρ H ah v Q) (r : RepH K ρ ah H) (e : RepV K ρ H v z) : Q z H := h H z (Ext.refl _ _) r e.r (Fr.of (nf_own e.nf))
theorem Res.fl {xs : List Vl} {vs : List V} {Q : VK} (h : Res K ρ H ah (.fl xs) Q) (r : RepH K ρ ah H) (e : RepVs K ρ H xs vs) (p : Addr) (n : H p = none) : Q (.ref p) (upd H p (.lst vs)) :=
  h _ _ (Ext.new n) (r.new n) ⟨p, vs, rfl, r.notin n, r.notz n, upd_same, e.mono (Ext.new (ρ := ρ) n)⟩ fun _ => ⟨p, rfl, n⟩
theorem Res.tup {xs : List Vl} {vs : List V} {Q : VK} (h : Res K ρ H ah (.tup xs) Q) (r : RepH K ρ ah H) (e : RepVs K ρ H xs vs) (p : Addr) (n : H p = none) : Q (.ref p) (upd H p (.tup vs)) := by
  refine h _ _ (Ext.new n) (r.new n) ?_ (Fr.of rfl)
  show RepV K ρ _ (.tup xs) _
  simp only [RepV]
  exact ⟨p, vs, rfl, .inl (.inl upd_same), e.mono (Ext.new (ρ := ρ) n)⟩
theorem RepVs.nilR {xs : List Vl} (h : RepVs K ρ H xs []) : xs = [] := by
  cases xs with
  | nil => rfl
  | cons x r => simp only [RepVs] at h; obtain ⟨_, _, e, _⟩ := h; cases e
theorem RepR.int_ {i : Int} {x : V} (h : RepR K ρ H (.int i) x) : x = .int i := by simpa only [RepR, RepV] using h
theorem RepR.str_ {i : Str} {x : V} (h : RepR K ρ H (.str i) x) : x = .str i := by simpa only [RepR, RepV] using h
theorem RepR.bl_ {i : Bool} {x : V} (h : RepR K ρ H (.bl i) x) : x = .bl i := by simpa only [RepR, RepV] using h
theorem RepR.ty_ {i : String} {x : V} (h : RepR K ρ H (.ty i) x) : x = .ty i := by simpa only [RepR, RepV] using h
theorem RepR.non_ {x : V} (h : RepR K ρ H .non x) : x = .non := by simpa only [RepR, RepV] using h
theorem RepR.tup_ {xs : List Vl} {x : V} (h : RepR K ρ H (.tup xs) x) : ∃ a vs, x = .ref a ∧ SqT K H a vs ∧ RepVs K ρ H xs vs := by simpa only [RepR, RepV] using h
theorem RepR.ref_ {n : Nat} {x : V} (h : RepR K ρ H (.ref n) x) : ∃ a, x = .ref a ∧ ρ.r[n]? = some a := by simpa only [RepR, RepV] using h
theorem RepR.kz_ {xs : List Vl} {x : V} (h : RepR K ρ H (.kz xs) x) : ∃ a vs, x = .ref a ∧ SL K H a vs ∧ RepVs K ρ H xs vs := by simpa only [RepR, RepV] using h
theorem RepR.fz_ {xs : List Vl} {x : V} (h : RepR K ρ H (.fz xs) x) : ∃ a vs, x = .ref a ∧ ρ.z a ∧ H a = some (.lst vs) ∧ RepVs K ρ H xs vs := by simpa only [RepR, RepV] using h
theorem RepR.zd_ {ks : List Ky} {xs : List Vl} {x : V} (h : RepR K ρ H (.zd ks xs) x) : ∃ a vs o, x = .ref a ∧ ρ.z a ∧ H a = some o ∧ DO ks vs o ∧ RepVs K ρ H xs vs := by simpa only [RepR, RepV] using h
theorem RepR.fl_ {xs : List Vl} {x : V} (h : RepR K ρ H (.fl xs) x) : RepL K ρ H xs x := h
theorem RepR.bw_ {xs : List Vl} {x : V} (h : RepR K ρ H (.bw xs) x) : RepL K ρ H xs x := h
theorem lstW_ok {u : Vl} {x : V} {xs : List Vl} (r : RepH K ρ ah H) (h : RepR K ρ H u x) (e : lstW u ah = some xs) : ∃ a vs, x = .ref a ∧ H a = some (.lst vs) ∧ RepVs K ρ H xs vs := by
  cases u with
  | fl ys =>
    simp only [lstW, Option.some.injEq] at e
    subst e
    obtain ⟨a, vs, rfl, _, _, q, s⟩ := h
    exact ⟨a, vs, rfl, q, s⟩
  | bw ys =>
    simp only [lstW, Option.some.injEq] at e
    subst e
    obtain ⟨a, vs, rfl, _, _, q, s⟩ := h
    exact ⟨a, vs, rfl, q, s⟩
  | fz ys =>
    simp only [lstW, Option.some.injEq] at e
    subst e
    obtain ⟨a, vs, rfl, _, q, s⟩ := h.fz_
    exact ⟨a, vs, rfl, q, s⟩
  | ref n =>
    obtain ⟨a, rfl, ha⟩ := h.ref_
    simp only [lstW] at e
    split at e
    · rename_i ys hy
      cases e
      obtain ⟨b, vs, hb, q, s⟩ := r.lst hy
      rw [ha] at hb; cases hb
      exact ⟨a, vs, rfl, q, s⟩
    · cases e
  | _ => simp [lstW] at e
theorem lstOf_ok {u : Vl} {x : V} {xs : List Vl} (r : RepH K ρ ah H) (h : RepR K ρ H u x) (e : lstOf u ah = some xs) : ∃ a vs, x = .ref a ∧ SqL K H a vs ∧ RepVs K ρ H xs vs := by
  cases u with
  | kz ys =>
    simp only [lstOf, Option.some.injEq] at e
    subst e
    obtain ⟨a, vs, h1, h2, h3⟩ := h.kz_
    exact ⟨a, vs, h1, h2.sq, h3⟩
  | _ =>
    obtain ⟨a, vs, h1, h2, h3⟩ := lstW_ok r h (by simpa only [lstOf] using e)
    exact ⟨a, vs, h1, .of h2, h3⟩
theorem seqOf_ok {u : Vl} {x : V} {xs : List Vl} (r : RepH K ρ ah H) (h : RepR K ρ H u x) (e : seqOf u ah = some xs) : ∃ a vs, x = .ref a ∧ (SqL K H a vs ∨ SqT K H a vs) ∧ RepVs K ρ H xs vs := by
  cases u with
  | tup ys =>
    simp only [seqOf, Option.some.injEq] at e
    subst e
    obtain ⟨a, vs, h1, h2, h3⟩ := h.tup_
    exact ⟨a, vs, h1, .inr h2, h3⟩
  | _ =>
    obtain ⟨a, vs, h1, h2, h3⟩ := lstOf_ok r h (by simpa only [seqOf] using e)
    exact ⟨a, vs, h1, .inl h2, h3⟩
theorem dctOf_ok {u : Vl} {x : V} {d : List Ky × List Vl} (r : RepH K ρ ah H) (h : RepR K ρ H u x) (e : dctOf u ah = some d) : ∃ a vs o, x = .ref a ∧ H a = some o ∧ DO d.1 vs o ∧ RepVs K ρ H d.2 vs := by
  cases u with
  | fd ks ys =>
    simp only [dctOf, Option.some.injEq] at e
    subst e
    obtain ⟨a, vs, o, rfl, _, _, q, d, s⟩ := h
    exact ⟨a, vs, o, rfl, q, d, s⟩
  | bd ks ys =>
    simp only [dctOf, Option.some.injEq] at e
    subst e
    obtain ⟨a, vs, o, rfl, _, _, q, d, s⟩ := h
    exact ⟨a, vs, o, rfl, q, d, s⟩
  | zd ks ys =>
    simp only [dctOf, Option.some.injEq] at e
    subst e
    obtain ⟨a, vs, o, rfl, _, q, d, s⟩ := h.zd_
    exact ⟨a, vs, o, rfl, q, d, s⟩
  | ref n =>
    obtain ⟨a, rfl, ha⟩ := h.ref_
    simp only [dctOf] at e
    split at e
    · rename_i ks ys hy
      cases e
      obtain ⟨b, vs, o, hb, q, d, s⟩ := r.dct hy
      rw [ha] at hb; cases hb
      exact ⟨a, vs, o, rfl, q, d, s⟩
    · cases e
  | _ => simp [dctOf] at e

/-! data -/
theorem mapM_ok {f : Vl → Option PyData} (hf : ∀ v x d, RepV K ρ H v x → f v = some d → Dp K H x d) : ∀ {xs : List Vl} {vs : List V} {ds : List PyData}, RepVs K ρ H xs vs → xs.mapM f = some ds → DpAll K H vs ds
  | [], _, _, h, e => by
    simp only [RepVs] at h
    subst h
    simp at e; subst e
    exact .nil
  | v :: xs, _, _, h, e => by
    simp only [RepVs] at h
    obtain ⟨y, r, rfl, h1, h2⟩ := h
    simp only [List.mapM_cons, Option.bind_eq_bind, Option.bind_eq_some_iff, Option.pure_def, Option.some.injEq] at e
    obtain ⟨d, e1, ds, e2, rfl⟩ := e
    exact .cons (hf _ _ _ h1 e1) (mapM_ok hf h2 e2)
theorem toD_ok (r : RepH K ρ ah H) : ∀ (n : Nat) (v : Vl) (x : V) (d : PyData), RepR K ρ H v x → toD n ah v = some d → Dp K H x d
  | 0, _, _, _, _, e => by simp [toD] at e
  | n + 1, v, x, d, h, e => by
    have ih := toD_ok r n
    have ih' : ∀ v x d, RepV K ρ H v x → toD n ah v = some d → Dp K H x d := fun v x d h => ih v x d h.r
    cases v with
    | non => obtain rfl := h.non_; simp only [toD, Option.some.injEq] at e; subst e; exact .non
    | bl b => obtain rfl := h.bl_; simp only [toD, Option.some.injEq] at e; subst e; exact .bl _
    | int b => obtain rfl := h.int_; simp only [toD, Option.some.injEq] at e; subst e; exact .int _
    | str b => obtain rfl := h.str_; simp only [toD, Option.some.injEq] at e; subst e; exact .str _
    | tup xs =>
      obtain ⟨a, vs, rfl, s, q⟩ := h.tup_
      simp only [toD, Option.map_eq_some_iff] at e
      obtain ⟨ds, e, rfl⟩ := e
      exact .tup s (mapM_ok ih' q e)
    | fl xs =>
      obtain ⟨a, vs, rfl, _, _, s, q⟩ := h.fl_
      simp only [toD, Option.map_eq_some_iff] at e
      obtain ⟨ds, e, rfl⟩ := e
      exact .lst (.of s) (mapM_ok ih' q e)
    | bw xs =>
      obtain ⟨a, vs, rfl, _, _, s, q⟩ := h.bw_
      simp only [toD, Option.map_eq_some_iff] at e
      obtain ⟨ds, e, rfl⟩ := e
      exact .lst (.of s) (mapM_ok ih' q e)
    | fz xs =>
      obtain ⟨a, vs, rfl, _, s, q⟩ := h.fz_
      simp only [toD, Option.map_eq_some_iff] at e
      obtain ⟨ds, e, rfl⟩ := e
      exact .lst (.of s) (mapM_ok ih' q e)
    | kz xs =>
      obtain ⟨a, vs, rfl, s, q⟩ := h.kz_
      simp only [toD, Option.map_eq_some_iff] at e
      obtain ⟨ds, e, rfl⟩ := e
      exact .lst s.sq (mapM_ok ih' q e)
    | ref k =>
      simp only [toD] at e
      split at e
      · rename_i xs hx
        simp only [Option.map_eq_some_iff] at e
        obtain ⟨ds, e, rfl⟩ := e
        obtain ⟨a, vs, rfl, s, q⟩ := lstW_ok r h (show lstW (.ref k) ah = some xs by simp only [lstW, hx])
        exact .lst (.of s) (mapM_ok ih' q e)
      · cases e
    | _ => simp [toD] at e
theorem flV_ok {v : Vl} {x w : V} (h : RepR K ρ H v x) (e : flV v = some w) : x = w ∧ flatV x = true := by
  cases v with
  | non => obtain rfl := h.non_; simp only [flV, Option.some.injEq] at e; subst e; exact ⟨rfl, rfl⟩
  | bl b => obtain rfl := h.bl_; simp only [flV, Option.some.injEq] at e; subst e; exact ⟨rfl, rfl⟩
  | int b => obtain rfl := h.int_; simp only [flV, Option.some.injEq] at e; subst e; exact ⟨rfl, rfl⟩
  | str b => obtain rfl := h.str_; simp only [flV, Option.some.injEq] at e; subst e; exact ⟨rfl, rfl⟩
  | _ => simp [flV] at e
theorem flVs_ok : ∀ {xs : List Vl} {vs ws : List V}, RepVs K ρ H xs vs → xs.mapM flV = some ws → vs = ws ∧ vs.all flatV = true
  | [], _, _, h, e => by
    simp only [RepVs] at h
    subst h
    simp at e; subst e
    exact ⟨rfl, rfl⟩
  | v :: xs, _, _, h, e => by
    simp only [RepVs] at h
    obtain ⟨y, r, rfl, h1, h2⟩ := h
    simp only [List.mapM_cons, Option.bind_eq_bind, Option.bind_eq_some_iff, Option.pure_def, Option.some.injEq] at e
    obtain ⟨d, e1, ds, e2, rfl⟩ := e
    obtain ⟨rfl, f1⟩ := flV_ok h1.r e1
    obtain ⟨rfl, f2⟩ := flVs_ok h2 e2
    exact ⟨rfl, by simp [f1]; simpa using f2⟩
theorem intsOf_ok : ∀ {xs : List Vl} {vs : List V} {ns : List Int}, RepVs K ρ H xs vs → intsOf xs = some ns → vs = ns.map V.int
  | [], _, _, h, e => by
    simp only [RepVs] at h
    subst h
    simp only [intsOf, Option.some.injEq] at e; subst e
    rfl
  | v :: xs, _, _, h, e => by
    simp only [RepVs] at h
    obtain ⟨y, r, rfl, h1, h2⟩ := h
    cases v with
    | int i =>
      simp only [intsOf, Option.map_eq_some_iff] at e
      obtain ⟨ns, e, rfl⟩ := e
      obtain rfl := h1.r.int_
      rw [intsOf_ok h2 e]; rfl
    | _ => simp [intsOf] at e
theorem strsOf_ok : ∀ {xs : List Vl} {vs : List V} {ns : List Str}, RepVs K ρ H xs vs → strsOf xs = some ns → vs = ns.map V.str
  | [], _, _, h, e => by
    simp only [RepVs] at h
    subst h
    simp only [strsOf, Option.some.injEq] at e; subst e
    rfl
  | v :: xs, _, _, h, e => by
    simp only [RepVs] at h
    obtain ⟨y, r, rfl, h1, h2⟩ := h
    cases v with
    | str i =>
      simp only [strsOf, Option.map_eq_some_iff] at e
      obtain ⟨ns, e, rfl⟩ := e
      obtain rfl := h1.r.str_
      rw [strsOf_ok h2 e]; rfl
    | _ => simp [strsOf] at e
theorem blsOf_ok : ∀ {xs : List Vl} {vs : List V} {ns : List Bool}, RepVs K ρ H xs vs → blsOf xs = some ns → vs = ns.map V.bl
  | [], _, _, h, e => by
    simp only [RepVs] at h
    subst h
    simp only [blsOf, Option.some.injEq] at e; subst e
    rfl
  | v :: xs, _, _, h, e => by
    simp only [RepVs] at h
    obtain ⟨y, r, rfl, h1, h2⟩ := h
    cases v with
    | bl i =>
      simp only [blsOf, Option.map_eq_some_iff] at e
      obtain ⟨ns, e, rfl⟩ := e
      obtain rfl := h1.r.bl_
      rw [blsOf_ok h2 e]; rfl
    | _ => simp [blsOf] at e
end

section
variable {X : Cx}
def rBin (K : PySem.W.Frag) (f : Vl → Vl → AH → Option Vl) : R2 := fun x y H Q => ∃ ρ ah u w v, RepH K ρ ah H ∧ RepR K ρ H u x ∧ RepR K ρ H w y ∧ f u w ah = some v ∧ Res K ρ H ah v Q
theorem catL_ok {ρ : Mp} {H : Hp} {ah : AH} {u w v : Vl} {x y : V} {Q : VK} (hH : RepH X.K ρ ah H) (ha : RepR X.K ρ H u x) (hb : RepR X.K ρ H w y)
    (hv : (match lstW u ah, lstW w ah with | some a, some b => if a.length + b.length ≤ sizeLine then some (Vl.fl (a ++ b)) else none | _, _ => none) = some v) (q : Res X.K ρ H ah v Q) : rCat x y H Q := by
  split at hv
  · rename_i a b e1 e2
    split at hv
    · rename_i hz
      cases hv
      obtain ⟨l, vs, rfl, h1, h2⟩ := lstW_ok hH ha e1
      obtain ⟨l', vs', rfl, h1', h2'⟩ := lstW_ok hH hb e2
      refine ⟨l, l', vs, vs', rfl, rfl, h1, h1', by rw [h2.length, h2'.length]; exact hz, fun p np => q.fl hH (h2.append h2') p np⟩
    · cases hv
  · cases hv
theorem add_ok : OpR X (binaryOp .Add) (rBin X.K addV) := by
  intro pins s σ H x y v u Q I rx ry h
  obtain ⟨ρ, ah, a, b, r, hH, ha, hb, hv, q⟩ := h
  unfold addV at hv
  split at hv
  · cases hv
    obtain rfl := ha.int_
    obtain rfl := hb.int_
    exact op_add pins s σ H _ _ v u Q I rx ry ⟨_, _, rfl, rfl, q.flat hH (by simp only [RepV])⟩
  · split at hv
    · rename_i hz
      cases hv
      obtain rfl := ha.str_
      obtain rfl := hb.str_
      exact op_add_str pins s σ H _ _ v u Q I rx ry ⟨_, _, rfl, rfl, hz, q.flat hH (by simp only [RepV])⟩
    · cases hv
  · split at hv
    · rename_i hz
      cases hv
      obtain ⟨p, vs, rfl, h1, h2⟩ := ha.tup_
      obtain ⟨p', vs', rfl, h1', h2'⟩ := hb.tup_
      refine op_catA pins s σ H _ _ v u Q I rx ry ⟨p, p', vs, vs', rfl, rfl, h1, h1', by rw [h2.length, h2'.length]; exact hz, fun e => ?_, fun _ e => ?_, fun _ _ p np => q.tup hH (h2.append h2') p np⟩
      · subst e
        have z := h2.nilR
        subst z
        exact q.flat hH (by simp only [RepV]; exact ⟨p', vs', rfl, h1', h2'⟩)
      · subst e
        have z := h2'.nilR
        subst z
        exact q.flat hH (by simp only [RepV, List.append_nil]; exact ⟨p, vs, rfl, h1, h2⟩)
    · cases hv
  · exact op_cat pins s σ H _ _ v u Q I rx ry (catL_ok hH ha hb hv q)
theorem bin_ok (op : Operator) : OpR X (binaryOp op) (rBin X.K (binV op)) := by
  intro pins s σ H x y v u Q I rx ry h
  obtain ⟨ρ, ah, a, b, r, hH, ha, hb, hv, q⟩ := h
  unfold binV at hv
  split at hv
  · exact add_ok pins s σ H x y v u Q I rx ry ⟨ρ, ah, a, b, r, hH, ha, hb, hv, q⟩
  · cases hv
    obtain rfl := ha.int_
    obtain rfl := hb.int_
    exact op_sub pins s σ H _ _ v u Q I rx ry ⟨_, _, rfl, rfl, q.flat hH (by simp only [RepV])⟩
  · split at hv
    · rename_i hc
      cases hv
      obtain rfl := ha.int_
      obtain rfl := hb.int_
      refine op_mul pins s σ H _ _ v u Q I rx ry ⟨_, _, rfl, rfl, ?_, q.flat hH (by simp only [RepV])⟩
      simpa [CMulB, CMul] using hc
    · split at hv
      · rename_i hc
        cases hv
        obtain rfl := ha.int_
        obtain rfl := hb.int_
        refine op_mulW pins s σ H _ _ v u Q I rx ry ⟨_, _, rfl, rfl, ?_, q.flat hH (by simp only [RepV])⟩
        simpa [CMulC, CMulW] using hc
      · cases hv
  · split at hv
    · rename_i xs e
      split at hv
      · rename_i hz
        cases hv
        obtain rfl := hb.int_
        obtain ⟨l, vs, rfl, h1, h2⟩ := lstW_ok hH ha e
        refine op_rep pins s σ H _ _ v u Q I rx ry ⟨l, _, vs, rfl, rfl, h1, hz.1, hz.2.1, by rw [h2.length]; exact hz.2.2, fun p np => q.fl hH ?_ p np⟩
        generalize Int.toNat _ = n
        induction n with
        | zero => simp [RepVs]
        | succ n ih =>
          simp only [List.replicate_succ, List.flatten_cons]
          exact h2.append ih
      · cases hv
    · cases hv
  · split at hv
    · rename_i hc
      cases hv
      obtain rfl := ha.int_
      obtain rfl := hb.int_
      exact op_mod pins s σ H _ _ v u Q I rx ry ⟨_, _, rfl, rfl, hc, q.flat hH (by simp only [RepV])⟩
    · cases hv
  · split at hv
    · rename_i hc
      cases hv
      obtain rfl := ha.int_
      obtain rfl := hb.int_
      exact op_fdiv pins s σ H _ _ v u Q I rx ry ⟨_, _, rfl, rfl, hc, q.flat hH (by simp only [RepV])⟩
    · split at hv
      · rename_i hc
        cases hv
        obtain rfl := ha.int_
        obtain rfl := hb.int_
        exact op_fdivW pins s σ H _ _ v u Q I rx ry ⟨_, _, rfl, rfl, hc, q.flat hH (by simp only [RepV])⟩
      · cases hv
  · split at hv
    · rename_i hc
      cases hv
      obtain rfl := ha.int_
      obtain rfl := hb.int_
      exact op_pow pins s σ H _ _ v u Q I rx ry ⟨_, _, rfl, rfl, hc, q.flat hH (by simp only [RepV])⟩
    · cases hv
  · cases hv
end
end FK

/-! ### comparisons, subscripts, slices, built-ins, methods by values -/
namespace FK
open PySem PySem.Spec PyProof.Rows L2
section
variable {X : Cx} {ρ : Mp} {H : Hp} {ah : AH} {u w : Vl} {x y : V}
theorem eqV_ok {K : PySem.W.Frag} {b : Bool} (hH : RepH K ρ ah H) (ha : RepR K ρ H u x) (hb : RepR K ρ H w y) (e : eqV u w ah = some b) :
    (scal x y = true ∧ decide (x = y) = b) ∨ ∃ d e, Dp K H x d ∧ Dp K H y e ∧ SeqAt.shaped d = true ∧ SeqAt.shaped e = true ∧ d.eqv e = b := by
  have deep : ∀ {b}, (match toD 66 ah u, toD 66 ah w with | some d, some e => if SeqAt.shaped d && SeqAt.shaped e then some (d.eqv e) else none | _, _ => none) = some b →
      ∃ d e, Dp K H x d ∧ Dp K H y e ∧ SeqAt.shaped d = true ∧ SeqAt.shaped e = true ∧ d.eqv e = b := fun {b} e => by
    split at e
    · rename_i d d' e1 e2
      split at e
      · rename_i hs
        simp only [Bool.and_eq_true] at hs
        cases e
        exact ⟨d, d', toD_ok hH _ _ _ _ ha e1, toD_ok hH _ _ _ _ hb e2, hs.1, hs.2, rfl⟩
      · cases e
    · cases e
  unfold eqV at e
  split at e
  all_goals first
    | exact .inr (deep e)
    | (left; cases e
       first | obtain rfl := ha.non_ | obtain rfl := ha.int_ | obtain rfl := ha.bl_ | obtain rfl := ha.str_
       first | obtain rfl := hb.non_ | obtain rfl := hb.int_ | obtain rfl := hb.bl_ | obtain rfl := hb.str_
       refine ⟨rfl, ?_⟩
       first | rfl | simp)
theorem eq_ok (hu : X.A.units + 65 < cLine) {Q : VK} {b : Bool} (hH : RepH X.K ρ ah H) (ha : RepR X.K ρ H u x) (hb : RepR X.K ρ H w y) (e : eqV u w ah = some b) (q : Q (.bl b) H) : rEq x y H Q ∨ rEqD X.K x y H Q := by
  rcases eqV_ok hH ha hb e with ⟨h1, rfl⟩ | ⟨d, d', h1, h2, h3, h4, rfl⟩
  · exact .inl ⟨h1, q⟩
  · exact .inr ⟨d, d', h1, h2, h3, h4, q⟩
theorem ne_ok (hu : X.A.units + 65 < cLine) {Q : VK} {b : Bool} (hH : RepH X.K ρ ah H) (ha : RepR X.K ρ H u x) (hb : RepR X.K ρ H w y) (e : eqV u w ah = some b) (q : Q (.bl (!b)) H) : rNe x y H Q ∨ rNeD X.K x y H Q := by
  rcases eqV_ok hH ha hb e with ⟨h1, rfl⟩ | ⟨d, d', h1, h2, h3, h4, rfl⟩
  · exact .inl ⟨h1, q⟩
  · exact .inr ⟨d, d', h1, h2, h3, h4, q⟩
theorem opOr {f : Value → Value → Sem Value} {r r' : R2} (h : OpR X f r) (h' : OpR X f r') : OpR X f (fun x y H Q => r x y H Q ∨ r' x y H Q) := by
  intro pins s σ H x y v u Q I rx ry q
  rcases q with q | q
  · exact h pins s σ H x y v u Q I rx ry q
  · exact h' pins s σ H x y v u Q I rx ry q
/-- what a dict has at a key -/
theorem find_k {l : List (Key × V)} {k : Key} : ((l.map (fun p => Ky.k p.1)).zip (l.map (·.2))).find? (fun p => decide (p.1 = Ky.k k)) = (l.find? fun p => decide (p.1 = k)).map fun p => (Ky.k p.1, p.2) := by
  induction l with
  | nil => rfl
  | cons p r ih =>
    simp only [List.map_cons, List.zip_cons_cons, List.find?_cons]
    by_cases e : p.1 = k
    · simp [e]
    · simp only [Ky.k.injEq, e, decide_false]
      exact ih
theorem find_t {l : List (List Key × V)} {k : Key} : ((l.map (fun p => Ky.t p.1)).zip (l.map (·.2))).find? (fun p => decide (p.1 = Ky.k k)) = none := by
  simp only [List.find?_eq_none, decide_eq_true_eq]
  intro p hp e
  have h := (List.of_mem_zip hp).1
  simp only [List.mem_map] at h
  obtain ⟨q, _, h⟩ := h
  rw [e] at h
  cases h
theorem dfind {K : PySem.W.Frag} : ∀ {ks : List Ky} {xs : List Vl} {vs : List V} {k : Ky}, RepVs K ρ H xs vs → ks.length = vs.length →
    (∀ v, dGet (ks, xs) k = some v → ∃ z, ((ks.zip vs).find? fun p => decide (p.1 = k)).map (·.2) = some z ∧ RepV K ρ H v z) ∧ (dGet (ks, xs) k = none → ((ks.zip vs).find? fun p => decide (p.1 = k)).map (·.2) = none)
  | [], _, _, _, _, _ => by simp [dGet]
  | _ :: _, [], _, _, h, e => by simp only [RepVs] at h; subst h; simp at e
  | c :: ks, x :: xs, _, k, h, e => by
    simp only [RepVs] at h
    obtain ⟨y, r, rfl, h1, h2⟩ := h
    have ih := dfind (k := k) h2 (by simpa using e)
    simp only [dGet, List.zip_cons_cons, List.find?_cons] at ih ⊢
    by_cases q : c = k
    · simp only [q, decide_true, Option.map_some, Option.some.injEq, reduceCtorEq, false_implies, and_true]
      intro v e'
      subst e'
      exact ⟨y, rfl, h1⟩
    · simp only [q, decide_false]
      exact ih
theorem kyOf_ok {K : PySem.W.Frag} {k : Ky} (ha : RepR K ρ H u x) (e : kyOf u = some k) : ∃ c, k = .k c ∧ x = kV c := by
  unfold kyOf at e
  cases u with
  | int i => simp only [keyOf, Option.map_some, Option.some.injEq] at e; subst e; obtain rfl := ha.int_; exact ⟨_, rfl, rfl⟩
  | str i => simp only [keyOf, Option.map_some, Option.some.injEq] at e; subst e; obtain rfl := ha.str_; exact ⟨_, rfl, rfl⟩
  | _ => simp [keyOf] at e
theorem dget_ok {K : PySem.W.Frag} {d : List Ky × List Vl} {k : Ky} (hH : RepH K ρ ah H) (hb : RepR K ρ H w y) (e : dctOf w ah = some d) (ha : RepR K ρ H u x) (ek : kyOf u = some k) (kd : kdOk d.1 k = true) :
    ∃ a o, y = .ref a ∧ DGet H a x o ∧ (∀ v, dGet d k = some v → ∃ z, o = some z ∧ RepV K ρ H v z) ∧ (dGet d k = none → o = none) := by
  obtain ⟨a, vs, o, rfl, h1, h2, h3⟩ := dctOf_ok hH hb e
  obtain ⟨c, rfl, rfl⟩ := kyOf_ok ha ek
  have hlen : d.1.length = vs.length := by
    rcases h2 with ⟨l, _, e1, e2⟩ | ⟨l, _, _, e1, e2⟩ <;> rw [e1, e2] <;> simp
  obtain ⟨f1, f2⟩ := dfind (k := .k c) h3 hlen
  rcases h2 with ⟨l, rfl, e1, e2⟩ | ⟨l, hn, rfl, e1, e2⟩
  · have q : ((d.1.zip vs).find? fun p => decide (p.1 = Ky.k c)).map (·.2) = valV l c := by
      rw [e1, e2, find_k]
      unfold valV
      cases l.find? _ <;> rfl
    rw [q] at f1 f2
    exact ⟨a, _, rfl, DGet.k h1, f1, f2⟩
  · rw [e1] at kd
    cases l with
    | nil => exact absurd rfl hn
    | cons p r => simp [kdOk] at kd
theorem dget_some {K : PySem.W.Frag} {d : List Ky × List Vl} {k : Ky} (hH : RepH K ρ ah H) (hb : RepR K ρ H w y) (e : dctOf w ah = some d) (ha : RepR K ρ H u x) (ek : kyOf u = some k) (kd : kdOk d.1 k = true) :
    ∃ a o, y = .ref a ∧ DGet H a x o ∧ o.isSome = (dGet d k).isSome := by
  obtain ⟨a, o, h1, h2, h3, h4⟩ := dget_ok hH hb e ha ek kd
  refine ⟨a, o, h1, h2, ?_⟩
  cases q : dGet d k with
  | none => rw [h4 q]; rfl
  | some v => obtain ⟨z, rfl, _⟩ := h3 v q; rfl
theorem inV_ok {K : PySem.W.Frag} {b : Bool} (hH : RepH K ρ ah H) (ha : RepR K ρ H u x) (hb : RepR K ρ H w y) (e : inV u w ah = some b) :
    (∃ i j, x = .str i ∧ y = .str j ∧ (!(Builtin.Str.occurrences j i 0 j.length 1).isEmpty) = b) ∨
    (∃ p xs, y = .ref p ∧ (SqL K H p xs ∨ SqT K H p xs) ∧ flatV x = true ∧ xs.all flatV = true ∧ L2.inV x xs = b) ∨
    (∃ d ds, Dp K H x d ∧ Dp K H y (PyData.list ds) ∧ SeqAt.shaped d = true ∧ SeqAt.shaped (PyData.list ds) = true ∧ (ds.any fun z => z.eqv d) = b) ∨
    ∃ a o, y = .ref a ∧ DGet H a x o ∧ o.isSome = b := by
  unfold inV at e
  split at e
  · rename_i d ed
    split at e
    · rename_i k ek
      split at e
      · rename_i kd
        cases e
        exact .inr (.inr (.inr (dget_some hH hb ed ha ek kd)))
      · cases e
    · cases e
  · split at e
    · cases e
      obtain rfl := ha.str_
      obtain rfl := hb.str_
      exact .inl ⟨_, _, rfl, rfl, rfl⟩
    · right
      split at e
      · rename_i c bs e1 e2
        cases e
        simp only [Option.bind_eq_some_iff] at e2
        obtain ⟨xs, e2, e3⟩ := e2
        obtain ⟨p, vs, rfl, h1, h2⟩ := seqOf_ok hH hb e2
        obtain ⟨rfl, f1⟩ := flV_ok ha e1
        obtain ⟨rfl, f2⟩ := flVs_ok h2 e3
        exact .inl ⟨p, _, rfl, h1, f1, f2, rfl⟩
      · split at e
        · rename_i d ds e1 e2
          split at e
          · rename_i hs
            simp only [Bool.and_eq_true] at hs
            cases e
            exact .inr (.inl ⟨d, ds, toD_ok hH _ _ _ _ ha e1, toD_ok hH _ _ _ _ hb e2, hs.1, hs.2, rfl⟩)
          · cases e
        · cases e
def isNon : Vl → Bool
  | .non => true
  | _ => false
theorem RepR.isN {K : PySem.W.Frag} (h : RepR K ρ H u x) : decide (x = V.non) = isNon u := by
  cases u with
  | non => obtain rfl := h.non_; rfl
  | bl b => obtain rfl := h.bl_; rfl
  | int b => obtain rfl := h.int_; rfl
  | str b => obtain rfl := h.str_; rfl
  | ty b => obtain rfl := h.ty_; rfl
  | tup xs => obtain ⟨a, vs, rfl, _⟩ := h.tup_; rfl
  | ref n => obtain ⟨a, rfl, _⟩ := h.ref_; rfl
  | fl xs => obtain ⟨a, vs, rfl, _⟩ := h.fl_; rfl
  | bw xs => obtain ⟨a, vs, rfl, _⟩ := h.bw_; rfl
  | fz xs => obtain ⟨a, vs, rfl, _⟩ := h.fz_; rfl
  | kz xs => obtain ⟨a, vs, rfl, _⟩ := h.kz_; rfl
  | fd ks xs => obtain ⟨a, vs, o, rfl, _⟩ := h; rfl
  | bd ks xs => obtain ⟨a, vs, o, rfl, _⟩ := h; rfl
  | zd ks xs => obtain ⟨a, vs, o, rfl, _⟩ := h.zd_; rfl
def rCmp (K : PySem.W.Frag) (op : CmpOp) : R2 := fun x y H Q => ∃ ρ ah u w b, RepH K ρ ah H ∧ RepR K ρ H u x ∧ RepR K ρ H w y ∧ cmpV op u w ah = some b ∧ Q (.bl b) H
theorem cmp_ok (hu : X.A.units + 65 < cLine) (op : CmpOp) : OpR X (compareOp op) (rCmp X.K op) := by
  intro pins s σ H x y v u Q I rx ry h
  obtain ⟨ρ, ah, a, b, r, hH, ha, hb, hv, q⟩ := h
  unfold cmpV at hv
  split at hv
  · exact (opOr op_eq (op_eqD (by omega))) pins s σ H x y v u Q I rx ry (eq_ok hu hH ha hb hv q)
  · simp only [Option.map_eq_some_iff] at hv
    obtain ⟨c, e, rfl⟩ := hv
    exact (opOr op_ne (op_neD (by omega))) pins s σ H x y v u Q I rx ry (ne_ok hu hH ha hb e q)
  · rcases inV_ok hH ha hb hv with ⟨i, j, h1, h2, rfl⟩ | ⟨p, xs, h1, h2, h3, h4, rfl⟩ | ⟨d, ds, h1, h2, h3, h4, rfl⟩ | ⟨p, o, rfl, h2, rfl⟩
    · exact op_in_str pins s σ H x y v u Q I rx ry ⟨i, j, h1, h2, q⟩
    · exact op_in_seq pins s σ H x y v u Q I rx ry ⟨p, xs, h1, h2, h3, h4, q⟩
    · exact op_inD hu pins s σ H x y v u Q I rx ry ⟨d, ds, h1, h2, h3, h4, q⟩
    · cases ry
      exact d_in (by omega) I h2 rx fun s' I' => ⟨.bl _, H, I', rfl, q⟩
  · simp only [Option.map_eq_some_iff] at hv
    obtain ⟨c, e, rfl⟩ := hv
    rcases inV_ok hH ha hb e with ⟨i, j, h1, h2, rfl⟩ | ⟨p, xs, h1, h2, h3, h4, rfl⟩ | ⟨d, ds, h1, h2, h3, h4, rfl⟩ | ⟨p, o, rfl, h2, rfl⟩
    · exact op_notin_str pins s σ H x y v u Q I rx ry ⟨i, j, h1, h2, q⟩
    · exact op_notIn_seq pins s σ H x y v u Q I rx ry ⟨p, xs, h1, h2, h3, h4, q⟩
    · exact op_notInD hu pins s σ H x y v u Q I rx ry ⟨d, ds, h1, h2, h3, h4, q⟩
    · cases ry
      exact d_notIn (by omega) I h2 rx fun s' I' => ⟨.bl _, H, I', rfl, q⟩
  · cases hv
    obtain rfl := ha.int_
    obtain rfl := hb.int_
    exact op_lt pins s σ H _ _ v u Q I rx ry ⟨_, _, rfl, rfl, q⟩
  · cases hv
    obtain rfl := ha.int_
    obtain rfl := hb.int_
    exact op_le pins s σ H _ _ v u Q I rx ry ⟨_, _, rfl, rfl, q⟩
  · cases hv
    obtain rfl := ha.int_
    obtain rfl := hb.int_
    exact op_gt pins s σ H _ _ v u Q I rx ry ⟨_, _, rfl, rfl, q⟩
  · cases hv
    obtain rfl := ha.int_
    obtain rfl := hb.int_
    exact op_ge pins s σ H _ _ v u Q I rx ry ⟨_, _, rfl, rfl, q⟩
  · split at hv
    · rename_i i j e1 e2
      cases hv
      obtain ⟨p, vs, rfl, h1, h2⟩ := ha.tup_
      obtain ⟨p', vs', rfl, h1', h2'⟩ := hb.tup_
      rw [intsOf_ok h2 e1] at h1
      rw [intsOf_ok h2' e2] at h1'
      exact op_ltT (by omega) pins s σ H _ _ v u Q I rx ry ⟨p, p', i, j, rfl, rfl, h1, h1', q⟩
    · cases hv
  · obtain rfl := hb.non_
    refine op_isN pins s σ H _ _ v u Q I rx ry ⟨rfl, ?_⟩
    rw [ha.isN]
    cases a <;> (cases hv; exact q)
  · obtain rfl := hb.non_
    refine op_notN pins s σ H _ _ v u Q I rx ry ⟨rfl, ?_⟩
    rw [ha.isN]
    cases a <;> (cases hv; exact q)
  · cases hv
    obtain rfl := ha.bl_
    obtain rfl := hb.bl_
    exact op_isBl pins s σ H _ _ v u Q I rx ry ⟨_, _, rfl, rfl, q⟩
  · cases hv
    obtain rfl := ha.bl_
    obtain rfl := hb.bl_
    exact op_notBl pins s σ H _ _ v u Q I rx ry ⟨_, _, rfl, rfl, q⟩
  · cases hv

/-! subscripts -/
theorem atI_rep {K : PySem.W.Frag} {xs : List Vl} {vs : List V} {i : Int} {v : Vl} (h : RepVs K ρ H xs vs) (e : atI xs i = some v) : ∃ z, atI vs i = some z ∧ RepV K ρ H v z := by
  unfold atI at e ⊢
  rw [h.length]
  simp only [Option.bind_eq_some_iff] at e ⊢
  obtain ⟨j, e1, e2⟩ := e
  obtain ⟨z, h1, h2⟩ := h.get e2
  exact ⟨z, ⟨j, e1, h1⟩, h2⟩
def rIxD : R2 := fun x y H Q => ∃ a v, x = .ref a ∧ DGet H a y (some v) ∧ Q v H
theorem ix_dict (hu : X.A.units + 1 < cLine) : IxR X rIxD := by
  intro value slice pins s σ H x y v u Q I rx ry h hsub
  obtain ⟨a, z, rfl, g, q⟩ := h
  cases rx
  have hT := dict_typeIs I g
  unfold subscriptTail
  refine wpAny_bind ?_
  rw [getitemInPython_of_ne hT.not_modules]
  refine wpAny_bind (wpAny_specialOf hT PySem.F.slot_dict_getitem.lookup ?_)
  have fin : wpAny (model X.prog X.w) X.A (subscripted slice false (.ref a) u) (fun r s₃ => wpAny (model X.prog X.w) X.A (letTemporaryGo value (.ref a) r >>= fun _ => pure r) (EP X pins σ Q) X.xe s₃) X.xe s := by
    rw [hsub]
    exact wpAny_operating (d_getItem hu I g ry fun w' s' I' r' => wpAny_bind (wpAny_letTemporaryGo (wpAny_pure ⟨z, H, I', r', q⟩)))
  first
    | exact wpAny_pure (wpAny_bind fin)
    | exact wpAny_bind (wpAny_pure (wpAny_bind fin))
    | exact wpAny_bind fin
theorem ix_ok (hu : X.A.units + 1 < cLine) : IxR X (rBin X.K ixV) := by
  intro value slice pins s σ H x y v u Q I rx ry h hsub
  obtain ⟨ρ, ah, a, b, r, hH, ha, hb, hv, q⟩ := h
  unfold ixV at hv
  split at hv
  · rename_i d ed
    split at hv
    · rename_i k ek
      split at hv
      · rename_i kd
        obtain ⟨p, o, rfl, h1, h2, _⟩ := dget_ok hH ha ed hb ek kd
        obtain ⟨z, rfl, h3⟩ := h2 _ hv
        exact ix_dict hu value slice pins s σ H _ y v u Q I rx ry ⟨p, z, rfl, h1, q.flat hH h3⟩ hsub
      · cases hv
    · cases hv
  · refine ix_seq value slice pins s σ H x y v u Q I rx ry ?_ hsub
    split at hv
    · obtain rfl := hb.int_
      split at hv
      · split at hv
        · rename_i hz
          simp only [Option.map_eq_some_iff] at hv
          obtain ⟨c, e, rfl⟩ := hv
          obtain rfl := ha.str_
          exact .inr (.inr ⟨_, _, c, rfl, rfl, hz, e, q.flat hH (by simp only [RepV])⟩)
        · cases hv
      · simp only [Option.bind_eq_some_iff] at hv
        obtain ⟨xs, e1, e2⟩ := hv
        obtain ⟨p, vs, rfl, h1, h2⟩ := seqOf_ok hH ha e1
        obtain ⟨z, h3, h4⟩ := atI_rep h2 e2
        rcases h1 with h1 | h1
        · exact .inl ⟨p, vs, _, z, rfl, rfl, h1, h3, q.flat hH h4⟩
        · exact .inr (.inl ⟨p, vs, _, z, rfl, rfl, h1, h3, q.flat hH h4⟩)
    · cases hv
theorem cutL_rep {K : PySem.W.Frag} {xs : List Vl} {vs : List V} (h : RepVs K ρ H xs vs) (lo hi : Option Int) : RepVs K ρ H (cutL xs lo hi) (cutV vs lo hi) := by
  unfold cutL cutV
  rw [h.length]
  exact (h.drop _).take _
def rSl (K : PySem.W.Frag) : V → Option Int → Option Int → Hp → VK → Prop := fun x lo hi H Q => ∃ ρ ah u v, RepH K ρ ah H ∧ RepR K ρ H u x ∧ slV u lo hi ah = some v ∧ Res K ρ H ah v Q
theorem sl_ok : SlR X (rSl X.K) := by
  intro pins s σ H x v vl vu lo hi sl Q I rx h1 h2 h3 h
  obtain ⟨ρ, ah, a, r, hH, ha, hv, q⟩ := h
  unfold slV at hv
  split at hv
  · split at hv
    · rename_i hz
      cases hv
      obtain rfl := ha.str_
      exact sl_str pins s σ H _ v vl vu lo hi sl Q I rx h1 h2 h3 ⟨_, rfl, hz, q.flat hH (by simp only [RepV])⟩
    · cases hv
  · cases hv
    obtain ⟨p, vs, rfl, g1, g2⟩ := ha.tup_
    refine sl_tupA pins s σ H _ v vl vu lo hi sl Q I rx h1 h2 h3 ⟨p, vs, rfl, g1, fun e => ?_, fun _ p np => q.tup hH (cutL_rep g2 lo hi) p np⟩
    refine q.flat hH ?_
    simp only [RepV]
    refine ⟨p, vs, rfl, g1, ?_⟩
    have hc := cutL_rep g2 lo hi
    have e' : cutV vs lo hi = vs := by
      unfold cutV
      rw [e.1, e.2]
      simp
    rw [e'] at hc
    exact hc
  · simp only [Option.map_eq_some_iff] at hv
    obtain ⟨xs, e, rfl⟩ := hv
    obtain ⟨p, vs, rfl, g1, g2⟩ := lstOf_ok hH ha e
    exact sl_list pins s σ H _ v vl vu lo hi sl Q I rx h1 h2 h3 ⟨p, vs, rfl, g1, fun p np => q.fl hH (cutL_rep g2 lo hi) p np⟩
end
end FK

namespace FK
open PySem PySem.Spec PyProof.Rows L2
section
variable {X : Cx} {ρ : Mp} {H : Hp} {ah : AH} {u w : Vl} {x y : V}
def Bi.val : Bi → Value
  | .len => .builtin "len" | .abs => .builtin "abs" | .isinstance => .builtin "isinstance" | .all => .builtin "all" | .any => .builtin "any"
  | .tuple => .type "tuple" | .list => .type "list" | .str => .type "str" | .min => .builtin "min" | .max => .builtin "max" | .sum => .builtin "sum" | .int => .type "int" | .sorted => .builtin "sorted"
def Bi.name : Bi → Str
  | .len => "len" | .abs => "abs" | .isinstance => "isinstance" | .all => "all" | .any => "any"
  | .tuple => "tuple" | .list => "list" | .str => "str" | .min => "min" | .max => "max" | .sum => "sum" | .int => "int" | .sorted => "sorted"
def rBi (K : PySem.W.Frag) (f : Bi) : List V → Hp → VK → Prop := fun xs H Q => ∃ ρ ah us v, RepH K ρ ah H ∧ RepRs K ρ H us xs ∧ biV f us ah = some v ∧ Res K ρ H ah v Q
theorem RepRs.one {K : PySem.W.Frag} {v : Vl} {xs : List V} (h : RepRs K ρ H [v] xs) : ∃ z, xs = [z] ∧ RepR K ρ H v z := by
  obtain ⟨z, r, rfl, h1, rfl⟩ := h
  exact ⟨z, rfl, h1⟩
theorem RepRs.two {K : PySem.W.Frag} {v v' : Vl} {xs : List V} (h : RepRs K ρ H [v, v'] xs) : ∃ z z', xs = [z, z'] ∧ RepR K ρ H v z ∧ RepR K ρ H v' z' := by
  obtain ⟨z, r, rfl, h1, z', r', rfl, h2, rfl⟩ := h
  exact ⟨z, z', rfl, h1, h2⟩
theorem tyX_list {K : PySem.W.Frag} {a : Addr} {vs : List V} (h : SqL K H a vs) : TyX K H (.ref a) (.type "list") := by
  rcases h with (h | ⟨o, h⟩) | ⟨o, its, n, h1, h2, _⟩
  · exact .base (.lst h)
  · exact .base (.frz h)
  · exact .kList h1 h2
theorem tyX_tup {K : PySem.W.Frag} {a : Addr} {vs : List V} (h : SqT K H a vs) : TyX K H (.ref a) (.type "tuple") := by
  rcases h with (h | ⟨o, h⟩) | ⟨o, its, n, h1, h2, _⟩
  · exact .base (.tup h)
  · exact .fTuple h
  · exact .kTuple h1 h2
theorem tyOf_ok {K : PySem.W.Frag} {t : String} (hH : RepH K ρ ah H) (h : RepR K ρ H u x) (e : tyOf u ah = some t) : TyX K H x (.type t) := by
  cases u with
  | non => obtain rfl := h.non_; simp only [tyOf, Option.some.injEq] at e; subst e; exact .base .non
  | bl b => obtain rfl := h.bl_; simp only [tyOf, Option.some.injEq] at e; subst e; exact .base (.bl _)
  | int b => obtain rfl := h.int_; simp only [tyOf, Option.some.injEq] at e; subst e; exact .base (.int _)
  | str b => obtain rfl := h.str_; simp only [tyOf, Option.some.injEq] at e; subst e; exact .base (.str _)
  | ty b => simp [tyOf] at e
  | tup xs => obtain ⟨a, vs, rfl, h1, _⟩ := h.tup_; simp only [tyOf, Option.some.injEq] at e; subst e; exact tyX_tup h1
  | fl xs => obtain ⟨a, vs, rfl, _, _, h1, _⟩ := h.fl_; simp only [tyOf, Option.some.injEq] at e; subst e; exact tyX_list (.of h1)
  | bw xs => obtain ⟨a, vs, rfl, _, _, h1, _⟩ := h.bw_; simp only [tyOf, Option.some.injEq] at e; subst e; exact tyX_list (.of h1)
  | fz xs => obtain ⟨a, vs, rfl, _, h1, _⟩ := h.fz_; simp only [tyOf, Option.some.injEq] at e; subst e; exact tyX_list (.of h1)
  | kz xs => obtain ⟨a, vs, rfl, h1, _⟩ := h.kz_; simp only [tyOf, Option.some.injEq] at e; subst e; exact tyX_list h1.sq
  | fd ks xs => simp [tyOf] at e
  | zd ks xs => simp [tyOf] at e
  | bd ks xs => simp [tyOf] at e
  | ref n =>
    simp only [tyOf] at e
    split at e
    · rename_i xs hx
      cases e
      obtain ⟨a, vs, rfl, h1, _⟩ := lstW_ok hH h (show lstW (.ref n) ah = some xs by simp only [lstW, hx])
      exact tyX_list (.of h1)
    · cases e
/-- isinstance(x, (c1, c2, ..)), the tuple standing anywhere -/
def rIsiS (K : PySem.W.Frag) : List V → Hp → VK → Prop := fun xs H Q => ∃ (x : V) (tp : Addr) (cs : List V) (t : Value) (us : List Value) (b : Bool), xs = [x, .ref tp] ∧ SqT K H tp cs ∧ Paired ClsV cs us ∧ TyX K H x t ∧ PySem.W.kitAny K t us = some b ∧ Q (.bl b) H
theorem call_isiS : CallR X (.builtin "isinstance") (rIsiS X.K) := by
  intro pins s σ H xs us Q I r h
  obtain ⟨x, tp, cs, t, ws, b, rfl, hT, k, ty, e, q⟩ := h
  obtain ⟨u1, u2, rfl, r1, r2⟩ := vals2 r
  cases (show u2 = Value.ref tp from r2)
  obtain ⟨P, Z, p, hx⟩ := kit_of I r1 ty
  obtain ⟨its, rv, ⟨o, h1, h2, n, h3⟩, _⟩ := I.tuple hT
  have e3 := ClsV.all k rv
  subst e3
  obtain ⟨oc, od, dt, sl⟩ := o
  simp only at h2 h3
  subst h2 h3
  exact PySem.W.kia_tup Z I.kIn p h1 e hx fun tk => ⟨.bl b, H, I.tok tk, rfl, q⟩
theorem anyT_ok {K : PySem.W.Frag} {t : String} : ∀ {cs : List Vl} {ys : List V} {b : Bool}, RepVs K ρ H cs ys → anyT t cs = some b → ∃ us, Paired ClsV ys us ∧ PySem.W.kitAny K (.type t) us = some b
  | [], _, _, h, e => by
    simp only [RepVs] at h
    subst h
    simp only [anyT, Option.some.injEq] at e
    subst e
    exact ⟨[], .nil, rfl⟩
  | c :: cs, _, b, h, e => by
    simp only [RepVs] at h
    obtain ⟨y, r, rfl, h1, h2⟩ := h
    cases c with
    | ty T =>
      simp only [anyT] at e
      split at e
      · rename_i b1 b2 e1 e2
        cases e
        obtain ⟨us, p1, p2⟩ := anyT_ok h2 e2
        obtain rfl := h1.r.ty_
        refine ⟨.type T :: us, .cons (.ty T) p1, kitAny_cons (kit_ty e1) (fun hb => ?_) fun hb => ?_⟩
        · subst hb; simpa using p2
        · subst hb; rfl
      · cases e
    | _ => simp [anyT] at e
theorem isV_ok {K : PySem.W.Frag} {b : Bool} (hH : RepH K ρ ah H) (h : RepR K ρ H u x) (h' : RepR K ρ H w y) (e : isV u w ah = some b) : (∃ t c, ClsV y c ∧ TyX K H x t ∧ PySem.W.kitOne K t c = some b) ∨
    ∃ tp cs t us, y = .ref tp ∧ SqT K H tp cs ∧ Paired ClsV cs us ∧ TyX K H x t ∧ PySem.W.kitAny K t us = some b := by
  cases w with
  | ty T =>
    simp only [isV, Option.bind_eq_some_iff] at e
    obtain ⟨t, e1, e2⟩ := e
    obtain rfl := h'.ty_
    exact .inl ⟨_, _, .ty T, tyOf_ok hH h e1, kit_ty e2⟩
  | tup cs =>
    simp only [isV, Option.bind_eq_some_iff] at e
    obtain ⟨t, e1, e2⟩ := e
    obtain ⟨a, vs, rfl, h1, h2⟩ := h'.tup_
    obtain ⟨us, p1, p2⟩ := anyT_ok h2 e2
    exact .inr ⟨a, vs, _, us, rfl, h1, p1, tyOf_ok hH h e1, p2⟩
  | _ => simp [isV] at e
theorem str_ok (hg : X.A.guards = some []) (hu : X.A.units + 68 < cLine) {pins : List (Addr × Obj)} {s : Shared} {σ : St} {z : V} {v : Value} {Q : VK} {a : Str} (I : L2.Inv X pins σ H s) (rz : RelV z v) (hH : RepH X.K ρ ah H) (hr : RepR X.K ρ H u z) (e : strV u ah = some a) (q : Q (.str a) H) :
    wpAny (model X.prog X.w) X.A (call (.type "str") [v]) (EP X pins σ Q) X.xe s := by
  have deep : ∀ {a}, (match toD 66 ah u with | some d => if d.showable && !d.hasDict && decide (d.depth ≤ 64) && decide (d.shown.length ≤ sizeLine) then some d.shown else none | none => none) = some a →
      ∃ d, Dp X.K H z d ∧ d.showable = true ∧ d.hasDict = false ∧ d.depth ≤ 64 ∧ d.shown.length ≤ sizeLine ∧ a = d.shown := fun {a} e => by
    split at e
    · rename_i d ed
      split at e
      · rename_i hc
        simp only [Bool.and_eq_true, decide_eq_true_eq, Bool.not_eq_true'] at hc
        cases e
        exact ⟨d, toD_ok hH _ _ _ _ hr ed, hc.1.1.1, hc.1.1.2, hc.1.2, hc.2, rfl⟩
      · cases e
    · cases e
  unfold strV at e
  split at e
  · cases e
    obtain rfl := hr.str_
    obtain ⟨t, rfl⟩ := rz
    exact PySem.P.str_of_str ⟨.str a, H, I, ⟨t, rfl⟩, q⟩
  · obtain ⟨d, h1, h2, h3, h4, h5, rfl⟩ := deep e
    have rd := Dp.reads I d z v h1 rz
    cases z with
    | non =>
      cases h1; cases rz
      exact PySem.P.str_of_none ⟨.str _, H, I.tok _, ⟨_, rfl⟩, q⟩
    | bl b =>
      cases h1; cases rz
      exact PySem.P.str_of_bool ⟨.str _, H, I.tok _, ⟨_, rfl⟩, by cases b <;> exact q⟩
    | int i =>
      cases h1
      obtain ⟨t, rfl⟩ := rz
      exact PySem.P.str_of_int (by simpa [PyData.showable] using h2) ⟨.str _, H, I.tok _, ⟨_, rfl⟩, q⟩
    | ref p =>
      obtain ⟨as, rd⟩ := rd
      cases rz
      exact str_of_reads rd h2 (fun z => by rw [h3] at z; cases z) hg (by omega) (fun b o e => e) (fun h' t tk hk => ⟨.str _, H, I.kept (h' := h') (t' := tk) hk, ⟨t, rfl⟩, q⟩) h5
    | str x =>
      rename_i hn
      cases h1
      cases u <;> first | exact absurd rfl (hn _) | (simp only [RepR, RepV, RepL, RepD] at hr; (first | (cases hr; done) | (obtain ⟨_, _, e, _⟩ := hr; cases e; done) | (obtain ⟨_, e, _⟩ := hr; cases e; done) | (obtain ⟨_, _, _, e, _⟩ := hr; cases e; done)))
    | _ => cases h1
theorem strs_rep {K : PySem.W.Frag} : ∀ (ss : List Str), RepVs K ρ H (ss.map Vl.str) (ss.map V.str)
  | [] => by simp only [List.map_nil, RepVs]
  | s :: ss => by
    simp only [List.map_cons]
    exact .cons (by simp only [RepV]) (strs_rep ss)
theorem ints_rep {K : PySem.W.Frag} : ∀ (ns : List Int), RepVs K ρ H (ns.map Vl.int) (ns.map V.int)
  | [] => by simp only [List.map_nil, RepVs]
  | n :: ns => by
    simp only [List.map_cons]
    exact .cons (by simp only [RepV]) (ints_rep ns)
theorem insI_perm (i : Int) : ∀ (l : List Int), (insI i l).Perm (i :: l)
  | [] => List.Perm.refl _
  | j :: r => by
    unfold insI
    split
    · exact List.Perm.refl _
    · exact ((insI_perm i r).cons j).trans (List.Perm.swap i j r)
theorem sortI_perm : ∀ (l : List Int), (sortI l).Perm l
  | [] => List.Perm.refl _
  | i :: r => (insI_perm i (sortI r)).trans ((sortI_perm r).cons i)
theorem insI_srt (i : Int) : ∀ {l : List Int}, l.Pairwise (· ≤ ·) → (insI i l).Pairwise (· ≤ ·)
  | [], _ => by simp [insI]
  | j :: r, h => by
    obtain ⟨h1, h2⟩ := List.pairwise_cons.mp h
    unfold insI
    split
    · rename_i hij
      exact List.pairwise_cons.mpr ⟨fun x hx => by
        rcases List.mem_cons.mp hx with rfl | hx
        · exact hij
        · exact Int.le_trans hij (h1 x hx), h⟩
    · rename_i hij
      refine List.pairwise_cons.mpr ⟨fun x hx => ?_, insI_srt i h2⟩
      rcases List.mem_cons.mp ((insI_perm i r).mem_iff.mp hx) with rfl | hx
      · omega
      · exact h1 x hx
theorem sortI_srt : ∀ (l : List Int), (sortI l).Pairwise (· ≤ ·)
  | [] => List.Pairwise.nil
  | i :: r => insI_srt i (sortI_srt r)
theorem sort_uniq : ∀ {l m : List Int}, l.Perm m → l.Pairwise (· ≤ ·) → m.Pairwise (· ≤ ·) → l = m := fun {l m} h h1 h2 =>
  h.eq_of_pairwise (fun a b _ _ h3 h4 => by omega) h1 h2
theorem sorted_ok {pins : List (Addr × Obj)} {s : Shared} {σ : St} {p : Addr} {vs : List V} {us : List Value} {xs ns : List Vl} {Q : VK} (I : L2.Inv X pins σ H s) (rx : Vals [V.ref p] us) (hH : RepH X.K ρ ah H) (h1 : SqL X.K H p vs) (h2 : RepVs X.K ρ H xs vs) (e : sortV xs = some ns) (q : Res X.K ρ H ah (.fl ns) Q) :
    wpAny (model X.prog X.w) X.A (call (.builtin "sorted") us) (EP X pins σ Q) X.xe s := by
  unfold sortV at e
  split at e
  · rename_i is ei
    cases e
    rw [intsOf_ok h2 ei] at h1
    refine cr_sortedI pins s σ H _ us Q I rx ⟨p, is, rfl, h1, fun ns' p' hp hs np => ?_⟩
    obtain rfl : ns' = sortI is := sort_uniq (hp.trans (sortI_perm is).symm) hs (sortI_srt is)
    exact q.fl hH (ints_rep _) p' np
  · cases e
theorem bi_ok (hg : X.A.guards = some []) (hu : X.A.units + 68 < cLine) (hc : X.calm = true) (f : Bi) : CallR X f.val (rBi X.K f) := by
  intro pins s σ H xs us Q I rx h
  obtain ⟨ρ, ah, ws, v, hH, hr, hv, q⟩ := h
  unfold biV at hv
  split at hv
  · -- len
    obtain ⟨z, rfl, hz⟩ := hr.one
    split at hv
    · split at hv
      · rename_i hl
        cases hv
        obtain rfl := hz.str_
        exact call_len_str pins s σ H _ us Q I rx ⟨_, rfl, hl, q.flat hH (by simp only [RepV])⟩
      · cases hv
    · simp only [Option.map_eq_some_iff] at hv
      obtain ⟨ys, e, rfl⟩ := hv
      obtain ⟨p, vs, rfl, h1, h2⟩ := seqOf_ok hH hz e
      exact call_len_seq pins s σ H _ us Q I rx ⟨p, vs, rfl, h1, q.flat hH (by simp only [RepV]; rw [h2.length])⟩
  · -- abs
    obtain ⟨z, rfl, hz⟩ := hr.one
    cases hv
    obtain rfl := hz.int_
    exact call_abs pins s σ H _ us Q I rx ⟨_, rfl, q.flat hH (by simp only [RepV])⟩
  · -- isinstance
    obtain ⟨z, z', rfl, hz, hz'⟩ := hr.two
    simp only [Option.map_eq_some_iff] at hv
    obtain ⟨b, e, rfl⟩ := hv
    rcases isV_ok hH hz hz' e with ⟨t, c, h1, h2, h3⟩ | ⟨tp, cs, t, ws, rfl, h1, h2, h3, h4⟩
    · exact call_isi pins s σ H _ us Q I rx ⟨z, z', t, c, b, rfl, h1, h2, h3, q.flat hH (by simp only [RepV])⟩
    · exact call_isiS pins s σ H _ us Q I rx ⟨z, tp, cs, t, ws, b, rfl, h1, h2, h3, h4, q.flat hH (by simp only [RepV])⟩
  · -- all
    obtain ⟨z, rfl, hz⟩ := hr.one
    simp only [Option.map_eq_some_iff, Option.bind_eq_some_iff] at hv
    obtain ⟨bs, ⟨ys, e1, e2⟩, rfl⟩ := hv
    obtain ⟨p, vs, rfl, h1, h2⟩ := lstOf_ok hH hz e1
    rw [blsOf_ok h2 e2] at h1
    exact cr_all hc pins s σ H _ us Q I rx ⟨p, bs, rfl, h1, q.flat hH (by simp only [RepV])⟩
  · -- any
    obtain ⟨z, rfl, hz⟩ := hr.one
    simp only [Option.map_eq_some_iff, Option.bind_eq_some_iff] at hv
    obtain ⟨bs, ⟨ys, e1, e2⟩, rfl⟩ := hv
    obtain ⟨p, vs, rfl, h1, h2⟩ := lstOf_ok hH hz e1
    rw [blsOf_ok h2 e2] at h1
    exact cr_any hc pins s σ H _ us Q I rx ⟨p, bs, rfl, h1, q.flat hH (by simp only [RepV])⟩
  · -- tuple
    obtain ⟨z, rfl, hz⟩ := hr.one
    simp only [Option.map_eq_some_iff] at hv
    obtain ⟨ys, e, rfl⟩ := hv
    obtain ⟨p, vs, rfl, h1, h2⟩ := seqOf_ok hH hz e
    refine call_tuple_of pins s σ H _ us Q I rx ⟨p, vs, rfl, ?_⟩
    rcases h1 with h1 | h1
    · exact .inl ⟨h1, fun l nl => q.tup hH h2 l nl⟩
    · exact .inr ⟨h1, q.flat hH (by simp only [RepV]; exact ⟨p, vs, rfl, h1, h2⟩)⟩
  · -- list
    obtain ⟨z, rfl, hz⟩ := hr.one
    simp only [Option.map_eq_some_iff] at hv
    obtain ⟨ys, e, rfl⟩ := hv
    obtain ⟨p, vs, rfl, h1, h2⟩ := seqOf_ok hH hz e
    exact call_list_of pins s σ H _ us Q I rx ⟨p, vs, rfl, h1, fun l nl => q.fl hH h2 l nl⟩
  · obtain ⟨z, rfl, hz⟩ := hr.one
    cases hv
    obtain rfl := hz.bl_
    exact call_int1 pins s σ H _ us Q I rx (.inr ⟨_, rfl, q.flat hH (by simp only [RepV])⟩)
  · obtain ⟨z, rfl, hz⟩ := hr.one
    cases hv
    obtain rfl := hz.int_
    exact call_int1 pins s σ H _ us Q I rx (.inl ⟨_, rfl, q.flat hH (by simp only [RepV])⟩)
  · obtain ⟨z, z', rfl, hz, hz'⟩ := hr.two
    cases hv
    obtain rfl := hz.int_
    obtain rfl := hz'.int_
    exact call_min2 hc pins s σ H _ us Q I rx ⟨_, _, rfl, q.flat hH (by simp only [RepV])⟩
  · obtain ⟨z, z', rfl, hz, hz'⟩ := hr.two
    cases hv
    obtain rfl := hz.int_
    obtain rfl := hz'.int_
    exact call_max2 hc pins s σ H _ us Q I rx ⟨_, _, rfl, q.flat hH (by simp only [RepV])⟩
  · obtain ⟨z, rfl, hz⟩ := hr.one
    simp only [Option.map_eq_some_iff] at hv
    obtain ⟨a, e, rfl⟩ := hv
    obtain ⟨v', rfl, rz⟩ := L2.Vals.one rx
    exact str_ok hg hu I rz hH hz e (q.flat hH (by simp only [RepV]))
  · obtain ⟨z, rfl, hz⟩ := hr.one
    simp only [Option.map_eq_some_iff, Option.bind_eq_some_iff] at hv
    obtain ⟨ns, ⟨ys, e1, e2⟩, rfl⟩ := hv
    obtain ⟨p, vs, rfl, h1, h2⟩ := lstOf_ok hH hz e1
    rw [intsOf_ok h2 e2] at h1
    exact cr_sum hc pins s σ H _ us Q I rx ⟨p, ns, rfl, h1, q.flat hH (by simp only [RepV])⟩
  · obtain ⟨z, rfl, hz⟩ := hr.one
    simp only [Option.map_eq_some_iff, Option.bind_eq_some_iff] at hv
    obtain ⟨ns, ⟨ys, e1, e2⟩, rfl⟩ := hv
    obtain ⟨p, vs, rfl, h1, h2⟩ := lstOf_ok hH hz e1
    exact sorted_ok I rx hH h1 h2 e2 q
  · cases hv

/-! methods -/
def Me.T : Me → String
  | .join => "str"
  | .split => "str"
  | _ => "list"
def Me.id : Me → String
  | .append => "list.append" | .extend => "list.extend" | .pop => "list.pop" | .popAt => "list.pop" | .reverse => "list.reverse" | .clear => "list.clear" | .join => "str.join" | .split => "str.split"
def Me.name : Me → Str
  | .append => "append" | .extend => "extend" | .pop => "pop" | .popAt => "pop" | .reverse => "reverse" | .clear => "clear" | .join => "join" | .split => "split"
def rMe (K : PySem.W.Frag) (m : Me) : V → List V → Hp → VK → Prop := fun x xs H Q => ∃ ρ ah u ws v ah', RepH K ρ ah H ∧ RepR K ρ H u x ∧ RepVs K ρ H ws xs ∧ meV m u ws ah = some (v, ah') ∧ Res K ρ H ah' v Q
theorem RepVs.one_ {K : PySem.W.Frag} {v : Vl} {xs : List V} (h : RepVs K ρ H [v] xs) : ∃ z, xs = [z] ∧ RepV K ρ H v z := by
  simp only [RepVs] at h
  obtain ⟨z, r, rfl, h1, rfl⟩ := h
  exact ⟨z, rfl, h1⟩
theorem RepVs.nil_ {K : PySem.W.Frag} {xs : List V} (h : RepVs K ρ H [] xs) : xs = [] := by simpa only [RepVs] using h
/-- a list with a number, written -/
theorem Res.wr {K : PySem.W.Frag} {n : Nat} {a : Addr} {xs' : List Vl} {vs vs' : List V} {v : Vl} {z : V} {Q : VK} (hH : RepH K ρ ah H) (e : ρ.r[n]? = some a) (l : H a = some (.lst vs)) (r : RepVs K ρ H xs' vs')
    (q : Res K ρ H (ah.set n (.lst xs')) v Q) (hv : RepV K ρ H v z) : Q z (upd H a (.lst vs')) := by
  obtain ⟨h1, h2⟩ := hH.wr e l r
  exact q _ _ h2 h1 (hv.mono h2).r (Fr.of (nf_own hv.nf))
theorem me_ok (m : Me) : MtR X m.id (rMe X.K m) := by
  intro pins s σ H x xs v us Q I rx rs h
  obtain ⟨ρ, ah, u, ws, r, ah', hH, hu, hw, hv, q⟩ := h
  have nn : RepV X.K ρ H .non .non := by simp only [RepV]
  unfold meV at hv
  split at hv
  · obtain ⟨z, rfl, hz⟩ := hw.one_
    split at hv
    · rename_i ys hy
      split at hv
      · rename_i hl
        cases hv
        obtain ⟨a, rfl, ha⟩ := hu.ref_
        obtain ⟨a', vs, ha', h1, h2⟩ := hH.lst hy
        rw [ha] at ha'; cases ha'
        exact mt_append pins s σ H _ _ v us Q I rx rs ⟨a, vs, z, rfl, rfl, h1, by rw [h2.length]; exact hl, q.wr hH ha h1 (h2.append (.one hz)) nn⟩
      · cases hv
    · cases hv
  · obtain ⟨z, rfl, hz⟩ := hw.one_
    split at hv
    · rename_i ys zs hy hzs
      split at hv
      · rename_i hl
        cases hv
        obtain ⟨a, rfl, ha⟩ := hu.ref_
        obtain ⟨a', vs, ha', h1, h2⟩ := hH.lst hy
        rw [ha] at ha'; cases ha'
        obtain ⟨b, vs', rfl, h1', h2'⟩ := lstW_ok hH hz.r hzs
        exact mt_extend pins s σ H _ _ v us Q I rx rs ⟨a, b, vs, vs', rfl, rfl, h1, h1', by rw [h2.length, h2'.length]; exact hl, q.wr hH ha h1 (h2.append h2') nn⟩
      · cases hv
    · cases hv
  · obtain rfl := hw.nil_
    split at hv
    · rename_i ys hy
      simp only [Option.map_eq_some_iff] at hv
      obtain ⟨w, e, e'⟩ := hv
      cases e'
      obtain ⟨a, rfl, ha⟩ := hu.ref_
      obtain ⟨a', vs, ha', h1, h2⟩ := hH.lst hy
      rw [ha] at ha'; cases ha'
      obtain ⟨z, hz1, hz2⟩ := h2.get e
      refine mt_pop pins s σ H _ _ v us Q I rx rs ⟨a, vs, z, rfl, rfl, h1, by rw [h2.length]; exact hz1, q.wr hH ha h1 ?_ hz2⟩
      rw [List.dropLast_eq_take, List.dropLast_eq_take, h2.length]
      exact h2.take _
    · cases hv
  · obtain rfl := hw.nil_
    split at hv
    · rename_i ys hy
      cases hv
      obtain ⟨a, rfl, ha⟩ := hu.ref_
      obtain ⟨a', vs, ha', h1, h2⟩ := hH.lst hy
      rw [ha] at ha'; cases ha'
      exact mt_reverse pins s σ H _ _ v us Q I rx rs ⟨a, vs, rfl, rfl, h1, q.wr hH ha h1 h2.rev nn⟩
    · cases hv
  · obtain rfl := hw.nil_
    split at hv
    · rename_i ys hy
      cases hv
      obtain ⟨a, rfl, ha⟩ := hu.ref_
      obtain ⟨a', vs, ha', h1, h2⟩ := hH.lst hy
      rw [ha] at ha'; cases ha'
      exact mt_clear pins s σ H _ _ v us Q I rx rs ⟨a, vs, rfl, rfl, h1, q.wr hH ha h1 (by simp only [RepVs]) nn⟩
    · cases hv
  · obtain ⟨z, rfl, hz⟩ := hw.one_
    split at hv
    · rename_i ss hs
      split at hv
      · rename_i hl
        cases hv
        simp only [Option.bind_eq_some_iff] at hs
        obtain ⟨ys, e1, e2⟩ := hs
        obtain rfl := hu.str_
        obtain ⟨p, vs, rfl, h1, h2⟩ := seqOf_ok hH hz.r e1
        rw [strsOf_ok h2 e2] at h1
        exact mt_join pins s σ H _ _ v us Q I rx rs ⟨_, p, ss, rfl, rfl, h1, hl, q.flat hH (by simp only [RepV])⟩
      · cases hv
    · cases hv
  · obtain ⟨z, rfl, hz⟩ := hw.one_
    split at hv
    · rename_i hl
      cases hv
      obtain rfl := hu.str_
      obtain rfl := hz.r.str_
      refine mt_split pins s σ H _ _ v us Q I rx rs ⟨_, _, rfl, rfl, hl.1, hl.2, fun p np => ?_⟩
      exact q.fl hH (strs_rep _) p np
    · cases hv
  · cases hv
theorem meTy_ok {K : PySem.W.Frag} {m : Me} (hH : RepH K ρ ah H) (h : RepR K ρ H u x) (e : meTy m u ah = true) : tyV K m.T x H := by
  have lst : ∀ n, u = .ref n → (match ah[n]? with | some (.lst _) => true | _ => false) = true → tyV K "list" x H := fun n e1 e2 => by
    subst e1
    split at e2
    · rename_i xs hx
      obtain ⟨a, vs, rfl, h1, _⟩ := lstW_ok hH h (show lstW (.ref n) ah = some xs by simp only [lstW, hx])
      exact .inl ⟨rfl, vs, .of h1⟩
    · cases e2
  cases m with
  | join => cases u <;> first | (simp [meTy] at e; done) | (obtain rfl := h.str_; rfl)
  | split => cases u <;> first | (simp [meTy] at e; done) | (obtain rfl := h.str_; rfl)
  | _ => cases u <;> first | (simp [meTy] at e; done) | exact lst _ rfl e
/-! a store to o[i] -/
def rSetIx (K : PySem.W.Frag) : V → V → V → Hp → (Hp → Prop) → Prop := fun o i v H Q => ∃ ρ ah u j w ah', RepH K ρ ah H ∧ RepR K ρ H u o ∧ RepR K ρ H j i ∧ RepV K ρ H w v ∧ setIxV u j w ah = some ah' ∧ ∀ H', Ext ρ H ρ H' → RepH K ρ ah' H' → Q H'
theorem setIx_ok : PSet X (rSetIx X.K) := by
  intro pins s σ H o i v ov iv uv Q I ro ri rv h
  refine set_list pins s σ H o i v ov iv uv Q I ro ri rv ?_
  obtain ⟨ρ, ah, u, j, w, ah', hH, hu, hj, hw, e, q⟩ := h
  unfold setIxV at e
  split at e
  · split at e
    · rename_i xs hx
      simp only [Option.map_eq_some_iff] at e
      obtain ⟨k, e, rfl⟩ := e
      obtain ⟨a, rfl, ha⟩ := hu.ref_
      obtain ⟨a', vs, ha', h1, h2⟩ := hH.lst hx
      rw [ha] at ha'; cases ha'
      obtain rfl := hj.int_
      obtain ⟨g1, g2⟩ := hH.wr ha h1 (h2.set k hw)
      exact ⟨a, vs, _, k, rfl, rfl, h1, by rw [h2.length]; exact e, q _ g2 g1⟩
    · cases e
  · cases e
end
end FK

/-! ### readings by the small Python -/
namespace FK
open PySem PySem.Spec PyProof.Rows L2
section
variable (K : PySem.W.Frag)
/-- behind an expression -/
def Aft (ρ : Mp) (H : Hp) (v : Vl) (ah' : AH) (Q : VK) : Prop := ∀ ρ' H' z, Ext ρ H ρ' H' → RepH K ρ' ah' H' → RepR K ρ' H' v z → Fr H v z → Q z H'
/-- where things just made lie, nothing lay -/
def Frs (H : Hp) : List Vl → List V → Prop
  | v :: vs, z :: zs => Fr H v z ∧ Frs H vs zs ∧ (v.owned = true → ∀ w y, (w, y) ∈ vs.zip zs → w.owned = true → y ≠ z)
  | _, _ => True
def rE (m : ME) : TE := fun σ H Q => ∃ ρ e ah v ah', RepS K ρ H e σ ∧ RepH K ρ ah H ∧ m e ah = some (v, ah') ∧ Aft K ρ H v ah' Q
def rT (m : MT) : TT := fun σ H Q => ∃ ρ e ah b ah', RepS K ρ H e σ ∧ RepH K ρ ah H ∧ m e ah = some (b, ah') ∧ ∀ ρ' H', Ext ρ H ρ' H' → RepH K ρ' ah' H' → Q b H'
def rA (m : MA) : TA := fun σ H Q => ∃ ρ e ah vs ah', RepS K ρ H e σ ∧ RepH K ρ ah H ∧ m e ah = some (vs, ah') ∧ ∀ ρ' H' zs, Ext ρ H ρ' H' → RepH K ρ' ah' H' → RepVs K ρ' H' vs zs → Q zs H'
def rB (m : MA) : TA := fun σ H Q => ∃ ρ e ah vs ah', RepS K ρ H e σ ∧ RepH K ρ ah H ∧ m e ah = some (vs, ah') ∧ ∀ ρ' H' zs, Ext ρ H ρ' H' → RepH K ρ' ah' H' → RepRs K ρ' H' vs zs → Frs H vs zs → Q zs H'
def rO (m : AE → AH → Option (Option Int × AH)) : TO := fun σ H Q => ∃ ρ e ah o ah', RepS K ρ H e σ ∧ RepH K ρ ah H ∧ m e ah = some (o, ah') ∧ ∀ ρ' H', Ext ρ H ρ' H' → RepH K ρ' ah' H' → Q o H'
end
section
variable {X : Cx} {K : PySem.W.Frag} {ρ ρ' : Mp} {H H' : Hp} {ah ah' : AH} {v : Vl} {z : V}
theorem PE.imp {e : Expr} {t t' : TE} (h : PE X e t) (f : ∀ σ H Q, t' σ H Q → t σ H Q) : PE X e t' := ⟨fun pins s σ H Q I q => h.run pins s σ H Q I (f σ H Q q)⟩
theorem PT.imp {e : Expr} {t t' : TT} (h : PT X e t) (f : ∀ σ H Q, t' σ H Q → t σ H Q) : PT X e t' := ⟨fun pins s σ H Q I q => h.run pins s σ H Q I (f σ H Q q)⟩
theorem PW.imp {e : Expr} {t t' : TT} (h : PW X e t) (f : ∀ σ H Q, t' σ H Q → t σ H Q) : PW X e t' := ⟨fun w pins s σ H Q I q => h.run w pins s σ H Q I (f σ H Q q)⟩
theorem PA.imp {e : List Expr} {t t' : TA} (h : PA X e t) (f : ∀ σ H Q, t' σ H Q → t σ H Q) : PA X e t' := ⟨fun pos pins s σ H Q I q => h.run pos pins s σ H Q I (f σ H Q q)⟩
theorem PO.imp {e : Option Expr} {t t' : TO} (h : PO X e t) (f : ∀ σ H Q, t' σ H Q → t σ H Q) : PO X e t' := ⟨fun pins s σ H Q I q => h.run pins s σ H Q I (f σ H Q q)⟩
theorem PS.imp {e : Stmt} {t t' : TS} (h : PS X e t) (f : ∀ D σ H, t' D σ H → t D σ H) : PS X e t' := ⟨fun pins s σ H D I q => h.run pins s σ H D I (f D σ H q)⟩
theorem PSs.imp {e : List Stmt} {t t' : TS} (h : PSs X e t) (f : ∀ D σ H, t' D σ H → t D σ H) : PSs X e t' := ⟨fun pins s σ H D I q => h.run pins s σ H D I (f D σ H q)⟩
theorem Fr.back (f : Fr H' v z) (x : Ext ρ H ρ' H') (r : RepH K ρ' ah H') : Fr H v z := fun o => let ⟨a, e, n⟩ := f o; ⟨a, e, x.kp a n⟩
theorem Frs.back (x : Ext ρ H ρ' H') : ∀ {vs : List Vl} {zs : List V}, Frs H' vs zs → Frs H vs zs
  | [], _, _ => by cases ‹List V› <;> trivial
  | _ :: _, [], _ => trivial
  | v :: vs, z :: zs, ⟨h1, h2, h3⟩ => ⟨fun o => let ⟨a, e, n⟩ := h1 o; ⟨a, e, x.kp a n⟩, Frs.back x h2, h3⟩
theorem Frs.mem : ∀ {vs : List Vl} {zs : List V}, Frs H vs zs → ∀ w y, (w, y) ∈ vs.zip zs → Fr H w y
  | [], _, _, _, _, h => by simp at h
  | _ :: _, [], _, _, _, h => by simp at h
  | v :: vs, z :: zs, ⟨h1, h2, h3⟩, w, y, h => by
    simp only [List.zip_cons_cons, List.mem_cons] at h
    rcases h with h | h
    · cases h; exact h1
    · exact Frs.mem h2 w y h
theorem frz_ok {w : Vl} (x : Ext ρ H ρ' H') (r : RepH K ρ' ah' H') (q : RepR K ρ' H' v z) (f : Fr H v z) (e : frzV v = some w) : ∃ ρ'', Ext ρ H ρ'' H' ∧ RepH K ρ'' ah' H' ∧ RepV K ρ'' H' w z := by
  cases v with
  | fl xs =>
    cases e
    obtain ⟨a, vs, rfl, h1, hz, h2, h3⟩ := q.fl_
    obtain ⟨a', e, n⟩ := f rfl
    cases e
    refine ⟨ρ'.frz a, x.frz (.inl n), r.frz h1 h2, ?_⟩
    simp only [RepV]
    exact ⟨a, vs, rfl, .inr rfl, h2, h3.mono3 l3_frz⟩
  | fd ks xs =>
    cases e
    obtain ⟨a, vs, o, rfl, h1, hz, h2, h4, h3⟩ := q
    obtain ⟨a', e, n⟩ := f rfl
    cases e
    refine ⟨ρ'.frz a, x.frz (.inl n), r.frz h1 h2, ?_⟩
    simp only [RepV]
    exact ⟨a, vs, o, rfl, .inr rfl, h2, h4, h3.mono3 l3_frz⟩
  | bw xs => cases e
  | bd ks xs => cases e
  | _ => cases e; exact ⟨ρ', x, r, q⟩
/-! expressions -/
variable {gl : List (Str × Vl)} {cl : Nat → List Vl → AH → Option (Vl × AH)} {a b c : Expr} {A B C : Ex} {pos : Pos}
theorem pe_const {v : Vl} {z : V} (h : PE X a (tC z)) (r : ∀ ρ H, RepV X.K ρ H v z) (m : ME) (hm : ∀ e ah, m e ah = some (v, ah)) : PE X a (rE X.K m) := by
  refine PE.imp h fun σ H Q ⟨ρ, e, ah, v', ah', hS, hH, hE, q⟩ => ?_
  rw [hm] at hE; cases hE
  exact q ρ H z (Ext.refl _ _) hH (r ρ H).r (Fr.of (nf_own (r ρ H).nf))
theorem rd_ok {w : Vl} (h : RepR K ρ H w z) : RepR K ρ H (rdV w) z := by
  cases w <;> exact h
theorem ok_var {i : Nat} (h : PE X a (tVar i)) : PE X a (rE X.K (evE gl cl (.var i))) := by
  refine PE.imp h fun σ H Q ⟨ρ, e, ah, v', ah', hS, hH, hE, q⟩ => ?_
  simp only [evE] at hE
  split at hE
  · rename_i w hw
    cases hE
    obtain ⟨x, h1, h2⟩ := hS.at_ i _ hw
    refine ⟨x, h1, q ρ H x (Ext.refl _ _) hH (rd_ok h2) (Fr.of ?_)⟩
    cases w <;> rfl
  · cases hE
theorem ok_bin {op : Operator} (ha : PE X a (rE X.K (evE gl cl A))) (hb : PE X b (rE X.K (evE gl cl B))) : PE X (.BinOp a op b pos) (rE X.K (evE gl cl (.bin op A B))) := by
  refine PE.imp (pe_op (bin_ok op) ha hb) fun σ H Q ⟨ρ, e, ah, v, ah', hS, hH, hE, q⟩ => ?_
  simp only [evE] at hE
  split at hE; · cases hE
  rename_i x h1 e1
  split at hE; · cases hE
  rename_i y h2 e2
  split at hE; · cases hE
  rename_i w e3
  cases hE
  exact ⟨ρ, e, ah, x, h1, hS, hH, e1, fun ρ1 H1 z1 x1 r1 v1 f1 => ⟨ρ1, e, h1, y, ah', hS.mono x1, r1, e2, fun ρ2 H2 z2 x2 r2 v2 f2 =>
    ⟨ρ2, ah', x, y, v, r2, v1.mono x2, v2, e3, fun H' z x3 r3 v3 f3 => q ρ2 H' z ((x1.trans x2).trans x3) r3 v3 (f3.back (x1.trans x2) r2)⟩⟩⟩
theorem ok_ix (hu : X.A.units + 1 < cLine) (ha : PE X a (rE X.K (evE gl cl A))) (hb : PE X b (rE X.K (evE gl cl B))) (hp : PlainIx b) : PE X (.Subscript a b pos) (rE X.K (evE gl cl (.ix A B))) := by
  refine PE.imp (pe_ix (ix_ok hu) ha hb hp) fun σ H Q ⟨ρ, e, ah, v, ah', hS, hH, hE, q⟩ => ?_
  simp only [evE] at hE
  split at hE; · cases hE
  rename_i x h1 e1
  split at hE; · cases hE
  rename_i y h2 e2
  split at hE; · cases hE
  rename_i w e3
  cases hE
  exact ⟨ρ, e, ah, x, h1, hS, hH, e1, fun ρ1 H1 z1 x1 r1 v1 f1 => ⟨ρ1, e, h1, y, ah', hS.mono x1, r1, e2, fun ρ2 H2 z2 x2 r2 v2 f2 =>
    ⟨ρ2, ah', x, y, v, r2, v1.mono x2, v2, e3, fun H' z x3 r3 v3 f3 => q ρ2 H' z ((x1.trans x2).trans x3) r3 v3 (f3.back (x1.trans x2) r2)⟩⟩⟩
theorem bl_of {K : PySem.W.Frag} {ρ H b} : RepR K ρ H (.bl b) (.bl b) := by simp only [RepR, RepV]
theorem int_of {K : PySem.W.Frag} {ρ H b} : RepR K ρ H (.int b) (.int b) := by simp only [RepR, RepV]
theorem cmp_rd {op : CmpOp} {σ : St} {H : Hp} {Q : VK} (h : rE X.K (evE gl cl (.cmp op A B)) σ H Q) : tOp (rCmp X.K op) (rE X.K (evE gl cl A)) (rE X.K (evE gl cl B)) σ H Q := by
  obtain ⟨ρ, e, ah, v, ah', hS, hH, hE, q⟩ := h
  simp only [evE] at hE
  split at hE; · cases hE
  rename_i x h1 e1
  split at hE; · cases hE
  rename_i y h2 e2
  split at hE; · cases hE
  rename_i w e3
  cases hE
  exact ⟨ρ, e, ah, x, h1, hS, hH, e1, fun ρ1 H1 z1 x1 r1 v1 f1 => ⟨ρ1, e, h1, y, ah', hS.mono x1, r1, e2, fun ρ2 H2 z2 x2 r2 v2 f2 =>
    ⟨ρ2, ah', x, y, w, r2, v1.mono x2, v2, e3, q ρ2 H2 _ (x1.trans x2) r2 bl_of (Fr.of rfl)⟩⟩⟩
theorem ok_cmp (hu : X.A.units + 65 < cLine) {op : CmpOp} (ha : PE X a (rE X.K (evE gl cl A))) (hb : PE X b (rE X.K (evE gl cl B))) (hm : behindInMarks op b = false) : PE X (.Compare a [op] [b] pos) (rE X.K (evE gl cl (.cmp op A B))) :=
  PE.imp (pe_cmpR (cmp_ok hu op) ha hb hm) fun σ H Q h => cmp_rd h
/-- a test by an expression's value -/
def vT (m : ME) : MT := fun e h => match m e h with
  | some (.bl b, h1) => some (b, h1)
  | _ => none
theorem vT_rd {m : ME} {σ : St} {H : Hp} {Q : Bool → Hp → Prop} (h : rT X.K (vT m) σ H Q) : rE X.K m σ H fun x H1 => ∃ c, x = .bl c ∧ Q c H1 := by
  obtain ⟨ρ, e, ah, v, ah', hS, hH, hE, q⟩ := h
  unfold vT at hE
  split at hE
  · rename_i b h1 e1
    cases hE
    exact ⟨ρ, e, ah, .bl v, ah', hS, hH, e1, fun ρ1 H1 z1 x1 r1 v1 f1 => ⟨v, v1.bl_, q ρ1 H1 x1 r1⟩⟩
  · cases hE
theorem okv_cmp (hu : X.A.units + 65 < cLine) {op : CmpOp} (ha : PE X a (rE X.K (evE gl cl A))) (hb : PE X b (rE X.K (evE gl cl B))) (hm : behindInMarks op b = false) : PT X (.Compare a [op] [b] pos) (rT X.K (vT (evE gl cl (.cmp op A B)))) :=
  PT.imp (pt_cmpR (cmp_ok hu op) ha hb hm) fun σ H Q h => cmp_rd (vT_rd h)
theorem okv_of {m : ME} (h : PE X a (rE X.K m)) (he : ∀ whole, isTrue a X.env whole = (do let v ← whole; standAt a.pos; holding [v] (truthy v))) : PT X a (rT X.K (vT m)) :=
  PT.imp (pt_val h he) fun σ H Q q => vT_rd q
theorem chain_rd {op op' : CmpOp} {σ : St} {H : Hp} {Q : VK} (h : rE X.K (evE gl cl (.chain op op' A B C)) σ H Q) : tChain (rCmp X.K op) (rCmp X.K op') (rE X.K (evE gl cl A)) (rE X.K (evE gl cl B)) (rE X.K (evE gl cl C)) σ H Q := by
  obtain ⟨ρ, e, ah, v, ah', hS, hH, hE, q⟩ := h
  simp only [evE] at hE
  split at hE; · cases hE
  rename_i x h1 e1
  split at hE; · cases hE
  rename_i y h2 e2
  split at hE
  · cases hE
  · rename_i e3
    cases hE
    refine ⟨ρ, e, ah, x, h1, hS, hH, e1, fun ρ1 H1 z1 x1 r1 v1 f1 => ⟨ρ1, e, h1, y, ah', hS.mono x1, r1, e2, fun ρ2 H2 z2 x2 r2 v2 f2 =>
      ⟨ρ2, ah', x, y, false, r2, v1.mono x2, v2, e3, false, rfl, ?_⟩⟩⟩
    rw [if_neg (by simp)]
    exact q ρ2 H2 _ (x1.trans x2) r2 bl_of (Fr.of rfl)
  · rename_i e3
    split at hE; · cases hE
    rename_i w h3 e4
    split at hE; · cases hE
    rename_i b' e5
    cases hE
    refine ⟨ρ, e, ah, x, h1, hS, hH, e1, fun ρ1 H1 z1 x1 r1 v1 f1 => ⟨ρ1, e, h1, y, h2, hS.mono x1, r1, e2, fun ρ2 H2 z2 x2 r2 v2 f2 =>
      ⟨ρ2, h2, x, y, true, r2, v1.mono x2, v2, e3, true, rfl, ?_⟩⟩⟩
    rw [if_pos rfl]
    exact ⟨ρ2, e, h2, w, ah', (hS.mono x1).mono x2, r2, e4, fun ρ3 H3 z3 x3 r3 v3 f3 => ⟨ρ3, ah', y, w, b', r3, v2.mono x3, v3, e5, q ρ3 H3 _ ((x1.trans x2).trans x3) r3 bl_of (Fr.of rfl)⟩⟩
theorem ok_chain (hu : X.A.units + 65 < cLine) {op op' : CmpOp} (ha : PE X a (rE X.K (evE gl cl A))) (hb : PE X b (rE X.K (evE gl cl B))) (hc : PE X c (rE X.K (evE gl cl C))) (hm : lastMarks [op, op'] [b, c] = false) :
    PE X (.Compare a [op, op'] [b, c] pos) (rE X.K (evE gl cl (.chain op op' A B C))) :=
  PE.imp (pe_chain (cmp_ok hu op) (cmp_ok hu op') ha hb hc hm) fun σ H Q h => chain_rd h
theorem okv_chain (hu : X.A.units + 65 < cLine) {op op' : CmpOp} (ha : PE X a (rE X.K (evE gl cl A))) (hb : PE X b (rE X.K (evE gl cl B))) (hc : PE X c (rE X.K (evE gl cl C))) (hm : lastMarks [op, op'] [b, c] = false) :
    PT X (.Compare a [op, op'] [b, c] pos) (rT X.K (vT (evE gl cl (.chain op op' A B C)))) :=
  PT.imp (pt_chain (cmp_ok hu op) (cmp_ok hu op') ha hb hc hm) fun σ H Q h => chain_rd (vT_rd h)
theorem ok_neg (ha : PE X a (rE X.K (evE gl cl A))) : PE X (.UnaryOp .USub a pos) (rE X.K (evE gl cl (.neg A))) := by
  refine PE.imp (pe_un un_neg ha) fun σ H Q ⟨ρ, e, ah, v, ah', hS, hH, hE, q⟩ => ?_
  simp only [evE] at hE
  split at hE
  · rename_i i h1 e1
    cases hE
    exact ⟨ρ, e, ah, .int i, ah', hS, hH, e1, fun ρ1 H1 z1 x1 r1 v1 f1 => ⟨i, v1.int_, q ρ1 H1 _ x1 r1 int_of (Fr.of rfl)⟩⟩
  · cases hE
theorem ok_and {rest : List Expr} (ha : PE X a (rE X.K (evE gl cl A))) (hb : PE X (.BoolOp .And (b :: rest) pos) (rE X.K (evE gl cl B))) : PE X (.BoolOp .And (a :: b :: rest) pos) (rE X.K (evE gl cl (.and A B))) := by
  refine PE.imp (pe_and ha hb) fun σ H Q ⟨ρ, e, ah, v, ah', hS, hH, hE, q⟩ => ?_
  simp only [evE] at hE
  split at hE
  · rename_i h1 e1
    refine ⟨ρ, e, ah, .bl true, h1, hS, hH, e1, fun ρ1 H1 z1 x1 r1 v1 f1 => ⟨true, v1.bl_, ?_⟩⟩
    rw [if_pos rfl]
    exact ⟨ρ1, e, h1, v, ah', hS.mono x1, r1, hE, fun ρ2 H2 z2 x2 r2 v2 f2 => q ρ2 H2 z2 (x1.trans x2) r2 v2 (f2.back x1 r1)⟩
  · rename_i h1 e1
    cases hE
    refine ⟨ρ, e, ah, .bl false, ah', hS, hH, e1, fun ρ1 H1 z1 x1 r1 v1 f1 => ⟨false, v1.bl_, ?_⟩⟩
    rw [if_neg (by simp)]
    exact q ρ1 H1 _ x1 r1 bl_of (Fr.of rfl)
  · cases hE
theorem ok_or {rest : List Expr} (ha : PE X a (rE X.K (evE gl cl A))) (hb : PE X (.BoolOp .Or (b :: rest) pos) (rE X.K (evE gl cl B))) : PE X (.BoolOp .Or (a :: b :: rest) pos) (rE X.K (evE gl cl (.or A B))) := by
  refine PE.imp (pe_or ha hb) fun σ H Q ⟨ρ, e, ah, v, ah', hS, hH, hE, q⟩ => ?_
  simp only [evE] at hE
  split at hE
  · rename_i h1 e1
    refine ⟨ρ, e, ah, .bl false, h1, hS, hH, e1, fun ρ1 H1 z1 x1 r1 v1 f1 => ⟨false, v1.bl_, ?_⟩⟩
    rw [if_neg (by simp)]
    exact ⟨ρ1, e, h1, v, ah', hS.mono x1, r1, hE, fun ρ2 H2 z2 x2 r2 v2 f2 => q ρ2 H2 z2 (x1.trans x2) r2 v2 (f2.back x1 r1)⟩
  · rename_i h1 e1
    cases hE
    refine ⟨ρ, e, ah, .bl true, ah', hS, hH, e1, fun ρ1 H1 z1 x1 r1 v1 f1 => ⟨true, v1.bl_, ?_⟩⟩
    rw [if_pos rfl]
    exact q ρ1 H1 _ x1 r1 bl_of (Fr.of rfl)
  · cases hE
theorem ok_not (ha : PE X a (rE X.K (evE gl cl A))) : PE X (.UnaryOp .Not a pos) (rE X.K (evE gl cl (.not A))) := by
  refine PE.imp (pe_not ha) fun σ H Q ⟨ρ, e, ah, v, ah', hS, hH, hE, q⟩ => ?_
  simp only [evE] at hE
  split at hE
  · rename_i i h1 e1
    cases hE
    exact ⟨ρ, e, ah, .bl i, ah', hS, hH, e1, fun ρ1 H1 z1 x1 r1 v1 f1 => ⟨i, v1.bl_, q ρ1 H1 _ x1 r1 bl_of (Fr.of rfl)⟩⟩
  · cases hE
theorem okt_and {rest : List Expr} (ha : PT X a (rT X.K (evT gl cl A))) (hb : PW X (.BoolOp .And (b :: rest) pos) (rT X.K (evT gl cl B))) : PW X (.BoolOp .And (a :: b :: rest) pos) (rT X.K (evT gl cl (.and A B))) := by
  refine PW.imp (pw_and ha hb) fun σ H Q ⟨ρ, e, ah, v, ah', hS, hH, hE, q⟩ => ?_
  simp only [evT] at hE
  split at hE
  · rename_i h1 e1
    refine ⟨ρ, e, ah, true, h1, hS, hH, e1, fun ρ1 H1 x1 r1 => ?_⟩
    dsimp only
    rw [if_pos rfl]
    exact ⟨ρ1, e, h1, v, ah', hS.mono x1, r1, hE, fun ρ2 H2 x2 r2 => q ρ2 H2 (x1.trans x2) r2⟩
  · rename_i h1 e1
    cases hE
    refine ⟨ρ, e, ah, false, ah', hS, hH, e1, fun ρ1 H1 x1 r1 => ?_⟩
    dsimp only
    rw [if_neg (by simp)]
    exact q ρ1 H1 x1 r1
  · cases hE
theorem okt_or {rest : List Expr} (ha : PT X a (rT X.K (evT gl cl A))) (hb : PW X (.BoolOp .Or (b :: rest) pos) (rT X.K (evT gl cl B))) : PW X (.BoolOp .Or (a :: b :: rest) pos) (rT X.K (evT gl cl (.or A B))) := by
  refine PW.imp (pw_or ha hb) fun σ H Q ⟨ρ, e, ah, v, ah', hS, hH, hE, q⟩ => ?_
  simp only [evT] at hE
  split at hE
  · rename_i h1 e1
    refine ⟨ρ, e, ah, false, h1, hS, hH, e1, fun ρ1 H1 x1 r1 => ?_⟩
    dsimp only
    rw [if_neg (by simp)]
    exact ⟨ρ1, e, h1, v, ah', hS.mono x1, r1, hE, fun ρ2 H2 x2 r2 => q ρ2 H2 (x1.trans x2) r2⟩
  · rename_i h1 e1
    cases hE
    refine ⟨ρ, e, ah, true, ah', hS, hH, e1, fun ρ1 H1 x1 r1 => ?_⟩
    dsimp only
    rw [if_pos rfl]
    exact q ρ1 H1 x1 r1
  · cases hE
theorem okt_not (ha : PT X a (rT X.K (evT gl cl A))) : PT X (.UnaryOp .Not a pos) (rT X.K (evT gl cl (.not A))) := by
  refine PT.imp (pt_not ha) fun σ H Q ⟨ρ, e, ah, v, ah', hS, hH, hE, q⟩ => ?_
  simp only [evT] at hE
  split at hE
  · rename_i i h1 e1
    cases hE
    exact ⟨ρ, e, ah, i, ah', hS, hH, e1, fun ρ1 H1 x1 r1 => q ρ1 H1 x1 r1⟩
  · cases hE
theorem okt_val (h : PT X a (rT X.K (vT (evE gl cl A)))) : PT X a (rT X.K (evT gl cl (.val A))) := by
  refine PT.imp h fun σ H Q ⟨ρ, e, ah, v, ah', hS, hH, hE, q⟩ => ⟨ρ, e, ah, v, ah', hS, hH, ?_, q⟩
  simp only [evT] at hE
  split at hE
  · rename_i b h1 e1
    cases hE
    unfold vT
    rw [e1]
  · cases hE
theorem ok_ite (hc : PT X c (rT X.K (evT gl cl C))) (ha : PE X a (rE X.K (evE gl cl A))) (hb : PE X b (rE X.K (evE gl cl B))) : PE X (.IfExp c a b pos) (rE X.K (evE gl cl (.ite C A B))) := by
  refine PE.imp (pe_ifExp hc ha hb) fun σ H Q ⟨ρ, e, ah, v, ah', hS, hH, hE, q⟩ => ?_
  simp only [evE] at hE
  split at hE
  · rename_i h1 e1
    refine ⟨ρ, e, ah, true, h1, hS, hH, e1, fun ρ1 H1 x1 r1 => ?_⟩
    dsimp only
    rw [if_pos rfl]
    exact ⟨ρ1, e, h1, v, ah', hS.mono x1, r1, hE, fun ρ2 H2 z2 x2 r2 v2 f2 => q ρ2 H2 z2 (x1.trans x2) r2 v2 (f2.back x1 r1)⟩
  · rename_i h1 e1
    refine ⟨ρ, e, ah, false, h1, hS, hH, e1, fun ρ1 H1 x1 r1 => ?_⟩
    dsimp only
    rw [if_neg (by simp)]
    exact ⟨ρ1, e, h1, v, ah', hS.mono x1, r1, hE, fun ρ2 H2 z2 x2 r2 v2 f2 => q ρ2 H2 z2 (x1.trans x2) r2 v2 (f2.back x1 r1)⟩
  · cases hE
/-! arguments -/
variable {es : List Expr} {Es : Ex}
theorem oka_nil : PA X [] (rA X.K (evA gl cl .nil)) :=
  PA.imp pa_nil fun σ H Q ⟨ρ, e, ah, v, ah', hS, hH, hE, q⟩ => by
    simp only [evA] at hE; cases hE
    exact q ρ H [] (Ext.refl _ _) hH (by simp only [RepVs])
theorem okb_nil : PA X [] (rB X.K (evB gl cl .nil)) :=
  PA.imp pa_nil fun σ H Q ⟨ρ, e, ah, v, ah', hS, hH, hE, q⟩ => by
    simp only [evB] at hE; cases hE
    exact q ρ H [] (Ext.refl _ _) hH rfl trivial
theorem oka_cons (ha : PE X a (rE X.K (evE gl cl A))) (he : PA X es (rA X.K (evA gl cl Es))) (hs : starEach (a :: es) X.env = (false, eval a X.env) :: starEach es X.env) : PA X (a :: es) (rA X.K (evA gl cl (.cons A Es))) := by
  refine PA.imp (pa_cons ha he hs) fun σ H Q ⟨ρ, e, ah, v, ah', hS, hH, hE, q⟩ => ?_
  simp only [evA] at hE
  split at hE; · cases hE
  rename_i x h1 e1
  split at hE; · cases hE
  rename_i w ew
  split at hE; · cases hE
  rename_i vs h2 e2
  cases hE
  refine ⟨ρ, e, ah, x, h1, hS, hH, e1, fun ρ1 H1 z1 x1 r1 v1 f1 => ?_⟩
  obtain ⟨ρ1', x1', r1', v1'⟩ := frz_ok x1 r1 v1 f1 ew
  exact ⟨ρ1', e, _, vs, ah', hS.mono x1', r1', e2, fun ρ2 H2 zs x2 r2 v2 => q ρ2 H2 (z1 :: zs) (x1'.trans x2) r2 (.cons (v1'.mono x2) v2)⟩
theorem okb_cons (ha : PE X a (rE X.K (evE gl cl A))) (he : PA X es (rB X.K (evB gl cl Es))) (hs : starEach (a :: es) X.env = (false, eval a X.env) :: starEach es X.env) : PA X (a :: es) (rB X.K (evB gl cl (.cons A Es))) := by
  refine PA.imp (pa_cons ha he hs) fun σ H Q ⟨ρ, e, ah, v, ah', hS, hH, hE, q⟩ => ?_
  simp only [evB] at hE
  split at hE; · cases hE
  rename_i x h1 e1
  split at hE; · cases hE
  rename_i vs h2 e2
  cases hE
  exact ⟨ρ, e, ah, x, h1, hS, hH, e1, fun ρ1 H1 z1 x1 r1 v1 f1 => ⟨ρ1, e, _, vs, ah', hS.mono x1, r1, e2, fun ρ2 H2 zs x2 r2 v2 f2 => q ρ2 H2 (z1 :: zs) (x1.trans x2) r2 ⟨z1, zs, rfl, v1.mono x2, v2⟩ ⟨f1, f2.back x1, fun o w y hm ow e => by
    obtain ⟨b, eb, nb⟩ := f2.mem w y hm ow
    obtain ⟨a', u, ea, _, _, s⟩ := owned_ref v1 o
    rw [e, ea] at eb
    cases eb
    rw [nb] at s; cases s⟩⟩⟩
theorem ok_lst (he : PA X es (rA X.K (evA gl cl Es))) : PE X (.List es pos) (rE X.K (evE gl cl (.lst Es))) := by
  refine PE.imp (pe_lst he) fun σ H Q ⟨ρ, e, ah, v, ah', hS, hH, hE, q⟩ => ?_
  simp only [evE] at hE
  split at hE
  · rename_i vs h1 e1
    split at hE
    · rename_i hz
      cases hE
      exact ⟨ρ, e, ah, vs, ah', hS, hH, e1, fun ρ1 H1 zs x1 r1 v1 => ⟨by rw [v1.length]; exact hz, fun p np => q ρ1 _ _ (x1.trans (Ext.new np)) (r1.new np)
        ⟨p, zs, rfl, r1.notin np, r1.notz np, upd_same, v1.mono (Ext.new (ρ := ρ1) np)⟩ fun _ => ⟨p, rfl, x1.kp p np⟩⟩⟩
    · cases hE
  · cases hE
theorem ok_tup {kk : Nat} (he : PA X es (rA X.K (evA gl cl Es))) : PE X (.Tuple es kk pos) (rE X.K (evE gl cl (.tup Es))) := by
  refine PE.imp (pe_tup he) fun σ H Q ⟨ρ, e, ah, v, ah', hS, hH, hE, q⟩ => ?_
  simp only [evE] at hE
  split at hE
  · rename_i vs h1 e1
    split at hE
    · rename_i hz
      cases hE
      refine ⟨ρ, e, ah, vs, ah', hS, hH, e1, fun ρ1 H1 zs x1 r1 v1 => ⟨by rw [v1.length]; exact hz, fun p np => q ρ1 _ _ (x1.trans (Ext.new np)) (r1.new np) ?_ (Fr.of rfl)⟩⟩
      simp only [RepR, RepV]
      exact ⟨p, zs, rfl, .inl (.inl upd_same), v1.mono (Ext.new (ρ := ρ1) np)⟩
    · cases hE
  · cases hE
theorem oko_none : PO X none (rO X.K (evO gl cl .nil)) :=
  PO.imp po_none fun σ H Q ⟨ρ, e, ah, v, ah', hS, hH, hE, q⟩ => by
    simp only [evO] at hE; cases hE
    exact q ρ H (Ext.refl _ _) hH
theorem oko_some {Z : Ex} (ha : PE X a (rE X.K (evE gl cl A))) : PO X (some a) (rO X.K (evO gl cl (.cons A Z))) := by
  refine PO.imp (po_some ha) fun σ H Q ⟨ρ, e, ah, v, ah', hS, hH, hE, q⟩ => ?_
  simp only [evO] at hE
  split at hE
  · rename_i i h1 e1
    cases hE
    exact ⟨ρ, e, ah, .int i, ah', hS, hH, e1, fun ρ1 H1 z1 x1 r1 v1 f1 => ⟨i, v1.int_, q ρ1 H1 x1 r1⟩⟩
  · cases hE
theorem ok_sl {lo hi : Option Expr} {L U : Ex} {p2 : Pos} (ha : PE X a (rE X.K (evE gl cl A))) (hl : PO X lo (rO X.K (evO gl cl L))) (hh : PO X hi (rO X.K (evO gl cl U))) : PE X (.Subscript a (.Slice lo hi none p2) pos) (rE X.K (evE gl cl (.sl A L U))) := by
  refine PE.imp (pe_slice sl_ok ha hl hh) fun σ H Q ⟨ρ, e, ah, v, ah', hS, hH, hE, q⟩ => ?_
  simp only [evE] at hE
  split at hE; · cases hE
  rename_i x h1 e1
  split at hE; · cases hE
  rename_i l h2 e2
  split at hE; · cases hE
  rename_i u h3 e3
  split at hE; · cases hE
  rename_i w e4
  cases hE
  exact ⟨ρ, e, ah, x, h1, hS, hH, e1, fun ρ1 H1 z1 x1 r1 v1 f1 => ⟨ρ1, e, h1, l, h2, hS.mono x1, r1, e2, fun ρ2 H2 x2 r2 => ⟨ρ2, e, h2, u, ah', (hS.mono x1).mono x2, r2, e3, fun ρ3 H3 x3 r3 =>
    ⟨ρ3, ah', x, v, r3, (v1.mono x2).mono x3, e4, fun H' z x4 r4 v4 f4 => q ρ3 H' z (((x1.trans x2).trans x3).trans x4) r4 v4 (f4.back ((x1.trans x2).trans x3) r3)⟩⟩⟩⟩
end
end FK

/-! ### defs whose callers have no repr under way (so that str of a list or tuple is known) -/
namespace FK
open PySem PySem.Spec PyProof.Rows L2
/-- the promise of a def by the small Python -/
def spF (K : PySem.W.Frag) (m : List Vl → AH → Option (Vl × AH)) (zs : List V) (H : Hp) (Q : VK) : Prop :=
  ∃ ρ vs ah v ah', RepVs K ρ H vs zs ∧ RepH K ρ ah H ∧ m vs ah = some (v, ah') ∧ Aft K ρ H v ah' Q
/-- the def at f keeps it, called where no repr is under way -/
structure FnG (P : Program) (w : World) (K : PySem.W.Frag) (mg : Str → Option Value) (base : Heap) (k : Nat) (f : Addr) (fd : FuncData) (ps : List Str) (m : List Vl → AH → Option (Vl × AH)) : Prop where
  len : ∀ zs H Q, spF K m zs H Q → zs.length = ps.length
  run : ∀ (A : Around) (out : List Env) (s : Shared) (H : Hp) (args : Args) (us : List Value) (zs : List V) (Q : VK), Room k A → A.guards = some [] → Env0 P w K mg base A out s H → BindsTo s fd args (ps.zip us) →
    Vals zs us → spF K m zs H Q → codeAny (model P w) A (.call (.ref f) args) (CR CX0 out P w H s Q E0) s
section
variable {X : Cx} {k : Nat} {f : Addr} {fd : FuncData} {ps : List Str} {m : List Vl → AH → Option (Vl × AH)}
theorem FnG.goes (G : FnG X.prog X.w X.K X.mg X.base k f fd ps m) (room : Room k X.A) (gd : X.A.guards = some []) (bnd : Binds X.K fd ps []) {pins : List (Addr × Obj)} {σ : St} {H : Hp} {s : Shared} {Q : VK} {us : List Value} {zs : List V}
    (J : L2.Inv X pins σ H s) (vals : Vals zs us) (q : spF X.K m zs H Q) : wpAny (model X.prog X.w) X.A (call (.ref f) us) (EP X pins σ Q) X.xe s := by
  have many : (us ++ []).length = ps.length := by
    rw [List.append_nil, ← vals.length]
    exact G.len _ _ _ q
  have bound := bnd s us J.kIn many
  rw [List.append_nil] at bound
  refine wpAny_call (codeAny_mono (G.run X.A X.stack s H _ us zs Q room gd J.env0 bound vals q) ?_)
  rintro (e | fl) s' hq
  · exact False.elim hq
  · cases fl <;> first | exact J.after hq | exact False.elim hq
theorem FnG.call {x : Str} {p pos : Pos} {e : Expr} {es : List Expr} {t : TA} (G : FnG X.prog X.w X.K X.mg X.base k f fd ps m) (room : Room k X.A) (gd : X.A.guards = some []) (gl : Gl X x) (at_ : X.mg x = some (.ref f)) (kp : PySem.W.keepIn X.K (.ref f) = true)
    (bnd : Binds X.K fd ps []) (args : PA X (e :: es) t) (nd : (x == ("__debug__" : Str)) = false) (st : starEach (e :: es) X.env = (false, eval e X.env) :: starEach es X.env) (ns : (backTo pos (starEach es X.env)).any (·.1) = false) :
    PE X (.Call (.Name x p) (e :: es) [] pos) (fun σ H Q => t σ H fun zs H1 => spF X.K m zs H1 Q) :=
  ⟨fun pins s σ H Q J h => wpAny_Call_Name_kw (ld_glob J gl at_ (PySem.W.callWith_K (h₀ := X.base) J.ok.mod.kin kp
    (thn (args.run pos pins s σ H _ J h) fun us s1 ⟨zs, H1, J1, vals, q⟩ => ⟨J1.kIn, G.goes room gd bnd J1 vals q⟩) st ns) nd)⟩
theorem FnG.call0 {x : Str} {p pos : Pos} (G : FnG X.prog X.w X.K X.mg X.base k f fd ps m) (room : Room k X.A) (gd : X.A.guards = some []) (gl : Gl X x) (at_ : X.mg x = some (.ref f)) (kp : PySem.W.keepIn X.K (.ref f) = true)
    (bnd : Binds X.K fd ps []) (nd : (x == ("__debug__" : Str)) = false) : PE X (.Call (.Name x p) [] [] pos) (fun σ H Q => spF X.K m [] H Q) :=
  ⟨fun pins s σ H Q J h => wpAny_Call_Name_kw (ld_glob J gl at_ (PySem.W.callWith_K0 J.kIn kp (G.goes (us := []) room gd bnd J .nil h)) nd)⟩
end
section
variable {P : Program} {w : World} {K : PySem.W.Frag} {mg : Str → Option Value} {base : Heap}
/-- a def by its body -/
theorem fnG_of {k : Nat} {x qual : Str} {st : Stmt} {f : Addr} {fd : FuncData} {N ps : List Str} {m : List Vl → AH → Option (Vl × AH)} (F : Fun K x qual st f fd) (S : FnScope N ps (defScope st)) (len : ∀ zs H Q, spF K m zs H Q → zs.length = ps.length)
    (body : ∀ (cdv : Value) (A : Around) (out : List Env) (s : Shared) (H : Hp) (zs : List V) (Q : VK), Room k (A.deeper (envOfC qual (defScope st) s.heap.objs.size f cdv)) → A.guards = some [] → spF K m zs H Q →
      ∃ t, PSs (cxOf CX0 P w K mg base N qual (defScope st) f cdv A out s H E0).nox (defBody st) t ∧ t { nx := fun _ H' => Q .non H', rt := Q } (L2.start N zs) H) : FnG P w K mg base (k + 1) f fd ps m := by
  obtain ⟨oc, od, kV, doc, pm, an, cdv, ct, osl, rfl, look, code⟩ := F.ex
  refine ⟨len, fun A out s H args us zs Q room gd env0 bound vals q => ?_⟩
  have kin : K.In s.heap := env0.mod.kin.keeps fun b o z => (env0.bs b o z).1
  obtain ⟨t, ht, hq⟩ := body cdv A out s H zs Q (room.deeper _) gd q
  refine codeAny_call_function room.depth (kin _ _ look) rfl S.co S.gen rfl (PySem.W.codeRec_of kin code) (bound _ _ _ _ ?_)
  refine wpAny_newFunctionEnv_cells S.kind (fun y hy => ?_) fun env ee s1 inn => ?_
  · rcases S.par y.1 (List.of_mem_zip hy).1 with z | z
    · exact Or.inl z
    · exact Or.inr ⟨z, PySem.W.cellsFrom_some _ _ _ (Or.inl z)⟩
  · subst ee
    refine ⟨(env0.mod.nolimit.keeps fun b o z => (env0.bs b o z).1).keeps inn.toInCall.keep, codeAny_func ?_⟩
    have J := inv_start (CX := CX0) (E := E0) (cd := cdv) S room.hd env0 (len _ _ _ q) vals inn
    refine wpAny_mono (ht.nox.run [] s1 _ H _ J hq) ?_ fun _ _ z => z
    intro fl s' hs
    cases fl with
    | ret u => exact let ⟨v, _, H', J', rel, qq⟩ := hs; ⟨v, H', J'.os, J'.bare, J'.base, J'.hok, rel, qq⟩
    | next => exact let ⟨_, H', J', qq⟩ := hs; ⟨.non, H', J'.os, J'.bare, J'.base, J'.hok, rfl, qq⟩
    | brk => exact let ⟨_, _, _, qq⟩ := hs; False.elim qq
    | cont => exact let ⟨_, _, _, qq⟩ := hs; False.elim qq
end
end FK

/-! ### calls that see the things handed to them alone -/
namespace FK
open PySem PySem.Spec PyProof.Rows L2
section
variable {K : PySem.W.Frag} {ρ ρ' : Mp} {H H' : Hp} {ah ah' : AH}
mutual
theorem RepV.nr (sub : ∀ a, ρ.z a → ρ'.z a) : ∀ {v : Vl} {y : V}, noRef v = true → RepV K ρ H v y → RepV K ρ' H v y
  | .non, _, _, h => by simpa only [RepV] using h
  | .bl _, _, _, h => by simpa only [RepV] using h
  | .int _, _, _, h => by simpa only [RepV] using h
  | .str _, _, _, h => by simpa only [RepV] using h
  | .ty _, _, _, h => by simpa only [RepV] using h
  | .fl _, _, _, h => by simp only [RepV] at h
  | .bw _, _, _, h => by simp only [RepV] at h
  | .fd _ _, _, _, h => by simp only [RepV] at h
  | .bd _ _, _, _, h => by simp only [RepV] at h
  | .tup xs, _, n, h => by
    simp only [RepV] at h ⊢
    simp only [noRef] at n
    obtain ⟨a, vs, e, s, r⟩ := h
    exact ⟨a, vs, e, s, RepVs.nr sub n r⟩
  | .ref n, _, m, h => by simp [noRef] at m
  | .fz xs, _, n, h => by
    simp only [RepV] at h ⊢
    simp only [noRef] at n
    obtain ⟨a, vs, e, z, s, r⟩ := h
    exact ⟨a, vs, e, sub a z, s, RepVs.nr sub n r⟩
  | .kz xs, _, n, h => by
    simp only [RepV] at h ⊢
    simp only [noRef] at n
    obtain ⟨a, vs, e, s, r⟩ := h
    exact ⟨a, vs, e, s, RepVs.nr sub n r⟩
  | .zd ks xs, _, n, h => by
    simp only [RepV] at h ⊢
    simp only [noRef] at n
    obtain ⟨a, vs, o, e, z, s, d, r⟩ := h
    exact ⟨a, vs, o, e, sub a z, s, d, RepVs.nr sub n r⟩
theorem RepVs.nr (sub : ∀ a, ρ.z a → ρ'.z a) : ∀ {vs : List Vl} {ys : List V}, noRefs vs = true → RepVs K ρ H vs ys → RepVs K ρ' H vs ys
  | [], _, _, h => by simpa only [RepVs] using h
  | v :: vs, _, n, h => by
    simp only [RepVs] at h ⊢
    simp only [noRefs, Bool.and_eq_true] at n
    obtain ⟨y, r, e, h1, h2⟩ := h
    exact ⟨y, r, e, RepV.nr sub n.1 h1, RepVs.nr sub n.2 h2⟩
end
mutual
theorem RepV.nl : ∀ {v : Vl} {y : V}, noLst v = true → RepV K ρ H v y → RepV K ρ' H v y
  | .non, _, _, h => by simpa only [RepV] using h
  | .bl _, _, _, h => by simpa only [RepV] using h
  | .int _, _, _, h => by simpa only [RepV] using h
  | .str _, _, _, h => by simpa only [RepV] using h
  | .ty _, _, _, h => by simpa only [RepV] using h
  | .fl _, _, n, h => by simp [noLst] at n
  | .bw _, _, n, h => by simp [noLst] at n
  | .fd _ _, _, n, h => by simp [noLst] at n
  | .bd _ _, _, n, h => by simp [noLst] at n
  | .ref _, _, n, h => by simp [noLst] at n
  | .fz _, _, n, h => by simp [noLst] at n
  | .kz _, _, n, h => by simp [noLst] at n
  | .zd _ _, _, n, h => by simp [noLst] at n
  | .tup xs, _, n, h => by
    simp only [RepV] at h ⊢
    simp only [noLst] at n
    obtain ⟨a, vs, e, s, r⟩ := h
    exact ⟨a, vs, e, s, RepVs.nl n r⟩
theorem RepVs.nl : ∀ {vs : List Vl} {ys : List V}, noLsts vs = true → RepVs K ρ H vs ys → RepVs K ρ' H vs ys
  | [], _, _, h => by simpa only [RepVs] using h
  | v :: vs, _, n, h => by
    simp only [RepVs] at h ⊢
    simp only [noLsts, Bool.and_eq_true] at n
    obtain ⟨y, r, e, h1, h2⟩ := h
    exact ⟨y, r, e, RepV.nl n.1 h1, RepVs.nl n.2 h2⟩
end
theorem RepO.nr (sub : ∀ a, ρ.z a → ρ'.z a) {a : Addr} : ∀ {o : Ob}, noRefO o = true → RepO K ρ H a o → RepO K ρ' H a o
  | .lst xs, n, ⟨vs, e, r⟩ => ⟨vs, e, r.nr sub n⟩
  | .dct ks xs, n, ⟨vs, o, e, d, r⟩ => ⟨vs, o, e, d, r.nr sub n⟩
  | .ins c fs xs, n, ⟨dx, vs, e, l, r⟩ => ⟨dx, vs, e, l, r.nr sub n⟩
theorem RepO.nl {a : Addr} : ∀ {o : Ob}, noLstO o = true → RepO K ρ H a o → RepO K ρ' H a o
  | .lst xs, n, ⟨vs, e, r⟩ => ⟨vs, e, r.nl n⟩
  | .dct ks xs, n, ⟨vs, o, e, d, r⟩ => ⟨vs, o, e, d, r.nl n⟩
  | .ins c fs xs, n, ⟨dx, vs, e, l, r⟩ => ⟨dx, vs, e, l, r.nl n⟩
/-- a thing that is lent to a call -/
def lent : Vl → Bool
  | .fl _ => true
  | .bw _ => true
  | .fd _ _ => true
  | .bd _ _ => true
  | _ => false
theorem lent_at {v : Vl} {a : Addr} (h : RepR K ρ H v (.ref a)) (l : lent v = true) : a ∉ ρ.r ∧ ¬ ρ.z a ∧ ∃ o, H a = some o := by
  cases v with
  | fl xs => obtain ⟨b, vs, e, n, m, s, _⟩ := h; cases e; exact ⟨n, m, _, s⟩
  | bw xs => obtain ⟨b, vs, e, n, m, s, _⟩ := h; cases e; exact ⟨n, m, _, s⟩
  | fd ks xs => obtain ⟨b, vs, o, e, n, m, s, _⟩ := h; cases e; exact ⟨n, m, _, s⟩
  | bd ks xs => obtain ⟨b, vs, o, e, n, m, s, _⟩ := h; cases e; exact ⟨n, m, _, s⟩
  | _ => cases l
def LentIn (vs : List Vl) (zs : List V) (a : Addr) : Prop := ∃ v, (v, V.ref a) ∈ vs.zip zs ∧ lent v = true
theorem lentIn_at : ∀ {vs : List Vl} {zs : List V} {a : Addr}, RepRs K ρ H vs zs → LentIn vs zs a → a ∉ ρ.r ∧ ¬ ρ.z a ∧ ∃ o, H a = some o
  | [], _, _, _, h => by obtain ⟨v, h, _⟩ := h; simp at h
  | v :: vs, _, a, ⟨y, r, rfl, h1, h2⟩, h => by
    obtain ⟨w, h, l⟩ := h
    simp only [List.zip_cons_cons, List.mem_cons] at h
    rcases h with h | h
    · cases h; exact lent_at h1 l
    · exact lentIn_at h2 ⟨w, h, l⟩
theorem lentIn_new {H0 : Hp} : ∀ {vs : List Vl} {zs : List V} {a : Addr}, Frs H0 vs zs → anyBw vs = false → LentIn vs zs a → H0 a = none
  | [], _, _, _, _, h => by obtain ⟨v, h, _⟩ := h; simp at h
  | v :: vs, [], _, _, _, h => by obtain ⟨v, h, _⟩ := h; simp at h
  | v :: vs, z :: zs, a, ⟨f1, f2, _⟩, n, h => by
    obtain ⟨w, h, l⟩ := h
    have n2 : anyBw vs = false := by cases v <;> first | exact n | (simp [anyBw] at n; done)
    simp only [List.zip_cons_cons, List.mem_cons] at h
    rcases h with h | h
    · cases h
      have o : v.owned = true := by cases v <;> first | rfl | (cases l; done) | (simp [anyBw] at n; done)
      obtain ⟨b, e, q⟩ := f1 o
      cases e; exact q
    · exact lentIn_new f2 n2 ⟨w, h, l⟩
theorem pins_ok : ∀ {vs : List Vl} {zs : List V} {ns ms : List Nat} {ws : List Vl}, pins vs ns = some (ws, ms) → RepRs K ρ H vs zs → ns.Nodup →
    (∃ t, ms = ns ++ t) ∧ ms.Nodup ∧ ∀ ρc : Mp, (∀ (i n : Nat), ms[i]? = some n → ρc.r[i]? = ρ.r[n]?) → (∀ a, ρ.z a → ρc.z a) → (∀ a, LentIn vs zs a → ρc.z a) → RepVs K ρc H ws zs
  | [], zs, ns, ms, ws, e, h, nd => by
    simp only [pins, Option.some.injEq, Prod.mk.injEq] at e
    obtain ⟨rfl, rfl⟩ := e
    obtain rfl : zs = [] := h
    exact ⟨⟨[], by simp⟩, nd, fun ρc _ _ _ => by simp only [RepVs]⟩
  | v :: vs, zs, ns, ms, ws, e, h, nd => by
    obtain ⟨z, r, rfl, h1, h2⟩ := h
    simp only [pins] at e
    cases hv : refNo v with
    | some n =>
      rw [hv] at e
      obtain rfl : v = .ref n := by cases v <;> first | (cases hv; rfl) | (cases hv; done)
      simp only at e
      split at e
      · cases e
      · rename_i hn
        split at e
        · rename_i ws' ms' ep
          simp only [Option.some.injEq, Prod.mk.injEq] at e
          obtain ⟨rfl, rfl⟩ := e
          have nd1 : (ns ++ [n]).Nodup := by
            rw [List.nodup_append]
            exact ⟨nd, by simp, fun x hx y hy => by
              obtain rfl : y = n := by simpa using hy
              rintro rfl; exact hn hx⟩
          obtain ⟨⟨t, et⟩, nd', f⟩ := pins_ok ep h2 nd1
          refine ⟨⟨n :: t, by simp [et]⟩, nd', fun ρc c1 c2 c3 => .cons ?_ (f ρc c1 c2 fun a ⟨w, q, l⟩ => c3 a ⟨w, by simp only [List.zip_cons_cons, List.mem_cons]; exact .inr q, l⟩)⟩
          obtain ⟨a, rfl, q⟩ := h1.ref_
          simp only [RepV]
          refine ⟨a, rfl, ?_⟩
          rw [c1 ns.length n (by rw [et]; simp), q]
        · cases e
    | none =>
      rw [hv] at e
      simp only at e
      split at e
      · rename_i hr
        split at e
        · rename_i ws' ms' ep
          simp only [Option.some.injEq, Prod.mk.injEq] at e
          obtain ⟨rfl, rfl⟩ := e
          obtain ⟨t, nd', f⟩ := pins_ok ep h2 nd
          refine ⟨t, nd', fun ρc c1 c2 c3 => .cons ?_ (f ρc c1 c2 fun a ⟨w, q, l⟩ => c3 a ⟨w, by simp only [List.zip_cons_cons, List.mem_cons]; exact .inr q, l⟩)⟩
          have hl : ∀ a, z = .ref a → lent v = true → ρc.z a := fun a ea l => c3 a ⟨v, by rw [ea]; simp, l⟩
          cases v with
          | fl xs =>
            obtain ⟨a, us, rfl, _, _, s, q⟩ := h1
            simp only [noRef] at hr
            simp only [lendV, RepV]
            exact ⟨a, us, rfl, hl a rfl rfl, s, q.nr c2 hr⟩
          | bw xs =>
            obtain ⟨a, us, rfl, _, _, s, q⟩ := h1
            simp only [noRef] at hr
            simp only [lendV, RepV]
            exact ⟨a, us, rfl, hl a rfl rfl, s, q.nr c2 hr⟩
          | fd ks xs =>
            obtain ⟨a, us, o, rfl, _, _, s, d, q⟩ := h1
            simp only [noRef] at hr
            simp only [lendV, RepV]
            exact ⟨a, us, o, rfl, hl a rfl rfl, s, d, q.nr c2 hr⟩
          | bd ks xs =>
            obtain ⟨a, us, o, rfl, _, _, s, d, q⟩ := h1
            simp only [noRef] at hr
            simp only [lendV, RepV]
            exact ⟨a, us, o, rfl, hl a rfl rfl, s, d, q.nr c2 hr⟩
          | _ => exact (RepR.v h1 rfl).nr c2 hr
        · cases e
      · cases e
theorem getAll_at : ∀ {ns : List Nat} {os : List Ob}, getAll ah ns = some os → os.length = ns.length ∧ ∀ (i n : Nat), ns[i]? = some n → ∃ o, os[i]? = some o ∧ ah[n]? = some o
  | [], os, e => by
    simp only [getAll, Option.some.injEq] at e
    subst e
    exact ⟨rfl, fun i n h => by simp at h⟩
  | n :: ns, os, e => by
    simp only [getAll] at e
    split at e
    · rename_i o os' e1 e2
      cases e
      obtain ⟨l, f⟩ := getAll_at e2
      refine ⟨by simp [l], fun i m h => ?_⟩
      cases i with
      | zero => simp at h; subst h; exact ⟨o, rfl, e1⟩
      | succ i => simp at h; obtain ⟨u, h1, h2⟩ := f i m h; exact ⟨u, by simpa using h1, h2⟩
    · cases e
theorem putAll_len : ∀ {ns : List Nat} {os : List Ob} {h : AH}, (putAll h ns os).length = h.length
  | [], os, h => by simp [putAll]
  | n :: ns, [], h => by simp [putAll]
  | n :: ns, o :: os, h => by simp [putAll, putAll_len]
theorem putAll_out : ∀ {ns : List Nat} {os : List Ob} {h : AH} {n : Nat}, n ∉ ns → (putAll h ns os)[n]? = h[n]?
  | [], os, h, _, _ => by simp [putAll]
  | m :: ns, [], h, _, _ => by simp [putAll]
  | m :: ns, o :: os, h, n, hn => by
    simp only [List.mem_cons, not_or] at hn
    simp only [putAll]
    rw [putAll_out hn.2, List.getElem?_set_ne (Ne.symm hn.1)]
theorem putAll_in : ∀ {ns : List Nat} {os : List Ob} {h : AH} {i n : Nat} {o : Ob}, ns.Nodup → ns[i]? = some n → os[i]? = some o → n < h.length → (putAll h ns os)[n]? = some o
  | [], os, h, i, n, o, _, e, _, _ => by simp at e
  | m :: ns, [], h, i, n, o, _, _, e, _ => by simp at e
  | m :: ns, o' :: os, h, i, n, o, nd, e1, e2, hl => by
    obtain ⟨n1, n2⟩ := List.nodup_cons.mp nd
    simp only [putAll]
    cases i with
    | zero =>
      simp at e1 e2; subst e1 e2
      rw [putAll_out n1, List.getElem?_set_self hl]
    | succ i =>
      simp at e1 e2
      exact putAll_in n2 e1 e2 (by simpa using hl)
theorem frm_ok {g : List Vl → AH → Option (Vl × AH)} {ρ0 : Mp} {H0 : Hp} {vs : List Vl} {zs : List V} {u : Vl} {Q : VK} (x : Ext ρ0 H0 ρ H) (hH : RepH K ρ ah H) (hv : RepRs K ρ H vs zs) (fr : Frs H0 vs zs) (e : frm g vs ah = some (u, ah')) (q : Aft K ρ0 H0 u ah' Q) : spF K g zs H Q := by
  unfold frm at e
  split at e; · cases e
  rename_i ws ns ep
  split at e; · cases e
  rename_i os eg
  split at e
  rotate_left
  · cases e
  rename_i hnr
  split at e; · cases e
  rename_i u' os' er
  split at e; · cases e
  rename_i hbw
  cases e
  unfold run0 at er
  split at er; · cases er
  rename_i v h2 em
  split at er; · cases er
  rename_i u2 eo
  split at er
  rotate_left
  · cases er
  rename_i hnr2
  cases er
  obtain ⟨_, nd, pf⟩ := pins_ok ep hv .nil
  obtain ⟨lo, ga⟩ := getAll_at eg
  have nlt : ∀ n ∈ ns, n < ah.length := fun n hn => by
    obtain ⟨i, hi⟩ := List.mem_iff_getElem?.mp hn
    obtain ⟨o, _, h⟩ := ga i n hi
    exact (List.getElem?_eq_some_iff.mp h).1
  let ρc : Mp := ⟨ns.map fun n => ρ.r.getD n 0, fun a => ρ.z a ∨ LentIn vs zs a⟩
  have rc : ∀ (i n : Nat), ns[i]? = some n → ρc.r[i]? = ρ.r[n]? := fun i n h => by
    have hl : n < ρ.r.length := by rw [hH.len]; exact nlt n (List.mem_of_getElem? h)
    show (ns.map _)[i]? = _
    rw [List.getElem?_map, h, List.getElem?_eq_getElem hl]
    simp [List.getD_eq_getElem?_getD, List.getElem?_eq_getElem hl]
  have rcm : ∀ a ∈ ρc.r, ∃ i n, ns[i]? = some n ∧ ρc.r[i]? = some a ∧ ρ.r[n]? = some a := fun a ha => by
    obtain ⟨i, hi⟩ := List.mem_iff_getElem?.mp ha
    have hl : i < ns.length := by
      have := (List.getElem?_eq_some_iff.mp hi).1
      simpa [ρc] using this
    exact ⟨i, _, List.getElem?_eq_getElem hl, hi, by rw [← rc i _ (List.getElem?_eq_getElem hl)]; exact hi⟩
  have rcs : ∀ a ∈ ρc.r, a ∈ ρ.r := fun a ha => by
    obtain ⟨i, n, _, _, h⟩ := rcm a ha
    exact List.mem_of_getElem? h
  have dj0 : ∀ a, LentIn vs zs a → a ∉ ρ.r ∧ ¬ ρ.z a ∧ ∃ o, H a = some o := fun a h => lentIn_at hv h
  have hHc : RepH K ρc os H := by
    refine ⟨by simp [ρc, lo], ?_, fun a z m => ?_, fun a z m => ?_, fun i a o e1 e2 => ?_⟩
    · show (ns.map _).Nodup
      rw [List.Nodup, List.pairwise_map]
      refine List.Pairwise.imp_of_mem (fun {n m} hn hm hne he => hne ?_) nd
      have l1 : n < ρ.r.length := by rw [hH.len]; exact nlt n hn
      have l2 : m < ρ.r.length := by rw [hH.len]; exact nlt m hm
      simp only [List.getD_eq_getElem?_getD, List.getElem?_eq_getElem l1, List.getElem?_eq_getElem l2, Option.getD_some] at he
      exact (List.getElem_inj hH.nd).mp he
    · rcases z with z | z
      · exact hH.dj a z (rcs a m)
      · exact (dj0 a z).1 (rcs a m)
    · rcases z with z | z
      · exact hH.zi a z m
      · obtain ⟨o, ho⟩ := (dj0 a z).2.2
        rw [ho] at m; cases m
    · have hl : i < ns.length := by rw [← lo]; exact (List.getElem?_eq_some_iff.mp e2).1
      obtain ⟨o', g1, g2⟩ := ga i _ (List.getElem?_eq_getElem hl)
      rw [e2] at g1; cases g1
      rw [rc i _ (List.getElem?_eq_getElem hl)] at e1
      exact RepO.nr (ρ' := ρc) (fun a z => Or.inl z) (List.all_eq_true.mp hnr o (List.mem_of_getElem? e2)) (hH.ob _ a o e1 g2)
  refine ⟨ρc, ws, os, v, h2, pf ρc rc (fun a z => .inl z) (fun a z => .inr z), hHc, em, fun ρ' H' z x' r' v' f' => ?_⟩
  have bw2 : anyBw vs = true → noLst u = true ∧ (h2.take os.length).all noLstO = true := fun h => by
    rw [h] at hbw
    simp only [Bool.true_and, Bool.not_eq_true', Bool.not_eq_false, Bool.and_eq_true] at hbw
    exact hbw
  let ρ2 : Mp := ⟨ρ.r, fun a => ρ.z a ∨ (anyBw vs = false ∧ ρ'.z a)⟩
  have zc : ∀ a, ρ'.z a → ρ.z a ∨ LentIn vs zs a ∨ H a = none := fun a h => by
    rcases x'.nz a h with h | h | h
    · rcases h with h | h
      · exact .inl h
      · exact .inr (.inl h)
    · exact .inr (.inr h)
    · exact h.elim
  have notr : ∀ a, H a = none → a ∉ ρ.r := fun a h => hH.notin h
  have hH2 : RepH K ρ2 (putAll ah ns (h2.take os.length)) H' := by
    have l3 : Lean3 ρ H ρ2 H' := ⟨List.prefix_refl _, fun a h => .inl h, x'.tp, x'.fz, fun a o h e => x'.zp a o (.inl h) e⟩
    refine ⟨by rw [putAll_len]; exact hH.len, hH.nd, fun a z m => ?_, fun a z m => ?_, fun n b o e1 e2 => ?_⟩
    · rcases z with z | ⟨_, z⟩
      · exact hH.dj a z m
      · rcases zc a z with h | h | h
        · exact hH.dj a h m
        · exact (dj0 a h).1 m
        · exact notr a h m
    · rcases z with z | ⟨_, z⟩
      · exact hH.zi a z (x'.kp a m)
      · exact r'.zi a z m
    · by_cases hn : n ∈ ns
      · obtain ⟨i, hi⟩ := List.mem_iff_getElem?.mp hn
        have hil : i < os.length := by rw [lo]; exact (List.getElem?_eq_some_iff.mp hi).1
        have hb : ρc.r[i]? = some b := by rw [rc i n hi]; exact e1
        have hb' : ρ'.r[i]? = some b := x'.get hb
        have hil2 : i < h2.length := by rw [← r'.len]; exact (List.getElem?_eq_some_iff.mp hb').1
        have ho : (h2.take os.length)[i]? = some h2[i] := by
          rw [List.getElem?_take, if_pos hil, List.getElem?_eq_getElem hil2]
        rw [putAll_in nd hi ho (nlt n hn)] at e2
        cases e2
        have R := r'.ob i b _ hb' (List.getElem?_eq_getElem hil2)
        cases hw : anyBw vs with
        | true => exact R.nl (List.all_eq_true.mp (bw2 hw).2 _ (List.mem_of_getElem? ho))
        | false => exact RepO.nr (ρ' := ρ2) (fun a z => Or.inr ⟨hw, z⟩) (List.all_eq_true.mp hnr2 _ (List.mem_of_getElem? ho)) R
      · rw [putAll_out hn] at e2
        refine (hH.ob n b o e1 e2).mono l3 fun o' q' => x'.fr b o' (fun m => ?_) (fun z => z) q'
        obtain ⟨i, n', h1, h2', h3⟩ := rcm b m
        have : n = n' := by
          obtain ⟨l1, g1⟩ := List.getElem?_eq_some_iff.mp e1
          obtain ⟨l2, g2⟩ := List.getElem?_eq_some_iff.mp h3
          exact (List.getElem_inj hH.nd).mp (g1.trans g2.symm)
        subst this
        exact hn (List.mem_of_getElem? h1)
  have X2 : Ext ρ0 H0 ρ2 H' := by
    refine ⟨x.pre, fun a h => .inl (x.sub a h), fun a o hn _ e => ?_, fun a us e => x'.tp a us (x.tp a us e), fun a o w e => x'.fz a o w (x.fz a o w e), fun a o z e => x'.zp a o (.inl (x.sub a z)) (x.zp a o z e), fun a h => x.kp a (x'.kp a h), x.nw, fun a h => ?_⟩
    · exact x'.fr a o (fun m => x.not hn e (rcs a m)) (fun z => z) (x.fr a o hn (fun z => z) e)
    · rcases h with h | ⟨hw, h⟩
      · exact x.nz a h
      · rcases zc a h with h | h | h
        · exact x.nz a h
        · exact .inr (.inl (lentIn_new fr hw h))
        · exact .inr (.inl (x.kp a h))
  -- the value
  have fresh : ∀ a, H a = none → ¬ ρ'.z a → a ∉ ρ2.r ∧ ¬ ρ2.z a := fun a h1 h2 => ⟨notr a h1, fun z => by
    rcases z with z | ⟨_, z⟩
    · exact hH.zi a z h1
    · exact h2 z⟩
  have sub2 : anyBw vs = false → ∀ a, ρ'.z a → ρ2.z a := fun hw a z => .inr ⟨hw, z⟩
  have val : RepR K ρ2 H' u z ∧ Fr H0 u z := by
    unfold outV at eo
    split at eo
    · rename_i n
      split at eo
      rotate_left
      · cases eo
      rename_i hk
      obtain ⟨a, rfl, ha⟩ := v'.ref_
      have hnew : H a = none := by
        rcases x'.nw a (List.mem_of_getElem? ha) with h | h | h
        · exfalso
          obtain ⟨i, _, _, h3, _⟩ := rcm a h
          have h4 := x'.get h3
          obtain ⟨l1, g1⟩ := List.getElem?_eq_some_iff.mp ha
          obtain ⟨l2, g2⟩ := List.getElem?_eq_some_iff.mp h4
          have h5 : n = i := (List.getElem_inj r'.nd).mp (g1.trans g2.symm)
          have h6 : i < os.length := by
            have := (List.getElem?_eq_some_iff.mp h3).1
            rw [lo]; simpa [ρc] using this
          omega
        · exact h
        · exact h.elim
      have hz : ¬ ρ'.z a := fun z => r'.dj a z (List.mem_of_getElem? ha)
      obtain ⟨f1, f2⟩ := fresh a hnew hz
      split at eo
      · rename_i xs hx
        split at eo
        · rename_i hr
          cases eo
          obtain ⟨vs', g1, g2⟩ := r'.ob n a _ ha hx
          refine ⟨?_, fun _ => ⟨a, rfl, x.kp a hnew⟩⟩
          cases hw : anyBw vs with
          | true => have := (bw2 hw).1; simp [noLst] at this
          | false => exact ⟨a, vs', rfl, f1, f2, g1, g2.nr (sub2 hw) hr⟩
        · cases eo
      · rename_i ks xs hx
        split at eo
        · rename_i hr
          cases eo
          obtain ⟨vs', o, g1, gd, g2⟩ := r'.ob n a _ ha hx
          refine ⟨?_, fun _ => ⟨a, rfl, x.kp a hnew⟩⟩
          cases hw : anyBw vs with
          | true => have := (bw2 hw).1; simp [noLst] at this
          | false => exact ⟨a, vs', o, rfl, f1, f2, g1, gd, g2.nr (sub2 hw) hr⟩
        · cases eo
      · cases eo
    · cases eo
    · cases eo
    · rename_i n1 n2 n3
      split at eo
      rotate_left
      · cases eo
      rename_i hr
      cases eo
      refine ⟨?_, fun o => let ⟨a, e, n⟩ := f' o; ⟨a, e, x.kp a n⟩⟩
      cases hw : anyBw vs with
      | true =>
        have nl := (bw2 hw).1
        have nf : NotFl u = true := by cases u <;> first | rfl | (simp [noLst] at nl; done)
        exact ((v'.v nf).nl nl).r
      | false =>
        cases u with
        | fl xs =>
          obtain ⟨a, us, rfl, a1, a2, a3, a4⟩ := v'
          obtain ⟨b, eb, nb⟩ := f' rfl
          cases eb
          obtain ⟨f1, f2⟩ := fresh a nb a2
          exact ⟨a, us, rfl, f1, f2, a3, a4.nr (sub2 hw) (by simpa only [noRef] using hr)⟩
        | fd ks xs =>
          obtain ⟨a, us, o, rfl, a1, a2, a3, a5, a4⟩ := v'
          obtain ⟨b, eb, nb⟩ := f' rfl
          cases eb
          obtain ⟨f1, f2⟩ := fresh a nb a2
          exact ⟨a, us, o, rfl, f1, f2, a3, a5, a4.nr (sub2 hw) (by simpa only [noRef] using hr)⟩
        | bw xs => exact absurd rfl (n2 xs)
        | bd ks xs => exact absurd rfl (n3 ks xs)
        | _ => exact ((v'.v rfl).nr (sub2 hw) hr).r
  exact q ρ2 H' z X2 hH2 val.1 val.2
end
end FK

/-! ### enumerate of a tuple -/
namespace FK
open PySem PySem.Spec PyProof.Rows L2
open Sem (wp)
open AutoSeq1 (wpAny_loadPart')
theorem meets_enumT (l : Addr) (items : Array Value) (n : Nat) (dct : Option Addr) (sl : Array (Option Value)) :
    Meets (Builtin.«enumerate.__new__» ⟨[.type "enumerate", .ref l], []⟩) (fun _ R s => s.heap.get? l = some { cls := .type "tuple", dict := dct, data := .seq items n, slots := sl } ∧
      R (.ok (.ret (.ref (s.heap.push { cls := .type "tuple_iterator", data := .fields #[.ref l, .int 0 0] }).objs.size)))
        { s with heap := (s.heap.push { cls := .type "tuple_iterator", data := .fields #[.ref l, .int 0 0] }).push { cls := .type "enumerate", data := .fields #[.none, .bool false, .ref s.heap.objs.size, rawInt 0, .none, .none] } }) :=
  .of_wp fun prog w A R s h => by
    obtain ⟨hp, g, d, tk, os⟩ := s; obtain ⟨hl, h⟩ := h
    have hsub := sub_enumerate
    have hL : Heap.IsTuple (Shared.heap ⟨hp, g, d, tk, os⟩) l items := ⟨_, hl, rfl, n, rfl⟩
    wp_walk using wpAny_loadPart' hl
    refine wpAny_stack_any fun st => wpAny_pure ?_
    split
    · rename_i c _ _ _ _ _
      cases (c == Value.type "enumerate")
      · wp_walk using wpAny_loadPart' hl, wpAny_pyIter_tuple hL
        exact ⟨_, rfl, h⟩
      · wp_walk using wpAny_loadPart' hl, wpAny_pyIter_tuple hL
        exact ⟨_, rfl, h⟩
    · wp_walk using wpAny_loadPart' hl, wpAny_pyIter_tuple hL
      exact ⟨_, rfl, h⟩
section
variable {prog : Program} {w : World} {A : Around} {E : Value → Shared → Prop} {s : Shared}
theorem call_enumT {l : Addr} {items : Array Value} {Q : Value → Shared → Prop} (hL : s.heap.IsTuple l items)
    (h : ∀ h', IsEnum h' (s.heap.objs.size + 1) s.heap.objs.size 0 .none → h'.IsTupleIter s.heap.objs.size l 0 → h'.objs.size = s.heap.objs.size + 2 →
      (∀ b o, s.heap.get? b = some o → h'.get? b = some o) → Q (.ref (s.heap.objs.size + 1)) { s with heap := h' }) :
    wpAny (model prog w) A (call (.type "enumerate") [.ref l]) Q E s := by
  obtain ⟨⟨c, dct, dt, sl⟩, hl, hc, n, hd⟩ := hL
  replace hc : c = .type "tuple" := hc
  replace hd : dt = .seq items n := hd
  subst hc hd
  refine callType_new F.called_enumerate (by decide) (F.typeCall_enumerate_1 _) (F.newCall_enumerate_1 _) (fun obj => F.args_object_init_2 obj _) F.entry_enumerate_new
    (meets_enumT l items n dct sl) ⟨hl, ?_⟩
  have hz : (s.heap.push { cls := .type "tuple_iterator", data := .fields #[.ref l, .int 0 0] }).objs.size = s.heap.objs.size + 1 := Heap.size_push ..
  show _ ∧ _
  rw [hz]
  have he : IsEnum ((s.heap.push { cls := .type "tuple_iterator", data := .fields #[.ref l, .int 0 0] }).push
      { cls := .type "enumerate", data := .fields #[.none, .bool false, .ref s.heap.objs.size, rawInt 0, .none, .none] }) (s.heap.objs.size + 1) s.heap.objs.size 0 .none := by
    have := Heap.get?_push_size (s.heap.push { cls := .type "tuple_iterator", data := .fields #[.ref l, .int 0 0] })
      (o := { cls := .type "enumerate", data := .fields #[.none, .bool false, .ref s.heap.objs.size, rawInt 0, .none, .none] }) rfl
    rw [hz] at this; exact this
  refine ⟨⟨_, he, rfl⟩, h _ he ⟨_, Heap.get?_push_of_some _ (Heap.get?_push_size _ rfl), rfl, rfl⟩ (by rw [Heap.size_push, hz]) fun b o x => Heap.get?_push_of_some _ (Heap.get?_push_of_some _ x)⟩
end
/-- the tuple at a, each item in a new pair -/
def IteT (K : PySem.W.Frag) (a : Addr) : It :=
  ⟨fun i H => ∃ (xs : List V) (x : V), SqT K H a xs ∧ xs[i]? = some x, fun i H v H' => ∃ T x, v = .ref T ∧ H T = none ∧ H' = upd H T (.tup [.int (i : Nat), x]) ∧ ∀ xs, SqT K H a xs → xs[i]? = some x, fun i H => ∃ xs : List V, SqT K H a xs ∧ xs.length ≤ i⟩
theorem turn_enumT {P : Program} {w : World} {K : PySem.W.Frag} {elts : List Expr} {kk : Nat} {tpos : Pos} (a e it : Addr) :
    Turn P w K (.Tuple elts kk tpos) (IteT K a) [e, it] e (fun i h => (∃ old, IsEnum h e it ((i : Nat) : Int) old) ∧ h.IsTupleIter it a i ∧ e ≠ it ∧ a ≠ it ∧ a ≠ e) where
  mem := by simp
  obj := fun i h st b hb => by
    obtain ⟨⟨old, he⟩, ⟨o, ho, hc, hd⟩, _⟩ := st
    have e' : b = e ∨ b = it := by simpa using hb
    rcases e' with z | z
    · rw [z]; exact ⟨_, he, fun v q => nomatch q⟩
    · rw [z]; exact ⟨o, ho, fun v q => by rw [hd] at q; cases q⟩
  keep := fun i h h' st k => let ⟨⟨old, he⟩, hi, hne⟩ := st; ⟨⟨old, k e (by simp) _ he⟩, hi.at fun o q => k it (by simp) o q, hne⟩
  item := by
    intro X hP hw hK hc i pins s σ H E I hf st hg
    subst hP hw hK
    obtain ⟨⟨old, he⟩, hit, hne, hai, hae⟩ := st
    obtain ⟨xs, x, hq, hx⟩ := hg
    obtain ⟨its, rv, p, hz⟩ := I.tuple hq
    obtain ⟨u, hu, ru⟩ := rv.get hx
    have pt : s.heap.IsTuple a its.toArray := p
    have hel : e < s.heap.objs.size := Heap.lt_size he
    have hil : it < s.heap.objs.size := by obtain ⟨_, q, _⟩ := hit; exact Heap.lt_size q
    have hlt : i < its.toArray.size := by
      have := (List.getElem?_eq_some_iff.mp hu).1
      simpa using this
    refine wpAny_pyNext_enum_itemD (Draws.tuple (A := X.A.in1) (I.ok.hd hc) it a hai its.toArray) he ⟨hit, pt⟩ hlt hne (by simp [hne, Ne.symm hae]) fun u' h' tk hPx ho hit' hT hsz hk => ?_
    obtain rfl : u' = u := by
      have h1 : its[i]? = some u' := by simpa using hPx
      rw [hu] at h1
      exact (Option.some.inj h1).symm
    refine ⟨_, rfl, wpAny_letOwnedTupleGo_enum (s := { s with heap := h', toks := tk + 1 }) ho fun h'' he' sb => ?_⟩
    have hT2 : h''.get? s.heap.objs.size = some { cls := .type "tuple", data := .seq #[.int i tk, u'] } := (sb.2 _ (Nat.ne_of_gt hel)).trans hT
    have new : ObjOk X.prog X.w (upd H s.heap.objs.size (.tup [.int (i : Nat), x])) h'' s.heap.objs.size (.tup [.int (i : Nat), x]) :=
      ⟨by show 2 ≤ sizeLine; decide, [.int i tk, u'], .cons ⟨_, rfl⟩ (.cons ru .nil), ⟨_, hT2, rfl, _, rfl⟩⟩
    have I1 : Inv X pins σ (upd H s.heap.objs.size (.tup [.int (i : Nat), x])) { s with heap := h'', toks := tk + 1 } :=
      I.turnedNew (ch := [e, it]) (fun b ob hb q => (sb.2 b (fun z => hb (by simp [z]))).trans (hk b ob (fun z => hb (by simp [z])) (fun z => hb (by simp [z])) q)) hf (Nat.le_refl _) new
    refine ⟨.ref s.heap.objs.size, _, I1, rfl, ⟨_, x, rfl, I.hok.fresh (Nat.le_refl _), rfl, fun ys hy => by rw [I.tuple_inj hy hq]; exact hx⟩, ⟨⟨u', ?_⟩, hit'.1.at fun o q => (sb.2 it (Ne.symm hne)).trans q, hne, hai, hae⟩, fun b hb => ?_⟩
    · have e1 : ((i + 1 : Nat) : Int) = (i : Int) + 1 := by omega
      rw [e1]; exact he'
    · have hb' : b < s.heap.objs.size := by
        have e' : b = e ∨ b = it := by simpa using hb
        rcases e' with z | z
        · rw [z]; exact hel
        · rw [z]; exact hil
      rw [upd_ne (Nat.ne_of_lt hb')]
      exact (hf b hb).1
  done := by
    intro X hP hw hK hc i pins s σ H E I hf st hg
    subst hP hw hK
    obtain ⟨⟨old, he⟩, hit, hne, hai, hae⟩ := st
    obtain ⟨xs, hq, hx⟩ := hg
    obtain ⟨its, rv, p, hz⟩ := I.tuple hq
    have pt : s.heap.IsTuple a its.toArray := p
    obtain ⟨f0, f1, f2, f3, f4, f5⟩ := hf it (by simp)
    have hl := rv.length
    have hT : s.TypeIs (.ref e) "enumerate" := ⟨_, he, rfl⟩
    unfold pyNext
    refine wpAny_bind (wpAny_attempt (wpAny_callSpecial?_slot (name := Str.ofString "__next__") hT F.slot_enumerate_next
      (wpAny_call_entry F.slot_enumerate_next hT F.entry_enumerate_next ?_ (F.args_enumerate_next_1 _))))
    show wpAny _ _ (field (.ref e) 2 >>= _) _ _ _
    refine wpAny_bind (wpAny_field he rfl (x := .ref it) rfl ?_)
    refine wpAny_bind (wpAny_nextOf_tuple_end (I.ok.hd hc) hit pt (by simp; omega) fun h' x he' hx' => ?_)
    obtain ⟨o, ho, hc'⟩ := hx'
    refine wpAny_bind (wpAny_isInstance (T := "StopIteration") (b := true) ⟨o, ho, hc'⟩ isSubtype_stop ?_)
    exact wpAny_pure ⟨rfl, I.turned (t' := s.toks) (fun b o hb q => he' b o hb q) f0 f1 f3 f4 f5⟩
  self := fun A i s Q E st h => let ⟨⟨_, he⟩, _⟩ := st; wpAny_pyIter_enum he h
def iEnumT (K : PySem.W.Frag) (ta : TA) : TI := fun σ H R => ta σ H fun vs H1 => ∃ a xs, vs = [.ref a] ∧ ((SqL K H1 a xs ∧ R (Ite K a) H1) ∨ (SqT K H1 a xs ∧ R (IteT K a) H1))
theorem pi_enumT {X : Cx} {e : Expr} {ta : TA} {p pos tpos : Pos} {elts : List Expr} {kk : Nat} (hg : Gl X "enumerate") (hm : X.mg "enumerate" = none) (ha : PA X [e] ta) (hs : starEach [e] X.env = [(false, eval e X.env)] := by rfl) :
    PI X (.Tuple elts kk tpos) (.Call (.Name "enumerate" p) [e] [] pos) (iEnumT X.K ta) := by
  refine ⟨fun pins s σ H R I h => ?_⟩
  refine Call_ (ld_blt I hg hm boot_enumerate (PyProof.Rows.callWith_type1 (thn (ha.run pos pins s σ H _ I h) fun us s1 ⟨vs, H1, I1, r1, q1⟩ => ?_) hs rfl))
  obtain ⟨a, xs, ex, q1⟩ := q1
  subst ex
  cases r1 with
  | cons r rr =>
    cases rr
    cases r
    rcases q1 with ⟨hq, q⟩ | ⟨hq, q⟩
    · obtain ⟨its, rv, p', hz⟩ := I1.list hq
      refine call_enumerate_list p'.isList fun h' he hit hsz hk => wpAny_pyIter_enum he ?_
      have I2 : Inv X pins σ H1 { s1 with heap := h' } := I1.kept (t' := s1.toks) hk
      refine ⟨s1.heap.objs.size + 1, [s1.heap.objs.size + 1, s1.heap.objs.size], _, _, H1, rfl, I2, turn_enum a (s1.heap.objs.size + 1) s1.heap.objs.size, ⟨⟨.none, he⟩, hit, Nat.succ_ne_self _⟩, fun b hb => ?_, q⟩
      have e' : b = s1.heap.objs.size + 1 ∨ b = s1.heap.objs.size := by simpa using hb
      have hle : s1.heap.objs.size ≤ b := by
        rcases e' with z | z
        · rw [z]; exact Nat.le_add_right _ _
        · rw [z]; exact Nat.le_refl _
      exact I1.fpOk hle (I1.hok.fresh hle)
    · obtain ⟨its, rv, p', hz⟩ := I1.tuple hq
      have pt : s1.heap.IsTuple a its.toArray := p'
      have hal : a < s1.heap.objs.size := by obtain ⟨_, q, _⟩ := pt; exact Heap.lt_size q
      refine call_enumT pt fun h' he hit hsz hk => wpAny_pyIter_enum he ?_
      have I2 : Inv X pins σ H1 { s1 with heap := h' } := I1.kept (t' := s1.toks) hk
      refine ⟨s1.heap.objs.size + 1, [s1.heap.objs.size + 1, s1.heap.objs.size], _, _, H1, rfl, I2, turn_enumT a (s1.heap.objs.size + 1) s1.heap.objs.size, ⟨⟨.none, he⟩, hit, Nat.succ_ne_self _, Nat.ne_of_lt hal, Nat.ne_of_lt (Nat.lt_succ_of_lt hal)⟩, fun b hb => ?_, q⟩
      have e' : b = s1.heap.objs.size + 1 ∨ b = s1.heap.objs.size := by simpa using hb
      have hle : s1.heap.objs.size ≤ b := by
        rcases e' with z | z
        · rw [z]; exact Nat.le_add_right _ _
        · rw [z]; exact Nat.le_refl _
      exact I1.fpOk hle (I1.hok.fresh hle)
end FK

/-! ### calls, what is walked -/
namespace FK
open PySem PySem.Spec PyProof.Rows L2
section
variable {X : Cx} {K : PySem.W.Frag} {ρ ρ' : Mp} {H H' : Hp} {ah ah' : AH} {v : Vl} {z : V}
variable {gl : List (Str × Vl)} {cl : Nat → List Vl → AH → Option (Vl × AH)} {a b c : Expr} {A B C : Ex} {pos : Pos} {es : List Expr} {Es : Ex}
theorem call_rd {f : Nat} {σ : St} {H : Hp} {Q : VK} (h : rE X.K (evE gl cl (.call f Es)) σ H Q) : rA X.K (evA gl cl Es) σ H fun zs H1 => spF X.K (cl f) zs H1 Q := by
  obtain ⟨ρ, e, ah, v, ah', hS, hH, hE, q⟩ := h
  simp only [evE] at hE
  split at hE; · cases hE
  rename_i vs h1 e1
  exact ⟨ρ, e, ah, vs, h1, hS, hH, e1, fun ρ1 H1 zs x1 r1 v1 => ⟨ρ1, vs, h1, v, ah', v1, r1, hE, fun ρ2 H2 z x2 r2 v2 f2 => q ρ2 H2 z (x1.trans x2) r2 v2 (f2.back x1 r1)⟩⟩
theorem pcall_rd {f : Nat} {σ : St} {H : Hp} {Q : VK} (h : rE X.K (evE gl cl (.pcall f Es)) σ H Q) : rB X.K (evB gl cl Es) σ H fun zs H1 => spF X.K (cl f) zs H1 Q := by
  obtain ⟨ρ, e, ah, v, ah', hS, hH, hE, q⟩ := h
  simp only [evE] at hE
  split at hE; · cases hE
  rename_i vs h1 e1
  exact ⟨ρ, e, ah, vs, h1, hS, hH, e1, fun ρ1 H1 zs x1 r1 v1 f1 => frm_ok x1 r1 v1 f1 hE q⟩
theorem bi_rd {f : Bi} {σ : St} {H : Hp} {Q : VK} (h : rE X.K (evE gl cl (.bi f Es)) σ H Q) : tCB (rBi X.K f) (rB X.K (evB gl cl Es)) σ H Q := by
  obtain ⟨ρ, e, ah, v, ah', hS, hH, hE, q⟩ := h
  simp only [evE] at hE
  split at hE; · cases hE
  rename_i vs h1 e1
  split at hE; · cases hE
  rename_i w e2
  cases hE
  exact ⟨ρ, e, ah, vs, ah', hS, hH, e1, fun ρ1 H1 zs x1 r1 v1 _ => ⟨ρ1, ah', vs, v, r1, v1, e2, fun H' z x2 r2 v2 f2 => q ρ1 H' z (x1.trans x2) r2 v2 (f2.back x1 r1)⟩⟩
theorem me_rd {m : Me} {σ : St} {H : Hp} {Q : VK} (h : rE X.K (evE gl cl (.me m A Es)) σ H Q) : tBM X.K m.T (rMe X.K m) (rE X.K (evE gl cl A)) (rA X.K (evA gl cl Es)) σ H Q := by
  obtain ⟨ρ, e, ah, v, ah', hS, hH, hE, q⟩ := h
  simp only [evE] at hE
  split at hE; · cases hE
  rename_i x h1 e1
  split at hE
  · rename_i ht
    split at hE; · cases hE
    rename_i vs h2 e2
    exact ⟨ρ, e, ah, x, h1, hS, hH, e1, fun ρ1 H1 z1 x1 r1 v1 f1 => ⟨meTy_ok r1 v1 ht, ρ1, e, h1, vs, h2, hS.mono x1, r1, e2, fun ρ2 H2 zs x2 r2 v2 =>
      ⟨ρ2, h2, x, vs, v, ah', r2, v1.mono x2, v2, hE, fun H' z x3 r3 v3 f3 => q ρ2 H' z ((x1.trans x2).trans x3) r3 v3 (f3.back (x1.trans x2) r2)⟩⟩⟩
  · cases hE
theorem me0_rd {m : Me} {σ : St} {H : Hp} {Q : VK} (h : rE X.K (evE gl cl (.me m A .nil)) σ H Q) : tBM0 X.K m.T (rMe X.K m) (rE X.K (evE gl cl A)) σ H Q := by
  obtain ⟨ρ, e, ah, v, ah', hS, hH, hE, q⟩ := h
  simp only [evE] at hE
  split at hE; · cases hE
  rename_i x h1 e1
  split at hE
  · rename_i ht
    simp only [evA] at hE
    exact ⟨ρ, e, ah, x, h1, hS, hH, e1, fun ρ1 H1 z1 x1 r1 v1 f1 => ⟨meTy_ok r1 v1 ht,
      ρ1, h1, x, [], v, ah', r1, v1, by simp only [RepVs], hE, fun H' z x3 r3 v3 f3 => q ρ1 H' z (x1.trans x3) r3 v3 (f3.back x1 r1)⟩⟩
  · cases hE
theorem ok_new (ha : PE X a (rE X.K (evE gl cl A))) : PE X a (rE X.K (evE gl cl (.new A))) := by
  refine PE.imp ha fun σ H Q ⟨ρ, e, ah, v, ah', hS, hH, hE, q⟩ => ?_
  simp only [evE] at hE
  split at hE; · cases hE
  rename_i w h1 e1
  refine ⟨ρ, e, ah, w, h1, hS, hH, e1, fun ρ1 H1 z1 x1 r1 v1 f1 => ?_⟩
  cases w with
  | fl xs =>
    simp only [newV, Option.some.injEq, Prod.mk.injEq] at hE
    obtain ⟨rfl, rfl⟩ := hE
    obtain ⟨p, vs, rfl, n, m, s, rv⟩ := v1.fl_
    obtain ⟨p', ep, np⟩ := f1 rfl
    cases ep
    refine q (ρ1.num p) H1 _ (x1.num (.inl np)) (r1.num n m ⟨vs, s, rv⟩) ?_ (Fr.of rfl)
    show RepV X.K (ρ1.num p) H1 (.ref h1.length) (.ref p)
    simp only [RepV]
    exact ⟨p, rfl, by simp [Mp.num, ← r1.len]⟩
  | fd ks xs =>
    simp only [newV, Option.some.injEq, Prod.mk.injEq] at hE
    obtain ⟨rfl, rfl⟩ := hE
    obtain ⟨p, vs, o, rfl, n, m, s, d, rv⟩ := v1
    obtain ⟨p', ep, np⟩ := f1 rfl
    cases ep
    refine q (ρ1.num p) H1 _ (x1.num (.inl np)) (r1.num n m ⟨vs, o, s, d, rv⟩) ?_ (Fr.of rfl)
    show RepV X.K (ρ1.num p) H1 (.ref h1.length) (.ref p)
    simp only [RepV]
    exact ⟨p, rfl, by simp [Mp.num, ← r1.len]⟩
  | _ => simp [newV] at hE
/-! what is walked -/
/-- the iterator J gives what s gives, from (ρ, H) on, while nothing of Z is written -/
structure Gives (K : PySem.W.Frag) (J : It) (ρ : Mp) (H : Hp) (s : Src) (Z : Addr → Prop) : Prop where
  go : ∀ O ρ' H' ah' xs, (∀ a, O a → ¬ Z a) → ExtO O ρ H ρ' H' → RepH K ρ' ah' H' → s.get ah' = some xs → ∀ i, i < xs.length → J.go i H'
  stop : ∀ O ρ' H' ah' xs, (∀ a, O a → ¬ Z a) → ExtO O ρ H ρ' H' → RepH K ρ' ah' H' → s.get ah' = some xs → ∀ i, xs.length ≤ i → J.stop i H'
  yld : ∀ O ρ' H' ah' xs, (∀ a, O a → ¬ Z a) → ExtO O ρ H ρ' H' → RepH K ρ' ah' H' → s.get ah' = some xs → ∀ (i : Nat) x H'' v, xs[i]? = some v → J.yld i H' x H'' → Ext ρ' H' ρ' H'' ∧ RepH K ρ' ah' H'' ∧ RepV K ρ' H'' v x
/-- the sequence at a has what s has, from (ρ, H) on -/
def Has (K : PySem.W.Frag) (Sq : Hp → Addr → List V → Prop) (a : Addr) (ρ : Mp) (H : Hp) (s : Src) (Z : Addr → Prop) : Prop :=
  ∀ O ρ' H' ah' xs, (∀ a, O a → ¬ Z a) → ExtO O ρ H ρ' H' → RepH K ρ' ah' H' → s.get ah' = some xs → ∃ vs, Sq H' a vs ∧ RepVs K ρ' H' xs vs
theorem getx {vs : List V} {xs : List Vl} {i : Nat} (r : RepVs K ρ H xs vs) (h : i < xs.length) : ∃ y, vs[i]? = some y := by
  obtain ⟨y, h1, _⟩ := r.get (List.getElem?_eq_getElem h)
  exact ⟨y, h1⟩
theorem has_T {a : Addr} {vs : List V} {xs : List Vl} (h : SqT K H a vs) (r : RepVs K ρ H xs vs) : Has K (SqT K) a ρ H (.st xs) Noh :=
  fun O ρ' H' ah' ys z x r' e => by cases e; exact ⟨vs, sqT_mono x.l3 h, r.mono3 x.l3⟩
theorem has_L {a : Addr} {vs : List V} {xs : List Vl} {Z : Addr → Prop} (h : ∀ O ρ' H', (∀ a, O a → ¬ Z a) → ExtO O ρ H ρ' H' → SqL K H' a vs) (r : RepVs K ρ H xs vs) : Has K (SqL K) a ρ H (.st xs) Z :=
  fun O ρ' H' ah' ys z x r' e => by cases e; exact ⟨vs, h O ρ' H' z x, r.mono3 x.l3⟩
theorem has_R {a : Addr} {n : Nat} (h : ρ.r[n]? = some a) : Has K (SqL K) a ρ H (.lv n) Noh := fun O ρ' H' ah' ys z x r' e => by
  simp only [Src.get] at e
  split at e
  · rename_i zs hz
    cases e
    obtain ⟨b, vs, hb, h1, h2⟩ := r'.lst hz
    rw [x.get h] at hb; cases hb
    exact ⟨vs, .of h1, h2⟩
  · cases e
theorem gives_T {a : Addr} {s : Src} {Z : Addr → Prop} (h : Has K (SqT K) a ρ H s Z) : Gives K (Itt K a) ρ H s Z where
  go := fun O ρ' H' ah' ys z x r' e i hi => by
    obtain ⟨vs, h1, h2⟩ := h O ρ' H' ah' ys z x r' e
    obtain ⟨y, h3⟩ := getx h2 hi
    exact ⟨vs, y, h1, h3⟩
  stop := fun O ρ' H' ah' ys z x r' e i hi => by
    obtain ⟨vs, h1, h2⟩ := h O ρ' H' ah' ys z x r' e
    exact ⟨vs, h1, by rw [h2.length]; exact hi⟩
  yld := fun O ρ' H' ah' ys z x r' e i w H'' v hv hy => by
    obtain ⟨vs, h1, h2⟩ := h O ρ' H' ah' ys z x r' e
    obtain ⟨rfl, hq⟩ := hy
    obtain ⟨y, h3, h4⟩ := h2.get hv
    have h5 := hq vs h1
    rw [h3] at h5; cases h5
    exact ⟨Ext.refl _ _, r', h4⟩
theorem gives_L {a : Addr} {s : Src} {Z : Addr → Prop} (h : Has K (SqL K) a ρ H s Z) : Gives K (Itl K a) ρ H s Z where
  go := fun O ρ' H' ah' ys z x r' e i hi => by
    obtain ⟨vs, h1, h2⟩ := h O ρ' H' ah' ys z x r' e
    obtain ⟨y, h3⟩ := getx h2 hi
    exact ⟨vs, y, h1, h3⟩
  stop := fun O ρ' H' ah' ys z x r' e i hi => by
    obtain ⟨vs, h1, h2⟩ := h O ρ' H' ah' ys z x r' e
    exact ⟨vs, h1, by rw [h2.length]; exact hi⟩
  yld := fun O ρ' H' ah' ys z x r' e i w H'' v hv hy => by
    obtain ⟨vs, h1, h2⟩ := h O ρ' H' ah' ys z x r' e
    obtain ⟨rfl, hq⟩ := hy
    obtain ⟨y, h3, h4⟩ := h2.get hv
    have h5 := hq vs h1
    rw [h3] at h5; cases h5
    exact ⟨Ext.refl _ _, r', h4⟩
theorem enL_len (xs : List Vl) : (enL xs).length = xs.length := by simp [enL]
theorem enL_get {xs : List Vl} {i : Nat} {v : Vl} (h : (enL xs)[i]? = some v) : ∃ w, xs[i]? = some w ∧ v = .tup [.int (i : Nat), w] := by
  simp only [enL, List.getElem?_map, Option.map_eq_some_iff] at h
  obtain ⟨⟨w, j⟩, h1, rfl⟩ := h
  rw [List.getElem?_zipIdx] at h1
  simp only [Option.map_eq_some_iff, Prod.mk.injEq] at h1
  obtain ⟨w', h2, rfl, rfl⟩ := h1
  exact ⟨w', h2, by simp⟩
theorem pair_new {T : Addr} {x y : V} {v w : Vl} (r : RepH K ρ ah H) (hT : H T = none) (h1 : RepV K ρ H v x) (h2 : RepV K ρ H w y) : Ext ρ H ρ (upd H T (.tup [x, y])) ∧ RepH K ρ ah (upd H T (.tup [x, y])) ∧ RepV K ρ (upd H T (.tup [x, y])) (.tup [v, w]) (.ref T) := by
  have x := Ext.new (ρ := ρ) (o := .tup [x, y]) hT
  refine ⟨x, r.new hT, ?_⟩
  simp only [RepV]
  exact ⟨T, _, rfl, .inl (.inl upd_same), .cons (h1.mono x) (.one (h2.mono x))⟩
theorem gives_eL {a : Addr} {s : Src} {Z : Addr → Prop} (h : Has K (SqL K) a ρ H s Z) : Gives K (Ite K a) ρ H (.en s) Z where
  go := fun O ρ' H' ah' ys z x r' e i hi => by
    simp only [Src.get, Option.map_eq_some_iff] at e
    obtain ⟨ys, e, rfl⟩ := e
    obtain ⟨vs, h1, h2⟩ := h O ρ' H' ah' ys z x r' e
    obtain ⟨y, h3⟩ := getx h2 (by rwa [enL_len] at hi)
    exact ⟨vs, y, h1, h3⟩
  stop := fun O ρ' H' ah' ys z x r' e i hi => by
    simp only [Src.get, Option.map_eq_some_iff] at e
    obtain ⟨ys, e, rfl⟩ := e
    obtain ⟨vs, h1, h2⟩ := h O ρ' H' ah' ys z x r' e
    exact ⟨vs, h1, by rw [h2.length]; rwa [enL_len] at hi⟩
  yld := fun O ρ' H' ah' ys z x r' e i w H'' v hv hy => by
    simp only [Src.get, Option.map_eq_some_iff] at e
    obtain ⟨ys, e, rfl⟩ := e
    obtain ⟨vs, h1, h2⟩ := h O ρ' H' ah' ys z x r' e
    obtain ⟨T, y, rfl, hT, rfl, hq⟩ := hy
    obtain ⟨v', h3, rfl⟩ := enL_get hv
    obtain ⟨y', h4, h5⟩ := h2.get h3
    have h6 := hq vs h1
    rw [h4] at h6; cases h6
    exact pair_new r' hT (by simp only [RepV]) h5
theorem gives_eT {a : Addr} {s : Src} {Z : Addr → Prop} (h : Has K (SqT K) a ρ H s Z) : Gives K (IteT K a) ρ H (.en s) Z where
  go := fun O ρ' H' ah' ys z x r' e i hi => by
    simp only [Src.get, Option.map_eq_some_iff] at e
    obtain ⟨ys, e, rfl⟩ := e
    obtain ⟨vs, h1, h2⟩ := h O ρ' H' ah' ys z x r' e
    obtain ⟨y, h3⟩ := getx h2 (by rwa [enL_len] at hi)
    exact ⟨vs, y, h1, h3⟩
  stop := fun O ρ' H' ah' ys z x r' e i hi => by
    simp only [Src.get, Option.map_eq_some_iff] at e
    obtain ⟨ys, e, rfl⟩ := e
    obtain ⟨vs, h1, h2⟩ := h O ρ' H' ah' ys z x r' e
    exact ⟨vs, h1, by rw [h2.length]; rwa [enL_len] at hi⟩
  yld := fun O ρ' H' ah' ys z x r' e i w H'' v hv hy => by
    simp only [Src.get, Option.map_eq_some_iff] at e
    obtain ⟨ys, e, rfl⟩ := e
    obtain ⟨vs, h1, h2⟩ := h O ρ' H' ah' ys z x r' e
    obtain ⟨T, y, rfl, hT, rfl, hq⟩ := hy
    obtain ⟨v', h3, rfl⟩ := enL_get hv
    obtain ⟨y', h4, h5⟩ := h2.get h3
    have h6 := hq vs h1
    rw [h4] at h6; cases h6
    exact pair_new r' hT (by simp only [RepV]) h5
theorem zpL_len (xs ys : List Vl) : (zpL xs ys).length = min xs.length ys.length := by simp [zpL]
theorem zpL_get {xs ys : List Vl} {i : Nat} {v : Vl} (h : (zpL xs ys)[i]? = some v) : ∃ w u, xs[i]? = some w ∧ ys[i]? = some u ∧ v = .tup [w, u] := by
  simp only [zpL, List.getElem?_map, Option.map_eq_some_iff] at h
  obtain ⟨⟨w, u⟩, h1, rfl⟩ := h
  rw [List.getElem?_zip_eq_some] at h1
  exact ⟨w, u, h1.1, h1.2, rfl⟩
theorem zpS {s t : Src} {zs : List Vl} (e : (Src.zp s t).get ah = some zs) : ∃ xs ys, s.get ah = some xs ∧ t.get ah = some ys ∧ zs = zpL xs ys := by
  simp only [Src.get] at e
  split at e
  · rename_i xs ys h1 h2
    cases e
    exact ⟨xs, ys, h1, h2, rfl⟩
  · cases e
theorem gives_zL {a b : Addr} {s t : Src} {Z Z' : Addr → Prop} (h : Has K (SqL K) a ρ H s Z) (g : Has K (SqL K) b ρ H t Z') : Gives K (Itz K a b) ρ H (.zp s t) (fun c => Z c ∨ Z' c) where
  go := fun O ρ' H' ah' ws z x r' e i hi => by
    obtain ⟨xs, ys, e1, e2, rfl⟩ := zpS e
    obtain ⟨vs, h1, h2⟩ := h O ρ' H' ah' xs (fun c o q => z c o (.inl q)) x r' e1
    obtain ⟨us, g1, g2⟩ := g O ρ' H' ah' ys (fun c o q => z c o (.inr q)) x r' e2
    rw [zpL_len] at hi
    obtain ⟨y, h3⟩ := getx h2 (i := i) (by omega)
    obtain ⟨u, g3⟩ := getx g2 (i := i) (by omega)
    exact ⟨vs, us, y, u, h1, g1, h3, g3⟩
  stop := fun O ρ' H' ah' ws z x r' e i hi => by
    obtain ⟨xs, ys, e1, e2, rfl⟩ := zpS e
    obtain ⟨vs, h1, h2⟩ := h O ρ' H' ah' xs (fun c o q => z c o (.inl q)) x r' e1
    obtain ⟨us, g1, g2⟩ := g O ρ' H' ah' ys (fun c o q => z c o (.inr q)) x r' e2
    rw [zpL_len] at hi
    exact ⟨vs, us, h1, g1, by rw [h2.length, g2.length]; omega⟩
  yld := fun O ρ' H' ah' ws z x r' e i w H'' v hv hy => by
    obtain ⟨xs, ys, e1, e2, rfl⟩ := zpS e
    obtain ⟨vs, h1, h2⟩ := h O ρ' H' ah' xs (fun c o q => z c o (.inl q)) x r' e1
    obtain ⟨us, g1, g2⟩ := g O ρ' H' ah' ys (fun c o q => z c o (.inr q)) x r' e2
    obtain ⟨T, y, u, rfl, hT, rfl, hq, gq⟩ := hy
    obtain ⟨v', u', h3, g3, rfl⟩ := zpL_get hv
    obtain ⟨y', h4, h5⟩ := h2.get h3
    obtain ⟨w', g4, g5⟩ := g2.get g3
    have h6 := hq vs h1
    rw [h4] at h6; cases h6
    have g6 := gq us g1
    rw [g4] at g6; cases g6
    exact pair_new r' hT h5 g5
theorem gives_zT {a b : Addr} {s t : Src} {Z Z' : Addr → Prop} (h : Has K (SqT K) a ρ H s Z) (g : Has K (SqT K) b ρ H t Z') : Gives K (RZ.ItzT K a b) ρ H (.zp s t) (fun c => Z c ∨ Z' c) where
  go := fun O ρ' H' ah' ws z x r' e i hi => by
    obtain ⟨xs, ys, e1, e2, rfl⟩ := zpS e
    obtain ⟨vs, h1, h2⟩ := h O ρ' H' ah' xs (fun c o q => z c o (.inl q)) x r' e1
    obtain ⟨us, g1, g2⟩ := g O ρ' H' ah' ys (fun c o q => z c o (.inr q)) x r' e2
    rw [zpL_len] at hi
    obtain ⟨y, h3⟩ := getx h2 (i := i) (by omega)
    obtain ⟨u, g3⟩ := getx g2 (i := i) (by omega)
    exact ⟨vs, us, y, u, h1, g1, h3, g3⟩
  stop := fun O ρ' H' ah' ws z x r' e i hi => by
    obtain ⟨xs, ys, e1, e2, rfl⟩ := zpS e
    obtain ⟨vs, h1, h2⟩ := h O ρ' H' ah' xs (fun c o q => z c o (.inl q)) x r' e1
    obtain ⟨us, g1, g2⟩ := g O ρ' H' ah' ys (fun c o q => z c o (.inr q)) x r' e2
    rw [zpL_len] at hi
    exact ⟨vs, us, h1, g1, by rw [h2.length, g2.length]; omega⟩
  yld := fun O ρ' H' ah' ws z x r' e i w H'' v hv hy => by
    obtain ⟨xs, ys, e1, e2, rfl⟩ := zpS e
    obtain ⟨vs, h1, h2⟩ := h O ρ' H' ah' xs (fun c o q => z c o (.inl q)) x r' e1
    obtain ⟨us, g1, g2⟩ := g O ρ' H' ah' ys (fun c o q => z c o (.inr q)) x r' e2
    obtain ⟨T, y, u, rfl, hT, rfl, hq, gq⟩ := hy
    obtain ⟨v', u', h3, g3, rfl⟩ := zpL_get hv
    obtain ⟨y', h4, h5⟩ := h2.get h3
    obtain ⟨w', g4, g5⟩ := g2.get g3
    have h6 := hq vs h1
    rw [h4] at h6; cases h6
    have g6 := gq us g1
    rw [g4] at g6; cases g6
    exact pair_new r' hT h5 g5
theorem gives_S (z : Str) : Gives K (Its z) ρ H (.st (z.cps.toList.map fun c => .str ⟨#[c]⟩)) Noh where
  go := fun O ρ' H' ah' ys _ x r' e i hi => by
    cases e
    simpa [Its] using hi
  stop := fun O ρ' H' ah' ys _ x r' e i hi => by
    cases e
    simpa [Its] using hi
  yld := fun O ρ' H' ah' ys _ x r' e i w H'' v hv hy => by
    cases e
    obtain ⟨rfl, c, hc, rfl⟩ := hy
    simp only [List.getElem?_map, Option.map_eq_some_iff, Array.getElem?_toList] at hv
    obtain ⟨d, hd, rfl⟩ := hv
    rw [hc] at hd; cases hd
    exact ⟨Ext.refl _ _, r', by simp only [RepV]⟩
theorem gives_I (lo : Int) (n : Nat) : Gives K (Itr lo n) ρ H (.st (rngL lo n)) Noh where
  go := fun O ρ' H' ah' ys _ x r' e i hi => by
    cases e
    simpa [Itr, rngL] using hi
  stop := fun O ρ' H' ah' ys _ x r' e i hi => by
    cases e
    simpa [Itr, rngL] using hi
  yld := fun O ρ' H' ah' ys _ x r' e i w H'' v hv hy => by
    cases e
    obtain ⟨rfl, rfl⟩ := hy
    simp only [rngL, List.getElem?_map, Option.map_eq_some_iff] at hv
    obtain ⟨d, hd, rfl⟩ := hv
    obtain ⟨hl, hd⟩ := List.getElem?_eq_some_iff.mp hd
    simp at hd
    subst hd
    exact ⟨Ext.refl _ _, r', by simp only [RepV]⟩
/-- what a loop's head reads -/
def rI (K : PySem.W.Frag) (k : Itk) (m : MA) : TI := fun σ H R => ∃ ρ e ah vs ah' s, RepS K ρ H e σ ∧ RepH K ρ ah H ∧ m e ah = some (vs, ah') ∧ srcOf k vs ah' = some s ∧
  ∀ ρ' H' J Z, Ext ρ H ρ' H' → RepH K ρ' ah' H' → Gives K J ρ' H' s Z → (anyBw vs = false → ∀ a, Z a → H a = none) → R J H'
/-- a sequence to walk: a tuple's, or a list's -/
theorem seqSrc_ok {H0 : Hp} {s : Src} (r : RepH K ρ ah H) (h : RepR K ρ H v z) (f : Fr H0 v z) (e : seqSrc v ah = some s) :
    ∃ a, z = .ref a ∧ ∃ Z, (anyBw [v] = false → ∀ a, Z a → H0 a = none) ∧ ((isTup v = true ∧ (∃ zs, SqT K H a zs) ∧ Has K (SqT K) a ρ H s Z) ∨ (isTup v = false ∧ (∃ zs, SqL K H a zs) ∧ Has K (SqL K) a ρ H s Z)) := by
  cases v with
  | tup ys =>
    cases e
    obtain ⟨a, zs, rfl, g1, g2⟩ := h.tup_
    exact ⟨a, rfl, Noh, fun _ _ q => q.elim, .inl ⟨rfl, ⟨zs, g1⟩, has_T g1 g2⟩⟩
  | fl ys =>
    cases e
    obtain ⟨a, zs, rfl, g0, g3, g1, g2⟩ := h.fl_
    obtain ⟨a', ea, n⟩ := f rfl
    cases ea
    exact ⟨a, rfl, (· = a), fun _ b q => by rw [q]; exact n, .inr ⟨rfl, ⟨zs, .of g1⟩, has_L (fun O ρ' H' z x => .of (x.fr _ _ g0 (fun o => z a o rfl) g1)) g2⟩⟩
  | bw ys =>
    cases e
    obtain ⟨a, zs, rfl, g0, g3, g1, g2⟩ := h.bw_
    exact ⟨a, rfl, (· = a), fun q => by simp [anyBw] at q, .inr ⟨rfl, ⟨zs, .of g1⟩, has_L (fun O ρ' H' z x => .of (x.fr _ _ g0 (fun o => z a o rfl) g1)) g2⟩⟩
  | fz ys =>
    cases e
    obtain ⟨a, zs, rfl, g0, g1, g2⟩ := h.fz_
    exact ⟨a, rfl, Noh, fun _ _ q => q.elim, .inr ⟨rfl, ⟨zs, .of g1⟩, has_L (fun O ρ' H' z x => .of (x.zp _ _ g0 g1)) g2⟩⟩
  | kz ys =>
    cases e
    obtain ⟨a, zs, rfl, g1, g2⟩ := h.kz_
    exact ⟨a, rfl, Noh, fun _ _ q => q.elim, .inr ⟨rfl, ⟨zs, g1.sq⟩, has_L (fun O ρ' H' z x => (g1.mono x.l3).sq) g2⟩⟩
  | ref n =>
    simp only [seqSrc] at e
    split at e
    · rename_i xs hx
      cases e
      obtain ⟨a', rfl, g1⟩ := h.ref_
      obtain ⟨b, zs, hb, g2, g3⟩ := r.lst hx
      rw [g1] at hb; cases hb
      exact ⟨a', rfl, Noh, fun _ _ q => q.elim, .inr ⟨rfl, ⟨zs, .of g2⟩, has_R g1⟩⟩
    · cases e
  | _ => simp [seqSrc] at e
theorem PI.imp {tg iter : Expr} {t t' : TI} (h : PI X tg iter t) (f : ∀ σ H R, t' σ H R → t σ H R) : PI X tg iter t' := ⟨fun pins s σ H R I q => h.run pins s σ H R I (f σ H R q)⟩
theorem oki_seq {tg : Expr} (ha : PE X a (rE X.K (evE gl cl A))) : PI X tg a (rI X.K .seq (evB gl cl (.cons A .nil))) := by
  refine ⟨fun pins s σ H R I h => ?_⟩
  obtain ⟨ρ, e, ah, vs, ah', sr, hS, hH, hE, hs, q⟩ := h
  simp only [evB] at hE
  split at hE; · cases hE
  rename_i v h1 e1
  cases hE
  by_cases hv : ∃ y, v = .str y
  · obtain ⟨y, rfl⟩ := hv
    cases hs
    exact (pi_str ha).run pins s σ H R I ⟨ρ, e, ah, _, _, hS, hH, e1, fun ρ1 H1 z1 x1 r1 v1 _ => ⟨y, v1.str_, q ρ1 H1 _ _ x1 r1 (gives_S y) fun _ _ q => q.elim⟩⟩
  have hs' : seqSrc v ah' = some sr := by
    cases v <;> first | exact hs | exact absurd ⟨_, rfl⟩ hv
  cases ht : isTup v with
  | true =>
    refine (pi_tup ha).run pins s σ H R I ⟨ρ, e, ah, _, _, hS, hH, e1, fun ρ1 H1 z1 x1 r1 v1 f1 => ?_⟩
    obtain ⟨a', rfl, Z, hZ, h | h⟩ := seqSrc_ok r1 v1 f1 hs'
    · exact ⟨a', rfl, h.2.1, q ρ1 H1 _ Z x1 r1 (gives_T h.2.2) hZ⟩
    · rw [ht] at h; cases h.1
  | false =>
    refine (pi_list ha).run pins s σ H R I ⟨ρ, e, ah, _, _, hS, hH, e1, fun ρ1 H1 z1 x1 r1 v1 f1 => ?_⟩
    obtain ⟨a', rfl, Z, hZ, h | h⟩ := seqSrc_ok r1 v1 f1 hs'
    · rw [ht] at h; cases h.1
    · exact ⟨a', rfl, h.2.1, q ρ1 H1 _ Z x1 r1 (gives_L h.2.2) hZ⟩
theorem oki_enum {p tpos : Pos} {elts : List Expr} {kk : Nat} (hg : Gl X "enumerate") (hm : X.mg "enumerate" = none) (ha : PA X [a] (rB X.K (evB gl cl (.cons A .nil)))) (hs : starEach [a] X.env = [(false, eval a X.env)]) :
    PI X (.Tuple elts kk tpos) (.Call (.Name "enumerate" p) [a] [] pos) (rI X.K .enum (evB gl cl (.cons A .nil))) := by
  refine PI.imp (pi_enumT hg hm ha hs) fun σ H R ⟨ρ, e, ah, vs, ah', sr, hS, hH, hE, hs, q⟩ => ?_
  refine ⟨ρ, e, ah, vs, ah', hS, hH, hE, fun ρ1 H1 zs x1 r1 v1 f1 => ?_⟩
  match vs, hs, v1, f1 with
  | [v], hs, v1, f1 =>
    have hs2 : (seqSrc v ah').map .en = some sr := hs
    rw [Option.map_eq_some_iff] at hs2
    obtain ⟨s, hs2, rfl⟩ := hs2
    obtain ⟨z, rfl, hz⟩ := v1.one
    obtain ⟨a', rfl, Z, hZ, h | h⟩ := seqSrc_ok r1 hz f1.1 hs2
    · obtain ⟨_, ⟨zs, g⟩, h⟩ := h
      exact ⟨a', zs, rfl, .inr ⟨g, q ρ1 H1 _ Z x1 r1 (gives_eT h) hZ⟩⟩
    · obtain ⟨_, ⟨zs, g⟩, h⟩ := h
      exact ⟨a', zs, rfl, .inl ⟨g, q ρ1 H1 _ Z x1 r1 (gives_eL h) hZ⟩⟩
theorem anyBw2 {v w : Vl} (h : anyBw [v, w] = false) : anyBw [v] = false ∧ anyBw [w] = false := by
  cases v <;> first | exact ⟨rfl, h⟩ | (simp [anyBw] at h)
theorem oki_zip {p tpos : Pos} {elts : List Expr} {kk : Nat} (hg : Gl X "zip") (hm : X.mg "zip" = none) (ha : PA X [a, b] (rB X.K (evB gl cl (.cons A (.cons B .nil))))) (hs : starEach [a, b] X.env = (false, eval a X.env) :: starEach [b] X.env)
    (hs2 : (backTo pos (starEach [b] X.env)).any (·.1) = false) : PI X (.Tuple elts kk tpos) (.Call (.Name "zip" p) [a, b] [] pos) (rI X.K .zip (evB gl cl (.cons A (.cons B .nil)))) := by
  refine PI.imp (RZ.pi_zipA hg hm ha hs hs2) fun σ H R ⟨ρ, e, ah, vs, ah', sr, hS, hH, hE, hs, q⟩ => ?_
  refine ⟨ρ, e, ah, vs, ah', hS, hH, hE, fun ρ1 H1 zs x1 r1 v1 f1 => ?_⟩
  match vs, hs, v1, f1 with
  | [v, w], hs, v1, f1 =>
    simp only [srcOf] at hs
    split at hs
    · rename_i s t es et
      split at hs
      · rename_i hvw
        cases hs
        obtain ⟨z, z', rfl, hz, hz'⟩ := v1.two
        obtain ⟨a', rfl, Z, hZ, h⟩ := seqSrc_ok r1 hz f1.1 es
        obtain ⟨b', rfl, Z', hZ', h'⟩ := seqSrc_ok r1 hz' f1.2.1.1 et
        have hn : anyBw [v, w] = false → ∀ c, Z c ∨ Z' c → H c = none := fun n c o => o.elim (hZ (anyBw2 n).1 c) (hZ' (anyBw2 n).2 c)
        rcases h with ⟨k1, ⟨zs, g⟩, h⟩ | ⟨k1, ⟨zs, g⟩, h⟩ <;> rcases h' with ⟨k2, ⟨zs', g'⟩, h'⟩ | ⟨k2, ⟨zs', g'⟩, h'⟩
        · exact ⟨a', b', zs, zs', rfl, .inr ⟨g, g', q ρ1 H1 _ _ x1 r1 (gives_zT h h') hn⟩⟩
        · rw [k1, k2] at hvw; cases hvw
        · rw [k1, k2] at hvw; cases hvw
        · exact ⟨a', b', zs, zs', rfl, .inl ⟨g, g', q ρ1 H1 _ _ x1 r1 (gives_zL h h') hn⟩⟩
      · cases hs
    · cases hs
theorem in62_iff {i : Int} (h : in62 i = true) : -(2 ^ 62) ≤ i ∧ i < 2 ^ 62 := by simpa [in62] using h
theorem rngB_inv {K : PySem.W.Frag} {vs : List Vl} {zs : List V} {s : Src} (h : srcOf .rng vs ah = some s) (r : RepRs K ρ H vs zs) :
    (∃ j, zs = [.int j] ∧ in62 j = true ∧ s = .st (rngL 0 j.toNat)) ∨ ∃ i j, zs = [.int i, .int j] ∧ in62 i = true ∧ in62 j = true ∧ s = .st (rngL i (j - i).toNat) := by
  simp only [srcOf] at h
  split at h
  · split at h
    · rename_i hj
      cases h
      obtain ⟨z, rfl, hz⟩ := r.one
      obtain rfl := hz.int_
      exact .inl ⟨_, rfl, hj, rfl⟩
    · cases h
  · split at h
    · rename_i hj
      cases h
      simp only [Bool.and_eq_true] at hj
      obtain ⟨z, z', rfl, hz, hz'⟩ := r.two
      obtain rfl := hz.int_
      obtain rfl := hz'.int_
      exact .inr ⟨_, _, rfl, hj.1, hj.2, rfl⟩
    · cases h
  · cases h
theorem oki_rng1 {tg : Expr} {p : Pos} (hg : Gl X "range") (hm : X.mg "range" = none) (ha : PA X [a] (rB X.K (evB gl cl (.cons A .nil)))) (hs : starEach [a] X.env = [(false, eval a X.env)]) : PI X tg (.Call (.Name "range" p) [a] [] pos) (rI X.K .rng (evB gl cl (.cons A .nil))) := by
  refine PI.imp (pi_range1 hg hm ha hs) fun σ H R ⟨ρ, e, ah, vs, ah', sr, hS, hH, hE, hs, q⟩ => ?_
  refine ⟨ρ, e, ah, vs, ah', hS, hH, hE, fun ρ1 H1 zs x1 r1 v1 _ => ?_⟩
  have hl : vs.length = 1 := by
    simp only [evB] at hE
    split at hE; · cases hE
    cases hE; rfl
  rcases rngB_inv hs v1 with ⟨j, rfl, hj, rfl⟩ | ⟨i, j, rfl, hi, hj, rfl⟩
  · exact ⟨j, rfl, (in62_iff hj).1, (in62_iff hj).2, q ρ1 H1 _ _ x1 r1 (gives_I 0 j.toNat) fun _ _ q => q.elim⟩
  · exfalso
    have hl2 : ([.int i, .int j] : List V).length = vs.length := by
      clear hs hE q
      match vs, hl, v1 with
      | [w], _, h => obtain ⟨z, e, _⟩ := h.one; cases e
    simp [hl] at hl2
theorem oki_rng2 {tg : Expr} {p : Pos} (hg : Gl X "range") (hm : X.mg "range" = none) (ha : PA X [a, b] (rB X.K (evB gl cl (.cons A (.cons B .nil))))) (hs : starEach [a, b] X.env = [(false, eval a X.env), (false, eval b X.env)]) (hs2 : starEach [b] X.env = [(false, eval b X.env)]) :
    PI X tg (.Call (.Name "range" p) [a, b] [] pos) (rI X.K .rng (evB gl cl (.cons A (.cons B .nil)))) := by
  refine PI.imp (pi_range2 hg hm ha hs hs2) fun σ H R ⟨ρ, e, ah, vs, ah', sr, hS, hH, hE, hs, q⟩ => ?_
  refine ⟨ρ, e, ah, vs, ah', hS, hH, hE, fun ρ1 H1 zs x1 r1 v1 _ => ?_⟩
  have hl : vs.length = 2 := by
    simp only [evB] at hE
    split at hE; · cases hE
    split at hE; · cases hE
    rename_i h3
    split at h3; · cases h3
    cases h3
    cases hE; rfl
  rcases rngB_inv hs v1 with ⟨j, rfl, hj, rfl⟩ | ⟨i, j, rfl, hi, hj, rfl⟩
  · exfalso
    clear hs hE q
    match vs, hl, v1 with
    | [w, w'], _, h => obtain ⟨z, z', e, _⟩ := h.two; cases e
  · exact ⟨i, j, rfl, ⟨(in62_iff hi).1, (in62_iff hi).2, (in62_iff hj).1, (in62_iff hj).2⟩, q ρ1 H1 _ _ x1 r1 (gives_I i (j - i).toNat) fun _ _ q => q.elim⟩
end
end FK

/-! ### comprehensions, statements -/
namespace FK
open PySem PySem.Spec PyProof.Rows L2
section
variable {X : Cx} {K : PySem.W.Frag} {ρ ρ' : Mp} {H H' : Hp} {ah ah' : AH} {v : Vl} {z : V} {O O' : Addr → Prop}
variable {gl : List (Str × Vl)} {cl : Nat → List Vl → AH → Option (Vl × AH)} {a b c : Expr} {A B C : Ex} {pos : Pos} {es : List Expr} {Es : Ex}
def gNs : List Nat → TGs
  | [] => gNil
  | i :: is => gCons (gName i) (gNs is)
def gTg (K : PySem.W.Frag) : Tg → TG
  | .name i => gName i
  | .tup is => gTup K is.length (gNs is)
/-- slots but these are as they were -/
def SameBut (σ σ' : St) (is : List Nat) : Prop := σ'.length = σ.length ∧ ∀ i, i ∉ is → σ'[i]? = σ[i]?
theorem Own.setV {e : AE} {σ : St} (hS : RepS K ρ H e σ) {i : Nat} {v : Vl} {y : V} {a : Addr} (n : NotFl v = true) (o : Own (e.set i (some v)) (σ.set i (some y)) a) : Own e σ a := by
  rcases o.set hS.len with o | ⟨o, _⟩
  · exact o
  · rw [nf_own n] at o; cases o
theorem asgs_ok {is : List Nat} : ∀ {vs : List Vl} {zs : List V} {e e1 : AE} {σ : St} {Q : St → Hp → Prop}, RepS K ρ H e σ → RepVs K ρ H vs zs → asgs is vs e = some e1 → (∀ σ', RepS K ρ H e1 σ' → SameBut σ σ' is → (∀ a, Own e1 σ' a → Own e σ a) → Q σ' H) → zs.length = is.length ∧ gNs is zs σ H Q := by
  induction is with
  | nil =>
    intro vs zs e e1 σ Q hS hv he q
    cases vs with
    | nil =>
      simp only [asgs, Option.some.injEq] at he
      subst he
      obtain rfl := hv.nil_
      exact ⟨rfl, rfl, q σ hS ⟨rfl, fun _ _ => rfl⟩ fun _ o => o⟩
    | cons v vs => simp [asgs] at he
  | cons i is ih =>
    intro vs zs e e1 σ Q hS hv he q
    cases vs with
    | nil => simp [asgs] at he
    | cons v vs =>
      simp only [asgs] at he
      simp only [RepVs] at hv
      obtain ⟨y, r, rfl, h1, h2⟩ := hv
      obtain ⟨l, g⟩ := ih (Q := Q) (hS.set i h1) h2 he fun σ' s' ⟨e1', e2'⟩ o' => q σ' s' ⟨by rw [e1']; simp, fun j hj => by
        rw [e2' j (fun z => hj (List.mem_cons_of_mem _ z)), List.getElem?_set_ne (fun z => hj (by simp [z]))]⟩ fun a o => Own.setV hS h1.nf (o' a o)
      exact ⟨by simp [l], y, r, rfl, g⟩
def Tg.slots : Tg → List Nat
  | .name i => [i]
  | .tup is => is
theorem asg_ok {tg : Tg} {v : Vl} {z : V} {e e1 : AE} {σ : St} {Q : St → Hp → Prop} (hS : RepS K ρ H e σ) (hv : RepV K ρ H v z) (he : asg tg v e = some e1) (q : ∀ σ', RepS K ρ H e1 σ' → SameBut σ σ' tg.slots → (∀ a, Own e1 σ' a → Own e σ a) → Q σ' H) : gTg K tg z σ H Q := by
  cases tg with
  | name i =>
    simp only [asg, Option.some.injEq] at he
    subst he
    exact q _ (hS.set i hv) ⟨by simp, fun j hj => List.getElem?_set_ne (fun z => hj (by simp [Tg.slots, z]))⟩ fun a o => Own.setV hS hv.nf o
  | tup is =>
    cases v with
    | tup vs =>
      simp only [asg] at he
      simp only [RepV] at hv
      obtain ⟨a, zs, rfl, h1, h2⟩ := hv
      obtain ⟨l, g⟩ := asgs_ok hS h2 he q
      exact ⟨a, zs, rfl, h1, l, g⟩
    | _ => simp [asg] at he
theorem RepS.setN {e : AE} {σ : St} (h : RepS K ρ H e σ) (i : Nat) : RepS K ρ H (e.set i none) (σ.set i none) := by
  have back : ∀ {j : Nat} {w : Vl}, (e.set i none)[j]? = some (some w) → i ≠ j ∧ e[j]? = some (some w) := fun {j w} q => by
    rcases set_at q with ⟨_, q, _⟩ | ⟨n, q⟩
    · cases q
    · exact ⟨n, q⟩
  refine ⟨by simp [h.len], fun j w q => ?_, fun j k w w' x q1 q2 o1 o2 s1 s2 => ?_, fun j w q => h.nb j w (back q).2⟩
  · obtain ⟨n, q⟩ := back q
    rw [List.getElem?_set_ne n]
    exact h.at_ j w q
  · obtain ⟨n1, q1⟩ := back q1
    obtain ⟨n2, q2⟩ := back q2
    rw [List.getElem?_set_ne n1] at s1
    rw [List.getElem?_set_ne n2] at s2
    exact h.nd j k w w' x q1 q2 o1 o2 s1 s2
theorem wipe_rep : ∀ {is : List Nat} {e : AE} {σ : St}, RepS K ρ H e σ → RepS K ρ H (wipeE e is) (wipe σ is)
  | [], _, _, h => h
  | i :: is, e, σ, h => (wipe_rep (is := is) h).setN i
theorem wipe_in : ∀ {is : List Nat} {σ : St} {i : Nat}, i ∈ is → (wipe σ is)[i]? = if i < σ.length then some none else none
  | j :: is, σ, i, h => by
    show ((wipe σ is).set j none)[i]? = _
    rw [List.getElem?_set]
    by_cases hj : j = i
    · subst hj
      rw [wipe_length]
      simp
    · have hi : i ∈ is := by
        rcases List.mem_cons.mp h with z | z
        · exact absurd z.symm hj
        · exact z
      rw [wipe_in hi, if_neg hj]
theorem wipe_same {is : List Nat} {σ σ' : St} {js : List Nat} (h : SameBut (wipe σ is) σ' js) (hs : ∀ j ∈ js, j ∈ is) : wipe σ' is = wipe σ is := by
  obtain ⟨h1, h2⟩ := h
  apply List.ext_getElem?
  intro i
  by_cases hi : i ∈ is
  · rw [wipe_in hi, wipe_in hi, h1, wipe_length]
  · rw [wipe_out hi, h2 i (fun z => hi (hs i z))]
/-- what stands outside is written -/
theorem upd_out {D : Addr} {vs vs' : List V} (n : D ∉ ρ.r) (m : ¬ ρ.z D) (e : H D = some (.lst vs)) : Lean3 ρ H ρ (upd H D (.lst vs')) :=
  ⟨List.prefix_refl _, fun _ h => h, fun b us q => by
      have hne : b ≠ D := by rintro rfl; rw [e] at q; cases q
      rw [upd_ne hne]; exact q,
    fun b o u q => by
      have hne : b ≠ D := by rintro rfl; rw [e] at q; cases q
      rw [upd_ne hne]; exact q,
    fun b o z q => by
      have hne : b ≠ D := by rintro rfl; exact m z
      rw [upd_ne hne]; exact q⟩
theorem RepH.out {D : Addr} {vs vs' : List V} (h : RepH K ρ ah H) (n : D ∉ ρ.r) (m : ¬ ρ.z D) (e : H D = some (.lst vs)) : RepH K ρ ah (upd H D (.lst vs')) :=
  ⟨h.len, h.nd, h.dj, fun b z q => by
    by_cases hb : b = D
    · subst hb; exact m z
    · rw [upd_ne hb] at q; exact h.zi b z q, fun k a u e1 e2 => (h.ob k a u e1 e2).mono (upd_out n m e) fun o q => by
    have hne : a ≠ D := by rintro rfl; exact n (List.mem_of_getElem? e1)
    rw [upd_ne hne]; exact q⟩
theorem Ext.out {D : Addr} {o : HO} (x : Ext ρ H ρ' H') (n : H D = none) : Ext ρ H ρ' (upd H' D o) :=
  ⟨x.pre, x.sub, fun a u h g e => by rw [upd_ne (ne_of_none e n)]; exact x.fr a u h g e, fun a u e => by rw [upd_ne (ne_of_none e n)]; exact x.tp a u e,
    fun a u w e => by rw [upd_ne (ne_of_none e n)]; exact x.fz a u w e, fun a u z e => by rw [upd_ne (ne_of_none e n)]; exact x.zp a u z e, fun a q => by
      by_cases ha : a = D
      · subst ha; exact n
      · rw [upd_ne ha] at q; exact x.kp a q, x.nw, x.nz⟩
theorem Ext.fr0 (x : Ext ρ H ρ' H') {D : Addr} {o : HO} (n : D ∉ ρ.r) (e : H D = some o) : H' D = some o := x.fr D o n (fun z => z) e
theorem lc_rd {k : Itk} {tg : Tg} {own : List Nat} {σ : St} {H : Hp} {Q : VK} (hown : ∀ j ∈ tg.slots, j ∈ own) (h : rE X.K (evE gl cl (.lc k Es tg own C A)) σ H Q) :
    tLc (rI X.K k (evB gl cl Es)) (gTg X.K tg) (rT X.K (evT gl cl C)) (rE X.K (evE gl cl A)) own σ H Q := by
  obtain ⟨ρ, e, ah, v, ah', hS, hH, hE, q⟩ := h
  simp only [evE] at hE
  split at hE; · cases hE
  rename_i vs h1 e1
  split at hE; · cases hE
  rename_i s e2
  split at hE; · cases hE
  rename_i xs e3
  split at hE
  · rename_i hz
    split at hE
    · rename_i ys h2 e4
      cases hE
      refine ⟨ρ, e, ah, vs, h1, s, hS, hH, e1, e2, fun ρ1 H1 J Z x1 r1 g1 _ D nD => ?_⟩
      have zz : ∀ a, Noh a → ¬ Z a := fun _ q => q.elim
      refine ⟨fun i m H3 => ∃ ρ3 ah3 acc vacc, Ext ρ1 H1 ρ3 H3 ∧ RepH X.K ρ3 ah3 H3 ∧ D ∉ ρ3.r ∧ ¬ ρ3.z D ∧ H3 D = some (.lst vacc) ∧ RepVs X.K ρ3 H3 acc vacc ∧ acc.length ≤ i ∧ i + m = xs.length ∧
        lcLoop s tg (evT gl cl C) (evE gl cl A) (wipeE e own) m i acc ah3 = some (ys, ah'), ?_, ?_⟩
      · exact ⟨xs.length, ρ1, h1, [], [], Ext.new nD, r1.new nD, r1.notin nD, r1.notz nD, upd_same, by simp only [RepVs], Nat.le_refl _, by simp, e4⟩
      · intro i m H3 hW
        obtain ⟨ρ3, ah3, acc, vacc, x3, r3, n3, m3, d3, v3, l3, em, hL⟩ := hW
        have fin : ∀ zs, s.get ah3 = some zs → zs.length ≤ i → (acc, ah3) = (ys, ah') → J.stop i H3 ∧ Q (.ref D) H3 := fun zs g l e => by
          cases e
          exact ⟨g1.stop Noh ρ3 H3 _ zs zz x3 r3 g i l, q ρ3 H3 _ (x1.trans x3) r3 ⟨D, vacc, rfl, n3, m3, d3, v3⟩ fun _ => ⟨D, rfl, x1.kp D nD⟩⟩
        cases m with
        | zero =>
          simp only [lcLoop] at hL
          split at hL
          · rename_i zs g
            split at hL
            · rename_i l
              exact .inl (fin zs g l (Option.some.inj hL))
            · cases hL
          · cases hL
        | succ m =>
          simp only [lcLoop] at hL
          split at hL; · cases hL
          rename_i zs g
          split at hL
          · rename_i hn
            exact .inl (fin zs g (List.getElem?_eq_none_iff.mp hn) (Option.some.inj hL))
          · rename_i x hx
            split at hL; · cases hL
            rename_i ee1 ea
            have hlt : i < zs.length := (List.getElem?_eq_some_iff.mp hx).1
            refine .inr ⟨g1.go Noh ρ3 H3 ah3 zs zz x3 r3 g i hlt, _, fun H' hN => ⟨m, Nat.lt_succ_self m, hN⟩, fun x0 H' hy => ?_⟩
            obtain ⟨y1, y2, y3⟩ := g1.yld Noh ρ3 H3 ah3 zs zz x3 r3 g i x0 H' x hx hy
            have hS3 : RepS X.K ρ3 H' (wipeE e own) (wipe σ own) := wipe_rep (hS.mono ((x1.trans x3).trans y1))
            have d3' : H' D = some (.lst vacc) := y1.fr0 n3 d3
            refine asg_ok hS3 y3 ea fun σ2 hS4 sb _ => ⟨wipe_same sb hown, ?_⟩
            split at hL
            · cases hL
            · rename_i h5 ec
              refine ⟨ρ3, ee1, ah3, false, h5, hS4, y2, ec, fun ρ4 H4 x4 r4 => ?_⟩
              dsimp only
              rw [if_neg (by simp)]
              exact ⟨ρ4, h5, acc, vacc, (x3.trans y1).trans x4, r4, x4.not n3 d3', x4.notz m3 d3', x4.fr0 n3 d3', (v3.mono y1).mono x4, by omega, by omega, hL⟩
            · rename_i h5 ec
              refine ⟨ρ3, ee1, ah3, true, h5, hS4, y2, ec, fun ρ4 H4 x4 r4 => ?_⟩
              dsimp only
              rw [if_pos rfl]
              split at hL; · cases hL
              rename_i w h6 em'
              split at hL; · cases hL
              rename_i w' ew
              refine ⟨ρ4, ee1, h5, w, h6, hS4.mono x4, r4, em', fun ρ5 H5 zz' x5 r5 v5 f5 => ?_⟩
              obtain ⟨ρ6, x6, r6, v6⟩ := frz_ok x5 r5 v5 f5 ew
              have n4 := x4.not n3 d3'
              have m4 := x4.notz m3 d3'
              have d4 := x4.fr0 n3 d3'
              have n6 := x6.not n4 d4
              have m6 := x6.notz m4 d4
              have d6 := x6.fr0 n4 d4
              have v7 : RepVs X.K ρ6 H5 (acc ++ [w']) (vacc ++ [zz']) := (((v3.mono y1).mono x4).mono x6).append (.one v6)
              refine ⟨vacc, d6, ?_, ρ6, _, _, _, ((((x3.trans y1).trans x4).trans x6).out nD), r6.out n6 m6 d6, n6, m6, upd_same, v7.mono3 (upd_out n6 m6 d6), ?_, by omega, hL⟩
              · rw [v3.length]; omega
              · simp; omega
    · cases hE
  · cases hE
/-! statements -/
theorem ExtO.mono (x : ExtO O ρ H ρ' H') (h : ∀ a, O a → O' a) : ExtO O' ρ H ρ' H' :=
  ⟨x.pre, x.sub, fun a o n m e => x.fr a o n (fun q => m (h a q)) e, x.tp, x.fz, x.zp, x.kp, fun a m => (x.nw a m).imp id (Or.imp id (h a)), fun a m => (x.nz a m).imp id (Or.imp id (h a))⟩
section
variable (K : PySem.W.Frag)
/-- behind a statement that may write O -/
def AftS (O : Addr → Prop) (ρ : Mp) (H : Hp) (f : Fl) (e' : AE) (ah' : AH) (D : Ends) : Prop := match f with
  | .nx => ∀ ρ' H' σ', ExtO O ρ H ρ' H' → RepH K ρ' ah' H' → RepS K ρ' H' e' σ' → (∀ a, Own e' σ' a → O a ∨ H a = none) → D.nx σ' H'
  | .rt v => ∀ ρ' H' z, ExtO O ρ H ρ' H' → RepH K ρ' ah' H' → RepR K ρ' H' v z → (v.owned = true → ∃ a, z = .ref a ∧ (O a ∨ H a = none)) → D.rt z H'
  | .bk => ∀ ρ' H' σ', ExtO O ρ H ρ' H' → RepH K ρ' ah' H' → RepS K ρ' H' e' σ' → (∀ a, Own e' σ' a → O a ∨ H a = none) → D.bk σ' H'
  | .ct => ∀ ρ' H' σ', ExtO O ρ H ρ' H' → RepH K ρ' ah' H' → RepS K ρ' H' e' σ' → (∀ a, Own e' σ' a → O a ∨ H a = none) → D.ct σ' H'
def rS (m : MS) : TS := fun D σ H => ∃ ρ e ah f e' ah', RepS K ρ H e σ ∧ RepH K ρ ah H ∧ m e ah = some (f, e', ah') ∧ AftS K (Own e σ) ρ H f e' ah' D
end
theorem orTr (x : ExtO O ρ H ρ' H') (hO : ∀ a, O' a → O a ∨ H a = none) {a : Addr} (h : O' a ∨ H' a = none) : O a ∨ H a = none := h.elim (hO a) fun q => .inr (x.kp a q)
theorem AftS.back {f : Fl} {e' : AE} {D : Ends} (q : AftS K O ρ H f e' ah' D) (x : ExtO O ρ H ρ' H') (hO : ∀ a, O' a → O a ∨ H a = none) : AftS K O' ρ' H' f e' ah' D := by
  cases f with
  | nx => exact fun ρ2 H2 σ2 x2 r2 s2 o2 => q ρ2 H2 σ2 (x.trans x2 hO) r2 s2 fun a h => orTr x hO (o2 a h)
  | rt v => exact fun ρ2 H2 z2 x2 r2 v2 o2 => q ρ2 H2 z2 (x.trans x2 hO) r2 v2 fun h => let ⟨a, e, g⟩ := o2 h; ⟨a, e, orTr x hO g⟩
  | bk => exact fun ρ2 H2 σ2 x2 r2 s2 o2 => q ρ2 H2 σ2 (x.trans x2 hO) r2 s2 fun a h => orTr x hO (o2 a h)
  | ct => exact fun ρ2 H2 σ2 x2 r2 s2 o2 => q ρ2 H2 σ2 (x.trans x2 hO) r2 s2 fun a h => orTr x hO (o2 a h)
variable {fu : Nat} {st : Stmt} {rest : List Stmt} {S R : Sx}
theorem oks_nil : PSs X [] (rS X.K (evS gl cl fu .nil)) :=
  PSs.imp pss_nil fun D σ H ⟨ρ, e, ah, f, e', ah', hS, hH, hE, q⟩ => by
    simp only [evS] at hE; cases hE
    exact q ρ H σ (ExtO.refl _ _ _) hH hS fun _ o => .inl o
theorem oks_cons (h1 : PS X st (rS X.K (evS gl cl fu S))) (h2 : PSs X rest (rS X.K (evS gl cl fu R))) : PSs X (st :: rest) (rS X.K (evS gl cl fu (.seq S R))) := by
  refine PSs.imp (pss_cons h1 h2) fun D σ H ⟨ρ, e, ah, f, e', ah', hS, hH, hE, q⟩ => ?_
  simp only [evS] at hE
  split at hE
  · rename_i e1 h1' eq
    exact ⟨ρ, e, ah, .nx, e1, h1', hS, hH, eq, fun ρ1 H1 σ1 x1 r1 s1 o1 => ⟨ρ1, e1, h1', f, e', ah', s1, r1, hE, q.back x1 o1⟩⟩
  · rename_i o hn
    refine ⟨ρ, e, ah, f, e', ah', hS, hH, hE, ?_⟩
    cases f with
    | nx => exact absurd hE (hn _ _)
    | rt v => exact q
    | bk => exact q
    | ct => exact q
theorem oks_set {i : Nat} {x : Str} {pos' : Pos} (hN : X.N.Nodup) (hi : X.N[i]? = some x) (hx : Loc X.env.scope x) (ha : PE X a (rE X.K (evE gl cl A))) (hs : swapsWith a (some (.Name x pos')) pos.line X.env = pure false)
    (hf : X.fn x = true ∨ List.lookup x X.env.scope.names = some NameKind.local) : PS X (.Assign [.Name x pos'] a pos) (rS X.K (evS gl cl fu (.set i A))) := by
  refine PS.imp (ps_set hN hi hx ha hs hf) fun D σ H ⟨ρ, e, ah, f, e', ah', hS, hH, hE, q⟩ => ?_
  simp only [evS] at hE
  split at hE
  · rename_i v h1 e1
    split at hE
    · rename_i w ew
      cases hE
      refine ⟨ρ, e, ah, v, _, hS, hH, e1, fun ρ1 H1 z1 x1 r1 v1 f1 => ?_⟩
      obtain ⟨ρ2, x2, r2, v2⟩ := frz_ok x1 r1 v1 f1 ew
      exact q ρ2 H1 _ x2.to r2 ((hS.mono x2).set i v2) fun a o => .inl (Own.setV hS v2.nf o)
    · cases hE
  · cases hE
/-- a name gets what it owns -/
theorem setO_ok {e : AE} {σ : St} {i : Nat} (hS : RepS K ρ H e σ) (x : Ext ρ H ρ' H') (r : RepR K ρ' H' v z) (f : Fr H v z) (hv : v.owned = true) : RepS K ρ' H' (e.set i (some v)) (σ.set i (some z)) ∧ ∀ a, Own (e.set i (some v)) (σ.set i (some z)) a → Own e σ a ∨ H a = none := by
  obtain ⟨p, ep, np⟩ := f hv
  subst ep
  refine ⟨(hS.mono x).setR i r (own_nb hv) fun _ j w hj hw _ hs => ?_, fun a o => ?_⟩
  · obtain ⟨y, h1, h2⟩ := hS.at_ j w hj
    rw [hs] at h1
    cases h1
    obtain ⟨b, u, q, _, _, s⟩ := owned_ref h2 hw
    cases q
    rw [np] at s; cases s
  · rcases o.set hS.len with o | ⟨_, o⟩
    · exact .inl o
    · cases o; exact .inr np
theorem oks_setO {i : Nat} {x : Str} {pos' : Pos} (hN : X.N.Nodup) (hi : X.N[i]? = some x) (hx : Loc X.env.scope x) (ha : PE X a (rE X.K (evE gl cl A))) (hs : swapsWith a (some (.Name x pos')) pos.line X.env = pure false)
    (hf : X.fn x = true ∨ List.lookup x X.env.scope.names = some NameKind.local) : PS X (.Assign [.Name x pos'] a pos) (rS X.K (evS gl cl fu (.setO i A))) := by
  refine PS.imp (ps_set hN hi hx ha hs hf) fun D σ H ⟨ρ, e, ah, f, e', ah', hS, hH, hE, q⟩ => ?_
  simp only [evS] at hE
  split at hE
  · rename_i v h1 e1
    split at hE
    · rename_i ho
      cases hE
      refine ⟨ρ, e, ah, v, _, hS, hH, e1, fun ρ1 H1 z1 x1 r1 v1 f1 => ?_⟩
      obtain ⟨g1, g2⟩ := setO_ok (i := i) hS x1 v1 f1 ho
      exact q ρ1 H1 _ x1.to r1 g1 g2
    · cases hE
  · cases hE
/-- name = [.. for ..] on one line -/
theorem oks_setLc {i : Nat} {y : Str} {py : Pos} {elt tgx iter : Expr} {ifs : List Expr} {scope : Scope} {spos : Pos} {k : Itk} {tg : Tg} {own : List (Str × Nat)} (hc : X.calm = true) (hN : X.N.Nodup) (hy : X.N[i]? = some y) (hyl : X.env.scope.names.lookup y = some .local)
    (hw : swapsWith (.ListComp elt [⟨tgx, iter, ifs, 0⟩] scope pos) (some (.Name y py)) spos.line X.env = pure true) (hi : PI X tgx iter (rI X.K k (evB gl cl Es))) (ok : BlkOk X.N X.env.scope scope own)
    (hg : ∀ s H C cl' fp, PG (X.blk s H scope (compEnvC scope cl' C X.env) fp) tgx (gTg X.K tg)) (ht : ∀ s H C' cl' fp, PTs (X.blk s H scope (compEnvC scope cl' C' X.env) fp) ifs (rT X.K (evT gl cl C)))
    (he : ∀ s H C cl' fp, PE (X.blk s H scope (compEnvC scope cl' C X.env) fp) elt (rE X.K (evE gl cl A))) (hs : ∀ x, foldedSetIterable iter X.env x = pure x) (hown : ∀ j ∈ tg.slots, j ∈ own.map (·.2)) :
    PS X (.Assign [.Name y py] (.ListComp elt [⟨tgx, iter, ifs, 0⟩] scope pos) spos) (rS X.K (evS gl cl fu (.set i (.lc k Es tg (own.map (·.2)) C A)))) ∧
    PS X (.Assign [.Name y py] (.ListComp elt [⟨tgx, iter, ifs, 0⟩] scope pos) spos) (rS X.K (evS gl cl fu (.setO i (.lc k Es tg (own.map (·.2)) C A)))) := by
  constructor
  · refine PS.imp (ps_setLc hc hN hy hyl hw hi ok hg ht he hs) fun D σ H ⟨ρ, e, ah, f, e', ah', hS, hH, hE, q⟩ => ?_
    simp only [evS] at hE
    split at hE
    · rename_i v h1 e1
      split at hE
      · rename_i w ew
        cases hE
        refine lc_rd hown ⟨ρ, e, ah, v, _, hS, hH, e1, fun ρ1 H1 z1 x1 r1 v1 f1 => ?_⟩
        obtain ⟨ρ2, x2, r2, v2⟩ := frz_ok x1 r1 v1 f1 ew
        exact q ρ2 H1 _ x2.to r2 ((hS.mono x2).set i v2) fun a o => .inl (Own.setV hS v2.nf o)
      · cases hE
    · cases hE
  · refine PS.imp (ps_setLc hc hN hy hyl hw hi ok hg ht he hs) fun D σ H ⟨ρ, e, ah, f, e', ah', hS, hH, hE, q⟩ => ?_
    simp only [evS] at hE
    split at hE
    · rename_i v h1 e1
      split at hE
      · rename_i ho
        cases hE
        refine lc_rd hown ⟨ρ, e, ah, v, _, hS, hH, e1, fun ρ1 H1 z1 x1 r1 v1 f1 => ?_⟩
        obtain ⟨g1, g2⟩ := setO_ok (i := i) hS x1 v1 f1 ho
        exact q ρ1 H1 _ x1.to r1 g1 g2
      · cases hE
    · cases hE
theorem oks_setT {is : List Nat} {tgx : Expr} (ha : PE X a (rE X.K (evE gl cl A))) (hg : PG X tgx (gTg X.K (.tup is))) (h1 : swapsWithSole [tgx] a pos.line X.env = pure false) (h2 : swappedStores [tgx] a X.env = pure none)
    (h3 : List.map (fun x => x.snd) (assignEach [tgx] X.env) = [assign tgx X.env]) : PS X (.Assign [tgx] a pos) (rS X.K (evS gl cl fu (.setT is A))) := by
  refine PS.imp (ps_asg ha hg h1 h2 h3) fun D σ H ⟨ρ, e, ah, f, e', ah', hS, hH, hE, q⟩ => ?_
  simp only [evS] at hE
  split at hE
  · rename_i v h1 e1
    split at hE
    · rename_i e2 ea
      cases hE
      refine ⟨ρ, e, ah, v, ah', hS, hH, e1, fun ρ1 H1 z1 x1 r1 v1 f1 => ?_⟩
      have v1' : RepV X.K ρ1 H1 v z1 := by
        cases v <;> first | exact v1 | (simp [asg] at ea)
      exact asg_ok (hS.mono x1) v1' ea fun σ' hS' _ o' => q ρ1 H1 σ' x1.to r1 hS' fun a o => .inl (o' a o)
    · cases hE
  · cases hE
theorem oks_setIx {o i : Expr} {O J : Ex} {p2 : Pos} (ho : PE X o (rE X.K (evE gl cl O))) (hi : PE X i (rE X.K (evE gl cl J))) (ha : PE X a (rE X.K (evE gl cl A)))
    (hsub : ∀ (v : Value), assign (o.Subscript i p2) X.env v = do
                let ov ← holding [v] (eval o X.env)
                let iv ← holding [v, ov] (eval i X.env)
                standAt p2
                holding [v, ov, iv] (setItem ov iv v)
                release [v, ov, iv] [])
    (h1 : swapsWithSole [o.Subscript i p2] a pos.line X.env = pure false) (h2 : swappedStores [o.Subscript i p2] a X.env = pure none) (h3 : List.map (fun x => x.snd) (assignEach [o.Subscript i p2] X.env) = [assign (o.Subscript i p2) X.env]) :
    PS X (.Assign [.Subscript o i p2] a pos) (rS X.K (evS gl cl fu (.setIx O J A))) := by
  refine PS.imp (ps_asg ha (pg_sub ho hi setIx_ok hsub) h1 h2 h3) fun D σ H ⟨ρ, e, ah, f, e', ah', hS, hH, hE, q⟩ => ?_
  simp only [evS] at hE
  split at hE; · cases hE
  rename_i v g1 e1
  split at hE; · cases hE
  rename_i w ew
  split at hE; · cases hE
  rename_i p g2 e2
  split at hE; · cases hE
  rename_i j g3 e3
  split at hE; · cases hE
  rename_i g4 e4
  cases hE
  refine ⟨ρ, e, ah, v, g1, hS, hH, e1, fun ρ1 H1 z1 x1 r1 v1 f1 => ?_⟩
  obtain ⟨ρ2, x2, r2, v2⟩ := frz_ok x1 r1 v1 f1 ew
  refine ⟨ρ2, e, _, p, g2, hS.mono x2, r2, e2, fun ρ3 H3 z3 x3 r3 v3 f3 => ⟨ρ3, e, g2, j, g3, (hS.mono x2).mono x3, r3, e3, fun ρ4 H4 z4 x4 r4 v4 f4 =>
    ⟨ρ4, g3, p, j, w, ah', r4, v3.mono x4, v4, (v2.mono x3).mono x4, e4, fun H5 x5 r5 => q ρ4 H5 σ (((x2.trans x3).trans x4).trans x5).to r5 ((((hS.mono x2).mono x3).mono x4).mono x5) fun a o => .inl o⟩⟩⟩
theorem oks_aug {i : Nat} {x : Str} {op : Operator} {pos' : Pos} (hN : X.N.Nodup) (hi : X.N[i]? = some x) (hx : Loc X.env.scope x) (ha : PE X a (rE X.K (evE gl cl A)))
    (hf : X.fn x = true ∨ List.lookup x X.env.scope.names = some NameKind.local) (hop : op = .Add ∨ op = .Sub) : PS X (.AugAssign (.Name x pos') op a pos) (rS X.K (evS gl cl fu (.aug i op A))) := by
  have core : ∀ (g : Int → Int → Int) (hg : ∀ u w, augV op u w = match u, w with | .int i, .int j => some (.int (g i j)) | _, _ => none) (D : Ends) (σ : St) (H : Hp), rS X.K (evS gl cl fu (.aug i op A)) D σ H → tAug i (rE X.K (evE gl cl A)) (ipI g) D σ H := by
    intro g hg D σ H ⟨ρ, e, ah, f, e', ah', hS, hH, hE, q⟩
    simp only [evS] at hE
    split at hE
    · rename_i u hu
      split at hE; · cases hE
      rename_i w h1 e1
      split at hE; · cases hE
      rename_i v e2
      cases hE
      rw [hg] at e2
      split at e2
      · rename_i m n
        cases e2
        obtain ⟨y, y1, y2⟩ := hS.at_ i _ hu
        obtain rfl := y2.int_
        refine ⟨_, y1, ρ, e, ah, .int n, ah', hS, hH, e1, fun ρ1 H1 z1 x1 r1 v1 f1 => ⟨m, n, rfl, v1.int_, q ρ1 H1 _ x1.to r1 ((hS.mono x1).set i (by simp only [RepV])) fun a o => .inl (Own.setV hS rfl o)⟩⟩
      · cases e2
    · cases hE
  rcases hop with rfl | rfl
  · exact PS.imp (ps_aug hN hi hx ha ip_add hf) (core _ fun u w => by cases u <;> cases w <;> rfl)
  · exact PS.imp (ps_aug hN hi hx ha ip_sub hf) (core _ fun u w => by cases u <;> cases w <;> rfl)
theorem oks_if {as bs : List Stmt} (hc : PT X c (rT X.K (evT gl cl C))) (ha : PSs X as (rS X.K (evS gl cl fu S))) (hb : PSs X bs (rS X.K (evS gl cl fu R))) : PS X (.If c as bs pos) (rS X.K (evS gl cl fu (.ifs C S R))) := by
  refine PS.imp (ps_if hc ha hb) fun D σ H ⟨ρ, e, ah, f, e', ah', hS, hH, hE, q⟩ => ?_
  simp only [evS] at hE
  split at hE
  · rename_i h1 e1
    refine ⟨ρ, e, ah, true, h1, hS, hH, e1, fun ρ1 H1 x1 r1 => ?_⟩
    dsimp only
    rw [if_pos rfl]
    exact ⟨ρ1, e, h1, f, e', ah', hS.mono x1, r1, hE, q.back x1.to fun _ o => .inl o⟩
  · rename_i h1 e1
    refine ⟨ρ, e, ah, false, h1, hS, hH, e1, fun ρ1 H1 x1 r1 => ?_⟩
    dsimp only
    rw [if_neg (by simp)]
    exact ⟨ρ1, e, h1, f, e', ah', hS.mono x1, r1, hE, q.back x1.to fun _ o => .inl o⟩
  · cases hE
theorem oks_for {k : Itk} {tg : Tg} {tgx iter : Expr} {body : List Stmt} (hx : X.xe = fun _ _ => False) (hc : X.calm = true) (hi : PI X tgx iter (rI X.K k (evB gl cl Es))) (hg : PG X tgx (gTg X.K tg)) (hb : PSs X body (rS X.K (evS gl cl fu S)))
    (hs : ∀ x, foldedSetIterable iter X.env x = pure x) : PS X (.For tgx iter body [] pos) (rS X.K (evS gl cl fu (.for_ k Es tg S))) := by
  refine PS.imp (ps_for (by rw [hx]; exact PassesOwn.never) hc hi hg hb hs) fun D σ H ⟨ρ, e, ah, f, e', ah', hS, hH, hE, q⟩ => ?_
  simp only [evS] at hE
  split at hE; · cases hE
  rename_i vs h1 e1
  split at hE; · cases hE
  rename_i s e2
  split at hE; · cases hE
  rename_i xs e3
  split at hE; · cases hE
  rename_i hnb
  have hnb' : anyBw vs = false := by simpa using hnb
  refine ⟨ρ, e, ah, vs, h1, s, hS, hH, e1, e2, fun ρ1 H1 J Z x1 r1 g1 hZ => ?_⟩
  have zz : ∀ a, Own e σ a → ¬ Z a := fun a o z => by
    obtain ⟨_, _, u, hu⟩ := o.some_ hS
    rw [hZ hnb' a z] at hu; cases hu
  refine ⟨fun i m σ3 H3 => ∃ ρ3 e3 ah3, ExtO (Own e σ) ρ1 H1 ρ3 H3 ∧ (∀ a, Own e3 σ3 a → Own e σ a ∨ H1 a = none) ∧ RepH X.K ρ3 ah3 H3 ∧ RepS X.K ρ3 H3 e3 σ3 ∧ forLoop s tg (evS gl cl fu S) m i e3 ah3 = some (f, e', ah'), ⟨xs.length, ρ1, e, h1, ExtO.refl _ _ _, fun _ o => .inl o, r1, hS.mono x1, hE⟩, ?_⟩
  intro i m σ3 H3 ⟨ρ3, e3, ah3, x3, o3, r3, s3, hL⟩
  have o3' : ∀ a, Own e3 σ3 a → Own e σ a ∨ H a = none := fun a o => (o3 a o).imp id (x1.kp a)
  have fin : ∀ zs, s.get ah3 = some zs → zs.length ≤ i → (Fl.nx, e3, ah3) = (f, e', ah') → J.stop i H3 ∧ D.nx σ3 H3 := fun zs g l e => by
    cases e
    exact ⟨g1.stop _ ρ3 H3 _ zs zz x3 r3 g i l, q ρ3 H3 σ3 (x1.to.trans x3 fun _ o => .inl o) r3 s3 o3'⟩
  cases m with
  | zero =>
    simp only [forLoop] at hL
    split at hL
    · rename_i zs g
      split at hL
      · rename_i l
        exact .inl (fin zs g l (Option.some.inj hL))
      · cases hL
    · cases hL
  | succ m =>
    simp only [forLoop] at hL
    split at hL; · cases hL
    rename_i zs g
    split at hL
    · rename_i hn
      exact .inl (fin zs g (List.getElem?_eq_none_iff.mp hn) (Option.some.inj hL))
    · rename_i x hx'
      split at hL; · cases hL
      rename_i ee1 ea
      have hlt : i < zs.length := (List.getElem?_eq_some_iff.mp hx').1
      refine .inr ⟨g1.go _ ρ3 H3 ah3 zs zz x3 r3 g i hlt, _, fun σ' H' hN => ⟨m, Nat.lt_succ_self m, hN⟩, fun x0 H' hy => ?_⟩
      obtain ⟨y1, y2, y3⟩ := g1.yld _ ρ3 H3 ah3 zs zz x3 r3 g i x0 H' x hx' hy
      refine asg_ok (s3.mono y1) y3 ea fun σ2 hS4 _ oo => ?_
      have x3' := x3.trans0 y1
      have o4 : ∀ a, Own ee1 σ2 a → Own e σ a ∨ H1 a = none := fun a o => o3 a (oo a o)
      have xx : ∀ {ρ4 H4}, ExtO (Own ee1 σ2) ρ3 H' ρ4 H4 → ExtO (Own e σ) ρ1 H1 ρ4 H4 := fun x4 => x3'.trans x4 o4
      have ob : ∀ {a : Addr}, Own ee1 σ2 a ∨ H' a = none → Own e σ a ∨ H1 a = none := fun o => orTr x3' o4 o
      split at hL
      · cases hL
      · rename_i ee2 h5 eb
        exact ⟨ρ3, ee1, ah3, .nx, ee2, h5, hS4, y2, eb, fun ρ4 H4 σ4 x4 r4 s4 q4 => ⟨ρ4, ee2, h5, xx x4, fun a o => ob (q4 a o), r4, s4, hL⟩⟩
      · rename_i ee2 h5 eb
        exact ⟨ρ3, ee1, ah3, .ct, ee2, h5, hS4, y2, eb, fun ρ4 H4 σ4 x4 r4 s4 q4 => ⟨ρ4, ee2, h5, xx x4, fun a o => ob (q4 a o), r4, s4, hL⟩⟩
      · rename_i ee2 h5 eb
        cases hL
        exact ⟨ρ3, ee1, ah3, .bk, _, _, hS4, y2, eb, fun ρ4 H4 σ4 x4 r4 s4 q4 => q ρ4 H4 σ4 (x1.to.trans (xx x4) fun _ o => .inl o) r4 s4 fun a o => (ob (q4 a o)).imp id (x1.kp a)⟩
      · rename_i w ee2 h5 eb
        cases hL
        exact ⟨ρ3, ee1, ah3, .rt w, _, _, hS4, y2, eb, fun ρ4 H4 z4 x4 r4 v4 q4 => q ρ4 H4 z4 (x1.to.trans (xx x4) fun _ o => .inl o) r4 v4 fun o => let ⟨a, ea, h⟩ := q4 o; ⟨a, ea, (ob h).imp id (x1.kp a)⟩⟩
theorem oks_whl {body : List Stmt} (hx : X.xe = fun _ _ => False) (hc : PT X c (rT X.K (evT gl cl C))) (hb : PSs X body (rS X.K (evS gl cl fu S))) : PS X (.While c body [] pos) (rS X.K (evS gl cl fu (.whl C S))) := by
  refine PS.imp (ps_while (by rw [hx]; exact PassesOwn.never) hc hb) fun D σ H ⟨ρ, e, ah, f, e', ah', hS, hH, hE, q⟩ => ?_
  simp only [evS] at hE
  refine ⟨fun m σ3 H3 => ∃ ρ3 e3 ah3, ExtO (Own e σ) ρ H ρ3 H3 ∧ (∀ a, Own e3 σ3 a → Own e σ a ∨ H a = none) ∧ RepH X.K ρ3 ah3 H3 ∧ RepS X.K ρ3 H3 e3 σ3 ∧ whlLoop (evT gl cl C) (evS gl cl fu S) m e3 ah3 = some (f, e', ah'), ⟨fu, ρ, e, ah, ExtO.refl _ _ _, fun _ o => .inl o, hH, hS, hE⟩, ?_⟩
  intro m σ3 H3 ⟨ρ3, e3, ah3, x3, o3, r3, s3, hL⟩
  cases m with
  | zero => simp [whlLoop] at hL
  | succ m =>
    simp only [whlLoop] at hL
    split at hL
    · cases hL
    · rename_i h4 e4
      cases hL
      refine ⟨ρ3, _, ah3, false, _, s3, r3, e4, fun ρ4 H4 x4 r4 => ?_⟩
      dsimp only
      rw [if_neg (by simp)]
      exact q ρ4 H4 σ3 (x3.trans0 x4) r4 (s3.mono x4) o3
    · rename_i h4 e4
      refine ⟨ρ3, e3, ah3, true, h4, s3, r3, e4, fun ρ4 H4 x4 r4 => ?_⟩
      dsimp only
      rw [if_pos rfl]
      refine ⟨_, fun σ' H' hN => ⟨m, Nat.lt_succ_self m, hN⟩, ?_⟩
      have x3' := x3.trans0 x4
      have xx : ∀ {ρ5 H5}, ExtO (Own e3 σ3) ρ4 H4 ρ5 H5 → ExtO (Own e σ) ρ H ρ5 H5 := fun x5 => x3'.trans x5 o3
      have ob : ∀ {a : Addr}, Own e3 σ3 a ∨ H4 a = none → Own e σ a ∨ H a = none := fun o => orTr x3' o3 o
      split at hL
      · cases hL
      · rename_i ee2 h5 eb
        exact ⟨ρ4, e3, h4, .nx, ee2, h5, s3.mono x4, r4, eb, fun ρ5 H5 σ5 x5 r5 s5 q5 => ⟨ρ5, ee2, h5, xx x5, fun a o => ob (q5 a o), r5, s5, hL⟩⟩
      · rename_i ee2 h5 eb
        exact ⟨ρ4, e3, h4, .ct, ee2, h5, s3.mono x4, r4, eb, fun ρ5 H5 σ5 x5 r5 s5 q5 => ⟨ρ5, ee2, h5, xx x5, fun a o => ob (q5 a o), r5, s5, hL⟩⟩
      · rename_i ee2 h5 eb
        cases hL
        exact ⟨ρ4, e3, h4, .bk, _, _, s3.mono x4, r4, eb, fun ρ5 H5 σ5 x5 r5 s5 q5 => q ρ5 H5 σ5 (xx x5) r5 s5 fun a o => ob (q5 a o)⟩
      · rename_i w ee2 h5 eb
        cases hL
        exact ⟨ρ4, e3, h4, .rt w, _, _, s3.mono x4, r4, eb, fun ρ5 H5 z5 x5 r5 v5 q5 => q ρ5 H5 z5 (xx x5) r5 v5 fun o => let ⟨a, ea, h⟩ := q5 o; ⟨a, ea, ob h⟩⟩
theorem oks_ret (ha : PE X a (rE X.K (evE gl cl A))) : PS X (.Return (some a) pos) (rS X.K (evS gl cl fu (.ret A))) := by
  refine PS.imp (ps_ret ha) fun D σ H ⟨ρ, e, ah, f, e', ah', hS, hH, hE, q⟩ => ?_
  simp only [evS] at hE
  split at hE
  · rename_i v h1 e1
    split at hE; · cases hE
    cases hE
    exact ⟨ρ, e, ah, v, ah', hS, hH, e1, fun ρ1 H1 z1 x1 r1 v1 f1 => q ρ1 H1 z1 x1.to r1 v1 fun o => let ⟨a, ea, n⟩ := f1 o; ⟨a, ea, .inr n⟩⟩
  · cases hE
theorem oks_retN : PS X (.Return none pos) (rS X.K (evS gl cl fu .retN)) :=
  PS.imp ps_retN fun D σ H ⟨ρ, e, ah, f, e', ah', hS, hH, hE, q⟩ => by
    simp only [evS] at hE; cases hE
    exact q ρ H .non (ExtO.refl _ _ _) hH (by simp only [RepR, RepV]) fun o => by cases o
theorem oks_expr (ha : PE X a (rE X.K (evE gl cl A))) (hs : swapsWith a none pos.line X.env = pure false) : PS X (.Expr a pos) (rS X.K (evS gl cl fu (.expr A))) := by
  refine PS.imp (ps_expr ha hs) fun D σ H ⟨ρ, e, ah, f, e', ah', hS, hH, hE, q⟩ => ?_
  simp only [evS] at hE
  split at hE
  · rename_i v h1 e1
    cases hE
    exact ⟨ρ, e, ah, v, ah', hS, hH, e1, fun ρ1 H1 z1 x1 r1 v1 f1 => q ρ1 H1 σ x1.to r1 (hS.mono x1) fun a o => .inl o⟩
  · cases hE
theorem oks_pass : PS X (.Pass pos) (rS X.K (evS gl cl fu .pass)) :=
  PS.imp ps_pass fun D σ H ⟨ρ, e, ah, f, e', ah', hS, hH, hE, q⟩ => by
    simp only [evS] at hE; cases hE
    exact q ρ H σ (ExtO.refl _ _ _) hH hS fun _ o => .inl o
theorem oks_brk : PS X (.Break pos) (rS X.K (evS gl cl fu .brk)) :=
  PS.imp ps_break fun D σ H ⟨ρ, e, ah, f, e', ah', hS, hH, hE, q⟩ => by
    simp only [evS] at hE; cases hE
    exact q ρ H σ (ExtO.refl _ _ _) hH hS fun _ o => .inl o
theorem oks_fail : PS X st (rS X.K (evS gl cl fu .fail)) :=
  ⟨fun pins s σ H D I ⟨ρ, e, ah, f, e', ah', hS, hH, hE, q⟩ => by simp [evS] at hE⟩
end
end FK

/-! ### statements of names that own what they hold -/
namespace FK
open PySem PySem.Spec PyProof.Rows L2
section
variable {X : Cx} {K : PySem.W.Frag} {ρ ρ' : Mp} {H H' : Hp} {ah ah' : AH} {v : Vl} {z : V} {O O' : Addr → Prop}
variable {gl : List (Str × Vl)} {cl : Nat → List Vl → AH → Option (Vl × AH)} {a b c : Expr} {A B C : Ex} {pos : Pos} {es : List Expr} {Es : Ex}
variable {fu : Nat} {st : Stmt} {rest : List Stmt} {S R : Sx}
theorem oks_retO {i : Nat} (ha : PE X a (tVar i)) : PS X (.Return (some a) pos) (rS X.K (evS gl cl fu (.retO i))) := by
  refine PS.imp (ps_ret ha) fun D σ H ⟨ρ, e, ah, f, e', ah', hS, hH, hE, q⟩ => ?_
  simp only [evS] at hE
  split at hE
  · rename_i v ev
    split at hE
    · rename_i ho
      cases hE
      obtain ⟨x, h1, h2⟩ := hS.at_ i v ev
      refine ⟨x, h1, q ρ H x (ExtO.refl _ _ _) hH h2 fun _ => ?_⟩
      obtain ⟨p, u, rfl, _⟩ := owned_ref h2 ho
      exact ⟨p, rfl, .inl ⟨i, v, ev, ho, h1⟩⟩
    · cases hE
  · cases hE
/-- what is in a list that a name owns is replaced -/
theorem own_wr {e : AE} {σ : St} {i : Nat} {xs ys : List Vl} {p : Addr} {vs us : List V} (hS : RepS K ρ H e σ) (hH : RepH K ρ ah H) (he : e[i]? = some (some (.fl xs))) (hs : σ[i]? = some (some (.ref p))) (hp : H p = some (.lst vs)) (r : RepVs K ρ H ys us) :
    ExtO (Own e σ) ρ H ρ (upd H p (.lst us)) ∧ RepH K ρ ah (upd H p (.lst us)) ∧ RepS K ρ (upd H p (.lst us)) (e.set i (some (.fl ys))) σ ∧ ∀ a, Own (e.set i (some (.fl ys))) σ a → Own e σ a := by
  obtain ⟨x, h1, h2⟩ := hS.at_ i _ he
  rw [hs] at h1; cases h1
  obtain ⟨p', vs', ep, n, m, s, rv⟩ := h2.fl_
  cases ep
  have oo : Own e σ p := ⟨i, _, he, rfl, hs⟩
  obtain ⟨g1, g2⟩ := hH.wrOwn (ho := .lst us) n m (fun vs q => by rw [s] at q; cases q) (fun o u q => by rw [s] at q; cases q) oo
  have l3 := g2.l3
  refine ⟨g2, g1, ⟨by simp [hS.len], fun j w q => ?_, fun j k w w' x q1 q2 o1 o2 s1 s2 => ?_, fun j w q => ?_⟩, fun a o => ?_⟩
  rotate_left 2
  · rcases set_at q with ⟨rfl, q, _⟩ | ⟨hj, q⟩
    · cases q; rfl
    · exact hS.nb j w q
  rotate_left 1
  · rcases set_at q with ⟨rfl, q, _⟩ | ⟨hj, q⟩
    · cases q
      exact ⟨_, hs, p, us, rfl, n, m, upd_same, r.mono3 l3⟩
    · obtain ⟨y, k1, k2⟩ := hS.at_ j w q
      refine ⟨y, k1, ?_⟩
      by_cases hn : NotFl w = true
      · exact ((k2.v hn).mono3 l3).r
      · -- a thing without a number, not at p
        cases w with
        | fl ws =>
          obtain ⟨b, bs, rfl, b1, b2, b3, b4⟩ := k2.fl_
          have hne : b ≠ p := fun z => by subst z; exact hj (hS.nd i j _ _ _ he q rfl rfl hs k1)
          exact ⟨b, bs, rfl, b1, b2, by rw [upd_ne hne]; exact b3, b4.mono3 l3⟩
        | fd ks ws =>
          obtain ⟨b, bs, o, rfl, b1, b2, b3, b5, b4⟩ := k2
          have hne : b ≠ p := fun z => by subst z; exact hj (hS.nd i j _ _ _ he q rfl rfl hs k1)
          exact ⟨b, bs, o, rfl, b1, b2, by rw [upd_ne hne]; exact b3, b5, b4.mono3 l3⟩
        | bw ws => have := hS.nb j _ q; cases this
        | bd ks ws => have := hS.nb j _ q; cases this
        | _ => exact absurd rfl hn
  · rcases set_at q1 with ⟨rfl, q1, _⟩ | ⟨n1, q1⟩ <;> rcases set_at q2 with ⟨rfl, q2, _⟩ | ⟨n2, q2⟩
    · rfl
    · cases q1; exact hS.nd _ _ _ _ _ he q2 rfl o2 s1 s2
    · cases q2; exact hS.nd _ _ _ _ _ q1 he o1 rfl s1 s2
    · exact hS.nd _ _ _ _ _ q1 q2 o1 o2 s1 s2
  · obtain ⟨j, w, e1, e2, e3⟩ := o
    rcases set_at e1 with ⟨rfl, q, _⟩ | ⟨_, q⟩
    · exact ⟨i, _, he, rfl, e3⟩
    · exact ⟨j, w, q, e2, e3⟩
/-- x.append(e) -/
theorem oks_appO {i : Nat} {x name : Str} {px apos cpos : Pos} (hn : name = "append") (hv : PE X (.Name x px) (tVar i)) (ha : PA X [a] (rA X.K (evA gl cl (.cons A .nil)))) (hst : starEach [a] X.env = [(false, eval a X.env)]) (hline : (apos.endLine == cpos.line) = true) :
    PS X (.Expr (.Call (.Attribute (.Name x px) name apos) [a] [] cpos) pos) (rS X.K (evS gl cl fu (.appO i A))) := by
  subst hn
  refine PS.imp (ps_expr (pe_bm PySem.F.plainAttrs_list PySem.F.slot_list_append PySem.F.type_list_append mt_append hv ha rfl ?_ hline hst rfl) rfl) fun D σ H ⟨ρ, e, ah, f, e', ah', hS, hH, hE, q⟩ => ?_
  · simp only [hst, List.map, backTo, backToKw, keywordEach]; rfl
  simp only [evS] at hE
  split at hE
  · rename_i xs he
    split at hE; · cases hE
    rename_i w h1 e1
    split at hE; · cases hE
    rename_i w' ew
    split at hE
    · rename_i hl
      cases hE
      obtain ⟨y, y1, y2⟩ := hS.at_ i _ he
      obtain ⟨p, vs, rfl, n, m, s, rv⟩ := y2.fl_
      refine ⟨_, y1, .inl ⟨rfl, vs, .of s⟩, ρ, e, ah, [w'], ah', hS, hH, by simp only [evA, e1, ew], fun ρ1 H1 zs x1 r1 v1 => ?_⟩
      obtain ⟨zz, rfl, hz⟩ := v1.one_
      have s1 := x1.fr0 n s
      obtain ⟨g1, g2, g3, g4⟩ := own_wr (hS.mono x1) r1 he y1 s1 ((rv.mono x1).append (.one hz))
      exact ⟨p, vs, zz, rfl, rfl, s1, by rw [rv.length]; exact hl, q ρ1 _ σ (x1.to.trans g1 fun _ o => .inl o) g2 g3 fun a o => .inl (g4 a o)⟩
    · cases hE
  · cases hE
/-- x.extend(e) -/
theorem oks_extO {i : Nat} {x name : Str} {px apos cpos : Pos} (hn : name = "extend") (hv : PE X (.Name x px) (tVar i)) (ha : PA X [a] (rB X.K (evB gl cl (.cons A .nil)))) (hst : starEach [a] X.env = [(false, eval a X.env)]) (hline : (apos.endLine == cpos.line) = true) :
    PS X (.Expr (.Call (.Attribute (.Name x px) name apos) [a] [] cpos) pos) (rS X.K (evS gl cl fu (.extO i A))) := by
  subst hn
  refine PS.imp (ps_expr (pe_bm PySem.F.plainAttrs_list PySem.F.slot_list_extend PySem.F.type_list_extend mt_extend hv ha rfl ?_ hline hst rfl) rfl) fun D σ H ⟨ρ, e, ah, f, e', ah', hS, hH, hE, q⟩ => ?_
  · simp only [hst, List.map, backTo, backToKw, keywordEach]; rfl
  simp only [evS] at hE
  split at hE
  · rename_i xs he
    split at hE; · cases hE
    rename_i w h1 e1
    split at hE; · cases hE
    rename_i ys ew
    split at hE
    · rename_i hl
      cases hE
      obtain ⟨y, y1, y2⟩ := hS.at_ i _ he
      obtain ⟨p, vs, rfl, n, m, s, rv⟩ := y2.fl_
      refine ⟨_, y1, .inl ⟨rfl, vs, .of s⟩, ρ, e, ah, [w], ah', hS, hH, by simp only [evB, e1], fun ρ1 H1 zs x1 r1 v1 _ => ?_⟩
      obtain ⟨zz, rfl, hz⟩ := v1.one
      obtain ⟨b, us, rfl, hb, ru⟩ := lstW_ok r1 hz ew
      have s1 := x1.fr0 n s
      obtain ⟨g1, g2, g3, g4⟩ := own_wr (hS.mono x1) r1 he y1 s1 ((rv.mono x1).append ru)
      exact ⟨p, b, vs, us, rfl, rfl, s1, hb, by rw [rv.length, ru.length]; exact hl, q ρ1 _ σ (x1.to.trans g1 fun _ o => .inl o) g2 g3 fun a o => .inl (g4 a o)⟩
    · cases hE
  · cases hE
/-- x.reverse() -/
theorem oks_revO {i : Nat} {x name : Str} {px apos cpos : Pos} (hn : name = "reverse") (hv : PE X (.Name x px) (tVar i)) (hline : (apos.endLine == cpos.line) = true) :
    PS X (.Expr (.Call (.Attribute (.Name x px) name apos) [] [] cpos) pos) (rS X.K (evS gl cl fu (.revO i))) := by
  subst hn
  refine PS.imp (ps_expr (pe_bm0 PySem.F.plainAttrs_list PySem.F.slot_list_reverse PySem.F.type_list_reverse mt_reverse hv rfl hline) rfl) fun D σ H ⟨ρ, e, ah, f, e', ah', hS, hH, hE, q⟩ => ?_
  simp only [evS] at hE
  split at hE
  · rename_i xs he
    cases hE
    obtain ⟨y, y1, y2⟩ := hS.at_ i _ he
    obtain ⟨p, vs, rfl, n, m, s, rv⟩ := y2.fl_
    obtain ⟨g1, g2, g3, g4⟩ := own_wr hS hH he y1 s rv.rev
    exact ⟨_, y1, .inl ⟨rfl, vs, .of s⟩, p, vs, rfl, rfl, s, q ρ _ σ g1 g2 g3 fun a o => .inl (g4 a o)⟩
  · cases hE
/-- x[i] = e -/
theorem oks_putO {i : Nat} {o j : Expr} {J : Ex} {p2 : Pos} (ho : PE X o (tVar i)) (hi : PE X j (rE X.K (evE gl cl J))) (ha : PE X a (rE X.K (evE gl cl A)))
    (hsub : ∀ (v : Value), assign (o.Subscript j p2) X.env v = do
                let ov ← holding [v] (eval o X.env)
                let iv ← holding [v, ov] (eval j X.env)
                standAt p2
                holding [v, ov, iv] (setItem ov iv v)
                release [v, ov, iv] [])
    (h1 : swapsWithSole [o.Subscript j p2] a pos.line X.env = pure false) (h2 : swappedStores [o.Subscript j p2] a X.env = pure none) (h3 : List.map (fun x => x.snd) (assignEach [o.Subscript j p2] X.env) = [assign (o.Subscript j p2) X.env]) :
    PS X (.Assign [.Subscript o j p2] a pos) (rS X.K (evS gl cl fu (.putO i J A))) := by
  refine PS.imp (ps_asg ha (pg_sub ho hi set_list hsub) h1 h2 h3) fun D σ H ⟨ρ, e, ah, f, e', ah', hS, hH, hE, q⟩ => ?_
  simp only [evS] at hE
  split at hE; · cases hE
  rename_i v g1 e1
  split at hE; · cases hE
  rename_i w ew
  split at hE
  rotate_left
  · cases hE
  rename_i xs he
  split at hE
  rotate_left
  · cases hE
  rename_i n h2 e3
  split at hE
  rotate_left
  · cases hE
  rename_i k ek
  cases hE
  refine ⟨ρ, e, ah, v, g1, hS, hH, e1, fun ρ1 H1 z1 x1 r1 v1 f1 => ?_⟩
  obtain ⟨ρ2, x2, r2, v2⟩ := frz_ok x1 r1 v1 f1 ew
  obtain ⟨y, y1, y2⟩ := hS.at_ i _ he
  obtain ⟨p, vs, rfl, nn, m, s, rv⟩ := y2.fl_
  refine ⟨_, y1, ρ2, e, g1, .int n, _, hS.mono x2, r2, e3, fun ρ3 H3 z3 x3 r3 v3 f3 => ?_⟩
  obtain rfl := v3.int_
  have x4 := x2.trans x3
  have s1 := x4.fr0 nn s
  obtain ⟨g1, g2, g3, g4⟩ := own_wr (hS.mono x4) r3 he y1 s1 ((rv.mono x4).set k (v2.mono x3))
  exact ⟨p, vs, n, k, rfl, rfl, s1, by rw [rv.length]; exact ek, q ρ3 _ σ (x4.to.trans g1 fun _ o => .inl o) g2 g3 fun a o => .inl (g4 a o)⟩
theorem Own.wipe {e : AE} {σ : St} {a : Addr} : ∀ {is : List Nat}, Own (wipeE e is) σ a → Own e σ a
  | [], h => h
  | i :: is, h => Own.wipe (is := is) h.drop
theorem RepS.wipe {e : AE} {σ : St} (h : RepS K ρ H e σ) : ∀ {is : List Nat}, RepS K ρ H (wipeE e is) σ
  | [] => h
  | i :: is => (h.wipe (is := is)).drop i
theorem oks_wipe {is : List Nat} (h : PS X st (rS X.K (evS gl cl fu S))) : PS X st (rS X.K (evS gl cl fu (.wipe is S))) := by
  refine PS.imp h fun D σ H ⟨ρ, e, ah, f, e', ah', hS, hH, hE, q⟩ => ?_
  simp only [evS] at hE
  split at hE
  · rename_i f1 e1 h1 eq
    cases hE
    refine ⟨ρ, e, ah, f, e1, ah', hS, hH, eq, ?_⟩
    cases f with
    | nx => exact fun ρ2 H2 σ2 x2 r2 s2 o2 => q ρ2 H2 σ2 x2 r2 s2.wipe fun a h => o2 a h.wipe
    | rt v => exact q
    | bk => exact fun ρ2 H2 σ2 x2 r2 s2 o2 => q ρ2 H2 σ2 x2 r2 s2.wipe fun a h => o2 a h.wipe
    | ct => exact fun ρ2 H2 σ2 x2 r2 s2 o2 => q ρ2 H2 σ2 x2 r2 s2.wipe fun a h => o2 a h.wipe
  · cases hE
/-- a name's thing is written no more -/
theorem oks_frz {sts : List Stmt} {i : Nat} (h : PSs X sts (rS X.K (evS gl cl fu R))) : PSs X sts (rS X.K (evS gl cl fu (.seq (.frz i) R))) := by
  refine PSs.imp h fun D σ H ⟨ρ, e, ah, f, e', ah', hS, hH, hE, q⟩ => ?_
  simp only [evS] at hE
  split at hE
  · rename_i e1 h1 eq
    split at eq
    · rename_i v he
      split at eq
      · rename_i w ew
        cases eq
        obtain ⟨y, y1, y2⟩ := hS.at_ i v he
        by_cases ho : v.owned = true
        · obtain ⟨p, u, rfl, n, m, s⟩ := owned_ref y2 ho
          have oo : Own e σ p := ⟨i, v, he, ho, y1⟩
          have l3 : Lean3 ρ H (ρ.frz p) H := l3_frz
          have rw' : RepV X.K (ρ.frz p) H w (.ref p) := by
            cases v <;> first | (cases ho; done) | skip
            · cases ew
              obtain ⟨b, vs, eb, _, _, b3, b4⟩ := y2.fl_
              cases eb
              simp only [RepV]
              exact ⟨p, vs, rfl, .inr rfl, b3, b4.mono3 l3⟩
            · cases ew
              obtain ⟨b, vs, o, eb, _, _, b3, b5, b4⟩ := y2
              cases eb
              simp only [RepV]
              exact ⟨p, vs, o, rfl, .inr rfl, b3, b5, b4.mono3 l3⟩
          have back : ∀ a, Own (e.set i (some w)) σ a → Own e σ a := fun a o => by
            obtain ⟨j, u, e1, e2, e3⟩ := o
            rcases set_at e1 with ⟨rfl, q, _⟩ | ⟨_, q⟩
            · cases q
              rw [nf_own rw'.nf] at e2; cases e2
            · exact ⟨j, u, q, e2, e3⟩
          refine ⟨ρ.frz p, _, _, f, e', ah', ⟨by simp [hS.len], fun j u q => ?_, fun j k u u' x q1 q2 o1 o2 s1 s2 => ?_, fun j u q => ?_⟩, hH.frz n s, hE, q.back ((ExtO.refl _ _ _).frz (.inr oo)) fun a o => .inl (back a o)⟩
          · rcases set_at q with ⟨rfl, q, _⟩ | ⟨hj, q⟩
            · cases q; exact ⟨_, y1, rw'.r⟩
            · obtain ⟨x, k1, k2⟩ := hS.at_ j u q
              refine ⟨x, k1, ?_⟩
              by_cases hn : NotFl u = true
              · exact ((k2.v hn).mono3 l3).r
              · have hne : u.owned = true → x ≠ .ref p := fun ow e => by subst e; exact hj (hS.nd i j _ _ _ he q ho ow y1 k1)
                cases u with
                | fl ws =>
                  obtain ⟨b, bs, rfl, b1, b2, b3, b4⟩ := k2.fl_
                  exact ⟨b, bs, rfl, b1, fun z => z.elim b2 fun z => hne rfl (by rw [z]), b3, b4.mono3 l3⟩
                | fd ks ws =>
                  obtain ⟨b, bs, o, rfl, b1, b2, b3, b5, b4⟩ := k2
                  exact ⟨b, bs, o, rfl, b1, fun z => z.elim b2 fun z => hne rfl (by rw [z]), b3, b5, b4.mono3 l3⟩
                | bw ws => have := hS.nb j _ q; cases this
                | bd ks ws => have := hS.nb j _ q; cases this
                | _ => exact absurd rfl hn
          · rcases set_at q1 with ⟨rfl, q1, _⟩ | ⟨n1, q1⟩
            · cases q1; rw [nf_own rw'.nf] at o1; cases o1
            · rcases set_at q2 with ⟨rfl, q2, _⟩ | ⟨n2, q2⟩
              · cases q2; rw [nf_own rw'.nf] at o2; cases o2
              · exact hS.nd _ _ _ _ _ q1 q2 o1 o2 s1 s2
          · rcases set_at q with ⟨rfl, q, _⟩ | ⟨hj, q⟩
            · cases q; exact nf_nb rw'.nf
            · exact hS.nb j u q
        · have hw : w = v := by
            cases v <;> first | (exact absurd rfl ho) | (cases ew; rfl) | cases ew
          subst hw
          have ee : e.set i (some w) = e := by
            apply List.ext_getElem?
            intro j
            rw [List.getElem?_set]
            split
            · rename_i hj
              subst hj
              rw [he]
              have : i < e.length := (List.getElem?_eq_some_iff.mp he).1
              simp [this]
            · rfl
          rw [ee] at hE
          exact ⟨ρ, e, _, f, e', ah', hS, hH, hE, q⟩
      · cases eq
    · cases eq
  · rename_i o hn
    exfalso
    split at hE
    · rename_i v he
      split at hE
      · rename_i w ew
        exact hn (e.set i (some w)) ah (by simp only [he, ew])
      · cases hE
    · cases hE
/-- names at once -/
def gPar : List (Nat × Bool) → List V → St → St
  | (i, _) :: ms, z :: zs, σ => gPar ms zs (σ.set i (some z))
  | _, _, σ => σ
theorem parV_ok {O : Addr → Prop} {H0 : Hp} (hO : ∀ a, O a → H0 a ≠ none) : ∀ {ms : List (Nat × Bool)} {vs : List Vl} {zs : List V} {e e1 : AE} {σ : St} {ρ : Mp}, RepS K ρ H e σ → RepH K ρ ah H → RepRs K ρ H vs zs → Frs H0 vs zs → (∀ a, Own e σ a → O a ∨ (H0 a = none ∧ ∀ v, (v, V.ref a) ∈ vs.zip zs → v.owned = false)) → parV ms vs e = some e1 →
    ∃ ρ', ExtO (fun a => H0 a = none) ρ H ρ' H ∧ RepH K ρ' ah H ∧ RepS K ρ' H e1 (gPar ms zs σ) ∧ (∀ a, Own e1 (gPar ms zs σ) a → O a ∨ H0 a = none) ∧ zs.length = ms.length
  | [], [], zs, e, e1, σ, ρ, hS, hH, hv, fr, ho, h => by
    cases h
    obtain rfl : zs = [] := hv
    exact ⟨ρ, ExtO.refl _ _ _, hH, hS, fun a o => (ho a o).imp id (·.1), rfl⟩
  | [], _ :: _, _, _, _, _, _, _, _, _, _, _, h => by simp [parV] at h
  | (_, true) :: _, [], _, _, _, _, _, _, _, _, _, _, h => by simp [parV] at h
  | (_, false) :: _, [], _, _, _, _, _, _, _, _, _, _, h => by simp [parV] at h
  | (i, true) :: ms, v :: vs, zs, e, e1, σ, ρ, hS, hH, hv, fr, ho, h => by
    obtain ⟨z, r, rfl, h1, h2⟩ := hv
    obtain ⟨f1, f2, f3⟩ := fr
    simp only [parV] at h
    split at h
    · rename_i hw
      obtain ⟨p, rfl, np⟩ := f1 hw
      have hS' : RepS K ρ H (e.set i (some v)) (σ.set i (some (.ref p))) := hS.setR i h1 (own_nb hw) fun _ j w hj ow _ hs => by
        rcases ho p ⟨j, w, hj, ow, hs⟩ with q | ⟨_, q⟩
        · exact hO p q np
        · have := q v (by simp)
          rw [hw] at this; cases this
      obtain ⟨ρ', x, r', s', o', l⟩ := parV_ok hO hS' hH h2 f2 (fun a o => by
        rcases o.set hS.len with o | ⟨_, o⟩
        · refine (ho a o).imp id fun q => ⟨q.1, fun v' hm => q.2 v' (by simp [hm])⟩
        · cases o
          refine .inr ⟨np, fun v' hm => ?_⟩
          cases hv' : v'.owned with
          | false => rfl
          | true => exact absurd rfl (f3 hw v' _ hm hv')) h
      exact ⟨ρ', x, r', s', o', by simp [l]⟩
    · cases h
  | (i, false) :: ms, v :: vs, zs, e, e1, σ, ρ, hS, hH, hv, fr, ho, h => by
    obtain ⟨z, r, rfl, h1, h2⟩ := hv
    obtain ⟨f1, f2, f3⟩ := fr
    simp only [parV] at h
    split at h
    · rename_i w ew
      -- v is written no more
      obtain ⟨ρ1, x1, r1, v1, keep⟩ : ∃ ρ1, ExtO (fun a => H0 a = none) ρ H ρ1 H ∧ RepH K ρ1 ah H ∧ RepV K ρ1 H w z ∧ ((ρ1 = ρ) ∨ (v.owned = true ∧ ∃ p, z = .ref p ∧ ρ1 = ρ.frz p)) := by
        by_cases hw : v.owned = true
        · obtain ⟨p, rfl, np⟩ := f1 hw
          obtain ⟨p', u, ep, n, m, s⟩ := owned_ref h1 hw
          cases ep
          refine ⟨ρ.frz p, (ExtO.refl _ _ _).frz (.inr np), hH.frz n s, ?_, .inr ⟨hw, p, rfl, rfl⟩⟩
          cases v <;> first | (cases hw; done) | skip
          · cases ew
            obtain ⟨b, vs, eb, _, _, b3, b4⟩ := h1.fl_
            cases eb
            simp only [RepV]
            exact ⟨p, vs, rfl, .inr rfl, b3, b4.mono3 l3_frz⟩
          · cases ew
            obtain ⟨b, vs, o, eb, _, _, b3, b5, b4⟩ := h1
            cases eb
            simp only [RepV]
            exact ⟨p, vs, o, rfl, .inr rfl, b3, b5, b4.mono3 l3_frz⟩
        · have hw' : w = v := by
            cases v <;> first | (exact absurd rfl hw) | (cases ew; rfl) | cases ew
          subst hw'
          refine ⟨ρ, ExtO.refl _ _ _, hH, h1.v ?_, .inl rfl⟩
          cases w <;> first | rfl | (exact absurd rfl hw) | cases ew
      -- what is there stays, but at z
      have mono : ∀ (u : Vl) (y : V), RepR K ρ H u y → (u.owned = true → v.owned = true → y ≠ z) → u.noBw = true → RepR K ρ1 H u y := fun u y hu hne hb => by
        rcases keep with rfl | ⟨hw, p, rfl, rfl⟩
        · exact hu
        · by_cases hn : NotFl u = true
          · exact ((hu.v hn).mono3 l3_frz).r
          · cases u with
            | fl ws =>
              obtain ⟨b, bs, rfl, b1, b2, b3, b4⟩ := hu.fl_
              exact ⟨b, bs, rfl, b1, fun z => z.elim b2 fun z => hne rfl hw (by rw [z]), b3, b4.mono3 l3_frz⟩
            | fd ks ws =>
              obtain ⟨b, bs, o, rfl, b1, b2, b3, b5, b4⟩ := hu
              exact ⟨b, bs, o, rfl, b1, fun z => z.elim b2 fun z => hne rfl hw (by rw [z]), b3, b5, b4.mono3 l3_frz⟩
            | bw ws => cases hb
            | bd ks ws => cases hb
            | _ => exact absurd rfl hn
      have hS1 : RepS K ρ1 H e σ := ⟨hS.len, fun j u q => by
        obtain ⟨y, k1, k2⟩ := hS.at_ j u q
        refine ⟨y, k1, mono u y k2 (fun ou ow e => ?_) (hS.nb j u q)⟩
        subst e
        obtain ⟨p, rfl, np⟩ := f1 ow
        rcases ho p ⟨j, u, q, ou, k1⟩ with q | ⟨_, q⟩
        · exact hO p q np
        · have := q v (by simp)
          rw [ow] at this
          exact absurd this (by decide), hS.nd, hS.nb⟩
      have h2' : RepRs K ρ1 H vs r := by
        have gen : ∀ (us : List Vl) (ys : List V), (∀ u y, (u, y) ∈ us.zip ys → (u.owned = true → v.owned = true → y ≠ z) ∧ (v.owned = true → u.noBw = true)) → RepRs K ρ H us ys → RepRs K ρ1 H us ys := by
          intro us
          induction us with
          | nil => intro ys _ h; exact h
          | cons u us ih =>
            intro ys hm h
            obtain ⟨y, ys, rfl, k1, k2⟩ := h
            refine ⟨y, ys, rfl, ?_, ih ys (fun u' y' h' => hm u' y' (by simp [h'])) k2⟩
            rcases keep with rfl | ⟨hw, p, rfl, rfl⟩
            · exact k1
            · exact mono u y k1 (hm u y (by simp)).1 ((hm u y (by simp)).2 hw)
        by_cases hw : v.owned = true
        · by_cases hb : ∀ u ∈ vs, u.noBw = true
          · exact gen vs r (fun u y hm => ⟨fun ou ow => f3 ow u y hm ou, fun _ => hb u (List.of_mem_zip hm).1⟩) h2
          · -- a look among the rest: parV fails there
            exfalso
            have : ∀ (ms : List (Nat × Bool)) (us : List Vl) (e : AE) e1, parV ms us e = some e1 → ∀ u ∈ us, u.noBw = true := by
              intro ms
              induction ms with
              | nil =>
                intro us e e1 h u hu
                cases us with
                | nil => cases hu
                | cons _ _ => simp [parV] at h
              | cons m ms ih =>
                intro us e e1 h u hu
                obtain ⟨i, b⟩ := m
                cases us with
                | nil => cases hu
                | cons x us =>
                  cases b with
                  | true =>
                    simp only [parV] at h
                    split at h
                    · rename_i ho
                      rcases List.mem_cons.mp hu with z | z
                      · subst z; exact own_nb ho
                      · exact ih _ _ _ h u z
                    · cases h
                  | false =>
                    simp only [parV] at h
                    split at h
                    · rename_i y ey
                      rcases List.mem_cons.mp hu with z | z
                      · subst z
                        cases u <;> first | rfl | (simp [frzV] at ey)
                      · exact ih _ _ _ h u z
                    · cases h
            exact hb (this ms vs _ _ h)
        · rcases keep with rfl | ⟨hw', _⟩
          · exact h2
          · exact absurd hw' hw
      have hS2 := hS1.set i v1
      obtain ⟨ρ', x, r', s', o', l⟩ := parV_ok hO hS2 r1 h2' f2 (fun a o => by
        have o := Own.setV hS1 v1.nf o
        exact (ho a o).imp id fun q => ⟨q.1, fun v' hm => q.2 v' (by simp [hm])⟩) h
      exact ⟨ρ', x1.trans x fun _ h => .inl h, r', s', o', by simp [l]⟩
    · cases h
end
end FK

/-! ### names at once -/
namespace FK
open PySem PySem.Spec PyProof.Rows L2
section
variable {X : Cx} {K : PySem.W.Frag} {ρ ρ' : Mp} {H H' : Hp} {ah ah' : AH} {v : Vl} {z : V} {O O' : Addr → Prop}
variable {gl : List (Str × Vl)} {cl : Nat → List Vl → AH → Option (Vl × AH)} {a b c : Expr} {A B C : Ex} {pos : Pos} {es : List Expr} {Es : Ex}
variable {fu : Nat} {st : Stmt} {rest : List Stmt} {S R : Sx}
/-- what stands behind the values -/
theorem par_rd {ms : List (Nat × Bool)} {D : Ends} {σ : St} (h : rS X.K (evS gl cl fu (.par ms Es)) D σ H) : rB X.K (evB gl cl Es) σ H fun zs H1 => zs.length = ms.length ∧ D.nx (gPar ms zs σ) H1 ∧ ∀ p u, H1 p = none → D.nx (gPar ms zs σ) (upd H1 p (.tup u)) := by
  obtain ⟨ρ, e, ah, f, e', ah', hS, hH, hE, q⟩ := h
  simp only [evS] at hE
  split at hE; · cases hE
  rename_i vs h1 e1
  split at hE; · cases hE
  rename_i e2 ep
  cases hE
  have hO : ∀ a, Own e σ a → H a ≠ none := fun a o => by
    obtain ⟨_, _, u, hu⟩ := o.some_ hS
    rw [hu]; simp
  refine ⟨ρ, e, ah, vs, ah', hS, hH, e1, fun ρ1 H1 zs x1 r1 v1 f1 => ?_⟩
  obtain ⟨ρ2, x2, r2, s2, o2, l⟩ := parV_ok hO (hS.mono x1) r1 v1 f1 (fun a o => .inl o) ep
  refine ⟨l, q ρ2 H1 _ (x1.to.trans x2 fun a h => .inr h) r2 s2 o2, fun p u hp => ?_⟩
  have xn := Ext.new (ρ := ρ1) (o := .tup u) hp
  obtain ⟨ρ3, x3, r3, s3, o3, _⟩ := parV_ok hO ((hS.mono x1).mono xn) (r1.new hp) (v1.mono xn) f1 (fun a o => .inl o) ep
  exact q ρ3 _ _ ((x1.trans xn).to.trans x3 fun a h => .inr h) r3 s3 o3
theorem len2 {ms : List (Nat × Bool)} {i j : Nat} {b1 b2 : Bool} {zs : List V} (h : ms = [(i, b1), (j, b2)]) (l : zs.length = ms.length) : ∃ x y, zs = [x, y] := by
  subst h
  match zs, l with
  | [x, y], _ => exact ⟨x, y, rfl⟩
theorem len3 {ms : List (Nat × Bool)} {i j k : Nat} {b1 b2 b3 : Bool} {zs : List V} (h : ms = [(i, b1), (j, b2), (k, b3)]) (l : zs.length = ms.length) : ∃ x y w, zs = [x, y, w] := by
  subst h
  match zs, l with
  | [x, y, w], _ => exact ⟨x, y, w, rfl⟩
theorem oks_par2 {i j : Nat} {b1 b2 : Bool} {x y : Str} {px py pt : Pos} {kt k2 pt2} (hc : X.calm = true) (hN : X.N.Nodup) (hi : X.N[i]? = some x) (hj : X.N[j]? = some y) (hij : i ≠ j)
    (hx : X.env.scope.names.lookup x = some .local) (hy : X.env.scope.names.lookup y = some .local) (ha : PA X [a, b] (rB X.K (evB gl cl Es)))
    (hw : swappedStores [.Tuple [.Name x px, .Name y py] kt pt] (.Tuple [a, b] k2 pt2) X.env = pure (some [x, y])) :
    PS X (.Assign [.Tuple [.Name x px, .Name y py] kt pt] (.Tuple [a, b] k2 pt2) pos) (rS X.K (evS gl cl fu (.par [(i, b1), (j, b2)] Es))) := by
  refine PS.imp (ps_par hc hN hi hj hij hx hy ha hw rfl) fun D σ H h => ?_
  obtain ⟨ρ, e, ah, vs, ah', hS, hH, hE, q⟩ := par_rd h
  refine ⟨ρ, e, ah, vs, ah', hS, hH, hE, fun ρ1 H1 zs x1 r1 v1 f1 => ?_⟩
  obtain ⟨l, q, _⟩ := q ρ1 H1 zs x1 r1 v1 f1
  obtain ⟨u, w, rfl⟩ := len2 rfl l
  exact ⟨u, w, rfl, q⟩
theorem oks_par3 {i j l : Nat} {b1 b2 b3 : Bool} {x y z : Str} {px py pz pt : Pos} {kt k2 pt2} (hc : X.calm = true) (hN : X.N.Nodup) (hi : X.N[i]? = some x) (hj : X.N[j]? = some y) (hl : X.N[l]? = some z) (hij : i ≠ j) (hil : i ≠ l) (hjl : j ≠ l)
    (hx : X.env.scope.names.lookup x = some .local) (hy : X.env.scope.names.lookup y = some .local) (hz : X.env.scope.names.lookup z = some .local) (ha : PA X [a, b, c] (rB X.K (evB gl cl Es)))
    (hw : swappedStores [.Tuple [.Name x px, .Name y py, .Name z pz] kt pt] (.Tuple [a, b, c] k2 pt2) X.env = pure (some [x, y, z])) :
    PS X (.Assign [.Tuple [.Name x px, .Name y py, .Name z pz] kt pt] (.Tuple [a, b, c] k2 pt2) pos) (rS X.K (evS gl cl fu (.par [(i, b1), (j, b2), (l, b3)] Es))) := by
  refine PS.imp (ps_par3 hc hN hi hj hl hij hil hjl hx hy hz ha hw rfl) fun D σ H h => ?_
  obtain ⟨ρ, e, ah, vs, ah', hS, hH, hE, q⟩ := par_rd h
  refine ⟨ρ, e, ah, vs, ah', hS, hH, hE, fun ρ1 H1 zs x1 r1 v1 f1 => ?_⟩
  obtain ⟨ll, q, _⟩ := q ρ1 H1 zs x1 r1 v1 f1
  obtain ⟨u, w, t, rfl⟩ := len3 rfl ll
  exact ⟨u, w, t, rfl, q⟩
theorem gNs_par : ∀ {ms : List (Nat × Bool)} {zs : List V} {σ : St} {Q : St → Hp → Prop}, zs.length = ms.length → Q (gPar ms zs σ) H → gNs (ms.map (·.1)) zs σ H Q
  | [], [], _, _, _, q => ⟨rfl, q⟩
  | (i, _) :: ms, z :: zs, σ, Q, l, q => ⟨z, zs, rfl, gNs_par (ms := ms) (by simpa using l) q⟩
  | [], _ :: _, _, _, l, _ => by simp at l
  | _ :: _, [], _, _, l, _ => by simp at l
theorem oks_parP {ms : List (Nat × Bool)} {tgx : Expr} {k2 : Nat} {pt2 : Pos} (few : ms.length ≤ 30) (ha : PA X es (rB X.K (evB gl cl Es))) (hg : PG X tgx (gTg X.K (.tup (ms.map (·.1))))) (h1 : swapsWithSole [tgx] (.Tuple es k2 pt2) pos.line X.env = pure false) (h2 : swappedStores [tgx] (.Tuple es k2 pt2) X.env = pure none)
    (h3 : List.map (fun x => x.snd) (assignEach [tgx] X.env) = [assign tgx X.env]) : PS X (.Assign [tgx] (.Tuple es k2 pt2) pos) (rS X.K (evS gl cl fu (.par ms Es))) := by
  refine PS.imp (ps_asg (pe_tup ha) hg h1 h2 h3) fun D σ H h => ?_
  obtain ⟨ρ, e, ah, vs, ah', hS, hH, hE, q⟩ := par_rd h
  refine ⟨ρ, e, ah, vs, ah', hS, hH, hE, fun ρ1 H1 zs x1 r1 v1 f1 => ?_⟩
  obtain ⟨l, _, q⟩ := q ρ1 H1 zs x1 r1 v1 f1
  refine ⟨by rw [l]; exact Nat.le_trans few (by decide), fun p np => ?_⟩
  exact ⟨p, zs, rfl, .inl (.inl upd_same), by simp [l], gNs_par l (q p zs np)⟩
end
end FK

/-! ### is a text of the small Python the one that stands in the row? -/
namespace FK
open PySem PySem.Spec PyProof.Rows L2
structure Tab where
  gl : List (Str × Vl)
  fnm : List (Nat × Str)
def BN : List Str := ["len", "abs", "isinstance", "all", "any", "tuple", "list", "str", "min", "max", "sum", "int", "range", "bool", "enumerate", "zip", "sorted", "set", "dict", "repr"]
def tyTab : List (Str × String) := [("str", "str"), ("int", "int"), ("tuple", "tuple"), ("list", "list"), ("bool", "bool"), ("dict", "dict")]
def isGl (sc : Scope) (x : Str) : Bool := decide (sc.names.lookup x = some .globalImplicit) && !(x == ("__debug__" : Str))
def isVis (sc : Scope) (x : Str) : Bool := (decide (sc.names.lookup x = some .local) || decide (sc.names.lookup x = some .cell) || decide (sc.names.lookup x = some .free)) && !(x == ("__debug__" : Str)) && !(x == ("__classdict__" : Str))
def isLoc (sc : Scope) (x : Str) : Bool := decide (sc.names.lookup x = some .local) || decide (sc.names.lookup x = some .cell)
def notStar : Expr → Bool
  | .Starred _ _ => false
  | _ => true
def notSet : Expr → Bool
  | .Set _ _ _ => false
  | _ => true
def notSlice : Expr → Bool
  | .Slice _ _ _ _ => false
  | _ => true
def notCall : Expr → Bool
  | .Call _ _ _ _ => false
  | _ => true
def plainTest : Expr → Bool
  | .Name _ _ => true
  | .Call _ _ _ _ => true
  | .Constant _ _ _ => true
  | .Subscript _ _ _ => true
  | .Attribute _ _ _ => true
  | _ => false
def cstOk : Vl → Const → Bool
  | .int i, .int j => decide (i = j)
  | .str i, .str j => decide (i = j)
  | .bl i, .bool j => i == j
  | .non, .none => true
  | _, _ => false
def chkNs (N : List Str) (sc : Scope) : List Nat → List Expr → Bool
  | [], [] => true
  | i :: is, .Name x _ :: es => decide (N[i]? = some x) && isLoc sc x && chkNs N sc is es
  | _, _ => false
def chkTg (N : List Str) (sc : Scope) : Tg → Expr → Bool
  | .name i, .Name x _ => decide (N[i]? = some x) && isLoc sc x
  | .tup is, .Tuple es _ _ => chkNs N sc is es
  | _, _ => false
def cmpB : Expr → Bool
  | .Compare _ _ _ _ => true
  | _ => false
def notComp : Expr → Bool
  | .ListComp _ _ _ _ => false
  | .SetComp _ _ _ _ => false
  | .DictComp _ _ _ _ _ => false
  | _ => true
def isTupE : Expr → Bool
  | .Tuple _ _ _ => true
  | _ => false
/-- enumerate and zip want names for both parts -/
def tgOk : Itk → Expr → Bool
  | .enum, t => isTupE t
  | .zip, t => isTupE t
  | _, _ => true
def isEmptyE : List Expr → Bool
  | [] => true
  | _ :: _ => false
def isNil : Ex → Bool
  | .nil => true
  | _ => false
def ownN (N : List Str) (own : List Nat) : List (Str × Nat) := own.map fun j => (N.getD j "", j)
section
variable (T : Tab) (N : List Str)
mutual
def chkE : Scope → Ex → Expr → Bool
  | sc, .var i, .Name x _ => decide (N[i]? = some x) && isVis sc x
  | sc, .cst v, .Constant c _ _ => cstOk v c
  | sc, .glob g, .Name x _ => decide (g = x) && (T.gl.lookup g).isSome && isGl sc x
  | sc, .bty t, .Name x _ => decide ((x, t) ∈ tyTab) && isGl sc x
  | sc, .bin op a b, .BinOp l o r _ => decide (op = o) && chkE sc a l && chkE sc b r
  | sc, .neg a, .UnaryOp o x _ => decide (o = .USub) && chkE sc a x
  | sc, .cmp op a b, .Compare l [o] [r] _ => decide (op = o) && chkE sc a l && chkE sc b r && notSet r
  | sc, .chain op op' a b c, .Compare l [o, o'] [m, r] _ => decide (op = o) && decide (op' = o') && chkE sc a l && chkE sc b m && chkE sc c r && notSet r
  | sc, .and a b, .BoolOp o (x :: y :: rest) pos => decide (o = .And) && chkE sc a x && chkE sc b (match rest with | [] => y | _ :: _ => .BoolOp .And (y :: rest) pos)
  | sc, .or a b, .BoolOp o (x :: y :: rest) pos => decide (o = .Or) && chkE sc a x && chkE sc b (match rest with | [] => y | _ :: _ => .BoolOp .Or (y :: rest) pos)
  | sc, .not a, .UnaryOp o x _ => decide (o = .Not) && chkE sc a x
  | sc, .ite c a b, .IfExp t x y _ => chkT sc c t && chkE sc a x && chkE sc b y
  | sc, .lst es, .List xs _ => chkA sc es xs
  | sc, .tup es, .Tuple xs _ _ => chkA sc es xs
  | sc, .ix a b, .Subscript x y _ => chkE sc a x && chkE sc b y && notSlice y
  | sc, .sl a lo hi, .Subscript x (.Slice l u none _) _ => chkE sc a x && chkO sc lo l && chkO sc hi u
  | sc, .lc k it tg own c e, .ListComp elt [⟨t, i, ifs, z⟩] scope _ => decide (z = 0) && chkI sc k it i && tgOk k t && notSet i && chkTg N scope tg t && (match ifs with | [] => isNil c | [x] => chkT scope c x | _ => false) && chkE scope e elt && blkC N sc scope (ownN N own) && tg.slots.all (own.contains ·)
  | sc, .call f es, .Call (.Name x _) args [] _ => decide (T.fnm.lookup f = some x) && isGl sc x && chkA sc es args
  | sc, .pcall f es, .Call (.Name x _) args [] _ => decide (T.fnm.lookup f = some x) && isGl sc x && chkA sc es args
  | sc, .new a, x => chkE sc a x && !cmpB x && notComp x
  | sc, .bi f es, .Call (.Name x _) (a :: as) [] _ => decide (x = f.name) && isGl sc x && chkA sc es (a :: as)
  | sc, .me m o es, .Call (.Attribute ob nm apos) args [] cpos => decide (nm = m.name) && chkE sc o ob && chkA sc es args && (apos.endLine == cpos.line) && notCall ob && decide (args.length < 30)
  | _, _, _ => false
def chkT : Scope → Ex → Expr → Bool
  | sc, .and a b, .BoolOp o (x :: y :: rest) pos => decide (o = .And) && chkT sc a x && (match rest with | [] => chkT sc b y | _ :: _ => chkT sc b (.BoolOp .And (y :: rest) pos))
  | sc, .or a b, .BoolOp o (x :: y :: rest) pos => decide (o = .Or) && chkT sc a x && (match rest with | [] => chkT sc b y | _ :: _ => chkT sc b (.BoolOp .Or (y :: rest) pos))
  | sc, .not a, .UnaryOp o x _ => decide (o = .Not) && chkT sc a x
  | sc, .val a, x => chkE sc a x && (plainTest x || (match x with | .Compare _ _ _ _ => true | _ => false))
  | _, _, _ => false
def chkA : Scope → Ex → List Expr → Bool
  | _, .nil, [] => true
  | sc, .cons a es, x :: xs => notStar x && chkE sc a x && chkA sc es xs
  | _, _, _ => false
def chkO : Scope → Ex → Option Expr → Bool
  | _, .nil, none => true
  | sc, .cons a _, some x => chkE sc a x
  | _, _, _ => false
def chkI : Scope → Itk → Ex → Expr → Bool
  | sc, k, .cons a es, x => match k with
    | .seq => isNil es && chkE sc a x
    | .enum => match x with
      | .Call (.Name f _) (y :: ys) [] _ => decide (f = "enumerate") && isGl sc f && notStar y && chkE sc a y && isNil es && isEmptyE ys
      | _ => false
    | .zip => match x with
      | .Call (.Name f _) (y :: ys) [] _ => decide (f = "zip") && isGl sc f && notStar y && chkE sc a y && chkA sc es ys && decide (ys.length = 1)
      | _ => false
    | .rng => match x with
      | .Call (.Name f _) (y :: ys) [] _ => decide (f = "range") && isGl sc f && notStar y && chkE sc a y && chkA sc es ys && decide (ys.length ≤ 1)
      | _ => false
  | _, _, _, _ => false
end
end
end FK

namespace FK
open PySem PySem.Spec PyProof.Rows L2
/-- the scope where one stands is the written one, up to what is a cell of the def around -/
def ScOk (s sc : Scope) : Prop := ∀ x kd, sc.names.lookup x = some kd → s.names.lookup x = some kd ∨ (kd = .free ∧ s.names.lookup x = some .cell)
structure GX (T : Tab) (cl : Nat → List Vl → AH → Option (Vl × AH)) (k : Nat) (N : List Str) (sc : Scope) (X : Cx) : Prop where
  calm : X.calm = true
  xe : X.xe = fun _ _ => False
  hN : X.N = N
  nd : N.Nodup
  kd : X.env.scope.kind = .function
  sco : ScOk X.env.scope sc
  fn : ∀ x, sc.names.lookup x = some .cell → X.fn x = true
  room : Room k X.A
  gd : X.A.guards = some []
  gl : ∀ x v, T.gl.lookup x = some v → ∃ u z, X.mg x = some u ∧ RelV z u ∧ ∀ ρ H, RepV X.K ρ H v z
  bn : ∀ x ∈ BN, X.mg x = none
  fns : ∀ (f : Nat) x, T.fnm.lookup f = some x → ∃ fa fd ps, X.mg x = some (.ref fa) ∧ PySem.W.keepIn X.K (.ref fa) = true ∧ Binds X.K fd ps [] ∧ FnG X.prog X.w X.K X.mg X.base k fa fd ps (cl f)
section
variable {T : Tab} {cl : Nat → List Vl → AH → Option (Vl × AH)} {k : Nat} {N : List Str} {sc : Scope} {X : Cx}
theorem GX.hu (G : GX T cl k N sc X) : X.A.units + 65 < cLine := by have := G.room.un; omega
theorem GX.hu2 (G : GX T cl k N sc X) : X.A.units + 68 < cLine := by have := G.room.un; omega
theorem GX.glob (G : GX T cl k N sc X) {x : Str} (h : isGl sc x = true) : Gl X x ∧ (x == ("__debug__" : Str)) = false := by
  simp only [isGl, Bool.and_eq_true, decide_eq_true_eq, Bool.not_eq_true'] at h
  refine ⟨?_, h.2⟩
  rcases G.sco x _ h.1 with e | ⟨e, _⟩
  · exact e
  · cases e
theorem GX.vis (G : GX T cl k N sc X) {x : Str} (h : isVis sc x = true) : Vis X.env.scope x ∧ (x == ("__debug__" : Str)) = false ∧ (x == ("__classdict__" : Str)) = false := by
  simp only [isVis, Bool.and_eq_true, Bool.or_eq_true, decide_eq_true_eq, Bool.not_eq_true'] at h
  refine ⟨?_, h.1.2, h.2⟩
  rcases h.1.1 with (h | h) | h
  · rcases G.sco x _ h with e | ⟨e, _⟩
    · exact .inl e
    · cases e
  · rcases G.sco x _ h with e | ⟨e, _⟩
    · exact .inr (.inl e)
    · cases e
  · rcases G.sco x _ h with e | ⟨_, e⟩
    · exact .inr (.inr e)
    · exact .inr (.inl e)
theorem GX.loc (G : GX T cl k N sc X) {x : Str} (h : isLoc sc x = true) : Loc X.env.scope x ∧ (X.fn x = true ∨ X.env.scope.names.lookup x = some .local) := by
  simp only [isLoc, Bool.or_eq_true, decide_eq_true_eq] at h
  rcases h with h | h
  · rcases G.sco x _ h with e | ⟨e, _⟩
    · exact ⟨.inl e, .inr e⟩
    · cases e
  · rcases G.sco x _ h with e | ⟨e, _⟩
    · exact ⟨.inr e, .inl (G.fn x h)⟩
    · cases e
theorem lookup_map (f : Str × NameKind → Str × NameKind) (hf : ∀ p, (f p).1 = p.1) : ∀ (l : List (Str × NameKind)) (x : Str) (kd : NameKind), l.lookup x = some kd → (l.map f).lookup x = some (f (x, kd)).2
  | [], _, _, h => by simp at h
  | (n, k') :: r, x, kd, h => by
    rw [List.lookup_cons] at h
    simp only [List.map_cons]
    have e1 : (f (n, k')) = (n, (f (n, k')).2) := Prod.ext (hf _) rfl
    rw [e1, List.lookup_cons]
    cases hx : (x == n) with
    | true =>
      simp only [hx] at h ⊢
      cases h
      have : x = n := by simpa using hx
      subst this
      rfl
    | false =>
      simp only [hx] at h ⊢
      exact lookup_map f hf r x kd h
theorem relabel_ok (scope : Scope) (env : Env) : ScOk (relabel scope env) scope := by
  intro x kd h
  have e := lookup_map (fun (n, k) => if (k == .free && env.scope.kind == .function && env.kindOf n == some .cell) then (n, .cell) else (n, k)) (fun p => by obtain ⟨n, k⟩ := p; dsimp only; split <;> rfl) scope.names x kd h
  have e' : (relabel scope env).names.lookup x = some (if (kd == .free && env.scope.kind == .function && env.kindOf x == some .cell) = true then ((x, NameKind.cell) : Str × NameKind) else (x, kd)).2 := e
  by_cases hc : (kd == .free && env.scope.kind == .function && env.kindOf x == some .cell) = true
  · rw [if_pos hc] at e'
    simp only [Bool.and_eq_true] at hc
    exact .inr ⟨by simpa using hc.1.1, e'⟩
  · rw [if_neg hc] at e'
    exact .inl e'
theorem GX.blk (G : GX T cl k N sc X) {scope : Scope} (hk : scope.kind = .function) (s : Shared) (H : Hp) (C : Addr) (cl' : List (Str × Addr)) (fp : List Addr) : GX T cl k N scope (X.blk s H scope (compEnvC scope cl' C X.env) fp) where
  calm := G.calm
  xe := rfl
  hN := G.hN
  nd := G.nd
  kd := hk
  sco := relabel_ok scope X.env
  fn := fun x h => by
    show (scope.names.lookup x == some .cell) = true
    rw [h]; rfl
  room := G.room
  gd := G.gd
  gl := G.gl
  bn := G.bn
  fns := G.fns
theorem GX.blkOk (G : GX T cl k N sc X) {scope : Scope} {own : List (Str × Nat)} (h : blkC N sc scope own = true) : BlkOk X.N X.env.scope scope own := by
  have B := blkOk_by h
  rw [G.hN]
  refine ⟨B.kind, B.uniq, B.ix, fun y hy e => ?_, B.own⟩
  rcases B.free y hy e with z | z
  · rcases G.sco _ _ z with q | ⟨q, _⟩
    · exact .inl q
    · cases q
  · rcases G.sco _ _ z with q | ⟨_, q⟩
    · exact .inr q
    · exact .inl q
theorem notSet_marks {op : CmpOp} {r : Expr} (h : notSet r = true) : behindInMarks op r = false := by
  cases r <;> first | rfl | (simp [notSet] at h)
theorem notSet_fold {r : Expr} {env : Env} (h : notSet r = true) : ∀ x, foldedSetIterable r env x = pure x := by
  intro x
  cases r <;> first | rfl | (simp [notSet] at h)
theorem notSlice_ix {r : Expr} (h : notSlice r = true) : PlainIx r := by
  intro o i
  cases r <;> first | rfl | (simp [notSlice] at h)
theorem notStar_each {x : Expr} {xs : List Expr} {env : Env} (h : notStar x = true) : starEach (x :: xs) env = (false, eval x env) :: starEach xs env := by
  cases x <;> first | rfl | (simp [notStar] at h)
theorem noStars {pos : Pos} {env : Env} : ∀ {xs : List Expr}, xs.all notStar = true → (backTo pos (starEach xs env)).any (·.1) = false
  | [], _ => rfl
  | x :: xs, h => by
    simp only [List.all_cons, Bool.and_eq_true] at h
    rw [notStar_each h.1]
    show (false || (backTo pos (starEach xs env)).any (·.1)) = false
    rw [noStars h.2]; rfl
theorem noStars2 {pos : Pos} {env : Env} : ∀ {xs : List Expr}, xs.all notStar = true → (backTo pos (starEach xs env)).all (fun x => !x.1) = true
  | [], _ => rfl
  | x :: xs, h => by
    simp only [List.all_cons, Bool.and_eq_true] at h
    rw [notStar_each h.1]
    show (!false && (backTo pos (starEach xs env)).all (fun x => !x.1)) = true
    rw [noStars2 h.2]; rfl
theorem starEach_len {env : Env} : ∀ {xs : List Expr}, (starEach xs env).length = xs.length
  | [] => rfl
  | x :: xs => by
    cases x <;> simp [starEach, starEach_len (xs := xs)]
theorem chkA_star {e : Ex} : ∀ {xs : List Expr}, chkA T N sc e xs = true → xs.all notStar = true := by
  induction e with
  | nil => intro xs h; cases xs <;> simp [chkA] at h ⊢
  | cons a es _ ih =>
    intro xs h
    cases xs with
    | nil => simp [chkA] at h
    | cons x xs =>
      simp only [chkA, Bool.and_eq_true] at h
      simp only [List.all_cons, Bool.and_eq_true]
      exact ⟨h.1.1, ih h.2⟩
  | _ => intro xs h; simp [chkA] at h
theorem plain_true {x : Expr} {env : Env} (h : plainTest x = true) : ∀ whole, isTrue x env whole = (do let v ← whole; standAt x.pos; holding [v] (truthy v)) := by
  intro w
  cases x <;> first | rfl | (simp [plainTest] at h)
theorem tyTab_ok {x : Str} {t : String} (h : (x, t) ∈ tyTab) : bootBuiltins x = some (.type t) ∧ x ∈ BN ∧ x ≠ "__name__" := by
  have all : tyTab.all (fun p => decide (bootBuiltins p.1 = some (.type p.2)) && decide (p.1 ∈ BN) && decide (p.1 ≠ "__name__")) = true := by decide +kernel
  have q := List.all_eq_true.mp all _ h
  simp only [Bool.and_eq_true, decide_eq_true_eq] at q
  exact ⟨q.1.1, q.1.2, q.2⟩
theorem Bi.ok (f : Bi) : bootBuiltins f.name = some f.val ∧ f.name ∈ BN ∧ f.name ≠ "__name__" := by
  cases f <;> exact ⟨by decide +kernel, by decide +kernel, by decide +kernel⟩
theorem chkNs_ok (G : GX T cl k N sc X) : ∀ {is : List Nat} {es : List Expr}, chkNs N sc is es = true → PGs X es (gNs is) ∧ (assignEach es X.env).length = is.length ∧ List.findIdx? (fun x => x.fst) (assignEach es X.env) = none
  | [], [], _ => ⟨pgs_nil, rfl, rfl⟩
  | i :: is, .Name x p :: es, h => by
    simp only [chkNs, Bool.and_eq_true, decide_eq_true_eq] at h
    obtain ⟨h1, h2, h3⟩ := chkNs_ok G h.2
    obtain ⟨l1, l2⟩ := G.loc h.1.2
    refine ⟨pgs_cons (pg_name (i := i) (by rw [G.hN]; exact G.nd) (by rw [G.hN]; exact h.1.1) l1 l2) h1 rfl, ?_, ?_⟩
    · show (assignEach es X.env).length + 1 = _
      rw [h2]; rfl
    · show List.findIdx? (fun x => x.fst) ((false, assign (.Name x p) X.env) :: assignEach es X.env) = none
      rw [List.findIdx?_cons]
      simp [h3]
  | [], _ :: _, h => by simp [chkNs] at h
  | _ :: _, [], h => by simp [chkNs] at h
theorem chkTg_ok (G : GX T cl k N sc X) {tg : Tg} {t : Expr} (h : chkTg N sc tg t = true) : PG X t (gTg X.K tg) := by
  cases tg with
  | name i =>
    cases t <;> first | (simp [chkTg] at h; done) | skip
    simp only [chkTg, Bool.and_eq_true, decide_eq_true_eq] at h
    obtain ⟨l1, l2⟩ := G.loc h.2
    exact pg_name (by rw [G.hN]; exact G.nd) (by rw [G.hN]; exact h.1) l1 l2
  | tup is =>
    cases t <;> first | (simp [chkTg] at h; done) | skip
    simp only [chkTg] at h
    obtain ⟨h1, h2, h3⟩ := chkNs_ok G h
    exact pg_tup G.calm h1 h2 h3
structure POK (T : Tab) (cl : Nat → List Vl → AH → Option (Vl × AH)) (k : Nat) (N : List Str) (ex : Ex) : Prop where
  e : ∀ sc X, GX T cl k N sc X → ∀ x, chkE T N sc ex x = true → PE X x (rE X.K (evE T.gl cl ex))
  v : ∀ sc X, GX T cl k N sc X → ∀ x, chkE T N sc ex x = true → cmpB x = true → PT X x (rT X.K (vT (evE T.gl cl ex)))
  t : ∀ sc X, GX T cl k N sc X → ∀ x, chkT T N sc ex x = true → PT X x (rT X.K (evT T.gl cl ex))
  w : ∀ sc X, GX T cl k N sc X → ∀ o xs pos, chkT T N sc ex (.BoolOp o xs pos) = true → PW X (.BoolOp o xs pos) (rT X.K (evT T.gl cl ex))
  a : ∀ sc X, GX T cl k N sc X → ∀ xs, chkA T N sc ex xs = true → PA X xs (rA X.K (evA T.gl cl ex)) ∧ PA X xs (rB X.K (evB T.gl cl ex))
  o : ∀ sc X, GX T cl k N sc X → ∀ x, chkO T N sc ex x = true → PO X x (rO X.K (evO T.gl cl ex))
  i : ∀ sc X, GX T cl k N sc X → ∀ q tg x, chkI T N sc q ex x = true → tgOk q tg = true → PI X tg x (rI X.K q (evB T.gl cl ex))
/-- of one that is an expression alone -/
theorem POK.of {e : Ex} (h : ∀ sc X, GX T cl k N sc X → ∀ x, chkE T N sc e x = true → PE X x (rE X.K (evE T.gl cl e))) (hv : ∀ sc x, chkE T N sc e x = true → cmpB x = false) (ht : ∀ sc x, chkT T N sc e x = false) (ha : ∀ sc x, chkA T N sc e x = false) (ho : ∀ sc x, chkO T N sc e x = false)
    (hi : ∀ sc q x, chkI T N sc q e x = false) : POK T cl k N e where
  e := h
  v := fun sc X G x h1 h2 => by rw [hv sc x h1] at h2; cases h2
  t := fun sc X G x h1 => by rw [ht] at h1; cases h1
  w := fun sc X G o xs p h1 => by rw [ht] at h1; cases h1
  a := fun sc X G x h1 => by rw [ha] at h1; cases h1
  o := fun sc X G x h1 => by rw [ho] at h1; cases h1
  i := fun sc X G q tg x h1 => by rw [hi] at h1; cases h1
end
end FK

namespace FK
open PySem PySem.Spec PyProof.Rows L2
section
variable {T : Tab} {cl : Nat → List Vl → AH → Option (Vl × AH)} {k : Nat} {N : List Str} {sc : Scope} {X : Cx}
theorem nolast {op op' : CmpOp} {m r : Expr} (h : notSet r = true) : lastMarks [op, op'] [m, r] = false := notSet_marks h
theorem mem_range : ("range" : Str) ∈ BN := by decide +kernel
theorem mem_enum : ("enumerate" : Str) ∈ BN := by decide +kernel
theorem mem_zip : ("zip" : Str) ∈ BN := by decide +kernel
theorem pts_of (G : GX T cl k N sc X) {c : Ex} (hc : POK T cl k N c) {ifs : List Expr} (h : (match ifs with | [] => isNil c | [x] => chkT T N sc c x | _ => false) = true) : PTs X ifs (rT X.K (evT T.gl cl c)) := by
  match ifs, h with
  | [], h =>
    cases c <;> first | (simp [isNil] at h; done) | skip
    refine ⟨fun pins s σ H Q I ⟨ρ, e, ah, b, ah', hS, hH, hE, q⟩ => ?_⟩
    simp only [evT] at hE
    cases hE
    exact pts_nil.run pins s σ H Q I (q ρ H (Ext.refl _ _) hH)
  | [x], h => exact pts_one (hc.t sc X G x h)
theorem pok (e : Ex) : POK T cl k N e := by
  induction e with
  | var i =>
    refine .of (fun sc X G x h => ?_) (fun sc x h => ?_) (fun sc x => by simp [chkT]) (fun sc x => by simp [chkA]) (fun sc x => by simp [chkO]) (fun sc q x => by simp [chkI])
    · cases x <;> first | (simp [chkE] at h; done) | skip
      simp only [chkE, Bool.and_eq_true, decide_eq_true_eq] at h
      obtain ⟨h1, h2, h3⟩ := G.vis h.2
      exact ok_var (pe_var (by rw [G.hN]; exact h.1) h1 h2 h3)
    · cases x <;> first | rfl | (simp [chkE] at h; done)
  | cst v =>
    refine .of (fun sc X G x h => ?_) (fun sc x h => ?_) (fun sc x => by simp [chkT]) (fun sc x => by simp [chkA]) (fun sc x => by simp [chkO]) (fun sc q x => by simp [chkI])
    · cases x <;> first | (simp [chkE] at h; done) | skip
      rename_i c _ _
      simp only [chkE] at h
      cases v <;> cases c <;> first | (simp [cstOk] at h; done) | skip
      · exact pe_const (v := .non) (z := .non) pe_non (fun ρ H => by simp only [RepV]) _ fun e ah => by simp only [evE]
      · simp only [cstOk, beq_iff_eq] at h; subst h
        rename_i c0
        exact pe_const (v := .bl c0) (z := .bl c0) pe_bl (fun ρ H => by simp only [RepV]) _ fun e ah => by simp only [evE]
      · simp only [cstOk, decide_eq_true_eq] at h; subst h
        rename_i c0
        exact pe_const (v := .int c0) (z := .int c0) pe_int (fun ρ H => by simp only [RepV]) _ fun e ah => by simp only [evE]
      · simp only [cstOk, decide_eq_true_eq] at h; subst h
        rename_i c0
        exact pe_const (v := .str c0) (z := .str c0) pe_str (fun ρ H => by simp only [RepV]) _ fun e ah => by simp only [evE]
    · cases x <;> first | rfl | (simp [chkE] at h; done)
  | glob g =>
    refine .of (fun sc X G x h => ?_) (fun sc x h => ?_) (fun sc x => by simp [chkT]) (fun sc x => by simp [chkA]) (fun sc x => by simp [chkO]) (fun sc q x => by simp [chkI])
    · cases x <;> first | (simp [chkE] at h; done) | skip
      simp only [chkE, Bool.and_eq_true, decide_eq_true_eq] at h
      obtain ⟨⟨rfl, h3⟩, h2⟩ := h
      obtain ⟨h1, h2⟩ := G.glob h2
      obtain ⟨v, hv⟩ := Option.isSome_iff_exists.mp h3
      obtain ⟨u, z, m1, m2, m3⟩ := G.gl _ v hv
      exact pe_const (pe_glob h1 m1 m2 h2) m3 _ fun e ah => by simp only [evE, hv]
    · cases x <;> first | rfl | (simp [chkE] at h; done)
  | bty t =>
    refine .of (fun sc X G x h => ?_) (fun sc x h => ?_) (fun sc x => by simp [chkT]) (fun sc x => by simp [chkA]) (fun sc x => by simp [chkO]) (fun sc q x => by simp [chkI])
    · cases x <;> first | (simp [chkE] at h; done) | skip
      simp only [chkE, Bool.and_eq_true, decide_eq_true_eq] at h
      obtain ⟨h1, h2⟩ := G.glob h.2
      obtain ⟨b1, b2, b3⟩ := tyTab_ok h.1
      exact pe_const (v := .ty t) (pe_bltn (v := .ty t) h1 (G.bn _ b2) b1 rfl b3 h2) (fun ρ H => by simp only [RepV]) _ fun e ah => by simp only [evE]
    · cases x <;> first | rfl | (simp [chkE] at h; done)
  | bin op a b iha ihb =>
    refine .of (fun sc X G x h => ?_) (fun sc x h => ?_) (fun sc x => by simp [chkT]) (fun sc x => by simp [chkA]) (fun sc x => by simp [chkO]) (fun sc q x => by simp [chkI])
    · cases x <;> first | (simp [chkE] at h; done) | skip
      simp only [chkE, Bool.and_eq_true, decide_eq_true_eq] at h
      obtain ⟨⟨rfl, h1⟩, h2⟩ := h
      exact ok_bin (iha.e sc X G _ h1) (ihb.e sc X G _ h2)
    · cases x <;> first | rfl | (simp [chkE] at h; done)
  | neg a iha =>
    refine .of (fun sc X G x h => ?_) (fun sc x h => ?_) (fun sc x => by simp [chkT]) (fun sc x => by simp [chkA]) (fun sc x => by simp [chkO]) (fun sc q x => by simp [chkI])
    · cases x <;> first | (simp [chkE] at h; done) | skip
      simp only [chkE, Bool.and_eq_true, decide_eq_true_eq] at h
      obtain ⟨rfl, h1⟩ := h
      exact ok_neg (iha.e sc X G _ h1)
    · cases x <;> first | rfl | (simp [chkE] at h; done)
  | cmp op a b iha ihb =>
    have inv : ∀ sc x, chkE T N sc (.cmp op a b) x = true → ∃ l r p, x = .Compare l [op] [r] p ∧ chkE T N sc a l = true ∧ chkE T N sc b r = true ∧ notSet r = true := fun sc x h => by
      cases x <;> first | (simp [chkE] at h; done) | skip
      rename_i l ops cs p
      rcases ops with _ | ⟨o, _ | ⟨o', ops⟩⟩ <;> rcases cs with _ | ⟨r, _ | ⟨r', cs⟩⟩ <;> first | (simp [chkE] at h; done) | skip
      simp only [chkE, Bool.and_eq_true, decide_eq_true_eq] at h
      obtain ⟨⟨⟨rfl, h1⟩, h2⟩, h3⟩ := h
      exact ⟨l, r, p, rfl, h1, h2, h3⟩
    refine { e := fun sc X G x h => ?_, v := fun sc X G x h _ => ?_, t := fun sc X G x h => by simp [chkT] at h, w := fun sc X G o xs p h => by simp [chkT] at h, a := fun sc X G x h => by simp [chkA] at h, o := fun sc X G x h => by simp [chkO] at h, i := fun sc X G q tg x h _ => by simp [chkI] at h }
    · obtain ⟨l, r, p, rfl, h1, h2, h3⟩ := inv sc x h
      exact ok_cmp G.hu (iha.e sc X G _ h1) (ihb.e sc X G _ h2) (notSet_marks h3)
    · obtain ⟨l, r, p, rfl, h1, h2, h3⟩ := inv sc x h
      exact okv_cmp G.hu (iha.e sc X G _ h1) (ihb.e sc X G _ h2) (notSet_marks h3)
  | chain op op2 a b c iha ihb ihc =>
    have inv : ∀ sc x, chkE T N sc (.chain op op2 a b c) x = true → ∃ l m r p, x = .Compare l [op, op2] [m, r] p ∧ chkE T N sc a l = true ∧ chkE T N sc b m = true ∧ chkE T N sc c r = true ∧ notSet r = true := fun sc x h => by
      cases x <;> first | (simp [chkE] at h; done) | skip
      rename_i l ops cs p
      rcases ops with _ | ⟨o, _ | ⟨o', _ | ⟨o'', ops⟩⟩⟩ <;> rcases cs with _ | ⟨r, _ | ⟨r', _ | ⟨r'', cs⟩⟩⟩ <;> first | (simp [chkE] at h; done) | skip
      simp only [chkE, Bool.and_eq_true, decide_eq_true_eq] at h
      obtain ⟨⟨⟨⟨⟨rfl, rfl⟩, h1⟩, h2⟩, h3⟩, h4⟩ := h
      exact ⟨l, _, _, p, rfl, h1, h2, h3, h4⟩
    refine { e := fun sc X G x h => ?_, v := fun sc X G x h _ => ?_, t := fun sc X G x h => by simp [chkT] at h, w := fun sc X G o xs p h => by simp [chkT] at h, a := fun sc X G x h => by simp [chkA] at h, o := fun sc X G x h => by simp [chkO] at h, i := fun sc X G q tg x h _ => by simp [chkI] at h }
    · obtain ⟨l, m, r, p, rfl, h1, h2, h3, h4⟩ := inv sc x h
      exact ok_chain G.hu (iha.e sc X G _ h1) (ihb.e sc X G _ h2) (ihc.e sc X G _ h3) (nolast h4)
    · obtain ⟨l, m, r, p, rfl, h1, h2, h3, h4⟩ := inv sc x h
      exact okv_chain G.hu (iha.e sc X G _ h1) (ihb.e sc X G _ h2) (ihc.e sc X G _ h3) (nolast h4)
  | and a b iha ihb =>
    have W : ∀ sc X, GX T cl k N sc X → ∀ o xs pos, chkT T N sc (.and a b) (.BoolOp o xs pos) = true → PW X (.BoolOp o xs pos) (rT X.K (evT T.gl cl (.and a b))) := fun sc X G o xs pos h => by
      rcases xs with _ | ⟨x, _ | ⟨y, rest⟩⟩ <;> first | (simp [chkT] at h; done) | skip
      simp only [chkT, Bool.and_eq_true, decide_eq_true_eq] at h
      obtain ⟨⟨rfl, h1⟩, h2⟩ := h
      cases rest with
      | nil => exact okt_and (iha.t sc X G _ h1) (pw_and1 (ihb.t sc X G _ h2))
      | cons z rest => exact okt_and (iha.t sc X G _ h1) (ihb.w sc X G _ _ _ h2)
    refine { e := fun sc X G x h => ?_, v := fun sc X G x h hc => ?_, t := fun sc X G x h => ?_, w := W, a := fun sc X G x h => by simp [chkA] at h, o := fun sc X G x h => by simp [chkO] at h, i := fun sc X G q tg x h _ => by simp [chkI] at h }
    · cases x <;> first | (simp [chkE] at h; done) | skip
      rename_i o xs pos
      rcases xs with _ | ⟨x, _ | ⟨y, rest⟩⟩ <;> first | (simp [chkE] at h; done) | skip
      simp only [chkE, Bool.and_eq_true, decide_eq_true_eq] at h
      obtain ⟨⟨rfl, h1⟩, h2⟩ := h
      cases rest with
      | nil => exact ok_and (iha.e sc X G _ h1) (pe_one (ihb.e sc X G _ h2))
      | cons z rest => exact ok_and (iha.e sc X G _ h1) (ihb.e sc X G _ h2)
    · cases x <;> first | (simp [chkE] at h; done) | (simp [cmpB] at hc; done)
    · cases x <;> first | (simp [chkT] at h; done) | skip
      exact (W sc X G _ _ _ h).pt
  | or a b iha ihb =>
    have W : ∀ sc X, GX T cl k N sc X → ∀ o xs pos, chkT T N sc (.or a b) (.BoolOp o xs pos) = true → PW X (.BoolOp o xs pos) (rT X.K (evT T.gl cl (.or a b))) := fun sc X G o xs pos h => by
      rcases xs with _ | ⟨x, _ | ⟨y, rest⟩⟩ <;> first | (simp [chkT] at h; done) | skip
      simp only [chkT, Bool.and_eq_true, decide_eq_true_eq] at h
      obtain ⟨⟨rfl, h1⟩, h2⟩ := h
      cases rest with
      | nil => exact okt_or (iha.t sc X G _ h1) (pw_or1 (ihb.t sc X G _ h2))
      | cons z rest => exact okt_or (iha.t sc X G _ h1) (ihb.w sc X G _ _ _ h2)
    refine { e := fun sc X G x h => ?_, v := fun sc X G x h hc => ?_, t := fun sc X G x h => ?_, w := W, a := fun sc X G x h => by simp [chkA] at h, o := fun sc X G x h => by simp [chkO] at h, i := fun sc X G q tg x h _ => by simp [chkI] at h }
    · cases x <;> first | (simp [chkE] at h; done) | skip
      rename_i o xs pos
      rcases xs with _ | ⟨x, _ | ⟨y, rest⟩⟩ <;> first | (simp [chkE] at h; done) | skip
      simp only [chkE, Bool.and_eq_true, decide_eq_true_eq] at h
      obtain ⟨⟨rfl, h1⟩, h2⟩ := h
      cases rest with
      | nil => exact ok_or (iha.e sc X G _ h1) (pe_one (ihb.e sc X G _ h2))
      | cons z rest => exact ok_or (iha.e sc X G _ h1) (ihb.e sc X G _ h2)
    · cases x <;> first | (simp [chkE] at h; done) | (simp [cmpB] at hc; done)
    · cases x <;> first | (simp [chkT] at h; done) | skip
      exact (W sc X G _ _ _ h).pt
  | not a iha =>
    refine { e := fun sc X G x h => ?_, v := fun sc X G x h hc => ?_, t := fun sc X G x h => ?_, w := fun sc X G o xs p h => by simp [chkT] at h, a := fun sc X G x h => by simp [chkA] at h, o := fun sc X G x h => by simp [chkO] at h, i := fun sc X G q tg x h _ => by simp [chkI] at h }
    · cases x <;> first | (simp [chkE] at h; done) | skip
      simp only [chkE, Bool.and_eq_true, decide_eq_true_eq] at h
      obtain ⟨rfl, h1⟩ := h
      exact ok_not (iha.e sc X G _ h1)
    · cases x <;> first | (simp [chkE] at h; done) | (simp [cmpB] at hc; done)
    · cases x <;> first | (simp [chkT] at h; done) | skip
      simp only [chkT, Bool.and_eq_true, decide_eq_true_eq] at h
      obtain ⟨rfl, h1⟩ := h
      exact okt_not (iha.t sc X G _ h1)
  | val a iha =>
    refine { e := fun sc X G x h => by simp [chkE] at h, v := fun sc X G x h hc => by simp [chkE] at h, t := fun sc X G x h => ?_, w := fun sc X G o xs p h => ?_, a := fun sc X G x h => by simp [chkA] at h, o := fun sc X G x h => by simp [chkO] at h, i := fun sc X G q tg x h _ => by simp [chkI] at h }
    · simp only [chkT, Bool.and_eq_true, Bool.or_eq_true] at h
      obtain ⟨h1, h2⟩ := h
      rcases h2 with h2 | h2
      · exact okt_val (okv_of (iha.e sc X G _ h1) (plain_true h2))
      · exact okt_val (iha.v sc X G _ h1 (by cases x <;> first | rfl | (cases h2)))
    · simp [chkT, plainTest] at h
  | ite c a b ihc iha ihb =>
    refine .of (fun sc X G x h => ?_) (fun sc x h => ?_) (fun sc x => by simp [chkT]) (fun sc x => by simp [chkA]) (fun sc x => by simp [chkO]) (fun sc q x => by simp [chkI])
    · cases x <;> first | (simp [chkE] at h; done) | skip
      simp only [chkE, Bool.and_eq_true] at h
      obtain ⟨⟨h1, h2⟩, h3⟩ := h
      exact ok_ite (ihc.t sc X G _ h1) (iha.e sc X G _ h2) (ihb.e sc X G _ h3)
    · cases x <;> first | rfl | (simp [chkE] at h; done)
  | lst es ihe =>
    refine .of (fun sc X G x h => ?_) (fun sc x h => ?_) (fun sc x => by simp [chkT]) (fun sc x => by simp [chkA]) (fun sc x => by simp [chkO]) (fun sc q x => by simp [chkI])
    · cases x <;> first | (simp [chkE] at h; done) | skip
      simp only [chkE] at h
      exact ok_lst (ihe.a sc X G _ h).1
    · cases x <;> first | rfl | (simp [chkE] at h; done)
  | tup es ihe =>
    refine .of (fun sc X G x h => ?_) (fun sc x h => ?_) (fun sc x => by simp [chkT]) (fun sc x => by simp [chkA]) (fun sc x => by simp [chkO]) (fun sc q x => by simp [chkI])
    · cases x <;> first | (simp [chkE] at h; done) | skip
      simp only [chkE] at h
      exact ok_tup (ihe.a sc X G _ h).1
    · cases x <;> first | rfl | (simp [chkE] at h; done)
  | ix a b iha ihb =>
    refine .of (fun sc X G x h => ?_) (fun sc x h => ?_) (fun sc x => by simp [chkT]) (fun sc x => by simp [chkA]) (fun sc x => by simp [chkO]) (fun sc q x => by simp [chkI])
    · cases x <;> first | (simp [chkE] at h; done) | skip
      rename_i vx sx px
      simp only [chkE, Bool.and_eq_true] at h
      obtain ⟨⟨h1, h2⟩, h3⟩ := h
      exact ok_ix (by have := G.hu; omega) (iha.e sc X G _ h1) (ihb.e sc X G _ h2) (notSlice_ix h3)
    · cases x <;> first | rfl | (simp [chkE] at h; done)
  | sl a lo hi iha ihl ihh =>
    refine .of (fun sc X G x h => ?_) (fun sc x h => ?_) (fun sc x => by simp [chkT]) (fun sc x => by simp [chkA]) (fun sc x => by simp [chkO]) (fun sc q x => by simp [chkI])
    · cases x <;> first | (simp [chkE] at h; done) | skip
      rename_i vx sx px
      cases sx <;> first | (simp [chkE] at h; done) | skip
      rename_i l u st sp
      cases st <;> first | (simp [chkE] at h; done) | skip
      simp only [chkE, Bool.and_eq_true] at h
      obtain ⟨⟨h1, h2⟩, h3⟩ := h
      exact ok_sl (iha.e sc X G _ h1) (ihl.o sc X G _ h2) (ihh.o sc X G _ h3)
    · cases x <;> first | rfl | (simp [chkE] at h; done)
  | lc q it tg own c m ihi ihc ihm =>
    refine .of (fun sc X G x h => ?_) (fun sc x h => ?_) (fun sc x => by simp [chkT]) (fun sc x => by simp [chkA]) (fun sc x => by simp [chkO]) (fun sc q x => by simp [chkI])
    · cases x <;> first | (simp [chkE] at h; done) | skip
      rename_i elt gs scope pos
      rcases gs with _ | ⟨⟨t, i, ifs, z⟩, _ | ⟨g', gs⟩⟩ <;> first | (simp [chkE] at h; done) | skip
      simp only [chkE, Bool.and_eq_true, decide_eq_true_eq] at h
      obtain ⟨⟨⟨⟨⟨⟨⟨⟨rfl, h1⟩, h1t⟩, h2⟩, h3⟩, h4⟩, h5⟩, h6⟩, h7⟩ := h
      have hk : scope.kind = .function := (blkOk_by h6).kind
      have eo : (ownN N own).map (·.2) = own := by simp [ownN, Function.comp_def]
      refine PE.imp (pe_lc (own := ownN N own) (g := gTg X.K tg) (tt := rT X.K (evT T.gl cl c)) (te := rE X.K (evE T.gl cl m)) G.calm (by rw [G.hN]; exact G.nd) (ihi.i sc X G q t i h1 h1t) (G.blkOk h6) (fun s H C cl' fp => chkTg_ok (G.blk hk s H C cl' fp) h3) (fun s H C cl' fp => pts_of (G.blk hk s H C cl' fp) ihc h4) (fun s H C cl' fp => ihm.e scope _ (G.blk hk s H C cl' fp) _ h5) (notSet_fold h2)) fun σ H Q hq => ?_
      rw [eo]
      exact lc_rd (fun j hj => by simpa using List.all_eq_true.mp h7 j hj) hq
    · cases x <;> first | rfl | (simp [chkE] at h; done)
  | call f es ihe =>
    refine .of (fun sc X G x h => ?_) (fun sc x h => ?_) (fun sc x => by simp [chkT]) (fun sc x => by simp [chkA]) (fun sc x => by simp [chkO]) (fun sc q x => by simp [chkI])
    · cases x <;> first | (simp [chkE] at h; done) | skip
      rename_i fx args kws pos
      cases fx <;> first | (simp [chkE] at h; done) | skip
      cases kws <;> first | (simp [chkE] at h; done) | skip
      simp only [chkE, Bool.and_eq_true, decide_eq_true_eq] at h
      obtain ⟨⟨h1, h2⟩, h3⟩ := h
      obtain ⟨g1, g2⟩ := G.glob h2
      obtain ⟨fa, fd, ps, m1, m2, m3, m4⟩ := G.fns f _ h1
      have hA := (ihe.a sc X G _ h3).1
      cases args with
      | nil =>
        refine PE.imp (m4.call0 G.room G.gd g1 m1 m2 m3 g2) fun σ H Q hq => ?_
        have h4 := call_rd hq
        cases es <;> first | (simp [chkA] at h3; done) | skip
        obtain ⟨ρ, e, ah, vs, ah', hS, hH, hE, q⟩ := h4
        simp only [evA] at hE
        cases hE
        exact q ρ H [] (Ext.refl _ _) hH (by simp only [RepVs])
      | cons y ys =>
        have hst := chkA_star h3
        simp only [List.all_cons, Bool.and_eq_true] at hst
        exact PE.imp (m4.call G.room G.gd g1 m1 m2 m3 hA g2 (notStar_each hst.1) (noStars hst.2)) fun σ H Q hq => call_rd hq
    · cases x <;> first | rfl | (simp [chkE] at h; done)
  | pcall f es ihe =>
    refine .of (fun sc X G x h => ?_) (fun sc x h => ?_) (fun sc x => by simp [chkT]) (fun sc x => by simp [chkA]) (fun sc x => by simp [chkO]) (fun sc q x => by simp [chkI])
    · cases x <;> first | (simp [chkE] at h; done) | skip
      rename_i fx args kws pos
      cases fx <;> first | (simp [chkE] at h; done) | skip
      cases kws <;> first | (simp [chkE] at h; done) | skip
      simp only [chkE, Bool.and_eq_true, decide_eq_true_eq] at h
      obtain ⟨⟨h1, h2⟩, h3⟩ := h
      obtain ⟨g1, g2⟩ := G.glob h2
      obtain ⟨fa, fd, ps, m1, m2, m3, m4⟩ := G.fns f _ h1
      have hA := (ihe.a sc X G _ h3).2
      cases args with
      | nil =>
        refine PE.imp (m4.call0 G.room G.gd g1 m1 m2 m3 g2) fun σ H Q hq => ?_
        have h4 := pcall_rd hq
        cases es <;> first | (simp [chkA] at h3; done) | skip
        obtain ⟨ρ, e, ah, vs, ah', hS, hH, hE, q⟩ := h4
        simp only [evB] at hE
        cases hE
        exact q ρ H [] (Ext.refl _ _) hH rfl trivial
      | cons y ys =>
        have hst := chkA_star h3
        simp only [List.all_cons, Bool.and_eq_true] at hst
        exact PE.imp (m4.call G.room G.gd g1 m1 m2 m3 hA g2 (notStar_each hst.1) (noStars hst.2)) fun σ H Q hq => pcall_rd hq
    · cases x <;> first | rfl | (simp [chkE] at h; done)
  | new a iha =>
    refine .of (fun sc X G x h => ?_) (fun sc x h => ?_) (fun sc x => by simp [chkT]) (fun sc x => by simp [chkA]) (fun sc x => by simp [chkO]) (fun sc q x => by simp [chkI])
    · simp only [chkE, Bool.and_eq_true] at h
      exact ok_new (iha.e sc X G _ h.1.1)
    · simp only [chkE, Bool.and_eq_true, Bool.not_eq_true'] at h
      exact h.1.2
  | dsp a iha =>
    refine .of (fun sc X G x h => by simp [chkE] at h) (fun sc x h => by simp [chkE] at h) (fun sc x => by simp [chkT]) (fun sc x => by simp [chkA]) (fun sc x => by simp [chkO]) (fun sc q x => by simp [chkI])
  | fld a x iha =>
    refine .of (fun sc X G x h => by simp [chkE] at h) (fun sc x h => by simp [chkE] at h) (fun sc x => by simp [chkT]) (fun sc x => by simp [chkA]) (fun sc x => by simp [chkO]) (fun sc q x => by simp [chkI])
  | mk c f a iha =>
    refine .of (fun sc X G x h => by simp [chkE] at h) (fun sc x h => by simp [chkE] at h) (fun sc x => by simp [chkT]) (fun sc x => by simp [chkA]) (fun sc x => by simp [chkO]) (fun sc q x => by simp [chkI])
  | um c f o a iho iha =>
    refine .of (fun sc X G x h => by simp [chkE] at h) (fun sc x h => by simp [chkE] at h) (fun sc x => by simp [chkT]) (fun sc x => by simp [chkA]) (fun sc x => by simp [chkO]) (fun sc q x => by simp [chkI])
  | bi f es ihe =>
    refine .of (fun sc X G x h => ?_) (fun sc x h => ?_) (fun sc x => by simp [chkT]) (fun sc x => by simp [chkA]) (fun sc x => by simp [chkO]) (fun sc q x => by simp [chkI])
    · cases x <;> first | (simp [chkE] at h; done) | skip
      rename_i fx args kws pos
      cases fx <;> first | (simp [chkE] at h; done) | skip
      cases kws <;> first | (simp [chkE] at h; done) | skip
      cases args <;> first | (simp [chkE] at h; done) | skip
      simp only [chkE, Bool.and_eq_true, decide_eq_true_eq] at h
      obtain ⟨⟨rfl, h2⟩, h3⟩ := h
      obtain ⟨g1, g2⟩ := G.glob h2
      obtain ⟨b1, b2, b3⟩ := Bi.ok f
      have hA := (ihe.a sc X G _ h3).2
      have hst := chkA_star h3
      simp only [List.all_cons, Bool.and_eq_true] at hst
      have hc := bi_ok (X := X) G.gd G.hu2 G.calm f
      have e1 := notStar_each (xs := by assumption) (env := X.env) hst.1
      cases f <;> first
        | exact PE.imp (pe_callB hc g1 (G.bn _ b2) b1 hA b3 g2 (notStar_each hst.1) (noStars hst.2)) fun σ H Q hq => bi_rd hq
        | exact PE.imp (pe_callTy hc g1 (G.bn _ b2) b1 hA b3 g2 (notStar_each hst.1) (noStars hst.2)) fun σ H Q hq => bi_rd hq
    · cases x <;> first | rfl | (simp [chkE] at h; done)
  | me m o es iho ihe =>
    refine .of (fun sc X G x h => ?_) (fun sc x h => ?_) (fun sc x => by simp [chkT]) (fun sc x => by simp [chkA]) (fun sc x => by simp [chkO]) (fun sc q x => by simp [chkI])
    · cases x <;> first | (simp [chkE] at h; done) | skip
      rename_i fx args kws pos
      cases fx <;> first | (simp [chkE] at h; done) | skip
      rename_i ob nm apos
      cases kws <;> first | (simp [chkE] at h; done) | skip
      simp only [chkE, Bool.and_eq_true, decide_eq_true_eq] at h
      obtain ⟨⟨⟨⟨⟨rfl, h1⟩, h2⟩, h3⟩, h4⟩, h5⟩ := h
      have hO := iho.e sc X G _ h1
      have hA := (ihe.a sc X G _ h2).1
      have hb : attributeBase ob m.name X.env (eval ob X.env) = eval ob X.env := by cases ob <;> first | rfl | (simp [notCall] at h4; done)
      cases args with
      | nil =>
        cases es <;> first | (simp [chkA] at h2; done) | skip
        have hm := me_ok (X := X) m
        cases m <;> first
          | exact PE.imp (pe_bm0 PySem.F.plainAttrs_list PySem.F.slot_list_append PySem.F.type_list_append hm hO hb h3) fun σ H Q hq => me0_rd hq
          | exact PE.imp (pe_bm0 PySem.F.plainAttrs_list PySem.F.slot_list_extend PySem.F.type_list_extend hm hO hb h3) fun σ H Q hq => me0_rd hq
          | exact PE.imp (pe_bm0 PySem.F.plainAttrs_list PySem.F.slot_list_pop PySem.F.type_list_pop hm hO hb h3) fun σ H Q hq => me0_rd hq
          | exact PE.imp (pe_bm0 PySem.F.plainAttrs_list PySem.F.slot_list_reverse PySem.F.type_list_reverse hm hO hb h3) fun σ H Q hq => me0_rd hq
          | exact PE.imp (pe_bm0 PySem.F.plainAttrs_list PySem.F.slot_list_clear PySem.F.type_list_clear hm hO hb h3) fun σ H Q hq => me0_rd hq
          | exact PE.imp (pe_bm0 PySem.F.plainAttrs_str PySem.F.slot_str_join PySem.F.type_str_join hm hO hb h3) fun σ H Q hq => me0_rd hq
          | exact PE.imp (pe_bm0 PySem.F.plainAttrs_str PySem.F.slot_str_split PySem.F.type_str_split hm hO hb h3) fun σ H Q hq => me0_rd hq
      | cons y ys =>
        have hst := chkA_star h2
        have hfew : ((backTo pos (starEach (y :: ys) X.env)).all (fun x => !x.1) && (backToKw pos (keywordEach [] X.env)).all (fun x => x.1.isSome) && decide ((y :: ys).length + ([] : List Keyword).length + (if ([] : List Keyword).isEmpty then 0 else 1) < 30)) = true := by
          rw [noStars2 hst]
          simpa [backToKw, keywordEach] using h5
        simp only [List.all_cons, Bool.and_eq_true] at hst
        have hm := me_ok (X := X) m
        cases m <;> first
          | exact PE.imp (pe_bm PySem.F.plainAttrs_list PySem.F.slot_list_append PySem.F.type_list_append hm hO hA hb hfew h3 (notStar_each hst.1) (noStars hst.2)) fun σ H Q hq => me_rd hq
          | exact PE.imp (pe_bm PySem.F.plainAttrs_list PySem.F.slot_list_extend PySem.F.type_list_extend hm hO hA hb hfew h3 (notStar_each hst.1) (noStars hst.2)) fun σ H Q hq => me_rd hq
          | exact PE.imp (pe_bm PySem.F.plainAttrs_list PySem.F.slot_list_pop PySem.F.type_list_pop hm hO hA hb hfew h3 (notStar_each hst.1) (noStars hst.2)) fun σ H Q hq => me_rd hq
          | exact PE.imp (pe_bm PySem.F.plainAttrs_list PySem.F.slot_list_reverse PySem.F.type_list_reverse hm hO hA hb hfew h3 (notStar_each hst.1) (noStars hst.2)) fun σ H Q hq => me_rd hq
          | exact PE.imp (pe_bm PySem.F.plainAttrs_list PySem.F.slot_list_clear PySem.F.type_list_clear hm hO hA hb hfew h3 (notStar_each hst.1) (noStars hst.2)) fun σ H Q hq => me_rd hq
          | exact PE.imp (pe_bm PySem.F.plainAttrs_str PySem.F.slot_str_join PySem.F.type_str_join hm hO hA hb hfew h3 (notStar_each hst.1) (noStars hst.2)) fun σ H Q hq => me_rd hq
          | exact PE.imp (pe_bm PySem.F.plainAttrs_str PySem.F.slot_str_split PySem.F.type_str_split hm hO hA hb hfew h3 (notStar_each hst.1) (noStars hst.2)) fun σ H Q hq => me_rd hq
    · cases x <;> first | rfl | (simp [chkE] at h; done)
  | nil =>
    refine { e := fun sc X G x h => by simp [chkE] at h, v := fun sc X G x h hc => by simp [chkE] at h, t := fun sc X G x h => by simp [chkT] at h, w := fun sc X G o xs p h => by simp [chkT] at h, a := fun sc X G x h => ?_, o := fun sc X G x h => ?_, i := fun sc X G q tg x h _ => by simp [chkI] at h }
    · cases x <;> first | (simp [chkA] at h; done) | exact ⟨oka_nil, okb_nil⟩
    · cases x <;> first | (simp [chkO] at h; done) | exact oko_none
  | cons a es iha ihe =>
    refine { e := fun sc X G x h => by simp [chkE] at h, v := fun sc X G x h hc => by simp [chkE] at h, t := fun sc X G x h => by simp [chkT] at h, w := fun sc X G o xs p h => by simp [chkT] at h, a := fun sc X G x h => ?_, o := fun sc X G x h => ?_, i := fun sc X G q tg x h ht => ?_ }
    · cases x with
      | nil => simp [chkA] at h
      | cons y ys =>
        simp only [chkA, Bool.and_eq_true] at h
        obtain ⟨⟨h1, h2⟩, h3⟩ := h
        obtain ⟨g1, g2⟩ := ihe.a sc X G _ h3
        exact ⟨oka_cons (iha.e sc X G _ h2) g1 (notStar_each h1), okb_cons (iha.e sc X G _ h2) g2 (notStar_each h1)⟩
    · cases x with
      | none => simp [chkO] at h
      | some y =>
        simp only [chkO] at h
        exact oko_some (iha.e sc X G _ h)
    · simp only [chkI] at h
      cases q <;> first | (simp at h; done) | skip
      · simp only [Bool.and_eq_true] at h
        obtain ⟨h1, h2⟩ := h
        cases es <;> first | (simp [isNil] at h1; done) | skip
        exact oki_seq (iha.e sc X G _ h2)
      · simp only at h
        cases x <;> first | (simp at h; done) | skip
        rename_i fx args kws pos
        cases fx <;> first | (simp at h; done) | skip
        cases kws <;> first | (simp at h; done) | skip
        rcases args with _ | ⟨y, ys⟩ <;> first | (simp at h; done) | skip
        simp only [Bool.and_eq_true, decide_eq_true_eq] at h
        obtain ⟨⟨⟨⟨⟨rfl, h1⟩, h2⟩, h3⟩, h4⟩, h5⟩ := h
        obtain ⟨g1, g2⟩ := G.glob h1
        have hm := G.bn _ mem_range
        have hE := iha.e sc X G _ h3
        have hA := (ihe.a sc X G _ h4).2
        rcases ys with _ | ⟨y', _ | ⟨y'', ys⟩⟩
        · cases es <;> first | (simp [chkA] at h4; done) | skip
          exact oki_rng1 g1 hm (okb_cons hE okb_nil (notStar_each h2)) (notStar_each h2)
        · cases es <;> first | (simp [chkA] at h4; done) | skip
          rename_i b es
          simp only [chkA, Bool.and_eq_true] at h4
          obtain ⟨⟨h41, h42⟩, h43⟩ := h4
          cases es <;> first | (simp [chkA] at h43; done) | skip
          exact oki_rng2 g1 hm (okb_cons hE hA (notStar_each h2)) ((notStar_each h2).trans (by rw [notStar_each h41]; rfl)) (notStar_each h41)
        · simp at h5
      · -- enumerate
        simp only at h
        cases x <;> first | (simp at h; done) | skip
        rename_i fx args kws pos
        cases fx <;> first | (simp at h; done) | skip
        cases kws <;> first | (simp at h; done) | skip
        rcases args with _ | ⟨y, ys⟩ <;> first | (simp at h; done) | skip
        simp only [Bool.and_eq_true, decide_eq_true_eq] at h
        obtain ⟨⟨⟨⟨⟨rfl, h1⟩, h2⟩, h3⟩, h4⟩, h5⟩ := h
        cases es <;> first | (simp [isNil] at h4; done) | skip
        cases ys <;> first | (simp [isEmptyE] at h5; done) | skip
        obtain ⟨g1, g2⟩ := G.glob h1
        cases tg <;> first | (simp [tgOk, isTupE] at ht; done) | skip
        exact oki_enum g1 (G.bn _ mem_enum) (okb_cons (iha.e sc X G _ h3) okb_nil (notStar_each h2)) (notStar_each h2)
      · -- zip
        simp only at h
        cases x <;> first | (simp at h; done) | skip
        rename_i fx args kws pos
        cases fx <;> first | (simp at h; done) | skip
        cases kws <;> first | (simp at h; done) | skip
        rcases args with _ | ⟨y, ys⟩ <;> first | (simp at h; done) | skip
        simp only [Bool.and_eq_true, decide_eq_true_eq] at h
        obtain ⟨⟨⟨⟨⟨rfl, h1⟩, h2⟩, h3⟩, h4⟩, h5⟩ := h
        rcases ys with _ | ⟨y', _ | ⟨y'', ys⟩⟩ <;> first | (simp at h5; done) | skip
        have hA := (ihe.a sc X G _ h4).2
        have hst := chkA_star h4
        cases es <;> first | (simp [chkA] at h4; done) | skip
        rename_i b es
        simp only [chkA, Bool.and_eq_true] at h4
        obtain ⟨⟨h41, h42⟩, h43⟩ := h4
        cases es <;> first | (simp [chkA] at h43; done) | skip
        obtain ⟨g1, g2⟩ := G.glob h1
        cases tg <;> first | (simp [tgOk, isTupE] at ht; done) | skip
        exact oki_zip g1 (G.bn _ mem_zip) (okb_cons (iha.e sc X G _ h3) hA (notStar_each h2)) (notStar_each h2) (noStars hst)
end
end FK

namespace FK
open PySem PySem.Spec PyProof.Rows L2
def notTup : Expr → Bool
  | .Tuple _ _ _ => false
  | _ => true
/-- parts of a statement -/
def sole : Stmt → Option (Expr × Expr)
  | .Assign ts v _ => match ts with
    | t :: r => match r with
      | [] => some (t, v)
      | _ :: _ => none
    | [] => none
  | _ => none
theorem sole_ok {st : Stmt} {t v : Expr} (h : sole st = some (t, v)) : ∃ pos, st = .Assign [t] v pos := by
  cases st <;> first | (simp [sole] at h; done) | skip
  rename_i ts v' pos
  rcases ts with _ | ⟨t', _ | ⟨t'', ts⟩⟩
  · simp [sole] at h
  · simp only [sole, Option.some.injEq, Prod.mk.injEq] at h
    obtain ⟨rfl, rfl⟩ := h
    exact ⟨pos, rfl⟩
  · simp [sole] at h
def nameOf : Expr → Option Str
  | .Name x _ => some x
  | _ => none
theorem nameOf_ok {e : Expr} {x : Str} (h : nameOf e = some x) : ∃ p, e = .Name x p := by
  cases e <;> first | (simp [nameOf] at h; done) | skip
  simp only [nameOf, Option.some.injEq] at h
  subst h
  exact ⟨_, rfl⟩
def isEmpty' : List Stmt → Bool
  | [] => true
  | _ :: _ => false
/-- x.m(args) as a statement -/
def callM : Stmt → Option (Str × Str × List Expr)
  | .Expr (.Call (.Attribute (.Name x _) n apos) args [] cpos) _ => if apos.endLine == cpos.line then some (x, n, args) else none
  | _ => none
theorem callM_ok {st : Stmt} {x n : Str} {args : List Expr} (h : callM st = some (x, n, args)) : ∃ px apos cpos pos, st = .Expr (.Call (.Attribute (.Name x px) n apos) args [] cpos) pos ∧ (apos.endLine == cpos.line) = true := by
  unfold callM at h
  split at h
  · split at h
    · rename_i hl
      cases h
      exact ⟨_, _, _, _, rfl, hl⟩
    · cases h
  · cases h
def allLocal (sc : Scope) : List Expr → Bool
  | [] => true
  | .Name x _ :: r => decide (sc.names.lookup x = some .local) && allLocal sc r
  | _ => false
/-- the pair is stored from the right (names all local, on one line), or it is made and taken apart (a name is a cell) -/
def someCell (sc : Scope) : List Expr → Bool
  | [] => false
  | .Name x _ :: r => decide (sc.names.lookup x = some .cell) || someCell sc r
  | _ => false
def oneLine : List Expr → Bool
  | .Name _ p :: .Name _ q :: [] => p.line == q.line
  | .Name _ p :: .Name _ q :: .Name _ r :: [] => p.line == q.line && p.line == r.line
  | _ => false
def parOk (sc : Scope) (ms : List (Nat × Bool)) (ts vs : List Expr) : Bool :=
  decide (ms.length = 2 ∨ ms.length = 3) && decide (ts.length = ms.length) && decide (vs.length = ts.length) && decide (ms.map (·.1)).Nodup && vs.all notStar && !(vs.all (foldedForSure 8)) && !(vs.all (constantsAlone 8)) && ((allLocal sc ts && oneLine ts) || someCell sc ts)
section
variable (T : Tab) (N : List Str)
mutual
def chkS (sc : Scope) : Sx → Stmt → Bool
  | .set i e, st => match sole st with
    | some (t, v) => match nameOf t with
      | some x => decide (N[i]? = some x) && isLoc sc x && chkE T N sc e v
      | none => false
    | none => false
  | .setO i e, st => match sole st with
    | some (t, v) => match nameOf t with
      | some x => decide (N[i]? = some x) && isLoc sc x && chkE T N sc e v
      | none => false
    | none => false
  | .retO i, st => match st with
    | .Return v _ => match v with
      | some v => match nameOf v with
        | some x => decide (N[i]? = some x) && isVis sc x
        | none => false
      | none => false
    | _ => false
  | .appO i e, st => match callM st with
    | some (x, n, [a]) => decide (n = "append") && decide (N[i]? = some x) && isVis sc x && notStar a && chkE T N sc e a
    | _ => false
  | .extO i e, st => match callM st with
    | some (x, n, [a]) => decide (n = "extend") && decide (N[i]? = some x) && isVis sc x && notStar a && chkE T N sc e a
    | _ => false
  | .revO i, st => match callM st with
    | some (x, n, []) => decide (n = "reverse") && decide (N[i]? = some x) && isVis sc x
    | _ => false
  | .putO i j e, st => match sole st with
    | some (.Subscript ob ix _, v) => match nameOf ob with
      | some x => decide (N[i]? = some x) && isVis sc x && chkE T N sc j ix && notSlice ix && chkE T N sc e v
      | none => false
    | _ => false
  | .par ms es, st => match sole st with
    | some (.Tuple ts _ _, .Tuple vs _ _) => chkNs N sc (ms.map (·.1)) ts && chkA T N sc es vs && parOk sc ms ts vs
    | _ => false
  | .wipe _ s, st => chkS sc s st
  | .frz _, _ => false
  | .setFld _ _ _, _ => false
  | .setT is e, st => match sole st with
    | some (.Tuple es _ _, v) => chkNs N sc is es && chkE T N sc e v && notTup v && notComp v
    | _ => false
  | .setIx o i e, st => match sole st with
    | some (.Subscript ob ix _, v) => chkE T N sc o ob && chkE T N sc i ix && notSlice ix && chkE T N sc e v
    | _ => false
  | .aug i op e, st => match st with
    | .AugAssign t o v _ => match nameOf t with
      | some x => decide (op = o) && (decide (o = .Add) || decide (o = .Sub)) && decide (N[i]? = some x) && isLoc sc x && chkE T N sc e v
      | none => false
    | _ => false
  | .ifs c a b, st => match st with
    | .If t as bs _ => chkT T N sc c t && chkSs sc a as && chkSs sc b bs
    | _ => false
  | .for_ q it tg b, st => match st with
    | .For t i body els _ => isEmpty' els && chkI T N sc q it i && tgOk q t && notSet i && chkTg N sc tg t && chkSs sc b body
    | _ => false
  | .whl c b, st => match st with
    | .While t body els _ => isEmpty' els && chkT T N sc c t && chkSs sc b body
    | _ => false
  | .ret e, st => match st with
    | .Return v _ => match v with
      | some v => chkE T N sc e v
      | none => false
    | _ => false
  | .retN, st => match st with
    | .Return v _ => match v with
      | some _ => false
      | none => true
    | _ => false
  | .expr e, st => match st with
    | .Expr v _ => chkE T N sc e v && notComp v
    | _ => false
  | .pass, st => match st with
    | .Pass _ => true
    | _ => false
  | .brk, st => match st with
    | .Break _ => true
    | _ => false
  | .fail, _ => true
  | .nil, _ => false
  | .seq _ _, _ => false
  | .cont, _ => false
def chkSs (sc : Scope) : Sx → List Stmt → Bool
  | .nil, sts => isEmpty' sts
  | .seq (.frz _) r, sts => chkSs sc r sts
  | .seq s r, sts => match sts with
    | st :: sts => chkS sc s st && chkSs sc r sts
    | [] => false
  | _, _ => false
end
end
section
variable {T : Tab} {cl : Nat → List Vl → AH → Option (Vl × AH)} {k fu : Nat} {N : List Str} {sc : Scope} {X : Cx}
theorem noswap {v : Expr} {t : Option Expr} {l : Nat} {env : Env} (h : notComp v = true) : swapsWith v t l env = pure false := by
  cases v <;> first | rfl | (simp [notComp] at h; done)
theorem swap_lc {elt : Expr} {gs : List Comprehension} {scope : Scope} {pos py : Pos} {y : Str} {l : Nat} {env : Env} : swapsWith (.ListComp elt gs scope pos) (some (.Name y py)) l env = pure (env.blockKind == .function && env.kindOf y == some .local && py.line == pos.line
      && !(scope.names.any fun (n, k) => n == y && (k == .local || k == .cell))) := rfl
structure SOK (T : Tab) (cl : Nat → List Vl → AH → Option (Vl × AH)) (k fu : Nat) (N : List Str) (sx : Sx) : Prop where
  s : ∀ sc X, GX T cl k N sc X → ∀ st, chkS T N sc sx st = true → PS X st (rS X.K (evS T.gl cl fu sx))
  l : ∀ sc X, GX T cl k N sc X → ∀ sts, chkSs T N sc sx sts = true → PSs X sts (rS X.K (evS T.gl cl fu sx))
theorem setO_okS (G : GX T cl k N sc X) {i : Nat} {x : Str} {e : Ex} {v : Expr} {px pos : Pos} (h : (N[i]? = some x ∧ isLoc sc x = true) ∧ chkE T N sc e v = true) : PS X (.Assign [.Name x px] v pos) (rS X.K (evS T.gl cl fu (.setO i e))) := by
  obtain ⟨⟨h1, h2⟩, h3⟩ := h
  obtain ⟨l1, l2⟩ := G.loc h2
  have hE := (pok (T := T) (cl := cl) (k := k) (N := N) e).e sc X G _ h3
  have hnd : X.N.Nodup := by rw [G.hN]; exact G.nd
  have hx : X.N[i]? = some x := by rw [G.hN]; exact h1
  by_cases hc : notComp v = true
  · exact oks_setO hnd hx l1 hE (noswap hc) l2
  · cases v <;> first | (exact absurd rfl hc) | skip
    · rename_i elt gs scope p
      by_cases hb : (X.env.blockKind == .function && X.env.kindOf x == some .local && px.line == p.line && !(scope.names.any fun (n, k) => n == x && (k == .local || k == .cell))) = true
      · have hw : swapsWith (.ListComp elt gs scope p) (some (.Name x px)) pos.line X.env = pure true := by rw [swap_lc, hb]
        simp only [Bool.and_eq_true] at hb
        have hyl : X.env.scope.names.lookup x = some .local := by have q := hb.1.1.2; simp only [beq_iff_eq] at q; exact q
        cases e <;> first | (simp [chkE, notComp] at h3; done) | skip
        · rename_i q it tg own c m
          rcases gs with _ | ⟨⟨t, i', ifs, z⟩, _ | ⟨g', gs⟩⟩ <;> first | (simp [chkE] at h3; done) | skip
          simp only [chkE, Bool.and_eq_true, decide_eq_true_eq] at h3
          obtain ⟨⟨⟨⟨⟨⟨⟨⟨rfl, g1⟩, gt⟩, g2⟩, g3⟩, g4⟩, g5⟩, g6⟩, g7⟩ := h3
          have hk : scope.kind = .function := (blkOk_by g6).kind
          have eo : (ownN N own).map (·.2) = own := by simp [ownN, Function.comp_def]
          have R := (oks_setLc (fu := fu) (gl := T.gl) (cl := cl) (own := ownN N own) (tg := tg) (C := c) (A := m) (Es := it) (k := q) G.calm hnd hx hyl hw ((pok it).i sc X G q t i' g1 gt) (G.blkOk g6) (fun s H C cl' fp => chkTg_ok (G.blk hk s H C cl' fp) g3)
            (fun s H C cl' fp => pts_of (G.blk hk s H C cl' fp) (pok c) g4) (fun s H C cl' fp => (pok m).e scope _ (G.blk hk s H C cl' fp) _ g5) (notSet_fold g2) (fun j hj => by rw [eo]; simpa using List.all_eq_true.mp g7 j hj)).2
          rw [eo] at R
          exact R
      · have hw : swapsWith (.ListComp elt gs scope p) (some (.Name x px)) pos.line X.env = pure false := by rw [swap_lc, Bool.eq_false_iff.mpr hb]
        exact oks_setO hnd hx l1 hE hw l2
    · cases e <;> simp [chkE, notComp] at h3
    · cases e <;> simp [chkE, notComp] at h3
theorem set_ok (G : GX T cl k N sc X) {i : Nat} {x : Str} {e : Ex} {v : Expr} {px pos : Pos} (h : (N[i]? = some x ∧ isLoc sc x = true) ∧ chkE T N sc e v = true) : PS X (.Assign [.Name x px] v pos) (rS X.K (evS T.gl cl fu (.set i e))) := by
  obtain ⟨⟨h1, h2⟩, h3⟩ := h
  obtain ⟨l1, l2⟩ := G.loc h2
  have hE := (pok (T := T) (cl := cl) (k := k) (N := N) e).e sc X G _ h3
  have hnd : X.N.Nodup := by rw [G.hN]; exact G.nd
  have hx : X.N[i]? = some x := by rw [G.hN]; exact h1
  by_cases hc : notComp v = true
  · exact oks_set hnd hx l1 hE (noswap hc) l2
  · cases v <;> first | (exact absurd rfl hc) | skip
    · rename_i elt gs scope p
      by_cases hb : (X.env.blockKind == .function && X.env.kindOf x == some .local && px.line == p.line && !(scope.names.any fun (n, k) => n == x && (k == .local || k == .cell))) = true
      · have hw : swapsWith (.ListComp elt gs scope p) (some (.Name x px)) pos.line X.env = pure true := by rw [swap_lc, hb]
        simp only [Bool.and_eq_true] at hb
        have hyl : X.env.scope.names.lookup x = some .local := by have q := hb.1.1.2; simp only [beq_iff_eq] at q; exact q
        cases e <;> first | (simp [chkE, notComp] at h3; done) | skip
        rename_i q it tg own c m
        rcases gs with _ | ⟨⟨t, i', ifs, z⟩, _ | ⟨g', gs⟩⟩ <;> first | (simp [chkE] at h3; done) | skip
        simp only [chkE, Bool.and_eq_true, decide_eq_true_eq] at h3
        obtain ⟨⟨⟨⟨⟨⟨⟨⟨rfl, g1⟩, gt⟩, g2⟩, g3⟩, g4⟩, g5⟩, g6⟩, g7⟩ := h3
        have hk : scope.kind = .function := (blkOk_by g6).kind
        have eo : (ownN N own).map (·.2) = own := by simp [ownN, Function.comp_def]
        have R := (oks_setLc (fu := fu) (gl := T.gl) (cl := cl) (own := ownN N own) (tg := tg) (C := c) (A := m) (Es := it) (k := q) G.calm hnd hx hyl hw ((pok it).i sc X G q t i' g1 gt) (G.blkOk g6) (fun s H C cl' fp => chkTg_ok (G.blk hk s H C cl' fp) g3)
          (fun s H C cl' fp => pts_of (G.blk hk s H C cl' fp) (pok c) g4) (fun s H C cl' fp => (pok m).e scope _ (G.blk hk s H C cl' fp) _ g5) (notSet_fold g2) (fun j hj => by rw [eo]; simpa using List.all_eq_true.mp g7 j hj)).1
        rw [eo] at R
        exact R
      · have hw : swapsWith (.ListComp elt gs scope p) (some (.Name x px)) pos.line X.env = pure false := by rw [swap_lc, Bool.eq_false_iff.mpr hb]
        exact oks_set hnd hx l1 hE hw l2
    · cases e <;> simp [chkE, notComp] at h3
    · cases e <;> simp [chkE, notComp] at h3
theorem names_few (G : GX T cl k N sc X) {line : Nat} {f : Expr → Option Str} (hf : ∀ x p, f (.Name x p) = if X.env.kindOf x == some .local && p.line == line then some x else none) : ∀ {ts : List Expr}, someCell sc ts = true → (ts.filterMap f).length < ts.length
  | [], h => by simp [someCell] at h
  | t :: ts, h => by
    cases t <;> first | (simp [someCell] at h; done) | skip
    rename_i x p
    have l := List.length_filterMap_le f ts
    simp only [someCell, Bool.or_eq_true, decide_eq_true_eq] at h
    rcases h with h | h
    · have hk : (X.env.kindOf x == some .local) = false := by
        rcases G.sco x _ h with e | ⟨e, _⟩
        · show (X.env.scope.names.lookup x == some .local) = false
          rw [e]; rfl
        · cases e
      have e : f (.Name x p) = none := by rw [hf, hk]; rfl
      rw [List.filterMap_cons, e]
      simp only [List.length_cons]
      omega
    · have ih := names_few G hf h
      rw [List.filterMap_cons]
      split
      · simp only [List.length_cons]; omega
      · simp only [List.length_cons]; omega
theorem noSt {vs : List Expr} {f : Expr → Bool} (hf : ∀ x, notStar x = true → f x = false) (h : vs.all notStar = true) : ¬ (vs.any f = true) := by
  rw [Bool.not_eq_true, List.any_eq_false]
  intro x hx
  rw [hf x (List.all_eq_true.mp h x hx)]
  decide
theorem loc_of (G : GX T cl k N sc X) {x : Str} (h : sc.names.lookup x = some .local) : X.env.scope.names.lookup x = some .local := by
  rcases G.sco x _ h with e | ⟨e, _⟩
  · exact e
  · cases e
theorem bk_fn (G : GX T cl k N sc X) : (X.env.blockKind != .function) = false := by
  have : X.env.blockKind = .function := by
    unfold Env.blockKind
    rw [G.kd]; rfl
  rw [this]; rfl
theorem par_okS (G : GX T cl k N sc X) {ms : List (Nat × Bool)} {es : Ex} {ts vs : List Expr} {kt k2 : Nat} {pt pt2 pos : Pos} (h1 : chkNs N sc (ms.map (·.1)) ts = true) (h2 : chkA T N sc es vs = true) (h3 : parOk sc ms ts vs = true) :
    PS X (.Assign [.Tuple ts kt pt] (.Tuple vs k2 pt2) pos) (rS X.K (evS T.gl cl fu (.par ms es))) := by
  have hA := ((pok (T := T) (cl := cl) (k := k) (N := N) es).a sc X G _ h2).2
  simp only [parOk, Bool.and_eq_true, Bool.or_eq_true, decide_eq_true_eq, Bool.not_eq_true'] at h3
  obtain ⟨⟨⟨⟨⟨⟨⟨p1, p2⟩, p3⟩, p4⟩, p5⟩, p6⟩, p7⟩, p8⟩ := h3
  have hnd : X.N.Nodup := by rw [G.hN]; exact G.nd
  have nsx : ∀ {f : Expr → Bool}, (∀ x, notStar x = true → f x = false) → ¬ (vs.any f = true) := fun hf => noSt hf p5
  have lt : (!(ts.length == 2 || ts.length == 3)) = false := by
    rcases p1 with p1 | p1 <;> simp [p2, p1]
  have lv : (vs.length != ts.length) = false := by simp [p3]
  rcases p8 with ⟨p8, p9⟩ | p8
  · -- all local
    rcases p1 with p1 | p1
    · match ms, ts, vs, p1, p2, p3 with
      | [(i, b1), (j, b2)], [t1, t2], [a, b], q1, q2, q3 =>
        cases t1 <;> first | (simp [allLocal] at p8; done) | skip
        cases t2 <;> first | (simp [allLocal] at p8; done) | skip
        rename_i x px y py
        simp only [allLocal, Bool.and_eq_true, decide_eq_true_eq] at p8
        simp only [oneLine] at p9
        simp only [List.map, chkNs, Bool.and_eq_true, decide_eq_true_eq] at h1
        have hx := loc_of G p8.1
        have hy := loc_of G p8.2.1
        have e1 : X.N[i]? = some x := by rw [G.hN]; exact h1.1.1
        have e2 : X.N[j]? = some y := by rw [G.hN]; exact h1.2.1.1
        have hij : i ≠ j := by simpa using p4
        have hxy : x ≠ y := fun e => by
          subst e
          obtain ⟨l1, g1⟩ := List.getElem?_eq_some_iff.mp e1
          obtain ⟨l2, g2⟩ := List.getElem?_eq_some_iff.mp e2
          exact hij ((List.getElem_inj hnd).mp (g1.trans g2.symm))
        refine oks_par2 G.calm hnd e1 e2 hij hx hy hA ?_
        have k1' : X.env.kindOf x = some .local := hx
        have k2' : X.env.kindOf y = some .local := hy
        have pl' : py.line = px.line := by rw [beq_iff_eq] at p9; exact p9.symm
        have ed : ([x, y] : List Str).eraseDups.length = 2 := by
          simp [List.eraseDups_cons, Ne.symm hxy]
        unfold swappedStores
        dsimp only
        rw [if_neg (by rw [lt, lv, bk_fn G]; decide), if_neg (nsx fun x hx => by cases x <;> first | rfl | (simp [notStar] at hx)), if_neg, if_neg, if_neg]
        · simp [Expr.pos, List.filterMap_cons, k1', k2', pl']
        · simpa using p7
        · simpa using p6
        · simp [Expr.pos, List.filterMap_cons, k1', k2', pl', ed]
    · match ms, ts, vs, p1, p2, p3 with
      | [(i, b1), (j, b2), (l, b3)], [t1, t2, t3], [a, b, c], q1, q2, q3 =>
        cases t1 <;> first | (simp [allLocal] at p8; done) | skip
        cases t2 <;> first | (simp [allLocal] at p8; done) | skip
        cases t3 <;> first | (simp [allLocal] at p8; done) | skip
        rename_i x px y py z pz
        simp only [allLocal, Bool.and_eq_true, decide_eq_true_eq] at p8
        simp only [oneLine, Bool.and_eq_true] at p9
        simp only [List.map, chkNs, Bool.and_eq_true, decide_eq_true_eq] at h1
        have hx := loc_of G p8.1
        have hy := loc_of G p8.2.1
        have hz := loc_of G p8.2.2.1
        have e1 : X.N[i]? = some x := by rw [G.hN]; exact h1.1.1
        have e2 : X.N[j]? = some y := by rw [G.hN]; exact h1.2.1.1
        have e3 : X.N[l]? = some z := by rw [G.hN]; exact h1.2.2.1.1
        have hp : i ≠ j ∧ i ≠ l ∧ j ≠ l := by
          simp at p4
          exact ⟨p4.1.1, p4.1.2, p4.2⟩
        have ne : ∀ {i j : Nat} {x y : Str}, i ≠ j → X.N[i]? = some x → X.N[j]? = some y → x ≠ y := fun hij e1 e2 e => by
          subst e
          obtain ⟨l1, g1⟩ := List.getElem?_eq_some_iff.mp e1
          obtain ⟨l2, g2⟩ := List.getElem?_eq_some_iff.mp e2
          exact hij ((List.getElem_inj hnd).mp (g1.trans g2.symm))
        have hxy := ne hp.1 e1 e2
        have hxz := ne hp.2.1 e1 e3
        have hyz := ne hp.2.2 e2 e3
        refine oks_par3 G.calm hnd e1 e2 e3 hp.1 hp.2.1 hp.2.2 hx hy hz hA ?_
        have k1' : X.env.kindOf x = some .local := hx
        have k2' : X.env.kindOf y = some .local := hy
        have k3' : X.env.kindOf z = some .local := hz
        have pl' : py.line = px.line := by have q := p9.1; rw [beq_iff_eq] at q; exact q.symm
        have pl2' : pz.line = px.line := by have q := p9.2; rw [beq_iff_eq] at q; exact q.symm
        have ed : ([x, y, z] : List Str).eraseDups.length = 3 := by
          simp [List.eraseDups_cons, Ne.symm hxy, Ne.symm hxz, Ne.symm hyz]
        unfold swappedStores
        dsimp only
        rw [if_neg (by rw [lt, lv, bk_fn G]; decide), if_neg (nsx fun x hx => by cases x <;> first | rfl | (simp [notStar] at hx)), if_neg, if_neg, if_neg]
        · simp [Expr.pos, List.filterMap_cons, k1', k2', k3', pl', pl2']
        · simpa using p7
        · simpa using p6
        · simp [Expr.pos, List.filterMap_cons, k1', k2', k3', pl', pl2', ed]
  · -- a name is a cell
    refine oks_parP (by rcases p1 with p1 | p1 <;> omega) hA (chkTg_ok (tg := .tup (ms.map fun x : Nat × Bool => x.1)) G h1) ?_ ?_ rfl
    · exact noswap (v := .Tuple vs k2 pt2) (t := some (.Tuple ts kt pt)) (l := pos.line) (env := X.env) rfl
    · unfold swappedStores
      dsimp only
      rw [if_neg (by rw [lt, lv, bk_fn G]; decide), if_neg (nsx fun x hx => by cases x <;> first | rfl | (simp [notStar] at hx)), if_pos]
      simp only [Bool.or_eq_true, bne_iff_ne, ne_eq]
      exact .inl (Nat.ne_of_lt (names_few G (fun x p => rfl) p8))
theorem sok (s : Sx) : SOK T cl k fu N s := by
  induction s with
  | nil =>
    refine ⟨fun sc X G st h => by simp [chkS] at h, fun sc X G sts h => ?_⟩
    cases sts <;> first | (simp [chkSs, isEmpty'] at h; done) | exact oks_nil
  | seq s r ih1 ih2 =>
    refine ⟨fun sc X G st h => by simp [chkS] at h, fun sc X G sts h => ?_⟩
    by_cases hf : ∃ i, s = .frz i
    · obtain ⟨i, rfl⟩ := hf
      simp only [chkSs] at h
      exact oks_frz (ih2.l sc X G _ h)
    · cases sts with
      | nil => cases s <;> first | (simp [chkSs] at h; done) | exact absurd ⟨_, rfl⟩ hf
      | cons st sts =>
        have h' : chkS T N sc s st = true ∧ chkSs T N sc r sts = true := by
          cases s <;> first | (exact absurd ⟨_, rfl⟩ hf) | (simpa only [chkSs, Bool.and_eq_true] using h)
        exact oks_cons (ih1.s sc X G _ h'.1) (ih2.l sc X G _ h'.2)
  | set i e =>
    refine ⟨fun sc X G st h => ?_, fun sc X G sts h => by simp [chkSs] at h⟩
    simp only [chkS] at h
    split at h
    · rename_i t v hs
      obtain ⟨pos, rfl⟩ := sole_ok hs
      split at h
      · rename_i x hx
        obtain ⟨px, rfl⟩ := nameOf_ok hx
        simp only [Bool.and_eq_true, decide_eq_true_eq] at h
        exact set_ok G h
      · cases h
    · cases h
  | setT is e =>
    refine ⟨fun sc X G st h => ?_, fun sc X G sts h => by simp [chkSs] at h⟩
    simp only [chkS] at h
    split at h
    · rename_i es kk p v hs
      obtain ⟨pos, rfl⟩ := sole_ok hs
      simp only [Bool.and_eq_true] at h
      obtain ⟨⟨⟨h1, h2⟩, h3⟩, h4⟩ := h
      refine oks_setT ((pok e).e sc X G _ h2) (chkTg_ok (tg := .tup is) G h1) (by exact noswap (t := some (.Tuple es kk p)) (l := pos.line) (env := X.env) h4) ?_ rfl
      cases v <;> first | rfl | (simp [notTup] at h3; done)
    · cases h
  | setIx o i e =>
    refine ⟨fun sc X G st h => ?_, fun sc X G sts h => by simp [chkSs] at h⟩
    simp only [chkS] at h
    split at h
    · rename_i ob ix p2 v hs
      obtain ⟨pos, rfl⟩ := sole_ok hs
      simp only [Bool.and_eq_true] at h
      obtain ⟨⟨⟨h1, h2⟩, h3⟩, h4⟩ := h
      refine oks_setIx ((pok o).e sc X G _ h1) ((pok i).e sc X G _ h2) ((pok e).e sc X G _ h4) ?_ ?_ ?_ rfl
      · intro v
        cases ix <;> first | rfl | (simp [notSlice] at h3; done)
      · cases v <;> rfl
      · cases v <;> rfl
    · cases h
  | aug i op e =>
    refine ⟨fun sc X G st h => ?_, fun sc X G sts h => by simp [chkSs] at h⟩
    simp only [chkS] at h
    split at h
    · split at h
      · rename_i x hx
        obtain ⟨px, rfl⟩ := nameOf_ok hx
        simp only [Bool.and_eq_true, Bool.or_eq_true, decide_eq_true_eq] at h
        obtain ⟨⟨⟨⟨rfl, h1⟩, h2⟩, h3⟩, h4⟩ := h
        obtain ⟨l1, l2⟩ := G.loc h3
        exact oks_aug (by rw [G.hN]; exact G.nd) (by rw [G.hN]; exact h2) l1 ((pok e).e sc X G _ h4) l2 h1
      · cases h
    · cases h
  | ifs c a b iha ihb =>
    refine ⟨fun sc X G st h => ?_, fun sc X G sts h => by simp [chkSs] at h⟩
    cases st <;> first | (simp [chkS] at h; done) | skip
    simp only [chkS, Bool.and_eq_true] at h
    obtain ⟨⟨h1, h2⟩, h3⟩ := h
    exact oks_if ((pok c).t sc X G _ h1) (iha.l sc X G _ h2) (ihb.l sc X G _ h3)
  | for_ q it tg b ihb =>
    refine ⟨fun sc X G st h => ?_, fun sc X G sts h => by simp [chkSs] at h⟩
    cases st <;> first | (simp [chkS] at h; done) | skip
    rename_i t i body els pos
    simp only [chkS, Bool.and_eq_true] at h
    obtain ⟨⟨⟨⟨⟨h0, h1⟩, h1t⟩, h2⟩, h3⟩, h4⟩ := h
    cases els <;> first | (simp [isEmpty'] at h0; done) | skip
    exact oks_for G.xe G.calm ((pok it).i sc X G q t i h1 h1t) (chkTg_ok G h3) (ihb.l sc X G _ h4) (notSet_fold h2)
  | whl c b ihb =>
    refine ⟨fun sc X G st h => ?_, fun sc X G sts h => by simp [chkSs] at h⟩
    cases st <;> first | (simp [chkS] at h; done) | skip
    rename_i t body els pos
    simp only [chkS, Bool.and_eq_true] at h
    obtain ⟨⟨h0, h1⟩, h2⟩ := h
    cases els <;> first | (simp [isEmpty'] at h0; done) | skip
    exact oks_whl G.xe ((pok c).t sc X G _ h1) (ihb.l sc X G _ h2)
  | ret e =>
    refine ⟨fun sc X G st h => ?_, fun sc X G sts h => by simp [chkSs] at h⟩
    cases st <;> first | (simp [chkS] at h; done) | skip
    rename_i v pos
    cases v <;> first | (simp [chkS] at h; done) | skip
    simp only [chkS] at h
    exact oks_ret ((pok e).e sc X G _ h)
  | retN =>
    refine ⟨fun sc X G st h => ?_, fun sc X G sts h => by simp [chkSs] at h⟩
    cases st <;> first | (simp [chkS] at h; done) | skip
    rename_i v pos
    cases v <;> first | (simp [chkS] at h; done) | skip
    exact oks_retN
  | expr e =>
    refine ⟨fun sc X G st h => ?_, fun sc X G sts h => by simp [chkSs] at h⟩
    cases st <;> first | (simp [chkS] at h; done) | skip
    simp only [chkS, Bool.and_eq_true] at h
    exact oks_expr ((pok e).e sc X G _ h.1) (noswap h.2)
  | pass =>
    refine ⟨fun sc X G st h => ?_, fun sc X G sts h => by simp [chkSs] at h⟩
    cases st <;> first | (simp [chkS] at h; done) | exact oks_pass
  | brk =>
    refine ⟨fun sc X G st h => ?_, fun sc X G sts h => by simp [chkSs] at h⟩
    cases st <;> first | (simp [chkS] at h; done) | exact oks_brk
  | cont => exact ⟨fun sc X G st h => by simp [chkS] at h, fun sc X G sts h => by simp [chkSs] at h⟩
  | setO i e =>
    refine ⟨fun sc X G st h => ?_, fun sc X G sts h => by simp [chkSs] at h⟩
    simp only [chkS] at h
    split at h
    · rename_i t v hs
      obtain ⟨pos, rfl⟩ := sole_ok hs
      split at h
      · rename_i x hx
        obtain ⟨px, rfl⟩ := nameOf_ok hx
        simp only [Bool.and_eq_true, decide_eq_true_eq] at h
        exact setO_okS G h
      · cases h
    · cases h
  | retO i =>
    refine ⟨fun sc X G st h => ?_, fun sc X G sts h => by simp [chkSs] at h⟩
    cases st <;> first | (simp [chkS] at h; done) | skip
    rename_i v pos
    cases v <;> first | (simp [chkS] at h; done) | skip
    simp only [chkS] at h
    split at h
    · rename_i x hx
      obtain ⟨px, rfl⟩ := nameOf_ok hx
      simp only [Bool.and_eq_true, decide_eq_true_eq] at h
      obtain ⟨h1, h2, h3⟩ := G.vis h.2
      exact oks_retO (pe_var (by rw [G.hN]; exact h.1) h1 h2 h3)
    · cases h
  | appO i e =>
    refine ⟨fun sc X G st h => ?_, fun sc X G sts h => by simp [chkSs] at h⟩
    simp only [chkS] at h
    split at h
    · rename_i x n a hs
      obtain ⟨px, apos, cpos, pos, rfl, hl⟩ := callM_ok hs
      simp only [Bool.and_eq_true, decide_eq_true_eq] at h
      obtain ⟨⟨⟨⟨hn, h1⟩, h2⟩, h3⟩, h4⟩ := h
      obtain ⟨g1, g2, g3⟩ := G.vis h2
      exact oks_appO hn (pe_var (by rw [G.hN]; exact h1) g1 g2 g3) (oka_cons ((pok e).e sc X G _ h4) oka_nil (notStar_each h3)) (notStar_each h3) hl
    · cases h
  | extO i e =>
    refine ⟨fun sc X G st h => ?_, fun sc X G sts h => by simp [chkSs] at h⟩
    simp only [chkS] at h
    split at h
    · rename_i x n a hs
      obtain ⟨px, apos, cpos, pos, rfl, hl⟩ := callM_ok hs
      simp only [Bool.and_eq_true, decide_eq_true_eq] at h
      obtain ⟨⟨⟨⟨hn, h1⟩, h2⟩, h3⟩, h4⟩ := h
      obtain ⟨g1, g2, g3⟩ := G.vis h2
      exact oks_extO hn (pe_var (by rw [G.hN]; exact h1) g1 g2 g3) (okb_cons ((pok e).e sc X G _ h4) okb_nil (notStar_each h3)) (notStar_each h3) hl
    · cases h
  | revO i =>
    refine ⟨fun sc X G st h => ?_, fun sc X G sts h => by simp [chkSs] at h⟩
    simp only [chkS] at h
    split at h
    · rename_i x n hs
      obtain ⟨px, apos, cpos, pos, rfl, hl⟩ := callM_ok hs
      simp only [Bool.and_eq_true, decide_eq_true_eq] at h
      obtain ⟨⟨hn, h1⟩, h2⟩ := h
      obtain ⟨g1, g2, g3⟩ := G.vis h2
      exact oks_revO hn (pe_var (by rw [G.hN]; exact h1) g1 g2 g3) hl
    · cases h
  | putO i j e =>
    refine ⟨fun sc X G st h => ?_, fun sc X G sts h => by simp [chkSs] at h⟩
    simp only [chkS] at h
    split at h
    · rename_i ob ix p2 v hs
      obtain ⟨pos, rfl⟩ := sole_ok hs
      split at h
      · rename_i x hx
        obtain ⟨px, rfl⟩ := nameOf_ok hx
        simp only [Bool.and_eq_true, decide_eq_true_eq] at h
        obtain ⟨⟨⟨⟨h1, h2⟩, h3⟩, h4⟩, h5⟩ := h
        obtain ⟨g1, g2, g3⟩ := G.vis h2
        refine oks_putO (pe_var (by rw [G.hN]; exact h1) g1 g2 g3) ((pok j).e sc X G _ h3) ((pok e).e sc X G _ h5) ?_ ?_ ?_ rfl
        · intro v
          cases ix <;> first | rfl | (simp [notSlice] at h4; done)
        · cases v <;> rfl
        · cases v <;> rfl
      · cases h
    · cases h
  | par ms es =>
    refine ⟨fun sc X G st h => ?_, fun sc X G sts h => by simp [chkSs] at h⟩
    simp only [chkS] at h
    split at h
    · rename_i ts kt pt vs k2 pt2 hs
      obtain ⟨pos, rfl⟩ := sole_ok hs
      simp only [Bool.and_eq_true] at h
      obtain ⟨⟨h1, h2⟩, h3⟩ := h
      exact par_okS G h1 h2 h3
    · cases h
  | wipe is s ih =>
    refine ⟨fun sc X G st h => ?_, fun sc X G sts h => by simp [chkSs] at h⟩
    simp only [chkS] at h
    exact oks_wipe (ih.s sc X G _ h)
  | frz i => exact ⟨fun sc X G st h => by simp [chkS] at h, fun sc X G sts h => by simp [chkSs] at h⟩
  | setFld o x e => exact ⟨fun sc X G st h => by simp [chkS] at h, fun sc X G sts h => by simp [chkSs] at h⟩
  | fail => exact ⟨fun sc X G st h => oks_fail, fun sc X G sts h => by simp [chkSs] at h⟩
end
end FK

/-! ### the defs of a text -/
namespace FK
open PySem PySem.Spec PyProof.Rows L2
/-- a def: its name, its statement in the row, its names by slots, its parameters, its text in the small Python -/
structure En where
  x : Str
  st : Stmt
  N : List Str
  ps : List Str
  F : Fn
def scC (N ps : List Str) (sc : Scope) : Bool := decide (sc.kind = .function) && (sc.isCoroutine == false) && (sc.isGenerator == false) && decide N.Nodup && decide (N.take ps.length = ps)
  && ps.all (fun x => decide (sc.names.lookup x = some .local) || decide (sc.names.lookup x = some .cell)) && sc.names.all (fun y => decide (y.2 ≠ .free))
theorem scC_ok {N ps : List Str} {sc : Scope} (h : scC N ps sc = true) : FnScope N ps sc := by
  simp only [scC, Bool.and_eq_true, decide_eq_true_eq, beq_iff_eq, List.all_eq_true, Bool.or_eq_true] at h
  obtain ⟨⟨⟨⟨⟨⟨h1, h2⟩, h3⟩, h4⟩, h5⟩, h6⟩, h7⟩ := h
  exact ⟨h1, h2, h3, h4, h5, h6, h7⟩
def En.ok (T : Tab) (E : En) : Bool := scC E.N E.ps (defScope E.st) && decide (E.F.np = E.ps.length) && decide (E.F.ns = E.N.length) && chkSs T E.N (defScope E.st) E.F.body (defBody E.st)
section
variable {P : Program} {w : World} {K : PySem.W.Frag} {mg : Str → Option Value} {base : Heap}
/-- what the top has left for the names -/
structure Top (T : Tab) (K : PySem.W.Frag) (mg : Str → Option Value) : Prop where
  gl : ∀ x v, T.gl.lookup x = some v → ∃ u z, mg x = some u ∧ RelV z u ∧ ∀ ρ H, RepV K ρ H v z
  bn : ∀ x ∈ BN, mg x = none
theorem start_own {vs : List Vl} {m : Nat} {i : Nat} {v : Vl} (q : (vs.map some ++ List.replicate m (none : Option Vl))[i]? = some (some v)) : vs[i]? = some v := by
  by_cases hi : i < vs.length
  · rw [List.getElem?_append_left (by simpa using hi)] at q
    simp only [List.getElem?_map, Option.map_eq_some_iff, Option.some.injEq] at q
    obtain ⟨w, q, rfl⟩ := q
    exact q
  · rw [List.getElem?_append_right (by simpa using hi)] at q
    simp only [List.getElem?_replicate] at q
    split at q <;> cases q
theorem start_rep {ρ : Mp} {H : Hp} {vs : List Vl} {zs : List V} {N : List Str} {ns : Nat} (h : RepVs K ρ H vs zs) (e : ns = N.length) : RepS K ρ H (vs.map some ++ List.replicate (ns - vs.length) none) (start N zs) := by
  have hl := h.length
  have nf : ∀ (i : Nat) v, (vs.map some ++ List.replicate (ns - vs.length) none)[i]? = some (some v) → NotFl v = true := fun i v q => by
    obtain ⟨y, _, h2⟩ := h.get (start_own q)
    exact h2.nf
  refine ⟨by simp [L2.start, hl, e], fun i v q => ?_, fun i j v w x q1 q2 o1 => ?_, fun i v q => nf_nb (nf i v q)⟩
  rotate_left
  · rw [nf_own (nf i v q1)] at o1; cases o1
  unfold L2.start
  by_cases hi : i < vs.length
  · rw [List.getElem?_append_left (by simpa using hi)] at q
    rw [List.getElem?_append_left (by simpa [hl] using hi)]
    simp only [List.getElem?_map, Option.map_eq_some_iff, Option.some.injEq] at q
    obtain ⟨w, q, rfl⟩ := q
    obtain ⟨y, h1, h2⟩ := h.get q
    exact ⟨y, by simp [h1], h2.r⟩
  · rw [List.getElem?_append_right (by simpa using hi)] at q
    simp only [List.getElem?_replicate] at q
    split at q <;> cases q
theorem fn_step {T : Tab} {k fu : Nat} {cl : Nat → List Vl → AH → Option (Vl × AH)} {E : En} {fa : Addr} {fd : FuncData} {qual : Str} (F : Fun K E.x qual E.st fa fd) (hE : E.ok T = true) (G : Top T K mg)
    (IH : ∀ (f : Nat) x, T.fnm.lookup f = some x → ∃ fa fd ps, mg x = some (.ref fa) ∧ PySem.W.keepIn K (.ref fa) = true ∧ Binds K fd ps [] ∧ FnG P w K mg base k fa fd ps (cl f)) :
    FnG P w K mg base (k + 1) fa fd E.ps (runF T.gl cl fu E.F) := by
  simp only [En.ok, Bool.and_eq_true, decide_eq_true_eq] at hE
  obtain ⟨⟨⟨h1, h2⟩, h3⟩, h4⟩ := hE
  have S := scC_ok h1
  refine fnG_of F S (fun zs H Q h => ?_) (fun cdv A outer s H zs Q hr gd h => ?_)
  · obtain ⟨ρ, vs, ah, v, ah', hv, hH, he, q⟩ := h
    unfold runF at he
    split at he
    · rename_i hl
      rw [hv.length, hl, h2]
    · cases he
  · obtain ⟨ρ, vs, ah, v, ah', hv, hH, he, q⟩ := h
    unfold runF at he
    split at he
    · rename_i hl
      have no : ∀ a, ¬ Own (vs.map some ++ List.replicate (E.F.ns - vs.length) none) (L2.start E.N zs) a := fun a ⟨i, v, e1, e2, _⟩ => by
        obtain ⟨y, _, h2⟩ := hv.get (start_own e1)
        rw [nf_own h2.nf] at e2; cases e2
      have cl0 : ∀ {ρ' H'}, ExtO (Own (vs.map some ++ List.replicate (E.F.ns - vs.length) none) (L2.start E.N zs)) ρ H ρ' H' → Ext ρ H ρ' H' := fun x => x.mono fun a o => no a o
      refine ⟨rS K (evS T.gl cl fu E.F.body), (sok (T := T) (cl := cl) (k := k) (fu := fu) (N := E.N) E.F.body).l (defScope E.st) _ ?_ _ h4, ?_⟩
      · exact { calm := rfl, xe := rfl, hN := rfl, nd := S.nd, kd := S.kind, sco := fun x kd h => .inl h, fn := fun _ _ => rfl, room := hr, gd := gd, gl := G.gl, bn := G.bn, fns := IH }
      · split at he
        · rename_i w e1 h5 eq
          cases he
          exact ⟨ρ, _, ah, .rt v, e1, ah', start_rep hv h3, hH, eq, fun ρ' H' z x r v' f => q ρ' H' z (cl0 x) r v' fun o => let ⟨a, ea, h⟩ := f o; ⟨a, ea, h.elim (fun h => absurd h (no a)) id⟩⟩
        · rename_i e1 h5 eq
          cases he
          exact ⟨ρ, _, ah, .nx, e1, ah', start_rep hv h3, hH, eq, fun ρ' H' σ' x r _ _ => q ρ' H' .non (cl0 x) r (by simp only [RepR, RepV]) (Fr.of rfl)⟩
        · cases he
    · cases he
/-- where the defs stand -/
structure Stands (K : PySem.W.Frag) (mg : Str → Option Value) (E : En) (fa : Addr) (fd : FuncData) : Prop where
  f : Fun K E.x E.x E.st fa fd
  m : mg E.x = some (.ref fa)
  b : Binds K fd E.ps []
theorem lookup_mapv {α β γ : Type} [BEq α] (f : β → γ) : ∀ (l : List (α × β)) (a : α), (l.map fun p => (p.1, f p.2)).lookup a = (l.lookup a).map f
  | [], _ => rfl
  | (b, x) :: l, a => by
    simp only [List.map_cons, List.lookup_cons]
    split
    · rfl
    · exact lookup_mapv f l a
theorem lookup_mem {α β : Type} [BEq α] [LawfulBEq α] : ∀ {l : List (α × β)} {a : α} {x : β}, l.lookup a = some x → (a, x) ∈ l
  | [], _, _, h => by simp at h
  | (b, y) :: l, a, x, h => by
    rw [List.lookup_cons] at h
    split at h
    · rename_i hb
      cases h
      rw [beq_iff_eq] at hb
      subst hb
      simp
    · exact List.mem_cons_of_mem _ (lookup_mem h)
theorem all_ok {T : Tab} {fu : Nat} {es : List (Nat × En)} (hT : T.fnm = es.map fun p => (p.1, p.2.x)) (hE : es.all (·.2.ok T) = true) (G : Top T K mg) (hS : ∀ p ∈ es, ∃ fa fd, Stands K mg p.2 fa fd) :
    ∀ (k : Nat) (f : Nat) E, es.lookup f = some E → ∃ fa fd, Stands K mg E fa fd ∧ FnG P w K mg base k fa fd E.ps (callN (es.map fun p => (p.1, p.2.F)) T.gl fu k f)
  | 0, f, E, h => by
    obtain ⟨fa, fd, S⟩ := hS _ (lookup_mem h)
    refine ⟨fa, fd, S, ⟨fun zs H Q q => ?_, fun A outer s H args us zs Q _ _ _ _ _ q => ?_⟩⟩
    · obtain ⟨ρ, vs, ah, v, ah', _, _, he, _⟩ := q
      simp [callN] at he
    · obtain ⟨ρ, vs, ah, v, ah', _, _, he, _⟩ := q
      simp [callN] at he
  | k + 1, f, E, h => by
    obtain ⟨fa, fd, S⟩ := hS _ (lookup_mem h)
    refine ⟨fa, fd, S, ?_⟩
    have R := fn_step (P := P) (w := w) (base := base) (k := k) (fu := fu) (cl := callN (es.map fun p => (p.1, p.2.F)) T.gl fu k) S.f (List.all_eq_true.mp hE _ (lookup_mem h)) G fun f' x hx => by
      rw [hT, lookup_mapv (fun E : En => E.x), Option.map_eq_some_iff] at hx
      obtain ⟨E', hx, rfl⟩ := hx
      obtain ⟨fa', fd', S', R'⟩ := all_ok hT hE G hS k f' E' hx
      exact ⟨fa', fd', E'.ps, S'.m, S'.f.kp, S'.b, R'⟩
    have e : callN (es.map fun p => (p.1, p.2.F)) T.gl fu (k + 1) f = runF T.gl (callN (es.map fun p => (p.1, p.2.F)) T.gl fu k) fu E.F := by
      funext vs ah
      simp only [callN, lookup_mapv (fun E : En => E.F), h, Option.map_some]
    rw [e]
    exact R
/-- what the script may be in the layer's heap -/
def scriptH (K : PySem.W.Frag) (a : Addr) (o : Obj) (ns : List Int) : Hp := fun b => if (K.lookup a).isNone && decide (b = a) then some (.frz o (.lst (ns.map V.int))) else none
/-- THE LAW's CALL: where the small Python comes to True at the script -/
theorem law_goes {mb : Str → Option Value} {m : List Vl → AH → Option (Vl × AH)} {k : Nat} {fa a : Addr} {fd : FuncData} {x : Str} {s : Shared} {vs : List Value} {ns : List Int} (kin : K.In s.heap) (hg : s.heap.Ns mainGlobals mg) (hb : s.heap.Ns builtinsNs mb)
    (hbb : ∀ x : Str, x ≠ "__name__" → mb x = bootBuiltins x) (lim : s.heap.NoLimit) (gens : s.gens = #[]) (obj : s.heap.get? a = some { cls := .type "list", data := .seq vs.toArray }) (areI : IntsAre vs ns) (few : ns.length ≤ sizeLine) (room : Room k callerA)
    (F : ∀ base : Heap, K.In base → base.Ns mainGlobals mg → FnG P w K mg base k fa fd [x] m) (bnd : Binds K fd [x] []) (hm : ∃ h', m [.kz (ns.map .int)] [] = some (.bl true, h')) :
    codeAny (model P w) callerA (.call (.ref fa) ⟨[.ref a], []⟩) (fun r s' => r = .ok (.ret (.bool true)) ∧ OldK s.heap s'.heap ∧ s'.os = s.os ∧ AllBare s'.gens) s := by
  have vals := vals_ints areI
  have many : vs.length = ns.length := by rw [← vals.length, List.length_map]
  obtain ⟨ob, eob⟩ : ∃ ob : Obj, ob = { cls := .type "list", data := .seq vs.toArray } := ⟨_, rfl⟩
  rw [← eob] at obj
  obtain ⟨H, eH⟩ : ∃ H, H = scriptH K a ob ns := ⟨_, rfl⟩
  -- what stands in H
  have atH : ∀ b u, H b = some u → b = a ∧ K.lookup a = none ∧ u = .frz ob (.lst (ns.map V.int)) := fun b u e => by
    rw [eH] at e
    unfold scriptH at e
    split at e
    · rename_i hc
      simp only [Bool.and_eq_true, decide_eq_true_eq, Option.isNone_iff_eq_none] at hc
      exact ⟨hc.2, hc.1, (Option.some.inj e).symm⟩
    · cases e
  have isL : ObjOk P w H s.heap a (.lst (ns.map V.int)) := ⟨by rw [List.length_map]; exact few, vs, _, vals, by rw [obj, eob]⟩
  have hok : HOk P w H s.heap := fun b u e => by
    obtain ⟨rfl, _, rfl⟩ := atH b u e
    exact ⟨obj, isL⟩
  have rd : SL K H a (ns.map V.int) := by
    cases q : K.lookup a with
    | none => exact .inl ⟨ob, by rw [eH]; simp [scriptH, q]⟩
    | some o =>
      have e := kin a o q
      rw [obj] at e
      cases e
      refine .inr (.inr ⟨ob, vs.toArray, 0, q, by rw [eob], by rw [eob], by rw [eob], by simpa [many] using few, by simpa using vals⟩)
  -- the base: all that is not tracked
  have stays : ∀ {b : Addr} {o : Obj}, s.heap.get? b = some o → H b = none → (hidT s.heap H).get? b = some o := fun e n => hidT_get e n
  have free : ∀ {b : Addr} {o : Obj}, s.heap.get? b = some o → o ≠ ob → H b = none := fun {b o} e ne => by
    cases q : H b with
    | none => rfl
    | some u =>
      obtain ⟨rfl, _, _⟩ := atH b u q
      rw [obj] at e
      exact absurd (Option.some.inj e).symm ne
  have names : ∀ {b : Addr} {mp : Str → Option Value}, s.heap.Ns b mp → (hidT s.heap H).Ns b mp := fun {b mp} ⟨o, es, ep, e, d, r⟩ => ⟨o, es, ep, stays e (free e fun z => by
    rw [z, eob] at d
    cases d), d, r⟩
  have kin' : K.In (hidT s.heap H) := fun b o e => stays (kin b o e) (by
    cases q : H b with
    | none => rfl
    | some u =>
      obtain ⟨rfl, z, _⟩ := atH b u q
      rw [z] at e; cases e)
  obtain ⟨mc, lim1, lim2⟩ := id lim
  have mod : Mod K mg (hidT s.heap H) := { kin := kin', glob := names hg, blt := ⟨mb, names hb, hbb⟩, nolimit := ⟨mc, names lim1, lim2⟩ }
  have env0 : Env0 P w K mg (hidT s.heap H) callerA [] s H := { frames := rfl, mod := mod, bs := fun b o e => of_hidT e, bsz := Nat.le_of_eq (hidT_size _ _), funs := trivial, frf := (fun b z => nomatch z), hok := hok, bare := .of_eq gens }
  obtain ⟨h', em⟩ := hm
  have promise : spF K m [.ref a] H (fun v _ => v = .bl true) := by
    refine ⟨⟨[], fun _ => False⟩, [.kz (ns.map .int)], [], .bl true, h', RepVs.cons ?_ (by simp only [RepVs]), ⟨rfl, .nil, fun a z => z.elim, fun a z => z.elim, fun n b o e => by simp at e⟩, em, fun ρ' H' z x r v f => v.bl_⟩
    simp only [RepV]
    exact ⟨a, ns.map V.int, rfl, rd, ints_rep ns⟩
  refine codeAny_mono ((F _ kin' (names hg)).run callerA [] s H ⟨[.ref a], []⟩ [.ref a] [.ref a] _ room rfl env0 (bnd s [.ref a] kin rfl) (.cons rfl .nil) promise) fun r s' end_ => ?_
  match r, end_ with
  | .error _, z => exact False.elim z
  | .ok .next, z => exact False.elim z
  | .ok .brk, z => exact False.elim z
  | .ok .cont, z => exact False.elim z
  | .ok (.ret u), ⟨v, H', os, bare, un, hok', rel, q⟩ =>
    have q' : v = .bl true := q
    subst q'
    have eu : u = Value.bool true := rel
    subst eu
    refine ⟨rfl, OldK.of_keep fun b o e => ?_, os, bare⟩
    cases q2 : H b with
    | none => exact un.keep b o e q2 (fun z => nomatch z) (fun z => nomatch z)
    | some u =>
      obtain ⟨rfl, _, rfl⟩ := atH b u q2
      rw [e] at obj
      cases obj
      exact (hok' b _ (un.frzs b _ _ q2)).1
end
end FK

namespace FK
open PySem PySem.Spec PyProof.Rows L2
/-- the walk that k_head leaves, from the small Python's own end -/
theorem walkG {l : PySem.W.OpenLaw} {k : Nat} {q : Program} {loose : List Str} {XP : (Str → Option Value) → Heap → Prop} {YP : World → Heap → Prop} {d : DefRec} {K : Params → PySem.W.Frag} {x : Str} {m : List Vl → AH → Option (Vl × AH)}
    (most : l.most = some 63) (plain : d.params.defaults = []) (room : Room k callerA) (kin : ∀ (w : World) (h : Heap), YP w h → (K w.params).In h)
    (F : ∀ (w : World) (mg : Str → Option Value) (fa : Addr) (h : Heap), (K w.params).In h → h.Ns mainGlobals mg → mg d.name = some (.ref fa) →
      ∃ fd : FuncData, Binds (K w.params) fd [x] [] ∧ ∀ base : Heap, (K w.params).In base → base.Ns mainGlobals mg → FnG l.prog w (K w.params) mg base k fa fd [x] m)
    (hm : ∀ ns : List Int, ns.length ≤ 63 → ∃ h', m [.kz (ns.map .int)] [] = some (.bl true, h')) : PySem.W.WalkO q loose XP YP l.row.toRowW d [] (fun f vs => PySem.call f vs) := by
  refine Att.attach_call most plain ?_
  intro w sA sB mg mb fa o pm cd doc a vs ns gr yp obj dat code at_ lst areI few gens
  have inn := kin w _ yp
  obtain ⟨fd, bnd, goes⟩ := F w mg fa _ inn gr.T.g at_
  exact law_goes inn gr.T.g gr.T.b gr.T.builtins gr.T.nolimit gens lst areI (Nat.le_trans few (by decide)) room goes bnd (hm ns few)
/-- a def's place from what the head tells -/
theorem stands_mk {K : PySem.W.Frag} {mg : Str → Option Value} {h : Heap} {E : En} {f : Addr} {oc : Value} {od an : Option Addr} {osl : Array (Option Value)} {kV doc pm cdv ct : Value} (X : K.In h) (G : h.Ns mainGlobals mg)
    (a : PySem.W.nsIn K mainGlobals E.x = some (some (.ref f))) (l : K.lookup f = some ⟨oc, od, .func (PySem.W.fnOf E.x E.x (defArgs E.st) (defBody E.st) (defScope E.st) .none kV doc pm an cdv ct), osl⟩)
    (c : PySem.W.codeIn K cdv E.x = true) (k : PySem.W.keepIn K (.ref f) = true)
    (b : ∀ (kV doc pm : Value) (an : Option Addr) (cdv ct : Value) (us : List Value), us.length = E.ps.length → bindArgs (PySem.W.fnOf E.x E.x (defArgs E.st) (defBody E.st) (defScope E.st) .none kV doc pm an cdv ct) ⟨us, []⟩ = pure (E.ps.zip us)) : ∃ fa fd, Stands K mg E fa fd := by
  have F := fun_mk (st := E.st) l c k
  exact ⟨f, _, F, PySem.W.mg_of X G a, F.binds b⟩
/-- the law's def, from all that the head tells -/
theorem law_mk {P : Program} {w : World} {K : PySem.W.Frag} {mg : Str → Option Value} {fa : Addr} {T : Tab} {es : List (Nat × En)} {x : Str} {f k fu : Nat} {E : En} (hf : es.lookup f = some E) (hx : E.ps = [x]) (hfa : mg E.x = some (.ref fa)) (hT : T.fnm = es.map fun p => (p.1, p.2.x)) (hE : es.all (·.2.ok T) = true) (G : Top T K mg)
    (hS : ∀ p ∈ es, ∃ fa fd, Stands K mg p.2 fa fd) : ∃ fd : FuncData, Binds K fd [x] [] ∧ ∀ base : Heap, K.In base → base.Ns mainGlobals mg → FnG P w K mg base k fa fd [x] (callN (es.map fun p => (p.1, p.2.F)) T.gl fu k f) := by
  obtain ⟨fa', fd, S⟩ := hS _ (lookup_mem hf)
  have e := S.m
  rw [hfa] at e
  cases e
  refine ⟨fd, hx ▸ S.b, fun base _ _ => ?_⟩
  obtain ⟨fb, fd', S', R⟩ := all_ok (P := P) (w := w) (base := base) (fu := fu) hT hE G hS k f E hf
  have e' := S'.m
  rw [hfa] at e'
  cases e'
  have l1 := S.f.ex
  have l2 := S'.f.ex
  obtain ⟨_, _, _, _, _, _, _, _, _, rfl, l1, _⟩ := l1
  obtain ⟨_, _, _, _, _, _, _, _, _, rfl, l2, _⟩ := l2
  rw [l1] at l2
  have q := Option.some.inj l2
  injection q with _ _ q _
  injection q with q
  rw [← hx]
  rw [← q] at R
  exact R
theorem gl_str {K : PySem.W.Frag} {mg : Str → Option Value} {h : Heap} {x v : Str} {t : Tok} (X : K.In h) (G : h.Ns mainGlobals mg) (a : PySem.W.nsIn K mainGlobals x = some (some (.str v t))) : ∃ u z, mg x = some u ∧ RelV z u ∧ ∀ ρ H, RepV K ρ H (.str v) z :=
  ⟨_, .str v, PySem.W.mg_of X G a, ⟨t, rfl⟩, fun ρ H => by simp only [RepV]⟩
theorem gl_int {K : PySem.W.Frag} {mg : Str → Option Value} {h : Heap} {x : Str} {v : Int} {t : Tok} (X : K.In h) (G : h.Ns mainGlobals mg) (a : PySem.W.nsIn K mainGlobals x = some (some (.int v t))) : ∃ u z, mg x = some u ∧ RelV z u ∧ ∀ ρ H, RepV K ρ H (.int v) z :=
  ⟨_, .int v, PySem.W.mg_of X G a, ⟨t, rfl⟩, fun ρ H => by simp only [RepV]⟩
end FK

/-! ### reasoning over the small Python: what comes of it, and what is then so -/
namespace FK
open PySem PySem.Spec PyProof.Rows L2
/-- a program of the small Python -/
structure Wd where
  fns : List (Nat × Fn)
  gl : List (Str × Vl)
  fu : Nat
def Wd.C (W : Wd) (k f : Nat) (vs : List Vl) (h : AH) : Option (Vl × AH) := callN W.fns W.gl W.fu k f vs h
theorem Wd.C_run {W : Wd} {k f : Nat} {F : Fn} (e : W.fns.lookup f = some F) (vs : List Vl) (h : AH) : W.C (k + 1) f vs h = runF W.gl (W.C k) W.fu F vs h := by
  show callN W.fns W.gl W.fu (k + 1) f vs h = _
  rw [callN, e]
  rfl
/-- a mark, so that simp does not go into what stands behind -/
inductive Tk {α : Type} (Q : α → Prop) : Type
  | mk
/-- it comes to something that is so -/
def Ok {α : Type} (o : Option α) (Q : α → Prop) (_ : Tk Q := .mk) : Prop := ∃ a, o = some a ∧ Q a
section
variable {α : Type} {o : Option α} {a : α} {P Q : α → Prop}
theorem ok_some : Ok (some a) Q = Q a := propext ⟨fun ⟨_, e, q⟩ => by cases e; exact q, fun q => ⟨a, rfl, q⟩⟩
theorem ok_none : Ok (none : Option α) Q = False := propext ⟨fun ⟨_, e, _⟩ => (by cases e), False.elim⟩
theorem Ok.mono (h : Ok o P) (f : ∀ a, P a → Q a) : Ok o Q := let ⟨a, e, p⟩ := h; ⟨a, e, f a p⟩
theorem Ok.of (h : o = some a) (q : Q a) : Ok o Q := ⟨a, h, q⟩
theorem Ok.by {b : α} (h : o = some b) : Ok o Q = Q b := by rw [h, ok_some]
theorem ok_eq {b : α} : Ok o (fun a => a = b) = (o = some b) := propext ⟨fun ⟨_, e, q⟩ => by rw [e, q], fun e => ⟨b, e, rfl⟩⟩
theorem Ok.eq {b : α} (h : Ok o (fun a => a = b)) : o = some b := by rwa [ok_eq] at h
theorem ok_if {c : Prop} [Decidable c] : Ok (if c then o else none) Q = (c ∧ Ok o Q) := by
  by_cases h : c
  · simp [h]
  · simp [h, ok_none]
theorem ok_if2 {c : Prop} [Decidable c] {o2 : Option α} : Ok (if c then o else o2) Q = (if c then Ok o Q else Ok o2 Q) := by
  by_cases h : c <;> simp [h]
theorem ok_map {β : Type} {o : Option β} {f : β → α} : Ok (o.map f) Q = Ok o fun b => Q (f b) := by cases o <;> simp [ok_none, ok_some]
theorem ok_bind {β : Type} {o : Option β} {f : β → Option α} : Ok (o.bind f) Q = Ok o fun b => Ok (f b) Q := by cases o <;> simp [ok_none, ok_some]
end
inductive Tk2 {α β : Type} (Q : α → β → Prop) : Type
  | mk
inductive Tk3 {α β γ : Type} (Q : α → β → γ → Prop) : Type
  | mk
def O2 {α β : Type} (o : Option (α × β)) (Q : α → β → Prop) (_ : Tk2 Q := .mk) : Prop := ∃ a b, o = some (a, b) ∧ Q a b
def O3 {α β γ : Type} (o : Option (α × β × γ)) (Q : α → β → γ → Prop) (_ : Tk3 Q := .mk) : Prop := ∃ a b c, o = some (a, b, c) ∧ Q a b c
section
variable {α β γ : Type} {o : Option (α × β)} {a : α} {b : β} {c : γ} {P Q : α → β → Prop} {o3 : Option (α × β × γ)} {P3 Q3 : α → β → γ → Prop}
theorem o2_some : O2 (some (a, b)) Q = Q a b := propext ⟨fun ⟨_, _, e, q⟩ => by cases e; exact q, fun q => ⟨a, b, rfl, q⟩⟩
theorem o2_none : O2 (none : Option (α × β)) Q = False := propext ⟨fun ⟨_, _, e, _⟩ => (by cases e), False.elim⟩
theorem o2_someP {p : α × β} : O2 (some p) Q = Q p.1 p.2 := o2_some
theorem o3_someP {p : α × β × γ} : O3 (some p) Q3 = Q3 p.1 p.2.1 p.2.2 := propext ⟨fun ⟨_, _, _, e, q⟩ => by cases e; exact q, fun q => ⟨p.1, p.2.1, p.2.2, rfl, q⟩⟩
theorem o3_some : O3 (some (a, b, c)) Q3 = Q3 a b c := propext ⟨fun ⟨_, _, _, e, q⟩ => by cases e; exact q, fun q => ⟨a, b, c, rfl, q⟩⟩
theorem o3_none : O3 (none : Option (α × β × γ)) Q3 = False := propext ⟨fun ⟨_, _, _, e, _⟩ => (by cases e), False.elim⟩
theorem O2.mono (h : O2 o P) (f : ∀ a b, P a b → Q a b) : O2 o Q := let ⟨a, b, e, p⟩ := h; ⟨a, b, e, f a b p⟩
theorem O3.mono (h : O3 o3 P3) (f : ∀ a b c, P3 a b c → Q3 a b c) : O3 o3 Q3 := let ⟨a, b, c, e, p⟩ := h; ⟨a, b, c, e, f a b c p⟩
theorem O2.of (h : o = some (a, b)) (q : Q a b) : O2 o Q := ⟨a, b, h, q⟩
theorem O3.of (h : o3 = some (a, b, c)) (q : Q3 a b c) : O3 o3 Q3 := ⟨a, b, c, h, q⟩
theorem O2.eq (h : O2 o fun x y => x = a ∧ y = b) : o = some (a, b) := by obtain ⟨x, y, e, rfl, rfl⟩ := h; exact e
theorem O3.eq (h : O3 o3 fun x y z => x = a ∧ y = b ∧ z = c) : o3 = some (a, b, c) := by obtain ⟨x, y, z, e, rfl, rfl, rfl⟩ := h; exact e
theorem o2_if {c : Prop} [Decidable c] : O2 (if c then o else none) Q = (c ∧ O2 o Q) := by
  by_cases h : c
  · simp [h]
  · simp [h, o2_none]
theorem o3_if {c : Prop} [Decidable c] : O3 (if c then o3 else none) Q3 = (c ∧ O3 o3 Q3) := by
  by_cases h : c
  · simp [h]
  · simp [h, o3_none]
end
def intV : Vl → Option Int
  | .int i => some i
  | _ => none
def blV : Vl → Option Bool
  | .bl i => some i
  | _ => none
@[simp] theorem rdV_non  : rdV .non = .non := rfl
@[simp] theorem frzV_non  : frzV .non = some .non := rfl
@[simp] theorem lendV_non  : lendV .non = .non := rfl
@[simp] theorem anyBw_non  (r : List Vl) : anyBw (.non :: r) = anyBw r := rfl
@[simp] theorem ownedV_non  : Vl.owned .non = false := rfl
@[simp] theorem isTup_non  : isTup .non = false := rfl
@[simp] theorem intV_non  : intV .non = none := rfl
@[simp] theorem blV_non  : blV .non = none := rfl
@[simp] theorem rdV_bl (b : Bool) : rdV (.bl b) = (.bl b) := rfl
@[simp] theorem frzV_bl (b : Bool) : frzV (.bl b) = some (.bl b) := rfl
@[simp] theorem lendV_bl (b : Bool) : lendV (.bl b) = (.bl b) := rfl
@[simp] theorem anyBw_bl (b : Bool) (r : List Vl) : anyBw ((.bl b) :: r) = anyBw r := rfl
@[simp] theorem ownedV_bl (b : Bool) : Vl.owned (.bl b) = false := rfl
@[simp] theorem isTup_bl (b : Bool) : isTup (.bl b) = false := rfl
@[simp] theorem intV_bl (b : Bool) : intV (.bl b) = none := rfl
@[simp] theorem blV_bl (b : Bool) : blV (.bl b) = some b := rfl
@[simp] theorem rdV_int (i : Int) : rdV (.int i) = (.int i) := rfl
@[simp] theorem frzV_int (i : Int) : frzV (.int i) = some (.int i) := rfl
@[simp] theorem lendV_int (i : Int) : lendV (.int i) = (.int i) := rfl
@[simp] theorem anyBw_int (i : Int) (r : List Vl) : anyBw ((.int i) :: r) = anyBw r := rfl
@[simp] theorem ownedV_int (i : Int) : Vl.owned (.int i) = false := rfl
@[simp] theorem isTup_int (i : Int) : isTup (.int i) = false := rfl
@[simp] theorem intV_int (i : Int) : intV (.int i) = some i := rfl
@[simp] theorem blV_int (i : Int) : blV (.int i) = none := rfl
@[simp] theorem rdV_str (x : Str) : rdV (.str x) = (.str x) := rfl
@[simp] theorem frzV_str (x : Str) : frzV (.str x) = some (.str x) := rfl
@[simp] theorem lendV_str (x : Str) : lendV (.str x) = (.str x) := rfl
@[simp] theorem anyBw_str (x : Str) (r : List Vl) : anyBw ((.str x) :: r) = anyBw r := rfl
@[simp] theorem ownedV_str (x : Str) : Vl.owned (.str x) = false := rfl
@[simp] theorem isTup_str (x : Str) : isTup (.str x) = false := rfl
@[simp] theorem intV_str (x : Str) : intV (.str x) = none := rfl
@[simp] theorem blV_str (x : Str) : blV (.str x) = none := rfl
@[simp] theorem rdV_ty (n : String) : rdV (.ty n) = (.ty n) := rfl
@[simp] theorem frzV_ty (n : String) : frzV (.ty n) = some (.ty n) := rfl
@[simp] theorem lendV_ty (n : String) : lendV (.ty n) = (.ty n) := rfl
@[simp] theorem anyBw_ty (n : String) (r : List Vl) : anyBw ((.ty n) :: r) = anyBw r := rfl
@[simp] theorem ownedV_ty (n : String) : Vl.owned (.ty n) = false := rfl
@[simp] theorem isTup_ty (n : String) : isTup (.ty n) = false := rfl
@[simp] theorem intV_ty (n : String) : intV (.ty n) = none := rfl
@[simp] theorem blV_ty (n : String) : blV (.ty n) = none := rfl
@[simp] theorem rdV_tup (xs : List Vl) : rdV (.tup xs) = (.tup xs) := rfl
@[simp] theorem frzV_tup (xs : List Vl) : frzV (.tup xs) = some (.tup xs) := rfl
@[simp] theorem lendV_tup (xs : List Vl) : lendV (.tup xs) = (.tup xs) := rfl
@[simp] theorem anyBw_tup (xs : List Vl) (r : List Vl) : anyBw ((.tup xs) :: r) = anyBw r := rfl
@[simp] theorem ownedV_tup (xs : List Vl) : Vl.owned (.tup xs) = false := rfl
@[simp] theorem isTup_tup (xs : List Vl) : isTup (.tup xs) = true := rfl
@[simp] theorem intV_tup (xs : List Vl) : intV (.tup xs) = none := rfl
@[simp] theorem blV_tup (xs : List Vl) : blV (.tup xs) = none := rfl
@[simp] theorem rdV_ref (n : Nat) : rdV (.ref n) = (.ref n) := rfl
@[simp] theorem frzV_ref (n : Nat) : frzV (.ref n) = some (.ref n) := rfl
@[simp] theorem lendV_ref (n : Nat) : lendV (.ref n) = (.ref n) := rfl
@[simp] theorem anyBw_ref (n : Nat) (r : List Vl) : anyBw ((.ref n) :: r) = anyBw r := rfl
@[simp] theorem ownedV_ref (n : Nat) : Vl.owned (.ref n) = false := rfl
@[simp] theorem isTup_ref (n : Nat) : isTup (.ref n) = false := rfl
@[simp] theorem intV_ref (n : Nat) : intV (.ref n) = none := rfl
@[simp] theorem blV_ref (n : Nat) : blV (.ref n) = none := rfl
@[simp] theorem rdV_fl (xs : List Vl) : rdV (.fl xs) = (.bw xs) := rfl
@[simp] theorem frzV_fl (xs : List Vl) : frzV (.fl xs) = some (.fz xs) := rfl
@[simp] theorem lendV_fl (xs : List Vl) : lendV (.fl xs) = (.fz xs) := rfl
@[simp] theorem anyBw_fl (xs : List Vl) (r : List Vl) : anyBw ((.fl xs) :: r) = anyBw r := rfl
@[simp] theorem ownedV_fl (xs : List Vl) : Vl.owned (.fl xs) = true := rfl
@[simp] theorem isTup_fl (xs : List Vl) : isTup (.fl xs) = false := rfl
@[simp] theorem intV_fl (xs : List Vl) : intV (.fl xs) = none := rfl
@[simp] theorem blV_fl (xs : List Vl) : blV (.fl xs) = none := rfl
@[simp] theorem rdV_fz (xs : List Vl) : rdV (.fz xs) = (.fz xs) := rfl
@[simp] theorem frzV_fz (xs : List Vl) : frzV (.fz xs) = some (.fz xs) := rfl
@[simp] theorem lendV_fz (xs : List Vl) : lendV (.fz xs) = (.fz xs) := rfl
@[simp] theorem anyBw_fz (xs : List Vl) (r : List Vl) : anyBw ((.fz xs) :: r) = anyBw r := rfl
@[simp] theorem ownedV_fz (xs : List Vl) : Vl.owned (.fz xs) = false := rfl
@[simp] theorem isTup_fz (xs : List Vl) : isTup (.fz xs) = false := rfl
@[simp] theorem intV_fz (xs : List Vl) : intV (.fz xs) = none := rfl
@[simp] theorem blV_fz (xs : List Vl) : blV (.fz xs) = none := rfl
@[simp] theorem rdV_bw (xs : List Vl) : rdV (.bw xs) = (.bw xs) := rfl
@[simp] theorem frzV_bw (xs : List Vl) : frzV (.bw xs) = none := rfl
@[simp] theorem lendV_bw (xs : List Vl) : lendV (.bw xs) = (.fz xs) := rfl
@[simp] theorem anyBw_bw (xs : List Vl) (r : List Vl) : anyBw ((.bw xs) :: r) = true := rfl
@[simp] theorem ownedV_bw (xs : List Vl) : Vl.owned (.bw xs) = false := rfl
@[simp] theorem isTup_bw (xs : List Vl) : isTup (.bw xs) = false := rfl
@[simp] theorem intV_bw (xs : List Vl) : intV (.bw xs) = none := rfl
@[simp] theorem blV_bw (xs : List Vl) : blV (.bw xs) = none := rfl
@[simp] theorem rdV_kz (xs : List Vl) : rdV (.kz xs) = (.kz xs) := rfl
@[simp] theorem frzV_kz (xs : List Vl) : frzV (.kz xs) = some (.kz xs) := rfl
@[simp] theorem lendV_kz (xs : List Vl) : lendV (.kz xs) = (.kz xs) := rfl
@[simp] theorem anyBw_kz (xs : List Vl) (r : List Vl) : anyBw ((.kz xs) :: r) = anyBw r := rfl
@[simp] theorem ownedV_kz (xs : List Vl) : Vl.owned (.kz xs) = false := rfl
@[simp] theorem isTup_kz (xs : List Vl) : isTup (.kz xs) = false := rfl
@[simp] theorem intV_kz (xs : List Vl) : intV (.kz xs) = none := rfl
@[simp] theorem blV_kz (xs : List Vl) : blV (.kz xs) = none := rfl
@[simp] theorem rdV_fd (ks : List Ky) (xs : List Vl) : rdV (.fd ks xs) = (.bd ks xs) := rfl
@[simp] theorem frzV_fd (ks : List Ky) (xs : List Vl) : frzV (.fd ks xs) = some (.zd ks xs) := rfl
@[simp] theorem lendV_fd (ks : List Ky) (xs : List Vl) : lendV (.fd ks xs) = (.zd ks xs) := rfl
@[simp] theorem anyBw_fd (ks : List Ky) (xs : List Vl) (r : List Vl) : anyBw ((.fd ks xs) :: r) = anyBw r := rfl
@[simp] theorem ownedV_fd (ks : List Ky) (xs : List Vl) : Vl.owned (.fd ks xs) = true := rfl
@[simp] theorem isTup_fd (ks : List Ky) (xs : List Vl) : isTup (.fd ks xs) = false := rfl
@[simp] theorem intV_fd (ks : List Ky) (xs : List Vl) : intV (.fd ks xs) = none := rfl
@[simp] theorem blV_fd (ks : List Ky) (xs : List Vl) : blV (.fd ks xs) = none := rfl
@[simp] theorem rdV_zd (ks : List Ky) (xs : List Vl) : rdV (.zd ks xs) = (.zd ks xs) := rfl
@[simp] theorem frzV_zd (ks : List Ky) (xs : List Vl) : frzV (.zd ks xs) = some (.zd ks xs) := rfl
@[simp] theorem lendV_zd (ks : List Ky) (xs : List Vl) : lendV (.zd ks xs) = (.zd ks xs) := rfl
@[simp] theorem anyBw_zd (ks : List Ky) (xs : List Vl) (r : List Vl) : anyBw ((.zd ks xs) :: r) = anyBw r := rfl
@[simp] theorem ownedV_zd (ks : List Ky) (xs : List Vl) : Vl.owned (.zd ks xs) = false := rfl
@[simp] theorem isTup_zd (ks : List Ky) (xs : List Vl) : isTup (.zd ks xs) = false := rfl
@[simp] theorem intV_zd (ks : List Ky) (xs : List Vl) : intV (.zd ks xs) = none := rfl
@[simp] theorem blV_zd (ks : List Ky) (xs : List Vl) : blV (.zd ks xs) = none := rfl
@[simp] theorem rdV_bd (ks : List Ky) (xs : List Vl) : rdV (.bd ks xs) = (.bd ks xs) := rfl
@[simp] theorem frzV_bd (ks : List Ky) (xs : List Vl) : frzV (.bd ks xs) = none := rfl
@[simp] theorem lendV_bd (ks : List Ky) (xs : List Vl) : lendV (.bd ks xs) = (.zd ks xs) := rfl
@[simp] theorem anyBw_bd (ks : List Ky) (xs : List Vl) (r : List Vl) : anyBw ((.bd ks xs) :: r) = true := rfl
@[simp] theorem ownedV_bd (ks : List Ky) (xs : List Vl) : Vl.owned (.bd ks xs) = false := rfl
@[simp] theorem isTup_bd (ks : List Ky) (xs : List Vl) : isTup (.bd ks xs) = false := rfl
@[simp] theorem intV_bd (ks : List Ky) (xs : List Vl) : intV (.bd ks xs) = none := rfl
@[simp] theorem blV_bd (ks : List Ky) (xs : List Vl) : blV (.bd ks xs) = none := rfl
@[simp] theorem anyBw_nil : anyBw [] = false := rfl
def seqQ (m : MS) (Q : Fl → AE → AH → Prop) (f : Fl) (e : AE) (h : AH) : Prop := match f with
  | .nx => O3 (m e h) Q
  | f => Q f e h
def retQ (Q : Vl → AH → Prop) (f : Fl) (_ : AE) (h : AH) : Prop := match f with
  | .rt v => Q v h
  | .nx => Q .non h
  | _ => False
theorem seqQ_nx {m : MS} {Q : Fl → AE → AH → Prop} {e : AE} {h : AH} : seqQ m Q .nx e h = O3 (m e h) Q := rfl
theorem seqQ_rt {m : MS} {Q : Fl → AE → AH → Prop} {e : AE} {h : AH} {v : Vl} : seqQ m Q (.rt v) e h = Q (.rt v) e h := rfl
theorem seqQ_bk {m : MS} {Q : Fl → AE → AH → Prop} {e : AE} {h : AH} : seqQ m Q .bk e h = Q .bk e h := rfl
theorem seqQ_ct {m : MS} {Q : Fl → AE → AH → Prop} {e : AE} {h : AH} : seqQ m Q .ct e h = Q .ct e h := rfl
theorem retQ_rt {Q : Vl → AH → Prop} {e : AE} {h : AH} {v : Vl} : retQ Q (.rt v) e h = Q v h := rfl
theorem retQ_nx {Q : Vl → AH → Prop} {e : AE} {h : AH} : retQ Q .nx e h = Q .non h := rfl
section
variable {gl : List (Str × Vl)} {cl : Nat → List Vl → AH → Option (Vl × AH)} {fu : Nat} {e : AE} {h : AH} {Q : Vl → AH → Prop} {QT : Bool → AH → Prop} {QA : List Vl → AH → Prop} {QO : Option Int → AH → Prop} {QS : Fl → AE → AH → Prop} {a b c lo hi es : Ex}
/-! expressions -/
theorem w_var {i : Nat} : O2 (evE gl cl (.var i) e h) Q = Ok e[i]? fun o => Ok o fun v => Q (rdV v) h := by
  rw [evE]
  cases e[i]? with
  | none => simp [ok_none, o2_none, o3_none]
  | some o => cases o <;> simp [ok_none, o2_none, o3_none, ok_some, o2_some, o3_some, o2_someP, o3_someP]
theorem w_cst {v : Vl} : O2 (evE gl cl (.cst v) e h) Q = Q v h := by rw [evE, o2_some]
theorem w_bty {T : String} : O2 (evE gl cl (.bty T) e h) Q = Q (.ty T) h := by rw [evE, o2_some]
theorem w_glob {x : Str} : O2 (evE gl cl (.glob x) e h) Q = Ok (gl.lookup x) fun v => Q v h := by
  rw [evE]
  cases gl.lookup x <;> simp [ok_none, o2_none, o3_none, ok_some, o2_some, o3_some, o2_someP, o3_someP]
theorem w_bin {op : Operator} : O2 (evE gl cl (.bin op a b) e h) Q = O2 (evE gl cl a e h) fun x1 h1 => O2 (evE gl cl b e h1) fun x2 h2 => Ok (binV op x1 x2 h2) fun v => Q v h2 := by
  rw [evE]
  cases evE gl cl a e h with
  | none => simp [ok_none, o2_none, o3_none]
  | some p =>
    obtain ⟨x, h1⟩ := p
    simp only [ok_some, o2_some, o3_some, o2_someP, o3_someP]
    cases evE gl cl b e h1 with
    | none => simp [ok_none, o2_none, o3_none]
    | some q =>
      obtain ⟨y, h2⟩ := q
      simp only [ok_some, o2_some, o3_some, o2_someP, o3_someP]
      cases binV op x y h2 <;> simp [ok_none, o2_none, o3_none, ok_some, o2_some, o3_some, o2_someP, o3_someP]
theorem w_neg : O2 (evE gl cl (.neg a) e h) Q = O2 (evE gl cl a e h) fun x1 h1 => Ok (intV x1) fun i => Q (.int (-i)) h1 := by
  rw [evE]
  cases evE gl cl a e h with
  | none => simp [ok_none, o2_none, o3_none]
  | some p =>
    obtain ⟨x, h1⟩ := p
    simp only [ok_some, o2_some, o3_some, o2_someP, o3_someP]
    cases x <;> simp [ok_none, o2_none, o3_none, ok_some, o2_some, o3_some, o2_someP, o3_someP, intV]
theorem w_cmp {op : CmpOp} : O2 (evE gl cl (.cmp op a b) e h) Q = O2 (evE gl cl a e h) fun x1 h1 => O2 (evE gl cl b e h1) fun x2 h2 => Ok (cmpV op x1 x2 h2) fun v => Q (.bl v) h2 := by
  rw [evE]
  cases evE gl cl a e h with
  | none => simp [ok_none, o2_none, o3_none]
  | some p =>
    obtain ⟨x, h1⟩ := p
    simp only [ok_some, o2_some, o3_some, o2_someP, o3_someP]
    cases evE gl cl b e h1 with
    | none => simp [ok_none, o2_none, o3_none]
    | some q =>
      obtain ⟨y, h2⟩ := q
      simp only [ok_some, o2_some, o3_some, o2_someP, o3_someP]
      cases cmpV op x y h2 <;> simp [ok_none, o2_none, o3_none, ok_some, o2_some, o3_some, o2_someP, o3_someP]
theorem w_chain {op op' : CmpOp} : O2 (evE gl cl (.chain op op' a b c) e h) Q = O2 (evE gl cl a e h) fun x1 h1 => O2 (evE gl cl b e h1) fun x2 h2 => Ok (cmpV op x1 x2 h2) fun v => if v = true then O2 (evE gl cl c e h2) fun x3 h3 => Ok (cmpV op' x2 x3 h3) fun w => Q (.bl w) h3 else Q (.bl false) h2 := by
  rw [evE]
  cases evE gl cl a e h with
  | none => simp [ok_none, o2_none, o3_none]
  | some p =>
    obtain ⟨x, h1⟩ := p
    simp only [ok_some, o2_some, o3_some, o2_someP, o3_someP]
    cases evE gl cl b e h1 with
    | none => simp [ok_none, o2_none, o3_none]
    | some q =>
      obtain ⟨y, h2⟩ := q
      simp only [ok_some, o2_some, o3_some, o2_someP, o3_someP]
      cases cmpV op x y h2 with
      | none => simp [ok_none, o2_none, o3_none]
      | some v =>
        cases v with
        | false => simp [ok_some, o2_some, o3_some, o2_someP, o3_someP]
        | true =>
          simp only [ok_some, o2_some, o3_some, o2_someP, o3_someP, if_true]
          cases evE gl cl c e h2 with
          | none => simp [ok_none, o2_none, o3_none]
          | some r =>
            obtain ⟨z, h3⟩ := r
            simp only [ok_some, o2_some, o3_some, o2_someP, o3_someP]
            cases cmpV op' y z h3 <;> simp [ok_none, o2_none, o3_none, ok_some, o2_some, o3_some, o2_someP, o3_someP]
theorem w_and : O2 (evE gl cl (.and a b) e h) Q = O2 (evE gl cl a e h) fun x1 h1 => Ok (blV x1) fun v => if v = true then O2 (evE gl cl b e h1) Q else Q (.bl false) h1 := by
  rw [evE]
  cases evE gl cl a e h with
  | none => simp [ok_none, o2_none, o3_none]
  | some p =>
    obtain ⟨x, h1⟩ := p
    simp only [ok_some, o2_some, o3_some, o2_someP, o3_someP]
    cases x <;> simp [ok_none, o2_none, o3_none, ok_some, o2_some, o3_some, o2_someP, o3_someP, blV]
    rename_i b; cases b <;> simp [ok_some, o2_some, o3_some, o2_someP, o3_someP]
theorem w_or : O2 (evE gl cl (.or a b) e h) Q = O2 (evE gl cl a e h) fun x1 h1 => Ok (blV x1) fun v => if v = true then Q (.bl true) h1 else O2 (evE gl cl b e h1) Q := by
  rw [evE]
  cases evE gl cl a e h with
  | none => simp [ok_none, o2_none, o3_none]
  | some p =>
    obtain ⟨x, h1⟩ := p
    simp only [ok_some, o2_some, o3_some, o2_someP, o3_someP]
    cases x <;> simp [ok_none, o2_none, o3_none, ok_some, o2_some, o3_some, o2_someP, o3_someP, blV]
    rename_i b; cases b <;> simp [ok_some, o2_some, o3_some, o2_someP, o3_someP]
theorem w_not : O2 (evE gl cl (.not a) e h) Q = O2 (evE gl cl a e h) fun x1 h1 => Ok (blV x1) fun v => Q (.bl (!v)) h1 := by
  rw [evE]
  cases evE gl cl a e h with
  | none => simp [ok_none, o2_none, o3_none]
  | some p =>
    obtain ⟨x, h1⟩ := p
    simp only [ok_some, o2_some, o3_some, o2_someP, o3_someP]
    cases x <;> simp [ok_none, o2_none, o3_none, ok_some, o2_some, o3_some, o2_someP, o3_someP, blV]
theorem w_ite : O2 (evE gl cl (.ite c a b) e h) Q = O2 (evT gl cl c e h) fun x1 h1 => if x1 = true then O2 (evE gl cl a e h1) Q else O2 (evE gl cl b e h1) Q := by
  rw [evE]
  cases evT gl cl c e h with
  | none => simp [ok_none, o2_none, o3_none]
  | some p =>
    obtain ⟨x, h1⟩ := p
    cases x <;> simp [ok_some, o2_some, o3_some, o2_someP, o3_someP]
theorem w_lst : O2 (evE gl cl (.lst es) e h) Q = O2 (evA gl cl es e h) fun x1 h1 => x1.length ≤ sizeLine ∧ Q (.fl x1) h1 := by
  rw [evE]
  cases evA gl cl es e h with
  | none => simp [ok_none, o2_none, o3_none]
  | some p => simp only [ok_if, o2_if, o3_if, ok_some, o2_some, o3_some, o2_someP, o3_someP]
theorem w_tup : O2 (evE gl cl (.tup es) e h) Q = O2 (evA gl cl es e h) fun x1 h1 => x1.length ≤ sizeLine ∧ Q (.tup x1) h1 := by
  rw [evE]
  cases evA gl cl es e h with
  | none => simp [ok_none, o2_none, o3_none]
  | some p => simp only [ok_if, o2_if, o3_if, ok_some, o2_some, o3_some, o2_someP, o3_someP]
theorem w_ix : O2 (evE gl cl (.ix a b) e h) Q = O2 (evE gl cl a e h) fun x1 h1 => O2 (evE gl cl b e h1) fun x2 h2 => Ok (ixV x1 x2 h2) fun v => Q v h2 := by
  rw [evE]
  cases evE gl cl a e h with
  | none => simp [ok_none, o2_none, o3_none]
  | some p =>
    obtain ⟨x, h1⟩ := p
    simp only [ok_some, o2_some, o3_some, o2_someP, o3_someP]
    cases evE gl cl b e h1 with
    | none => simp [ok_none, o2_none, o3_none]
    | some q =>
      obtain ⟨y, h2⟩ := q
      simp only [ok_some, o2_some, o3_some, o2_someP, o3_someP]
      cases ixV x y h2 <;> simp [ok_none, o2_none, o3_none, ok_some, o2_some, o3_some, o2_someP, o3_someP]
theorem w_sl : O2 (evE gl cl (.sl a lo hi) e h) Q = O2 (evE gl cl a e h) fun x1 h1 => O2 (evO gl cl lo e h1) fun x2 h2 => O2 (evO gl cl hi e h2) fun x3 h3 => Ok (slV x1 x2 x3 h3) fun v => Q v h3 := by
  rw [evE]
  cases evE gl cl a e h with
  | none => simp [ok_none, o2_none, o3_none]
  | some p =>
    obtain ⟨x, h1⟩ := p
    simp only [ok_some, o2_some, o3_some, o2_someP, o3_someP]
    cases evO gl cl lo e h1 with
    | none => simp [ok_none, o2_none, o3_none]
    | some q =>
      obtain ⟨y, h2⟩ := q
      simp only [ok_some, o2_some, o3_some, o2_someP, o3_someP]
      cases evO gl cl hi e h2 with
      | none => simp [ok_none, o2_none, o3_none]
      | some r =>
        obtain ⟨z, h3⟩ := r
        simp only [ok_some, o2_some, o3_some, o2_someP, o3_someP]
        cases slV x y z h3 <;> simp [ok_none, o2_none, o3_none, ok_some, o2_some, o3_some, o2_someP, o3_someP]
theorem w_lc {k : Itk} {it m : Ex} {tg : Tg} {own : List Nat} : O2 (evE gl cl (.lc k it tg own c m) e h) Q = O2 (evB gl cl it e h) fun x1 h1 => Ok (srcOf k x1 h1) fun s => Ok (s.get h1) fun xs => xs.length ≤ sizeLine ∧
    O2 (lcLoop s tg (evT gl cl c) (evE gl cl m) (wipeE e own) xs.length 0 [] h1) fun x3 h3 => Q (.fl x3) h3 := by
  rw [evE]
  cases evB gl cl it e h with
  | none => simp [ok_none, o2_none, o3_none]
  | some p =>
    obtain ⟨x, h1⟩ := p
    simp only [ok_some, o2_some, o3_some, o2_someP, o3_someP]
    cases srcOf k x h1 with
    | none => simp [ok_none, o2_none, o3_none]
    | some s =>
      simp only [ok_some, o2_some, o3_some, o2_someP, o3_someP]
      cases s.get h1 with
      | none => simp [ok_none, o2_none, o3_none]
      | some xs =>
        simp only [ok_some, o2_some, o3_some, o2_someP, o3_someP, ok_if, o2_if, o3_if]
        cases lcLoop s tg (evT gl cl c) (evE gl cl m) (wipeE e own) xs.length 0 [] h1 <;> simp [ok_none, o2_none, o3_none, ok_some, o2_some, o3_some, o2_someP, o3_someP]
theorem w_call {f : Nat} : O2 (evE gl cl (.call f es) e h) Q = O2 (evA gl cl es e h) fun x1 h1 => O2 (cl f x1 h1) Q := by
  rw [evE]
  cases evA gl cl es e h <;> simp [ok_none, o2_none, o3_none, ok_some, o2_some, o3_some, o2_someP, o3_someP]
theorem w_pcall {f : Nat} : O2 (evE gl cl (.pcall f es) e h) Q = O2 (evB gl cl es e h) fun x1 h1 => O2 (frm (cl f) x1 h1) Q := by
  rw [evE]
  cases evB gl cl es e h <;> simp [ok_none, o2_none, o3_none, ok_some, o2_some, o3_some, o2_someP, o3_someP]
theorem w_new : O2 (evE gl cl (.new a) e h) Q = O2 (evE gl cl a e h) fun x1 h1 => O2 (newV x1 h1) Q := by
  rw [evE]
  cases evE gl cl a e h <;> simp [ok_none, o2_none, o3_none, ok_some, o2_some, o3_some, o2_someP, o3_someP]
theorem w_bi {f : Bi} : O2 (evE gl cl (.bi f es) e h) Q = O2 (evB gl cl es e h) fun x1 h1 => Ok (biV f x1 h1) fun v => Q v h1 := by
  rw [evE]
  cases evB gl cl es e h with
  | none => simp [ok_none, o2_none, o3_none]
  | some p =>
    obtain ⟨x, h1⟩ := p
    simp only [ok_some, o2_some, o3_some, o2_someP, o3_someP]
    cases biV f x h1 <;> simp [ok_none, o2_none, o3_none, ok_some, o2_some, o3_some, o2_someP, o3_someP]
theorem w_me {m : Me} : O2 (evE gl cl (.me m a es) e h) Q = O2 (evE gl cl a e h) fun x1 h1 => meTy m x1 h1 = true ∧ O2 (evA gl cl es e h1) fun x2 h2 => O2 (meV m x1 x2 h2) Q := by
  rw [evE]
  cases evE gl cl a e h with
  | none => simp [ok_none, o2_none, o3_none]
  | some p =>
    obtain ⟨x, h1⟩ := p
    simp only [ok_some, o2_some, o3_some, o2_someP, o3_someP, ok_if, o2_if, o3_if]
    cases evA gl cl es e h1 <;> simp [ok_none, o2_none, o3_none, ok_some, o2_some, o3_some, o2_someP, o3_someP]
theorem w_dsp : O2 (evE gl cl (.dsp es) e h) Q = O2 (evA gl cl es e h) fun x1 h1 => Ok (dspV x1 []) fun d => d.length ≤ 15 ∧ Q (.fd (d.map (·.1)) (d.map (·.2))) h1 := by
  rw [evE]
  cases evA gl cl es e h with
  | none => simp [ok_none, o2_none, o3_none]
  | some p =>
    obtain ⟨x, h1⟩ := p
    simp only [ok_some, o2_some, o3_some, o2_someP, o3_someP]
    cases dspV x [] <;> simp [ok_none, o2_none, o3_none, ok_some, o2_some, o3_some, o2_someP, o3_someP, ok_if, o2_if, o3_if]
/-! tests -/
theorem wt_nil : O2 (evT gl cl .nil e h) QT = QT true h := by rw [evT, o2_some]
theorem wt_and : O2 (evT gl cl (.and a b) e h) QT = O2 (evT gl cl a e h) fun x1 h1 => if x1 = true then O2 (evT gl cl b e h1) QT else QT false h1 := by
  rw [evT]
  cases evT gl cl a e h with
  | none => simp [ok_none, o2_none, o3_none]
  | some p => obtain ⟨x, h1⟩ := p; cases x <;> simp [ok_some, o2_some, o3_some, o2_someP, o3_someP]
theorem wt_or : O2 (evT gl cl (.or a b) e h) QT = O2 (evT gl cl a e h) fun x1 h1 => if x1 = true then QT true h1 else O2 (evT gl cl b e h1) QT := by
  rw [evT]
  cases evT gl cl a e h with
  | none => simp [ok_none, o2_none, o3_none]
  | some p => obtain ⟨x, h1⟩ := p; cases x <;> simp [ok_some, o2_some, o3_some, o2_someP, o3_someP]
theorem wt_not : O2 (evT gl cl (.not a) e h) QT = O2 (evT gl cl a e h) fun x1 h1 => QT (!x1) h1 := by
  rw [evT]
  cases evT gl cl a e h <;> simp [ok_none, o2_none, o3_none, ok_some, o2_some, o3_some, o2_someP, o3_someP]
theorem wt_val : O2 (evT gl cl (.val a) e h) QT = O2 (evE gl cl a e h) fun x1 h1 => Ok (blV x1) fun v => QT v h1 := by
  rw [evT]
  cases evE gl cl a e h with
  | none => simp [ok_none, o2_none, o3_none]
  | some p => obtain ⟨x, h1⟩ := p; cases x <;> simp [ok_some, o2_some, o3_some, o2_someP, o3_someP, ok_none, o2_none, o3_none, blV]
/-! values in a row -/
theorem wa_nil : O2 (evA gl cl .nil e h) QA = QA ([]) h := by rw [evA, o2_some]
theorem wa_cons : O2 (evA gl cl (.cons a es) e h) QA = O2 (evE gl cl a e h) fun x1 h1 => Ok (frzV x1) fun w => O2 (evA gl cl es e h1) fun x2 h2 => QA (w :: x2) h2 := by
  rw [evA]
  cases evE gl cl a e h with
  | none => simp [ok_none, o2_none, o3_none]
  | some p =>
    obtain ⟨x, h1⟩ := p
    simp only [ok_some, o2_some, o3_some, o2_someP, o3_someP]
    cases frzV x with
    | none => simp [ok_none, o2_none, o3_none]
    | some w =>
      simp only [ok_some, o2_some, o3_some, o2_someP, o3_someP]
      cases evA gl cl es e h1 <;> simp [ok_none, o2_none, o3_none, ok_some, o2_some, o3_some, o2_someP, o3_someP]
theorem wb_nil : O2 (evB gl cl .nil e h) QA = QA ([]) h := by rw [evB, o2_some]
theorem wb_cons : O2 (evB gl cl (.cons a es) e h) QA = O2 (evE gl cl a e h) fun x1 h1 => O2 (evB gl cl es e h1) fun x2 h2 => QA (x1 :: x2) h2 := by
  rw [evB]
  cases evE gl cl a e h with
  | none => simp [ok_none, o2_none, o3_none]
  | some p =>
    obtain ⟨x, h1⟩ := p
    simp only [ok_some, o2_some, o3_some, o2_someP, o3_someP]
    cases evB gl cl es e h1 <;> simp [ok_none, o2_none, o3_none, ok_some, o2_some, o3_some, o2_someP, o3_someP]
theorem wo_nil : O2 (evO gl cl .nil e h) QO = QO none h := by rw [evO, o2_some]
theorem wo_cons : O2 (evO gl cl (.cons a es) e h) QO = O2 (evE gl cl a e h) fun x1 h1 => Ok (intV x1) fun i => QO (some i) h1 := by
  rw [evO]
  cases evE gl cl a e h with
  | none => simp [ok_none, o2_none, o3_none]
  | some p => obtain ⟨x, h1⟩ := p; cases x <;> simp [ok_some, o2_some, o3_some, o2_someP, o3_someP, ok_none, o2_none, o3_none, intV]
/-! statements -/
variable {s r : Sx} {i : Nat}
theorem ws_nil : O3 (evS gl cl fu .nil e h) QS = QS .nx e h := by rw [evS, o3_some]
theorem ws_seq : O3 (evS gl cl fu (.seq s r) e h) QS = O3 (evS gl cl fu s e h) (seqQ (evS gl cl fu r) QS) := by
  rw [evS]
  cases evS gl cl fu s e h with
  | none => simp [ok_none, o2_none, o3_none]
  | some p => obtain ⟨f, e1, h1⟩ := p; cases f <;> simp [ok_some, o2_some, o3_some, o2_someP, o3_someP, seqQ]
theorem ws_set : O3 (evS gl cl fu (.set i a) e h) QS = O2 (evE gl cl a e h) fun x1 h1 => Ok (frzV x1) fun w => QS .nx (e.set i (some w)) h1 := by
  rw [evS]
  cases evE gl cl a e h with
  | none => simp [ok_none, o2_none, o3_none]
  | some p =>
    obtain ⟨x, h1⟩ := p
    simp only [ok_some, o2_some, o3_some, o2_someP, o3_someP]
    cases frzV x <;> simp [ok_none, o2_none, o3_none, ok_some, o2_some, o3_some, o2_someP, o3_someP]
theorem ws_setT {is : List Nat} : O3 (evS gl cl fu (.setT is a) e h) QS = O2 (evE gl cl a e h) fun x1 h1 => Ok (asg (.tup is) x1 e) fun e1 => QS .nx e1 h1 := by
  rw [evS]
  cases evE gl cl a e h with
  | none => simp [ok_none, o2_none, o3_none]
  | some p =>
    obtain ⟨x, h1⟩ := p
    simp only [ok_some, o2_some, o3_some, o2_someP, o3_someP]
    cases asg (.tup is) x e <;> simp [ok_none, o2_none, o3_none, ok_some, o2_some, o3_some, o2_someP, o3_someP]
theorem ws_setIx {o j : Ex} : O3 (evS gl cl fu (.setIx o j a) e h) QS = O2 (evE gl cl a e h) fun x1 h1 => Ok (frzV x1) fun w => O2 (evE gl cl o e h1) fun x2 h2 => O2 (evE gl cl j e h2) fun x3 h3 => Ok (setIxV x2 x3 w h3) fun h4 => QS .nx e h4 := by
  rw [evS]
  cases evE gl cl a e h with
  | none => simp [ok_none, o2_none, o3_none]
  | some p =>
    obtain ⟨x, h1⟩ := p
    simp only [ok_some, o2_some, o3_some, o2_someP, o3_someP]
    cases frzV x with
    | none => simp [ok_none, o2_none, o3_none]
    | some w =>
      simp only [ok_some, o2_some, o3_some, o2_someP, o3_someP]
      cases evE gl cl o e h1 with
      | none => simp [ok_none, o2_none, o3_none]
      | some q =>
        obtain ⟨y, h2⟩ := q
        simp only [ok_some, o2_some, o3_some, o2_someP, o3_someP]
        cases evE gl cl j e h2 with
        | none => simp [ok_none, o2_none, o3_none]
        | some r =>
          obtain ⟨z, h3⟩ := r
          simp only [ok_some, o2_some, o3_some, o2_someP, o3_someP]
          cases setIxV y z w h3 <;> simp [ok_none, o2_none, o3_none, ok_some, o2_some, o3_some, o2_someP, o3_someP]
theorem ws_aug {op : Operator} : O3 (evS gl cl fu (.aug i op a) e h) QS = Ok e[i]? fun o => Ok o fun u => O2 (evE gl cl a e h) fun x1 h1 => Ok (augV op u x1) fun v => QS .nx (e.set i (some v)) h1 := by
  rw [evS]
  cases e[i]? with
  | none => simp [ok_none, o2_none, o3_none]
  | some o =>
    cases o with
    | none => simp [ok_none, o2_none, o3_none, ok_some, o2_some, o3_some, o2_someP, o3_someP]
    | some u =>
      simp only [ok_some, o2_some, o3_some, o2_someP, o3_someP]
      cases evE gl cl a e h with
      | none => simp [ok_none, o2_none, o3_none]
      | some p =>
        obtain ⟨x, h1⟩ := p
        simp only [ok_some, o2_some, o3_some, o2_someP, o3_someP]
        cases augV op u x <;> simp [ok_none, o2_none, o3_none, ok_some, o2_some, o3_some, o2_someP, o3_someP]
theorem ws_ifs : O3 (evS gl cl fu (.ifs c s r) e h) QS = O2 (evT gl cl c e h) fun x1 h1 => if x1 = true then O3 (evS gl cl fu s e h1) QS else O3 (evS gl cl fu r e h1) QS := by
  rw [evS]
  cases evT gl cl c e h with
  | none => simp [ok_none, o2_none, o3_none]
  | some p => obtain ⟨x, h1⟩ := p; cases x <;> simp [ok_some, o2_some, o3_some, o2_someP, o3_someP]
theorem ws_for {k : Itk} {it : Ex} {tg : Tg} : O3 (evS gl cl fu (.for_ k it tg s) e h) QS = O2 (evB gl cl it e h) fun x1 h1 => Ok (srcOf k x1 h1) fun sr => Ok (sr.get h1) fun xs => anyBw x1 = false ∧ O3 (forLoop sr tg (evS gl cl fu s) xs.length 0 e h1) QS := by
  rw [evS]
  cases evB gl cl it e h with
  | none => simp [ok_none, o2_none, o3_none]
  | some p =>
    obtain ⟨x, h1⟩ := p
    simp only [ok_some, o2_some, o3_some, o2_someP, o3_someP]
    cases srcOf k x h1 with
    | none => simp [ok_none, o2_none, o3_none]
    | some sr =>
      simp only [ok_some, o2_some, o3_some, o2_someP, o3_someP]
      cases sr.get h1 with
      | none => simp [ok_none, o2_none, o3_none]
      | some xs =>
        simp only [ok_some, o2_some, o3_some, o2_someP, o3_someP]
        cases anyBw x <;> simp [ok_none, o2_none, o3_none]
theorem ws_whl : O3 (evS gl cl fu (.whl c s) e h) QS = O3 (whlLoop (evT gl cl c) (evS gl cl fu s) fu e h) QS := by rw [evS]
theorem ws_ret : O3 (evS gl cl fu (.ret a) e h) QS = O2 (evE gl cl a e h) fun x1 h1 => anyBw [x1] = false ∧ QS (.rt x1) e h1 := by
  rw [evS]
  cases evE gl cl a e h with
  | none => simp [ok_none, o2_none, o3_none]
  | some p =>
    obtain ⟨x, h1⟩ := p
    simp only [ok_some, o2_some, o3_some, o2_someP, o3_someP]
    cases anyBw [x] <;> simp [ok_none, o2_none, o3_none, ok_some, o2_some, o3_some, o2_someP, o3_someP]
theorem ws_retN : O3 (evS gl cl fu .retN e h) QS = QS (.rt .non) e h := by rw [evS, o3_some]
theorem ws_expr : O3 (evS gl cl fu (.expr a) e h) QS = O2 (evE gl cl a e h) fun x1 h1 => QS .nx e h1 := by
  rw [evS]
  cases evE gl cl a e h <;> simp [ok_none, o2_none, o3_none, ok_some, o2_some, o3_some, o2_someP, o3_someP]
theorem ws_pass : O3 (evS gl cl fu .pass e h) QS = QS .nx e h := by rw [evS, o3_some]
theorem ws_brk : O3 (evS gl cl fu .brk e h) QS = QS .bk e h := by rw [evS, o3_some]
theorem ws_setO : O3 (evS gl cl fu (.setO i a) e h) QS = O2 (evE gl cl a e h) fun x1 h1 => x1.owned = true ∧ QS .nx (e.set i (some x1)) h1 := by
  rw [evS]
  cases evE gl cl a e h with
  | none => simp [ok_none, o2_none, o3_none]
  | some p => simp only [ok_some, o2_some, o3_some, o2_someP, o3_someP, ok_if, o2_if, o3_if]
theorem ws_retO : O3 (evS gl cl fu (.retO i) e h) QS = Ok e[i]? fun o => Ok o fun v => v.owned = true ∧ QS (.rt v) e h := by
  rw [evS]
  cases e[i]? with
  | none => simp [ok_none, o2_none, o3_none]
  | some o =>
    cases o with
    | none => simp [ok_none, o2_none, o3_none, ok_some, o2_some, o3_some, o2_someP, o3_someP]
    | some u => simp only [ok_some, o2_some, o3_some, o2_someP, o3_someP, ok_if, o2_if, o3_if]
def flV' : Vl → Option (List Vl)
  | .fl xs => some xs
  | _ => none
theorem ws_appO : O3 (evS gl cl fu (.appO i a) e h) QS = Ok e[i]? fun o => Ok o fun u => Ok (flV' u) fun xs => O2 (evE gl cl a e h) fun x1 h1 => Ok (frzV x1) fun w => xs.length < sizeLine ∧ QS .nx (e.set i (some (.fl (xs ++ [w])))) h1 := by
  rw [evS]
  cases e[i]? with
  | none => simp [ok_none, o2_none, o3_none]
  | some o =>
    cases o with
    | none => simp [ok_none, o2_none, o3_none, ok_some, o2_some, o3_some, o2_someP, o3_someP]
    | some u =>
      cases u <;> first | (simp [ok_none, o2_none, o3_none, ok_some, o2_some, o3_some, o2_someP, o3_someP, flV']; done) | skip
      simp only [ok_some, o2_some, o3_some, o2_someP, o3_someP, flV']
      cases evE gl cl a e h with
      | none => simp [ok_none, o2_none, o3_none]
      | some p =>
        obtain ⟨x, h1⟩ := p
        simp only [ok_some, o2_some, o3_some, o2_someP, o3_someP]
        cases frzV x <;> simp [ok_none, o2_none, o3_none, ok_some, o2_some, o3_some, o2_someP, o3_someP, ok_if, o2_if, o3_if]
theorem ws_extO : O3 (evS gl cl fu (.extO i a) e h) QS = Ok e[i]? fun o => Ok o fun u => Ok (flV' u) fun xs => O2 (evE gl cl a e h) fun x1 h1 => Ok (lstW x1 h1) fun ys => xs.length + ys.length ≤ sizeLine ∧ QS .nx (e.set i (some (.fl (xs ++ ys)))) h1 := by
  rw [evS]
  cases e[i]? with
  | none => simp [ok_none, o2_none, o3_none]
  | some o =>
    cases o with
    | none => simp [ok_none, o2_none, o3_none, ok_some, o2_some, o3_some, o2_someP, o3_someP]
    | some u =>
      cases u <;> first | (simp [ok_none, o2_none, o3_none, ok_some, o2_some, o3_some, o2_someP, o3_someP, flV']; done) | skip
      simp only [ok_some, o2_some, o3_some, o2_someP, o3_someP, flV']
      cases evE gl cl a e h with
      | none => simp [ok_none, o2_none, o3_none]
      | some p =>
        obtain ⟨x, h1⟩ := p
        simp only [ok_some, o2_some, o3_some, o2_someP, o3_someP]
        cases lstW x h1 <;> simp [ok_none, o2_none, o3_none, ok_some, o2_some, o3_some, o2_someP, o3_someP, ok_if, o2_if, o3_if]
theorem ws_revO : O3 (evS gl cl fu (.revO i) e h) QS = Ok e[i]? fun o => Ok o fun u => Ok (flV' u) fun xs => QS .nx (e.set i (some (.fl xs.reverse))) h := by
  rw [evS]
  cases e[i]? with
  | none => simp [ok_none, o2_none, o3_none]
  | some o =>
    cases o with
    | none => simp [ok_none, o2_none, o3_none, ok_some, o2_some, o3_some, o2_someP, o3_someP]
    | some u => cases u <;> simp [ok_none, o2_none, o3_none, ok_some, o2_some, o3_some, o2_someP, o3_someP, flV']
theorem ws_putO {j : Ex} : O3 (evS gl cl fu (.putO i j a) e h) QS = O2 (evE gl cl a e h) fun x1 h1 => Ok (frzV x1) fun w => Ok e[i]? fun o => Ok o fun u => Ok (flV' u) fun xs => O2 (evE gl cl j e h1) fun x2 h2 => Ok (intV x2) fun n => Ok (ixN xs.length n) fun k => QS .nx (e.set i (some (.fl (xs.set k w)))) h2 := by
  rw [evS]
  cases evE gl cl a e h with
  | none => simp [ok_none, o2_none, o3_none]
  | some p =>
    obtain ⟨x, h1⟩ := p
    simp only [ok_some, o2_some, o3_some, o2_someP, o3_someP]
    cases frzV x with
    | none => simp [ok_none, o2_none, o3_none]
    | some w =>
      simp only [ok_some, o2_some, o3_some, o2_someP, o3_someP]
      cases e[i]? with
      | none => simp [ok_none, o2_none, o3_none]
      | some o =>
        cases o with
        | none => simp [ok_none, o2_none, o3_none, ok_some, o2_some, o3_some, o2_someP, o3_someP]
        | some u =>
          cases u <;> first | (simp [ok_none, o2_none, o3_none, ok_some, o2_some, o3_some, o2_someP, o3_someP, flV']; done) | skip
          rename_i xs
          simp only [ok_some, o2_some, o3_some, o2_someP, o3_someP, flV']
          cases evE gl cl j e h1 with
          | none => simp [ok_none, o2_none, o3_none]
          | some q =>
            obtain ⟨y, h2⟩ := q
            simp only [ok_some, o2_some, o3_some, o2_someP, o3_someP]
            cases y <;> first | (simp [ok_none, o2_none, o3_none, ok_some, o2_some, o3_some, o2_someP, o3_someP, intV]; done) | skip
            rename_i n
            simp only [ok_some, o2_some, o3_some, o2_someP, o3_someP, intV]
            cases ixN xs.length n <;> simp [ok_none, o2_none, o3_none, ok_some, o2_some, o3_some, o2_someP, o3_someP]
theorem ws_par {ms : List (Nat × Bool)} : O3 (evS gl cl fu (.par ms es) e h) QS = O2 (evB gl cl es e h) fun x1 h1 => Ok (parV ms x1 e) fun e1 => QS .nx e1 h1 := by
  rw [evS]
  cases evB gl cl es e h with
  | none => simp [ok_none, o2_none, o3_none]
  | some p =>
    obtain ⟨x, h1⟩ := p
    simp only [ok_some, o2_some, o3_some, o2_someP, o3_someP]
    cases parV ms x e <;> simp [ok_none, o2_none, o3_none, ok_some, o2_some, o3_some, o2_someP, o3_someP]
def wipeQ (is : List Nat) (Q : Fl → AE → AH → Prop) (f : Fl) (e : AE) (h : AH) : Prop := Q f (wipeE e is) h
theorem ws_wipe {is : List Nat} : O3 (evS gl cl fu (.wipe is s) e h) QS = O3 (evS gl cl fu s e h) (wipeQ is QS) := by
  rw [evS]
  cases evS gl cl fu s e h with
  | none => simp [ok_none, o2_none, o3_none]
  | some p => obtain ⟨f, e1, h1⟩ := p; simp only [ok_some, o2_some, o3_some, o2_someP, o3_someP, wipeQ]
theorem ws_frz : O3 (evS gl cl fu (.frz i) e h) QS = Ok e[i]? fun o => Ok o fun v => Ok (frzV v) fun w => QS .nx (e.set i (some w)) h := by
  rw [evS]
  cases e[i]? with
  | none => simp [ok_none, o2_none, o3_none]
  | some o =>
    cases o with
    | none => simp [ok_none, o2_none, o3_none, ok_some, o2_some, o3_some, o2_someP, o3_someP]
    | some u =>
      simp only [ok_some, o2_some, o3_some, o2_someP, o3_someP]
      cases frzV u <;> simp [ok_none, o2_none, o3_none, ok_some, o2_some, o3_some, o2_someP, o3_someP]
theorem w_runF {F : Fn} {vs : List Vl} : O2 (runF gl cl fu F vs h) Q = (vs.length = F.np ∧ O3 (evS gl cl fu F.body (vs.map some ++ List.replicate (F.ns - vs.length) none) h) (retQ Q)) := by
  unfold runF
  rw [o2_if]
  apply propext
  refine and_congr Iff.rfl ?_
  cases evS gl cl fu F.body (vs.map some ++ List.replicate (F.ns - vs.length) none) h with
  | none => simp [ok_none, o2_none, o3_none]
  | some p =>
    obtain ⟨f, e1, h1⟩ := p
    cases f <;> simp [ok_some, o2_some, o3_some, o2_someP, o3_someP, ok_none, o2_none, o3_none, retQ]
end
/-! loops over things that stay -/
section
variable {xs : List Vl} {tg : Tg} {h : AH}
/-- behind a turn -/
def turnQ (I : AE → AH → Prop) (Q : Fl → AE → AH → Prop) (f : Fl) (e : AE) (h : AH) : Prop := match f with
  | .nx => I e h
  | .ct => I e h
  | .bk => Q .nx e h
  | .rt v => Q (.rt v) e h
theorem turnQ_nx {I : AE → AH → Prop} {Q : Fl → AE → AH → Prop} {e : AE} {h : AH} : turnQ I Q .nx e h = I e h := rfl
theorem turnQ_ct {I : AE → AH → Prop} {Q : Fl → AE → AH → Prop} {e : AE} {h : AH} : turnQ I Q .ct e h = I e h := rfl
theorem turnQ_bk {I : AE → AH → Prop} {Q : Fl → AE → AH → Prop} {e : AE} {h : AH} : turnQ I Q .bk e h = Q .nx e h := rfl
theorem turnQ_rt {I : AE → AH → Prop} {Q : Fl → AE → AH → Prop} {e : AE} {h : AH} {v : Vl} : turnQ I Q (.rt v) e h = Q (.rt v) e h := rfl
/-- a for, by what is so ahead of each turn -/
theorem for_inv {b : MS} {e : AE} {Q : Fl → AE → AH → Prop} (I : Nat → AE → AH → Prop) (h0 : I 0 e h)
    (step : ∀ (i : Nat) x e h, xs[i]? = some x → I i e h → Ok (asg tg x e) fun e1 => O3 (b e1 h) (turnQ (I (i + 1)) Q))
    (fin : ∀ e h, I xs.length e h → Q .nx e h) {n : Nat} (hn : n = xs.length := by rfl) : O3 (forLoop (.st xs) tg b n 0 e h) Q := by
  subst hn
  have go : ∀ (f i : Nat) e h, i + f = xs.length → I i e h → O3 (forLoop (.st xs) tg b f i e h) Q := by
    intro f
    induction f with
    | zero =>
      intro i e h hf hI
      have : i = xs.length := by omega
      subst this
      simp only [forLoop, Src.get, Nat.le_refl, if_true, o3_some]
      exact fin e h hI
    | succ f ih =>
      intro i e h hf hI
      have hi : i < xs.length := by omega
      have hx := List.getElem?_eq_getElem hi
      obtain ⟨e1, ea, fl, e2, h2, ep, q⟩ := step i _ e h hx hI
      simp only [forLoop, Src.get, hx, ea, ep]
      cases fl with
      | nx => exact ih (i + 1) e2 h2 (by omega) q
      | ct => exact ih (i + 1) e2 h2 (by omega) q
      | bk => exact ⟨_, _, _, rfl, q⟩
      | rt v => exact ⟨_, _, _, rfl, q⟩
  exact go xs.length 0 e h (by omega) h0
theorem lc_inv {c : MT} {m : ME} {e : AE} {Q : List Vl → AH → Prop} (I : Nat → List Vl → AH → Prop) (h0 : I 0 [] h)
    (step : ∀ (i : Nat) x acc h, xs[i]? = some x → I i acc h → Ok (asg tg x e) fun e1 => O2 (c e1 h) fun bv h2 => if bv = true then O2 (m e1 h2) fun v h3 => Ok (frzV v) fun w => I (i + 1) (acc ++ [w]) h3 else I (i + 1) acc h2)
    (fin : ∀ acc h, I xs.length acc h → Q acc h) {n : Nat} (hn : n = xs.length := by rfl) : O2 (lcLoop (.st xs) tg c m e n 0 [] h) Q := by
  subst hn
  have go : ∀ (f i : Nat) acc h, i + f = xs.length → I i acc h → O2 (lcLoop (.st xs) tg c m e f i acc h) Q := by
    intro f
    induction f with
    | zero =>
      intro i acc h hf hI
      have : i = xs.length := by omega
      subst this
      simp only [lcLoop, Src.get, Nat.le_refl, if_true, o2_some]
      exact fin acc h hI
    | succ f ih =>
      intro i acc h hf hI
      have hi : i < xs.length := by omega
      have hx := List.getElem?_eq_getElem hi
      obtain ⟨e1, ea, bv, h2, ep, q⟩ := step i _ acc h hx hI
      simp only [lcLoop, Src.get, hx, ea, ep]
      cases bv with
      | false => exact ih (i + 1) acc h2 (by omega) (by simpa using q)
      | true =>
        simp only [if_true] at q
        obtain ⟨v, h3, er, w, ew, q⟩ := q
        simp only [er, ew]
        exact ih (i + 1) _ h3 (by omega) q
  exact go xs.length 0 [] h (by omega) h0
/-- a for that only adds to a name's list -/
theorem for_acc {α : Type} {b : MS} {ys : List α} {emb : α → Vl} (E : List Vl → AE) (g : α → List Vl) (acc0 : List Vl)
    (step : ∀ y ∈ ys, ∀ acc, acc.length + (g y).length ≤ acc0.length + (ys.flatMap g).length → Ok (asg tg (emb y) (E acc)) fun e1 => O3 (b e1 h) fun f e2 h2 => f = .nx ∧ e2 = E (acc ++ g y) ∧ h2 = h) {xs : List Vl} {n : Nat} (hx : xs = ys.map emb) (hn : n = ys.length) :
    forLoop (.st xs) tg b n 0 (E acc0) h = some (.nx, E (acc0 ++ ys.flatMap g), h) := by
  subst hx
  obtain rfl : n = (ys.map emb).length := by rw [hn, List.length_map]
  apply O3.eq
  refine for_inv (I := fun i e h' => e = E (acc0 ++ (ys.take i).flatMap g) ∧ h' = h) ⟨by simp, rfl⟩ (fun i x e h' hx hI => ?_) (fun e h' hI => ?_)
  · obtain ⟨rfl, rfl⟩ := hI
    rw [List.getElem?_map, Option.map_eq_some_iff] at hx
    obtain ⟨y, hy, rfl⟩ := hx
    have e1 : (ys.take (i + 1)).flatMap g = (ys.take i).flatMap g ++ g y := by
      rw [List.take_add_one, hy]; simp
    refine (step y (List.mem_of_getElem? hy) _ ?_).mono fun e0 he => he.mono fun f e2 h2 ⟨hf, he2, hh⟩ => ?_
    · have l1 : ((ys.take (i + 1)).flatMap g).length ≤ (ys.flatMap g).length := by
        conv => rhs; rw [← List.take_append_drop (i + 1) ys]
        rw [List.flatMap_append, List.length_append]
        omega
      rw [e1] at l1
      simp only [List.length_append] at l1 ⊢
      omega
    · subst hf hh
      rw [turnQ_nx]
      refine ⟨?_, rfl⟩
      rw [he2, e1, List.append_assoc]
  · obtain ⟨rfl, rfl⟩ := hI
    simp
/-- a comprehension that changes nothing -/
theorem lc_map {α : Type} {c : MT} {m : ME} {e : AE} {ys : List α} {emb : α → Vl} (g : α → Vl) (hc : ∀ e h, c e h = some (true, h))
    (step : ∀ y ∈ ys, Ok (asg tg (emb y) e) fun e1 => O2 (m e1 h) fun v h3 => Ok (frzV v) fun w => w = g y ∧ h3 = h) {xs : List Vl} {n : Nat} (hx : xs = ys.map emb) (hn : n = ys.length) :
    lcLoop (.st xs) tg c m e n 0 [] h = some (ys.map g, h) := by
  subst hx
  obtain rfl : n = (ys.map emb).length := by rw [hn, List.length_map]
  apply O2.eq
  refine lc_inv (I := fun i acc h' => acc = (ys.take i).map g ∧ h' = h) ⟨by simp, rfl⟩ (fun i x acc h' hx hI => ?_) (fun acc h' hI => ?_)
  · obtain ⟨rfl, rfl⟩ := hI
    rw [List.getElem?_map, Option.map_eq_some_iff] at hx
    obtain ⟨y, hy, rfl⟩ := hx
    refine (step y (List.mem_of_getElem? hy)).mono fun e1 he => ?_
    rw [hc, o2_some]
    simp only [if_true]
    refine he.mono fun v h3 hq => hq.mono fun w hw => ⟨?_, hw.2⟩
    rw [List.take_add_one, hy, hw.1]
    simp
  · obtain ⟨rfl, rfl⟩ := hI
    simp
/-- a comprehension with a test that changes nothing -/
theorem lc_filter {α : Type} {c : MT} {m : ME} {e : AE} {ys : List α} {emb : α → Vl} (p : α → Bool) (g : α → Vl)
    (step : ∀ y ∈ ys, Ok (asg tg (emb y) e) fun e1 => c e1 h = some (p y, h) ∧ (p y = true → O2 (m e1 h) fun v h3 => Ok (frzV v) fun w => w = g y ∧ h3 = h)) {xs : List Vl} {n : Nat} (hx : xs = ys.map emb) (hn : n = ys.length) :
    lcLoop (.st xs) tg c m e n 0 [] h = some ((ys.filter p).map g, h) := by
  subst hx
  obtain rfl : n = (ys.map emb).length := by rw [hn, List.length_map]
  apply O2.eq
  refine lc_inv (I := fun i acc h' => acc = ((ys.take i).filter p).map g ∧ h' = h) ⟨by simp, rfl⟩ (fun i x acc h' hx hI => ?_) (fun acc h' hI => ?_)
  · obtain ⟨rfl, rfl⟩ := hI
    rw [List.getElem?_map, Option.map_eq_some_iff] at hx
    obtain ⟨y, hy, rfl⟩ := hx
    refine (step y (List.mem_of_getElem? hy)).mono fun e1 he => ?_
    rw [he.1, o2_some]
    cases hp : p y with
    | true =>
      simp only [if_true]
      refine (he.2 hp).mono fun v h3 hq => hq.mono fun w hw => ⟨?_, hw.2⟩
      rw [List.take_add_one, hy, hw.1]
      simp [List.filter_append, hp]
    | false =>
      simp only [Bool.false_eq_true, if_false]
      refine ⟨?_, trivial⟩
      rw [List.take_add_one, hy]
      simp [List.filter_append, hp]
  · obtain ⟨rfl, rfl⟩ := hI
    simp
end
section
variable {s : Src} {tg : Tg} {b : MS} {c : MT} {m : ME} {e : AE} {h : AH} {Q : Fl → AE → AH → Prop} {QL : List Vl → AH → Prop}
theorem wf_zero {i : Nat} : O3 (forLoop s tg b 0 i e h) Q = Ok (s.get h) fun xs => xs.length ≤ i ∧ Q .nx e h := by
  simp only [forLoop]
  cases s.get h with
  | none => simp [ok_none, o3_none]
  | some xs => simp only [ok_some, o3_if, o3_some]
theorem wf_succ {i f : Nat} : O3 (forLoop s tg b (f + 1) i e h) Q = Ok (s.get h) fun xs => if i < xs.length then Ok xs[i]? fun x => Ok (asg tg x e) fun e1 => O3 (b e1 h) (turnQ (fun e2 h2 => O3 (forLoop s tg b f (i + 1) e2 h2) Q) Q) else Q .nx e h := by
  simp only [forLoop]
  cases s.get h with
  | none => simp [ok_none, o3_none]
  | some xs =>
    simp only [ok_some]
    by_cases hi : i < xs.length
    · rw [if_pos hi, List.getElem?_eq_getElem hi]
      simp only [ok_some]
      cases asg tg xs[i] e with
      | none => simp [ok_none, o3_none]
      | some e1 =>
        simp only [ok_some]
        cases b e1 h with
        | none => simp [o3_none]
        | some p =>
          obtain ⟨f, e2, h2⟩ := p
          cases f <;> simp [o3_some, turnQ]
    · rw [if_neg hi, List.getElem?_eq_none_iff.mpr (by omega)]
      simp [o3_some]
theorem wl_zero {i : Nat} {acc : List Vl} : O2 (lcLoop s tg c m e 0 i acc h) QL = Ok (s.get h) fun xs => xs.length ≤ i ∧ QL acc h := by
  simp only [lcLoop]
  cases s.get h with
  | none => simp [ok_none, o2_none]
  | some xs => simp only [ok_some, o2_if, o2_some]
theorem wl_succ {i f : Nat} {acc : List Vl} : O2 (lcLoop s tg c m e (f + 1) i acc h) QL = Ok (s.get h) fun xs => if i < xs.length then Ok xs[i]? fun x => Ok (asg tg x e) fun e1 => O2 (c e1 h) fun bv h1 => if bv = true then O2 (m e1 h1) fun v h2 => Ok (frzV v) fun w => O2 (lcLoop s tg c m e f (i + 1) (acc ++ [w]) h2) QL else O2 (lcLoop s tg c m e f (i + 1) acc h1) QL else QL acc h := by
  simp only [lcLoop]
  cases s.get h with
  | none => simp [ok_none, o2_none]
  | some xs =>
    simp only [ok_some]
    by_cases hi : i < xs.length
    · rw [if_pos hi, List.getElem?_eq_getElem hi]
      simp only [ok_some]
      cases asg tg xs[i] e with
      | none => simp [ok_none, o2_none]
      | some e1 =>
        simp only [ok_some]
        cases c e1 h with
        | none => simp [o2_none]
        | some p =>
          obtain ⟨bv, h2⟩ := p
          cases bv with
          | false => simp [o2_some]
          | true =>
            simp only [o2_some, if_true]
            cases m e1 h2 with
            | none => simp [o2_none]
            | some q =>
              obtain ⟨v, h3⟩ := q
              simp only [o2_some]
              cases frzV v <;> simp [ok_none, ok_some, o2_none]
    · rw [if_neg hi, List.getElem?_eq_none_iff.mpr (by omega)]
      simp [o2_some]
theorem for_src {s' : Src} (hs : ∀ h, s.get h = s'.get h) : ∀ (f i : Nat) e h, forLoop s tg b f i e h = forLoop s' tg b f i e h := by
  intro f
  induction f with
  | zero => intro i e h; simp only [forLoop, hs]
  | succ f ih => intro i e h; simp only [forLoop, hs, ih]
theorem lc_src {s' : Src} (hs : ∀ h, s.get h = s'.get h) : ∀ (f i : Nat) acc h, lcLoop s tg c m e f i acc h = lcLoop s' tg c m e f i acc h := by
  intro f
  induction f with
  | zero => intro i acc h; simp only [lcLoop, hs]
  | succ f ih => intro i acc h; simp only [lcLoop, hs, ih]
theorem for_en {xs : List Vl} {f i : Nat} : forLoop (.en (.st xs)) tg b f i e h = forLoop (.st (enL xs)) tg b f i e h := for_src (by intro h; rfl) f i e h
theorem for_zp {xs ys : List Vl} {f i : Nat} : forLoop (.zp (.st xs) (.st ys)) tg b f i e h = forLoop (.st (zpL xs ys)) tg b f i e h := for_src (by intro h; rfl) f i e h
theorem lc_en {xs : List Vl} {f i : Nat} {acc : List Vl} : lcLoop (.en (.st xs)) tg c m e f i acc h = lcLoop (.st (enL xs)) tg c m e f i acc h := lc_src (by intro h; rfl) f i acc h
theorem lc_zp {xs ys : List Vl} {f i : Nat} {acc : List Vl} : lcLoop (.zp (.st xs) (.st ys)) tg c m e f i acc h = lcLoop (.st (zpL xs ys)) tg c m e f i acc h := lc_src (by intro h; rfl) f i acc h
end
theorem evT_nil {gl : List (Str × Vl)} {cl : Nat → List Vl → AH → Option (Vl × AH)} (e : AE) (h : AH) : evT gl cl .nil e h = some (true, h) := by simp only [evT]
/-! calls in frames -/
section
variable {g : List Vl → AH → Option (Vl × AH)} {h : AH} {vs : List Vl} {u v : Vl}
/-- no list just made or looked at -/
def plainVs : List Vl → Bool
  | [] => true
  | v :: r => v.noBw && noRef v && plainVs r
theorem pins_pure : ∀ {vs : List Vl} {ns : List Nat}, noRefs vs = true → pins vs ns = some (vs.map lendV, ns)
  | [], _, _ => rfl
  | v :: vs, ns, e => by
    simp only [noRefs, Bool.and_eq_true] at e
    have h0 : refNo v = none := by cases v <;> first | rfl | (simp [noRef] at e)
    simp only [pins, h0, e.1, if_true, pins_pure e.2, List.map_cons]
/-- a call that is handed no thing that may be changed -/
theorem frm_pure (hv : noRefs vs = true) (hg : g (vs.map lendV) [] = some (v, [])) (ho : outV 0 [] v = some u) (hb : anyBw vs = true → noLst u = true) : frm g vs h = some (u, h) := by
  simp only [frm, pins_pure hv, getAll, List.all_nil, if_true, run0, hg, List.length_nil, ho, List.take_nil, putAll, Bool.and_true]
  cases hb' : anyBw vs with
  | false => simp
  | true => simp [hb hb']
/-- a call that is handed one list that it may change, and plain things -/
theorem frm_ref1 {n : Nat} {o o' : Ob} (hn : h[n]? = some o) (hv : noRefs vs = true) (hb : anyBw vs = false) (no : noRefO o = true) (no' : noRefO o' = true) (hg : g (.ref 0 :: vs.map lendV) [o] = some (v, [o'])) (ho : outV 1 [o'] v = some u) : frm g (.ref n :: vs) h = some (u, h.set n o') := by
  simp only [frm, pins, refNo, List.not_mem_nil, if_false, List.nil_append, pins_pure hv, getAll, hn, List.all_cons, List.all_nil, Bool.and_true, no, if_true, run0, List.length_nil, hg, List.length_cons, ho, List.take, no', putAll]
  simp [anyBw, hb]
end
end FK

/-! ### texts and data -/
namespace FK
open PySem PySem.Spec PyProof.Rows L2
theorem str_app (a b : Str) : (a ++ b).cps.toList = a.cps.toList ++ b.cps.toList := by
  show (a.cps ++ b.cps).toList = _
  simp
theorem str_len (a : Str) : a.length = a.cps.toList.length := by
  show a.cps.size = _
  simp
theorem str_ext {a b : Str} (h : a.cps.toList = b.cps.toList) : a = b := by
  obtain ⟨x⟩ := a
  obtain ⟨y⟩ := b
  have : x = y := Array.toList_inj.mp h
  rw [this]
theorem app_assoc (a b c : Str) : a ++ b ++ c = a ++ (b ++ c) := str_ext (by simp [str_app])
theorem app_len (a b : Str) : (a ++ b).length = a.length + b.length := by
  rw [str_len, str_len, str_len, str_app, List.length_append]
theorem ofS_inj {a b : String} : (Str.ofString a = Str.ofString b) = (a = b) := by
  apply propext
  refine ⟨fun h => ?_, fun h => by rw [h]⟩
  rw [Str.ofString_eq_toList, Str.ofString_eq_toList] at h
  have h1 : (a.toList.map Char.toNat) = (b.toList.map Char.toNat) := by
    have := congrArg (fun s : Str => s.cps.toList) h
    simpa using this
  have h2 : a.toList = b.toList := by
    have inj : ∀ {x y : Char}, x.toNat = y.toNat → x = y := fun {x y} e => Char.ext (UInt32.toNat_inj.mp e)
    exact List.map_inj_right (fun x y => inj) |>.mp h1
  exact String.toList_inj.mp h2
/-! kinds -/
theorem kit_tab : kitB "NoneType" "str" = some false ∧ kitB "bool" "str" = some false ∧ kitB "int" "str" = some false ∧ kitB "str" "str" = some true ∧ kitB "tuple" "str" = some false ∧ kitB "list" "str" = some false ∧
    kitB "NoneType" "bool" = some false ∧ kitB "bool" "bool" = some true ∧ kitB "int" "bool" = some false ∧ kitB "str" "bool" = some false ∧ kitB "tuple" "bool" = some false ∧ kitB "list" "bool" = some false ∧
    kitB "NoneType" "int" = some false ∧ kitB "bool" "int" = some true ∧ kitB "int" "int" = some true ∧ kitB "str" "int" = some false ∧ kitB "tuple" "int" = some false ∧ kitB "list" "int" = some false ∧
    kitB "NoneType" "tuple" = some false ∧ kitB "bool" "tuple" = some false ∧ kitB "int" "tuple" = some false ∧ kitB "str" "tuple" = some false ∧ kitB "tuple" "tuple" = some true ∧ kitB "list" "tuple" = some false ∧
    kitB "NoneType" "list" = some false ∧ kitB "bool" "list" = some false ∧ kitB "int" "list" = some false ∧ kitB "str" "list" = some false ∧ kitB "tuple" "list" = some false ∧ kitB "list" "list" = some true := by decide +kernel
@[simp] theorem set_last {α : Type} (l : List α) (a b : α) : (l ++ [a]).set l.length b = l ++ [b] := by
  rw [List.set_append_right _ _ (Nat.le_refl _)]; simp
/-! methods -/
theorem tjoin (z : Str) (l : List Str) : Txt.join z l = Str.join z l := TL.join_eq z l
theorem strsOf_nil : strsOf [] = some [] := rfl
theorem strsOf_str (x : Str) (l : List Vl) : strsOf (.str x :: l) = (strsOf l).map (x :: ·) := rfl
theorem strsOf_map (l : List Str) : strsOf (l.map .str) = some l := by
  induction l with
  | nil => rfl
  | cons x l ih => simp only [List.map_cons, strsOf, ih, Option.map_some]
theorem strsOf_mapf {α : Type} (f : α → Str) (l : List α) : strsOf (l.map fun x => .str (f x)) = some (l.map f) := by
  induction l with
  | nil => rfl
  | cons x l ih => simp only [List.map_cons, strsOf, ih, Option.map_some]
theorem strsOf_app (a b : List Vl) : strsOf (a ++ b) = (strsOf a).bind fun x => (strsOf b).map (x ++ ·) := by
  induction a with
  | nil => simp [strsOf]
  | cons x a ih =>
    cases x <;> simp only [List.cons_append, strsOf, Option.bind_none, ih]
    cases strsOf a <;> simp [Function.comp_def]
theorem m_join {z : Str} {v : Vl} {h : AH} {Q : Vl → AH → Prop} : O2 (meV .join (.str z) [v] h) Q = Ok (seqOf v h) fun xs => Ok (strsOf xs) fun ss => (ss.map (·.length)).sum + ss.length * z.length ≤ 16777216 ∧ Q (.str (Str.join z ss)) h := by
  simp only [meV]
  cases seqOf v h with
  | none => simp [ok_none, o2_none]
  | some xs =>
    simp only [ok_some, Option.bind_some]
    cases strsOf xs with
    | none => simp [ok_none, o2_none]
    | some ss => simp only [ok_some, o2_if, o2_some, tjoin]
theorem m_app {n : Nat} {y : Vl} {h : AH} {Q : Vl → AH → Prop} : O2 (meV .append (.ref n) [y] h) Q = Ok h[n]? fun o => ∃ xs, o = .lst xs ∧ xs.length < sizeLine ∧ Q .non (h.set n (.lst (xs ++ [y]))) := by
  simp only [meV]
  cases h[n]? with
  | none => simp [ok_none, o2_none]
  | some o => cases o <;> simp [ok_some, o2_none, o2_if, o2_some]
theorem m_ext {n : Nat} {y : Vl} {h : AH} {Q : Vl → AH → Prop} : O2 (meV .extend (.ref n) [y] h) Q = Ok h[n]? fun o => Ok (lstW y h) fun ys => ∃ xs, o = .lst xs ∧ xs.length + ys.length ≤ sizeLine ∧ Q .non (h.set n (.lst (xs ++ ys))) := by
  simp only [meV]
  cases h[n]? with
  | none => simp [ok_none, o2_none]
  | some o => cases lstW y h <;> cases o <;> simp [ok_some, ok_none, o2_none, o2_if, o2_some]
theorem m_pop {n : Nat} {h : AH} {Q : Vl → AH → Prop} : O2 (meV .pop (.ref n) [] h) Q = Ok h[n]? fun o => ∃ xs, o = .lst xs ∧ Ok xs[xs.length - 1]? fun v => Q v (h.set n (.lst xs.dropLast)) := by
  simp only [meV]
  cases h[n]? with
  | none => simp [ok_none, o2_none]
  | some o =>
    cases o <;> simp [ok_some, ok_none, o2_none, o2_if, o2_some]
    rename_i xs
    cases xs[xs.length - 1]? <;> simp [ok_some, ok_none, o2_none, o2_some]
theorem m_rev {n : Nat} {h : AH} {Q : Vl → AH → Prop} : O2 (meV .reverse (.ref n) [] h) Q = Ok h[n]? fun o => ∃ xs, o = .lst xs ∧ Q .non (h.set n (.lst xs.reverse)) := by
  simp only [meV]
  cases h[n]? with
  | none => simp [ok_none, o2_none]
  | some o => cases o <;> simp [ok_some, o2_none, o2_some]
/-! lengths of shown things -/
mutual
def szD : PyData → Nat
  | .none => 4
  | .bool _ => 5
  | .int i => i.natAbs.log2 + 3
  | .str x => 10 * x.length + 2
  | .list xs => szDs xs + 4
  | .tuple xs => szDs xs + 4
  | .dict _ => 0
def szDs : List PyData → Nat
  | [] => 0
  | d :: ds => szD d + 2 + szDs ds
end
def smallS (x : Str) : Prop := ∀ c ∈ x.cps.toList, c < 16 ^ 8
mutual
def okD : PyData → Prop
  | .none => True
  | .bool _ => True
  | .int _ => True
  | .str x => smallS x
  | .list xs => okDs xs
  | .tuple xs => okDs xs
  | .dict _ => False
def okDs : List PyData → Prop
  | [] => True
  | d :: ds => okD d ∧ okDs ds
end
theorem textFrom_le : ∀ (ts : List Str) (k : Nat) (acc : Str), (textFrom k acc ts).length ≤ acc.length + piled ts
  | [], _, _ => Nat.le_add_right _ _
  | t :: r, k, acc => by
    have ih := textFrom_le r (k + 1) (acc ++ (if k > 0 then ", " else "" : String) ++ t)
    have e : (acc ++ (if k > 0 then ", " else "" : String) ++ t).length ≤ acc.length + 2 + t.length := by
      rw [app_len, app_len]
      have : (Str.ofString (if k > 0 then ", " else "")).length ≤ 2 := by split <;> decide +kernel
      omega
    rw [piled_cons]
    show (textFrom (k + 1) (acc ++ (if k > 0 then ", " else "" : String) ++ t) r).length ≤ _
    omega
theorem listText_le (ts : List Str) : (listText ts).length ≤ piled ts + 2 := by
  unfold listText
  rw [app_len]
  have h := textFrom_le ts 0 "["
  have e1 : (Str.ofString "[").length = 1 := by decide +kernel
  have e2 : (Str.ofString "]").length = 1 := by decide +kernel
  omega
theorem tupleText_le (ts : List Str) : (tupleText ts).length ≤ piled ts + 3 := by
  unfold tupleText
  rw [app_len, app_len]
  have e1 : (Str.ofString "(").length = 1 := by decide +kernel
  have e2 : (Str.ofString (if ts.length == 1 then ",)" else ")")).length ≤ 2 := by split <;> decide +kernel
  have e3 : (Str.join ", " ts).length ≤ piled ts := by
    cases ts with
    | nil => exact Nat.zero_le _
    | cons t r =>
      have := join_length_add (t :: r) (by simp)
      omega
  omega
theorem intText_le (i : Int) : (Str.ofString (toString i)).length ≤ i.natAbs.log2 + 3 := by
  have h := int_text_length_le (a := i) (k := i.natAbs.log2 + 1) (by omega) (by omega)
  have e := PySem.ofString_length (toString i)
  omega
mutual
theorem shown_le : ∀ (d : PyData), okD d → d.shown.length ≤ szD d
  | .none, _ => by show (Str.ofString "None").length ≤ 4; decide +kernel
  | .bool b, _ => by cases b <;> (simp only [PyData.shown, szD]; decide +kernel)
  | .int i, _ => by simp only [PyData.shown, szD]; exact intText_le i
  | .str x, h => by
    simp only [PyData.shown, szD]
    simp only [okD] at h
    exact StrLaws.reprText_len x h
  | .list xs, h => by
    simp only [okD] at h
    simp only [PyData.shown, szD]
    have h1 := shownAll_le xs h
    have h2 := listText_le (PyData.shownAll xs)
    omega
  | .tuple xs, h => by
    simp only [okD] at h
    simp only [PyData.shown, szD]
    have h1 := shownAll_le xs h
    have h2 := tupleText_le (PyData.shownAll xs)
    omega
  | .dict kvs, h => by simp only [okD] at h
theorem shownAll_le : ∀ (ds : List PyData), okDs ds → piled (PyData.shownAll ds) ≤ szDs ds
  | [], _ => by simp [PyData.shownAll, piled, szDs]
  | d :: ds, h => by
    simp only [okDs] at h
    simp only [PyData.shownAll, piled_cons, szDs]
    have h1 := shown_le d h.1
    have h2 := shownAll_le ds h.2
    omega
end
/-- a text of signs -/
def txS (x : Str) : Prop := ∀ c ∈ x.cps.toList, c < 0x110000
theorem txS.small {x : Str} (h : txS x) : smallS x := fun c hc => Nat.lt_trans (h c hc) (by decide)
theorem txS.ok {x : Str} (h : txS x) : PyData.strOk x = true := by
  unfold PyData.strOk
  rw [Array.all_eq_true_iff_forall_mem]
  intro c hc
  simpa using h c (by simpa using hc)
theorem txS.app {x y : Str} (h : txS x) (g : txS y) : txS (x ++ y) := fun c hc => by
  rw [str_app] at hc
  rcases List.mem_append.mp hc with z | z
  · exact h c z
  · exact g c z
/-! plain data among the values: no thing that may be changed, no dict -/
mutual
def dat : Vl → PyData
  | .bl b => .bool b
  | .int i => .int i
  | .str x => .str x
  | .tup xs => .tuple (dats xs)
  | .fz xs => .list (dats xs)
  | .fl xs => .list (dats xs)
  | .bw xs => .list (dats xs)
  | .kz xs => .list (dats xs)
  | _ => .none
def dats : List Vl → List PyData
  | [] => []
  | x :: xs => dat x :: dats xs
end
mutual
/-- plain data, at most n deep, whose texts and numbers are not too great -/
def IsD : Nat → Vl → Prop
  | _, .non => True
  | _, .bl _ => True
  | _, .int i => i.natAbs.log2 < 1900
  | _, .str x => txS x
  | 0, .tup xs => xs = []
  | n + 1, .tup xs => IsDs n xs
  | 0, .fz xs => xs = []
  | n + 1, .fz xs => IsDs n xs
  | 0, .fl xs => xs = []
  | n + 1, .fl xs => IsDs n xs
  | _, _ => False
def IsDs : Nat → List Vl → Prop
  | _, [] => True
  | n, x :: xs => IsD n x ∧ IsDs n xs
end
mutual
def szV : Vl → Nat
  | .int i => i.natAbs.log2 + 3
  | .str x => 10 * x.length + 2
  | .tup xs => szVs xs + 4
  | .fz xs => szVs xs + 4
  | .fl xs => szVs xs + 4
  | _ => 5
def szVs : List Vl → Nat
  | [] => 0
  | x :: xs => szV x + 2 + szVs xs
end
theorem mapM_dats {f : Vl → Option PyData} : ∀ {xs : List Vl}, (∀ x ∈ xs, f x = some (dat x)) → xs.mapM f = some (dats xs)
  | [], _ => rfl
  | x :: xs, h => by
    rw [List.mapM_cons, h x (by simp), mapM_dats fun y hy => h y (List.mem_cons_of_mem _ hy)]
    rfl
theorem IsDs.mem : ∀ {n : Nat} {xs : List Vl}, IsDs n xs → ∀ x ∈ xs, IsD n x
  | _, [], _, x, hx => by cases hx
  | n, y :: xs, h, x, hx => by
    simp only [IsDs] at h
    rcases List.mem_cons.mp hx with rfl | hx
    · exact h.1
    · exact IsDs.mem h.2 x hx
theorem IsDs.of : ∀ {n : Nat} {xs : List Vl}, (∀ x ∈ xs, IsD n x) → IsDs n xs
  | _, [], _ => by simp only [IsDs]
  | n, y :: xs, h => by
    simp only [IsDs]
    exact ⟨h y (by simp), IsDs.of fun x hx => h x (List.mem_cons_of_mem _ hx)⟩
theorem toD_dat {h : AH} : ∀ (n m : Nat) (v : Vl), IsD n v → n < m → toD m h v = some (dat v)
  | n, 0, _, _, hm => by omega
  | n, m + 1, v, hv, hm => by
    cases v <;> first | (simp only [toD, dat]; done) | skip
    case tup xs =>
      simp only [toD, dat]
      cases n with
      | zero => simp only [IsD] at hv; subst hv; rfl
      | succ n =>
        simp only [IsD] at hv
        rw [mapM_dats fun x hx => toD_dat n m x (hv.mem x hx) (by omega)]
        rfl
    case fz xs =>
      simp only [toD, dat]
      cases n with
      | zero => simp only [IsD] at hv; subst hv; rfl
      | succ n =>
        simp only [IsD] at hv
        rw [mapM_dats fun x hx => toD_dat n m x (hv.mem x hx) (by omega)]
        rfl
    case fl xs =>
      simp only [toD, dat]
      cases n with
      | zero => simp only [IsD] at hv; subst hv; rfl
      | succ n =>
        simp only [IsD] at hv
        rw [mapM_dats fun x hx => toD_dat n m x (hv.mem x hx) (by omega)]
        rfl
    all_goals (cases n <;> simp only [IsD] at hv)
mutual
theorem datP : ∀ (n : Nat) (v : Vl), IsD n v → okD (dat v) ∧ (dat v).showable = true ∧ (dat v).hasDict = false ∧ (dat v).depth ≤ n + 1 ∧ szD (dat v) ≤ szV v ∧ (dat v).canLay0 = true
  | n, .non, _ => by simp [dat, okD, PyData.showable, PyData.hasDict, PyData.depth, szD, szV, PyData.canLay0]
  | n, .bl _, _ => by simp [dat, okD, PyData.showable, PyData.hasDict, PyData.depth, szD, szV, PyData.canLay0]
  | n, .int i, h => by
    have h' : i.natAbs.log2 < 1900 := by cases n <;> simpa only [IsD] using h
    simp only [dat, okD, PyData.showable, PyData.hasDict, PyData.depth, szD, szV, PyData.canLay0, decide_eq_true_eq]
    exact ⟨trivial, by omega, trivial, by omega, Nat.le_refl _, trivial⟩
  | n, .str x, h => by
    have h' : txS x := by cases n <;> simpa only [IsD] using h
    simp only [dat, okD, PyData.showable, PyData.hasDict, PyData.depth, szD, szV, PyData.canLay0]
    exact ⟨h'.small, trivial, trivial, by omega, Nat.le_refl _, h'.ok⟩
  | 0, .tup xs, h => by
    simp only [IsD] at h
    subst h
    simp [dat, dats, okD, okDs, PyData.showable, PyData.showableAll, PyData.hasDict, PyData.hasDictAll, PyData.depth, PyData.depthAll, szD, szDs, szV, szVs, PyData.canLay0, PyData.canLayAll0]
  | n + 1, .tup xs, h => by
    simp only [IsD] at h
    obtain ⟨h1, h2, h3, h4, h5, h6⟩ := datPs n xs h
    simp only [dat, okD, PyData.showable, PyData.hasDict, PyData.depth, szD, szV, PyData.canLay0]
    exact ⟨h1, h2, h3, by omega, by omega, h6⟩
  | 0, .fz xs, h => by
    simp only [IsD] at h
    subst h
    simp [dat, dats, okD, okDs, PyData.showable, PyData.showableAll, PyData.hasDict, PyData.hasDictAll, PyData.depth, PyData.depthAll, szD, szDs, szV, szVs, PyData.canLay0, PyData.canLayAll0]
  | n + 1, .fz xs, h => by
    simp only [IsD] at h
    obtain ⟨h1, h2, h3, h4, h5, h6⟩ := datPs n xs h
    simp only [dat, okD, PyData.showable, PyData.hasDict, PyData.depth, szD, szV, PyData.canLay0]
    exact ⟨h1, h2, h3, by omega, by omega, h6⟩
  | 0, .fl xs, h => by
    simp only [IsD] at h
    subst h
    simp [dat, dats, okD, okDs, PyData.showable, PyData.showableAll, PyData.hasDict, PyData.hasDictAll, PyData.depth, PyData.depthAll, szD, szDs, szV, szVs, PyData.canLay0, PyData.canLayAll0]
  | n + 1, .fl xs, h => by
    simp only [IsD] at h
    obtain ⟨h1, h2, h3, h4, h5, h6⟩ := datPs n xs h
    simp only [dat, okD, PyData.showable, PyData.hasDict, PyData.depth, szD, szV, PyData.canLay0]
    exact ⟨h1, h2, h3, by omega, by omega, h6⟩
  | n, .ty _, h => by cases n <;> simp only [IsD] at h
  | n, .ref _, h => by cases n <;> simp only [IsD] at h
  | n, .bw _, h => by cases n <;> simp only [IsD] at h
  | n, .kz _, h => by cases n <;> simp only [IsD] at h
  | n, .fd _ _, h => by cases n <;> simp only [IsD] at h
  | n, .zd _ _, h => by cases n <;> simp only [IsD] at h
  | n, .bd _ _, h => by cases n <;> simp only [IsD] at h
theorem datPs : ∀ (n : Nat) (vs : List Vl), IsDs n vs → okDs (dats vs) ∧ PyData.showableAll (dats vs) = true ∧ PyData.hasDictAll (dats vs) = false ∧ PyData.depthAll (dats vs) ≤ n + 1 ∧ szDs (dats vs) ≤ szVs vs ∧ PyData.canLayAll0 (dats vs) = true
  | n, [], _ => by simp [dats, okDs, PyData.showableAll, PyData.hasDictAll, PyData.depthAll, szDs, szVs, PyData.canLayAll0]
  | n, v :: vs, h => by
    simp only [IsDs] at h
    obtain ⟨a1, a2, a3, a4, a5, a6⟩ := datP n v h.1
    obtain ⟨b1, b2, b3, b4, b5, b6⟩ := datPs n vs h.2
    simp only [dats, okDs, PyData.showableAll, PyData.hasDictAll, PyData.depthAll, szDs, szVs, PyData.canLayAll0, a2, a3, a6, b2, b3, b6]
    exact ⟨⟨a1, b1⟩, rfl, rfl, by omega, by omega, rfl⟩
end
/-- str of plain data -/
theorem strV_dat {h : AH} {n : Nat} {v : Vl} (hv : IsD n v) (hn : n ≤ 60) (hz : szV v ≤ sizeLine) (hs : ∀ x, v ≠ .str x) : strV v h = some (dat v).shown := by
  obtain ⟨h1, h2, h3, h4, h5, h6⟩ := datP n v hv
  have hl := shown_le _ h1
  have e : toD 66 h v = some (dat v) := toD_dat n 66 v hv (by omega)
  have d1 : (dat v).depth ≤ 64 := by omega
  have d2 : (dat v).shown.length ≤ sizeLine := by omega
  cases v <;> first | (exact absurd rfl (hs _)) | (simp [strV, e, h2, h3, d1, d2])
theorem strV_int {h : AH} {i : Int} (hi : i.natAbs.log2 < 1900) : strV (.int i) h = some (Str.ofString (toString i)) := by
  rw [strV_dat (n := 0) (by simpa only [IsD] using hi) (by omega) (by simp only [szV, sizeLine]; omega) (by simp)]
  simp only [dat, PyData.shown]
end FK

namespace FK
open PySem PySem.Spec PyProof.Rows L2
/-- _law_mix: 0 law_cell, 1 law_k, 2 law_m -/
def F.law_mix_body : Sx := (.seq (.set 2 (.bin .Mod (.bin .Mult (.bin .Add (.bin .Add (.bin .Mod (.var 0) (.cst (.int 2147483629))) (.bin .Mult (.bin .Mult (.var 1) (.var 1)) (.cst (.int 7919)))) (.cst (.int 11))) (.cst (.int 48271))) (.cst (.int 2147483647)))) (.seq (.ret (.bin .Mod (.bin .Mult (.var 2) (.var 2)) (.cst (.int 1999999973)))) .nil))
def F.law_mix : Fn := ⟨2, 3, F.law_mix_body⟩
/-- _law_left: 0 law_script, 1 law_k, 2 law_cell, 3 law_own -/
def F.law_left_body : Sx := (.seq (.set 2 (.ite (.val (.cmp .Lt (.var 1) (.bi .len (.cons (.var 0) .nil)))) (.ix (.var 0) (.var 1)) (.cst (.int 0)))) (.seq (.set 3 (.ite (.val (.cmp .GtE (.bi .abs (.cons (.var 2) .nil)) (.bin .Pow (.cst (.int 10)) (.cst (.int 18))))) (.bi .abs (.cons (.var 2) .nil)) (.cst (.int 0)))) (.seq (.ret (.lst (.cons (.var 3) (.cons (.bin .Add (.var 2) (.bin .Mult (.cst (.int 1000003)) (.var 1))) (.cons (.cst (.int 0)) .nil))))) .nil)))
def F.law_left : Fn := ⟨2, 4, F.law_left_body⟩
/-- _law_pick: 0 law_left_here@, 1 law_many, 2 law_digit -/
def F.law_pick_body : Sx := (.seq (.setIx (.var 0) (.cst (.int 2)) (.bin .Add (.ix (.var 0) (.cst (.int 2))) (.cst (.int 1)))) (.seq (.ifs (.val (.cmp .Gt (.ix (.var 0) (.cst (.int 0))) (.cst (.int 0)))) (.seq (.set 2 (.bin .Mod (.ix (.var 0) (.cst (.int 0))) (.var 1))) (.seq (.setIx (.var 0) (.cst (.int 0)) (.bin .FloorDiv (.ix (.var 0) (.cst (.int 0))) (.var 1))) (.seq (.ret (.var 2)) .nil))) .nil) (.seq (.ret (.bin .Mod (.bin .FloorDiv (.pcall 4 (.cons (.pcall 4 (.cons (.ix (.var 0) (.cst (.int 1))) (.cons (.ix (.var 0) (.cst (.int 2))) .nil))) (.cons (.bin .Add (.ix (.var 0) (.cst (.int 2))) (.cst (.int 64))) .nil))) (.cst (.int 64))) (.var 1))) .nil)))
def F.law_pick : Fn := ⟨2, 3, F.law_pick_body⟩
/-- the draws stand in the program -/
structure HasDraw (W : Wd) : Prop where
  mix : W.fns.lookup 4 = some F.law_mix
  left : W.fns.lookup 5 = some F.law_left
  pick : W.fns.lookup 6 = some F.law_pick
theorem mulR {i j : Int} (h1 : -(2 ^ 64) < j) (h2 : j < 2 ^ 64) : CMulB i j = true := by
  simp [CMulB]; omega
theorem mulL {i j : Int} (h1 : -(2 ^ 64) < i) (h2 : i < 2 ^ 64) : CMulB i j = true := by
  simp [CMulB]; omega
def mixI (c j : Int) : Int := let m := (c % 2147483629 + j * j * 7919 + 11) * 48271 % 2147483647; m * m % 1999999973
section
variable {W : Wd} (D : HasDraw W) {k : Nat} {h : AH}
include D
theorem mix_ok (c j : Int) (hk : 1 ≤ k) (h1 : 0 ≤ j) (h2 : j < 2 ^ 60) : frm (W.C k 4) [.int c, .int j] h = some (.int (mixI c j), h) := by
  refine frm_pure (v := .int (mixI c j)) rfl ?_ rfl (by simp [anyBw])
  obtain ⟨k, rfl⟩ : ∃ i, k = i + 1 := ⟨k - 1, by omega⟩
  apply O2.eq
  rw [Wd.C_run D.mix]
  have e1 : CMulB j j = true := mulR (by omega) (by omega)
  have e2 : CMulB (j * j) 7919 = true := mulR (by decide) (by decide)
  have e3 : CMulB (c % 2147483629 + j * j * 7919 + 11) 48271 = true := mulR (by decide) (by decide)
  have e4 : ∀ x : Int, CMulB (x % 2147483647) (x % 2147483647) = true := fun x => mulR (by omega) (by omega)
  simp -dsimp [F.law_mix, F.law_mix_body, ↓w_var, ↓w_cst, ↓w_bty, ↓w_glob, ↓w_bin, ↓w_neg, ↓w_cmp, ↓w_chain, ↓w_and, ↓w_or, ↓w_not, ↓w_ite, ↓w_lst, ↓w_tup, ↓w_ix, ↓w_sl, ↓w_lc, ↓w_call, ↓w_pcall, ↓w_new, ↓w_bi, ↓w_me, ↓w_dsp, ↓wt_nil, ↓wt_and, ↓wt_or, ↓wt_not, ↓wt_val, ↓wa_nil, ↓wa_cons, ↓wb_nil, ↓wb_cons, ↓wo_nil, ↓wo_cons, ↓ws_nil, ↓ws_seq, ↓ws_set, ↓ws_setT, ↓ws_setIx, ↓ws_aug, ↓ws_ifs, ↓ws_for, ↓ws_whl, ↓ws_ret, ↓ws_retN, ↓ws_expr, ↓ws_pass, ↓ws_brk, ↓ws_setO, ↓ws_retO, ↓ws_appO, ↓ws_extO, ↓ws_revO, ↓ws_putO, ↓ws_par, ↓ws_wipe, ↓ws_frz, ↓ok_some, ↓ok_none, ↓o2_some, ↓o2_none, ↓o3_some, ↓o3_none, ↓seqQ_nx, ↓seqQ_rt, ↓seqQ_bk, ↓seqQ_ct, ↓retQ_rt, ↓retQ_nx, ↓turnQ_nx, ↓turnQ_rt, ↓turnQ_bk, ↓turnQ_ct, ↓wipeQ, ↓w_runF, for_en, for_zp, lc_en, lc_zp, wipeE, flV', asg, asgs, parV, Src.get, srcOf, seqSrc, sizeLine, newV, binV, addV, ixV, dctOf, seqOf, lstOf, lstW, slV, biV, isV, tyOf, cmpV, augV, setIxV, meTy, m_join, m_app, m_ext, m_pop, m_rev, strsOf_str, strsOf_nil, strsOf_app, strsOf_mapf, strsOf_map, Option.bind_some, Option.map_some, atI, ixN, ↓ok_if, ↓ok_map, ↓ok_bind, ↓o2_if, ↓o3_if, e1, e2, e3, e4, mixI]
/-- what is drawn from, at most B draws on -/
def Dr (B : Nat) (o : Ob) : Prop := ∃ (w c : Int) (n : Nat), o = .lst [.int w, .int c, .int n] ∧ n ≤ B
omit D in
theorem Dr.mono {B B' : Nat} {o : Ob} (h : Dr B o) (l : B ≤ B') : Dr B' o := let ⟨w, c, n, e, q⟩ := h; ⟨w, c, n, e, by omega⟩
omit D in
theorem Dr.nr {B : Nat} {o : Ob} (h : Dr B o) : noRefO o = true := by obtain ⟨w, c, n, rfl, _⟩ := h; rfl
theorem pick_run {o : Ob} {B : Nat} {m : Int} (hk : 2 ≤ k) (hB : Dr B o) (hb : B < 2 ^ 50) (m0 : 0 < m) (m1 : m < 2 ^ 200) : ∃ d o', W.C k 6 [.ref 0, .int m] [o] = some (.int d, [o']) ∧ 0 ≤ d ∧ d < m ∧ Dr (B + 1) o' := by
  obtain ⟨k, rfl⟩ : ∃ i, k = i + 1 := ⟨k - 1, by omega⟩
  obtain ⟨w, c, n, rfl, hn⟩ := hB
  have hm : (0 < m ∧ m < 1073741824) ∨ (0 < m ∧ m.natAbs.log2 < 9000) := by
    right
    refine ⟨m0, ?_⟩
    have h1 : m.natAbs < 2 ^ 200 := by omega
    have h2 : m.natAbs ≠ 0 := by omega
    have := (Nat.log2_lt h2).mpr h1
    omega
  by_cases hw : 0 < w
  · refine ⟨w % m, .lst [.int (w / m), .int c, .int (n + 1)], ?_, Int.emod_nonneg _ (by omega), Int.emod_lt_of_pos _ m0, _, _, n + 1, rfl, by omega⟩
    apply O2.eq
    rw [Wd.C_run D.pick]
    rcases hm with hm | hm
    · simp -dsimp [F.law_pick, F.law_pick_body, ↓w_var, ↓w_cst, ↓w_bty, ↓w_glob, ↓w_bin, ↓w_neg, ↓w_cmp, ↓w_chain, ↓w_and, ↓w_or, ↓w_not, ↓w_ite, ↓w_lst, ↓w_tup, ↓w_ix, ↓w_sl, ↓w_lc, ↓w_call, ↓w_pcall, ↓w_new, ↓w_bi, ↓w_me, ↓w_dsp, ↓wt_nil, ↓wt_and, ↓wt_or, ↓wt_not, ↓wt_val, ↓wa_nil, ↓wa_cons, ↓wb_nil, ↓wb_cons, ↓wo_nil, ↓wo_cons, ↓ws_nil, ↓ws_seq, ↓ws_set, ↓ws_setT, ↓ws_setIx, ↓ws_aug, ↓ws_ifs, ↓ws_for, ↓ws_whl, ↓ws_ret, ↓ws_retN, ↓ws_expr, ↓ws_pass, ↓ws_brk, ↓ws_setO, ↓ws_retO, ↓ws_appO, ↓ws_extO, ↓ws_revO, ↓ws_putO, ↓ws_par, ↓ws_wipe, ↓ws_frz, ↓ok_some, ↓ok_none, ↓o2_some, ↓o2_none, ↓o3_some, ↓o3_none, ↓seqQ_nx, ↓seqQ_rt, ↓seqQ_bk, ↓seqQ_ct, ↓retQ_rt, ↓retQ_nx, ↓turnQ_nx, ↓turnQ_rt, ↓turnQ_bk, ↓turnQ_ct, ↓wipeQ, ↓w_runF, for_en, for_zp, lc_en, lc_zp, wipeE, flV', asg, asgs, parV, Src.get, srcOf, seqSrc, sizeLine, newV, binV, addV, ixV, dctOf, seqOf, lstOf, lstW, slV, biV, isV, tyOf, cmpV, augV, setIxV, meTy, m_join, m_app, m_ext, m_pop, m_rev, strsOf_str, strsOf_nil, strsOf_app, strsOf_mapf, strsOf_map, Option.bind_some, Option.map_some, atI, ixN, ↓ok_if, ↓ok_map, ↓ok_bind, ↓o2_if, ↓o3_if, hw, hm, m0]
    · by_cases hs : m < 1073741824
      · simp -dsimp [F.law_pick, F.law_pick_body, ↓w_var, ↓w_cst, ↓w_bty, ↓w_glob, ↓w_bin, ↓w_neg, ↓w_cmp, ↓w_chain, ↓w_and, ↓w_or, ↓w_not, ↓w_ite, ↓w_lst, ↓w_tup, ↓w_ix, ↓w_sl, ↓w_lc, ↓w_call, ↓w_pcall, ↓w_new, ↓w_bi, ↓w_me, ↓w_dsp, ↓wt_nil, ↓wt_and, ↓wt_or, ↓wt_not, ↓wt_val, ↓wa_nil, ↓wa_cons, ↓wb_nil, ↓wb_cons, ↓wo_nil, ↓wo_cons, ↓ws_nil, ↓ws_seq, ↓ws_set, ↓ws_setT, ↓ws_setIx, ↓ws_aug, ↓ws_ifs, ↓ws_for, ↓ws_whl, ↓ws_ret, ↓ws_retN, ↓ws_expr, ↓ws_pass, ↓ws_brk, ↓ws_setO, ↓ws_retO, ↓ws_appO, ↓ws_extO, ↓ws_revO, ↓ws_putO, ↓ws_par, ↓ws_wipe, ↓ws_frz, ↓ok_some, ↓ok_none, ↓o2_some, ↓o2_none, ↓o3_some, ↓o3_none, ↓seqQ_nx, ↓seqQ_rt, ↓seqQ_bk, ↓seqQ_ct, ↓retQ_rt, ↓retQ_nx, ↓turnQ_nx, ↓turnQ_rt, ↓turnQ_bk, ↓turnQ_ct, ↓wipeQ, ↓w_runF, for_en, for_zp, lc_en, lc_zp, wipeE, flV', asg, asgs, parV, Src.get, srcOf, seqSrc, sizeLine, newV, binV, addV, ixV, dctOf, seqOf, lstOf, lstW, slV, biV, isV, tyOf, cmpV, augV, setIxV, meTy, m_join, m_app, m_ext, m_pop, m_rev, strsOf_str, strsOf_nil, strsOf_app, strsOf_mapf, strsOf_map, Option.bind_some, Option.map_some, atI, ixN, ↓ok_if, ↓ok_map, ↓ok_bind, ↓o2_if, ↓o3_if, hw, hm, m0, hs]
      · simp -dsimp [F.law_pick, F.law_pick_body, ↓w_var, ↓w_cst, ↓w_bty, ↓w_glob, ↓w_bin, ↓w_neg, ↓w_cmp, ↓w_chain, ↓w_and, ↓w_or, ↓w_not, ↓w_ite, ↓w_lst, ↓w_tup, ↓w_ix, ↓w_sl, ↓w_lc, ↓w_call, ↓w_pcall, ↓w_new, ↓w_bi, ↓w_me, ↓w_dsp, ↓wt_nil, ↓wt_and, ↓wt_or, ↓wt_not, ↓wt_val, ↓wa_nil, ↓wa_cons, ↓wb_nil, ↓wb_cons, ↓wo_nil, ↓wo_cons, ↓ws_nil, ↓ws_seq, ↓ws_set, ↓ws_setT, ↓ws_setIx, ↓ws_aug, ↓ws_ifs, ↓ws_for, ↓ws_whl, ↓ws_ret, ↓ws_retN, ↓ws_expr, ↓ws_pass, ↓ws_brk, ↓ws_setO, ↓ws_retO, ↓ws_appO, ↓ws_extO, ↓ws_revO, ↓ws_putO, ↓ws_par, ↓ws_wipe, ↓ws_frz, ↓ok_some, ↓ok_none, ↓o2_some, ↓o2_none, ↓o3_some, ↓o3_none, ↓seqQ_nx, ↓seqQ_rt, ↓seqQ_bk, ↓seqQ_ct, ↓retQ_rt, ↓retQ_nx, ↓turnQ_nx, ↓turnQ_rt, ↓turnQ_bk, ↓turnQ_ct, ↓wipeQ, ↓w_runF, for_en, for_zp, lc_en, lc_zp, wipeE, flV', asg, asgs, parV, Src.get, srcOf, seqSrc, sizeLine, newV, binV, addV, ixV, dctOf, seqOf, lstOf, lstW, slV, biV, isV, tyOf, cmpV, augV, setIxV, meTy, m_join, m_app, m_ext, m_pop, m_rev, strsOf_str, strsOf_nil, strsOf_app, strsOf_mapf, strsOf_map, Option.bind_some, Option.map_some, atI, ixN, ↓ok_if, ↓ok_map, ↓ok_bind, ↓o2_if, ↓o3_if, hw, hm, m0, hs]
  · refine ⟨mixI (mixI c (n + 1)) (n + 1 + 64) / 64 % m, .lst [.int w, .int c, .int (n + 1)], ?_, Int.emod_nonneg _ (by omega), Int.emod_lt_of_pos _ m0, _, _, n + 1, rfl, by omega⟩
    apply O2.eq
    rw [Wd.C_run D.pick]
    have q1 := fun h => mix_ok D (k := k) (h := h) c (n + 1) (by omega) (by omega) (by omega)
    have q2 := fun h => mix_ok D (k := k) (h := h) (mixI c (n + 1)) (n + 1 + 64) (by omega) (by omega) (by omega)
    simp -dsimp [F.law_pick, F.law_pick_body, ↓w_var, ↓w_cst, ↓w_bty, ↓w_glob, ↓w_bin, ↓w_neg, ↓w_cmp, ↓w_chain, ↓w_and, ↓w_or, ↓w_not, ↓w_ite, ↓w_lst, ↓w_tup, ↓w_ix, ↓w_sl, ↓w_lc, ↓w_call, ↓w_pcall, ↓w_new, ↓w_bi, ↓w_me, ↓w_dsp, ↓wt_nil, ↓wt_and, ↓wt_or, ↓wt_not, ↓wt_val, ↓wa_nil, ↓wa_cons, ↓wb_nil, ↓wb_cons, ↓wo_nil, ↓wo_cons, ↓ws_nil, ↓ws_seq, ↓ws_set, ↓ws_setT, ↓ws_setIx, ↓ws_aug, ↓ws_ifs, ↓ws_for, ↓ws_whl, ↓ws_ret, ↓ws_retN, ↓ws_expr, ↓ws_pass, ↓ws_brk, ↓ws_setO, ↓ws_retO, ↓ws_appO, ↓ws_extO, ↓ws_revO, ↓ws_putO, ↓ws_par, ↓ws_wipe, ↓ws_frz, ↓ok_some, ↓ok_none, ↓o2_some, ↓o2_none, ↓o3_some, ↓o3_none, ↓seqQ_nx, ↓seqQ_rt, ↓seqQ_bk, ↓seqQ_ct, ↓retQ_rt, ↓retQ_nx, ↓turnQ_nx, ↓turnQ_rt, ↓turnQ_bk, ↓turnQ_ct, ↓wipeQ, ↓w_runF, for_en, for_zp, lc_en, lc_zp, wipeE, flV', asg, asgs, parV, Src.get, srcOf, seqSrc, sizeLine, newV, binV, addV, ixV, dctOf, seqOf, lstOf, lstW, slV, biV, isV, tyOf, cmpV, augV, setIxV, meTy, m_join, m_app, m_ext, m_pop, m_rev, strsOf_str, strsOf_nil, strsOf_app, strsOf_mapf, strsOf_map, Option.bind_some, Option.map_some, atI, ixN, ↓ok_if, ↓ok_map, ↓ok_bind, ↓o2_if, ↓o3_if, hw, q1, q2, m0]
/-- a draw -/
theorem pick_ok {o : Ob} {B a : Nat} {m : Int} (hk : 2 ≤ k) (ha : h[a]? = some o) (hB : Dr B o) (hb : B < 2 ^ 50) (m0 : 0 < m) (m1 : m < 2 ^ 200) {Q : Vl → AH → Prop} (q : ∀ d o', 0 ≤ d → d < m → Dr (B + 1) o' → Q (.int d) (h.set a o')) : O2 (frm (W.C k 6) [.ref a, .int m] h) Q := by
  obtain ⟨d, o', e, d0, d1, hB'⟩ := pick_run D hk hB hb m0 m1
  exact ⟨_, _, frm_ref1 (vs := [.int m]) ha rfl rfl hB.nr hB'.nr e rfl, q d o' d0 d1 hB'⟩
/-- what is drawn from, begun -/
theorem left_ok (ns : List Int) (j : Nat) (hk : 1 ≤ k) (hj : j < 2 ^ 50) : ∃ w c : Int, frm (W.C k 5) [.kz (ns.map .int), .int j] h = some (.fl [.int w, .int c, .int 0], h) := by
  obtain ⟨k, rfl⟩ : ∃ i, k = i + 1 := ⟨k - 1, by omega⟩
  have nr : noRefs (ns.map Vl.int) = true := by
    induction ns with
    | nil => rfl
    | cons x l ih => simp [noRefs, noRef, ih]
  suffices H : ∃ w c : Int, W.C (k + 1) 5 [.kz (ns.map .int), .int j] [] = some (.fl [.int w, .int c, .int 0], []) by
    obtain ⟨w, c, e⟩ := H
    exact ⟨w, c, frm_pure (v := .fl [.int w, .int c, .int 0]) (by simp [noRefs, noRef, nr]) e rfl (by simp)⟩
  have m1 : ∀ j : Int, CMulB 1000003 j = true := fun j => mulL (by decide) (by decide)
  rw [Wd.C_run D.left]
  by_cases hj' : j < ns.length
  · have hat : atI (ns.map Vl.int) (j : Int) = some (.int ns[j]) := atI_nat (j := j) (by simp [hj'])
    have hix : ∀ h, ixV (.kz (ns.map .int)) (.int j) h = some (.int ns[j]) := fun h => by simp [ixV, dctOf, seqOf, lstOf, hat]
    by_cases ha : (1000000000000000000 : Int) ≤ (if ns[j] < 0 then -ns[j] else ns[j])
    · refine ⟨_, _, O2.eq (a := Vl.fl [.int (if ns[j] < 0 then -ns[j] else ns[j]), .int (ns[j] + 1000003 * j), .int 0]) ?_⟩
      simp -dsimp [F.law_left, F.law_left_body, ↓w_var, ↓w_cst, ↓w_bty, ↓w_glob, ↓w_bin, ↓w_neg, ↓w_cmp, ↓w_chain, ↓w_and, ↓w_or, ↓w_not, ↓w_ite, ↓w_lst, ↓w_tup, ↓w_ix, ↓w_sl, ↓w_lc, ↓w_call, ↓w_pcall, ↓w_new, ↓w_bi, ↓w_me, ↓w_dsp, ↓wt_nil, ↓wt_and, ↓wt_or, ↓wt_not, ↓wt_val, ↓wa_nil, ↓wa_cons, ↓wb_nil, ↓wb_cons, ↓wo_nil, ↓wo_cons, ↓ws_nil, ↓ws_seq, ↓ws_set, ↓ws_setT, ↓ws_setIx, ↓ws_aug, ↓ws_ifs, ↓ws_for, ↓ws_whl, ↓ws_ret, ↓ws_retN, ↓ws_expr, ↓ws_pass, ↓ws_brk, ↓ws_setO, ↓ws_retO, ↓ws_appO, ↓ws_extO, ↓ws_revO, ↓ws_putO, ↓ws_par, ↓ws_wipe, ↓ws_frz, ↓ok_some, ↓ok_none, ↓o2_some, ↓o2_none, ↓o3_some, ↓o3_none, ↓seqQ_nx, ↓seqQ_rt, ↓seqQ_bk, ↓seqQ_ct, ↓retQ_rt, ↓retQ_nx, ↓turnQ_nx, ↓turnQ_rt, ↓turnQ_bk, ↓turnQ_ct, ↓wipeQ, ↓w_runF, for_en, for_zp, lc_en, lc_zp, wipeE, flV', asg, asgs, parV, Src.get, srcOf, seqSrc, sizeLine, newV, binV, addV, dctOf, seqOf, lstOf, lstW, slV, biV, isV, tyOf, cmpV, augV, setIxV, meTy, m_join, m_app, m_ext, m_pop, m_rev, strsOf_str, strsOf_nil, strsOf_app, strsOf_mapf, strsOf_map, Option.bind_some, Option.map_some, ↓ok_if, ↓ok_map, ↓ok_bind, ↓o2_if, ↓o3_if, hj', hix, m1, ha]
    · refine ⟨_, _, O2.eq (a := Vl.fl [.int 0, .int (ns[j] + 1000003 * j), .int 0]) ?_⟩
      simp -dsimp [F.law_left, F.law_left_body, ↓w_var, ↓w_cst, ↓w_bty, ↓w_glob, ↓w_bin, ↓w_neg, ↓w_cmp, ↓w_chain, ↓w_and, ↓w_or, ↓w_not, ↓w_ite, ↓w_lst, ↓w_tup, ↓w_ix, ↓w_sl, ↓w_lc, ↓w_call, ↓w_pcall, ↓w_new, ↓w_bi, ↓w_me, ↓w_dsp, ↓wt_nil, ↓wt_and, ↓wt_or, ↓wt_not, ↓wt_val, ↓wa_nil, ↓wa_cons, ↓wb_nil, ↓wb_cons, ↓wo_nil, ↓wo_cons, ↓ws_nil, ↓ws_seq, ↓ws_set, ↓ws_setT, ↓ws_setIx, ↓ws_aug, ↓ws_ifs, ↓ws_for, ↓ws_whl, ↓ws_ret, ↓ws_retN, ↓ws_expr, ↓ws_pass, ↓ws_brk, ↓ws_setO, ↓ws_retO, ↓ws_appO, ↓ws_extO, ↓ws_revO, ↓ws_putO, ↓ws_par, ↓ws_wipe, ↓ws_frz, ↓ok_some, ↓ok_none, ↓o2_some, ↓o2_none, ↓o3_some, ↓o3_none, ↓seqQ_nx, ↓seqQ_rt, ↓seqQ_bk, ↓seqQ_ct, ↓retQ_rt, ↓retQ_nx, ↓turnQ_nx, ↓turnQ_rt, ↓turnQ_bk, ↓turnQ_ct, ↓wipeQ, ↓w_runF, for_en, for_zp, lc_en, lc_zp, wipeE, flV', asg, asgs, parV, Src.get, srcOf, seqSrc, sizeLine, newV, binV, addV, dctOf, seqOf, lstOf, lstW, slV, biV, isV, tyOf, cmpV, augV, setIxV, meTy, m_join, m_app, m_ext, m_pop, m_rev, strsOf_str, strsOf_nil, strsOf_app, strsOf_mapf, strsOf_map, Option.bind_some, Option.map_some, ↓ok_if, ↓ok_map, ↓ok_bind, ↓o2_if, ↓o3_if, hj', hix, m1, ha]
  · refine ⟨_, _, O2.eq (a := Vl.fl [.int 0, .int (0 + 1000003 * j), .int 0]) ?_⟩
    simp -dsimp [F.law_left, F.law_left_body, ↓w_var, ↓w_cst, ↓w_bty, ↓w_glob, ↓w_bin, ↓w_neg, ↓w_cmp, ↓w_chain, ↓w_and, ↓w_or, ↓w_not, ↓w_ite, ↓w_lst, ↓w_tup, ↓w_ix, ↓w_sl, ↓w_lc, ↓w_call, ↓w_pcall, ↓w_new, ↓w_bi, ↓w_me, ↓w_dsp, ↓wt_nil, ↓wt_and, ↓wt_or, ↓wt_not, ↓wt_val, ↓wa_nil, ↓wa_cons, ↓wb_nil, ↓wb_cons, ↓wo_nil, ↓wo_cons, ↓ws_nil, ↓ws_seq, ↓ws_set, ↓ws_setT, ↓ws_setIx, ↓ws_aug, ↓ws_ifs, ↓ws_for, ↓ws_whl, ↓ws_ret, ↓ws_retN, ↓ws_expr, ↓ws_pass, ↓ws_brk, ↓ws_setO, ↓ws_retO, ↓ws_appO, ↓ws_extO, ↓ws_revO, ↓ws_putO, ↓ws_par, ↓ws_wipe, ↓ws_frz, ↓ok_some, ↓ok_none, ↓o2_some, ↓o2_none, ↓o3_some, ↓o3_none, ↓seqQ_nx, ↓seqQ_rt, ↓seqQ_bk, ↓seqQ_ct, ↓retQ_rt, ↓retQ_nx, ↓turnQ_nx, ↓turnQ_rt, ↓turnQ_bk, ↓turnQ_ct, ↓wipeQ, ↓w_runF, for_en, for_zp, lc_en, lc_zp, wipeE, flV', asg, asgs, parV, Src.get, srcOf, seqSrc, sizeLine, newV, binV, addV, dctOf, seqOf, lstOf, lstW, slV, biV, isV, tyOf, cmpV, augV, setIxV, meTy, m_join, m_app, m_ext, m_pop, m_rev, strsOf_str, strsOf_nil, strsOf_app, strsOf_mapf, strsOf_map, Option.bind_some, Option.map_some, ↓ok_if, ↓ok_map, ↓ok_bind, ↓o2_if, ↓o3_if, hj', m1]
end
end FK

/-! ### programs as trees -/
namespace FK
open PySem PySem.Spec PyProof.Rows L2
/-- a name: a word, or an own name by numbers -/
inductive Nm where
  | wd (w : Str) | ow (k i : Nat)
inductive Op4 where
  | add | take | times | less
inductive Op3 where
  | print | give | do_
inductive Tm where
  | num (n : Int) | nm (x : Nm) | cod (k : Nat) | two (o : Op4) (a b : Tm) | ask (a : Tm) (l : List Tm)
inductive Rw where
  | set (x : Nm) (t : Tm) | pl (o : Op3) (t : Tm) | turns (t : Tm) (r : List Rw) | ife (t : Tm) (a b : List Rw)
inductive Pg where
  | fn (name : Str) (ps ns : List Str) (inner : List Pg) (rows : List Rw)
def Op4.s : Op4 → Str
  | .add => "add" | .take => "take" | .times => "times" | .less => "less"
def Op3.s : Op3 → Str
  | .print => "print" | .give => "give" | .do_ => "do"
def Nm.tm : Nm → Vl
  | .wd w => .tup [.str "name", .str w]
  | .ow k i => .tup [.str "own", .int k, .int i]
def Nm.v : Nm → Vl
  | .wd w => .str w
  | .ow k i => .tup [.int k, .int i]
mutual
def Tm.v : Tm → Vl
  | .num n => .tup [.str "number", .int n]
  | .nm x => x.tm
  | .cod k => .tup [.str "code", .int k]
  | .two o a b => .tup [.str o.s, a.v, b.v]
  | .ask a l => .tup [.str "ask", a.v, .tup (Tm.vs l)]
def Tm.vs : List Tm → List Vl
  | [] => []
  | t :: l => t.v :: Tm.vs l
end
mutual
def Rw.v : Rw → Vl
  | .set x t => .tup [.str "set", x.v, t.v]
  | .pl o t => .tup [.str o.s, t.v]
  | .turns t r => .tup [.str "turns", t.v, .tup (Rw.vs r)]
  | .ife t a b => .tup [.str "if", t.v, .tup (Rw.vs a), .tup (Rw.vs b)]
def Rw.vs : List Rw → List Vl
  | [] => []
  | t :: l => t.v :: Rw.vs l
end
mutual
def Pg.v : Pg → Vl
  | .fn n ps ns inner rows => .tup [.str n, .tup (ps.map .str), .tup (ns.map .str), .tup (Pg.vs inner), .tup (Rw.vs rows)]
def Pg.vs : List Pg → List Vl
  | [] => []
  | t :: l => t.v :: Pg.vs l
end
theorem Tm.vs_map : ∀ l : List Tm, Tm.vs l = l.map Tm.v
  | [] => by simp only [Tm.vs, List.map_nil]
  | t :: l => by simp only [Tm.vs, List.map_cons, Tm.vs_map l]
theorem Rw.vs_map : ∀ l : List Rw, Rw.vs l = l.map Rw.v
  | [] => by simp only [Rw.vs, List.map_nil]
  | t :: l => by simp only [Rw.vs, List.map_cons, Rw.vs_map l]
theorem Pg.vs_map : ∀ l : List Pg, Pg.vs l = l.map Pg.v
  | [] => by simp only [Pg.vs, List.map_nil]
  | t :: l => by simp only [Pg.vs, List.map_cons, Pg.vs_map l]
theorem Nm.tm_tup (x : Nm) : ∃ xs, x.tm = .tup xs := by cases x <;> exact ⟨_, rfl⟩
theorem Tm.v_tup (t : Tm) : ∃ xs, t.v = .tup xs := by
  cases t with
  | nm x => simp only [Tm.v]; exact x.tm_tup
  | _ => simp only [Tm.v]; exact ⟨_, rfl⟩
theorem Rw.v_tup (t : Rw) : ∃ xs, t.v = .tup xs := by cases t <;> (simp only [Rw.v]; exact ⟨_, rfl⟩)
theorem Pg.v_tup (t : Pg) : ∃ xs, t.v = .tup xs := by cases t; simp only [Pg.v]; exact ⟨_, rfl⟩
@[simp] theorem Tm.v_lend (t : Tm) : lendV t.v = t.v := by obtain ⟨xs, e⟩ := t.v_tup; rw [e]; rfl
@[simp] theorem Tm.v_rd (t : Tm) : rdV t.v = t.v := by obtain ⟨xs, e⟩ := t.v_tup; rw [e]; rfl
@[simp] theorem Tm.v_frz (t : Tm) : frzV t.v = some t.v := by obtain ⟨xs, e⟩ := t.v_tup; rw [e]; rfl
@[simp] theorem Rw.v_lend (t : Rw) : lendV t.v = t.v := by obtain ⟨xs, e⟩ := t.v_tup; rw [e]; rfl
@[simp] theorem Rw.v_rd (t : Rw) : rdV t.v = t.v := by obtain ⟨xs, e⟩ := t.v_tup; rw [e]; rfl
@[simp] theorem Rw.v_frz (t : Rw) : frzV t.v = some t.v := by obtain ⟨xs, e⟩ := t.v_tup; rw [e]; rfl
@[simp] theorem Pg.v_lend (t : Pg) : lendV t.v = t.v := by obtain ⟨xs, e⟩ := t.v_tup; rw [e]; rfl
@[simp] theorem Pg.v_rd (t : Pg) : rdV t.v = t.v := by obtain ⟨xs, e⟩ := t.v_tup; rw [e]; rfl
@[simp] theorem Pg.v_frz (t : Pg) : frzV t.v = some t.v := by obtain ⟨xs, e⟩ := t.v_tup; rw [e]; rfl
@[simp] theorem Tm.v_bw (t : Tm) (r : List Vl) : anyBw (t.v :: r) = anyBw r := by obtain ⟨xs, e⟩ := t.v_tup; rw [e]; rfl
@[simp] theorem Rw.v_bw (t : Rw) (r : List Vl) : anyBw (t.v :: r) = anyBw r := by obtain ⟨xs, e⟩ := t.v_tup; rw [e]; rfl
@[simp] theorem Pg.v_bw (t : Pg) (r : List Vl) : anyBw (t.v :: r) = anyBw r := by obtain ⟨xs, e⟩ := t.v_tup; rw [e]; rfl
@[simp] theorem Nm.v_rd (t : Nm) : rdV t.v = t.v := by cases t <;> rfl
@[simp] theorem Nm.v_frz (t : Nm) : frzV t.v = some t.v := by cases t <;> rfl
theorem noRefs_map {α : Type} {f : α → Vl} : ∀ {l : List α}, (∀ x ∈ l, noRef (f x) = true) → noRefs (l.map f) = true
  | [], _ => rfl
  | x :: l, h => by
    simp only [List.map_cons, noRefs, h x (by simp), noRefs_map fun y hy => h y (List.mem_cons_of_mem _ hy), Bool.and_self]
@[simp] theorem noRefs_str (l : List Str) : noRefs (l.map .str) = true := noRefs_map fun _ _ => rfl
mutual
theorem Tm.v_nr : ∀ t : Tm, noRef t.v = true
  | .num _ => by simp [Tm.v, noRef, noRefs]
  | .nm x => by cases x <;> simp [Tm.v, Nm.tm, noRef, noRefs]
  | .cod _ => by simp [Tm.v, noRef, noRefs]
  | .two _ a b => by simp [Tm.v, noRef, noRefs, Tm.v_nr a, Tm.v_nr b]
  | .ask a l => by simp [Tm.v, noRef, noRefs, Tm.v_nr a, Tm.vs_nr l]
theorem Tm.vs_nr : ∀ l : List Tm, noRefs (Tm.vs l) = true
  | [] => by simp [Tm.vs, noRefs]
  | t :: l => by simp [Tm.vs, noRefs, Tm.v_nr t, Tm.vs_nr l]
end
mutual
theorem Rw.v_nr : ∀ t : Rw, noRef t.v = true
  | .set x t => by cases x <;> simp [Rw.v, Nm.v, noRef, noRefs, Tm.v_nr]
  | .pl _ t => by simp [Rw.v, noRef, noRefs, Tm.v_nr]
  | .turns t r => by simp [Rw.v, noRef, noRefs, Tm.v_nr, Rw.vs_nr r]
  | .ife t a b => by simp [Rw.v, noRef, noRefs, Tm.v_nr, Rw.vs_nr a, Rw.vs_nr b]
theorem Rw.vs_nr : ∀ l : List Rw, noRefs (Rw.vs l) = true
  | [] => by simp [Rw.vs, noRefs]
  | t :: l => by simp [Rw.vs, noRefs, Rw.v_nr t, Rw.vs_nr l]
end
mutual
theorem Pg.v_nr : ∀ t : Pg, noRef t.v = true
  | .fn n ps ns inner rows => by simp [Pg.v, noRef, noRefs, Rw.vs_nr, Pg.vs_nr inner]
theorem Pg.vs_nr : ∀ l : List Pg, noRefs (Pg.vs l) = true
  | [] => by simp [Pg.vs, noRefs]
  | t :: l => by simp [Pg.vs, noRefs, Pg.v_nr t, Pg.vs_nr l]
end
/-! how great -/
mutual
def Tm.n : Tm → Nat
  | .two _ a b => 1 + a.n + b.n
  | .ask a l => 1 + a.n + Tm.ns l
  | _ => 1
def Tm.ns : List Tm → Nat
  | [] => 0
  | t :: l => t.n + Tm.ns l
end
mutual
def Tm.d : Tm → Nat
  | .two _ a b => 1 + max a.d b.d
  | .ask a l => 1 + max a.d (Tm.ds l)
  | _ => 1
def Tm.ds : List Tm → Nat
  | [] => 0
  | t :: l => max t.d (Tm.ds l)
end
mutual
def Rw.n : Rw → Nat
  | .set _ t => 1 + t.n
  | .pl _ t => 1 + t.n
  | .turns t r => 1 + t.n + Rw.ns r
  | .ife t a b => 1 + t.n + Rw.ns a + Rw.ns b
def Rw.ns : List Rw → Nat
  | [] => 0
  | t :: l => t.n + Rw.ns l
end
mutual
/-- how deep rows stand within rows, and terms in them -/
def Rw.d : Rw → Nat
  | .set _ t => 1 + t.d
  | .pl _ t => 1 + t.d
  | .turns t r => 1 + max t.d (Rw.ds r)
  | .ife t a b => 1 + max t.d (max (Rw.ds a) (Rw.ds b))
def Rw.ds : List Rw → Nat
  | [] => 0
  | t :: l => max t.d (Rw.ds l)
end
mutual
def Pg.n : Pg → Nat
  | .fn _ ps ns inner rows => 1 + ps.length + ns.length + Pg.ns inner + Rw.ns rows
def Pg.ns : List Pg → Nat
  | [] => 0
  | t :: l => t.n + Pg.ns l
end
mutual
def Pg.d : Pg → Nat
  | .fn _ _ _ inner rows => 1 + max (Pg.ds inner) (Rw.ds rows)
def Pg.ds : List Pg → Nat
  | [] => 0
  | t :: l => max t.d (Pg.ds l)
end
theorem Tm.n_pos (t : Tm) : 1 ≤ t.n := by cases t <;> simp only [Tm.n] <;> omega
theorem Rw.n_pos (t : Rw) : 1 ≤ t.n := by cases t <;> simp only [Rw.n] <;> omega
theorem Pg.n_pos (t : Pg) : 1 ≤ t.n := by cases t; simp only [Pg.n]; omega
theorem Tm.d_pos (t : Tm) : 1 ≤ t.d := by cases t <;> simp only [Tm.d] <;> omega
theorem Tm.mem_n : ∀ {l : List Tm} {t : Tm}, t ∈ l → t.n ≤ Tm.ns l
  | [], _, h => by cases h
  | s :: l, t, h => by
    simp only [Tm.ns]
    rcases List.mem_cons.mp h with rfl | h
    · omega
    · have := Tm.mem_n h; omega
theorem Tm.mem_d : ∀ {l : List Tm} {t : Tm}, t ∈ l → t.d ≤ Tm.ds l
  | [], _, h => by cases h
  | s :: l, t, h => by
    simp only [Tm.ds]
    rcases List.mem_cons.mp h with rfl | h
    · omega
    · have := Tm.mem_d h; omega
theorem Rw.mem_n : ∀ {l : List Rw} {t : Rw}, t ∈ l → t.n ≤ Rw.ns l
  | [], _, h => by cases h
  | s :: l, t, h => by
    simp only [Rw.ns]
    rcases List.mem_cons.mp h with rfl | h
    · omega
    · have := Rw.mem_n h; omega
theorem Rw.mem_d : ∀ {l : List Rw} {t : Rw}, t ∈ l → t.d ≤ Rw.ds l
  | [], _, h => by cases h
  | s :: l, t, h => by
    simp only [Rw.ds]
    rcases List.mem_cons.mp h with rfl | h
    · omega
    · have := Rw.mem_d h; omega
theorem Pg.mem_n : ∀ {l : List Pg} {t : Pg}, t ∈ l → t.n ≤ Pg.ns l
  | [], _, h => by cases h
  | s :: l, t, h => by
    simp only [Pg.ns]
    rcases List.mem_cons.mp h with rfl | h
    · omega
    · have := Pg.mem_n h; omega
theorem Pg.mem_d : ∀ {l : List Pg} {t : Pg}, t ∈ l → t.d ≤ Pg.ds l
  | [], _, h => by cases h
  | s :: l, t, h => by
    simp only [Pg.ds]
    rcases List.mem_cons.mp h with rfl | h
    · omega
    · have := Pg.mem_d h; omega
theorem Tm.len_ns : ∀ (l : List Tm), l.length ≤ Tm.ns l
  | [] => by simp [Tm.ns]
  | t :: l => by have := Tm.len_ns l; have := t.n_pos; simp only [List.length_cons, Tm.ns]; omega
theorem Rw.len_ns : ∀ (l : List Rw), l.length ≤ Rw.ns l
  | [] => by simp [Rw.ns]
  | t :: l => by have := Rw.len_ns l; have := t.n_pos; simp only [List.length_cons, Rw.ns]; omega
theorem Pg.len_ns : ∀ (l : List Pg), l.length ≤ Pg.ns l
  | [] => by simp [Pg.ns]
  | t :: l => by have := Pg.len_ns l; have := t.n_pos; simp only [List.length_cons, Pg.ns]; omega
/-! words and numbers that are not too great -/
def wdOk (w : Str) : Prop := w.length ≤ 8 ∧ txS w
def Nm.ok : Nm → Prop
  | .wd w => wdOk w
  | .ow k i => k < 1000 ∧ i < 1000
def inOk (n : Int) : Prop := n.natAbs < 2 ^ 110
mutual
def Tm.ok : Tm → Prop
  | .num n => inOk n
  | .nm x => x.ok
  | .cod k => k < 1000
  | .two _ a b => a.ok ∧ b.ok
  | .ask a l => a.ok ∧ Tm.oks l
def Tm.oks : List Tm → Prop
  | [] => True
  | t :: l => t.ok ∧ Tm.oks l
end
mutual
def Rw.ok : Rw → Prop
  | .set x t => x.ok ∧ t.ok
  | .pl _ t => t.ok
  | .turns t r => t.ok ∧ Rw.oks r
  | .ife t a b => t.ok ∧ Rw.oks a ∧ Rw.oks b
def Rw.oks : List Rw → Prop
  | [] => True
  | t :: l => t.ok ∧ Rw.oks l
end
mutual
def Pg.ok : Pg → Prop
  | .fn n ps ns inner rows => wdOk n ∧ (∀ w ∈ ps, wdOk w) ∧ (∀ w ∈ ns, wdOk w) ∧ Pg.oks inner ∧ Rw.oks rows
def Pg.oks : List Pg → Prop
  | [] => True
  | t :: l => t.ok ∧ Pg.oks l
end
theorem Tm.mem_ok : ∀ {l : List Tm} {t : Tm}, Tm.oks l → t ∈ l → t.ok
  | [], _, _, h => by cases h
  | s :: l, t, k, h => by
    simp only [Tm.oks] at k
    rcases List.mem_cons.mp h with rfl | h
    · exact k.1
    · exact Tm.mem_ok k.2 h
theorem Rw.mem_ok : ∀ {l : List Rw} {t : Rw}, Rw.oks l → t ∈ l → t.ok
  | [], _, _, h => by cases h
  | s :: l, t, k, h => by
    simp only [Rw.oks] at k
    rcases List.mem_cons.mp h with rfl | h
    · exact k.1
    · exact Rw.mem_ok k.2 h
theorem Pg.mem_ok : ∀ {l : List Pg} {t : Pg}, Pg.oks l → t ∈ l → t.ok
  | [], _, _, h => by cases h
  | s :: l, t, k, h => by
    simp only [Pg.oks] at k
    rcases List.mem_cons.mp h with rfl | h
    · exact k.1
    · exact Pg.mem_ok k.2 h
/-! they are plain data -/
theorem log_of {n : Int} (h : inOk n) : n.natAbs.log2 < 110 := by
  by_cases h0 : n.natAbs = 0
  · rw [h0]; decide
  · exact (Nat.log2_lt h0).mpr h
theorem logN {n : Nat} (h : n < 1000) : ((n : Nat) : Int).natAbs.log2 < 110 := log_of (by unfold inOk; simp only [Int.natAbs_natCast]; omega)
theorem tx_lit (s : String) (h : (s.toList.all fun c => decide (c.toNat < 0x110000)) = true := by decide) : txS (Str.ofString s) := fun c hc => by
  rw [Str.ofString_eq_toList] at hc
  simp only [List.mem_map] at hc
  obtain ⟨x, hx, rfl⟩ := hc
  simpa using List.all_eq_true.mp h x hx
theorem len_lit (s : String) : (Str.ofString s).length = s.length := by
  rw [str_len, Str.ofString_eq_toList]
  simp [String.length]
theorem IsD.mono : ∀ {n m : Nat} {v : Vl}, IsD n v → n ≤ m → IsD m v := by
  intro n
  induction n with
  | zero =>
    intro m v h l
    cases m with
    | zero => exact h
    | succ m => cases v <;> first | (simp only [IsD] at h ⊢; done) | (simp only [IsD] at h ⊢; exact h) | (simp only [IsD] at h ⊢; subst h; simp only [IsDs])
  | succ n ih =>
    intro m v h l
    cases m with
    | zero => omega
    | succ m =>
      have up : ∀ xs, IsDs n xs → IsDs m xs := fun xs hx => IsDs.of fun x m' => ih (hx.mem x m') (by omega)
      cases v <;> first | (simp only [IsD] at h ⊢; done) | (simp only [IsD] at h ⊢; exact h) | (simp only [IsD] at h ⊢; exact up _ h)
theorem isD_str {n : Nat} {x : Str} (h : txS x) : IsD n (.str x) := by cases n <;> simpa only [IsD] using h
theorem isD_int {n : Nat} {i : Int} (h : i.natAbs.log2 < 110) : IsD n (.int i) := by cases n <;> (simp only [IsD]; omega)
theorem isD_strs {n : Nat} {l : List Str} (h : ∀ w ∈ l, txS w) : IsDs n (l.map .str) := IsDs.of fun x hx => by
  obtain ⟨w, hw, rfl⟩ := List.mem_map.mp hx
  exact isD_str (h w hw)
theorem szV_str {l : List Str} (h : ∀ w ∈ l, w.length ≤ 8) : szVs (l.map .str) ≤ 84 * l.length := by
  induction l with
  | nil => simp [szVs]
  | cons w l ih =>
    have := ih fun x hx => h x (List.mem_cons_of_mem _ hx)
    have := h w (by simp)
    simp only [List.map_cons, szVs, szV, List.length_cons]
    omega
theorem Op4.tx (o : Op4) : txS o.s ∧ o.s.length ≤ 8 := by cases o <;> exact ⟨tx_lit _, by rw [Op4.s, len_lit]; decide⟩
theorem Op3.tx (o : Op3) : txS o.s ∧ o.s.length ≤ 8 := by cases o <;> exact ⟨tx_lit _, by rw [Op3.s, len_lit]; decide⟩
theorem sz_lit (s : String) (n : Nat) (h : 10 * s.length + 2 ≤ n := by decide) : szV (.str (Str.ofString s)) ≤ n := by
  simp only [szV, len_lit]; exact h
mutual
theorem Tm.v_dat : ∀ t : Tm, t.ok → IsD (2 * t.d) t.v ∧ szV t.v + 2 ≤ 402 * t.n
  | .num n, h => by
    simp only [Tm.ok] at h
    have l := log_of h
    have s := sz_lit "number" 62
    simp only [Tm.v, Tm.d, Tm.n, IsD, IsDs, szV, szVs] at s ⊢
    exact ⟨⟨tx_lit _, by omega, trivial⟩, by omega⟩
  | .nm (.wd w), h => by
    simp only [Tm.ok, Nm.ok] at h
    have s := sz_lit "name" 42
    have l := h.1
    simp only [Tm.v, Nm.tm, Tm.d, Tm.n, IsD, IsDs, szV, szVs] at s ⊢
    exact ⟨⟨tx_lit _, h.2, trivial⟩, by omega⟩
  | .nm (.ow k i), h => by
    simp only [Tm.ok, Nm.ok] at h
    have s := sz_lit "own" 32
    have l1 := logN h.1
    have l2 := logN h.2
    simp only [Tm.v, Nm.tm, Tm.d, Tm.n, IsD, IsDs, szV, szVs] at s ⊢
    exact ⟨⟨tx_lit _, by omega, by omega, trivial⟩, by omega⟩
  | .cod k, h => by
    simp only [Tm.ok] at h
    have s := sz_lit "code" 42
    have l1 := logN h
    simp only [Tm.v, Tm.d, Tm.n, IsD, IsDs, szV, szVs] at s ⊢
    exact ⟨⟨tx_lit _, by omega, trivial⟩, by omega⟩
  | .two o a b, h => by
    simp only [Tm.ok] at h
    obtain ⟨a1, a2⟩ := Tm.v_dat a h.1
    obtain ⟨b1, b2⟩ := Tm.v_dat b h.2
    have s := o.tx
    have e : 2 * (Tm.two o a b).d = (2 * max a.d b.d + 1) + 1 := by simp only [Tm.d]; omega
    rw [e]
    simp only [Tm.v, Tm.n, IsD, IsDs, szV, szVs]
    exact ⟨⟨s.1, a1.mono (by omega), b1.mono (by omega), trivial⟩, by omega⟩
  | .ask a l, h => by
    simp only [Tm.ok] at h
    obtain ⟨a1, a2⟩ := Tm.v_dat a h.1
    obtain ⟨b1, b2⟩ := Tm.vs_dat l h.2
    have s := sz_lit "ask" 32
    have e : 2 * (Tm.ask a l).d = (2 * max a.d (Tm.ds l) + 1) + 1 := by simp only [Tm.d]; omega
    rw [e]
    simp only [Tm.v, Tm.n, IsD, IsDs, szV, szVs] at s ⊢
    exact ⟨⟨tx_lit _, a1.mono (by omega), IsDs.of fun x hx => (b1.mem x hx).mono (by omega), trivial⟩, by omega⟩
theorem Tm.vs_dat : ∀ l : List Tm, Tm.oks l → IsDs (2 * Tm.ds l) (Tm.vs l) ∧ szVs (Tm.vs l) ≤ 402 * Tm.ns l
  | [], _ => by simp [Tm.vs, IsDs, szVs]
  | t :: l, h => by
    simp only [Tm.oks] at h
    obtain ⟨a1, a2⟩ := Tm.v_dat t h.1
    obtain ⟨b1, b2⟩ := Tm.vs_dat l h.2
    have := t.n_pos
    simp only [Tm.vs, Tm.ds, Tm.ns, IsDs, szVs]
    exact ⟨⟨a1.mono (by omega), IsDs.of fun x hx => (b1.mem x hx).mono (by omega)⟩, by omega⟩
end
mutual
theorem Rw.v_dat : ∀ t : Rw, t.ok → IsD (2 * t.d) t.v ∧ szV t.v + 2 ≤ 402 * t.n
  | .set (.wd w) t, h => by
    simp only [Rw.ok, Nm.ok] at h
    obtain ⟨a1, a2⟩ := t.v_dat h.2
    have s := sz_lit "set" 32
    have l := h.1.1
    have e : 2 * (Rw.set (.wd w) t).d = (2 * t.d + 1) + 1 := by simp only [Rw.d]; omega
    rw [e]
    simp only [Rw.v, Nm.v, Rw.n, IsD, IsDs, szV, szVs] at s ⊢
    exact ⟨⟨tx_lit _, h.1.2, a1.mono (by omega), trivial⟩, by omega⟩
  | .set (.ow k i) t, h => by
    simp only [Rw.ok, Nm.ok] at h
    obtain ⟨a1, a2⟩ := t.v_dat h.2
    have s := sz_lit "set" 32
    have l1 := logN h.1.1
    have l2 := logN h.1.2
    have e : 2 * (Rw.set (.ow k i) t).d = (2 * t.d + 1) + 1 := by simp only [Rw.d]; omega
    rw [e]
    simp only [Rw.v, Nm.v, Rw.n, IsD, IsDs, szV, szVs] at s ⊢
    exact ⟨⟨tx_lit _, ⟨by omega, by omega, trivial⟩, a1.mono (by omega), trivial⟩, by omega⟩
  | .pl o t, h => by
    simp only [Rw.ok] at h
    obtain ⟨a1, a2⟩ := t.v_dat h
    have s := o.tx
    have e : 2 * (Rw.pl o t).d = (2 * t.d + 1) + 1 := by simp only [Rw.d]; omega
    rw [e]
    simp only [Rw.v, Rw.n, IsD, IsDs, szV, szVs]
    exact ⟨⟨s.1, a1.mono (by omega), trivial⟩, by omega⟩
  | .turns t r, h => by
    simp only [Rw.ok] at h
    obtain ⟨a1, a2⟩ := t.v_dat h.1
    obtain ⟨b1, b2⟩ := Rw.vs_dat r h.2
    have s := sz_lit "turns" 52
    have e : 2 * (Rw.turns t r).d = (2 * max t.d (Rw.ds r) + 1) + 1 := by simp only [Rw.d]; omega
    rw [e]
    simp only [Rw.v, Rw.n, IsD, IsDs, szV, szVs] at s ⊢
    exact ⟨⟨tx_lit _, a1.mono (by omega), IsDs.of fun x hx => (b1.mem x hx).mono (by omega), trivial⟩, by omega⟩
  | .ife t a b, h => by
    simp only [Rw.ok] at h
    obtain ⟨a1, a2⟩ := t.v_dat h.1
    obtain ⟨b1, b2⟩ := Rw.vs_dat a h.2.1
    obtain ⟨c1, c2⟩ := Rw.vs_dat b h.2.2
    have s := sz_lit "if" 22
    have e : 2 * (Rw.ife t a b).d = (2 * max t.d (max (Rw.ds a) (Rw.ds b)) + 1) + 1 := by simp only [Rw.d]; omega
    rw [e]
    simp only [Rw.v, Rw.n, IsD, IsDs, szV, szVs] at s ⊢
    exact ⟨⟨tx_lit _, a1.mono (by omega), IsDs.of fun x hx => (b1.mem x hx).mono (by omega), IsDs.of fun x hx => (c1.mem x hx).mono (by omega), trivial⟩, by omega⟩
theorem Rw.vs_dat : ∀ l : List Rw, Rw.oks l → IsDs (2 * Rw.ds l) (Rw.vs l) ∧ szVs (Rw.vs l) ≤ 402 * Rw.ns l
  | [], _ => by simp [Rw.vs, IsDs, szVs]
  | t :: l, h => by
    simp only [Rw.oks] at h
    obtain ⟨a1, a2⟩ := Rw.v_dat t h.1
    obtain ⟨b1, b2⟩ := Rw.vs_dat l h.2
    have := t.n_pos
    simp only [Rw.vs, Rw.ds, Rw.ns, IsDs, szVs]
    exact ⟨⟨a1.mono (by omega), IsDs.of fun x hx => (b1.mem x hx).mono (by omega)⟩, by omega⟩
end
mutual
theorem Pg.v_dat : ∀ t : Pg, t.ok → IsD (2 * t.d) t.v ∧ szV t.v + 2 ≤ 402 * t.n
  | .fn n ps ns inner rows, h => by
    simp only [Pg.ok] at h
    obtain ⟨h1, h2, h3, h4, h5⟩ := h
    obtain ⟨a1, a2⟩ := Rw.vs_dat rows h5
    obtain ⟨b1, b2⟩ := Pg.vs_dat inner h4
    have s1 := szV_str fun w hw => (h2 w hw).1
    have s2 := szV_str fun w hw => (h3 w hw).1
    have l := h1.1
    have e : 2 * (Pg.fn n ps ns inner rows).d = (2 * max (Pg.ds inner) (Rw.ds rows) + 1) + 1 := by simp only [Pg.d]; omega
    rw [e]
    simp only [Pg.v, Pg.n, IsD, IsDs, szV, szVs]
    exact ⟨⟨h1.2, isD_strs fun w hw => (h2 w hw).2, isD_strs fun w hw => (h3 w hw).2, IsDs.of fun x hx => (b1.mem x hx).mono (by omega), IsDs.of fun x hx => (a1.mem x hx).mono (by omega), trivial⟩, by omega⟩
theorem Pg.vs_dat : ∀ l : List Pg, Pg.oks l → IsDs (2 * Pg.ds l) (Pg.vs l) ∧ szVs (Pg.vs l) ≤ 402 * Pg.ns l
  | [], _ => by simp [Pg.vs, IsDs, szVs]
  | t :: l, h => by
    simp only [Pg.oks] at h
    obtain ⟨a1, a2⟩ := Pg.v_dat t h.1
    obtain ⟨b1, b2⟩ := Pg.vs_dat l h.2
    have := t.n_pos
    simp only [Pg.vs, Pg.ds, Pg.ns, IsDs, szVs]
    exact ⟨⟨a1.mono (by omega), IsDs.of fun x hx => (b1.mem x hx).mono (by omega)⟩, by omega⟩
end
/-- the text of a program as data -/
theorem Pg.str_ok (t : Pg) (h : AH) (ok : t.ok) (hd : t.d ≤ 30) (hn : t.n ≤ 40000) : strV t.v h = some (dat t.v).shown := by
  obtain ⟨h1, h2⟩ := t.v_dat ok
  refine strV_dat h1 (by omega) (by simp only [sizeLine]; omega) fun x e => ?_
  obtain ⟨xs, e'⟩ := t.v_tup
  rw [e'] at e; cases e
end FK

/-! ### the words of terms -/
namespace FK
open PySem PySem.Spec PyProof.Rows L2
/-- term_text: 0 term, 1 some, 2 one -/
def F.term_text_body : Sx := (.seq (.ifs (.val (.cmp .Eq (.ix (.var 0) (.cst (.int 0))) (.cst (.str "number")))) (.seq (.ret (.bi .str (.cons (.ix (.var 0) (.cst (.int 1))) .nil))) .nil) .nil) (.seq (.ifs (.val (.cmp .Eq (.ix (.var 0) (.cst (.int 0))) (.cst (.str "name")))) (.seq (.ret (.ix (.var 0) (.cst (.int 1)))) .nil) .nil) (.seq (.set 1 (.ite (.val (.cmp .Eq (.ix (.var 0) (.cst (.int 0))) (.cst (.str "ask")))) (.bin .Add (.lst (.cons (.ix (.var 0) (.cst (.int 1))) .nil)) (.bi .list (.cons (.ix (.var 0) (.cst (.int 2))) .nil))) (.bi .list (.cons (.sl (.var 0) (.cons (.cst (.int 1)) .nil) .nil) .nil)))) (.seq (.ret (.me .join (.cst (.str " ")) (.cons (.bin .Add (.bin .Add (.lst (.cons (.cst (.str "(")) (.cons (.ix (.var 0) (.cst (.int 0))) .nil))) (.lc .seq (.cons (.var 1) .nil) (.name 2) [2] .nil (.pcall 0 (.cons (.var 2) .nil)))) (.lst (.cons (.cst (.str ")")) .nil))) .nil))) .nil))))
def F.term_text : Fn := ⟨1, 3, F.term_text_body⟩
/-- _law_term_words: 0 law_term, 1 law_some, 2 law_found!, 3 law_one -/
def F.law_term_words_b0 : Sx := (.seq (.wipe [3] (.extO 2 (.pcall 14 (.cons (.var 3) .nil)))) .nil)
def F.law_term_words_body : Sx := (.seq (.ifs (.val (.cmp .In (.ix (.var 0) (.cst (.int 0))) (.tup (.cons (.cst (.str "number")) (.cons (.cst (.str "name")) .nil))))) (.seq (.ret (.lst (.cons (.bi .str (.cons (.ix (.var 0) (.cst (.int 1))) .nil)) .nil))) .nil) .nil) (.seq (.set 1 (.ite (.val (.cmp .NotEq (.ix (.var 0) (.cst (.int 0))) (.cst (.str "ask")))) (.bi .list (.cons (.sl (.var 0) (.cons (.cst (.int 1)) .nil) .nil) .nil)) (.bin .Add (.lst (.cons (.ix (.var 0) (.cst (.int 1))) .nil)) (.bi .list (.cons (.ix (.var 0) (.cst (.int 2))) .nil))))) (.seq (.setO 2 (.lst (.cons (.cst (.str "(")) (.cons (.ix (.var 0) (.cst (.int 0))) .nil)))) (.seq (.wipe [1, 3] (.for_ .seq (.cons (.var 1) .nil) (.name 3) F.law_term_words_b0)) (.seq (.frz 2) (.seq (.ret (.bin .Add (.var 2) (.lst (.cons (.cst (.str ")")) .nil)))) .nil))))))
def F.law_term_words : Fn := ⟨1, 4, F.law_term_words_body⟩
/-! texts joined -/
theorem join_cons2 (sep x : Str) (y : Str) (l : List Str) : Str.join sep (x :: y :: l) = x ++ sep ++ Str.join sep (y :: l) := by rw [Str.join]; simp
theorem join_one (sep x : Str) : Str.join sep [x] = x := by rw [Str.join]
theorem join_app (sep : Str) : ∀ (a b : List Str), a ≠ [] → b ≠ [] → Str.join sep (a ++ b) = Str.join sep a ++ sep ++ Str.join sep b
  | [x], y :: b, _, _ => by rw [List.cons_append, List.nil_append, join_cons2, join_one]
  | x :: x' :: a, y :: b, _, _ => by
    rw [List.cons_append, List.cons_append, join_cons2, join_cons2, ← List.cons_append, join_app sep (x' :: a) (y :: b) (by simp) (by simp)]
    simp only [app_assoc]
theorem join_flat (sep : Str) : ∀ (ls : List (List Str)), (∀ l ∈ ls, l ≠ []) → Str.join sep ls.flatten = Str.join sep (ls.map (Str.join sep))
  | [], _ => rfl
  | [l], _ => by simp [join_one]
  | l :: l' :: ls, h => by
    have h1 : l ≠ [] := h l (by simp)
    have h2 : (l' :: ls).flatten ≠ [] := by
      have := h l' (by simp)
      cases l' with
      | nil => exact absurd rfl this
      | cons x r => simp
    rw [List.flatten_cons, join_app sep l _ h1 h2, join_flat sep (l' :: ls) fun x hx => h x (List.mem_cons_of_mem _ hx)]
    simp only [List.map_cons]
    rw [join_cons2]
theorem join_len_le (sep : Str) : ∀ (l : List Str), (Str.join sep l).length ≤ (l.map (·.length)).sum + l.length * sep.length
  | [] => by simp [Str.join, Str.empty, Str.length]
  | [x] => by simp [join_one]
  | x :: y :: l => by
    have := join_len_le sep (y :: l)
    rw [join_cons2, app_len, app_len]
    simp only [List.map_cons, List.sum_cons, List.length_cons] at this ⊢
    have e : (l.length + 1 + 1) * sep.length = (l.length + 1) * sep.length + sep.length := by rw [Nat.add_mul, Nat.one_mul]
    omega
theorem blank_len : (Str.ofString " ").length = 1 := by rw [len_lit]; rfl
/-! a term's text, and its words -/
mutual
def Tm.tt : Tm → Str
  | .num n => Str.ofString (toString n)
  | .nm (.wd w) => w
  | .nm (.ow _ _) => Str.ofString ""
  | .cod _ => Str.ofString ""
  | .two o a b => Str.join (Str.ofString " ") ([Str.ofString "(", o.s] ++ [a.tt, b.tt] ++ [Str.ofString ")"])
  | .ask a l => Str.join (Str.ofString " ") ([Str.ofString "(", Str.ofString "ask"] ++ (a.tt :: Tm.tts l) ++ [Str.ofString ")"])
def Tm.tts : List Tm → List Str
  | [] => []
  | t :: l => t.tt :: Tm.tts l
end
mutual
def Tm.tw : Tm → List Str
  | .num n => [Str.ofString (toString n)]
  | .nm (.wd w) => [w]
  | .nm (.ow _ _) => [Str.ofString ""]
  | .cod _ => [Str.ofString ""]
  | .two o a b => [Str.ofString "(", o.s] ++ (a.tw ++ b.tw) ++ [Str.ofString ")"]
  | .ask a l => [Str.ofString "(", Str.ofString "ask"] ++ (a.tw ++ Tm.tws l) ++ [Str.ofString ")"]
def Tm.tws : List Tm → List Str
  | [] => []
  | t :: l => t.tw ++ Tm.tws l
end
theorem Tm.tts_map : ∀ l : List Tm, Tm.tts l = l.map Tm.tt
  | [] => by simp only [Tm.tts, List.map_nil]
  | t :: l => by simp only [Tm.tts, List.map_cons, Tm.tts_map l]
theorem Tm.tws_map : ∀ l : List Tm, Tm.tws l = (l.map Tm.tw).flatten
  | [] => by simp [Tm.tws]
  | t :: l => by simp [Tm.tws, Tm.tws_map l]
theorem Tm.tw_ne (t : Tm) : t.tw ≠ [] := by
  cases t with
  | nm x => cases x <;> simp [Tm.tw]
  | _ => simp [Tm.tw]
mutual
theorem Tm.tw_tt : ∀ t : Tm, Str.join (Str.ofString " ") t.tw = t.tt
  | .num _ => by simp only [Tm.tw, Tm.tt, join_one]
  | .nm (.wd _) => by simp only [Tm.tw, Tm.tt, join_one]
  | .nm (.ow _ _) => by simp only [Tm.tw, Tm.tt, join_one]
  | .cod _ => by simp only [Tm.tw, Tm.tt, join_one]
  | .two o a b => by
    have e := join_flat (Str.ofString " ") [[Str.ofString "("], [o.s], a.tw, b.tw, [Str.ofString ")"]] (by simp [Tm.tw_ne])
    simp only [List.flatten_cons, List.flatten_nil, List.map_cons, List.map_nil, join_one, Tm.tw_tt a, Tm.tw_tt b] at e
    simp only [Tm.tw, Tm.tt]
    simpa using e
  | .ask a l => by
    have e := join_flat (Str.ofString " ") ([[Str.ofString "("], [Str.ofString "ask"], a.tw] ++ l.map Tm.tw ++ [[Str.ofString ")"]]) (by
      intro x hx
      simp only [List.mem_append, List.mem_cons, List.not_mem_nil, or_false, List.mem_map] at hx
      rcases hx with ((rfl | rfl | rfl) | ⟨t, _, rfl⟩) | rfl
      · simp
      · simp
      · exact a.tw_ne
      · exact t.tw_ne
      · simp)
    have e2 := Tm.tws_tt l
    simp only [Tm.tw, Tm.tt, Tm.tws_map, Tm.tts_map]
    simp only [List.flatten_append, List.flatten_cons, List.flatten_nil, List.map_append, List.map_cons, List.map_nil, join_one, Tm.tw_tt a, e2] at e
    simpa using e
theorem Tm.tws_tt : ∀ l : List Tm, (l.map Tm.tw).map (Str.join (Str.ofString " ")) = l.map Tm.tt
  | [] => rfl
  | t :: l => by simp only [List.map_cons, Tm.tw_tt t, Tm.tws_tt l]
end
/-- of words alone -/
def Nm.named : Nm → Prop
  | .wd _ => True
  | .ow _ _ => False
mutual
def Tm.named : Tm → Prop
  | .num _ => True
  | .nm x => x.named
  | .cod _ => False
  | .two _ a b => a.named ∧ b.named
  | .ask a l => a.named ∧ Tm.nameds l
def Tm.nameds : List Tm → Prop
  | [] => True
  | t :: l => t.named ∧ Tm.nameds l
end
theorem Tm.mem_named : ∀ {l : List Tm} {t : Tm}, Tm.nameds l → t ∈ l → t.named
  | [], _, _, h => by cases h
  | s :: l, t, k, h => by
    simp only [Tm.nameds] at k
    rcases List.mem_cons.mp h with rfl | h
    · exact k.1
    · exact Tm.mem_named k.2 h
/-! how long -/
def lens (l : List Str) : Nat := (l.map (·.length)).sum + l.length
theorem lens_app (a b : List Str) : lens (a ++ b) = lens a + lens b := by simp [lens]; omega
theorem lens_cons (a : Str) (b : List Str) : lens (a :: b) = a.length + 1 + lens b := by simp [lens]; omega
theorem lens_nil : lens [] = 0 := rfl
theorem join_lens (l : List Str) : (Str.join (Str.ofString " ") l).length ≤ lens l := by
  have := join_len_le (Str.ofString " ") l
  rw [blank_len] at this
  simp only [lens]; omega
theorem int_len {n : Int} (h : inOk n) : (Str.ofString (toString n)).length ≤ 113 := by
  have := intText_le n
  have := log_of h
  omega
mutual
theorem Tm.tw_len : ∀ t : Tm, t.ok → lens t.tw ≤ 120 * t.n
  | .num n, h => by
    simp only [Tm.ok] at h
    have := int_len h
    simp only [Tm.tw, lens_cons, lens_nil, Tm.n]; omega
  | .nm (.wd w), h => by
    simp only [Tm.ok, Nm.ok] at h
    have := h.1
    simp only [Tm.tw, lens_cons, lens_nil, Tm.n]; omega
  | .nm (.ow _ _), _ => by simp only [Tm.tw, lens_cons, lens_nil, Tm.n, len_lit]; decide
  | .cod _, _ => by simp only [Tm.tw, lens_cons, lens_nil, Tm.n, len_lit]; decide
  | .two o a b, h => by
    simp only [Tm.ok] at h
    have h1 := Tm.tw_len a h.1
    have h2 := Tm.tw_len b h.2
    have h3 := o.tx.2
    have e1 : (Str.ofString "(").length = 1 := by rw [len_lit]; rfl
    have e2 : (Str.ofString ")").length = 1 := by rw [len_lit]; rfl
    simp only [Tm.tw, lens_app, lens_cons, lens_nil, Tm.n]; omega
  | .ask a l, h => by
    simp only [Tm.ok] at h
    have h1 := Tm.tw_len a h.1
    have h2 := Tm.tws_len l h.2
    have e1 : (Str.ofString "(").length = 1 := by rw [len_lit]; rfl
    have e2 : (Str.ofString ")").length = 1 := by rw [len_lit]; rfl
    have e3 : (Str.ofString "ask").length = 3 := by rw [len_lit]; rfl
    simp only [Tm.tw, lens_app, lens_cons, lens_nil, Tm.n]; omega
theorem Tm.tws_len : ∀ l : List Tm, Tm.oks l → lens (Tm.tws l) ≤ 120 * Tm.ns l
  | [], _ => by simp [Tm.tws, lens_nil]
  | t :: l, h => by
    simp only [Tm.oks] at h
    have h1 := Tm.tw_len t h.1
    have h2 := Tm.tws_len l h.2
    simp only [Tm.tws, lens_app, Tm.ns]; omega
end
theorem Tm.tt_len (t : Tm) (h : t.ok) : t.tt.length ≤ 120 * t.n := by
  rw [← t.tw_tt]
  exact Nat.le_trans (join_lens _) (t.tw_len h)
theorem Tm.tts_len : ∀ l : List Tm, Tm.oks l → lens (Tm.tts l) ≤ 121 * Tm.ns l
  | [], _ => by simp [Tm.tts, lens_nil]
  | t :: l, h => by
    simp only [Tm.oks] at h
    have h1 := t.tt_len h.1
    have h2 := Tm.tts_len l h.2
    have := t.n_pos
    simp only [Tm.tts, lens_cons, Tm.ns]; omega
end FK

namespace FK
open PySem PySem.Spec PyProof.Rows L2
section
variable {W : Wd} {k : Nat} {h : AH}
/-- the program's text of a term -/
theorem term_text_ok (L : W.fns.lookup 0 = some F.term_text) : ∀ (t : Tm) (k : Nat) (h : AH), t.ok → t.named → t.n ≤ 40000 → t.d ≤ k → frm (W.C k 0) [t.v] h = some (.str t.tt, h) := by
  intro t k
  induction k generalizing t with
  | zero => intro h _ _ _ hd; have := t.d_pos; omega
  | succ k ih =>
    intro h ok nd hn hd
    refine frm_pure (v := .str t.tt) (by simp [noRefs, t.v_nr]) ?_ rfl (by simp [anyBw])
    apply O2.eq
    rw [Wd.C_run L]
    cases t with
    | num n =>
      simp only [Tm.ok] at ok
      have e := fun h => strV_int (h := h) (i := n) (by have := log_of ok; omega)
      simp -dsimp [F.term_text, F.term_text_body, Tm.v, Tm.tt, ↓w_var, ↓w_cst, ↓w_bty, ↓w_glob, ↓w_bin, ↓w_neg, ↓w_cmp, ↓w_chain, ↓w_and, ↓w_or, ↓w_not, ↓w_ite, ↓w_lst, ↓w_tup, ↓w_ix, ↓w_sl, ↓w_lc, ↓w_call, ↓w_pcall, ↓w_new, ↓w_bi, ↓w_me, ↓w_dsp, ↓wt_nil, ↓wt_and, ↓wt_or, ↓wt_not, ↓wt_val, ↓wa_nil, ↓wa_cons, ↓wb_nil, ↓wb_cons, ↓wo_nil, ↓wo_cons, ↓ws_nil, ↓ws_seq, ↓ws_set, ↓ws_setT, ↓ws_setIx, ↓ws_aug, ↓ws_ifs, ↓ws_for, ↓ws_whl, ↓ws_ret, ↓ws_retN, ↓ws_expr, ↓ws_pass, ↓ws_brk, ↓ws_setO, ↓ws_retO, ↓ws_appO, ↓ws_extO, ↓ws_revO, ↓ws_putO, ↓ws_par, ↓ws_wipe, ↓ws_frz, ↓ok_some, ↓ok_none, ↓o2_some, ↓o2_none, ↓o3_some, ↓o3_none, ↓seqQ_nx, ↓seqQ_rt, ↓seqQ_bk, ↓seqQ_ct, ↓retQ_rt, ↓retQ_nx, ↓turnQ_nx, ↓turnQ_rt, ↓turnQ_bk, ↓turnQ_ct, ↓wipeQ, ↓w_runF, for_en, for_zp, lc_en, lc_zp, wipeE, flV', asg, asgs, parV, Src.get, srcOf, seqSrc, sizeLine, newV, binV, addV, ixV, dctOf, seqOf, lstOf, lstW, slV, biV, isV, tyOf, cmpV, augV, setIxV, meTy, m_join, m_app, m_ext, m_pop, m_rev, strsOf_str, strsOf_nil, strsOf_app, strsOf_mapf, strsOf_map, Option.bind_some, Option.map_some, atI, ixN, ↓ok_if, ↓ok_map, ↓ok_bind, ↓o2_if, ↓o3_if, FK.eqV, ofS_inj, e]
    | nm x =>
      cases x with
      | ow _ _ => exact nd.elim
      | wd w => simp -dsimp [F.term_text, F.term_text_body, Tm.v, Nm.tm, Tm.tt, ↓w_var, ↓w_cst, ↓w_bty, ↓w_glob, ↓w_bin, ↓w_neg, ↓w_cmp, ↓w_chain, ↓w_and, ↓w_or, ↓w_not, ↓w_ite, ↓w_lst, ↓w_tup, ↓w_ix, ↓w_sl, ↓w_lc, ↓w_call, ↓w_pcall, ↓w_new, ↓w_bi, ↓w_me, ↓w_dsp, ↓wt_nil, ↓wt_and, ↓wt_or, ↓wt_not, ↓wt_val, ↓wa_nil, ↓wa_cons, ↓wb_nil, ↓wb_cons, ↓wo_nil, ↓wo_cons, ↓ws_nil, ↓ws_seq, ↓ws_set, ↓ws_setT, ↓ws_setIx, ↓ws_aug, ↓ws_ifs, ↓ws_for, ↓ws_whl, ↓ws_ret, ↓ws_retN, ↓ws_expr, ↓ws_pass, ↓ws_brk, ↓ws_setO, ↓ws_retO, ↓ws_appO, ↓ws_extO, ↓ws_revO, ↓ws_putO, ↓ws_par, ↓ws_wipe, ↓ws_frz, ↓ok_some, ↓ok_none, ↓o2_some, ↓o2_none, ↓o3_some, ↓o3_none, ↓seqQ_nx, ↓seqQ_rt, ↓seqQ_bk, ↓seqQ_ct, ↓retQ_rt, ↓retQ_nx, ↓turnQ_nx, ↓turnQ_rt, ↓turnQ_bk, ↓turnQ_ct, ↓wipeQ, ↓w_runF, for_en, for_zp, lc_en, lc_zp, wipeE, flV', asg, asgs, parV, Src.get, srcOf, seqSrc, sizeLine, newV, binV, addV, ixV, dctOf, seqOf, lstOf, lstW, slV, biV, isV, tyOf, cmpV, augV, setIxV, meTy, m_join, m_app, m_ext, m_pop, m_rev, strsOf_str, strsOf_nil, strsOf_app, strsOf_mapf, strsOf_map, Option.bind_some, Option.map_some, atI, ixN, ↓ok_if, ↓ok_map, ↓ok_bind, ↓o2_if, ↓o3_if, FK.eqV, ofS_inj]
    | cod _ => exact nd.elim
    | two o a b =>
      simp only [Tm.ok] at ok
      simp only [Tm.named] at nd
      simp only [Tm.n] at hn
      simp only [Tm.d] at hd
      have h1 := a.tt_len ok.1
      have h2 := b.tt_len ok.2
      have h3 := o.tx.2
      have o1 : o.s ≠ Str.ofString "number" ∧ o.s ≠ Str.ofString "name" ∧ o.s ≠ Str.ofString "ask" := by cases o <;> simp [Op4.s, ofS_inj]
      simp -dsimp [F.term_text, F.term_text_body, Tm.v, ↓w_var, ↓w_cst, ↓w_bty, ↓w_glob, ↓w_bin, ↓w_neg, ↓w_cmp, ↓w_chain, ↓w_and, ↓w_or, ↓w_not, ↓w_ite, ↓w_lst, ↓w_tup, ↓w_ix, ↓w_sl, ↓w_lc, ↓w_call, ↓w_pcall, ↓w_new, ↓w_bi, ↓w_me, ↓w_dsp, ↓wt_nil, ↓wt_and, ↓wt_or, ↓wt_not, ↓wt_val, ↓wa_nil, ↓wa_cons, ↓wb_nil, ↓wb_cons, ↓wo_nil, ↓wo_cons, ↓ws_nil, ↓ws_seq, ↓ws_set, ↓ws_setT, ↓ws_setIx, ↓ws_aug, ↓ws_ifs, ↓ws_for, ↓ws_whl, ↓ws_ret, ↓ws_retN, ↓ws_expr, ↓ws_pass, ↓ws_brk, ↓ws_setO, ↓ws_retO, ↓ws_appO, ↓ws_extO, ↓ws_revO, ↓ws_putO, ↓ws_par, ↓ws_wipe, ↓ws_frz, ↓ok_some, ↓ok_none, ↓o2_some, ↓o2_none, ↓o3_some, ↓o3_none, ↓seqQ_nx, ↓seqQ_rt, ↓seqQ_bk, ↓seqQ_ct, ↓retQ_rt, ↓retQ_nx, ↓turnQ_nx, ↓turnQ_rt, ↓turnQ_bk, ↓turnQ_ct, ↓wipeQ, ↓w_runF, for_en, for_zp, lc_en, lc_zp, wipeE, flV', asg, asgs, parV, Src.get, srcOf, seqSrc, sizeLine, newV, binV, addV, ixV, dctOf, seqOf, lstOf, lstW, slV, biV, isV, tyOf, cmpV, augV, setIxV, meTy, m_join, m_app, m_ext, m_pop, m_rev, strsOf_str, strsOf_nil, strsOf_app, strsOf_mapf, strsOf_map, Option.bind_some, Option.map_some, atI, ixN, ↓ok_if, ↓ok_map, ↓ok_bind, ↓o2_if, ↓o3_if, FK.eqV, o1, cutL, HT.sIx]
      refine O2.of (lc_map (ys := [a, b]) (emb := Tm.v) (g := fun t => .str t.tt) evT_nil (fun t ht => ?_) rfl rfl) ?_
      · have : frm (W.C k 0) [t.v] [] = some (.str t.tt, []) := by
          simp only [List.mem_cons, List.not_mem_nil, or_false] at ht
          rcases ht with rfl | rfl
          · exact ih _ _ ok.1 nd.1 (by omega) (by omega)
          · exact ih _ _ ok.2 nd.2 (by omega) (by omega)
        simp -dsimp [↓w_var, ↓w_cst, ↓w_bty, ↓w_glob, ↓w_bin, ↓w_neg, ↓w_cmp, ↓w_chain, ↓w_and, ↓w_or, ↓w_not, ↓w_ite, ↓w_lst, ↓w_tup, ↓w_ix, ↓w_sl, ↓w_lc, ↓w_call, ↓w_pcall, ↓w_new, ↓w_bi, ↓w_me, ↓w_dsp, ↓wt_nil, ↓wt_and, ↓wt_or, ↓wt_not, ↓wt_val, ↓wa_nil, ↓wa_cons, ↓wb_nil, ↓wb_cons, ↓wo_nil, ↓wo_cons, ↓ws_nil, ↓ws_seq, ↓ws_set, ↓ws_setT, ↓ws_setIx, ↓ws_aug, ↓ws_ifs, ↓ws_for, ↓ws_whl, ↓ws_ret, ↓ws_retN, ↓ws_expr, ↓ws_pass, ↓ws_brk, ↓ws_setO, ↓ws_retO, ↓ws_appO, ↓ws_extO, ↓ws_revO, ↓ws_putO, ↓ws_par, ↓ws_wipe, ↓ws_frz, ↓ok_some, ↓ok_none, ↓o2_some, ↓o2_none, ↓o3_some, ↓o3_none, ↓seqQ_nx, ↓seqQ_rt, ↓seqQ_bk, ↓seqQ_ct, ↓retQ_rt, ↓retQ_nx, ↓turnQ_nx, ↓turnQ_rt, ↓turnQ_bk, ↓turnQ_ct, ↓wipeQ, ↓w_runF, for_en, for_zp, lc_en, lc_zp, wipeE, flV', asg, asgs, parV, Src.get, srcOf, seqSrc, sizeLine, newV, this]
      · simp -dsimp [↓w_var, ↓w_cst, ↓w_bty, ↓w_glob, ↓w_bin, ↓w_neg, ↓w_cmp, ↓w_chain, ↓w_and, ↓w_or, ↓w_not, ↓w_ite, ↓w_lst, ↓w_tup, ↓w_ix, ↓w_sl, ↓w_lc, ↓w_call, ↓w_pcall, ↓w_new, ↓w_bi, ↓w_me, ↓w_dsp, ↓wt_nil, ↓wt_and, ↓wt_or, ↓wt_not, ↓wt_val, ↓wa_nil, ↓wa_cons, ↓wb_nil, ↓wb_cons, ↓wo_nil, ↓wo_cons, ↓ws_nil, ↓ws_seq, ↓ws_set, ↓ws_setT, ↓ws_setIx, ↓ws_aug, ↓ws_ifs, ↓ws_for, ↓ws_whl, ↓ws_ret, ↓ws_retN, ↓ws_expr, ↓ws_pass, ↓ws_brk, ↓ws_setO, ↓ws_retO, ↓ws_appO, ↓ws_extO, ↓ws_revO, ↓ws_putO, ↓ws_par, ↓ws_wipe, ↓ws_frz, ↓ok_some, ↓ok_none, ↓o2_some, ↓o2_none, ↓o3_some, ↓o3_none, ↓seqQ_nx, ↓seqQ_rt, ↓seqQ_bk, ↓seqQ_ct, ↓retQ_rt, ↓retQ_nx, ↓turnQ_nx, ↓turnQ_rt, ↓turnQ_bk, ↓turnQ_ct, ↓wipeQ, ↓w_runF, for_en, for_zp, lc_en, lc_zp, wipeE, flV', asg, asgs, parV, Src.get, srcOf, seqSrc, sizeLine, newV, binV, addV, ixV, dctOf, seqOf, lstOf, lstW, slV, biV, isV, tyOf, cmpV, augV, setIxV, meTy, m_join, m_app, m_ext, m_pop, m_rev, strsOf_str, strsOf_nil, strsOf_app, strsOf_mapf, strsOf_map, Option.bind_some, Option.map_some, atI, ixN, ↓ok_if, ↓ok_map, ↓ok_bind, ↓o2_if, ↓o3_if]
        have e1 : (Str.ofString "(").length = 1 := by rw [len_lit]; rfl
        have e2 : (Str.ofString ")").length = 1 := by rw [len_lit]; rfl
        rw [blank_len]
        refine ⟨by omega, ?_⟩
        simp [Tm.tt]
    | ask a l =>
      simp only [Tm.ok] at ok
      simp only [Tm.named] at nd
      simp only [Tm.n] at hn
      simp only [Tm.d] at hd
      have h1 := a.tt_len ok.1
      have h2 := Tm.tts_len l ok.2
      have h4 := Tm.len_ns l
      simp -dsimp [F.term_text, F.term_text_body, Tm.v, ↓w_var, ↓w_cst, ↓w_bty, ↓w_glob, ↓w_bin, ↓w_neg, ↓w_cmp, ↓w_chain, ↓w_and, ↓w_or, ↓w_not, ↓w_ite, ↓w_lst, ↓w_tup, ↓w_ix, ↓w_sl, ↓w_lc, ↓w_call, ↓w_pcall, ↓w_new, ↓w_bi, ↓w_me, ↓w_dsp, ↓wt_nil, ↓wt_and, ↓wt_or, ↓wt_not, ↓wt_val, ↓wa_nil, ↓wa_cons, ↓wb_nil, ↓wb_cons, ↓wo_nil, ↓wo_cons, ↓ws_nil, ↓ws_seq, ↓ws_set, ↓ws_setT, ↓ws_setIx, ↓ws_aug, ↓ws_ifs, ↓ws_for, ↓ws_whl, ↓ws_ret, ↓ws_retN, ↓ws_expr, ↓ws_pass, ↓ws_brk, ↓ws_setO, ↓ws_retO, ↓ws_appO, ↓ws_extO, ↓ws_revO, ↓ws_putO, ↓ws_par, ↓ws_wipe, ↓ws_frz, ↓ok_some, ↓ok_none, ↓o2_some, ↓o2_none, ↓o3_some, ↓o3_none, ↓seqQ_nx, ↓seqQ_rt, ↓seqQ_bk, ↓seqQ_ct, ↓retQ_rt, ↓retQ_nx, ↓turnQ_nx, ↓turnQ_rt, ↓turnQ_bk, ↓turnQ_ct, ↓wipeQ, ↓w_runF, for_en, for_zp, lc_en, lc_zp, wipeE, flV', asg, asgs, parV, Src.get, srcOf, seqSrc, sizeLine, newV, binV, addV, ixV, dctOf, seqOf, lstOf, lstW, slV, biV, isV, tyOf, cmpV, augV, setIxV, meTy, m_join, m_app, m_ext, m_pop, m_rev, strsOf_str, strsOf_nil, strsOf_app, strsOf_mapf, strsOf_map, Option.bind_some, Option.map_some, atI, ixN, ↓ok_if, ↓ok_map, ↓ok_bind, ↓o2_if, ↓o3_if, FK.eqV, ofS_inj, Tm.vs_map]
      refine ⟨by omega, by omega, ?_⟩
      refine O2.of (lc_map (ys := a :: l) (emb := Tm.v) (g := fun t => .str t.tt) evT_nil (fun t ht => ?_) rfl rfl) ?_
      · have : frm (W.C k 0) [t.v] [] = some (.str t.tt, []) := by
          rcases List.mem_cons.mp ht with rfl | ht
          · exact ih _ _ ok.1 nd.1 (by omega) (by omega)
          · have := Tm.mem_n ht
            have := Tm.mem_d ht
            exact ih _ _ (Tm.mem_ok ok.2 ht) (Tm.mem_named nd.2 ht) (by omega) (by omega)
        simp -dsimp [↓w_var, ↓w_cst, ↓w_bty, ↓w_glob, ↓w_bin, ↓w_neg, ↓w_cmp, ↓w_chain, ↓w_and, ↓w_or, ↓w_not, ↓w_ite, ↓w_lst, ↓w_tup, ↓w_ix, ↓w_sl, ↓w_lc, ↓w_call, ↓w_pcall, ↓w_new, ↓w_bi, ↓w_me, ↓w_dsp, ↓wt_nil, ↓wt_and, ↓wt_or, ↓wt_not, ↓wt_val, ↓wa_nil, ↓wa_cons, ↓wb_nil, ↓wb_cons, ↓wo_nil, ↓wo_cons, ↓ws_nil, ↓ws_seq, ↓ws_set, ↓ws_setT, ↓ws_setIx, ↓ws_aug, ↓ws_ifs, ↓ws_for, ↓ws_whl, ↓ws_ret, ↓ws_retN, ↓ws_expr, ↓ws_pass, ↓ws_brk, ↓ws_setO, ↓ws_retO, ↓ws_appO, ↓ws_extO, ↓ws_revO, ↓ws_putO, ↓ws_par, ↓ws_wipe, ↓ws_frz, ↓ok_some, ↓ok_none, ↓o2_some, ↓o2_none, ↓o3_some, ↓o3_none, ↓seqQ_nx, ↓seqQ_rt, ↓seqQ_bk, ↓seqQ_ct, ↓retQ_rt, ↓retQ_nx, ↓turnQ_nx, ↓turnQ_rt, ↓turnQ_bk, ↓turnQ_ct, ↓wipeQ, ↓w_runF, for_en, for_zp, lc_en, lc_zp, wipeE, flV', asg, asgs, parV, Src.get, srcOf, seqSrc, sizeLine, newV, this]
      · simp -dsimp [↓w_var, ↓w_cst, ↓w_bty, ↓w_glob, ↓w_bin, ↓w_neg, ↓w_cmp, ↓w_chain, ↓w_and, ↓w_or, ↓w_not, ↓w_ite, ↓w_lst, ↓w_tup, ↓w_ix, ↓w_sl, ↓w_lc, ↓w_call, ↓w_pcall, ↓w_new, ↓w_bi, ↓w_me, ↓w_dsp, ↓wt_nil, ↓wt_and, ↓wt_or, ↓wt_not, ↓wt_val, ↓wa_nil, ↓wa_cons, ↓wb_nil, ↓wb_cons, ↓wo_nil, ↓wo_cons, ↓ws_nil, ↓ws_seq, ↓ws_set, ↓ws_setT, ↓ws_setIx, ↓ws_aug, ↓ws_ifs, ↓ws_for, ↓ws_whl, ↓ws_ret, ↓ws_retN, ↓ws_expr, ↓ws_pass, ↓ws_brk, ↓ws_setO, ↓ws_retO, ↓ws_appO, ↓ws_extO, ↓ws_revO, ↓ws_putO, ↓ws_par, ↓ws_wipe, ↓ws_frz, ↓ok_some, ↓ok_none, ↓o2_some, ↓o2_none, ↓o3_some, ↓o3_none, ↓seqQ_nx, ↓seqQ_rt, ↓seqQ_bk, ↓seqQ_ct, ↓retQ_rt, ↓retQ_nx, ↓turnQ_nx, ↓turnQ_rt, ↓turnQ_bk, ↓turnQ_ct, ↓wipeQ, ↓w_runF, for_en, for_zp, lc_en, lc_zp, wipeE, flV', asg, asgs, parV, Src.get, srcOf, seqSrc, sizeLine, newV, binV, addV, ixV, dctOf, seqOf, lstOf, lstW, slV, biV, isV, tyOf, cmpV, augV, setIxV, meTy, m_join, m_app, m_ext, m_pop, m_rev, strsOf_str, strsOf_nil, strsOf_app, strsOf_mapf, strsOf_map, Option.bind_some, Option.map_some, atI, ixN, ↓ok_if, ↓ok_map, ↓ok_bind, ↓o2_if, ↓o3_if]
        have e1 : (Str.ofString "(").length = 1 := by rw [len_lit]; rfl
        have e2 : (Str.ofString ")").length = 1 := by rw [len_lit]; rfl
        have e3 : (Str.ofString "ask").length = 3 := by rw [len_lit]; rfl
        have e4 : (List.map ((fun x => x.length) ∘ Tm.tt) l).sum + l.length = lens (Tm.tts l) := by simp [lens, Tm.tts_map]
        rw [blank_len]
        refine ⟨by omega, by omega, by omega, ?_⟩
        simp [Tm.tt, Tm.tts_map]
/-- the law's words of a term -/
theorem term_words_ok (L : W.fns.lookup 14 = some F.law_term_words) : ∀ (t : Tm) (k : Nat) (h : AH), t.ok → t.named → t.n ≤ 40000 → t.d ≤ k → frm (W.C k 14) [t.v] h = some (.fl (t.tw.map .str), h) := by
  intro t k
  induction k generalizing t with
  | zero => intro h _ _ _ hd; have := t.d_pos; omega
  | succ k ih =>
    intro h ok nd hn hd
    refine frm_pure (v := .fl (t.tw.map .str)) (by simp [noRefs, t.v_nr]) ?_ (by simp [outV, noRef]) (by simp)
    apply O2.eq
    rw [Wd.C_run L]
    have lw := t.tw_len ok
    cases t with
    | num n =>
      simp only [Tm.ok] at ok
      have e := fun h => strV_int (h := h) (i := n) (by have := log_of ok; omega)
      simp -dsimp [F.law_term_words, F.law_term_words_body, Tm.v, Tm.tw, ↓w_var, ↓w_cst, ↓w_bty, ↓w_glob, ↓w_bin, ↓w_neg, ↓w_cmp, ↓w_chain, ↓w_and, ↓w_or, ↓w_not, ↓w_ite, ↓w_lst, ↓w_tup, ↓w_ix, ↓w_sl, ↓w_lc, ↓w_call, ↓w_pcall, ↓w_new, ↓w_bi, ↓w_me, ↓w_dsp, ↓wt_nil, ↓wt_and, ↓wt_or, ↓wt_not, ↓wt_val, ↓wa_nil, ↓wa_cons, ↓wb_nil, ↓wb_cons, ↓wo_nil, ↓wo_cons, ↓ws_nil, ↓ws_seq, ↓ws_set, ↓ws_setT, ↓ws_setIx, ↓ws_aug, ↓ws_ifs, ↓ws_for, ↓ws_whl, ↓ws_ret, ↓ws_retN, ↓ws_expr, ↓ws_pass, ↓ws_brk, ↓ws_setO, ↓ws_retO, ↓ws_appO, ↓ws_extO, ↓ws_revO, ↓ws_putO, ↓ws_par, ↓ws_wipe, ↓ws_frz, ↓ok_some, ↓ok_none, ↓o2_some, ↓o2_none, ↓o3_some, ↓o3_none, ↓seqQ_nx, ↓seqQ_rt, ↓seqQ_bk, ↓seqQ_ct, ↓retQ_rt, ↓retQ_nx, ↓turnQ_nx, ↓turnQ_rt, ↓turnQ_bk, ↓turnQ_ct, ↓wipeQ, ↓w_runF, for_en, for_zp, lc_en, lc_zp, wipeE, flV', asg, asgs, parV, Src.get, srcOf, seqSrc, sizeLine, newV, binV, addV, ixV, dctOf, seqOf, lstOf, lstW, slV, biV, isV, tyOf, cmpV, augV, setIxV, meTy, m_join, m_app, m_ext, m_pop, m_rev, strsOf_str, strsOf_nil, strsOf_app, strsOf_mapf, strsOf_map, Option.bind_some, Option.map_some, atI, ixN, ↓ok_if, ↓ok_map, ↓ok_bind, ↓o2_if, ↓o3_if, FK.inV, kyOf, flV, ofS_inj, e, L2.inV, L2.eqV]
    | nm x =>
      cases x with
      | ow _ _ => exact nd.elim
      | wd w => 
        simp -dsimp [F.law_term_words, F.law_term_words_body, Tm.v, Nm.tm, Tm.tw, ↓w_var, ↓w_cst, ↓w_bty, ↓w_glob, ↓w_bin, ↓w_neg, ↓w_cmp, ↓w_chain, ↓w_and, ↓w_or, ↓w_not, ↓w_ite, ↓w_lst, ↓w_tup, ↓w_ix, ↓w_sl, ↓w_lc, ↓w_call, ↓w_pcall, ↓w_new, ↓w_bi, ↓w_me, ↓w_dsp, ↓wt_nil, ↓wt_and, ↓wt_or, ↓wt_not, ↓wt_val, ↓wa_nil, ↓wa_cons, ↓wb_nil, ↓wb_cons, ↓wo_nil, ↓wo_cons, ↓ws_nil, ↓ws_seq, ↓ws_set, ↓ws_setT, ↓ws_setIx, ↓ws_aug, ↓ws_ifs, ↓ws_for, ↓ws_whl, ↓ws_ret, ↓ws_retN, ↓ws_expr, ↓ws_pass, ↓ws_brk, ↓ws_setO, ↓ws_retO, ↓ws_appO, ↓ws_extO, ↓ws_revO, ↓ws_putO, ↓ws_par, ↓ws_wipe, ↓ws_frz, ↓ok_some, ↓ok_none, ↓o2_some, ↓o2_none, ↓o3_some, ↓o3_none, ↓seqQ_nx, ↓seqQ_rt, ↓seqQ_bk, ↓seqQ_ct, ↓retQ_rt, ↓retQ_nx, ↓turnQ_nx, ↓turnQ_rt, ↓turnQ_bk, ↓turnQ_ct, ↓wipeQ, ↓w_runF, for_en, for_zp, lc_en, lc_zp, wipeE, flV', asg, asgs, parV, Src.get, srcOf, seqSrc, sizeLine, newV, binV, addV, ixV, dctOf, seqOf, lstOf, lstW, slV, biV, isV, tyOf, cmpV, augV, setIxV, meTy, m_join, m_app, m_ext, m_pop, m_rev, strsOf_str, strsOf_nil, strsOf_app, strsOf_mapf, strsOf_map, Option.bind_some, Option.map_some, atI, ixN, ↓ok_if, ↓ok_map, ↓ok_bind, ↓o2_if, ↓o3_if, FK.inV, kyOf, flV, ofS_inj, L2.inV, L2.eqV, strV]
    | cod _ => exact nd.elim
    | two o a b =>
      simp only [Tm.ok] at ok
      simp only [Tm.named] at nd
      simp only [Tm.n] at hn
      simp only [Tm.d] at hd
      have o1 : o.s ≠ Str.ofString "number" ∧ o.s ≠ Str.ofString "name" ∧ o.s ≠ Str.ofString "ask" ∧ Str.ofString "number" ≠ o.s ∧ Str.ofString "name" ≠ o.s := by cases o <;> simp [Op4.s, ofS_inj]
      simp only [Tm.tw, lens_app, lens_cons, lens_nil, Tm.n] at lw
      simp -dsimp [F.law_term_words, F.law_term_words_body, Tm.v, ↓w_var, ↓w_cst, ↓w_bty, ↓w_glob, ↓w_bin, ↓w_neg, ↓w_cmp, ↓w_chain, ↓w_and, ↓w_or, ↓w_not, ↓w_ite, ↓w_lst, ↓w_tup, ↓w_ix, ↓w_sl, ↓w_lc, ↓w_call, ↓w_pcall, ↓w_new, ↓w_bi, ↓w_me, ↓w_dsp, ↓wt_nil, ↓wt_and, ↓wt_or, ↓wt_not, ↓wt_val, ↓wa_nil, ↓wa_cons, ↓wb_nil, ↓wb_cons, ↓wo_nil, ↓wo_cons, ↓ws_nil, ↓ws_seq, ↓ws_set, ↓ws_setT, ↓ws_setIx, ↓ws_aug, ↓ws_ifs, ↓ws_for, ↓ws_whl, ↓ws_ret, ↓ws_retN, ↓ws_expr, ↓ws_pass, ↓ws_brk, ↓ws_setO, ↓ws_retO, ↓ws_appO, ↓ws_extO, ↓ws_revO, ↓ws_putO, ↓ws_par, ↓ws_wipe, ↓ws_frz, ↓ok_some, ↓ok_none, ↓o2_some, ↓o2_none, ↓o3_some, ↓o3_none, ↓seqQ_nx, ↓seqQ_rt, ↓seqQ_bk, ↓seqQ_ct, ↓retQ_rt, ↓retQ_nx, ↓turnQ_nx, ↓turnQ_rt, ↓turnQ_bk, ↓turnQ_ct, ↓wipeQ, ↓w_runF, for_en, for_zp, lc_en, lc_zp, wipeE, flV', asg, asgs, parV, Src.get, srcOf, seqSrc, sizeLine, newV, binV, addV, ixV, dctOf, seqOf, lstOf, lstW, slV, biV, isV, tyOf, cmpV, augV, setIxV, meTy, m_join, m_app, m_ext, m_pop, m_rev, strsOf_str, strsOf_nil, strsOf_app, strsOf_mapf, strsOf_map, Option.bind_some, Option.map_some, atI, ixN, ↓ok_if, ↓ok_map, ↓ok_bind, ↓o2_if, ↓o3_if, FK.inV, kyOf, flV, o1, L2.inV, L2.eqV, FK.eqV, cutL, HT.sIx]
      have l1 := a.tw_len ok.1
      have l2 := b.tw_len ok.2
      have l3 : a.tw.length ≤ lens a.tw ∧ b.tw.length ≤ lens b.tw := by simp [lens]
      refine O3.of (for_acc (ys := [a, b]) (emb := Tm.v) (E := fun acc => [some (.tup [.str o.s, a.v, b.v]), some (.fz [a.v, b.v]), some (.fl acc), none]) (g := fun t => t.tw.map .str) [.str (Str.ofString "("), .str o.s] (fun t ht acc hl => ?_) rfl rfl) ?_
      · have : frm (W.C k 14) [t.v] [] = some (.fl (t.tw.map .str), []) := by
          simp only [List.mem_cons, List.not_mem_nil, or_false] at ht
          rcases ht with rfl | rfl
          · exact ih _ _ ok.1 nd.1 (by omega) (by omega)
          · exact ih _ _ ok.2 nd.2 (by omega) (by omega)
        simp at hl
        simp -dsimp [F.law_term_words_b0, ↓w_var, ↓w_cst, ↓w_bty, ↓w_glob, ↓w_bin, ↓w_neg, ↓w_cmp, ↓w_chain, ↓w_and, ↓w_or, ↓w_not, ↓w_ite, ↓w_lst, ↓w_tup, ↓w_ix, ↓w_sl, ↓w_lc, ↓w_call, ↓w_pcall, ↓w_new, ↓w_bi, ↓w_me, ↓w_dsp, ↓wt_nil, ↓wt_and, ↓wt_or, ↓wt_not, ↓wt_val, ↓wa_nil, ↓wa_cons, ↓wb_nil, ↓wb_cons, ↓wo_nil, ↓wo_cons, ↓ws_nil, ↓ws_seq, ↓ws_set, ↓ws_setT, ↓ws_setIx, ↓ws_aug, ↓ws_ifs, ↓ws_for, ↓ws_whl, ↓ws_ret, ↓ws_retN, ↓ws_expr, ↓ws_pass, ↓ws_brk, ↓ws_setO, ↓ws_retO, ↓ws_appO, ↓ws_extO, ↓ws_revO, ↓ws_putO, ↓ws_par, ↓ws_wipe, ↓ws_frz, ↓ok_some, ↓ok_none, ↓o2_some, ↓o2_none, ↓o3_some, ↓o3_none, ↓seqQ_nx, ↓seqQ_rt, ↓seqQ_bk, ↓seqQ_ct, ↓retQ_rt, ↓retQ_nx, ↓turnQ_nx, ↓turnQ_rt, ↓turnQ_bk, ↓turnQ_ct, ↓wipeQ, ↓w_runF, for_en, for_zp, lc_en, lc_zp, wipeE, flV', asg, asgs, parV, Src.get, srcOf, seqSrc, sizeLine, newV, binV, addV, ixV, dctOf, seqOf, lstOf, lstW, slV, biV, isV, tyOf, cmpV, augV, setIxV, meTy, m_join, m_app, m_ext, m_pop, m_rev, strsOf_str, strsOf_nil, strsOf_app, strsOf_mapf, strsOf_map, Option.bind_some, Option.map_some, atI, ixN, ↓ok_if, ↓ok_map, ↓ok_bind, ↓o2_if, ↓o3_if, this]
        omega
      · simp -dsimp [↓w_var, ↓w_cst, ↓w_bty, ↓w_glob, ↓w_bin, ↓w_neg, ↓w_cmp, ↓w_chain, ↓w_and, ↓w_or, ↓w_not, ↓w_ite, ↓w_lst, ↓w_tup, ↓w_ix, ↓w_sl, ↓w_lc, ↓w_call, ↓w_pcall, ↓w_new, ↓w_bi, ↓w_me, ↓w_dsp, ↓wt_nil, ↓wt_and, ↓wt_or, ↓wt_not, ↓wt_val, ↓wa_nil, ↓wa_cons, ↓wb_nil, ↓wb_cons, ↓wo_nil, ↓wo_cons, ↓ws_nil, ↓ws_seq, ↓ws_set, ↓ws_setT, ↓ws_setIx, ↓ws_aug, ↓ws_ifs, ↓ws_for, ↓ws_whl, ↓ws_ret, ↓ws_retN, ↓ws_expr, ↓ws_pass, ↓ws_brk, ↓ws_setO, ↓ws_retO, ↓ws_appO, ↓ws_extO, ↓ws_revO, ↓ws_putO, ↓ws_par, ↓ws_wipe, ↓ws_frz, ↓ok_some, ↓ok_none, ↓o2_some, ↓o2_none, ↓o3_some, ↓o3_none, ↓seqQ_nx, ↓seqQ_rt, ↓seqQ_bk, ↓seqQ_ct, ↓retQ_rt, ↓retQ_nx, ↓turnQ_nx, ↓turnQ_rt, ↓turnQ_bk, ↓turnQ_ct, ↓wipeQ, ↓w_runF, for_en, for_zp, lc_en, lc_zp, wipeE, flV', asg, asgs, parV, Src.get, srcOf, seqSrc, sizeLine, newV, binV, addV, ixV, dctOf, seqOf, lstOf, lstW, slV, biV, isV, tyOf, cmpV, augV, setIxV, meTy, m_join, m_app, m_ext, m_pop, m_rev, strsOf_str, strsOf_nil, strsOf_app, strsOf_mapf, strsOf_map, Option.bind_some, Option.map_some, atI, ixN, ↓ok_if, ↓ok_map, ↓ok_bind, ↓o2_if, ↓o3_if]
        exact ⟨by omega, by simp [Tm.tw]⟩
    | ask a l =>
      simp only [Tm.ok] at ok
      simp only [Tm.named] at nd
      simp only [Tm.n] at hn
      simp only [Tm.d] at hd
      simp only [Tm.tw, lens_app, lens_cons, lens_nil, Tm.n] at lw
      simp -dsimp [F.law_term_words, F.law_term_words_body, Tm.v, ↓w_var, ↓w_cst, ↓w_bty, ↓w_glob, ↓w_bin, ↓w_neg, ↓w_cmp, ↓w_chain, ↓w_and, ↓w_or, ↓w_not, ↓w_ite, ↓w_lst, ↓w_tup, ↓w_ix, ↓w_sl, ↓w_lc, ↓w_call, ↓w_pcall, ↓w_new, ↓w_bi, ↓w_me, ↓w_dsp, ↓wt_nil, ↓wt_and, ↓wt_or, ↓wt_not, ↓wt_val, ↓wa_nil, ↓wa_cons, ↓wb_nil, ↓wb_cons, ↓wo_nil, ↓wo_cons, ↓ws_nil, ↓ws_seq, ↓ws_set, ↓ws_setT, ↓ws_setIx, ↓ws_aug, ↓ws_ifs, ↓ws_for, ↓ws_whl, ↓ws_ret, ↓ws_retN, ↓ws_expr, ↓ws_pass, ↓ws_brk, ↓ws_setO, ↓ws_retO, ↓ws_appO, ↓ws_extO, ↓ws_revO, ↓ws_putO, ↓ws_par, ↓ws_wipe, ↓ws_frz, ↓ok_some, ↓ok_none, ↓o2_some, ↓o2_none, ↓o3_some, ↓o3_none, ↓seqQ_nx, ↓seqQ_rt, ↓seqQ_bk, ↓seqQ_ct, ↓retQ_rt, ↓retQ_nx, ↓turnQ_nx, ↓turnQ_rt, ↓turnQ_bk, ↓turnQ_ct, ↓wipeQ, ↓w_runF, for_en, for_zp, lc_en, lc_zp, wipeE, flV', asg, asgs, parV, Src.get, srcOf, seqSrc, sizeLine, newV, binV, addV, ixV, dctOf, seqOf, lstOf, lstW, slV, biV, isV, tyOf, cmpV, augV, setIxV, meTy, m_join, m_app, m_ext, m_pop, m_rev, strsOf_str, strsOf_nil, strsOf_app, strsOf_mapf, strsOf_map, Option.bind_some, Option.map_some, atI, ixN, ↓ok_if, ↓ok_map, ↓ok_bind, ↓o2_if, ↓o3_if, FK.inV, kyOf, flV, ofS_inj, L2.inV, L2.eqV, FK.eqV, cutL, HT.sIx, Tm.vs_map]
      have l1 := a.tw_len ok.1
      have l2 := Tm.tws_len l ok.2
      have l3 : a.tw.length ≤ lens a.tw ∧ (Tm.tws l).length ≤ lens (Tm.tws l) := by simp [lens]
      have l4 := Tm.len_ns l
      have l5 : (l.flatMap Tm.tw).length = (Tm.tws l).length := by rw [Tm.tws_map, List.flatMap_def]
      refine ⟨by omega, ?_⟩
      refine O3.of (for_acc (ys := a :: l) (emb := Tm.v) (E := fun acc => [some (.tup [.str (Str.ofString "ask"), a.v, .tup (l.map Tm.v)]), some (.fz (a.v :: l.map Tm.v)), some (.fl acc), none]) (g := fun t => t.tw.map .str) [.str (Str.ofString "("), .str (Str.ofString "ask")] (fun t ht acc hl => ?_) rfl rfl) ?_
      · have : frm (W.C k 14) [t.v] [] = some (.fl (t.tw.map .str), []) := by
          rcases List.mem_cons.mp ht with rfl | ht
          · exact ih _ _ ok.1 nd.1 (by omega) (by omega)
          · have := Tm.mem_n ht
            have := Tm.mem_d ht
            exact ih _ _ (Tm.mem_ok ok.2 ht) (Tm.mem_named nd.2 ht) (by omega) (by omega)
        have e1 : (l.flatMap fun t => t.tw.map Vl.str).length = (Tm.tws l).length := by rw [← l5, List.length_flatMap, List.length_flatMap]; simp
        simp only [List.flatMap_cons, List.length_append, List.length_map, e1, List.length_cons, List.length_nil] at hl
        simp -dsimp [F.law_term_words_b0, ↓w_var, ↓w_cst, ↓w_bty, ↓w_glob, ↓w_bin, ↓w_neg, ↓w_cmp, ↓w_chain, ↓w_and, ↓w_or, ↓w_not, ↓w_ite, ↓w_lst, ↓w_tup, ↓w_ix, ↓w_sl, ↓w_lc, ↓w_call, ↓w_pcall, ↓w_new, ↓w_bi, ↓w_me, ↓w_dsp, ↓wt_nil, ↓wt_and, ↓wt_or, ↓wt_not, ↓wt_val, ↓wa_nil, ↓wa_cons, ↓wb_nil, ↓wb_cons, ↓wo_nil, ↓wo_cons, ↓ws_nil, ↓ws_seq, ↓ws_set, ↓ws_setT, ↓ws_setIx, ↓ws_aug, ↓ws_ifs, ↓ws_for, ↓ws_whl, ↓ws_ret, ↓ws_retN, ↓ws_expr, ↓ws_pass, ↓ws_brk, ↓ws_setO, ↓ws_retO, ↓ws_appO, ↓ws_extO, ↓ws_revO, ↓ws_putO, ↓ws_par, ↓ws_wipe, ↓ws_frz, ↓ok_some, ↓ok_none, ↓o2_some, ↓o2_none, ↓o3_some, ↓o3_none, ↓seqQ_nx, ↓seqQ_rt, ↓seqQ_bk, ↓seqQ_ct, ↓retQ_rt, ↓retQ_nx, ↓turnQ_nx, ↓turnQ_rt, ↓turnQ_bk, ↓turnQ_ct, ↓wipeQ, ↓w_runF, for_en, for_zp, lc_en, lc_zp, wipeE, flV', asg, asgs, parV, Src.get, srcOf, seqSrc, sizeLine, newV, binV, addV, ixV, dctOf, seqOf, lstOf, lstW, slV, biV, isV, tyOf, cmpV, augV, setIxV, meTy, m_join, m_app, m_ext, m_pop, m_rev, strsOf_str, strsOf_nil, strsOf_app, strsOf_mapf, strsOf_map, Option.bind_some, Option.map_some, atI, ixN, ↓ok_if, ↓ok_map, ↓ok_bind, ↓o2_if, ↓o3_if, this]
        omega
      · have e0 : (l.flatMap fun t => t.tw.map Vl.str) = (Tm.tws l).map .str := by
          rw [Tm.tws_map, ← List.flatMap_def, List.map_flatMap]
        simp -dsimp [↓w_var, ↓w_cst, ↓w_bty, ↓w_glob, ↓w_bin, ↓w_neg, ↓w_cmp, ↓w_chain, ↓w_and, ↓w_or, ↓w_not, ↓w_ite, ↓w_lst, ↓w_tup, ↓w_ix, ↓w_sl, ↓w_lc, ↓w_call, ↓w_pcall, ↓w_new, ↓w_bi, ↓w_me, ↓w_dsp, ↓wt_nil, ↓wt_and, ↓wt_or, ↓wt_not, ↓wt_val, ↓wa_nil, ↓wa_cons, ↓wb_nil, ↓wb_cons, ↓wo_nil, ↓wo_cons, ↓ws_nil, ↓ws_seq, ↓ws_set, ↓ws_setT, ↓ws_setIx, ↓ws_aug, ↓ws_ifs, ↓ws_for, ↓ws_whl, ↓ws_ret, ↓ws_retN, ↓ws_expr, ↓ws_pass, ↓ws_brk, ↓ws_setO, ↓ws_retO, ↓ws_appO, ↓ws_extO, ↓ws_revO, ↓ws_putO, ↓ws_par, ↓ws_wipe, ↓ws_frz, ↓ok_some, ↓ok_none, ↓o2_some, ↓o2_none, ↓o3_some, ↓o3_none, ↓seqQ_nx, ↓seqQ_rt, ↓seqQ_bk, ↓seqQ_ct, ↓retQ_rt, ↓retQ_nx, ↓turnQ_nx, ↓turnQ_rt, ↓turnQ_bk, ↓turnQ_ct, ↓wipeQ, ↓w_runF, for_en, for_zp, lc_en, lc_zp, wipeE, flV', asg, asgs, parV, Src.get, srcOf, seqSrc, sizeLine, newV, binV, addV, ixV, dctOf, seqOf, lstOf, lstW, slV, biV, isV, tyOf, cmpV, augV, setIxV, meTy, m_join, m_app, m_ext, m_pop, m_rev, strsOf_str, strsOf_nil, strsOf_app, strsOf_mapf, strsOf_map, Option.bind_some, Option.map_some, atI, ixN, ↓ok_if, ↓ok_map, ↓ok_bind, ↓o2_if, ↓o3_if, e0]
        exact ⟨by omega, by simp [Tm.tw]⟩
end
end FK

/-! ### the rows of programs' texts -/
namespace FK
open PySem PySem.Spec PyProof.Rows L2
/-- rows_text: 0 rows, 1 found!, 2 row, 3 arm, 4 some -/
def F.rows_text_b0 : Sx := (.seq (.wipe [3, 4] (.extO 1 (.bin .Add (.ite (.val (.cmp .Eq (.var 3) (.cst (.int 1)))) (.lst (.cons (.cst (.str "else")) .nil)) (.lst .nil)) (.pcall 1 (.cons (.var 4) .nil))))) .nil)
def F.rows_text_b1 : Sx := (.seq (.wipe [3, 4] (.ifs (.val (.cmp .Eq (.ix (.var 2) (.cst (.int 0))) (.cst (.str "set")))) (.seq (.appO 1 (.bin .Add (.bin .Add (.bin .Add (.cst (.str "set ")) (.ix (.var 2) (.cst (.int 1)))) (.cst (.str " "))) (.pcall 0 (.cons (.ix (.var 2) (.cst (.int 2))) .nil)))) .nil) (.seq (.appO 1 (.bin .Add (.bin .Add (.ix (.var 2) (.cst (.int 0))) (.cst (.str " "))) (.pcall 0 (.cons (.ix (.var 2) (.cst (.int 1))) .nil)))) .nil))) (.seq (.wipe [3, 4] (.for_ .enum (.cons (.ite (.val (.cmp .In (.ix (.var 2) (.cst (.int 0))) (.tup (.cons (.cst (.str "if")) (.cons (.cst (.str "turns")) .nil))))) (.sl (.var 2) (.cons (.cst (.int 2)) .nil) .nil) (.tup .nil)) .nil) (.tup [3, 4]) F.rows_text_b0)) (.seq (.wipe [2, 3, 4] (.ifs (.val (.cmp .In (.ix (.var 2) (.cst (.int 0))) (.tup (.cons (.cst (.str "if")) (.cons (.cst (.str "turns")) .nil))))) (.seq (.appO 1 (.cst (.str "end"))) .nil) .nil)) .nil)))
def F.rows_text_body : Sx := (.seq (.setO 1 (.lst .nil)) (.seq (.wipe [2, 3, 4] (.for_ .seq (.cons (.var 0) .nil) (.name 2) F.rows_text_b1)) (.seq (.retO 1) .nil)))
def F.rows_text : Fn := ⟨1, 5, F.rows_text_body⟩
/-- _law_rows_lines: 0 law_rows, 1 law_found!, 2 law_row, 3 law_words -/
def F.law_rows_lines_b0 : Sx := (.seq (.set 3 (.bin .Add (.lst (.cons (.ix (.var 2) (.cst (.int 0))) .nil)) (.ite (.val (.cmp .Eq (.ix (.var 2) (.cst (.int 0))) (.cst (.str "set")))) (.lst (.cons (.ix (.var 2) (.cst (.int 1))) .nil)) (.lst .nil)))) (.seq (.appO 1 (.me .join (.cst (.str " ")) (.cons (.bin .Add (.var 3) (.pcall 14 (.cons (.ite (.val (.cmp .Eq (.ix (.var 2) (.cst (.int 0))) (.cst (.str "set")))) (.ix (.var 2) (.cst (.int 2))) (.ix (.var 2) (.cst (.int 1)))) .nil))) .nil))) (.seq (.wipe [2, 3] (.ifs (.val (.cmp .In (.ix (.var 2) (.cst (.int 0))) (.tup (.cons (.cst (.str "if")) (.cons (.cst (.str "turns")) .nil))))) (.seq (.extO 1 (.pcall 15 (.cons (.ix (.var 2) (.cst (.int 2))) .nil))) (.seq (.ifs (.val (.cmp .Eq (.ix (.var 2) (.cst (.int 0))) (.cst (.str "if")))) (.seq (.extO 1 (.bin .Add (.lst (.cons (.cst (.str "else")) .nil)) (.pcall 15 (.cons (.ix (.var 2) (.cst (.int 3))) .nil)))) .nil) .nil) (.seq (.appO 1 (.cst (.str "end"))) .nil))) .nil)) .nil)))
def F.law_rows_lines_body : Sx := (.seq (.setO 1 (.lst .nil)) (.seq (.wipe [2, 3] (.for_ .seq (.cons (.var 0) .nil) (.name 2) F.law_rows_lines_b0)) (.seq (.retO 1) .nil)))
def F.law_rows_lines : Fn := ⟨1, 4, F.law_rows_lines_body⟩
mutual
def Rw.tl : Rw → List Str
  | .set (.wd w) t => [Str.ofString "set " ++ w ++ Str.ofString " " ++ t.tt]
  | .set (.ow _ _) _ => []
  | .pl o t => [o.s ++ Str.ofString " " ++ t.tt]
  | .turns t r => [Str.ofString "turns" ++ Str.ofString " " ++ t.tt] ++ Rw.tls r ++ [Str.ofString "end"]
  | .ife t a b => [Str.ofString "if" ++ Str.ofString " " ++ t.tt] ++ Rw.tls a ++ (Str.ofString "else" :: Rw.tls b) ++ [Str.ofString "end"]
def Rw.tls : List Rw → List Str
  | [] => []
  | r :: l => r.tl ++ Rw.tls l
end
mutual
def Rw.named : Rw → Prop
  | .set x t => x.named ∧ t.named
  | .pl _ t => t.named
  | .turns t r => t.named ∧ Rw.nameds r
  | .ife t a b => t.named ∧ Rw.nameds a ∧ Rw.nameds b
def Rw.nameds : List Rw → Prop
  | [] => True
  | r :: l => r.named ∧ Rw.nameds l
end
theorem Rw.mem_named : ∀ {l : List Rw} {t : Rw}, Rw.nameds l → t ∈ l → t.named
  | [], _, _, h => by cases h
  | s :: l, t, k, h => by
    simp only [Rw.nameds] at k
    rcases List.mem_cons.mp h with rfl | h
    · exact k.1
    · exact Rw.mem_named k.2 h
theorem Rw.tls_map : ∀ l : List Rw, Rw.tls l = l.flatMap Rw.tl
  | [] => by simp [Rw.tls]
  | t :: l => by simp [Rw.tls, Rw.tls_map l]
theorem set_len : (Str.ofString "set ").length = 4 ∧ (Str.ofString "turns").length = 5 ∧ (Str.ofString "if").length = 2 ∧ (Str.ofString "end").length = 3 ∧ (Str.ofString "else").length = 4 ∧ (Str.ofString "set").length = 3 := by
  refine ⟨?_, ?_, ?_, ?_, ?_, ?_⟩ <;> (rw [len_lit]; rfl)
mutual
theorem Rw.tl_len : ∀ r : Rw, r.ok → lens r.tl ≤ 150 * r.n
  | .set (.wd w) t, h => by
    simp only [Rw.ok, Nm.ok] at h
    have h1 := t.tt_len h.2
    have h2 := h.1.1
    have h3 := set_len
    have h4 := blank_len
    simp only [Rw.tl, lens_cons, lens_nil, app_len, Rw.n]; omega
  | .set (.ow _ _) t, _ => by simp only [Rw.tl, lens_nil]; omega
  | .pl o t, h => by
    simp only [Rw.ok] at h
    have h1 := t.tt_len h
    have h2 := o.tx.2
    have h4 := blank_len
    simp only [Rw.tl, lens_cons, lens_nil, app_len, Rw.n]; omega
  | .turns t r, h => by
    simp only [Rw.ok] at h
    have h1 := t.tt_len h.1
    have h2 := Rw.tls_len r h.2
    have h3 := set_len
    have h4 := blank_len
    simp only [Rw.tl, lens_app, lens_cons, lens_nil, app_len, Rw.n]; omega
  | .ife t a b, h => by
    simp only [Rw.ok] at h
    have h1 := t.tt_len h.1
    have h2 := Rw.tls_len a h.2.1
    have h5 := Rw.tls_len b h.2.2
    have h3 := set_len
    have h4 := blank_len
    simp only [Rw.tl, lens_app, lens_cons, lens_nil, app_len, Rw.n]; omega
theorem Rw.tls_len : ∀ l : List Rw, Rw.oks l → lens (Rw.tls l) ≤ 150 * Rw.ns l
  | [], _ => by simp [Rw.tls, lens_nil]
  | t :: l, h => by
    simp only [Rw.oks] at h
    have h1 := Rw.tl_len t h.1
    have h2 := Rw.tls_len l h.2
    simp only [Rw.tls, lens_app, Rw.ns]; omega
end
theorem len_lens (l : List Str) : l.length ≤ lens l := by simp [lens]
section
variable {W : Wd} {k : Nat} {h : AH}
/-- the program's rows -/
theorem rows_text_ok (L0 : W.fns.lookup 0 = some F.term_text) (L : W.fns.lookup 1 = some F.rows_text) : ∀ (k : Nat) (l : List Rw) (h : AH), Rw.oks l → Rw.nameds l → Rw.ns l ≤ 40000 → Rw.ds l < k → frm (W.C k 1) [.tup (l.map Rw.v)] h = some (.fl ((Rw.tls l).map .str), h) := by
  intro k
  induction k with
  | zero => intro l h _ _ _ hd; omega
  | succ k ih =>
    intro l h ok nd hn hd
    refine frm_pure (v := .fl ((Rw.tls l).map .str)) (by simp [noRefs, noRef, noRefs_map, Rw.v_nr]) ?_ (by simp [outV, noRef]) (by simp)
    apply O2.eq
    rw [Wd.C_run L]
    have lw := Rw.tls_len l ok
    have l1 := len_lens (Rw.tls l)
    have e0 : (l.flatMap fun t => t.tl.map Vl.str) = (Rw.tls l).map .str := by rw [Rw.tls_map, List.map_flatMap]
    simp -dsimp [F.rows_text, F.rows_text_body, ↓w_var, ↓w_cst, ↓w_bty, ↓w_glob, ↓w_bin, ↓w_neg, ↓w_cmp, ↓w_chain, ↓w_and, ↓w_or, ↓w_not, ↓w_ite, ↓w_lst, ↓w_tup, ↓w_ix, ↓w_sl, ↓w_lc, ↓w_call, ↓w_pcall, ↓w_new, ↓w_bi, ↓w_me, ↓w_dsp, ↓wt_nil, ↓wt_and, ↓wt_or, ↓wt_not, ↓wt_val, ↓wa_nil, ↓wa_cons, ↓wb_nil, ↓wb_cons, ↓wo_nil, ↓wo_cons, ↓ws_nil, ↓ws_seq, ↓ws_set, ↓ws_setT, ↓ws_setIx, ↓ws_aug, ↓ws_ifs, ↓ws_for, ↓ws_whl, ↓ws_ret, ↓ws_retN, ↓ws_expr, ↓ws_pass, ↓ws_brk, ↓ws_setO, ↓ws_retO, ↓ws_appO, ↓ws_extO, ↓ws_revO, ↓ws_putO, ↓ws_par, ↓ws_wipe, ↓ws_frz, ↓ok_some, ↓ok_none, ↓o2_some, ↓o2_none, ↓o3_some, ↓o3_none, ↓seqQ_nx, ↓seqQ_rt, ↓seqQ_bk, ↓seqQ_ct, ↓retQ_rt, ↓retQ_nx, ↓turnQ_nx, ↓turnQ_rt, ↓turnQ_bk, ↓turnQ_ct, ↓wipeQ, ↓w_runF, for_en, for_zp, lc_en, lc_zp, wipeE, flV', asg, asgs, parV, Src.get, srcOf, seqSrc, sizeLine, newV, binV, addV, ixV, dctOf, seqOf, lstOf, lstW, slV, biV, isV, tyOf, cmpV, augV, setIxV, meTy, m_join, m_app, m_ext, m_pop, m_rev, strsOf_str, strsOf_nil, strsOf_app, strsOf_mapf, strsOf_map, Option.bind_some, Option.map_some, atI, ixN, ↓ok_if, ↓ok_map, ↓ok_bind, ↓o2_if, ↓o3_if]
    refine O3.of (for_acc (ys := l) (emb := Rw.v) (E := fun acc => [some (.tup (l.map Rw.v)), some (.fl acc), none, none, none]) (g := fun t => t.tl.map .str) [] (fun r hr acc hl => ?_) rfl (by simp)) ?_
    · have n1 := Rw.mem_n hr
      have d1 := Rw.mem_d hr
      have ok1 := Rw.mem_ok ok hr
      have nd1 := Rw.mem_named nd hr
      have e1 : acc.length + r.tl.length ≤ (Rw.tls l).length := by rw [e0] at hl; simpa using hl
      have T : ∀ (t : Tm) h, t.ok → t.named → t.n ≤ 40000 → t.d ≤ k → frm (W.C k 0) [t.v] h = some (.str t.tt, h) := fun t h => term_text_ok L0 t k h
      have h3 := set_len
      have h4 := blank_len
      cases r with
      | set x t =>
        cases x with
        | ow _ _ => exact nd1.1.elim
        | wd w =>
          simp only [Rw.ok, Nm.ok] at ok1
          simp only [Rw.named] at nd1
          simp only [Rw.n] at n1
          simp only [Rw.d] at d1
          have tl := t.tt_len ok1.2
          have wl := ok1.1.1
          have := fun h => T t h ok1.2 nd1.2 (by omega) (by omega)
          simp only [Rw.tl, List.length_cons, List.length_nil] at e1
          simp -dsimp [F.rows_text_b1, F.rows_text_b0, Rw.v, Nm.v, Rw.tl, ↓w_var, ↓w_cst, ↓w_bty, ↓w_glob, ↓w_bin, ↓w_neg, ↓w_cmp, ↓w_chain, ↓w_and, ↓w_or, ↓w_not, ↓w_ite, ↓w_lst, ↓w_tup, ↓w_ix, ↓w_sl, ↓w_lc, ↓w_call, ↓w_pcall, ↓w_new, ↓w_bi, ↓w_me, ↓w_dsp, ↓wt_nil, ↓wt_and, ↓wt_or, ↓wt_not, ↓wt_val, ↓wa_nil, ↓wa_cons, ↓wb_nil, ↓wb_cons, ↓wo_nil, ↓wo_cons, ↓ws_nil, ↓ws_seq, ↓ws_set, ↓ws_setT, ↓ws_setIx, ↓ws_aug, ↓ws_ifs, ↓ws_for, ↓ws_whl, ↓ws_ret, ↓ws_retN, ↓ws_expr, ↓ws_pass, ↓ws_brk, ↓ws_setO, ↓ws_retO, ↓ws_appO, ↓ws_extO, ↓ws_revO, ↓ws_putO, ↓ws_par, ↓ws_wipe, ↓ws_frz, ↓ok_some, ↓ok_none, ↓o2_some, ↓o2_none, ↓o3_some, ↓o3_none, ↓seqQ_nx, ↓seqQ_rt, ↓seqQ_bk, ↓seqQ_ct, ↓retQ_rt, ↓retQ_nx, ↓turnQ_nx, ↓turnQ_rt, ↓turnQ_bk, ↓turnQ_ct, ↓wipeQ, ↓w_runF, for_en, for_zp, lc_en, lc_zp, wipeE, flV', asg, asgs, parV, Src.get, srcOf, seqSrc, sizeLine, newV, binV, addV, ixV, dctOf, seqOf, lstOf, lstW, slV, biV, isV, tyOf, cmpV, augV, setIxV, meTy, m_join, m_app, m_ext, m_pop, m_rev, strsOf_str, strsOf_nil, strsOf_app, strsOf_mapf, strsOf_map, Option.bind_some, Option.map_some, atI, ixN, ↓ok_if, ↓ok_map, ↓ok_bind, ↓o2_if, ↓o3_if, ↓wf_zero, ↓wf_succ, ↓wl_zero, ↓wl_succ, enL, List.zipIdx, zpL, FK.eqV, FK.inV, kyOf, flV, ofS_inj, L2.inV, L2.eqV, this, app_len, h3, h4]
          omega
      | pl o t =>
        simp only [Rw.ok] at ok1
        simp only [Rw.named] at nd1
        simp only [Rw.n] at n1
        simp only [Rw.d] at d1
        have tl := t.tt_len ok1
        have := fun h => T t h ok1 nd1 (by omega) (by omega)
        have ol := o.tx.2
        have o1 : o.s ≠ Str.ofString "set" ∧ Str.ofString "if" ≠ o.s ∧ Str.ofString "turns" ≠ o.s := by cases o <;> simp [Op3.s, ofS_inj]
        simp only [Rw.tl, List.length_cons, List.length_nil] at e1
        simp -dsimp [F.rows_text_b1, F.rows_text_b0, Rw.v, Rw.tl, ↓w_var, ↓w_cst, ↓w_bty, ↓w_glob, ↓w_bin, ↓w_neg, ↓w_cmp, ↓w_chain, ↓w_and, ↓w_or, ↓w_not, ↓w_ite, ↓w_lst, ↓w_tup, ↓w_ix, ↓w_sl, ↓w_lc, ↓w_call, ↓w_pcall, ↓w_new, ↓w_bi, ↓w_me, ↓w_dsp, ↓wt_nil, ↓wt_and, ↓wt_or, ↓wt_not, ↓wt_val, ↓wa_nil, ↓wa_cons, ↓wb_nil, ↓wb_cons, ↓wo_nil, ↓wo_cons, ↓ws_nil, ↓ws_seq, ↓ws_set, ↓ws_setT, ↓ws_setIx, ↓ws_aug, ↓ws_ifs, ↓ws_for, ↓ws_whl, ↓ws_ret, ↓ws_retN, ↓ws_expr, ↓ws_pass, ↓ws_brk, ↓ws_setO, ↓ws_retO, ↓ws_appO, ↓ws_extO, ↓ws_revO, ↓ws_putO, ↓ws_par, ↓ws_wipe, ↓ws_frz, ↓ok_some, ↓ok_none, ↓o2_some, ↓o2_none, ↓o3_some, ↓o3_none, ↓seqQ_nx, ↓seqQ_rt, ↓seqQ_bk, ↓seqQ_ct, ↓retQ_rt, ↓retQ_nx, ↓turnQ_nx, ↓turnQ_rt, ↓turnQ_bk, ↓turnQ_ct, ↓wipeQ, ↓w_runF, for_en, for_zp, lc_en, lc_zp, wipeE, flV', asg, asgs, parV, Src.get, srcOf, seqSrc, sizeLine, newV, binV, addV, ixV, dctOf, seqOf, lstOf, lstW, slV, biV, isV, tyOf, cmpV, augV, setIxV, meTy, m_join, m_app, m_ext, m_pop, m_rev, strsOf_str, strsOf_nil, strsOf_app, strsOf_mapf, strsOf_map, Option.bind_some, Option.map_some, atI, ixN, ↓ok_if, ↓ok_map, ↓ok_bind, ↓o2_if, ↓o3_if, ↓wf_zero, ↓wf_succ, ↓wl_zero, ↓wl_succ, enL, List.zipIdx, zpL, FK.eqV, FK.inV, kyOf, flV, o1, L2.inV, L2.eqV, this, app_len, h3, h4]
        omega
      | turns t r =>
        simp only [Rw.ok] at ok1
        simp only [Rw.named] at nd1
        simp only [Rw.n] at n1
        simp only [Rw.d] at d1
        have tl := t.tt_len ok1.1
        have := fun h => T t h ok1.1 nd1.1 (by omega) (by omega)
        have R := fun h => ih r h ok1.2 nd1.2 (by omega) (by omega)
        simp only [Rw.tl, List.length_cons, List.length_nil, List.length_append] at e1
        simp -dsimp [F.rows_text_b1, F.rows_text_b0, Rw.v, Rw.vs_map, Rw.tl, ↓w_var, ↓w_cst, ↓w_bty, ↓w_glob, ↓w_bin, ↓w_neg, ↓w_cmp, ↓w_chain, ↓w_and, ↓w_or, ↓w_not, ↓w_ite, ↓w_lst, ↓w_tup, ↓w_ix, ↓w_sl, ↓w_lc, ↓w_call, ↓w_pcall, ↓w_new, ↓w_bi, ↓w_me, ↓w_dsp, ↓wt_nil, ↓wt_and, ↓wt_or, ↓wt_not, ↓wt_val, ↓wa_nil, ↓wa_cons, ↓wb_nil, ↓wb_cons, ↓wo_nil, ↓wo_cons, ↓ws_nil, ↓ws_seq, ↓ws_set, ↓ws_setT, ↓ws_setIx, ↓ws_aug, ↓ws_ifs, ↓ws_for, ↓ws_whl, ↓ws_ret, ↓ws_retN, ↓ws_expr, ↓ws_pass, ↓ws_brk, ↓ws_setO, ↓ws_retO, ↓ws_appO, ↓ws_extO, ↓ws_revO, ↓ws_putO, ↓ws_par, ↓ws_wipe, ↓ws_frz, ↓ok_some, ↓ok_none, ↓o2_some, ↓o2_none, ↓o3_some, ↓o3_none, ↓seqQ_nx, ↓seqQ_rt, ↓seqQ_bk, ↓seqQ_ct, ↓retQ_rt, ↓retQ_nx, ↓turnQ_nx, ↓turnQ_rt, ↓turnQ_bk, ↓turnQ_ct, ↓wipeQ, ↓w_runF, for_en, for_zp, lc_en, lc_zp, wipeE, flV', asg, asgs, parV, Src.get, srcOf, seqSrc, sizeLine, newV, binV, addV, ixV, dctOf, seqOf, lstOf, lstW, slV, biV, isV, tyOf, cmpV, augV, setIxV, meTy, m_join, m_app, m_ext, m_pop, m_rev, strsOf_str, strsOf_nil, strsOf_app, strsOf_mapf, strsOf_map, Option.bind_some, Option.map_some, atI, ixN, ↓ok_if, ↓ok_map, ↓ok_bind, ↓o2_if, ↓o3_if, ↓wf_zero, ↓wf_succ, ↓wl_zero, ↓wl_succ, enL, List.zipIdx, zpL, FK.eqV, FK.inV, kyOf, flV, ofS_inj, L2.inV, L2.eqV, this, R, app_len, h3, h4, cutL, HT.sIx]
        omega
      | ife t a b =>
        simp only [Rw.ok] at ok1
        simp only [Rw.named] at nd1
        simp only [Rw.n] at n1
        simp only [Rw.d] at d1
        have tl := t.tt_len ok1.1
        have := fun h => T t h ok1.1 nd1.1 (by omega) (by omega)
        have R1 := fun h => ih a h ok1.2.1 nd1.2.1 (by omega) (by omega)
        have R2 := fun h => ih b h ok1.2.2 nd1.2.2 (by omega) (by omega)
        simp only [Rw.tl, List.length_cons, List.length_nil, List.length_append] at e1
        simp -dsimp [F.rows_text_b1, F.rows_text_b0, Rw.v, Rw.vs_map, Rw.tl, ↓w_var, ↓w_cst, ↓w_bty, ↓w_glob, ↓w_bin, ↓w_neg, ↓w_cmp, ↓w_chain, ↓w_and, ↓w_or, ↓w_not, ↓w_ite, ↓w_lst, ↓w_tup, ↓w_ix, ↓w_sl, ↓w_lc, ↓w_call, ↓w_pcall, ↓w_new, ↓w_bi, ↓w_me, ↓w_dsp, ↓wt_nil, ↓wt_and, ↓wt_or, ↓wt_not, ↓wt_val, ↓wa_nil, ↓wa_cons, ↓wb_nil, ↓wb_cons, ↓wo_nil, ↓wo_cons, ↓ws_nil, ↓ws_seq, ↓ws_set, ↓ws_setT, ↓ws_setIx, ↓ws_aug, ↓ws_ifs, ↓ws_for, ↓ws_whl, ↓ws_ret, ↓ws_retN, ↓ws_expr, ↓ws_pass, ↓ws_brk, ↓ws_setO, ↓ws_retO, ↓ws_appO, ↓ws_extO, ↓ws_revO, ↓ws_putO, ↓ws_par, ↓ws_wipe, ↓ws_frz, ↓ok_some, ↓ok_none, ↓o2_some, ↓o2_none, ↓o3_some, ↓o3_none, ↓seqQ_nx, ↓seqQ_rt, ↓seqQ_bk, ↓seqQ_ct, ↓retQ_rt, ↓retQ_nx, ↓turnQ_nx, ↓turnQ_rt, ↓turnQ_bk, ↓turnQ_ct, ↓wipeQ, ↓w_runF, for_en, for_zp, lc_en, lc_zp, wipeE, flV', asg, asgs, parV, Src.get, srcOf, seqSrc, sizeLine, newV, binV, addV, ixV, dctOf, seqOf, lstOf, lstW, slV, biV, isV, tyOf, cmpV, augV, setIxV, meTy, m_join, m_app, m_ext, m_pop, m_rev, strsOf_str, strsOf_nil, strsOf_app, strsOf_mapf, strsOf_map, Option.bind_some, Option.map_some, atI, ixN, ↓ok_if, ↓ok_map, ↓ok_bind, ↓o2_if, ↓o3_if, ↓wf_zero, ↓wf_succ, ↓wl_zero, ↓wl_succ, enL, List.zipIdx, zpL, FK.eqV, FK.inV, kyOf, flV, ofS_inj, L2.inV, L2.eqV, this, R1, R2, app_len, h3, h4, cutL, HT.sIx]
        omega
    · simp -dsimp [↓w_var, ↓w_cst, ↓w_bty, ↓w_glob, ↓w_bin, ↓w_neg, ↓w_cmp, ↓w_chain, ↓w_and, ↓w_or, ↓w_not, ↓w_ite, ↓w_lst, ↓w_tup, ↓w_ix, ↓w_sl, ↓w_lc, ↓w_call, ↓w_pcall, ↓w_new, ↓w_bi, ↓w_me, ↓w_dsp, ↓wt_nil, ↓wt_and, ↓wt_or, ↓wt_not, ↓wt_val, ↓wa_nil, ↓wa_cons, ↓wb_nil, ↓wb_cons, ↓wo_nil, ↓wo_cons, ↓ws_nil, ↓ws_seq, ↓ws_set, ↓ws_setT, ↓ws_setIx, ↓ws_aug, ↓ws_ifs, ↓ws_for, ↓ws_whl, ↓ws_ret, ↓ws_retN, ↓ws_expr, ↓ws_pass, ↓ws_brk, ↓ws_setO, ↓ws_retO, ↓ws_appO, ↓ws_extO, ↓ws_revO, ↓ws_putO, ↓ws_par, ↓ws_wipe, ↓ws_frz, ↓ok_some, ↓ok_none, ↓o2_some, ↓o2_none, ↓o3_some, ↓o3_none, ↓seqQ_nx, ↓seqQ_rt, ↓seqQ_bk, ↓seqQ_ct, ↓retQ_rt, ↓retQ_nx, ↓turnQ_nx, ↓turnQ_rt, ↓turnQ_bk, ↓turnQ_ct, ↓wipeQ, ↓w_runF, for_en, for_zp, lc_en, lc_zp, wipeE, flV', asg, asgs, parV, Src.get, srcOf, seqSrc, sizeLine, newV, binV, addV, ixV, dctOf, seqOf, lstOf, lstW, slV, biV, isV, tyOf, cmpV, augV, setIxV, meTy, m_join, m_app, m_ext, m_pop, m_rev, strsOf_str, strsOf_nil, strsOf_app, strsOf_mapf, strsOf_map, Option.bind_some, Option.map_some, atI, ixN, ↓ok_if, ↓ok_map, ↓ok_bind, ↓o2_if, ↓o3_if, e0]
/-- the law's rows -/
theorem rows_lines_ok (L0 : W.fns.lookup 14 = some F.law_term_words) (L : W.fns.lookup 15 = some F.law_rows_lines) : ∀ (k : Nat) (l : List Rw) (h : AH), Rw.oks l → Rw.nameds l → Rw.ns l ≤ 40000 → Rw.ds l < k → frm (W.C k 15) [.tup (l.map Rw.v)] h = some (.fl ((Rw.tls l).map .str), h) := by
  intro k
  induction k with
  | zero => intro l h _ _ _ hd; omega
  | succ k ih =>
    intro l h ok nd hn hd
    refine frm_pure (v := .fl ((Rw.tls l).map .str)) (by simp [noRefs, noRef, noRefs_map, Rw.v_nr]) ?_ (by simp [outV, noRef]) (by simp)
    apply O2.eq
    rw [Wd.C_run L]
    have lw := Rw.tls_len l ok
    have l1 := len_lens (Rw.tls l)
    have e0 : (l.flatMap fun t => t.tl.map Vl.str) = (Rw.tls l).map .str := by rw [Rw.tls_map, List.map_flatMap]
    simp -dsimp [F.law_rows_lines, F.law_rows_lines_body, ↓w_var, ↓w_cst, ↓w_bty, ↓w_glob, ↓w_bin, ↓w_neg, ↓w_cmp, ↓w_chain, ↓w_and, ↓w_or, ↓w_not, ↓w_ite, ↓w_lst, ↓w_tup, ↓w_ix, ↓w_sl, ↓w_lc, ↓w_call, ↓w_pcall, ↓w_new, ↓w_bi, ↓w_me, ↓w_dsp, ↓wt_nil, ↓wt_and, ↓wt_or, ↓wt_not, ↓wt_val, ↓wa_nil, ↓wa_cons, ↓wb_nil, ↓wb_cons, ↓wo_nil, ↓wo_cons, ↓ws_nil, ↓ws_seq, ↓ws_set, ↓ws_setT, ↓ws_setIx, ↓ws_aug, ↓ws_ifs, ↓ws_for, ↓ws_whl, ↓ws_ret, ↓ws_retN, ↓ws_expr, ↓ws_pass, ↓ws_brk, ↓ws_setO, ↓ws_retO, ↓ws_appO, ↓ws_extO, ↓ws_revO, ↓ws_putO, ↓ws_par, ↓ws_wipe, ↓ws_frz, ↓ok_some, ↓ok_none, ↓o2_some, ↓o2_none, ↓o3_some, ↓o3_none, ↓seqQ_nx, ↓seqQ_rt, ↓seqQ_bk, ↓seqQ_ct, ↓retQ_rt, ↓retQ_nx, ↓turnQ_nx, ↓turnQ_rt, ↓turnQ_bk, ↓turnQ_ct, ↓wipeQ, ↓w_runF, for_en, for_zp, lc_en, lc_zp, wipeE, flV', asg, asgs, parV, Src.get, srcOf, seqSrc, sizeLine, newV, binV, addV, ixV, dctOf, seqOf, lstOf, lstW, slV, biV, isV, tyOf, cmpV, augV, setIxV, meTy, m_join, m_app, m_ext, m_pop, m_rev, strsOf_str, strsOf_nil, strsOf_app, strsOf_mapf, strsOf_map, Option.bind_some, Option.map_some, atI, ixN, ↓ok_if, ↓ok_map, ↓ok_bind, ↓o2_if, ↓o3_if]
    refine O3.of (for_acc (ys := l) (emb := Rw.v) (E := fun acc => [some (.tup (l.map Rw.v)), some (.fl acc), none, none]) (g := fun t => t.tl.map .str) [] (fun r hr acc hl => ?_) rfl (by simp)) ?_
    · have n1 := Rw.mem_n hr
      have d1 := Rw.mem_d hr
      have ok1 := Rw.mem_ok ok hr
      have nd1 := Rw.mem_named nd hr
      have e1 : acc.length + r.tl.length ≤ (Rw.tls l).length := by rw [e0] at hl; simpa using hl
      have T : ∀ (t : Tm) h, t.ok → t.named → t.n ≤ 40000 → t.d ≤ k → frm (W.C k 14) [t.v] h = some (.fl (t.tw.map .str), h) := fun t h => term_words_ok L0 t k h
      have h3 := set_len
      have h4 := blank_len
      -- a row's first line
      have J : ∀ (t : Tm) (x : Str), Str.join (Str.ofString " ") (x :: t.tw) = x ++ Str.ofString " " ++ t.tt := fun t x => by
        have := join_app (Str.ofString " ") [x] t.tw (by simp) t.tw_ne
        rw [join_one, t.tw_tt] at this
        simpa using this
      have J2 : ∀ (t : Tm) (w : Str), Str.join (Str.ofString " ") (Str.ofString "set" :: w :: t.tw) = Str.ofString "set " ++ w ++ Str.ofString " " ++ t.tt := fun t w => by
        have e : Str.ofString "set" ++ Str.ofString " " = Str.ofString "set " := by decide +kernel
        rw [join_cons2, e, J, app_assoc, app_assoc, app_assoc]
      have S : ∀ t : Tm, (List.map (fun x => x.length) t.tw).sum + t.tw.length = lens t.tw := fun t => rfl
      cases r with
      | set x t =>
        cases x with
        | ow _ _ => exact nd1.1.elim
        | wd w =>
          simp only [Rw.ok, Nm.ok] at ok1
          simp only [Rw.named] at nd1
          simp only [Rw.n] at n1
          simp only [Rw.d] at d1
          have tl := t.tw_len ok1.2
          have s := S t
          have wl := ok1.1.1
          have := fun h => T t h ok1.2 nd1.2 (by omega) (by omega)
          simp only [Rw.tl, List.length_cons, List.length_nil] at e1
          simp -dsimp [F.law_rows_lines_b0, Rw.v, Nm.v, Rw.tl, ↓w_var, ↓w_cst, ↓w_bty, ↓w_glob, ↓w_bin, ↓w_neg, ↓w_cmp, ↓w_chain, ↓w_and, ↓w_or, ↓w_not, ↓w_ite, ↓w_lst, ↓w_tup, ↓w_ix, ↓w_sl, ↓w_lc, ↓w_call, ↓w_pcall, ↓w_new, ↓w_bi, ↓w_me, ↓w_dsp, ↓wt_nil, ↓wt_and, ↓wt_or, ↓wt_not, ↓wt_val, ↓wa_nil, ↓wa_cons, ↓wb_nil, ↓wb_cons, ↓wo_nil, ↓wo_cons, ↓ws_nil, ↓ws_seq, ↓ws_set, ↓ws_setT, ↓ws_setIx, ↓ws_aug, ↓ws_ifs, ↓ws_for, ↓ws_whl, ↓ws_ret, ↓ws_retN, ↓ws_expr, ↓ws_pass, ↓ws_brk, ↓ws_setO, ↓ws_retO, ↓ws_appO, ↓ws_extO, ↓ws_revO, ↓ws_putO, ↓ws_par, ↓ws_wipe, ↓ws_frz, ↓ok_some, ↓ok_none, ↓o2_some, ↓o2_none, ↓o3_some, ↓o3_none, ↓seqQ_nx, ↓seqQ_rt, ↓seqQ_bk, ↓seqQ_ct, ↓retQ_rt, ↓retQ_nx, ↓turnQ_nx, ↓turnQ_rt, ↓turnQ_bk, ↓turnQ_ct, ↓wipeQ, ↓w_runF, for_en, for_zp, lc_en, lc_zp, wipeE, flV', asg, asgs, parV, Src.get, srcOf, seqSrc, sizeLine, newV, binV, addV, ixV, dctOf, seqOf, lstOf, lstW, slV, biV, isV, tyOf, cmpV, augV, setIxV, meTy, m_join, m_app, m_ext, m_pop, m_rev, strsOf_str, strsOf_nil, strsOf_app, strsOf_mapf, strsOf_map, Option.bind_some, Option.map_some, atI, ixN, ↓ok_if, ↓ok_map, ↓ok_bind, ↓o2_if, ↓o3_if, FK.eqV, FK.inV, kyOf, flV, ofS_inj, L2.inV, L2.eqV, this, J2, h3, h4]
          omega
      | pl o t =>
        simp only [Rw.ok] at ok1
        simp only [Rw.named] at nd1
        simp only [Rw.n] at n1
        simp only [Rw.d] at d1
        have tl := t.tw_len ok1
        have s := S t
        have := fun h => T t h ok1 nd1 (by omega) (by omega)
        have ol := o.tx.2
        have o1 : o.s ≠ Str.ofString "set" ∧ Str.ofString "if" ≠ o.s ∧ Str.ofString "turns" ≠ o.s := by cases o <;> simp [Op3.s, ofS_inj]
        simp only [Rw.tl, List.length_cons, List.length_nil] at e1
        simp -dsimp [F.law_rows_lines_b0, Rw.v, Rw.tl, ↓w_var, ↓w_cst, ↓w_bty, ↓w_glob, ↓w_bin, ↓w_neg, ↓w_cmp, ↓w_chain, ↓w_and, ↓w_or, ↓w_not, ↓w_ite, ↓w_lst, ↓w_tup, ↓w_ix, ↓w_sl, ↓w_lc, ↓w_call, ↓w_pcall, ↓w_new, ↓w_bi, ↓w_me, ↓w_dsp, ↓wt_nil, ↓wt_and, ↓wt_or, ↓wt_not, ↓wt_val, ↓wa_nil, ↓wa_cons, ↓wb_nil, ↓wb_cons, ↓wo_nil, ↓wo_cons, ↓ws_nil, ↓ws_seq, ↓ws_set, ↓ws_setT, ↓ws_setIx, ↓ws_aug, ↓ws_ifs, ↓ws_for, ↓ws_whl, ↓ws_ret, ↓ws_retN, ↓ws_expr, ↓ws_pass, ↓ws_brk, ↓ws_setO, ↓ws_retO, ↓ws_appO, ↓ws_extO, ↓ws_revO, ↓ws_putO, ↓ws_par, ↓ws_wipe, ↓ws_frz, ↓ok_some, ↓ok_none, ↓o2_some, ↓o2_none, ↓o3_some, ↓o3_none, ↓seqQ_nx, ↓seqQ_rt, ↓seqQ_bk, ↓seqQ_ct, ↓retQ_rt, ↓retQ_nx, ↓turnQ_nx, ↓turnQ_rt, ↓turnQ_bk, ↓turnQ_ct, ↓wipeQ, ↓w_runF, for_en, for_zp, lc_en, lc_zp, wipeE, flV', asg, asgs, parV, Src.get, srcOf, seqSrc, sizeLine, newV, binV, addV, ixV, dctOf, seqOf, lstOf, lstW, slV, biV, isV, tyOf, cmpV, augV, setIxV, meTy, m_join, m_app, m_ext, m_pop, m_rev, strsOf_str, strsOf_nil, strsOf_app, strsOf_mapf, strsOf_map, Option.bind_some, Option.map_some, atI, ixN, ↓ok_if, ↓ok_map, ↓ok_bind, ↓o2_if, ↓o3_if, FK.eqV, FK.inV, kyOf, flV, o1, L2.inV, L2.eqV, this, J, h3, h4]
        omega
      | turns t r =>
        simp only [Rw.ok] at ok1
        simp only [Rw.named] at nd1
        simp only [Rw.n] at n1
        simp only [Rw.d] at d1
        have tl := t.tw_len ok1.1
        have s := S t
        have := fun h => T t h ok1.1 nd1.1 (by omega) (by omega)
        have R := fun h => ih r h ok1.2 nd1.2 (by omega) (by omega)
        simp only [Rw.tl, List.length_cons, List.length_nil, List.length_append] at e1
        simp -dsimp [F.law_rows_lines_b0, Rw.v, Rw.vs_map, Rw.tl, ↓w_var, ↓w_cst, ↓w_bty, ↓w_glob, ↓w_bin, ↓w_neg, ↓w_cmp, ↓w_chain, ↓w_and, ↓w_or, ↓w_not, ↓w_ite, ↓w_lst, ↓w_tup, ↓w_ix, ↓w_sl, ↓w_lc, ↓w_call, ↓w_pcall, ↓w_new, ↓w_bi, ↓w_me, ↓w_dsp, ↓wt_nil, ↓wt_and, ↓wt_or, ↓wt_not, ↓wt_val, ↓wa_nil, ↓wa_cons, ↓wb_nil, ↓wb_cons, ↓wo_nil, ↓wo_cons, ↓ws_nil, ↓ws_seq, ↓ws_set, ↓ws_setT, ↓ws_setIx, ↓ws_aug, ↓ws_ifs, ↓ws_for, ↓ws_whl, ↓ws_ret, ↓ws_retN, ↓ws_expr, ↓ws_pass, ↓ws_brk, ↓ws_setO, ↓ws_retO, ↓ws_appO, ↓ws_extO, ↓ws_revO, ↓ws_putO, ↓ws_par, ↓ws_wipe, ↓ws_frz, ↓ok_some, ↓ok_none, ↓o2_some, ↓o2_none, ↓o3_some, ↓o3_none, ↓seqQ_nx, ↓seqQ_rt, ↓seqQ_bk, ↓seqQ_ct, ↓retQ_rt, ↓retQ_nx, ↓turnQ_nx, ↓turnQ_rt, ↓turnQ_bk, ↓turnQ_ct, ↓wipeQ, ↓w_runF, for_en, for_zp, lc_en, lc_zp, wipeE, flV', asg, asgs, parV, Src.get, srcOf, seqSrc, sizeLine, newV, binV, addV, ixV, dctOf, seqOf, lstOf, lstW, slV, biV, isV, tyOf, cmpV, augV, setIxV, meTy, m_join, m_app, m_ext, m_pop, m_rev, strsOf_str, strsOf_nil, strsOf_app, strsOf_mapf, strsOf_map, Option.bind_some, Option.map_some, atI, ixN, ↓ok_if, ↓ok_map, ↓ok_bind, ↓o2_if, ↓o3_if, FK.eqV, FK.inV, kyOf, flV, ofS_inj, L2.inV, L2.eqV, this, R, J, h3, h4]
        omega
      | ife t a b =>
        simp only [Rw.ok] at ok1
        simp only [Rw.named] at nd1
        simp only [Rw.n] at n1
        simp only [Rw.d] at d1
        have tl := t.tw_len ok1.1
        have s := S t
        have := fun h => T t h ok1.1 nd1.1 (by omega) (by omega)
        have R1 := fun h => ih a h ok1.2.1 nd1.2.1 (by omega) (by omega)
        have R2 := fun h => ih b h ok1.2.2 nd1.2.2 (by omega) (by omega)
        simp only [Rw.tl, List.length_cons, List.length_nil, List.length_append] at e1
        simp -dsimp [F.law_rows_lines_b0, Rw.v, Rw.vs_map, Rw.tl, ↓w_var, ↓w_cst, ↓w_bty, ↓w_glob, ↓w_bin, ↓w_neg, ↓w_cmp, ↓w_chain, ↓w_and, ↓w_or, ↓w_not, ↓w_ite, ↓w_lst, ↓w_tup, ↓w_ix, ↓w_sl, ↓w_lc, ↓w_call, ↓w_pcall, ↓w_new, ↓w_bi, ↓w_me, ↓w_dsp, ↓wt_nil, ↓wt_and, ↓wt_or, ↓wt_not, ↓wt_val, ↓wa_nil, ↓wa_cons, ↓wb_nil, ↓wb_cons, ↓wo_nil, ↓wo_cons, ↓ws_nil, ↓ws_seq, ↓ws_set, ↓ws_setT, ↓ws_setIx, ↓ws_aug, ↓ws_ifs, ↓ws_for, ↓ws_whl, ↓ws_ret, ↓ws_retN, ↓ws_expr, ↓ws_pass, ↓ws_brk, ↓ws_setO, ↓ws_retO, ↓ws_appO, ↓ws_extO, ↓ws_revO, ↓ws_putO, ↓ws_par, ↓ws_wipe, ↓ws_frz, ↓ok_some, ↓ok_none, ↓o2_some, ↓o2_none, ↓o3_some, ↓o3_none, ↓seqQ_nx, ↓seqQ_rt, ↓seqQ_bk, ↓seqQ_ct, ↓retQ_rt, ↓retQ_nx, ↓turnQ_nx, ↓turnQ_rt, ↓turnQ_bk, ↓turnQ_ct, ↓wipeQ, ↓w_runF, for_en, for_zp, lc_en, lc_zp, wipeE, flV', asg, asgs, parV, Src.get, srcOf, seqSrc, sizeLine, newV, binV, addV, ixV, dctOf, seqOf, lstOf, lstW, slV, biV, isV, tyOf, cmpV, augV, setIxV, meTy, m_join, m_app, m_ext, m_pop, m_rev, strsOf_str, strsOf_nil, strsOf_app, strsOf_mapf, strsOf_map, Option.bind_some, Option.map_some, atI, ixN, ↓ok_if, ↓ok_map, ↓ok_bind, ↓o2_if, ↓o3_if, FK.eqV, FK.inV, kyOf, flV, ofS_inj, L2.inV, L2.eqV, this, R1, R2, J, h3, h4]
        omega
    · simp -dsimp [↓w_var, ↓w_cst, ↓w_bty, ↓w_glob, ↓w_bin, ↓w_neg, ↓w_cmp, ↓w_chain, ↓w_and, ↓w_or, ↓w_not, ↓w_ite, ↓w_lst, ↓w_tup, ↓w_ix, ↓w_sl, ↓w_lc, ↓w_call, ↓w_pcall, ↓w_new, ↓w_bi, ↓w_me, ↓w_dsp, ↓wt_nil, ↓wt_and, ↓wt_or, ↓wt_not, ↓wt_val, ↓wa_nil, ↓wa_cons, ↓wb_nil, ↓wb_cons, ↓wo_nil, ↓wo_cons, ↓ws_nil, ↓ws_seq, ↓ws_set, ↓ws_setT, ↓ws_setIx, ↓ws_aug, ↓ws_ifs, ↓ws_for, ↓ws_whl, ↓ws_ret, ↓ws_retN, ↓ws_expr, ↓ws_pass, ↓ws_brk, ↓ws_setO, ↓ws_retO, ↓ws_appO, ↓ws_extO, ↓ws_revO, ↓ws_putO, ↓ws_par, ↓ws_wipe, ↓ws_frz, ↓ok_some, ↓ok_none, ↓o2_some, ↓o2_none, ↓o3_some, ↓o3_none, ↓seqQ_nx, ↓seqQ_rt, ↓seqQ_bk, ↓seqQ_ct, ↓retQ_rt, ↓retQ_nx, ↓turnQ_nx, ↓turnQ_rt, ↓turnQ_bk, ↓turnQ_ct, ↓wipeQ, ↓w_runF, for_en, for_zp, lc_en, lc_zp, wipeE, flV', asg, asgs, parV, Src.get, srcOf, seqSrc, sizeLine, newV, binV, addV, ixV, dctOf, seqOf, lstOf, lstW, slV, biV, isV, tyOf, cmpV, augV, setIxV, meTy, m_join, m_app, m_ext, m_pop, m_rev, strsOf_str, strsOf_nil, strsOf_app, strsOf_mapf, strsOf_map, Option.bind_some, Option.map_some, atI, ixN, ↓ok_if, ↓ok_map, ↓ok_bind, ↓o2_if, ↓o3_if, e0]
end
end FK

/-! ### programs' texts -/
namespace FK
open PySem PySem.Spec PyProof.Rows L2
/-- function_text: 0 function, 1 found!, 2 one, 3 name, 4 params, 5 names, 6 inner, 7 rows -/
def F.function_text_b0 : Sx := (.seq (.wipe [2] (.extO 1 (.pcall 2 (.cons (.var 2) .nil)))) .nil)
def F.function_text_body : Sx := (.seq (.setT [3, 4, 5, 6, 7] (.var 0)) (.seq (.wipe [3, 4, 5] (.setO 1 (.lst (.cons (.me .join (.cst (.str " ")) (.cons (.bin .Add (.bin .Add (.bin .Add (.lst (.cons (.cst (.str "function")) (.cons (.var 3) .nil))) (.bi .list (.cons (.var 4) .nil))) (.lst (.cons (.cst (.str "/")) .nil))) (.bi .list (.cons (.var 5) .nil))) .nil)) .nil)))) (.seq (.wipe [2, 3, 4, 5, 6] (.for_ .seq (.cons (.var 6) .nil) (.name 2) F.function_text_b0)) (.seq (.frz 1) (.seq (.ret (.bin .Add (.bin .Add (.var 1) (.pcall 1 (.cons (.var 7) .nil))) (.lst (.cons (.cst (.str "end")) .nil)))) .nil)))))
def F.function_text : Fn := ⟨1, 8, F.function_text_body⟩
/-- text_of: 0 program -/
def F.text_of_body : Sx := (.seq (.ret (.me .join (.cst (.str "\n")) (.cons (.pcall 2 (.cons (.var 0) .nil)) .nil))) .nil)
def F.text_of : Fn := ⟨1, 1, F.text_of_body⟩
/-- _law_lines: 0 law_function, 1 law_found, 2 law_one, 3 law_name, 4 law_params, 5 law_names, 6 law_inner, 7 law_rows -/
def F.law_lines_b0 : Sx := (.seq (.wipe [2] (.set 1 (.bin .Add (.var 1) (.pcall 16 (.cons (.var 2) .nil))))) .nil)
def F.law_lines_body : Sx := (.seq (.setT [3, 4, 5, 6, 7] (.var 0)) (.seq (.wipe [3, 4, 5] (.set 1 (.lst (.cons (.me .join (.cst (.str " ")) (.cons (.bin .Add (.bin .Add (.bin .Add (.lst (.cons (.cst (.str "function")) (.cons (.var 3) .nil))) (.bi .list (.cons (.var 4) .nil))) (.lst (.cons (.cst (.str "/")) .nil))) (.bi .list (.cons (.var 5) .nil))) .nil)) .nil)))) (.seq (.wipe [2, 3, 4, 5, 6] (.for_ .seq (.cons (.var 6) .nil) (.name 2) F.law_lines_b0)) (.seq (.ret (.bin .Add (.bin .Add (.var 1) (.pcall 15 (.cons (.var 7) .nil))) (.lst (.cons (.cst (.str "end")) .nil)))) .nil))))
def F.law_lines : Fn := ⟨1, 8, F.law_lines_body⟩
def headL (n : Str) (ps ns : List Str) : List Str := Str.ofString "function" :: n :: (ps ++ Str.ofString "/" :: ns)
mutual
def Pg.tl : Pg → List Str
  | .fn n ps ns inner rows => [Str.join (Str.ofString " ") (headL n ps ns)] ++ Pg.tls inner ++ Rw.tls rows ++ [Str.ofString "end"]
def Pg.tls : List Pg → List Str
  | [] => []
  | r :: l => r.tl ++ Pg.tls l
end
mutual
def Pg.named : Pg → Prop
  | .fn _ _ _ inner rows => Pg.nameds inner ∧ Rw.nameds rows
def Pg.nameds : List Pg → Prop
  | [] => True
  | r :: l => r.named ∧ Pg.nameds l
end
theorem Pg.mem_named : ∀ {l : List Pg} {t : Pg}, Pg.nameds l → t ∈ l → t.named
  | [], _, _, h => by cases h
  | s :: l, t, k, h => by
    simp only [Pg.nameds] at k
    rcases List.mem_cons.mp h with rfl | h
    · exact k.1
    · exact Pg.mem_named k.2 h
theorem Pg.tls_map : ∀ l : List Pg, Pg.tls l = l.flatMap Pg.tl
  | [] => by simp [Pg.tls]
  | t :: l => by simp [Pg.tls, Pg.tls_map l]
theorem wds_len : ∀ {l : List Str}, (∀ w ∈ l, wdOk w) → lens l ≤ 9 * l.length
  | [], _ => by simp [lens_nil]
  | w :: l, h => by
    have h1 := (h w (by simp)).1
    have h2 := wds_len fun x hx => h x (List.mem_cons_of_mem _ hx)
    simp only [lens_cons, List.length_cons]; omega
theorem fn_len : (Str.ofString "function").length = 8 ∧ (Str.ofString "/").length = 1 := by
  refine ⟨?_, ?_⟩ <;> (rw [len_lit]; rfl)
theorem headL_len {n : Str} {ps ns : List Str} (h1 : wdOk n) (h2 : ∀ w ∈ ps, wdOk w) (h3 : ∀ w ∈ ns, wdOk w) : lens (headL n ps ns) ≤ 20 + 9 * ps.length + 9 * ns.length := by
  have a := wds_len h2
  have b := wds_len h3
  have c := h1.1
  have d := fn_len
  simp only [headL, lens_app, lens_cons, lens_nil]; omega
mutual
theorem Pg.tl_len : ∀ r : Pg, r.ok → lens r.tl ≤ 150 * r.n
  | .fn n ps ns inner rows, h => by
    simp only [Pg.ok] at h
    obtain ⟨h1, h2, h3, h4, h5⟩ := h
    have a := headL_len h1 h2 h3
    have b := join_lens (headL n ps ns)
    have c := Pg.tls_len inner h4
    have d := Rw.tls_len rows h5
    have e := set_len
    simp only [Pg.tl, lens_app, lens_cons, lens_nil, Pg.n]; omega
theorem Pg.tls_len : ∀ l : List Pg, Pg.oks l → lens (Pg.tls l) ≤ 150 * Pg.ns l
  | [], _ => by simp [Pg.tls, lens_nil]
  | t :: l, h => by
    simp only [Pg.oks] at h
    have h1 := Pg.tl_len t h.1
    have h2 := Pg.tls_len l h.2
    simp only [Pg.tls, lens_app, Pg.ns]; omega
end
section
variable {W : Wd} {k : Nat} {h : AH}
structure HasText (W : Wd) : Prop where
  term : W.fns.lookup 0 = some F.term_text
  rows : W.fns.lookup 1 = some F.rows_text
  fn : W.fns.lookup 2 = some F.function_text
  text : W.fns.lookup 3 = some F.text_of
structure HasLines (W : Wd) : Prop where
  term : W.fns.lookup 14 = some F.law_term_words
  rows : W.fns.lookup 15 = some F.law_rows_lines
  fn : W.fns.lookup 16 = some F.law_lines
/-- the program's lines of a function -/
theorem function_text_ok (L : HasText W) : ∀ (k : Nat) (p : Pg) (h : AH), p.ok → p.named → p.n ≤ 40000 → p.d < k → frm (W.C k 2) [p.v] h = some (.fl (p.tl.map .str), h) := by
  intro k
  induction k with
  | zero => intro l h _ _ _ hd; omega
  | succ k ih =>
    intro p h ok nd hn hd
    refine frm_pure (v := .fl (p.tl.map .str)) (by simp [noRefs, p.v_nr]) ?_ (by simp [outV, noRef]) (by simp)
    apply O2.eq
    rw [Wd.C_run L.fn]
    have lw := p.tl_len ok
    obtain ⟨n, ps, ns, inner, rows⟩ := p
    simp only [Pg.ok] at ok
    simp only [Pg.named] at nd
    simp only [Pg.n] at hn
    simp only [Pg.d] at hd
    obtain ⟨k1, k2, k3, k4, k5⟩ := ok
    have R := fun h => rows_text_ok L.term L.rows k rows h k5 nd.2 (by omega) (by omega)
    have a := headL_len k1 k2 k3
    have a1 : lens (headL n ps ns) = (Str.ofString "function").length + 1 + (n.length + 1) + ((ps.map (·.length)).sum + ps.length) + ((Str.ofString "/").length + 1) + ((ns.map (·.length)).sum + ns.length) := by
      simp only [headL, lens_app, lens_cons]; simp only [lens]; omega
    have c := Pg.tls_len inner k4
    have c1 := len_lens (Pg.tls inner)
    have d := Rw.tls_len rows k5
    have d1 := len_lens (Rw.tls rows)
    have e0 : (inner.flatMap fun t => t.tl.map Vl.str) = (Pg.tls inner).map .str := by rw [Pg.tls_map, List.map_flatMap]
    have f := fn_len
    simp -dsimp [F.function_text, F.function_text_body, Pg.v, Pg.vs_map, Rw.vs_map, ↓w_var, ↓w_cst, ↓w_bty, ↓w_glob, ↓w_bin, ↓w_neg, ↓w_cmp, ↓w_chain, ↓w_and, ↓w_or, ↓w_not, ↓w_ite, ↓w_lst, ↓w_tup, ↓w_ix, ↓w_sl, ↓w_lc, ↓w_call, ↓w_pcall, ↓w_new, ↓w_bi, ↓w_me, ↓w_dsp, ↓wt_nil, ↓wt_and, ↓wt_or, ↓wt_not, ↓wt_val, ↓wa_nil, ↓wa_cons, ↓wb_nil, ↓wb_cons, ↓wo_nil, ↓wo_cons, ↓ws_nil, ↓ws_seq, ↓ws_set, ↓ws_setT, ↓ws_setIx, ↓ws_aug, ↓ws_ifs, ↓ws_for, ↓ws_whl, ↓ws_ret, ↓ws_retN, ↓ws_expr, ↓ws_pass, ↓ws_brk, ↓ws_setO, ↓ws_retO, ↓ws_appO, ↓ws_extO, ↓ws_revO, ↓ws_putO, ↓ws_par, ↓ws_wipe, ↓ws_frz, ↓ok_some, ↓ok_none, ↓o2_some, ↓o2_none, ↓o3_some, ↓o3_none, ↓seqQ_nx, ↓seqQ_rt, ↓seqQ_bk, ↓seqQ_ct, ↓retQ_rt, ↓retQ_nx, ↓turnQ_nx, ↓turnQ_rt, ↓turnQ_bk, ↓turnQ_ct, ↓wipeQ, ↓w_runF, for_en, for_zp, lc_en, lc_zp, wipeE, flV', asg, asgs, parV, Src.get, srcOf, seqSrc, sizeLine, newV, binV, addV, ixV, dctOf, seqOf, lstOf, lstW, slV, biV, isV, tyOf, cmpV, augV, setIxV, meTy, m_join, m_app, m_ext, m_pop, m_rev, strsOf_str, strsOf_nil, strsOf_app, strsOf_mapf, strsOf_map, Option.bind_some, Option.map_some, atI, ixN, ↓ok_if, ↓ok_map, ↓ok_bind, ↓o2_if, ↓o3_if, blank_len]
    refine ⟨by omega, by omega, by omega, by omega, ?_⟩
    refine O3.of (for_acc (ys := inner) (emb := Pg.v) (E := fun acc => [some (.tup [.str n, .tup (ps.map .str), .tup (ns.map .str), .tup (inner.map Pg.v), .tup (rows.map Rw.v)]), some (.fl acc), none, none, none, none, some (.tup (inner.map Pg.v)), some (.tup (rows.map Rw.v))]) (g := fun t => t.tl.map .str) [.str (Str.join (Str.ofString " ") (headL n ps ns))] (fun q hq acc hl => ?_) rfl ?_) ?_
    · have n1 := Pg.mem_n hq
      have d2 := Pg.mem_d hq
      have := fun h => ih q h (Pg.mem_ok k4 hq) (Pg.mem_named nd.1 hq) (by omega) (by omega)
      rw [e0] at hl
      simp only [List.length_map, List.length_cons, List.length_nil] at hl
      simp -dsimp [F.function_text_b0, ↓w_var, ↓w_cst, ↓w_bty, ↓w_glob, ↓w_bin, ↓w_neg, ↓w_cmp, ↓w_chain, ↓w_and, ↓w_or, ↓w_not, ↓w_ite, ↓w_lst, ↓w_tup, ↓w_ix, ↓w_sl, ↓w_lc, ↓w_call, ↓w_pcall, ↓w_new, ↓w_bi, ↓w_me, ↓w_dsp, ↓wt_nil, ↓wt_and, ↓wt_or, ↓wt_not, ↓wt_val, ↓wa_nil, ↓wa_cons, ↓wb_nil, ↓wb_cons, ↓wo_nil, ↓wo_cons, ↓ws_nil, ↓ws_seq, ↓ws_set, ↓ws_setT, ↓ws_setIx, ↓ws_aug, ↓ws_ifs, ↓ws_for, ↓ws_whl, ↓ws_ret, ↓ws_retN, ↓ws_expr, ↓ws_pass, ↓ws_brk, ↓ws_setO, ↓ws_retO, ↓ws_appO, ↓ws_extO, ↓ws_revO, ↓ws_putO, ↓ws_par, ↓ws_wipe, ↓ws_frz, ↓ok_some, ↓ok_none, ↓o2_some, ↓o2_none, ↓o3_some, ↓o3_none, ↓seqQ_nx, ↓seqQ_rt, ↓seqQ_bk, ↓seqQ_ct, ↓retQ_rt, ↓retQ_nx, ↓turnQ_nx, ↓turnQ_rt, ↓turnQ_bk, ↓turnQ_ct, ↓wipeQ, ↓w_runF, for_en, for_zp, lc_en, lc_zp, wipeE, flV', asg, asgs, parV, Src.get, srcOf, seqSrc, sizeLine, newV, binV, addV, ixV, dctOf, seqOf, lstOf, lstW, slV, biV, isV, tyOf, cmpV, augV, setIxV, meTy, m_join, m_app, m_ext, m_pop, m_rev, strsOf_str, strsOf_nil, strsOf_app, strsOf_mapf, strsOf_map, Option.bind_some, Option.map_some, atI, ixN, ↓ok_if, ↓ok_map, ↓ok_bind, ↓o2_if, ↓o3_if, this]
      omega
    · rfl
    · simp -dsimp [↓w_var, ↓w_cst, ↓w_bty, ↓w_glob, ↓w_bin, ↓w_neg, ↓w_cmp, ↓w_chain, ↓w_and, ↓w_or, ↓w_not, ↓w_ite, ↓w_lst, ↓w_tup, ↓w_ix, ↓w_sl, ↓w_lc, ↓w_call, ↓w_pcall, ↓w_new, ↓w_bi, ↓w_me, ↓w_dsp, ↓wt_nil, ↓wt_and, ↓wt_or, ↓wt_not, ↓wt_val, ↓wa_nil, ↓wa_cons, ↓wb_nil, ↓wb_cons, ↓wo_nil, ↓wo_cons, ↓ws_nil, ↓ws_seq, ↓ws_set, ↓ws_setT, ↓ws_setIx, ↓ws_aug, ↓ws_ifs, ↓ws_for, ↓ws_whl, ↓ws_ret, ↓ws_retN, ↓ws_expr, ↓ws_pass, ↓ws_brk, ↓ws_setO, ↓ws_retO, ↓ws_appO, ↓ws_extO, ↓ws_revO, ↓ws_putO, ↓ws_par, ↓ws_wipe, ↓ws_frz, ↓ok_some, ↓ok_none, ↓o2_some, ↓o2_none, ↓o3_some, ↓o3_none, ↓seqQ_nx, ↓seqQ_rt, ↓seqQ_bk, ↓seqQ_ct, ↓retQ_rt, ↓retQ_nx, ↓turnQ_nx, ↓turnQ_rt, ↓turnQ_bk, ↓turnQ_ct, ↓wipeQ, ↓w_runF, for_en, for_zp, lc_en, lc_zp, wipeE, flV', asg, asgs, parV, Src.get, srcOf, seqSrc, sizeLine, newV, binV, addV, ixV, dctOf, seqOf, lstOf, lstW, slV, biV, isV, tyOf, cmpV, augV, setIxV, meTy, m_join, m_app, m_ext, m_pop, m_rev, strsOf_str, strsOf_nil, strsOf_app, strsOf_mapf, strsOf_map, Option.bind_some, Option.map_some, atI, ixN, ↓ok_if, ↓ok_map, ↓ok_bind, ↓o2_if, ↓o3_if, e0, R]
      refine ⟨by omega, by omega, ?_⟩
      simp [Pg.tl]
/-- the law's lines of a function -/
theorem lines_ok (L : HasLines W) : ∀ (k : Nat) (p : Pg) (h : AH), p.ok → p.named → p.n ≤ 40000 → p.d < k → frm (W.C k 16) [p.v] h = some (.fl (p.tl.map .str), h) := by
  intro k
  induction k with
  | zero => intro l h _ _ _ hd; omega
  | succ k ih =>
    intro p h ok nd hn hd
    refine frm_pure (v := .fl (p.tl.map .str)) (by simp [noRefs, p.v_nr]) ?_ (by simp [outV, noRef]) (by simp)
    apply O2.eq
    rw [Wd.C_run L.fn]
    have lw := p.tl_len ok
    obtain ⟨n, ps, ns, inner, rows⟩ := p
    simp only [Pg.ok] at ok
    simp only [Pg.named] at nd
    simp only [Pg.n] at hn
    simp only [Pg.d] at hd
    obtain ⟨k1, k2, k3, k4, k5⟩ := ok
    have R := fun h => rows_lines_ok L.term L.rows k rows h k5 nd.2 (by omega) (by omega)
    have a := headL_len k1 k2 k3
    have a1 : lens (headL n ps ns) = (Str.ofString "function").length + 1 + (n.length + 1) + ((ps.map (·.length)).sum + ps.length) + ((Str.ofString "/").length + 1) + ((ns.map (·.length)).sum + ns.length) := by
      simp only [headL, lens_app, lens_cons]; simp only [lens]; omega
    have c := Pg.tls_len inner k4
    have c1 := len_lens (Pg.tls inner)
    have d := Rw.tls_len rows k5
    have d1 := len_lens (Rw.tls rows)
    have e0 : (inner.flatMap fun t => t.tl.map Vl.str) = (Pg.tls inner).map .str := by rw [Pg.tls_map, List.map_flatMap]
    have f := fn_len
    simp -dsimp [F.law_lines, F.law_lines_body, Pg.v, Pg.vs_map, Rw.vs_map, ↓w_var, ↓w_cst, ↓w_bty, ↓w_glob, ↓w_bin, ↓w_neg, ↓w_cmp, ↓w_chain, ↓w_and, ↓w_or, ↓w_not, ↓w_ite, ↓w_lst, ↓w_tup, ↓w_ix, ↓w_sl, ↓w_lc, ↓w_call, ↓w_pcall, ↓w_new, ↓w_bi, ↓w_me, ↓w_dsp, ↓wt_nil, ↓wt_and, ↓wt_or, ↓wt_not, ↓wt_val, ↓wa_nil, ↓wa_cons, ↓wb_nil, ↓wb_cons, ↓wo_nil, ↓wo_cons, ↓ws_nil, ↓ws_seq, ↓ws_set, ↓ws_setT, ↓ws_setIx, ↓ws_aug, ↓ws_ifs, ↓ws_for, ↓ws_whl, ↓ws_ret, ↓ws_retN, ↓ws_expr, ↓ws_pass, ↓ws_brk, ↓ws_setO, ↓ws_retO, ↓ws_appO, ↓ws_extO, ↓ws_revO, ↓ws_putO, ↓ws_par, ↓ws_wipe, ↓ws_frz, ↓ok_some, ↓ok_none, ↓o2_some, ↓o2_none, ↓o3_some, ↓o3_none, ↓seqQ_nx, ↓seqQ_rt, ↓seqQ_bk, ↓seqQ_ct, ↓retQ_rt, ↓retQ_nx, ↓turnQ_nx, ↓turnQ_rt, ↓turnQ_bk, ↓turnQ_ct, ↓wipeQ, ↓w_runF, for_en, for_zp, lc_en, lc_zp, wipeE, flV', asg, asgs, parV, Src.get, srcOf, seqSrc, sizeLine, newV, binV, addV, ixV, dctOf, seqOf, lstOf, lstW, slV, biV, isV, tyOf, cmpV, augV, setIxV, meTy, m_join, m_app, m_ext, m_pop, m_rev, strsOf_str, strsOf_nil, strsOf_app, strsOf_mapf, strsOf_map, Option.bind_some, Option.map_some, atI, ixN, ↓ok_if, ↓ok_map, ↓ok_bind, ↓o2_if, ↓o3_if, blank_len]
    refine ⟨by omega, by omega, by omega, by omega, ?_⟩
    refine O3.of (for_acc (ys := inner) (emb := Pg.v) (E := fun acc => [some (.tup [.str n, .tup (ps.map .str), .tup (ns.map .str), .tup (inner.map Pg.v), .tup (rows.map Rw.v)]), some (.fz acc), none, none, none, none, some (.tup (inner.map Pg.v)), some (.tup (rows.map Rw.v))]) (g := fun t => t.tl.map .str) [.str (Str.join (Str.ofString " ") (headL n ps ns))] (fun q hq acc hl => ?_) rfl rfl) ?_
    · have n1 := Pg.mem_n hq
      have d2 := Pg.mem_d hq
      have := fun h => ih q h (Pg.mem_ok k4 hq) (Pg.mem_named nd.1 hq) (by omega) (by omega)
      rw [e0] at hl
      simp only [List.length_map, List.length_cons, List.length_nil] at hl
      simp -dsimp [F.law_lines_b0, ↓w_var, ↓w_cst, ↓w_bty, ↓w_glob, ↓w_bin, ↓w_neg, ↓w_cmp, ↓w_chain, ↓w_and, ↓w_or, ↓w_not, ↓w_ite, ↓w_lst, ↓w_tup, ↓w_ix, ↓w_sl, ↓w_lc, ↓w_call, ↓w_pcall, ↓w_new, ↓w_bi, ↓w_me, ↓w_dsp, ↓wt_nil, ↓wt_and, ↓wt_or, ↓wt_not, ↓wt_val, ↓wa_nil, ↓wa_cons, ↓wb_nil, ↓wb_cons, ↓wo_nil, ↓wo_cons, ↓ws_nil, ↓ws_seq, ↓ws_set, ↓ws_setT, ↓ws_setIx, ↓ws_aug, ↓ws_ifs, ↓ws_for, ↓ws_whl, ↓ws_ret, ↓ws_retN, ↓ws_expr, ↓ws_pass, ↓ws_brk, ↓ws_setO, ↓ws_retO, ↓ws_appO, ↓ws_extO, ↓ws_revO, ↓ws_putO, ↓ws_par, ↓ws_wipe, ↓ws_frz, ↓ok_some, ↓ok_none, ↓o2_some, ↓o2_none, ↓o3_some, ↓o3_none, ↓seqQ_nx, ↓seqQ_rt, ↓seqQ_bk, ↓seqQ_ct, ↓retQ_rt, ↓retQ_nx, ↓turnQ_nx, ↓turnQ_rt, ↓turnQ_bk, ↓turnQ_ct, ↓wipeQ, ↓w_runF, for_en, for_zp, lc_en, lc_zp, wipeE, flV', asg, asgs, parV, Src.get, srcOf, seqSrc, sizeLine, newV, binV, addV, ixV, dctOf, seqOf, lstOf, lstW, slV, biV, isV, tyOf, cmpV, augV, setIxV, meTy, m_join, m_app, m_ext, m_pop, m_rev, strsOf_str, strsOf_nil, strsOf_app, strsOf_mapf, strsOf_map, Option.bind_some, Option.map_some, atI, ixN, ↓ok_if, ↓ok_map, ↓ok_bind, ↓o2_if, ↓o3_if, this]
      omega
    · simp -dsimp [↓w_var, ↓w_cst, ↓w_bty, ↓w_glob, ↓w_bin, ↓w_neg, ↓w_cmp, ↓w_chain, ↓w_and, ↓w_or, ↓w_not, ↓w_ite, ↓w_lst, ↓w_tup, ↓w_ix, ↓w_sl, ↓w_lc, ↓w_call, ↓w_pcall, ↓w_new, ↓w_bi, ↓w_me, ↓w_dsp, ↓wt_nil, ↓wt_and, ↓wt_or, ↓wt_not, ↓wt_val, ↓wa_nil, ↓wa_cons, ↓wb_nil, ↓wb_cons, ↓wo_nil, ↓wo_cons, ↓ws_nil, ↓ws_seq, ↓ws_set, ↓ws_setT, ↓ws_setIx, ↓ws_aug, ↓ws_ifs, ↓ws_for, ↓ws_whl, ↓ws_ret, ↓ws_retN, ↓ws_expr, ↓ws_pass, ↓ws_brk, ↓ws_setO, ↓ws_retO, ↓ws_appO, ↓ws_extO, ↓ws_revO, ↓ws_putO, ↓ws_par, ↓ws_wipe, ↓ws_frz, ↓ok_some, ↓ok_none, ↓o2_some, ↓o2_none, ↓o3_some, ↓o3_none, ↓seqQ_nx, ↓seqQ_rt, ↓seqQ_bk, ↓seqQ_ct, ↓retQ_rt, ↓retQ_nx, ↓turnQ_nx, ↓turnQ_rt, ↓turnQ_bk, ↓turnQ_ct, ↓wipeQ, ↓w_runF, for_en, for_zp, lc_en, lc_zp, wipeE, flV', asg, asgs, parV, Src.get, srcOf, seqSrc, sizeLine, newV, binV, addV, ixV, dctOf, seqOf, lstOf, lstW, slV, biV, isV, tyOf, cmpV, augV, setIxV, meTy, m_join, m_app, m_ext, m_pop, m_rev, strsOf_str, strsOf_nil, strsOf_app, strsOf_mapf, strsOf_map, Option.bind_some, Option.map_some, atI, ixN, ↓ok_if, ↓ok_map, ↓ok_bind, ↓o2_if, ↓o3_if, e0, R]
      refine ⟨by omega, by omega, ?_⟩
      simp [Pg.tl]
def Pg.text (p : Pg) : Str := Str.join (Str.ofString "\n") p.tl
theorem Pg.sum_len (p : Pg) (ok : p.ok) : (p.tl.map (·.length)).sum + p.tl.length * (Str.ofString "\n").length ≤ 150 * p.n := by
  have := p.tl_len ok
  have e : (Str.ofString "\n").length = 1 := by rw [len_lit]; rfl
  rw [e]
  simp only [lens] at this; omega
theorem text_of_ok (L : HasText W) (p : Pg) (ok : p.ok) (nd : p.named) (hn : p.n ≤ 40000) (hk : p.d + 1 < k) : frm (W.C k 3) [p.v] h = some (.str p.text, h) := by
  obtain ⟨k, rfl⟩ : ∃ j, k = j + 1 := ⟨k - 1, by omega⟩
  refine frm_pure (v := .str p.text) (by simp [noRefs, p.v_nr]) ?_ rfl (by simp)
  apply O2.eq
  rw [Wd.C_run L.text]
  have e := fun h => function_text_ok L k p h ok nd hn (by omega)
  have s := p.sum_len ok
  simp -dsimp [F.text_of, F.text_of_body, ↓w_var, ↓w_cst, ↓w_bty, ↓w_glob, ↓w_bin, ↓w_neg, ↓w_cmp, ↓w_chain, ↓w_and, ↓w_or, ↓w_not, ↓w_ite, ↓w_lst, ↓w_tup, ↓w_ix, ↓w_sl, ↓w_lc, ↓w_call, ↓w_pcall, ↓w_new, ↓w_bi, ↓w_me, ↓w_dsp, ↓wt_nil, ↓wt_and, ↓wt_or, ↓wt_not, ↓wt_val, ↓wa_nil, ↓wa_cons, ↓wb_nil, ↓wb_cons, ↓wo_nil, ↓wo_cons, ↓ws_nil, ↓ws_seq, ↓ws_set, ↓ws_setT, ↓ws_setIx, ↓ws_aug, ↓ws_ifs, ↓ws_for, ↓ws_whl, ↓ws_ret, ↓ws_retN, ↓ws_expr, ↓ws_pass, ↓ws_brk, ↓ws_setO, ↓ws_retO, ↓ws_appO, ↓ws_extO, ↓ws_revO, ↓ws_putO, ↓ws_par, ↓ws_wipe, ↓ws_frz, ↓ok_some, ↓ok_none, ↓o2_some, ↓o2_none, ↓o3_some, ↓o3_none, ↓seqQ_nx, ↓seqQ_rt, ↓seqQ_bk, ↓seqQ_ct, ↓retQ_rt, ↓retQ_nx, ↓turnQ_nx, ↓turnQ_rt, ↓turnQ_bk, ↓turnQ_ct, ↓wipeQ, ↓w_runF, for_en, for_zp, lc_en, lc_zp, wipeE, flV', asg, asgs, parV, Src.get, srcOf, seqSrc, sizeLine, newV, binV, addV, ixV, dctOf, seqOf, lstOf, lstW, slV, biV, isV, tyOf, cmpV, augV, setIxV, meTy, m_join, m_app, m_ext, m_pop, m_rev, strsOf_str, strsOf_nil, strsOf_app, strsOf_mapf, strsOf_map, Option.bind_some, Option.map_some, atI, ixN, ↓ok_if, ↓ok_map, ↓ok_bind, ↓o2_if, ↓o3_if, e]
  exact ⟨by omega, rfl⟩
end
end FK

/-! ### drawn words and numbers -/
namespace FK
open PySem PySem.Spec PyProof.Rows L2
/-- _law_any_word: 0 law_left_here@, 1 law_letters, 2 law_kept, 3 law_size, 4 law_signs, 5 law_k -/
def F.law_any_word_e0 : Ex := (.ix (.bin .Add (.var 1) (.cst (.str "0123456789"))) (.pcall 6 (.cons (.var 0) (.cons (.cst (.int 36)) .nil))))
def F.law_any_word_body : Sx := (.seq (.set 1 (.cst (.str "abcdefghijklmnopqrstuvwxyz"))) (.seq (.set 2 (.me .split (.cst (.str "function set print give do if else turns end ask add take times less")) (.cons (.cst (.str " ")) .nil))) (.seq (.ifs (.val (.cmp .Eq (.pcall 6 (.cons (.var 0) (.cons (.cst (.int 5)) .nil))) (.cst (.int 0)))) (.seq (.ret (.ix (.var 2) (.pcall 6 (.cons (.var 0) (.cons (.cst (.int 14)) .nil))))) .nil) .nil) (.seq (.set 3 (.ix (.lst (.cons (.cst (.int 1)) (.cons (.cst (.int 1)) (.cons (.cst (.int 2)) (.cons (.cst (.int 3)) (.cons (.cst (.int 7)) (.cons (.cst (.int 8)) (.cons (.cst (.int 8)) (.cons (.cst (.int 4)) .nil))))))))) (.pcall 6 (.cons (.var 0) (.cons (.cst (.int 8)) .nil))))) (.seq (.set 4 (.lc .rng (.cons (.bin .Sub (.var 3) (.cst (.int 1))) .nil) (.name 5) [5] .nil F.law_any_word_e0)) (.seq (.ret (.bin .Add (.ix (.var 1) (.pcall 6 (.cons (.var 0) (.cons (.cst (.int 26)) .nil)))) (.me .join (.cst (.str "")) (.cons (.var 4) .nil)))) .nil))))))
def F.law_any_word : Fn := ⟨1, 6, F.law_any_word_body⟩
/-- _law_any_number: 0 law_left_here@, 1 law_way -/
def F.law_any_number_body : Sx := (.seq (.set 1 (.pcall 6 (.cons (.var 0) (.cons (.cst (.int 6)) .nil)))) (.seq (.ifs (.val (.cmp .Lt (.var 1) (.cst (.int 3)))) (.seq (.ret (.pcall 6 (.cons (.var 0) (.cons (.cst (.int 12)) .nil)))) .nil) .nil) (.seq (.ret (.ix (.lst (.cons (.bin .Sub (.bin .Sub (.bin .Pow (.cst (.int 10)) (.cst (.int 30))) (.cst (.int 1))) (.pcall 6 (.cons (.var 0) (.cons (.cst (.int 9)) .nil)))) (.cons (.neg (.pcall 6 (.cons (.var 0) (.cons (.cst (.int 10)) .nil)))) (.cons (.bin .Sub (.neg (.bin .Pow (.cst (.int 10)) (.cst (.int 29)))) (.pcall 6 (.cons (.var 0) (.cons (.bin .Pow (.cst (.int 10)) (.cst (.int 20))) .nil)))) .nil)))) (.bin .Sub (.var 1) (.cst (.int 3))))) .nil)))
def F.law_any_number : Fn := ⟨1, 2, F.law_any_number_body⟩
def isLet (c : Nat) : Prop := 97 ≤ c ∧ c ≤ 122
def isAl (c : Nat) : Prop := (97 ≤ c ∧ c ≤ 122) ∨ (48 ≤ c ∧ c ≤ 57)
/-- a word: one to eight signs, small letters and figures, the first a letter -/
def WordS (w : Str) : Prop := ∃ c r, w.cps.toList = c :: r ∧ isLet c ∧ (∀ x ∈ r, isAl x) ∧ r.length ≤ 7
theorem WordS.ok {w : Str} (h : WordS w) : wdOk w := by
  obtain ⟨c, r, e, h1, h2, h3⟩ := h
  refine ⟨by rw [str_len, e]; simp; omega, fun x hx => ?_⟩
  rw [e] at hx
  rcases List.mem_cons.mp hx with rfl | hx
  · simp only [isLet] at h1; omega
  · have := h2 x hx; simp only [isAl] at this; omega
/-- one sign of a text -/
theorem ix_str {z : Str} {d : Int} {h : AH} (d0 : 0 ≤ d) (d1 : d < z.length) (hz : z.length ≤ sizeLine) : ∃ c ∈ z.cps.toList, ixV (.str z) (.int d) h = some (.str ⟨#[c]⟩) := by
  obtain ⟨n, rfl⟩ := Int.eq_ofNat_of_zero_le d0
  have hn : n < z.cps.toList.length := by rw [← str_len]; omega
  refine ⟨z.cps.toList[n], List.getElem_mem hn, ?_⟩
  have e := atI_nat (j := n) (List.getElem?_eq_getElem hn)
  simp only [ixV, dctOf, e, Option.map_some]
  rw [if_pos hz]
/-- one of a list's things -/
theorem ix_lst {xs : List Vl} {d : Int} {v : Vl} {h : AH} (hv : seqOf v h = some xs) (hd : dctOf v h = none) (hs : ∀ z, v ≠ .str z) (d0 : 0 ≤ d) (d1 : d < xs.length) : ∃ x ∈ xs, ixV v (.int d) h = some x := by
  obtain ⟨n, rfl⟩ := Int.eq_ofNat_of_zero_le d0
  have hn : n < xs.length := by omega
  refine ⟨xs[n], List.getElem_mem hn, ?_⟩
  have e := atI_nat (j := n) (List.getElem?_eq_getElem hn)
  simp only [ixV, hd]
  cases v <;> first | (exact absurd rfl (hs _)) | (simp only [hv, Option.bind_some, e])
def lets : Str := Str.ofString "abcdefghijklmnopqrstuvwxyz"
def letFig : Str := Str.ofString "abcdefghijklmnopqrstuvwxyz" ++ Str.ofString "0123456789"
theorem lets_is : lets.length = 26 ∧ ∀ c ∈ lets.cps.toList, isLet c := by
  refine ⟨by decide +kernel, fun c hc => ?_⟩
  have q : lets.cps.toList.all (fun c => decide (97 ≤ c) && decide (c ≤ 122)) = true := by decide +kernel
  simpa [isLet] using List.all_eq_true.mp q c hc
theorem letFig_is : letFig.length = 36 ∧ ∀ c ∈ letFig.cps.toList, isAl c := by
  refine ⟨by decide +kernel, fun c hc => ?_⟩
  have q : letFig.cps.toList.all (fun c => (decide (97 ≤ c) && decide (c ≤ 122)) || (decide (48 ≤ c) && decide (c ≤ 57))) = true := by decide +kernel
  simpa [isAl] using List.all_eq_true.mp q c hc
def keptL : List Str := [Str.ofString "function", Str.ofString "set", Str.ofString "print", Str.ofString "give", Str.ofString "do", Str.ofString "if", Str.ofString "else", Str.ofString "turns", Str.ofString "end", Str.ofString "ask", Str.ofString "add", Str.ofString "take", Str.ofString "times", Str.ofString "less"]
theorem kept_split : Txt.split (Str.ofString "function set print give do if else turns end ask add take times less") (Str.ofString " ") = keptL := by decide +kernel
def wordB (w : Str) : Bool := match w.cps.toList with
  | c :: r => decide (97 ≤ c) && decide (c ≤ 122) && r.all (fun c => (decide (97 ≤ c) && decide (c ≤ 122)) || (decide (48 ≤ c) && decide (c ≤ 57))) && decide (r.length ≤ 7)
  | [] => false
theorem wordB_ok {w : Str} : wordB w = true ↔ WordS w := by
  unfold wordB WordS
  cases w.cps.toList with
  | nil => simp
  | cons c r => simp [isLet, isAl, List.all_eq_true, and_assoc]
theorem kept_words : ∀ w ∈ keptL, WordS w := fun w hw => by
  have q : keptL.all wordB = true := by decide +kernel
  exact wordB_ok.mp (List.all_eq_true.mp q w hw)
theorem m_split {a b : Str} {h : AH} {Q : Vl → AH → Prop} : O2 (meV .split (.str a) [.str b] h) Q = (((b.length == 0) = false ∧ a.length + 2 ≤ sizeLine) ∧ Q (.fl ((Txt.split a b).map .str)) h) := by
  simp only [meV, o2_if, o2_some]
theorem join_nil_cps : ∀ ws : List Str, (Str.join (Str.ofString "") ws).cps.toList = (ws.map fun w => w.cps.toList).flatten
  | [] => by simp [Str.join, Str.empty]
  | [x] => by simp [Str.join]
  | x :: y :: l => by
    have e : (Str.ofString "").cps.toList = [] := by decide +kernel
    rw [Str.join]
    · rw [str_app, str_app, e, join_nil_cps (y :: l)]
      simp
    · simp
section
variable {W : Wd} {k : Nat}
structure HasAny (W : Wd) : Prop extends HasDraw W where
  word : W.fns.lookup 7 = some F.law_any_word
  number : W.fns.lookup 9 = some F.law_any_number
def QWord (B : Nat) (v : Vl) (h : AH) : Prop := ∃ w o', v = .str w ∧ h = [o'] ∧ WordS w ∧ Dr B o'
theorem any_word_run (D : HasAny W) {o : Ob} {B : Nat} (hk : 4 ≤ k) (hB : Dr B o) (hb : B < 2 ^ 40) : ∃ w o', W.C k 7 [.ref 0] [o] = some (.str w, [o']) ∧ WordS w ∧ Dr (B + 12) o' := by
  obtain ⟨k, rfl⟩ : ∃ j, k = j + 1 := ⟨k - 1, by omega⟩
  suffices H : O2 (W.C (k + 1) 7 [.ref 0] [o]) (QWord (B + 12)) by
    obtain ⟨v, h, e, w, o', rfl, rfl, h1, h2⟩ := H
    exact ⟨w, o', e, h1, h2⟩
  rw [Wd.C_run D.word]
  have l1 : (Str.ofString " ").length = 1 := by rw [len_lit]; rfl
  have l2 : (Str.ofString "function set print give do if else turns end ask add take times less").length = 68 := by rw [len_lit]; rfl
  have l3 := lets_is.1
  unfold lets at l3
  have l4 : (Str.ofString "0123456789").length = 10 := by rw [len_lit]; rfl
  simp -dsimp [F.law_any_word, F.law_any_word_body, ↓w_var, ↓w_cst, ↓w_bty, ↓w_glob, ↓w_bin, ↓w_neg, ↓w_cmp, ↓w_chain, ↓w_and, ↓w_or, ↓w_not, ↓w_ite, ↓w_lst, ↓w_tup, ↓w_ix, ↓w_sl, ↓w_lc, ↓w_call, ↓w_pcall, ↓w_new, ↓w_bi, ↓w_me, ↓w_dsp, ↓wt_nil, ↓wt_and, ↓wt_or, ↓wt_not, ↓wt_val, ↓wa_nil, ↓wa_cons, ↓wb_nil, ↓wb_cons, ↓wo_nil, ↓wo_cons, ↓ws_nil, ↓ws_seq, ↓ws_set, ↓ws_setT, ↓ws_setIx, ↓ws_aug, ↓ws_ifs, ↓ws_for, ↓ws_whl, ↓ws_ret, ↓ws_retN, ↓ws_expr, ↓ws_pass, ↓ws_brk, ↓ws_setO, ↓ws_retO, ↓ws_appO, ↓ws_extO, ↓ws_revO, ↓ws_putO, ↓ws_par, ↓ws_wipe, ↓ws_frz, ↓ok_some, ↓ok_none, ↓o2_some, ↓o2_none, ↓o3_some, ↓o3_none, ↓seqQ_nx, ↓seqQ_rt, ↓seqQ_bk, ↓seqQ_ct, ↓retQ_rt, ↓retQ_nx, ↓turnQ_nx, ↓turnQ_rt, ↓turnQ_bk, ↓turnQ_ct, ↓wipeQ, ↓w_runF, for_en, for_zp, lc_en, lc_zp, wipeE, flV', asg, asgs, parV, Src.get, srcOf, seqSrc, sizeLine, newV, binV, addV, ixV, dctOf, seqOf, lstOf, lstW, slV, biV, isV, tyOf, cmpV, augV, setIxV, meTy, m_join, m_app, m_ext, m_pop, m_rev, strsOf_str, strsOf_nil, strsOf_app, strsOf_mapf, strsOf_map, Option.bind_some, Option.map_some, atI, ixN, ↓ok_if, ↓ok_map, ↓ok_bind, ↓o2_if, ↓o3_if, m_split, l1, l2, kept_split]
  refine pick_ok D.toHasDraw (by omega) rfl hB (by omega) (by decide) (by decide) fun d o1 d0 d1 hB1 => ?_
  by_cases hd : d = 0
  · simp -dsimp [↓w_var, ↓w_cst, ↓w_bty, ↓w_glob, ↓w_bin, ↓w_neg, ↓w_cmp, ↓w_chain, ↓w_and, ↓w_or, ↓w_not, ↓w_ite, ↓w_lst, ↓w_tup, ↓w_ix, ↓w_sl, ↓w_lc, ↓w_call, ↓w_pcall, ↓w_new, ↓w_bi, ↓w_me, ↓w_dsp, ↓wt_nil, ↓wt_and, ↓wt_or, ↓wt_not, ↓wt_val, ↓wa_nil, ↓wa_cons, ↓wb_nil, ↓wb_cons, ↓wo_nil, ↓wo_cons, ↓ws_nil, ↓ws_seq, ↓ws_set, ↓ws_setT, ↓ws_setIx, ↓ws_aug, ↓ws_ifs, ↓ws_for, ↓ws_whl, ↓ws_ret, ↓ws_retN, ↓ws_expr, ↓ws_pass, ↓ws_brk, ↓ws_setO, ↓ws_retO, ↓ws_appO, ↓ws_extO, ↓ws_revO, ↓ws_putO, ↓ws_par, ↓ws_wipe, ↓ws_frz, ↓ok_some, ↓ok_none, ↓o2_some, ↓o2_none, ↓o3_some, ↓o3_none, ↓seqQ_nx, ↓seqQ_rt, ↓seqQ_bk, ↓seqQ_ct, ↓retQ_rt, ↓retQ_nx, ↓turnQ_nx, ↓turnQ_rt, ↓turnQ_bk, ↓turnQ_ct, ↓wipeQ, ↓w_runF, for_en, for_zp, lc_en, lc_zp, wipeE, flV', asg, asgs, parV, Src.get, srcOf, seqSrc, sizeLine, newV, binV, addV, ixV, dctOf, seqOf, lstOf, lstW, slV, biV, isV, tyOf, cmpV, augV, setIxV, meTy, m_join, m_app, m_ext, m_pop, m_rev, strsOf_str, strsOf_nil, strsOf_app, strsOf_mapf, strsOf_map, Option.bind_some, Option.map_some, atI, ixN, ↓ok_if, ↓ok_map, ↓ok_bind, ↓o2_if, ↓o3_if, FK.eqV, hd]
    refine pick_ok D.toHasDraw (by omega) rfl hB1 (by omega) (by decide) (by decide) fun d2 o2 d20 d21 hB2 => ?_
    obtain ⟨x, hx, e⟩ := ix_lst (v := .fz (keptL.map .str)) (h := [o2]) rfl rfl (by simp) d20 (by simpa [keptL] using d21)
    obtain ⟨w, hw, rfl⟩ := List.mem_map.mp hx
    simp -dsimp [↓w_var, ↓w_cst, ↓w_bty, ↓w_glob, ↓w_bin, ↓w_neg, ↓w_cmp, ↓w_chain, ↓w_and, ↓w_or, ↓w_not, ↓w_ite, ↓w_lst, ↓w_tup, ↓w_ix, ↓w_sl, ↓w_lc, ↓w_call, ↓w_pcall, ↓w_new, ↓w_bi, ↓w_me, ↓w_dsp, ↓wt_nil, ↓wt_and, ↓wt_or, ↓wt_not, ↓wt_val, ↓wa_nil, ↓wa_cons, ↓wb_nil, ↓wb_cons, ↓wo_nil, ↓wo_cons, ↓ws_nil, ↓ws_seq, ↓ws_set, ↓ws_setT, ↓ws_setIx, ↓ws_aug, ↓ws_ifs, ↓ws_for, ↓ws_whl, ↓ws_ret, ↓ws_retN, ↓ws_expr, ↓ws_pass, ↓ws_brk, ↓ws_setO, ↓ws_retO, ↓ws_appO, ↓ws_extO, ↓ws_revO, ↓ws_putO, ↓ws_par, ↓ws_wipe, ↓ws_frz, ↓ok_some, ↓ok_none, ↓o2_some, ↓o2_none, ↓o3_some, ↓o3_none, ↓seqQ_nx, ↓seqQ_rt, ↓seqQ_bk, ↓seqQ_ct, ↓retQ_rt, ↓retQ_nx, ↓turnQ_nx, ↓turnQ_rt, ↓turnQ_bk, ↓turnQ_ct, ↓wipeQ, ↓w_runF, for_en, for_zp, lc_en, lc_zp, wipeE, flV', asg, asgs, parV, Src.get, srcOf, seqSrc, sizeLine, newV, e]
    exact ⟨w, o2, rfl, rfl, kept_words w hw, hB2.mono (by omega)⟩
  · simp -dsimp [↓w_var, ↓w_cst, ↓w_bty, ↓w_glob, ↓w_bin, ↓w_neg, ↓w_cmp, ↓w_chain, ↓w_and, ↓w_or, ↓w_not, ↓w_ite, ↓w_lst, ↓w_tup, ↓w_ix, ↓w_sl, ↓w_lc, ↓w_call, ↓w_pcall, ↓w_new, ↓w_bi, ↓w_me, ↓w_dsp, ↓wt_nil, ↓wt_and, ↓wt_or, ↓wt_not, ↓wt_val, ↓wa_nil, ↓wa_cons, ↓wb_nil, ↓wb_cons, ↓wo_nil, ↓wo_cons, ↓ws_nil, ↓ws_seq, ↓ws_set, ↓ws_setT, ↓ws_setIx, ↓ws_aug, ↓ws_ifs, ↓ws_for, ↓ws_whl, ↓ws_ret, ↓ws_retN, ↓ws_expr, ↓ws_pass, ↓ws_brk, ↓ws_setO, ↓ws_retO, ↓ws_appO, ↓ws_extO, ↓ws_revO, ↓ws_putO, ↓ws_par, ↓ws_wipe, ↓ws_frz, ↓ok_some, ↓ok_none, ↓o2_some, ↓o2_none, ↓o3_some, ↓o3_none, ↓seqQ_nx, ↓seqQ_rt, ↓seqQ_bk, ↓seqQ_ct, ↓retQ_rt, ↓retQ_nx, ↓turnQ_nx, ↓turnQ_rt, ↓turnQ_bk, ↓turnQ_ct, ↓wipeQ, ↓w_runF, for_en, for_zp, lc_en, lc_zp, wipeE, flV', asg, asgs, parV, Src.get, srcOf, seqSrc, sizeLine, newV, binV, addV, ixV, dctOf, seqOf, lstOf, lstW, slV, biV, isV, tyOf, cmpV, augV, setIxV, meTy, m_join, m_app, m_ext, m_pop, m_rev, strsOf_str, strsOf_nil, strsOf_app, strsOf_mapf, strsOf_map, Option.bind_some, Option.map_some, atI, ixN, ↓ok_if, ↓ok_map, ↓ok_bind, ↓o2_if, ↓o3_if, FK.eqV, hd]
    refine pick_ok D.toHasDraw (by omega) rfl hB1 (by omega) (by decide) (by decide) fun d2 o2 d20 d21 hB2 => ?_
    obtain ⟨x, hx, e⟩ := ix_lst (v := .fl [.int 1, .int 1, .int 2, .int 3, .int 7, .int 8, .int 8, .int 4]) (h := [o2]) rfl rfl (by simp) d20 (by simpa using d21)
    obtain ⟨m, rfl, m0, m1⟩ : ∃ m : Nat, x = .int m ∧ 1 ≤ m ∧ m ≤ 8 := by
      simp only [List.mem_cons, List.not_mem_nil, or_false] at hx
      rcases hx with rfl | rfl | rfl | rfl | rfl | rfl | rfl | rfl
      · exact ⟨1, rfl, by decide, by decide⟩
      · exact ⟨1, rfl, by decide, by decide⟩
      · exact ⟨2, rfl, by decide, by decide⟩
      · exact ⟨3, rfl, by decide, by decide⟩
      · exact ⟨7, rfl, by decide, by decide⟩
      · exact ⟨8, rfl, by decide, by decide⟩
      · exact ⟨8, rfl, by decide, by decide⟩
      · exact ⟨4, rfl, by decide, by decide⟩
    have r1 : in62 ((m : Int) - 1) = true := by simp [in62]; omega
    refine Ok.of e ?_
    simp -dsimp [↓w_var, ↓w_cst, ↓w_bty, ↓w_glob, ↓w_bin, ↓w_neg, ↓w_cmp, ↓w_chain, ↓w_and, ↓w_or, ↓w_not, ↓w_ite, ↓w_lst, ↓w_tup, ↓w_ix, ↓w_sl, ↓w_lc, ↓w_call, ↓w_pcall, ↓w_new, ↓w_bi, ↓w_me, ↓w_dsp, ↓wt_nil, ↓wt_and, ↓wt_or, ↓wt_not, ↓wt_val, ↓wa_nil, ↓wa_cons, ↓wb_nil, ↓wb_cons, ↓wo_nil, ↓wo_cons, ↓ws_nil, ↓ws_seq, ↓ws_set, ↓ws_setT, ↓ws_setIx, ↓ws_aug, ↓ws_ifs, ↓ws_for, ↓ws_whl, ↓ws_ret, ↓ws_retN, ↓ws_expr, ↓ws_pass, ↓ws_brk, ↓ws_setO, ↓ws_retO, ↓ws_appO, ↓ws_extO, ↓ws_revO, ↓ws_putO, ↓ws_par, ↓ws_wipe, ↓ws_frz, ↓ok_some, ↓ok_none, ↓o2_some, ↓o2_none, ↓o3_some, ↓o3_none, ↓seqQ_nx, ↓seqQ_rt, ↓seqQ_bk, ↓seqQ_ct, ↓retQ_rt, ↓retQ_nx, ↓turnQ_nx, ↓turnQ_rt, ↓turnQ_bk, ↓turnQ_ct, ↓wipeQ, ↓w_runF, for_en, for_zp, lc_en, lc_zp, wipeE, flV', asg, asgs, parV, Src.get, srcOf, seqSrc, sizeLine, newV, binV, addV, ixV, dctOf, seqOf, lstOf, lstW, slV, biV, isV, tyOf, cmpV, augV, setIxV, meTy, m_join, m_app, m_ext, m_pop, m_rev, strsOf_str, strsOf_nil, strsOf_app, strsOf_mapf, strsOf_map, Option.bind_some, Option.map_some, atI, ixN, ↓ok_if, ↓ok_map, ↓ok_bind, ↓o2_if, ↓o3_if, r1, rngL]
    refine ⟨by omega, ?_⟩
    refine lc_inv (I := fun i acc h' => ∃ (cs : List Nat) (o' : Ob), acc = cs.map (fun c => .str ⟨#[c]⟩) ∧ cs.length = i ∧ (∀ c ∈ cs, isAl c) ∧ h' = [o'] ∧ Dr (B + 2 + i) o') ⟨[], o2, rfl, rfl, by simp, rfl, hB2.mono (by omega)⟩ (fun i x acc h' hx hI => ?_) (fun acc h' hI => ?_) (by simp)
    · obtain ⟨cs, o', rfl, hl, hc, rfl, hB'⟩ := hI
      have hi : i < m := by
        have := (List.getElem?_eq_some_iff.mp hx).1
        simp at this; omega
      simp -dsimp [F.law_any_word_e0, ↓w_var, ↓w_cst, ↓w_bty, ↓w_glob, ↓w_bin, ↓w_neg, ↓w_cmp, ↓w_chain, ↓w_and, ↓w_or, ↓w_not, ↓w_ite, ↓w_lst, ↓w_tup, ↓w_ix, ↓w_sl, ↓w_lc, ↓w_call, ↓w_pcall, ↓w_new, ↓w_bi, ↓w_me, ↓w_dsp, ↓wt_nil, ↓wt_and, ↓wt_or, ↓wt_not, ↓wt_val, ↓wa_nil, ↓wa_cons, ↓wb_nil, ↓wb_cons, ↓wo_nil, ↓wo_cons, ↓ws_nil, ↓ws_seq, ↓ws_set, ↓ws_setT, ↓ws_setIx, ↓ws_aug, ↓ws_ifs, ↓ws_for, ↓ws_whl, ↓ws_ret, ↓ws_retN, ↓ws_expr, ↓ws_pass, ↓ws_brk, ↓ws_setO, ↓ws_retO, ↓ws_appO, ↓ws_extO, ↓ws_revO, ↓ws_putO, ↓ws_par, ↓ws_wipe, ↓ws_frz, ↓ok_some, ↓ok_none, ↓o2_some, ↓o2_none, ↓o3_some, ↓o3_none, ↓seqQ_nx, ↓seqQ_rt, ↓seqQ_bk, ↓seqQ_ct, ↓retQ_rt, ↓retQ_nx, ↓turnQ_nx, ↓turnQ_rt, ↓turnQ_bk, ↓turnQ_ct, ↓wipeQ, ↓w_runF, for_en, for_zp, lc_en, lc_zp, wipeE, flV', asg, asgs, parV, Src.get, srcOf, seqSrc, sizeLine, newV, binV, addV, ixV, dctOf, seqOf, lstOf, lstW, slV, biV, isV, tyOf, cmpV, augV, setIxV, meTy, m_join, m_app, m_ext, m_pop, m_rev, strsOf_str, strsOf_nil, strsOf_app, strsOf_mapf, strsOf_map, Option.bind_some, Option.map_some, atI, ixN, ↓ok_if, ↓ok_map, ↓ok_bind, ↓o2_if, ↓o3_if, l3, l4]
      refine pick_ok D.toHasDraw (by omega) rfl hB' (by omega) (by decide) (by decide) fun d3 o3 d30 d31 hB3 => ?_
      obtain ⟨c, hc1, e3⟩ := ix_str (z := letFig) (d := d3) (h := [o3]) d30 (by rw [letFig_is.1]; omega) (by rw [letFig_is.1]; decide)
      refine Ok.of e3 ?_
      simp -dsimp [↓w_var, ↓w_cst, ↓w_bty, ↓w_glob, ↓w_bin, ↓w_neg, ↓w_cmp, ↓w_chain, ↓w_and, ↓w_or, ↓w_not, ↓w_ite, ↓w_lst, ↓w_tup, ↓w_ix, ↓w_sl, ↓w_lc, ↓w_call, ↓w_pcall, ↓w_new, ↓w_bi, ↓w_me, ↓w_dsp, ↓wt_nil, ↓wt_and, ↓wt_or, ↓wt_not, ↓wt_val, ↓wa_nil, ↓wa_cons, ↓wb_nil, ↓wb_cons, ↓wo_nil, ↓wo_cons, ↓ws_nil, ↓ws_seq, ↓ws_set, ↓ws_setT, ↓ws_setIx, ↓ws_aug, ↓ws_ifs, ↓ws_for, ↓ws_whl, ↓ws_ret, ↓ws_retN, ↓ws_expr, ↓ws_pass, ↓ws_brk, ↓ws_setO, ↓ws_retO, ↓ws_appO, ↓ws_extO, ↓ws_revO, ↓ws_putO, ↓ws_par, ↓ws_wipe, ↓ws_frz, ↓ok_some, ↓ok_none, ↓o2_some, ↓o2_none, ↓o3_some, ↓o3_none, ↓seqQ_nx, ↓seqQ_rt, ↓seqQ_bk, ↓seqQ_ct, ↓retQ_rt, ↓retQ_nx, ↓turnQ_nx, ↓turnQ_rt, ↓turnQ_bk, ↓turnQ_ct, ↓wipeQ, ↓w_runF, for_en, for_zp, lc_en, lc_zp, wipeE, flV', asg, asgs, parV, Src.get, srcOf, seqSrc, sizeLine, newV]
      exact ⟨cs ++ [c], by simp, by simp [hl], fun y hy => by
        rcases List.mem_append.mp hy with z | z
        · exact hc y z
        · obtain rfl : y = c := by simpa using z
          exact letFig_is.2 y hc1, hB3.mono (by omega)⟩
    · obtain ⟨cs, o', rfl, hl, hc, rfl, hB'⟩ := hI
      simp only [List.length_map, List.length_range] at hl hB'
      simp -dsimp [↓w_var, ↓w_cst, ↓w_bty, ↓w_glob, ↓w_bin, ↓w_neg, ↓w_cmp, ↓w_chain, ↓w_and, ↓w_or, ↓w_not, ↓w_ite, ↓w_lst, ↓w_tup, ↓w_ix, ↓w_sl, ↓w_lc, ↓w_call, ↓w_pcall, ↓w_new, ↓w_bi, ↓w_me, ↓w_dsp, ↓wt_nil, ↓wt_and, ↓wt_or, ↓wt_not, ↓wt_val, ↓wa_nil, ↓wa_cons, ↓wb_nil, ↓wb_cons, ↓wo_nil, ↓wo_cons, ↓ws_nil, ↓ws_seq, ↓ws_set, ↓ws_setT, ↓ws_setIx, ↓ws_aug, ↓ws_ifs, ↓ws_for, ↓ws_whl, ↓ws_ret, ↓ws_retN, ↓ws_expr, ↓ws_pass, ↓ws_brk, ↓ws_setO, ↓ws_retO, ↓ws_appO, ↓ws_extO, ↓ws_revO, ↓ws_putO, ↓ws_par, ↓ws_wipe, ↓ws_frz, ↓ok_some, ↓ok_none, ↓o2_some, ↓o2_none, ↓o3_some, ↓o3_none, ↓seqQ_nx, ↓seqQ_rt, ↓seqQ_bk, ↓seqQ_ct, ↓retQ_rt, ↓retQ_nx, ↓turnQ_nx, ↓turnQ_rt, ↓turnQ_bk, ↓turnQ_ct, ↓wipeQ, ↓w_runF, for_en, for_zp, lc_en, lc_zp, wipeE, flV', asg, asgs, parV, Src.get, srcOf, seqSrc, sizeLine, newV, binV, addV, ixV, dctOf, seqOf, lstOf, lstW, slV, biV, isV, tyOf, cmpV, augV, setIxV, meTy, m_join, m_app, m_ext, m_pop, m_rev, strsOf_str, strsOf_nil, strsOf_app, strsOf_mapf, strsOf_map, Option.bind_some, Option.map_some, atI, ixN, ↓ok_if, ↓ok_map, ↓ok_bind, ↓o2_if, ↓o3_if]
      refine pick_ok D.toHasDraw (by omega) rfl hB' (by omega) (by decide) (by decide) fun d4 o4 d40 d41 hB4 => ?_
      obtain ⟨c, hc1, e4⟩ := ix_str (z := lets) (d := d4) (h := [o4]) d40 (by rw [lets_is.1]; omega) (by rw [lets_is.1]; decide)
      refine Ok.of e4 ?_
      have es : (Str.ofString "").length = 0 := by rw [len_lit]; rfl
      have hj : (Str.join (Str.ofString "") (cs.map fun c => ⟨#[c]⟩)).cps.toList = cs := by
        rw [join_nil_cps, List.map_map]
        show (cs.map fun x => [x]).flatten = cs
        clear hl hB' hB4 hc
        induction cs with
        | nil => rfl
        | cons c cs ih => simp only [List.map_cons, List.flatten_cons, ih]; rfl
      have hjl : (Str.join (Str.ofString "") (cs.map fun c => ⟨#[c]⟩)).length = cs.length := by rw [str_len, hj]
      have h1 : ∀ c : Nat, (⟨#[c]⟩ : Str).length = 1 := fun c => rfl
      have h5 : (cs.map fun _ => 1).sum = cs.length := by simp [List.map_const']
      simp -dsimp [↓w_var, ↓w_cst, ↓w_bty, ↓w_glob, ↓w_bin, ↓w_neg, ↓w_cmp, ↓w_chain, ↓w_and, ↓w_or, ↓w_not, ↓w_ite, ↓w_lst, ↓w_tup, ↓w_ix, ↓w_sl, ↓w_lc, ↓w_call, ↓w_pcall, ↓w_new, ↓w_bi, ↓w_me, ↓w_dsp, ↓wt_nil, ↓wt_and, ↓wt_or, ↓wt_not, ↓wt_val, ↓wa_nil, ↓wa_cons, ↓wb_nil, ↓wb_cons, ↓wo_nil, ↓wo_cons, ↓ws_nil, ↓ws_seq, ↓ws_set, ↓ws_setT, ↓ws_setIx, ↓ws_aug, ↓ws_ifs, ↓ws_for, ↓ws_whl, ↓ws_ret, ↓ws_retN, ↓ws_expr, ↓ws_pass, ↓ws_brk, ↓ws_setO, ↓ws_retO, ↓ws_appO, ↓ws_extO, ↓ws_revO, ↓ws_putO, ↓ws_par, ↓ws_wipe, ↓ws_frz, ↓ok_some, ↓ok_none, ↓o2_some, ↓o2_none, ↓o3_some, ↓o3_none, ↓seqQ_nx, ↓seqQ_rt, ↓seqQ_bk, ↓seqQ_ct, ↓retQ_rt, ↓retQ_nx, ↓turnQ_nx, ↓turnQ_rt, ↓turnQ_bk, ↓turnQ_ct, ↓wipeQ, ↓w_runF, for_en, for_zp, lc_en, lc_zp, wipeE, flV', asg, asgs, parV, Src.get, srcOf, seqSrc, sizeLine, newV, binV, addV, ixV, dctOf, seqOf, lstOf, lstW, slV, biV, isV, tyOf, cmpV, augV, setIxV, meTy, m_join, m_app, m_ext, m_pop, m_rev, strsOf_str, strsOf_nil, strsOf_app, strsOf_mapf, strsOf_map, Option.bind_some, Option.map_some, atI, ixN, ↓ok_if, ↓ok_map, ↓ok_bind, ↓o2_if, ↓o3_if, es, hjl, Function.comp_def, h1, h5]
      refine ⟨by omega, by omega, ⟨_, o4, rfl, rfl, ⟨c, cs, ?_, lets_is.2 c hc1, hc, by omega⟩, hB4.mono (by omega)⟩⟩
      rw [str_app, hj]
      rfl
/-- a number drawn -/
def in30 (n : Int) : Prop := n.natAbs < 10 ^ 30
theorem in30.ok {n : Int} (h : in30 n) : inOk n := by unfold in30 at h; unfold inOk; omega
def QNum (B : Nat) (v : Vl) (h : AH) : Prop := ∃ n o', v = .int n ∧ h = [o'] ∧ in30 n ∧ Dr B o'
theorem any_number_run (D : HasAny W) {o : Ob} {B : Nat} (hk : 3 ≤ k) (hB : Dr B o) (hb : B < 2 ^ 40) : O2 (W.C k 9 [.ref 0] [o]) (QNum (B + 4)) := by
  obtain ⟨k, rfl⟩ : ∃ j, k = j + 1 := ⟨k - 1, by omega⟩
  rw [Wd.C_run D.number]
  simp -dsimp [F.law_any_number, F.law_any_number_body, ↓w_var, ↓w_cst, ↓w_bty, ↓w_glob, ↓w_bin, ↓w_neg, ↓w_cmp, ↓w_chain, ↓w_and, ↓w_or, ↓w_not, ↓w_ite, ↓w_lst, ↓w_tup, ↓w_ix, ↓w_sl, ↓w_lc, ↓w_call, ↓w_pcall, ↓w_new, ↓w_bi, ↓w_me, ↓w_dsp, ↓wt_nil, ↓wt_and, ↓wt_or, ↓wt_not, ↓wt_val, ↓wa_nil, ↓wa_cons, ↓wb_nil, ↓wb_cons, ↓wo_nil, ↓wo_cons, ↓ws_nil, ↓ws_seq, ↓ws_set, ↓ws_setT, ↓ws_setIx, ↓ws_aug, ↓ws_ifs, ↓ws_for, ↓ws_whl, ↓ws_ret, ↓ws_retN, ↓ws_expr, ↓ws_pass, ↓ws_brk, ↓ws_setO, ↓ws_retO, ↓ws_appO, ↓ws_extO, ↓ws_revO, ↓ws_putO, ↓ws_par, ↓ws_wipe, ↓ws_frz, ↓ok_some, ↓ok_none, ↓o2_some, ↓o2_none, ↓o3_some, ↓o3_none, ↓seqQ_nx, ↓seqQ_rt, ↓seqQ_bk, ↓seqQ_ct, ↓retQ_rt, ↓retQ_nx, ↓turnQ_nx, ↓turnQ_rt, ↓turnQ_bk, ↓turnQ_ct, ↓wipeQ, ↓w_runF, for_en, for_zp, lc_en, lc_zp, wipeE, flV', asg, asgs, parV, Src.get, srcOf, seqSrc, sizeLine, newV, binV, addV, ixV, dctOf, seqOf, lstOf, lstW, slV, biV, isV, tyOf, cmpV, augV, setIxV, meTy, m_join, m_app, m_ext, m_pop, m_rev, strsOf_str, strsOf_nil, strsOf_app, strsOf_mapf, strsOf_map, Option.bind_some, Option.map_some, atI, ixN, ↓ok_if, ↓ok_map, ↓ok_bind, ↓o2_if, ↓o3_if]
  refine pick_ok D.toHasDraw (by omega) rfl hB (by omega) (by decide) (by decide) fun d o1 d0 d1 hB1 => ?_
  by_cases hd : d < 3
  · simp -dsimp [↓w_var, ↓w_cst, ↓w_bty, ↓w_glob, ↓w_bin, ↓w_neg, ↓w_cmp, ↓w_chain, ↓w_and, ↓w_or, ↓w_not, ↓w_ite, ↓w_lst, ↓w_tup, ↓w_ix, ↓w_sl, ↓w_lc, ↓w_call, ↓w_pcall, ↓w_new, ↓w_bi, ↓w_me, ↓w_dsp, ↓wt_nil, ↓wt_and, ↓wt_or, ↓wt_not, ↓wt_val, ↓wa_nil, ↓wa_cons, ↓wb_nil, ↓wb_cons, ↓wo_nil, ↓wo_cons, ↓ws_nil, ↓ws_seq, ↓ws_set, ↓ws_setT, ↓ws_setIx, ↓ws_aug, ↓ws_ifs, ↓ws_for, ↓ws_whl, ↓ws_ret, ↓ws_retN, ↓ws_expr, ↓ws_pass, ↓ws_brk, ↓ws_setO, ↓ws_retO, ↓ws_appO, ↓ws_extO, ↓ws_revO, ↓ws_putO, ↓ws_par, ↓ws_wipe, ↓ws_frz, ↓ok_some, ↓ok_none, ↓o2_some, ↓o2_none, ↓o3_some, ↓o3_none, ↓seqQ_nx, ↓seqQ_rt, ↓seqQ_bk, ↓seqQ_ct, ↓retQ_rt, ↓retQ_nx, ↓turnQ_nx, ↓turnQ_rt, ↓turnQ_bk, ↓turnQ_ct, ↓wipeQ, ↓w_runF, for_en, for_zp, lc_en, lc_zp, wipeE, flV', asg, asgs, parV, Src.get, srcOf, seqSrc, sizeLine, newV, binV, addV, ixV, dctOf, seqOf, lstOf, lstW, slV, biV, isV, tyOf, cmpV, augV, setIxV, meTy, m_join, m_app, m_ext, m_pop, m_rev, strsOf_str, strsOf_nil, strsOf_app, strsOf_mapf, strsOf_map, Option.bind_some, Option.map_some, atI, ixN, ↓ok_if, ↓ok_map, ↓ok_bind, ↓o2_if, ↓o3_if, hd]
    refine pick_ok D.toHasDraw (by omega) rfl hB1 (by omega) (by decide) (by decide) fun d2 o2 d20 d21 hB2 => ?_
    simp -dsimp [↓w_var, ↓w_cst, ↓w_bty, ↓w_glob, ↓w_bin, ↓w_neg, ↓w_cmp, ↓w_chain, ↓w_and, ↓w_or, ↓w_not, ↓w_ite, ↓w_lst, ↓w_tup, ↓w_ix, ↓w_sl, ↓w_lc, ↓w_call, ↓w_pcall, ↓w_new, ↓w_bi, ↓w_me, ↓w_dsp, ↓wt_nil, ↓wt_and, ↓wt_or, ↓wt_not, ↓wt_val, ↓wa_nil, ↓wa_cons, ↓wb_nil, ↓wb_cons, ↓wo_nil, ↓wo_cons, ↓ws_nil, ↓ws_seq, ↓ws_set, ↓ws_setT, ↓ws_setIx, ↓ws_aug, ↓ws_ifs, ↓ws_for, ↓ws_whl, ↓ws_ret, ↓ws_retN, ↓ws_expr, ↓ws_pass, ↓ws_brk, ↓ws_setO, ↓ws_retO, ↓ws_appO, ↓ws_extO, ↓ws_revO, ↓ws_putO, ↓ws_par, ↓ws_wipe, ↓ws_frz, ↓ok_some, ↓ok_none, ↓o2_some, ↓o2_none, ↓o3_some, ↓o3_none, ↓seqQ_nx, ↓seqQ_rt, ↓seqQ_bk, ↓seqQ_ct, ↓retQ_rt, ↓retQ_nx, ↓turnQ_nx, ↓turnQ_rt, ↓turnQ_bk, ↓turnQ_ct, ↓wipeQ, ↓w_runF, for_en, for_zp, lc_en, lc_zp, wipeE, flV', asg, asgs, parV, Src.get, srcOf, seqSrc, sizeLine, newV]
    exact ⟨d2, o2, rfl, rfl, by unfold in30; omega, hB2.mono (by omega)⟩
  · simp -dsimp [↓w_var, ↓w_cst, ↓w_bty, ↓w_glob, ↓w_bin, ↓w_neg, ↓w_cmp, ↓w_chain, ↓w_and, ↓w_or, ↓w_not, ↓w_ite, ↓w_lst, ↓w_tup, ↓w_ix, ↓w_sl, ↓w_lc, ↓w_call, ↓w_pcall, ↓w_new, ↓w_bi, ↓w_me, ↓w_dsp, ↓wt_nil, ↓wt_and, ↓wt_or, ↓wt_not, ↓wt_val, ↓wa_nil, ↓wa_cons, ↓wb_nil, ↓wb_cons, ↓wo_nil, ↓wo_cons, ↓ws_nil, ↓ws_seq, ↓ws_set, ↓ws_setT, ↓ws_setIx, ↓ws_aug, ↓ws_ifs, ↓ws_for, ↓ws_whl, ↓ws_ret, ↓ws_retN, ↓ws_expr, ↓ws_pass, ↓ws_brk, ↓ws_setO, ↓ws_retO, ↓ws_appO, ↓ws_extO, ↓ws_revO, ↓ws_putO, ↓ws_par, ↓ws_wipe, ↓ws_frz, ↓ok_some, ↓ok_none, ↓o2_some, ↓o2_none, ↓o3_some, ↓o3_none, ↓seqQ_nx, ↓seqQ_rt, ↓seqQ_bk, ↓seqQ_ct, ↓retQ_rt, ↓retQ_nx, ↓turnQ_nx, ↓turnQ_rt, ↓turnQ_bk, ↓turnQ_ct, ↓wipeQ, ↓w_runF, for_en, for_zp, lc_en, lc_zp, wipeE, flV', asg, asgs, parV, Src.get, srcOf, seqSrc, sizeLine, newV, binV, addV, ixV, dctOf, seqOf, lstOf, lstW, slV, biV, isV, tyOf, cmpV, augV, setIxV, meTy, m_join, m_app, m_ext, m_pop, m_rev, strsOf_str, strsOf_nil, strsOf_app, strsOf_mapf, strsOf_map, Option.bind_some, Option.map_some, atI, ixN, ↓ok_if, ↓ok_map, ↓ok_bind, ↓o2_if, ↓o3_if, hd]
    refine pick_ok D.toHasDraw (by omega) rfl hB1 (by omega) (by decide) (by decide) fun d2 o2 d20 d21 hB2 => ?_
    simp -dsimp [↓w_var, ↓w_cst, ↓w_bty, ↓w_glob, ↓w_bin, ↓w_neg, ↓w_cmp, ↓w_chain, ↓w_and, ↓w_or, ↓w_not, ↓w_ite, ↓w_lst, ↓w_tup, ↓w_ix, ↓w_sl, ↓w_lc, ↓w_call, ↓w_pcall, ↓w_new, ↓w_bi, ↓w_me, ↓w_dsp, ↓wt_nil, ↓wt_and, ↓wt_or, ↓wt_not, ↓wt_val, ↓wa_nil, ↓wa_cons, ↓wb_nil, ↓wb_cons, ↓wo_nil, ↓wo_cons, ↓ws_nil, ↓ws_seq, ↓ws_set, ↓ws_setT, ↓ws_setIx, ↓ws_aug, ↓ws_ifs, ↓ws_for, ↓ws_whl, ↓ws_ret, ↓ws_retN, ↓ws_expr, ↓ws_pass, ↓ws_brk, ↓ws_setO, ↓ws_retO, ↓ws_appO, ↓ws_extO, ↓ws_revO, ↓ws_putO, ↓ws_par, ↓ws_wipe, ↓ws_frz, ↓ok_some, ↓ok_none, ↓o2_some, ↓o2_none, ↓o3_some, ↓o3_none, ↓seqQ_nx, ↓seqQ_rt, ↓seqQ_bk, ↓seqQ_ct, ↓retQ_rt, ↓retQ_nx, ↓turnQ_nx, ↓turnQ_rt, ↓turnQ_bk, ↓turnQ_ct, ↓wipeQ, ↓w_runF, for_en, for_zp, lc_en, lc_zp, wipeE, flV', asg, asgs, parV, Src.get, srcOf, seqSrc, sizeLine, newV, binV, addV, ixV, dctOf, seqOf, lstOf, lstW, slV, biV, isV, tyOf, cmpV, augV, setIxV, meTy, m_join, m_app, m_ext, m_pop, m_rev, strsOf_str, strsOf_nil, strsOf_app, strsOf_mapf, strsOf_map, Option.bind_some, Option.map_some, atI, ixN, ↓ok_if, ↓ok_map, ↓ok_bind, ↓o2_if, ↓o3_if]
    refine pick_ok D.toHasDraw (by omega) rfl hB2 (by omega) (by decide) (by decide) fun d3 o3 d30 d31 hB3 => ?_
    simp -dsimp [↓w_var, ↓w_cst, ↓w_bty, ↓w_glob, ↓w_bin, ↓w_neg, ↓w_cmp, ↓w_chain, ↓w_and, ↓w_or, ↓w_not, ↓w_ite, ↓w_lst, ↓w_tup, ↓w_ix, ↓w_sl, ↓w_lc, ↓w_call, ↓w_pcall, ↓w_new, ↓w_bi, ↓w_me, ↓w_dsp, ↓wt_nil, ↓wt_and, ↓wt_or, ↓wt_not, ↓wt_val, ↓wa_nil, ↓wa_cons, ↓wb_nil, ↓wb_cons, ↓wo_nil, ↓wo_cons, ↓ws_nil, ↓ws_seq, ↓ws_set, ↓ws_setT, ↓ws_setIx, ↓ws_aug, ↓ws_ifs, ↓ws_for, ↓ws_whl, ↓ws_ret, ↓ws_retN, ↓ws_expr, ↓ws_pass, ↓ws_brk, ↓ws_setO, ↓ws_retO, ↓ws_appO, ↓ws_extO, ↓ws_revO, ↓ws_putO, ↓ws_par, ↓ws_wipe, ↓ws_frz, ↓ok_some, ↓ok_none, ↓o2_some, ↓o2_none, ↓o3_some, ↓o3_none, ↓seqQ_nx, ↓seqQ_rt, ↓seqQ_bk, ↓seqQ_ct, ↓retQ_rt, ↓retQ_nx, ↓turnQ_nx, ↓turnQ_rt, ↓turnQ_bk, ↓turnQ_ct, ↓wipeQ, ↓w_runF, for_en, for_zp, lc_en, lc_zp, wipeE, flV', asg, asgs, parV, Src.get, srcOf, seqSrc, sizeLine, newV, binV, addV, ixV, dctOf, seqOf, lstOf, lstW, slV, biV, isV, tyOf, cmpV, augV, setIxV, meTy, m_join, m_app, m_ext, m_pop, m_rev, strsOf_str, strsOf_nil, strsOf_app, strsOf_mapf, strsOf_map, Option.bind_some, Option.map_some, atI, ixN, ↓ok_if, ↓ok_map, ↓ok_bind, ↓o2_if, ↓o3_if]
    refine pick_ok D.toHasDraw (by omega) rfl hB3 (by omega) (by decide) (by decide) fun d4 o4 d40 d41 hB4 => ?_
    have hd3 : d = 3 ∨ d = 4 ∨ d = 5 := by omega
    rcases hd3 with rfl | rfl | rfl
    · simp -dsimp [↓w_var, ↓w_cst, ↓w_bty, ↓w_glob, ↓w_bin, ↓w_neg, ↓w_cmp, ↓w_chain, ↓w_and, ↓w_or, ↓w_not, ↓w_ite, ↓w_lst, ↓w_tup, ↓w_ix, ↓w_sl, ↓w_lc, ↓w_call, ↓w_pcall, ↓w_new, ↓w_bi, ↓w_me, ↓w_dsp, ↓wt_nil, ↓wt_and, ↓wt_or, ↓wt_not, ↓wt_val, ↓wa_nil, ↓wa_cons, ↓wb_nil, ↓wb_cons, ↓wo_nil, ↓wo_cons, ↓ws_nil, ↓ws_seq, ↓ws_set, ↓ws_setT, ↓ws_setIx, ↓ws_aug, ↓ws_ifs, ↓ws_for, ↓ws_whl, ↓ws_ret, ↓ws_retN, ↓ws_expr, ↓ws_pass, ↓ws_brk, ↓ws_setO, ↓ws_retO, ↓ws_appO, ↓ws_extO, ↓ws_revO, ↓ws_putO, ↓ws_par, ↓ws_wipe, ↓ws_frz, ↓ok_some, ↓ok_none, ↓o2_some, ↓o2_none, ↓o3_some, ↓o3_none, ↓seqQ_nx, ↓seqQ_rt, ↓seqQ_bk, ↓seqQ_ct, ↓retQ_rt, ↓retQ_nx, ↓turnQ_nx, ↓turnQ_rt, ↓turnQ_bk, ↓turnQ_ct, ↓wipeQ, ↓w_runF, for_en, for_zp, lc_en, lc_zp, wipeE, flV', asg, asgs, parV, Src.get, srcOf, seqSrc, sizeLine, newV, binV, addV, ixV, dctOf, seqOf, lstOf, lstW, slV, biV, isV, tyOf, cmpV, augV, setIxV, meTy, m_join, m_app, m_ext, m_pop, m_rev, strsOf_str, strsOf_nil, strsOf_app, strsOf_mapf, strsOf_map, Option.bind_some, Option.map_some, atI, ixN, ↓ok_if, ↓ok_map, ↓ok_bind, ↓o2_if, ↓o3_if]
      exact ⟨_, o4, rfl, rfl, by unfold in30; omega, hB4.mono (by omega)⟩
    · simp -dsimp [↓w_var, ↓w_cst, ↓w_bty, ↓w_glob, ↓w_bin, ↓w_neg, ↓w_cmp, ↓w_chain, ↓w_and, ↓w_or, ↓w_not, ↓w_ite, ↓w_lst, ↓w_tup, ↓w_ix, ↓w_sl, ↓w_lc, ↓w_call, ↓w_pcall, ↓w_new, ↓w_bi, ↓w_me, ↓w_dsp, ↓wt_nil, ↓wt_and, ↓wt_or, ↓wt_not, ↓wt_val, ↓wa_nil, ↓wa_cons, ↓wb_nil, ↓wb_cons, ↓wo_nil, ↓wo_cons, ↓ws_nil, ↓ws_seq, ↓ws_set, ↓ws_setT, ↓ws_setIx, ↓ws_aug, ↓ws_ifs, ↓ws_for, ↓ws_whl, ↓ws_ret, ↓ws_retN, ↓ws_expr, ↓ws_pass, ↓ws_brk, ↓ws_setO, ↓ws_retO, ↓ws_appO, ↓ws_extO, ↓ws_revO, ↓ws_putO, ↓ws_par, ↓ws_wipe, ↓ws_frz, ↓ok_some, ↓ok_none, ↓o2_some, ↓o2_none, ↓o3_some, ↓o3_none, ↓seqQ_nx, ↓seqQ_rt, ↓seqQ_bk, ↓seqQ_ct, ↓retQ_rt, ↓retQ_nx, ↓turnQ_nx, ↓turnQ_rt, ↓turnQ_bk, ↓turnQ_ct, ↓wipeQ, ↓w_runF, for_en, for_zp, lc_en, lc_zp, wipeE, flV', asg, asgs, parV, Src.get, srcOf, seqSrc, sizeLine, newV, binV, addV, ixV, dctOf, seqOf, lstOf, lstW, slV, biV, isV, tyOf, cmpV, augV, setIxV, meTy, m_join, m_app, m_ext, m_pop, m_rev, strsOf_str, strsOf_nil, strsOf_app, strsOf_mapf, strsOf_map, Option.bind_some, Option.map_some, atI, ixN, ↓ok_if, ↓ok_map, ↓ok_bind, ↓o2_if, ↓o3_if]
      exact ⟨_, o4, rfl, rfl, by unfold in30; omega, hB4.mono (by omega)⟩
    · simp -dsimp [↓w_var, ↓w_cst, ↓w_bty, ↓w_glob, ↓w_bin, ↓w_neg, ↓w_cmp, ↓w_chain, ↓w_and, ↓w_or, ↓w_not, ↓w_ite, ↓w_lst, ↓w_tup, ↓w_ix, ↓w_sl, ↓w_lc, ↓w_call, ↓w_pcall, ↓w_new, ↓w_bi, ↓w_me, ↓w_dsp, ↓wt_nil, ↓wt_and, ↓wt_or, ↓wt_not, ↓wt_val, ↓wa_nil, ↓wa_cons, ↓wb_nil, ↓wb_cons, ↓wo_nil, ↓wo_cons, ↓ws_nil, ↓ws_seq, ↓ws_set, ↓ws_setT, ↓ws_setIx, ↓ws_aug, ↓ws_ifs, ↓ws_for, ↓ws_whl, ↓ws_ret, ↓ws_retN, ↓ws_expr, ↓ws_pass, ↓ws_brk, ↓ws_setO, ↓ws_retO, ↓ws_appO, ↓ws_extO, ↓ws_revO, ↓ws_putO, ↓ws_par, ↓ws_wipe, ↓ws_frz, ↓ok_some, ↓ok_none, ↓o2_some, ↓o2_none, ↓o3_some, ↓o3_none, ↓seqQ_nx, ↓seqQ_rt, ↓seqQ_bk, ↓seqQ_ct, ↓retQ_rt, ↓retQ_nx, ↓turnQ_nx, ↓turnQ_rt, ↓turnQ_bk, ↓turnQ_ct, ↓wipeQ, ↓w_runF, for_en, for_zp, lc_en, lc_zp, wipeE, flV', asg, asgs, parV, Src.get, srcOf, seqSrc, sizeLine, newV, binV, addV, ixV, dctOf, seqOf, lstOf, lstW, slV, biV, isV, tyOf, cmpV, augV, setIxV, meTy, m_join, m_app, m_ext, m_pop, m_rev, strsOf_str, strsOf_nil, strsOf_app, strsOf_mapf, strsOf_map, Option.bind_some, Option.map_some, atI, ixN, ↓ok_if, ↓ok_map, ↓ok_bind, ↓o2_if, ↓o3_if]
      exact ⟨_, o4, rfl, rfl, by unfold in30; omega, hB4.mono (by omega)⟩
/-- in a frame -/
theorem any_word_ok (D : HasAny W) {o : Ob} {B a : Nat} {h : AH} (hk : 4 ≤ k) (ha : h[a]? = some o) (hB : Dr B o) (hb : B < 2 ^ 40) {Q : Vl → AH → Prop} (q : ∀ w o', WordS w → Dr (B + 12) o' → Q (.str w) (h.set a o')) : O2 (frm (W.C k 7) [.ref a] h) Q := by
  obtain ⟨w, o', e, hw, hB'⟩ := any_word_run D hk hB hb
  exact ⟨_, _, frm_ref1 (vs := []) ha rfl rfl hB.nr hB'.nr e rfl, q w o' hw hB'⟩
theorem any_number_ok (D : HasAny W) {o : Ob} {B a : Nat} {h : AH} (hk : 3 ≤ k) (ha : h[a]? = some o) (hB : Dr B o) (hb : B < 2 ^ 40) {Q : Vl → AH → Prop} (q : ∀ n o', in30 n → Dr (B + 4) o' → Q (.int n) (h.set a o')) : O2 (frm (W.C k 9) [.ref a] h) Q := by
  obtain ⟨v, h', e, n, o', rfl, rfl, hw, hB'⟩ := any_number_run D hk hB hb
  exact ⟨_, _, frm_ref1 (vs := []) ha rfl rfl hB.nr hB'.nr e rfl, q n o' hw hB'⟩
end
end FK

/-! ### drawn terms -/
namespace FK
open PySem PySem.Spec PyProof.Rows L2
/-- _law_any_term: 0 law_left_here@, 1 law_deep, 2 law_room@, 3 law_way, 4 law_head, 5 law_one, 6 law_many, 7 law_k -/
def F.law_any_term_e0 : Ex := (.pcall 10 (.cons (.var 0) (.cons (.bin .Sub (.var 1) (.cst (.int 1))) (.cons (.var 2) .nil))))
def F.law_any_term_body : Sx := (.seq (.set 3 (.pcall 6 (.cons (.var 0) (.cons (.cst (.int 8)) .nil)))) (.seq (.setIx (.var 2) (.cst (.int 2)) (.bin .Sub (.ix (.var 2) (.cst (.int 2))) (.cst (.int 1)))) (.seq (.ifs (.val (.cmp .Lt (.ix (.var 2) (.cst (.int 2))) (.cst (.int 0)))) (.seq (.ret (.tup (.cons (.cst (.str "number")) (.cons (.var 3) .nil)))) .nil) .nil) (.seq (.ifs (.or (.val (.cmp .Lt (.var 1) (.cst (.int 2)))) (.val (.cmp .Lt (.var 3) (.cst (.int 4))))) (.seq (.ret (.ite (.val (.cmp .Eq (.bin .Mod (.var 3) (.cst (.int 2))) (.cst (.int 0)))) (.tup (.cons (.cst (.str "number")) (.cons (.pcall 9 (.cons (.var 0) .nil)) .nil))) (.tup (.cons (.cst (.str "name")) (.cons (.pcall 7 (.cons (.var 0) .nil)) .nil))))) .nil) .nil) (.seq (.ifs (.val (.cmp .Lt (.var 3) (.cst (.int 6)))) (.seq (.set 4 (.ix (.lst (.cons (.cst (.str "add")) (.cons (.cst (.str "take")) (.cons (.cst (.str "times")) (.cons (.cst (.str "less")) .nil))))) (.pcall 6 (.cons (.var 0) (.cons (.cst (.int 4)) .nil))))) (.seq (.set 5 (.pcall 10 (.cons (.var 0) (.cons (.bin .Sub (.var 1) (.cst (.int 1))) (.cons (.var 2) .nil))))) (.seq (.ret (.tup (.cons (.var 4) (.cons (.var 5) (.cons (.pcall 10 (.cons (.var 0) (.cons (.bin .Sub (.var 1) (.cst (.int 1))) (.cons (.var 2) .nil)))) .nil))))) .nil))) .nil) (.seq (.par [(5, false), (6, false)] (.cons (.pcall 10 (.cons (.var 0) (.cons (.bin .Sub (.var 1) (.cst (.int 1))) (.cons (.var 2) .nil)))) (.cons (.pcall 6 (.cons (.var 0) (.cons (.cst (.int 5)) .nil))) .nil))) (.seq (.ret (.tup (.cons (.cst (.str "ask")) (.cons (.var 5) (.cons (.bi .tuple (.cons (.lc .rng (.cons (.var 6) .nil) (.name 7) [7] .nil F.law_any_term_e0) .nil)) .nil))))) .nil)))))))
def F.law_any_term : Fn := ⟨3, 8, F.law_any_term_body⟩
theorem pins_app : ∀ {us vs : List Vl} {ns : List Nat}, noRefs us = true → pins (us ++ vs) ns = (pins vs ns).map fun p => (us.map lendV ++ p.1, p.2)
  | [], vs, ns, _ => by simp only [List.nil_append, List.map_nil]; cases pins vs ns <;> rfl
  | u :: us, vs, ns, h => by
    simp only [noRefs, Bool.and_eq_true] at h
    have h0 : refNo u = none := by cases u <;> first | rfl | (simp [noRef] at h)
    simp only [List.cons_append, pins, h0, h.1, if_true, pins_app h.2]
    cases pins vs ns <;> rfl
/-- a call that is handed two lists that it may change, and plain things -/
theorem frm_ref2 {g : List Vl → AH → Option (Vl × AH)} {h : AH} {us ws : List Vl} {u v : Vl} {a b : Nat} {o1 o2 o1' o2' : Ob} (hab : a ≠ b) (ha : h[a]? = some o1) (hb : h[b]? = some o2) (hu : noRefs us = true) (hw : noRefs ws = true) (bu : anyBw us = false) (bw : anyBw ws = false)
    (n1 : noRefO o1 = true) (n2 : noRefO o2 = true) (n1' : noRefO o1' = true) (n2' : noRefO o2' = true) (hg : g (.ref 0 :: (us.map lendV ++ .ref 1 :: ws.map lendV)) [o1, o2] = some (v, [o1', o2'])) (ho : outV 2 [o1', o2'] v = some u) :
    frm g (.ref a :: (us ++ .ref b :: ws)) h = some (u, (h.set a o1').set b o2') := by
  have hp : pins (.ref a :: (us ++ .ref b :: ws)) [] = some (.ref 0 :: (us.map lendV ++ .ref 1 :: ws.map lendV), [a, b]) := by
    simp [pins, refNo, pins_app hu, pins_pure hw, Ne.symm hab]
  have hb2 : anyBw (.ref a :: (us ++ .ref b :: ws)) = false := by
    have : ∀ l, anyBw l = false → anyBw (l ++ .ref b :: ws) = false := by
      intro l
      induction l with
      | nil => intro _; simpa using bw
      | cons x l ih => intro hl; cases x <;> first | (simp at hl ⊢; exact ih hl) | (simp at hl)
    simpa using this us bu
  simp [frm, hp, getAll, ha, hb, n1, n2, run0, hg, ho, n1', n2', putAll, hb2]
mutual
/-- of words, and of numbers of at most thirty figures -/
def Tm.gw : Tm → Prop
  | .num n => in30 n
  | .nm (.wd w) => WordS w
  | .nm (.ow _ _) => False
  | .cod _ => False
  | .two _ a b => a.gw ∧ b.gw
  | .ask a l => a.gw ∧ Tm.gws l
def Tm.gws : List Tm → Prop
  | [] => True
  | t :: l => t.gw ∧ Tm.gws l
end
mutual
theorem Tm.gw_ok : ∀ t : Tm, t.gw → t.ok ∧ t.named
  | .num n, h => by simp only [Tm.gw] at h; simp only [Tm.ok, Tm.named]; exact ⟨h.ok, trivial⟩
  | .nm (.wd w), h => by simp only [Tm.gw] at h; simp only [Tm.ok, Tm.named, Nm.ok, Nm.named]; exact ⟨h.ok, trivial⟩
  | .nm (.ow _ _), h => by simp only [Tm.gw] at h
  | .cod _, h => by simp only [Tm.gw] at h
  | .two _ a b, h => by
    simp only [Tm.gw] at h
    simp only [Tm.ok, Tm.named]
    exact ⟨⟨(Tm.gw_ok a h.1).1, (Tm.gw_ok b h.2).1⟩, (Tm.gw_ok a h.1).2, (Tm.gw_ok b h.2).2⟩
  | .ask a l, h => by
    simp only [Tm.gw] at h
    simp only [Tm.ok, Tm.named]
    exact ⟨⟨(Tm.gw_ok a h.1).1, (Tm.gws_ok l h.2).1⟩, (Tm.gw_ok a h.1).2, (Tm.gws_ok l h.2).2⟩
theorem Tm.gws_ok : ∀ l : List Tm, Tm.gws l → Tm.oks l ∧ Tm.nameds l
  | [], _ => by simp [Tm.oks, Tm.nameds]
  | t :: l, h => by
    simp only [Tm.gws] at h
    simp only [Tm.oks, Tm.nameds]
    exact ⟨⟨(Tm.gw_ok t h.1).1, (Tm.gws_ok l h.2).1⟩, (Tm.gw_ok t h.1).2, (Tm.gws_ok l h.2).2⟩
end
theorem Tm.gws_of : ∀ {l : List Tm}, (∀ t ∈ l, t.gw) → Tm.gws l
  | [], _ => by simp [Tm.gws]
  | t :: l, h => by simp only [Tm.gws]; exact ⟨h t (by simp), Tm.gws_of fun x hx => h x (List.mem_cons_of_mem _ hx)⟩
/-- nodes, draws of a term so deep -/
def Nd : Nat → Nat
  | 0 => 1
  | d + 1 => 1 + 5 * Nd d
def Pd : Nat → Nat
  | 0 => 20
  | d + 1 => 20 + 5 * Pd d
def roomO (a b c : Int) : Ob := .lst [.int a, .int b, .int c]
def QTerm (dp B : Nat) (a b : Int) (v : Vl) (h : AH) : Prop := ∃ (t : Tm) (o' : Ob) (c : Int), v = t.v ∧ h = [o', roomO a b c] ∧ t.gw ∧ t.d ≤ dp ∧ t.n ≤ Nd dp ∧ Dr (B + Pd dp) o'
section
variable {W : Wd}
structure HasAnyT (W : Wd) : Prop extends HasAny W where
  term : W.fns.lookup 10 = some F.law_any_term
def ITs (dp B : Nat) (a b : Int) (i : Nat) (acc : List Vl) (h' : AH) : Prop := ∃ (ts : List Tm) (o' : Ob) (c' : Int), acc = ts.map Tm.v ∧ ts.length = i ∧ (∀ t ∈ ts, t.gw) ∧ Tm.ds ts ≤ dp ∧ Tm.ns ts ≤ i * Nd dp ∧ h' = [o', roomO a b c'] ∧ Dr (B + i * Pd dp) o'
theorem roomO_nr (a b c : Int) : noRefO (roomO a b c) = true := rfl
/-- a drawn term in a frame, from what its call comes to -/
theorem term_frm {k dp B i j : Nat} {o : Ob} {a b c : Int} {h : AH} (H : O2 (W.C k 10 [.ref 0, .int dp, .ref 1] [o, roomO a b c]) (QTerm dp B a b)) (hB : Dr B o) (hij : i ≠ j) (hi : h[i]? = some o) (hj : h[j]? = some (roomO a b c)) {Q : Vl → AH → Prop}
    (q : ∀ (t : Tm) (o' : Ob) (c' : Int), t.gw → t.d ≤ dp → t.n ≤ Nd dp → Dr (B + Pd dp) o' → Q t.v ((h.set i o').set j (roomO a b c'))) : O2 (frm (W.C k 10) [.ref i, .int dp, .ref j] h) Q := by
  obtain ⟨v, h', e, t, o', c', rfl, rfl, h1, h2, h3, h4⟩ := H
  refine ⟨_, _, frm_ref2 (us := [.int dp]) (ws := []) (u := t.v) hij hi hj rfl rfl rfl rfl hB.nr rfl h4.nr rfl e ?_, q t o' c' h1 h2 h3 h4⟩
  obtain ⟨xs, ex⟩ := t.v_tup
  have := t.v_nr
  rw [ex] at this ⊢
  simp [outV, this]
theorem any_term_run (D : HasAnyT W) : ∀ (dp k B : Nat) (o : Ob) (a b c : Int), 1 ≤ dp → dp ≤ 5 → dp + 5 ≤ k → Dr B o → B + Pd dp ≤ 2 ^ 40 → O2 (W.C k 10 [.ref 0, .int dp, .ref 1] [o, roomO a b c]) (QTerm dp B a b) := by
  intro dp
  induction dp with
  | zero => intro k B o a b c h; omega
  | succ dp ih =>
    intro k B o a b c _ h5 hk hB hb
    obtain ⟨k, rfl⟩ : ∃ j, k = j + 1 := ⟨k - 1, by omega⟩
    rw [Wd.C_run D.term]
    have hb : B + (20 + 5 * Pd dp) ≤ 2 ^ 40 := hb
    have hP : 20 ≤ Pd dp := by cases dp <;> simp only [Pd] <;> omega
    have hPb : Pd dp ≤ 100000 := by
      have : dp = 0 ∨ dp = 1 ∨ dp = 2 ∨ dp = 3 ∨ dp = 4 := by omega
      rcases this with rfl | rfl | rfl | rfl | rfl <;> decide
    have hN : 1 ≤ Nd dp := by cases dp <;> simp only [Nd] <;> omega
    simp -dsimp [F.law_any_term, F.law_any_term_body, ↓w_var, ↓w_cst, ↓w_bty, ↓w_glob, ↓w_bin, ↓w_neg, ↓w_cmp, ↓w_chain, ↓w_and, ↓w_or, ↓w_not, ↓w_ite, ↓w_lst, ↓w_tup, ↓w_ix, ↓w_sl, ↓w_lc, ↓w_call, ↓w_pcall, ↓w_new, ↓w_bi, ↓w_me, ↓w_dsp, ↓wt_nil, ↓wt_and, ↓wt_or, ↓wt_not, ↓wt_val, ↓wa_nil, ↓wa_cons, ↓wb_nil, ↓wb_cons, ↓wo_nil, ↓wo_cons, ↓ws_nil, ↓ws_seq, ↓ws_set, ↓ws_setT, ↓ws_setIx, ↓ws_aug, ↓ws_ifs, ↓ws_for, ↓ws_whl, ↓ws_ret, ↓ws_retN, ↓ws_expr, ↓ws_pass, ↓ws_brk, ↓ws_setO, ↓ws_retO, ↓ws_appO, ↓ws_extO, ↓ws_revO, ↓ws_putO, ↓ws_par, ↓ws_wipe, ↓ws_frz, ↓ok_some, ↓ok_none, ↓o2_some, ↓o2_none, ↓o3_some, ↓o3_none, ↓seqQ_nx, ↓seqQ_rt, ↓seqQ_bk, ↓seqQ_ct, ↓retQ_rt, ↓retQ_nx, ↓turnQ_nx, ↓turnQ_rt, ↓turnQ_bk, ↓turnQ_ct, ↓wipeQ, ↓w_runF, for_en, for_zp, lc_en, lc_zp, wipeE, flV', asg, asgs, parV, Src.get, srcOf, seqSrc, sizeLine, newV, binV, addV, ixV, dctOf, seqOf, lstOf, lstW, slV, biV, isV, tyOf, cmpV, augV, setIxV, meTy, m_join, m_app, m_ext, m_pop, m_rev, strsOf_str, strsOf_nil, strsOf_app, strsOf_mapf, strsOf_map, Option.bind_some, Option.map_some, atI, ixN, ↓ok_if, ↓ok_map, ↓ok_bind, ↓o2_if, ↓o3_if]
    refine pick_ok D.toHasDraw (by omega) rfl hB (by omega) (by decide) (by decide) fun d o1 d0 d1 hB1 => ?_
    by_cases hc : c - 1 < 0
    · simp -dsimp [↓w_var, ↓w_cst, ↓w_bty, ↓w_glob, ↓w_bin, ↓w_neg, ↓w_cmp, ↓w_chain, ↓w_and, ↓w_or, ↓w_not, ↓w_ite, ↓w_lst, ↓w_tup, ↓w_ix, ↓w_sl, ↓w_lc, ↓w_call, ↓w_pcall, ↓w_new, ↓w_bi, ↓w_me, ↓w_dsp, ↓wt_nil, ↓wt_and, ↓wt_or, ↓wt_not, ↓wt_val, ↓wa_nil, ↓wa_cons, ↓wb_nil, ↓wb_cons, ↓wo_nil, ↓wo_cons, ↓ws_nil, ↓ws_seq, ↓ws_set, ↓ws_setT, ↓ws_setIx, ↓ws_aug, ↓ws_ifs, ↓ws_for, ↓ws_whl, ↓ws_ret, ↓ws_retN, ↓ws_expr, ↓ws_pass, ↓ws_brk, ↓ws_setO, ↓ws_retO, ↓ws_appO, ↓ws_extO, ↓ws_revO, ↓ws_putO, ↓ws_par, ↓ws_wipe, ↓ws_frz, ↓ok_some, ↓ok_none, ↓o2_some, ↓o2_none, ↓o3_some, ↓o3_none, ↓seqQ_nx, ↓seqQ_rt, ↓seqQ_bk, ↓seqQ_ct, ↓retQ_rt, ↓retQ_nx, ↓turnQ_nx, ↓turnQ_rt, ↓turnQ_bk, ↓turnQ_ct, ↓wipeQ, ↓w_runF, for_en, for_zp, lc_en, lc_zp, wipeE, flV', asg, asgs, parV, Src.get, srcOf, seqSrc, sizeLine, newV, binV, addV, ixV, dctOf, seqOf, lstOf, lstW, slV, biV, isV, tyOf, cmpV, augV, setIxV, meTy, m_join, m_app, m_ext, m_pop, m_rev, strsOf_str, strsOf_nil, strsOf_app, strsOf_mapf, strsOf_map, Option.bind_some, Option.map_some, atI, ixN, ↓ok_if, ↓ok_map, ↓ok_bind, ↓o2_if, ↓o3_if, roomO, hc]
      exact ⟨.num d, o1, c - 1, by simp only [Tm.v], rfl, by simp only [Tm.gw, in30]; omega, by simp only [Tm.d]; omega, by simp only [Tm.n, Nd]; omega, hB1.mono (by simp only [Pd]; omega)⟩
    by_cases hl : (dp : Int) + 1 < 2 ∨ d < 4
    · have num : ∀ {n : Int} {o2 : Ob}, in30 n → Dr (B + 1 + 4) o2 → QTerm (dp + 1) B a b (.tup [.str (Str.ofString "number"), .int n]) [o2, roomO a b (c - 1)] := fun {n o2} hn hB2 =>
        ⟨.num n, o2, c - 1, by simp only [Tm.v], rfl, by simp only [Tm.gw]; exact hn, by simp only [Tm.d]; omega, by simp only [Tm.n, Nd]; omega, hB2.mono (by simp only [Pd]; omega)⟩
      have nam : ∀ {w : Str} {o2 : Ob}, WordS w → Dr (B + 1 + 12) o2 → QTerm (dp + 1) B a b (.tup [.str (Str.ofString "name"), .str w]) [o2, roomO a b (c - 1)] := fun {w o2} hw hB2 =>
        ⟨.nm (.wd w), o2, c - 1, by simp only [Tm.v, Nm.tm], rfl, by simp only [Tm.gw]; exact hw, by simp only [Tm.d]; omega, by simp only [Tm.n, Nd]; omega, hB2.mono (by simp only [Pd]; omega)⟩
      by_cases h2 : d % 2 = 0
      · have go : ∀ Q' : Vl → AH → Prop, (∀ n o2, in30 n → Dr (B + 1 + 4) o2 → Q' (.int n) [o2, roomO a b (c - 1)]) → O2 (frm (W.C k 9) [.ref 0] [o1, roomO a b (c - 1)]) Q' := fun Q' q => any_number_ok D.toHasAny (by omega) rfl hB1 (by omega) q
        rcases hl with hl | hl
        · simp -dsimp [↓w_var, ↓w_cst, ↓w_bty, ↓w_glob, ↓w_bin, ↓w_neg, ↓w_cmp, ↓w_chain, ↓w_and, ↓w_or, ↓w_not, ↓w_ite, ↓w_lst, ↓w_tup, ↓w_ix, ↓w_sl, ↓w_lc, ↓w_call, ↓w_pcall, ↓w_new, ↓w_bi, ↓w_me, ↓w_dsp, ↓wt_nil, ↓wt_and, ↓wt_or, ↓wt_not, ↓wt_val, ↓wa_nil, ↓wa_cons, ↓wb_nil, ↓wb_cons, ↓wo_nil, ↓wo_cons, ↓ws_nil, ↓ws_seq, ↓ws_set, ↓ws_setT, ↓ws_setIx, ↓ws_aug, ↓ws_ifs, ↓ws_for, ↓ws_whl, ↓ws_ret, ↓ws_retN, ↓ws_expr, ↓ws_pass, ↓ws_brk, ↓ws_setO, ↓ws_retO, ↓ws_appO, ↓ws_extO, ↓ws_revO, ↓ws_putO, ↓ws_par, ↓ws_wipe, ↓ws_frz, ↓ok_some, ↓ok_none, ↓o2_some, ↓o2_none, ↓o3_some, ↓o3_none, ↓seqQ_nx, ↓seqQ_rt, ↓seqQ_bk, ↓seqQ_ct, ↓retQ_rt, ↓retQ_nx, ↓turnQ_nx, ↓turnQ_rt, ↓turnQ_bk, ↓turnQ_ct, ↓wipeQ, ↓w_runF, for_en, for_zp, lc_en, lc_zp, wipeE, flV', asg, asgs, parV, Src.get, srcOf, seqSrc, sizeLine, newV, binV, addV, ixV, dctOf, seqOf, lstOf, lstW, slV, biV, isV, tyOf, cmpV, augV, setIxV, meTy, m_join, m_app, m_ext, m_pop, m_rev, strsOf_str, strsOf_nil, strsOf_app, strsOf_mapf, strsOf_map, Option.bind_some, Option.map_some, atI, ixN, ↓ok_if, ↓ok_map, ↓ok_bind, ↓o2_if, ↓o3_if, FK.eqV, roomO, hc, hl, h2]
          refine go _ fun n o2 hn hB2 => ?_
          simp -dsimp [↓w_var, ↓w_cst, ↓w_bty, ↓w_glob, ↓w_bin, ↓w_neg, ↓w_cmp, ↓w_chain, ↓w_and, ↓w_or, ↓w_not, ↓w_ite, ↓w_lst, ↓w_tup, ↓w_ix, ↓w_sl, ↓w_lc, ↓w_call, ↓w_pcall, ↓w_new, ↓w_bi, ↓w_me, ↓w_dsp, ↓wt_nil, ↓wt_and, ↓wt_or, ↓wt_not, ↓wt_val, ↓wa_nil, ↓wa_cons, ↓wb_nil, ↓wb_cons, ↓wo_nil, ↓wo_cons, ↓ws_nil, ↓ws_seq, ↓ws_set, ↓ws_setT, ↓ws_setIx, ↓ws_aug, ↓ws_ifs, ↓ws_for, ↓ws_whl, ↓ws_ret, ↓ws_retN, ↓ws_expr, ↓ws_pass, ↓ws_brk, ↓ws_setO, ↓ws_retO, ↓ws_appO, ↓ws_extO, ↓ws_revO, ↓ws_putO, ↓ws_par, ↓ws_wipe, ↓ws_frz, ↓ok_some, ↓ok_none, ↓o2_some, ↓o2_none, ↓o3_some, ↓o3_none, ↓seqQ_nx, ↓seqQ_rt, ↓seqQ_bk, ↓seqQ_ct, ↓retQ_rt, ↓retQ_nx, ↓turnQ_nx, ↓turnQ_rt, ↓turnQ_bk, ↓turnQ_ct, ↓wipeQ, ↓w_runF, for_en, for_zp, lc_en, lc_zp, wipeE, flV', asg, asgs, parV, Src.get, srcOf, seqSrc, sizeLine, newV]
          exact num hn hB2
        · simp -dsimp [↓w_var, ↓w_cst, ↓w_bty, ↓w_glob, ↓w_bin, ↓w_neg, ↓w_cmp, ↓w_chain, ↓w_and, ↓w_or, ↓w_not, ↓w_ite, ↓w_lst, ↓w_tup, ↓w_ix, ↓w_sl, ↓w_lc, ↓w_call, ↓w_pcall, ↓w_new, ↓w_bi, ↓w_me, ↓w_dsp, ↓wt_nil, ↓wt_and, ↓wt_or, ↓wt_not, ↓wt_val, ↓wa_nil, ↓wa_cons, ↓wb_nil, ↓wb_cons, ↓wo_nil, ↓wo_cons, ↓ws_nil, ↓ws_seq, ↓ws_set, ↓ws_setT, ↓ws_setIx, ↓ws_aug, ↓ws_ifs, ↓ws_for, ↓ws_whl, ↓ws_ret, ↓ws_retN, ↓ws_expr, ↓ws_pass, ↓ws_brk, ↓ws_setO, ↓ws_retO, ↓ws_appO, ↓ws_extO, ↓ws_revO, ↓ws_putO, ↓ws_par, ↓ws_wipe, ↓ws_frz, ↓ok_some, ↓ok_none, ↓o2_some, ↓o2_none, ↓o3_some, ↓o3_none, ↓seqQ_nx, ↓seqQ_rt, ↓seqQ_bk, ↓seqQ_ct, ↓retQ_rt, ↓retQ_nx, ↓turnQ_nx, ↓turnQ_rt, ↓turnQ_bk, ↓turnQ_ct, ↓wipeQ, ↓w_runF, for_en, for_zp, lc_en, lc_zp, wipeE, flV', asg, asgs, parV, Src.get, srcOf, seqSrc, sizeLine, newV, binV, addV, ixV, dctOf, seqOf, lstOf, lstW, slV, biV, isV, tyOf, cmpV, augV, setIxV, meTy, m_join, m_app, m_ext, m_pop, m_rev, strsOf_str, strsOf_nil, strsOf_app, strsOf_mapf, strsOf_map, Option.bind_some, Option.map_some, atI, ixN, ↓ok_if, ↓ok_map, ↓ok_bind, ↓o2_if, ↓o3_if, FK.eqV, roomO, hc, hl, h2]
          refine go _ fun n o2 hn hB2 => ?_
          simp -dsimp [↓w_var, ↓w_cst, ↓w_bty, ↓w_glob, ↓w_bin, ↓w_neg, ↓w_cmp, ↓w_chain, ↓w_and, ↓w_or, ↓w_not, ↓w_ite, ↓w_lst, ↓w_tup, ↓w_ix, ↓w_sl, ↓w_lc, ↓w_call, ↓w_pcall, ↓w_new, ↓w_bi, ↓w_me, ↓w_dsp, ↓wt_nil, ↓wt_and, ↓wt_or, ↓wt_not, ↓wt_val, ↓wa_nil, ↓wa_cons, ↓wb_nil, ↓wb_cons, ↓wo_nil, ↓wo_cons, ↓ws_nil, ↓ws_seq, ↓ws_set, ↓ws_setT, ↓ws_setIx, ↓ws_aug, ↓ws_ifs, ↓ws_for, ↓ws_whl, ↓ws_ret, ↓ws_retN, ↓ws_expr, ↓ws_pass, ↓ws_brk, ↓ws_setO, ↓ws_retO, ↓ws_appO, ↓ws_extO, ↓ws_revO, ↓ws_putO, ↓ws_par, ↓ws_wipe, ↓ws_frz, ↓ok_some, ↓ok_none, ↓o2_some, ↓o2_none, ↓o3_some, ↓o3_none, ↓seqQ_nx, ↓seqQ_rt, ↓seqQ_bk, ↓seqQ_ct, ↓retQ_rt, ↓retQ_nx, ↓turnQ_nx, ↓turnQ_rt, ↓turnQ_bk, ↓turnQ_ct, ↓wipeQ, ↓w_runF, for_en, for_zp, lc_en, lc_zp, wipeE, flV', asg, asgs, parV, Src.get, srcOf, seqSrc, sizeLine, newV]
          exact num hn hB2
      · have go : ∀ Q' : Vl → AH → Prop, (∀ w o2, WordS w → Dr (B + 1 + 12) o2 → Q' (.str w) [o2, roomO a b (c - 1)]) → O2 (frm (W.C k 7) [.ref 0] [o1, roomO a b (c - 1)]) Q' := fun Q' q => any_word_ok D.toHasAny (by omega) rfl hB1 (by omega) q
        rcases hl with hl | hl
        · simp -dsimp [↓w_var, ↓w_cst, ↓w_bty, ↓w_glob, ↓w_bin, ↓w_neg, ↓w_cmp, ↓w_chain, ↓w_and, ↓w_or, ↓w_not, ↓w_ite, ↓w_lst, ↓w_tup, ↓w_ix, ↓w_sl, ↓w_lc, ↓w_call, ↓w_pcall, ↓w_new, ↓w_bi, ↓w_me, ↓w_dsp, ↓wt_nil, ↓wt_and, ↓wt_or, ↓wt_not, ↓wt_val, ↓wa_nil, ↓wa_cons, ↓wb_nil, ↓wb_cons, ↓wo_nil, ↓wo_cons, ↓ws_nil, ↓ws_seq, ↓ws_set, ↓ws_setT, ↓ws_setIx, ↓ws_aug, ↓ws_ifs, ↓ws_for, ↓ws_whl, ↓ws_ret, ↓ws_retN, ↓ws_expr, ↓ws_pass, ↓ws_brk, ↓ws_setO, ↓ws_retO, ↓ws_appO, ↓ws_extO, ↓ws_revO, ↓ws_putO, ↓ws_par, ↓ws_wipe, ↓ws_frz, ↓ok_some, ↓ok_none, ↓o2_some, ↓o2_none, ↓o3_some, ↓o3_none, ↓seqQ_nx, ↓seqQ_rt, ↓seqQ_bk, ↓seqQ_ct, ↓retQ_rt, ↓retQ_nx, ↓turnQ_nx, ↓turnQ_rt, ↓turnQ_bk, ↓turnQ_ct, ↓wipeQ, ↓w_runF, for_en, for_zp, lc_en, lc_zp, wipeE, flV', asg, asgs, parV, Src.get, srcOf, seqSrc, sizeLine, newV, binV, addV, ixV, dctOf, seqOf, lstOf, lstW, slV, biV, isV, tyOf, cmpV, augV, setIxV, meTy, m_join, m_app, m_ext, m_pop, m_rev, strsOf_str, strsOf_nil, strsOf_app, strsOf_mapf, strsOf_map, Option.bind_some, Option.map_some, atI, ixN, ↓ok_if, ↓ok_map, ↓ok_bind, ↓o2_if, ↓o3_if, FK.eqV, roomO, hc, hl, h2]
          refine go _ fun n o2 hn hB2 => ?_
          simp -dsimp [↓w_var, ↓w_cst, ↓w_bty, ↓w_glob, ↓w_bin, ↓w_neg, ↓w_cmp, ↓w_chain, ↓w_and, ↓w_or, ↓w_not, ↓w_ite, ↓w_lst, ↓w_tup, ↓w_ix, ↓w_sl, ↓w_lc, ↓w_call, ↓w_pcall, ↓w_new, ↓w_bi, ↓w_me, ↓w_dsp, ↓wt_nil, ↓wt_and, ↓wt_or, ↓wt_not, ↓wt_val, ↓wa_nil, ↓wa_cons, ↓wb_nil, ↓wb_cons, ↓wo_nil, ↓wo_cons, ↓ws_nil, ↓ws_seq, ↓ws_set, ↓ws_setT, ↓ws_setIx, ↓ws_aug, ↓ws_ifs, ↓ws_for, ↓ws_whl, ↓ws_ret, ↓ws_retN, ↓ws_expr, ↓ws_pass, ↓ws_brk, ↓ws_setO, ↓ws_retO, ↓ws_appO, ↓ws_extO, ↓ws_revO, ↓ws_putO, ↓ws_par, ↓ws_wipe, ↓ws_frz, ↓ok_some, ↓ok_none, ↓o2_some, ↓o2_none, ↓o3_some, ↓o3_none, ↓seqQ_nx, ↓seqQ_rt, ↓seqQ_bk, ↓seqQ_ct, ↓retQ_rt, ↓retQ_nx, ↓turnQ_nx, ↓turnQ_rt, ↓turnQ_bk, ↓turnQ_ct, ↓wipeQ, ↓w_runF, for_en, for_zp, lc_en, lc_zp, wipeE, flV', asg, asgs, parV, Src.get, srcOf, seqSrc, sizeLine, newV]
          exact nam hn hB2
        · simp -dsimp [↓w_var, ↓w_cst, ↓w_bty, ↓w_glob, ↓w_bin, ↓w_neg, ↓w_cmp, ↓w_chain, ↓w_and, ↓w_or, ↓w_not, ↓w_ite, ↓w_lst, ↓w_tup, ↓w_ix, ↓w_sl, ↓w_lc, ↓w_call, ↓w_pcall, ↓w_new, ↓w_bi, ↓w_me, ↓w_dsp, ↓wt_nil, ↓wt_and, ↓wt_or, ↓wt_not, ↓wt_val, ↓wa_nil, ↓wa_cons, ↓wb_nil, ↓wb_cons, ↓wo_nil, ↓wo_cons, ↓ws_nil, ↓ws_seq, ↓ws_set, ↓ws_setT, ↓ws_setIx, ↓ws_aug, ↓ws_ifs, ↓ws_for, ↓ws_whl, ↓ws_ret, ↓ws_retN, ↓ws_expr, ↓ws_pass, ↓ws_brk, ↓ws_setO, ↓ws_retO, ↓ws_appO, ↓ws_extO, ↓ws_revO, ↓ws_putO, ↓ws_par, ↓ws_wipe, ↓ws_frz, ↓ok_some, ↓ok_none, ↓o2_some, ↓o2_none, ↓o3_some, ↓o3_none, ↓seqQ_nx, ↓seqQ_rt, ↓seqQ_bk, ↓seqQ_ct, ↓retQ_rt, ↓retQ_nx, ↓turnQ_nx, ↓turnQ_rt, ↓turnQ_bk, ↓turnQ_ct, ↓wipeQ, ↓w_runF, for_en, for_zp, lc_en, lc_zp, wipeE, flV', asg, asgs, parV, Src.get, srcOf, seqSrc, sizeLine, newV, binV, addV, ixV, dctOf, seqOf, lstOf, lstW, slV, biV, isV, tyOf, cmpV, augV, setIxV, meTy, m_join, m_app, m_ext, m_pop, m_rev, strsOf_str, strsOf_nil, strsOf_app, strsOf_mapf, strsOf_map, Option.bind_some, Option.map_some, atI, ixN, ↓ok_if, ↓ok_map, ↓ok_bind, ↓o2_if, ↓o3_if, FK.eqV, roomO, hc, hl, h2]
          refine go _ fun n o2 hn hB2 => ?_
          simp -dsimp [↓w_var, ↓w_cst, ↓w_bty, ↓w_glob, ↓w_bin, ↓w_neg, ↓w_cmp, ↓w_chain, ↓w_and, ↓w_or, ↓w_not, ↓w_ite, ↓w_lst, ↓w_tup, ↓w_ix, ↓w_sl, ↓w_lc, ↓w_call, ↓w_pcall, ↓w_new, ↓w_bi, ↓w_me, ↓w_dsp, ↓wt_nil, ↓wt_and, ↓wt_or, ↓wt_not, ↓wt_val, ↓wa_nil, ↓wa_cons, ↓wb_nil, ↓wb_cons, ↓wo_nil, ↓wo_cons, ↓ws_nil, ↓ws_seq, ↓ws_set, ↓ws_setT, ↓ws_setIx, ↓ws_aug, ↓ws_ifs, ↓ws_for, ↓ws_whl, ↓ws_ret, ↓ws_retN, ↓ws_expr, ↓ws_pass, ↓ws_brk, ↓ws_setO, ↓ws_retO, ↓ws_appO, ↓ws_extO, ↓ws_revO, ↓ws_putO, ↓ws_par, ↓ws_wipe, ↓ws_frz, ↓ok_some, ↓ok_none, ↓o2_some, ↓o2_none, ↓o3_some, ↓o3_none, ↓seqQ_nx, ↓seqQ_rt, ↓seqQ_bk, ↓seqQ_ct, ↓retQ_rt, ↓retQ_nx, ↓turnQ_nx, ↓turnQ_rt, ↓turnQ_bk, ↓turnQ_ct, ↓wipeQ, ↓w_runF, for_en, for_zp, lc_en, lc_zp, wipeE, flV', asg, asgs, parV, Src.get, srcOf, seqSrc, sizeLine, newV]
          exact nam hn hB2
    · have hl1 : ¬ (dp : Int) + 1 < 2 := fun z => hl (.inl z)
      have hl2 : ¬ d < 4 := fun z => hl (.inr z)
      have T : ∀ (B : Nat) (o : Ob) (c : Int), Dr B o → B + Pd dp ≤ 2 ^ 40 → ∀ Q' : Vl → AH → Prop, (∀ (t : Tm) (o' : Ob) (c' : Int), t.gw → t.d ≤ dp → t.n ≤ Nd dp → Dr (B + Pd dp) o' → Q' t.v [o', roomO a b c']) → O2 (frm (W.C k 10) [.ref 0, .int dp, .ref 1] [o, roomO a b c]) Q' :=
        fun B o c hB hb Q' q => term_frm (ih k B o a b c (by omega) (by omega) (by omega) hB hb) hB (by decide) rfl rfl q
      by_cases h6 : d < 6
      · simp -dsimp [↓w_var, ↓w_cst, ↓w_bty, ↓w_glob, ↓w_bin, ↓w_neg, ↓w_cmp, ↓w_chain, ↓w_and, ↓w_or, ↓w_not, ↓w_ite, ↓w_lst, ↓w_tup, ↓w_ix, ↓w_sl, ↓w_lc, ↓w_call, ↓w_pcall, ↓w_new, ↓w_bi, ↓w_me, ↓w_dsp, ↓wt_nil, ↓wt_and, ↓wt_or, ↓wt_not, ↓wt_val, ↓wa_nil, ↓wa_cons, ↓wb_nil, ↓wb_cons, ↓wo_nil, ↓wo_cons, ↓ws_nil, ↓ws_seq, ↓ws_set, ↓ws_setT, ↓ws_setIx, ↓ws_aug, ↓ws_ifs, ↓ws_for, ↓ws_whl, ↓ws_ret, ↓ws_retN, ↓ws_expr, ↓ws_pass, ↓ws_brk, ↓ws_setO, ↓ws_retO, ↓ws_appO, ↓ws_extO, ↓ws_revO, ↓ws_putO, ↓ws_par, ↓ws_wipe, ↓ws_frz, ↓ok_some, ↓ok_none, ↓o2_some, ↓o2_none, ↓o3_some, ↓o3_none, ↓seqQ_nx, ↓seqQ_rt, ↓seqQ_bk, ↓seqQ_ct, ↓retQ_rt, ↓retQ_nx, ↓turnQ_nx, ↓turnQ_rt, ↓turnQ_bk, ↓turnQ_ct, ↓wipeQ, ↓w_runF, for_en, for_zp, lc_en, lc_zp, wipeE, flV', asg, asgs, parV, Src.get, srcOf, seqSrc, sizeLine, newV, binV, addV, ixV, dctOf, seqOf, lstOf, lstW, slV, biV, isV, tyOf, cmpV, augV, setIxV, meTy, m_join, m_app, m_ext, m_pop, m_rev, strsOf_str, strsOf_nil, strsOf_app, strsOf_mapf, strsOf_map, Option.bind_some, Option.map_some, atI, ixN, ↓ok_if, ↓ok_map, ↓ok_bind, ↓o2_if, ↓o3_if, roomO, hc, hl1, hl2, h6]
        refine pick_ok D.toHasDraw (by omega) rfl hB1 (by omega) (by decide) (by decide) fun d2 o2 d20 d21 hB2 => ?_
        obtain ⟨x, hx, e⟩ := ix_lst (v := .fl [.str (Str.ofString "add"), .str (Str.ofString "take"), .str (Str.ofString "times"), .str (Str.ofString "less")]) (h := [o2, roomO a b (c - 1)]) rfl rfl (by simp) d20 (by simpa using d21)
        obtain ⟨op, rfl⟩ : ∃ op : Op4, x = .str op.s := by
          simp only [List.mem_cons, List.not_mem_nil, or_false] at hx
          rcases hx with rfl | rfl | rfl | rfl
          · exact ⟨.add, rfl⟩
          · exact ⟨.take, rfl⟩
          · exact ⟨.times, rfl⟩
          · exact ⟨.less, rfl⟩
        refine Ok.of e ?_
        simp -dsimp [↓w_var, ↓w_cst, ↓w_bty, ↓w_glob, ↓w_bin, ↓w_neg, ↓w_cmp, ↓w_chain, ↓w_and, ↓w_or, ↓w_not, ↓w_ite, ↓w_lst, ↓w_tup, ↓w_ix, ↓w_sl, ↓w_lc, ↓w_call, ↓w_pcall, ↓w_new, ↓w_bi, ↓w_me, ↓w_dsp, ↓wt_nil, ↓wt_and, ↓wt_or, ↓wt_not, ↓wt_val, ↓wa_nil, ↓wa_cons, ↓wb_nil, ↓wb_cons, ↓wo_nil, ↓wo_cons, ↓ws_nil, ↓ws_seq, ↓ws_set, ↓ws_setT, ↓ws_setIx, ↓ws_aug, ↓ws_ifs, ↓ws_for, ↓ws_whl, ↓ws_ret, ↓ws_retN, ↓ws_expr, ↓ws_pass, ↓ws_brk, ↓ws_setO, ↓ws_retO, ↓ws_appO, ↓ws_extO, ↓ws_revO, ↓ws_putO, ↓ws_par, ↓ws_wipe, ↓ws_frz, ↓ok_some, ↓ok_none, ↓o2_some, ↓o2_none, ↓o3_some, ↓o3_none, ↓seqQ_nx, ↓seqQ_rt, ↓seqQ_bk, ↓seqQ_ct, ↓retQ_rt, ↓retQ_nx, ↓turnQ_nx, ↓turnQ_rt, ↓turnQ_bk, ↓turnQ_ct, ↓wipeQ, ↓w_runF, for_en, for_zp, lc_en, lc_zp, wipeE, flV', asg, asgs, parV, Src.get, srcOf, seqSrc, sizeLine, newV, binV, addV, ixV, dctOf, seqOf, lstOf, lstW, slV, biV, isV, tyOf, cmpV, augV, setIxV, meTy, m_join, m_app, m_ext, m_pop, m_rev, strsOf_str, strsOf_nil, strsOf_app, strsOf_mapf, strsOf_map, Option.bind_some, Option.map_some, atI, ixN, ↓ok_if, ↓ok_map, ↓ok_bind, ↓o2_if, ↓o3_if]
        refine T _ o2 (c - 1) hB2 (by omega) _ fun t1 o3 c3 g1 e1 f1 hB3 => ?_
        simp -dsimp [↓w_var, ↓w_cst, ↓w_bty, ↓w_glob, ↓w_bin, ↓w_neg, ↓w_cmp, ↓w_chain, ↓w_and, ↓w_or, ↓w_not, ↓w_ite, ↓w_lst, ↓w_tup, ↓w_ix, ↓w_sl, ↓w_lc, ↓w_call, ↓w_pcall, ↓w_new, ↓w_bi, ↓w_me, ↓w_dsp, ↓wt_nil, ↓wt_and, ↓wt_or, ↓wt_not, ↓wt_val, ↓wa_nil, ↓wa_cons, ↓wb_nil, ↓wb_cons, ↓wo_nil, ↓wo_cons, ↓ws_nil, ↓ws_seq, ↓ws_set, ↓ws_setT, ↓ws_setIx, ↓ws_aug, ↓ws_ifs, ↓ws_for, ↓ws_whl, ↓ws_ret, ↓ws_retN, ↓ws_expr, ↓ws_pass, ↓ws_brk, ↓ws_setO, ↓ws_retO, ↓ws_appO, ↓ws_extO, ↓ws_revO, ↓ws_putO, ↓ws_par, ↓ws_wipe, ↓ws_frz, ↓ok_some, ↓ok_none, ↓o2_some, ↓o2_none, ↓o3_some, ↓o3_none, ↓seqQ_nx, ↓seqQ_rt, ↓seqQ_bk, ↓seqQ_ct, ↓retQ_rt, ↓retQ_nx, ↓turnQ_nx, ↓turnQ_rt, ↓turnQ_bk, ↓turnQ_ct, ↓wipeQ, ↓w_runF, for_en, for_zp, lc_en, lc_zp, wipeE, flV', asg, asgs, parV, Src.get, srcOf, seqSrc, sizeLine, newV, binV, addV, ixV, dctOf, seqOf, lstOf, lstW, slV, biV, isV, tyOf, cmpV, augV, setIxV, meTy, m_join, m_app, m_ext, m_pop, m_rev, strsOf_str, strsOf_nil, strsOf_app, strsOf_mapf, strsOf_map, Option.bind_some, Option.map_some, atI, ixN, ↓ok_if, ↓ok_map, ↓ok_bind, ↓o2_if, ↓o3_if]
        refine T _ o3 c3 hB3 (by omega) _ fun t2 o4 c4 g2 e2 f2 hB4 => ?_
        simp -dsimp [↓w_var, ↓w_cst, ↓w_bty, ↓w_glob, ↓w_bin, ↓w_neg, ↓w_cmp, ↓w_chain, ↓w_and, ↓w_or, ↓w_not, ↓w_ite, ↓w_lst, ↓w_tup, ↓w_ix, ↓w_sl, ↓w_lc, ↓w_call, ↓w_pcall, ↓w_new, ↓w_bi, ↓w_me, ↓w_dsp, ↓wt_nil, ↓wt_and, ↓wt_or, ↓wt_not, ↓wt_val, ↓wa_nil, ↓wa_cons, ↓wb_nil, ↓wb_cons, ↓wo_nil, ↓wo_cons, ↓ws_nil, ↓ws_seq, ↓ws_set, ↓ws_setT, ↓ws_setIx, ↓ws_aug, ↓ws_ifs, ↓ws_for, ↓ws_whl, ↓ws_ret, ↓ws_retN, ↓ws_expr, ↓ws_pass, ↓ws_brk, ↓ws_setO, ↓ws_retO, ↓ws_appO, ↓ws_extO, ↓ws_revO, ↓ws_putO, ↓ws_par, ↓ws_wipe, ↓ws_frz, ↓ok_some, ↓ok_none, ↓o2_some, ↓o2_none, ↓o3_some, ↓o3_none, ↓seqQ_nx, ↓seqQ_rt, ↓seqQ_bk, ↓seqQ_ct, ↓retQ_rt, ↓retQ_nx, ↓turnQ_nx, ↓turnQ_rt, ↓turnQ_bk, ↓turnQ_ct, ↓wipeQ, ↓w_runF, for_en, for_zp, lc_en, lc_zp, wipeE, flV', asg, asgs, parV, Src.get, srcOf, seqSrc, sizeLine, newV, binV, addV, ixV, dctOf, seqOf, lstOf, lstW, slV, biV, isV, tyOf, cmpV, augV, setIxV, meTy, m_join, m_app, m_ext, m_pop, m_rev, strsOf_str, strsOf_nil, strsOf_app, strsOf_mapf, strsOf_map, Option.bind_some, Option.map_some, atI, ixN, ↓ok_if, ↓ok_map, ↓ok_bind, ↓o2_if, ↓o3_if]
        exact ⟨.two op t1 t2, o4, c4, by simp only [Tm.v], rfl, by simp only [Tm.gw]; exact ⟨g1, g2⟩, by simp only [Tm.d]; omega, by simp only [Tm.n, Nd]; omega, hB4.mono (by simp only [Pd]; omega)⟩
      · simp -dsimp [↓w_var, ↓w_cst, ↓w_bty, ↓w_glob, ↓w_bin, ↓w_neg, ↓w_cmp, ↓w_chain, ↓w_and, ↓w_or, ↓w_not, ↓w_ite, ↓w_lst, ↓w_tup, ↓w_ix, ↓w_sl, ↓w_lc, ↓w_call, ↓w_pcall, ↓w_new, ↓w_bi, ↓w_me, ↓w_dsp, ↓wt_nil, ↓wt_and, ↓wt_or, ↓wt_not, ↓wt_val, ↓wa_nil, ↓wa_cons, ↓wb_nil, ↓wb_cons, ↓wo_nil, ↓wo_cons, ↓ws_nil, ↓ws_seq, ↓ws_set, ↓ws_setT, ↓ws_setIx, ↓ws_aug, ↓ws_ifs, ↓ws_for, ↓ws_whl, ↓ws_ret, ↓ws_retN, ↓ws_expr, ↓ws_pass, ↓ws_brk, ↓ws_setO, ↓ws_retO, ↓ws_appO, ↓ws_extO, ↓ws_revO, ↓ws_putO, ↓ws_par, ↓ws_wipe, ↓ws_frz, ↓ok_some, ↓ok_none, ↓o2_some, ↓o2_none, ↓o3_some, ↓o3_none, ↓seqQ_nx, ↓seqQ_rt, ↓seqQ_bk, ↓seqQ_ct, ↓retQ_rt, ↓retQ_nx, ↓turnQ_nx, ↓turnQ_rt, ↓turnQ_bk, ↓turnQ_ct, ↓wipeQ, ↓w_runF, for_en, for_zp, lc_en, lc_zp, wipeE, flV', asg, asgs, parV, Src.get, srcOf, seqSrc, sizeLine, newV, binV, addV, ixV, dctOf, seqOf, lstOf, lstW, slV, biV, isV, tyOf, cmpV, augV, setIxV, meTy, m_join, m_app, m_ext, m_pop, m_rev, strsOf_str, strsOf_nil, strsOf_app, strsOf_mapf, strsOf_map, Option.bind_some, Option.map_some, atI, ixN, ↓ok_if, ↓ok_map, ↓ok_bind, ↓o2_if, ↓o3_if, roomO, hc, hl1, hl2, h6]
        refine T _ o1 (c - 1) hB1 (by omega) _ fun t1 o2 c2 g1 e1 f1 hB2 => ?_
        simp -dsimp [↓w_var, ↓w_cst, ↓w_bty, ↓w_glob, ↓w_bin, ↓w_neg, ↓w_cmp, ↓w_chain, ↓w_and, ↓w_or, ↓w_not, ↓w_ite, ↓w_lst, ↓w_tup, ↓w_ix, ↓w_sl, ↓w_lc, ↓w_call, ↓w_pcall, ↓w_new, ↓w_bi, ↓w_me, ↓w_dsp, ↓wt_nil, ↓wt_and, ↓wt_or, ↓wt_not, ↓wt_val, ↓wa_nil, ↓wa_cons, ↓wb_nil, ↓wb_cons, ↓wo_nil, ↓wo_cons, ↓ws_nil, ↓ws_seq, ↓ws_set, ↓ws_setT, ↓ws_setIx, ↓ws_aug, ↓ws_ifs, ↓ws_for, ↓ws_whl, ↓ws_ret, ↓ws_retN, ↓ws_expr, ↓ws_pass, ↓ws_brk, ↓ws_setO, ↓ws_retO, ↓ws_appO, ↓ws_extO, ↓ws_revO, ↓ws_putO, ↓ws_par, ↓ws_wipe, ↓ws_frz, ↓ok_some, ↓ok_none, ↓o2_some, ↓o2_none, ↓o3_some, ↓o3_none, ↓seqQ_nx, ↓seqQ_rt, ↓seqQ_bk, ↓seqQ_ct, ↓retQ_rt, ↓retQ_nx, ↓turnQ_nx, ↓turnQ_rt, ↓turnQ_bk, ↓turnQ_ct, ↓wipeQ, ↓w_runF, for_en, for_zp, lc_en, lc_zp, wipeE, flV', asg, asgs, parV, Src.get, srcOf, seqSrc, sizeLine, newV, binV, addV, ixV, dctOf, seqOf, lstOf, lstW, slV, biV, isV, tyOf, cmpV, augV, setIxV, meTy, m_join, m_app, m_ext, m_pop, m_rev, strsOf_str, strsOf_nil, strsOf_app, strsOf_mapf, strsOf_map, Option.bind_some, Option.map_some, atI, ixN, ↓ok_if, ↓ok_map, ↓ok_bind, ↓o2_if, ↓o3_if]
        refine pick_ok D.toHasDraw (by omega) rfl hB2 (by omega) (by decide) (by decide) fun d2 o3 d20 d21 hB3 => ?_
        obtain ⟨m, rfl⟩ := Int.eq_ofNat_of_zero_le d20
        have r1 : in62 (m : Int) = true := by simp [in62]; omega
        simp -dsimp [↓w_var, ↓w_cst, ↓w_bty, ↓w_glob, ↓w_bin, ↓w_neg, ↓w_cmp, ↓w_chain, ↓w_and, ↓w_or, ↓w_not, ↓w_ite, ↓w_lst, ↓w_tup, ↓w_ix, ↓w_sl, ↓w_lc, ↓w_call, ↓w_pcall, ↓w_new, ↓w_bi, ↓w_me, ↓w_dsp, ↓wt_nil, ↓wt_and, ↓wt_or, ↓wt_not, ↓wt_val, ↓wa_nil, ↓wa_cons, ↓wb_nil, ↓wb_cons, ↓wo_nil, ↓wo_cons, ↓ws_nil, ↓ws_seq, ↓ws_set, ↓ws_setT, ↓ws_setIx, ↓ws_aug, ↓ws_ifs, ↓ws_for, ↓ws_whl, ↓ws_ret, ↓ws_retN, ↓ws_expr, ↓ws_pass, ↓ws_brk, ↓ws_setO, ↓ws_retO, ↓ws_appO, ↓ws_extO, ↓ws_revO, ↓ws_putO, ↓ws_par, ↓ws_wipe, ↓ws_frz, ↓ok_some, ↓ok_none, ↓o2_some, ↓o2_none, ↓o3_some, ↓o3_none, ↓seqQ_nx, ↓seqQ_rt, ↓seqQ_bk, ↓seqQ_ct, ↓retQ_rt, ↓retQ_nx, ↓turnQ_nx, ↓turnQ_rt, ↓turnQ_bk, ↓turnQ_ct, ↓wipeQ, ↓w_runF, for_en, for_zp, lc_en, lc_zp, wipeE, flV', asg, asgs, parV, Src.get, srcOf, seqSrc, sizeLine, newV, binV, addV, ixV, dctOf, seqOf, lstOf, lstW, slV, biV, isV, tyOf, cmpV, augV, setIxV, meTy, m_join, m_app, m_ext, m_pop, m_rev, strsOf_str, strsOf_nil, strsOf_app, strsOf_mapf, strsOf_map, Option.bind_some, Option.map_some, atI, ixN, ↓ok_if, ↓ok_map, ↓ok_bind, ↓o2_if, ↓o3_if, r1, rngL]
        refine ⟨by omega, ?_⟩
        refine lc_inv (I := ITs dp (B + 1 + Pd dp + 1) a b) ⟨[], o3, c2, rfl, rfl, by simp, by simp [Tm.ds], by simp [Tm.ns], rfl, hB3.mono (by omega)⟩ (fun i x acc h' hx hI => ?_) (fun acc h' hI => ?_) (by simp)
        · obtain ⟨ts, o', c', rfl, hl, hg, hd, hn, rfl, hB'⟩ := hI
          have hi : i < m := by
            have := (List.getElem?_eq_some_iff.mp hx).1
            simpa using this
          have hi4 : i * Pd dp ≤ 3 * Pd dp := Nat.mul_le_mul_right _ (by omega)
          simp -dsimp [F.law_any_term_e0, ↓w_var, ↓w_cst, ↓w_bty, ↓w_glob, ↓w_bin, ↓w_neg, ↓w_cmp, ↓w_chain, ↓w_and, ↓w_or, ↓w_not, ↓w_ite, ↓w_lst, ↓w_tup, ↓w_ix, ↓w_sl, ↓w_lc, ↓w_call, ↓w_pcall, ↓w_new, ↓w_bi, ↓w_me, ↓w_dsp, ↓wt_nil, ↓wt_and, ↓wt_or, ↓wt_not, ↓wt_val, ↓wa_nil, ↓wa_cons, ↓wb_nil, ↓wb_cons, ↓wo_nil, ↓wo_cons, ↓ws_nil, ↓ws_seq, ↓ws_set, ↓ws_setT, ↓ws_setIx, ↓ws_aug, ↓ws_ifs, ↓ws_for, ↓ws_whl, ↓ws_ret, ↓ws_retN, ↓ws_expr, ↓ws_pass, ↓ws_brk, ↓ws_setO, ↓ws_retO, ↓ws_appO, ↓ws_extO, ↓ws_revO, ↓ws_putO, ↓ws_par, ↓ws_wipe, ↓ws_frz, ↓ok_some, ↓ok_none, ↓o2_some, ↓o2_none, ↓o3_some, ↓o3_none, ↓seqQ_nx, ↓seqQ_rt, ↓seqQ_bk, ↓seqQ_ct, ↓retQ_rt, ↓retQ_nx, ↓turnQ_nx, ↓turnQ_rt, ↓turnQ_bk, ↓turnQ_ct, ↓wipeQ, ↓w_runF, for_en, for_zp, lc_en, lc_zp, wipeE, flV', asg, asgs, parV, Src.get, srcOf, seqSrc, sizeLine, newV, binV, addV, ixV, dctOf, seqOf, lstOf, lstW, slV, biV, isV, tyOf, cmpV, augV, setIxV, meTy, m_join, m_app, m_ext, m_pop, m_rev, strsOf_str, strsOf_nil, strsOf_app, strsOf_mapf, strsOf_map, Option.bind_some, Option.map_some, atI, ixN, ↓ok_if, ↓ok_map, ↓ok_bind, ↓o2_if, ↓o3_if]
          refine T _ o' c' hB' (by omega) _ fun t2 o4 c4 g2 e2 f2 hB4 => ?_
          simp -dsimp [↓w_var, ↓w_cst, ↓w_bty, ↓w_glob, ↓w_bin, ↓w_neg, ↓w_cmp, ↓w_chain, ↓w_and, ↓w_or, ↓w_not, ↓w_ite, ↓w_lst, ↓w_tup, ↓w_ix, ↓w_sl, ↓w_lc, ↓w_call, ↓w_pcall, ↓w_new, ↓w_bi, ↓w_me, ↓w_dsp, ↓wt_nil, ↓wt_and, ↓wt_or, ↓wt_not, ↓wt_val, ↓wa_nil, ↓wa_cons, ↓wb_nil, ↓wb_cons, ↓wo_nil, ↓wo_cons, ↓ws_nil, ↓ws_seq, ↓ws_set, ↓ws_setT, ↓ws_setIx, ↓ws_aug, ↓ws_ifs, ↓ws_for, ↓ws_whl, ↓ws_ret, ↓ws_retN, ↓ws_expr, ↓ws_pass, ↓ws_brk, ↓ws_setO, ↓ws_retO, ↓ws_appO, ↓ws_extO, ↓ws_revO, ↓ws_putO, ↓ws_par, ↓ws_wipe, ↓ws_frz, ↓ok_some, ↓ok_none, ↓o2_some, ↓o2_none, ↓o3_some, ↓o3_none, ↓seqQ_nx, ↓seqQ_rt, ↓seqQ_bk, ↓seqQ_ct, ↓retQ_rt, ↓retQ_nx, ↓turnQ_nx, ↓turnQ_rt, ↓turnQ_bk, ↓turnQ_ct, ↓wipeQ, ↓w_runF, for_en, for_zp, lc_en, lc_zp, wipeE, flV', asg, asgs, parV, Src.get, srcOf, seqSrc, sizeLine, newV]
          have em : (i + 1) * Pd dp = i * Pd dp + Pd dp := by rw [Nat.add_mul, Nat.one_mul]
          have en : (i + 1) * Nd dp = i * Nd dp + Nd dp := by rw [Nat.add_mul, Nat.one_mul]
          have dsa : ∀ l : List Tm, Tm.ds (l ++ [t2]) = max (Tm.ds l) t2.d := by
            intro l; induction l with
            | nil => simp [Tm.ds]
            | cons x l ih => simp only [List.cons_append, Tm.ds, ih]; omega
          have nsa : ∀ l : List Tm, Tm.ns (l ++ [t2]) = Tm.ns l + t2.n := by
            intro l; induction l with
            | nil => simp [Tm.ns]
            | cons x l ih => simp only [List.cons_append, Tm.ns, ih]; omega
          exact ⟨ts ++ [t2], o4, c4, by simp, by simp [hl], fun y hy => by
            rcases List.mem_append.mp hy with z | z
            · exact hg y z
            · obtain rfl : y = t2 := by simpa using z
              exact g2, by rw [dsa]; omega, by rw [nsa]; omega, rfl, hB4.mono (by omega)⟩
        · obtain ⟨ts, o', c', rfl, hl, hg, hd, hn, rfl, hB'⟩ := hI
          simp only [List.length_map, List.length_range] at hl hn hB'
          have hi4 : m * Pd dp ≤ 4 * Pd dp := Nat.mul_le_mul_right _ (by omega)
          have hn4 : m * Nd dp ≤ 4 * Nd dp := Nat.mul_le_mul_right _ (by omega)
          simp -dsimp [↓w_var, ↓w_cst, ↓w_bty, ↓w_glob, ↓w_bin, ↓w_neg, ↓w_cmp, ↓w_chain, ↓w_and, ↓w_or, ↓w_not, ↓w_ite, ↓w_lst, ↓w_tup, ↓w_ix, ↓w_sl, ↓w_lc, ↓w_call, ↓w_pcall, ↓w_new, ↓w_bi, ↓w_me, ↓w_dsp, ↓wt_nil, ↓wt_and, ↓wt_or, ↓wt_not, ↓wt_val, ↓wa_nil, ↓wa_cons, ↓wb_nil, ↓wb_cons, ↓wo_nil, ↓wo_cons, ↓ws_nil, ↓ws_seq, ↓ws_set, ↓ws_setT, ↓ws_setIx, ↓ws_aug, ↓ws_ifs, ↓ws_for, ↓ws_whl, ↓ws_ret, ↓ws_retN, ↓ws_expr, ↓ws_pass, ↓ws_brk, ↓ws_setO, ↓ws_retO, ↓ws_appO, ↓ws_extO, ↓ws_revO, ↓ws_putO, ↓ws_par, ↓ws_wipe, ↓ws_frz, ↓ok_some, ↓ok_none, ↓o2_some, ↓o2_none, ↓o3_some, ↓o3_none, ↓seqQ_nx, ↓seqQ_rt, ↓seqQ_bk, ↓seqQ_ct, ↓retQ_rt, ↓retQ_nx, ↓turnQ_nx, ↓turnQ_rt, ↓turnQ_bk, ↓turnQ_ct, ↓wipeQ, ↓w_runF, for_en, for_zp, lc_en, lc_zp, wipeE, flV', asg, asgs, parV, Src.get, srcOf, seqSrc, sizeLine, newV, binV, addV, ixV, dctOf, seqOf, lstOf, lstW, slV, biV, isV, tyOf, cmpV, augV, setIxV, meTy, m_join, m_app, m_ext, m_pop, m_rev, strsOf_str, strsOf_nil, strsOf_app, strsOf_mapf, strsOf_map, Option.bind_some, Option.map_some, atI, ixN, ↓ok_if, ↓ok_map, ↓ok_bind, ↓o2_if, ↓o3_if]
          exact ⟨.ask t1 ts, o', c', by simp only [Tm.v, Tm.vs_map], rfl, by simp only [Tm.gw]; exact ⟨g1, Tm.gws_of hg⟩, by simp only [Tm.d]; omega, by simp only [Tm.n, Nd]; omega, hB'.mono (by simp only [Pd]; omega)⟩
end
end FK

/-! ### drawn rows -/
namespace FK
open PySem PySem.Spec PyProof.Rows L2
/-- _law_any_rows: 0 law_left_here@, 1 law_deep, 2 law_room@, 3 law_found!, 4 law_turn, 5 law_way, 6 law_term, 7 law_one -/
def F.law_any_rows_b0 : Sx := (.seq (.set 5 (.pcall 6 (.cons (.var 0) (.cons (.bin .Add (.cst (.int 4)) (.bin .Mult (.cst (.int 2)) (.bi .int (.cons (.cmp .Lt (.var 1) (.cst (.int 3))) .nil)))) .nil)))) (.seq (.wipe [4, 5, 6, 7] (.ifs (.val (.cmp .Gt (.ix (.var 2) (.cst (.int 1))) (.cst (.int 0)))) (.seq (.setIx (.var 2) (.cst (.int 1)) (.bin .Sub (.ix (.var 2) (.cst (.int 1))) (.cst (.int 1)))) (.seq (.set 6 (.pcall 10 (.cons (.var 0) (.cons (.bin .Add (.cst (.int 1)) (.pcall 6 (.cons (.var 0) (.cons (.cst (.int 4)) .nil)))) (.cons (.var 2) .nil))))) (.seq (.ifs (.val (.cmp .Eq (.var 5) (.cst (.int 0)))) (.seq (.appO 3 (.tup (.cons (.cst (.str "set")) (.cons (.pcall 7 (.cons (.var 0) .nil)) (.cons (.var 6) .nil))))) .nil) (.seq (.ifs (.val (.cmp .Lt (.var 5) (.cst (.int 4)))) (.seq (.appO 3 (.tup (.cons (.ix (.lst (.cons (.cst (.str "print")) (.cons (.cst (.str "give")) (.cons (.cst (.str "do")) .nil)))) (.bin .Sub (.var 5) (.cst (.int 1)))) (.cons (.var 6) .nil)))) .nil) (.seq (.ifs (.val (.cmp .Eq (.var 5) (.cst (.int 4)))) (.seq (.appO 3 (.tup (.cons (.cst (.str "turns")) (.cons (.var 6) (.cons (.pcall 11 (.cons (.var 0) (.cons (.bin .Add (.var 1) (.cst (.int 1))) (.cons (.var 2) .nil)))) .nil))))) .nil) (.seq (.set 7 (.pcall 11 (.cons (.var 0) (.cons (.bin .Add (.var 1) (.cst (.int 1))) (.cons (.var 2) .nil))))) (.seq (.appO 3 (.tup (.cons (.cst (.str "if")) (.cons (.var 6) (.cons (.var 7) (.cons (.pcall 11 (.cons (.var 0) (.cons (.bin .Add (.var 1) (.cst (.int 1))) (.cons (.var 2) .nil)))) .nil)))))) .nil))) .nil)) .nil)) .nil))) .nil)) .nil))
def F.law_any_rows_body : Sx := (.seq (.setO 3 (.lst .nil)) (.seq (.wipe [4, 5, 6, 7] (.for_ .rng (.cons (.pcall 6 (.cons (.var 0) (.cons (.cst (.int 4)) .nil))) .nil) (.name 4) F.law_any_rows_b0)) (.seq (.frz 3) (.seq (.ret (.bi .tuple (.cons (.var 3) .nil))) .nil))))
def F.law_any_rows : Fn := ⟨3, 8, F.law_any_rows_body⟩
mutual
def Rw.gw : Rw → Prop
  | .set (.wd w) t => WordS w ∧ t.gw
  | .set (.ow _ _) _ => False
  | .pl _ t => t.gw
  | .turns t r => t.gw ∧ Rw.gws r
  | .ife t a b => t.gw ∧ Rw.gws a ∧ Rw.gws b
def Rw.gws : List Rw → Prop
  | [] => True
  | t :: l => t.gw ∧ Rw.gws l
end
mutual
theorem Rw.gw_ok : ∀ t : Rw, t.gw → t.ok ∧ t.named
  | .set (.wd w) t, h => by
    simp only [Rw.gw] at h
    simp only [Rw.ok, Rw.named, Nm.ok, Nm.named]
    exact ⟨⟨h.1.ok, (t.gw_ok h.2).1⟩, trivial, (t.gw_ok h.2).2⟩
  | .set (.ow _ _) t, h => by simp only [Rw.gw] at h
  | .pl _ t, h => by simp only [Rw.gw] at h; simp only [Rw.ok, Rw.named]; exact t.gw_ok h
  | .turns t r, h => by
    simp only [Rw.gw] at h
    simp only [Rw.ok, Rw.named]
    exact ⟨⟨(t.gw_ok h.1).1, (Rw.gws_ok r h.2).1⟩, (t.gw_ok h.1).2, (Rw.gws_ok r h.2).2⟩
  | .ife t a b, h => by
    simp only [Rw.gw] at h
    simp only [Rw.ok, Rw.named]
    exact ⟨⟨(t.gw_ok h.1).1, (Rw.gws_ok a h.2.1).1, (Rw.gws_ok b h.2.2).1⟩, (t.gw_ok h.1).2, (Rw.gws_ok a h.2.1).2, (Rw.gws_ok b h.2.2).2⟩
theorem Rw.gws_ok : ∀ l : List Rw, Rw.gws l → Rw.oks l ∧ Rw.nameds l
  | [], _ => by simp [Rw.oks, Rw.nameds]
  | t :: l, h => by
    simp only [Rw.gws] at h
    simp only [Rw.oks, Rw.nameds]
    exact ⟨⟨(Rw.gw_ok t h.1).1, (Rw.gws_ok l h.2).1⟩, (Rw.gw_ok t h.1).2, (Rw.gws_ok l h.2).2⟩
end
theorem Rw.gws_app : ∀ {l : List Rw} {r : Rw}, Rw.gws l → r.gw → Rw.gws (l ++ [r])
  | [], r, _, h => by simp [Rw.gws, h]
  | t :: l, r, k, h => by simp only [Rw.gws] at k; simp only [List.cons_append, Rw.gws]; exact ⟨k.1, Rw.gws_app k.2 h⟩
theorem Rw.ds_app (r : Rw) : ∀ l : List Rw, Rw.ds (l ++ [r]) = max (Rw.ds l) r.d
  | [] => by simp [Rw.ds]
  | x :: l => by simp only [List.cons_append, Rw.ds, Rw.ds_app r l]; omega
theorem Rw.ns_app (r : Rw) : ∀ l : List Rw, Rw.ns (l ++ [r]) = Rw.ns l + r.n
  | [] => by simp [Rw.ns]
  | x :: l => by simp only [List.cons_append, Rw.ns, Rw.ns_app r l]; omega
def PR : Nat → Nat
  | 0 => 80000
  | m + 1 => 80000 + 8 * PR m
def QRows (m B : Nat) (a : Int) (b : Nat) (v : Vl) (h : AH) : Prop := ∃ (l : List Rw) (o' : Ob) (b' : Nat) (c : Int), v = .tup (l.map Rw.v) ∧ h = [o', roomO a b' c] ∧ Rw.gws l ∧ Rw.ds l ≤ 5 + m ∧ b' ≤ b ∧ Rw.ns l ≤ 800 * (b - b') ∧ Dr (B + PR m) o'
def IRows (m B : Nat) (a : Int) (b : Nat) (dp : Int) (i : Nat) (e : AE) (h : AH) : Prop := ∃ (l : List Rw) (o' : Ob) (b' : Nat) (c : Int), e = [some (.ref 0), some (.int dp), some (.ref 1), some (.fl (l.map Rw.v)), none, none, none, none] ∧ h = [o', roomO a b' c] ∧ Rw.gws l ∧ Rw.ds l ≤ 5 + m ∧ b' ≤ b ∧ Rw.ns l ≤ 800 * (b - b') ∧ Dr (B + i * (PR m / 4)) o' ∧ l.length ≤ i
section
variable {W : Wd}
structure HasAnyR (W : Wd) : Prop extends HasAnyT W where
  rows : W.fns.lookup 11 = some F.law_any_rows
theorem rows_frm {k m B i j : Nat} {o : Ob} {a c dp : Int} {b : Nat} {h : AH} (H : O2 (W.C k 11 [.ref 0, .int dp, .ref 1] [o, roomO a b c]) (QRows m B a b)) (hB : Dr B o) (hij : i ≠ j) (hi : h[i]? = some o) (hj : h[j]? = some (roomO a b c)) {Q : Vl → AH → Prop}
    (q : ∀ (l : List Rw) (o' : Ob) (b' : Nat) (c' : Int), Rw.gws l → Rw.ds l ≤ 5 + m → b' ≤ b → Rw.ns l ≤ 800 * (b - b') → Dr (B + PR m) o' → Q (.tup (l.map Rw.v)) ((h.set i o').set j (roomO a b' c'))) : O2 (frm (W.C k 11) [.ref i, .int dp, .ref j] h) Q := by
  obtain ⟨v, h', e, l, o', b', c', rfl, rfl, h1, h2, h3, h4, h5⟩ := H
  exact ⟨_, _, frm_ref2 (us := [.int dp]) (ws := []) (u := .tup (l.map Rw.v)) hij hi hj rfl rfl rfl rfl hB.nr rfl h5.nr rfl e (by simp [outV, noRef, noRefs_map, Rw.v_nr]), q l o' b' c' h1 h2 h3 h4 h5⟩
def RowsAt (W : Wd) (m k : Nat) : Prop := ∀ (B : Nat) (o : Ob) (a c dp : Int) (b : Nat), dp = 3 - m → Dr B o → B + PR m ≤ 2 ^ 40 → b ≤ 1000 → O2 (W.C k 11 [.ref 0, .int dp, .ref 1] [o, roomO a b c]) (QRows m B a b)
theorem any_rows_step (D : HasAnyR W) (m k : Nat) (hm : m ≤ 2) (hk : 10 ≤ k) (IH : ∀ m', m = m' + 1 → RowsAt W m' k) : RowsAt W m (k + 1) := by
  intro B o a c dp b hdp hB hb hb1
  rw [Wd.C_run D.rows]
  have hPR : 80000 ≤ PR m := by cases m <;> simp only [PR] <;> omega
  have hP4 : Pd 4 = 15620 := by decide
  have hN4 : Nd 4 = 781 := by decide
  simp -dsimp [F.law_any_rows, F.law_any_rows_body, ↓w_var, ↓w_cst, ↓w_bty, ↓w_glob, ↓w_bin, ↓w_neg, ↓w_cmp, ↓w_chain, ↓w_and, ↓w_or, ↓w_not, ↓w_ite, ↓w_lst, ↓w_tup, ↓w_ix, ↓w_sl, ↓w_lc, ↓w_call, ↓w_pcall, ↓w_new, ↓w_bi, ↓w_me, ↓w_dsp, ↓wt_nil, ↓wt_and, ↓wt_or, ↓wt_not, ↓wt_val, ↓wa_nil, ↓wa_cons, ↓wb_nil, ↓wb_cons, ↓wo_nil, ↓wo_cons, ↓ws_nil, ↓ws_seq, ↓ws_set, ↓ws_setT, ↓ws_setIx, ↓ws_aug, ↓ws_ifs, ↓ws_for, ↓ws_whl, ↓ws_ret, ↓ws_retN, ↓ws_expr, ↓ws_pass, ↓ws_brk, ↓ws_setO, ↓ws_retO, ↓ws_appO, ↓ws_extO, ↓ws_revO, ↓ws_putO, ↓ws_par, ↓ws_wipe, ↓ws_frz, ↓ok_some, ↓ok_none, ↓o2_some, ↓o2_none, ↓o3_some, ↓o3_none, ↓seqQ_nx, ↓seqQ_rt, ↓seqQ_bk, ↓seqQ_ct, ↓retQ_rt, ↓retQ_nx, ↓turnQ_nx, ↓turnQ_rt, ↓turnQ_bk, ↓turnQ_ct, ↓wipeQ, ↓w_runF, for_en, for_zp, lc_en, lc_zp, wipeE, flV', asg, asgs, parV, Src.get, srcOf, seqSrc, sizeLine, newV, binV, addV, ixV, dctOf, seqOf, lstOf, lstW, slV, biV, isV, tyOf, cmpV, augV, setIxV, meTy, m_join, m_app, m_ext, m_pop, m_rev, strsOf_str, strsOf_nil, strsOf_app, strsOf_mapf, strsOf_map, Option.bind_some, Option.map_some, atI, ixN, ↓ok_if, ↓ok_map, ↓ok_bind, ↓o2_if, ↓o3_if]
  refine pick_ok D.toHasDraw (by omega) rfl hB (by omega) (by decide) (by decide) fun d o1 d0 d1 hB1 => ?_
  obtain ⟨n, rfl⟩ := Int.eq_ofNat_of_zero_le d0
  have r1 : in62 (n : Int) = true := by simp [in62]; omega
  simp -dsimp [↓w_var, ↓w_cst, ↓w_bty, ↓w_glob, ↓w_bin, ↓w_neg, ↓w_cmp, ↓w_chain, ↓w_and, ↓w_or, ↓w_not, ↓w_ite, ↓w_lst, ↓w_tup, ↓w_ix, ↓w_sl, ↓w_lc, ↓w_call, ↓w_pcall, ↓w_new, ↓w_bi, ↓w_me, ↓w_dsp, ↓wt_nil, ↓wt_and, ↓wt_or, ↓wt_not, ↓wt_val, ↓wa_nil, ↓wa_cons, ↓wb_nil, ↓wb_cons, ↓wo_nil, ↓wo_cons, ↓ws_nil, ↓ws_seq, ↓ws_set, ↓ws_setT, ↓ws_setIx, ↓ws_aug, ↓ws_ifs, ↓ws_for, ↓ws_whl, ↓ws_ret, ↓ws_retN, ↓ws_expr, ↓ws_pass, ↓ws_brk, ↓ws_setO, ↓ws_retO, ↓ws_appO, ↓ws_extO, ↓ws_revO, ↓ws_putO, ↓ws_par, ↓ws_wipe, ↓ws_frz, ↓ok_some, ↓ok_none, ↓o2_some, ↓o2_none, ↓o3_some, ↓o3_none, ↓seqQ_nx, ↓seqQ_rt, ↓seqQ_bk, ↓seqQ_ct, ↓retQ_rt, ↓retQ_nx, ↓turnQ_nx, ↓turnQ_rt, ↓turnQ_bk, ↓turnQ_ct, ↓wipeQ, ↓w_runF, for_en, for_zp, lc_en, lc_zp, wipeE, flV', asg, asgs, parV, Src.get, srcOf, seqSrc, sizeLine, newV, binV, addV, ixV, dctOf, seqOf, lstOf, lstW, slV, biV, isV, tyOf, cmpV, augV, setIxV, meTy, m_join, m_app, m_ext, m_pop, m_rev, strsOf_str, strsOf_nil, strsOf_app, strsOf_mapf, strsOf_map, Option.bind_some, Option.map_some, atI, ixN, ↓ok_if, ↓ok_map, ↓ok_bind, ↓o2_if, ↓o3_if, r1, rngL]
  refine for_inv (I := IRows m (B + 1) a b dp) ⟨[], o1, b, c, rfl, rfl, by simp [Rw.gws], by simp [Rw.ds], by omega, by simp [Rw.ns], hB1.mono (by omega), by simp⟩ (fun i x e h' hx hI => ?_) (fun e h' hI => ?_) (by simp)
  · obtain ⟨l, o', b', c', rfl, rfl, g1, g2, g3, g4, g5, g6⟩ := hI
    have hi : i < n := by
      have := (List.getElem?_eq_some_iff.mp hx).1
      simpa using this
    have hi2 : i * (PR m / 4) ≤ 2 * (PR m / 4) := Nat.mul_le_mul_right _ (by omega)
    have em : (i + 1) * (PR m / 4) = i * (PR m / 4) + PR m / 4 := by rw [Nat.add_mul, Nat.one_mul]
    -- one row more
    have add : ∀ (r : Rw) (o2 : Ob) (b2 : Nat) (c2 : Int), r.gw → r.d ≤ 5 + m → b2 < b' → r.n ≤ 800 * (b' - b2) → Dr (B + 1 + (i + 1) * (PR m / 4)) o2 → IRows m (B + 1) a b dp (i + 1) [some (.ref 0), some (.int dp), some (.ref 1), some (.fl (l.map Rw.v ++ [r.v])), none, none, none, none] [o2, roomO a b2 c2] := fun r o2 b2 c2 q1 q2 q3 q4 q5 =>
      ⟨l ++ [r], o2, b2, c2, by simp, rfl, Rw.gws_app g1 q1, by rw [Rw.ds_app]; omega, by omega, by rw [Rw.ns_app]; omega, q5, by simp; omega⟩
    have hz : (if dp < 3 then (1 : Int) else 0) = (if 0 < m then 1 else 0) := by
      by_cases h0 : 0 < m
      · rw [if_pos (by omega), if_pos h0]
      · rw [if_neg (by omega), if_neg h0]
    simp -dsimp [F.law_any_rows_b0, ↓w_var, ↓w_cst, ↓w_bty, ↓w_glob, ↓w_bin, ↓w_neg, ↓w_cmp, ↓w_chain, ↓w_and, ↓w_or, ↓w_not, ↓w_ite, ↓w_lst, ↓w_tup, ↓w_ix, ↓w_sl, ↓w_lc, ↓w_call, ↓w_pcall, ↓w_new, ↓w_bi, ↓w_me, ↓w_dsp, ↓wt_nil, ↓wt_and, ↓wt_or, ↓wt_not, ↓wt_val, ↓wa_nil, ↓wa_cons, ↓wb_nil, ↓wb_cons, ↓wo_nil, ↓wo_cons, ↓ws_nil, ↓ws_seq, ↓ws_set, ↓ws_setT, ↓ws_setIx, ↓ws_aug, ↓ws_ifs, ↓ws_for, ↓ws_whl, ↓ws_ret, ↓ws_retN, ↓ws_expr, ↓ws_pass, ↓ws_brk, ↓ws_setO, ↓ws_retO, ↓ws_appO, ↓ws_extO, ↓ws_revO, ↓ws_putO, ↓ws_par, ↓ws_wipe, ↓ws_frz, ↓ok_some, ↓ok_none, ↓o2_some, ↓o2_none, ↓o3_some, ↓o3_none, ↓seqQ_nx, ↓seqQ_rt, ↓seqQ_bk, ↓seqQ_ct, ↓retQ_rt, ↓retQ_nx, ↓turnQ_nx, ↓turnQ_rt, ↓turnQ_bk, ↓turnQ_ct, ↓wipeQ, ↓w_runF, for_en, for_zp, lc_en, lc_zp, wipeE, flV', asg, asgs, parV, Src.get, srcOf, seqSrc, sizeLine, newV, binV, addV, ixV, dctOf, seqOf, lstOf, lstW, slV, biV, isV, tyOf, cmpV, augV, setIxV, meTy, m_join, m_app, m_ext, m_pop, m_rev, strsOf_str, strsOf_nil, strsOf_app, strsOf_mapf, strsOf_map, Option.bind_some, Option.map_some, atI, ixN, ↓ok_if, ↓ok_map, ↓ok_bind, ↓o2_if, ↓o3_if, CMulB]
    refine pick_ok D.toHasDraw (by omega) rfl g5 (by omega) (by split <;> omega) (by split <;> omega) fun d2 o2 d20 d21 hB2 => ?_
    have d6 : d2 < 4 ∨ (d2 < 6 ∧ 0 < m) := by
      by_cases h0 : dp < 3
      · rw [if_pos h0] at d21; exact .inr ⟨by omega, by omega⟩
      · rw [if_neg h0] at d21; exact .inl (by omega)
    by_cases hb0 : 0 < b'
    · simp -dsimp [↓w_var, ↓w_cst, ↓w_bty, ↓w_glob, ↓w_bin, ↓w_neg, ↓w_cmp, ↓w_chain, ↓w_and, ↓w_or, ↓w_not, ↓w_ite, ↓w_lst, ↓w_tup, ↓w_ix, ↓w_sl, ↓w_lc, ↓w_call, ↓w_pcall, ↓w_new, ↓w_bi, ↓w_me, ↓w_dsp, ↓wt_nil, ↓wt_and, ↓wt_or, ↓wt_not, ↓wt_val, ↓wa_nil, ↓wa_cons, ↓wb_nil, ↓wb_cons, ↓wo_nil, ↓wo_cons, ↓ws_nil, ↓ws_seq, ↓ws_set, ↓ws_setT, ↓ws_setIx, ↓ws_aug, ↓ws_ifs, ↓ws_for, ↓ws_whl, ↓ws_ret, ↓ws_retN, ↓ws_expr, ↓ws_pass, ↓ws_brk, ↓ws_setO, ↓ws_retO, ↓ws_appO, ↓ws_extO, ↓ws_revO, ↓ws_putO, ↓ws_par, ↓ws_wipe, ↓ws_frz, ↓ok_some, ↓ok_none, ↓o2_some, ↓o2_none, ↓o3_some, ↓o3_none, ↓seqQ_nx, ↓seqQ_rt, ↓seqQ_bk, ↓seqQ_ct, ↓retQ_rt, ↓retQ_nx, ↓turnQ_nx, ↓turnQ_rt, ↓turnQ_bk, ↓turnQ_ct, ↓wipeQ, ↓w_runF, for_en, for_zp, lc_en, lc_zp, wipeE, flV', asg, asgs, parV, Src.get, srcOf, seqSrc, sizeLine, newV, binV, addV, ixV, dctOf, seqOf, lstOf, lstW, slV, biV, isV, tyOf, cmpV, augV, setIxV, meTy, m_join, m_app, m_ext, m_pop, m_rev, strsOf_str, strsOf_nil, strsOf_app, strsOf_mapf, strsOf_map, Option.bind_some, Option.map_some, atI, ixN, ↓ok_if, ↓ok_map, ↓ok_bind, ↓o2_if, ↓o3_if, roomO, hb0]
      refine pick_ok D.toHasDraw (by omega) rfl hB2 (by omega) (by decide) (by decide) fun d3 o3 d30 d31 hB3 => ?_
      obtain ⟨q, rfl⟩ := Int.eq_ofNat_of_zero_le d30
      have eb : (b' : Int) - 1 = ((b' - 1 : Nat) : Int) := by omega
      have eq : (1 : Int) + (q : Int) = ((q + 1 : Nat) : Int) := by omega
      have hP : Pd (q + 1) ≤ Pd 4 ∧ Nd (q + 1) ≤ Nd 4 := by
        have : q = 0 ∨ q = 1 ∨ q = 2 ∨ q = 3 := by omega
        rcases this with rfl | rfl | rfl | rfl <;> decide
      simp -dsimp [↓w_var, ↓w_cst, ↓w_bty, ↓w_glob, ↓w_bin, ↓w_neg, ↓w_cmp, ↓w_chain, ↓w_and, ↓w_or, ↓w_not, ↓w_ite, ↓w_lst, ↓w_tup, ↓w_ix, ↓w_sl, ↓w_lc, ↓w_call, ↓w_pcall, ↓w_new, ↓w_bi, ↓w_me, ↓w_dsp, ↓wt_nil, ↓wt_and, ↓wt_or, ↓wt_not, ↓wt_val, ↓wa_nil, ↓wa_cons, ↓wb_nil, ↓wb_cons, ↓wo_nil, ↓wo_cons, ↓ws_nil, ↓ws_seq, ↓ws_set, ↓ws_setT, ↓ws_setIx, ↓ws_aug, ↓ws_ifs, ↓ws_for, ↓ws_whl, ↓ws_ret, ↓ws_retN, ↓ws_expr, ↓ws_pass, ↓ws_brk, ↓ws_setO, ↓ws_retO, ↓ws_appO, ↓ws_extO, ↓ws_revO, ↓ws_putO, ↓ws_par, ↓ws_wipe, ↓ws_frz, ↓ok_some, ↓ok_none, ↓o2_some, ↓o2_none, ↓o3_some, ↓o3_none, ↓seqQ_nx, ↓seqQ_rt, ↓seqQ_bk, ↓seqQ_ct, ↓retQ_rt, ↓retQ_nx, ↓turnQ_nx, ↓turnQ_rt, ↓turnQ_bk, ↓turnQ_ct, ↓wipeQ, ↓w_runF, for_en, for_zp, lc_en, lc_zp, wipeE, flV', asg, asgs, parV, Src.get, srcOf, seqSrc, sizeLine, newV, binV, addV, ixV, dctOf, seqOf, lstOf, lstW, slV, biV, isV, tyOf, cmpV, augV, setIxV, meTy, m_join, m_app, m_ext, m_pop, m_rev, strsOf_str, strsOf_nil, strsOf_app, strsOf_mapf, strsOf_map, Option.bind_some, Option.map_some, atI, ixN, ↓ok_if, ↓ok_map, ↓ok_bind, ↓o2_if, ↓o3_if]
      rw [eb, eq]
      refine term_frm (any_term_run D.toHasAnyT (q + 1) k _ o3 a _ _ (by omega) (by omega) (by omega) hB3 (by omega)) hB3 (by decide) rfl rfl fun t o4 c4 t1 t2 t3 hB4 => ?_
      have R : ∀ (B2 : Nat) (o : Ob) (b2 : Nat) (c : Int), 0 < m → Dr B2 o → B2 + PR (m - 1) ≤ 2 ^ 40 → b2 ≤ 1000 → ∀ Q' : Vl → AH → Prop, (∀ (l : List Rw) (o' : Ob) (b' : Nat) (c' : Int), Rw.gws l → Rw.ds l ≤ 5 + (m - 1) → b' ≤ b2 → Rw.ns l ≤ 800 * (b2 - b') → Dr (B2 + PR (m - 1)) o' → Q' (.tup (l.map Rw.v)) [o', roomO a b' c']) → O2 (frm (W.C k 11) [.ref 0, .int (dp + 1), .ref 1] [o, roomO a b2 c]) Q' :=
        fun B2 o b2 c m0 hB hb hb2 Q' q => rows_frm (IH (m - 1) (by omega) B2 o a c (dp + 1) b2 (by omega) hB hb hb2) hB (by decide) rfl rfl q
      by_cases w0 : d2 = 0
      · simp -dsimp [↓w_var, ↓w_cst, ↓w_bty, ↓w_glob, ↓w_bin, ↓w_neg, ↓w_cmp, ↓w_chain, ↓w_and, ↓w_or, ↓w_not, ↓w_ite, ↓w_lst, ↓w_tup, ↓w_ix, ↓w_sl, ↓w_lc, ↓w_call, ↓w_pcall, ↓w_new, ↓w_bi, ↓w_me, ↓w_dsp, ↓wt_nil, ↓wt_and, ↓wt_or, ↓wt_not, ↓wt_val, ↓wa_nil, ↓wa_cons, ↓wb_nil, ↓wb_cons, ↓wo_nil, ↓wo_cons, ↓ws_nil, ↓ws_seq, ↓ws_set, ↓ws_setT, ↓ws_setIx, ↓ws_aug, ↓ws_ifs, ↓ws_for, ↓ws_whl, ↓ws_ret, ↓ws_retN, ↓ws_expr, ↓ws_pass, ↓ws_brk, ↓ws_setO, ↓ws_retO, ↓ws_appO, ↓ws_extO, ↓ws_revO, ↓ws_putO, ↓ws_par, ↓ws_wipe, ↓ws_frz, ↓ok_some, ↓ok_none, ↓o2_some, ↓o2_none, ↓o3_some, ↓o3_none, ↓seqQ_nx, ↓seqQ_rt, ↓seqQ_bk, ↓seqQ_ct, ↓retQ_rt, ↓retQ_nx, ↓turnQ_nx, ↓turnQ_rt, ↓turnQ_bk, ↓turnQ_ct, ↓wipeQ, ↓w_runF, for_en, for_zp, lc_en, lc_zp, wipeE, flV', asg, asgs, parV, Src.get, srcOf, seqSrc, sizeLine, newV, binV, addV, ixV, dctOf, seqOf, lstOf, lstW, slV, biV, isV, tyOf, cmpV, augV, setIxV, meTy, m_join, m_app, m_ext, m_pop, m_rev, strsOf_str, strsOf_nil, strsOf_app, strsOf_mapf, strsOf_map, Option.bind_some, Option.map_some, atI, ixN, ↓ok_if, ↓ok_map, ↓ok_bind, ↓o2_if, ↓o3_if, FK.eqV, w0]
        refine any_word_ok D.toHasAny (by omega) rfl hB4 (by omega) fun w o5 hw hB5 => ?_
        simp -dsimp [↓w_var, ↓w_cst, ↓w_bty, ↓w_glob, ↓w_bin, ↓w_neg, ↓w_cmp, ↓w_chain, ↓w_and, ↓w_or, ↓w_not, ↓w_ite, ↓w_lst, ↓w_tup, ↓w_ix, ↓w_sl, ↓w_lc, ↓w_call, ↓w_pcall, ↓w_new, ↓w_bi, ↓w_me, ↓w_dsp, ↓wt_nil, ↓wt_and, ↓wt_or, ↓wt_not, ↓wt_val, ↓wa_nil, ↓wa_cons, ↓wb_nil, ↓wb_cons, ↓wo_nil, ↓wo_cons, ↓ws_nil, ↓ws_seq, ↓ws_set, ↓ws_setT, ↓ws_setIx, ↓ws_aug, ↓ws_ifs, ↓ws_for, ↓ws_whl, ↓ws_ret, ↓ws_retN, ↓ws_expr, ↓ws_pass, ↓ws_brk, ↓ws_setO, ↓ws_retO, ↓ws_appO, ↓ws_extO, ↓ws_revO, ↓ws_putO, ↓ws_par, ↓ws_wipe, ↓ws_frz, ↓ok_some, ↓ok_none, ↓o2_some, ↓o2_none, ↓o3_some, ↓o3_none, ↓seqQ_nx, ↓seqQ_rt, ↓seqQ_bk, ↓seqQ_ct, ↓retQ_rt, ↓retQ_nx, ↓turnQ_nx, ↓turnQ_rt, ↓turnQ_bk, ↓turnQ_ct, ↓wipeQ, ↓w_runF, for_en, for_zp, lc_en, lc_zp, wipeE, flV', asg, asgs, parV, Src.get, srcOf, seqSrc, sizeLine, newV, binV, addV, ixV, dctOf, seqOf, lstOf, lstW, slV, biV, isV, tyOf, cmpV, augV, setIxV, meTy, m_join, m_app, m_ext, m_pop, m_rev, strsOf_str, strsOf_nil, strsOf_app, strsOf_mapf, strsOf_map, Option.bind_some, Option.map_some, atI, ixN, ↓ok_if, ↓ok_map, ↓ok_bind, ↓o2_if, ↓o3_if]
        refine ⟨by omega, ?_⟩
        exact add (.set (.wd w) t) o5 (b' - 1) c4 (by simp only [Rw.gw]; exact ⟨hw, t1⟩) (by simp only [Rw.d]; omega) (by omega) (by simp only [Rw.n]; omega) (hB5.mono (by omega))
      · by_cases w4 : d2 < 4
        · obtain ⟨x, hx, e⟩ := ix_lst (v := .fl [.str (Str.ofString "print"), .str (Str.ofString "give"), .str (Str.ofString "do")]) (d := d2 - 1) (h := [o4, roomO a (b' - 1 : Nat) c4]) rfl rfl (by simp) (by omega) (by simp; omega)
          obtain ⟨op, rfl⟩ : ∃ op : Op3, x = .str op.s := by
            simp only [List.mem_cons, List.not_mem_nil, or_false] at hx
            rcases hx with rfl | rfl | rfl
            · exact ⟨.print, rfl⟩
            · exact ⟨.give, rfl⟩
            · exact ⟨.do_, rfl⟩
          simp -dsimp [↓w_var, ↓w_cst, ↓w_bty, ↓w_glob, ↓w_bin, ↓w_neg, ↓w_cmp, ↓w_chain, ↓w_and, ↓w_or, ↓w_not, ↓w_ite, ↓w_lst, ↓w_tup, ↓w_ix, ↓w_sl, ↓w_lc, ↓w_call, ↓w_pcall, ↓w_new, ↓w_bi, ↓w_me, ↓w_dsp, ↓wt_nil, ↓wt_and, ↓wt_or, ↓wt_not, ↓wt_val, ↓wa_nil, ↓wa_cons, ↓wb_nil, ↓wb_cons, ↓wo_nil, ↓wo_cons, ↓ws_nil, ↓ws_seq, ↓ws_set, ↓ws_setT, ↓ws_setIx, ↓ws_aug, ↓ws_ifs, ↓ws_for, ↓ws_whl, ↓ws_ret, ↓ws_retN, ↓ws_expr, ↓ws_pass, ↓ws_brk, ↓ws_setO, ↓ws_retO, ↓ws_appO, ↓ws_extO, ↓ws_revO, ↓ws_putO, ↓ws_par, ↓ws_wipe, ↓ws_frz, ↓ok_some, ↓ok_none, ↓o2_some, ↓o2_none, ↓o3_some, ↓o3_none, ↓seqQ_nx, ↓seqQ_rt, ↓seqQ_bk, ↓seqQ_ct, ↓retQ_rt, ↓retQ_nx, ↓turnQ_nx, ↓turnQ_rt, ↓turnQ_bk, ↓turnQ_ct, ↓wipeQ, ↓w_runF, for_en, for_zp, lc_en, lc_zp, wipeE, flV', asg, asgs, parV, Src.get, srcOf, seqSrc, sizeLine, newV, binV, addV, dctOf, seqOf, lstOf, lstW, slV, biV, isV, tyOf, cmpV, augV, setIxV, meTy, m_join, m_app, m_ext, m_pop, m_rev, strsOf_str, strsOf_nil, strsOf_app, strsOf_mapf, strsOf_map, Option.bind_some, Option.map_some, ↓ok_if, ↓ok_map, ↓ok_bind, ↓o2_if, ↓o3_if, FK.eqV, w0, w4]
          refine Ok.of e ?_
          simp -dsimp [↓w_var, ↓w_cst, ↓w_bty, ↓w_glob, ↓w_bin, ↓w_neg, ↓w_cmp, ↓w_chain, ↓w_and, ↓w_or, ↓w_not, ↓w_ite, ↓w_lst, ↓w_tup, ↓w_ix, ↓w_sl, ↓w_lc, ↓w_call, ↓w_pcall, ↓w_new, ↓w_bi, ↓w_me, ↓w_dsp, ↓wt_nil, ↓wt_and, ↓wt_or, ↓wt_not, ↓wt_val, ↓wa_nil, ↓wa_cons, ↓wb_nil, ↓wb_cons, ↓wo_nil, ↓wo_cons, ↓ws_nil, ↓ws_seq, ↓ws_set, ↓ws_setT, ↓ws_setIx, ↓ws_aug, ↓ws_ifs, ↓ws_for, ↓ws_whl, ↓ws_ret, ↓ws_retN, ↓ws_expr, ↓ws_pass, ↓ws_brk, ↓ws_setO, ↓ws_retO, ↓ws_appO, ↓ws_extO, ↓ws_revO, ↓ws_putO, ↓ws_par, ↓ws_wipe, ↓ws_frz, ↓ok_some, ↓ok_none, ↓o2_some, ↓o2_none, ↓o3_some, ↓o3_none, ↓seqQ_nx, ↓seqQ_rt, ↓seqQ_bk, ↓seqQ_ct, ↓retQ_rt, ↓retQ_nx, ↓turnQ_nx, ↓turnQ_rt, ↓turnQ_bk, ↓turnQ_ct, ↓wipeQ, ↓w_runF, for_en, for_zp, lc_en, lc_zp, wipeE, flV', asg, asgs, parV, Src.get, srcOf, seqSrc, sizeLine, newV, binV, addV, ixV, dctOf, seqOf, lstOf, lstW, slV, biV, isV, tyOf, cmpV, augV, setIxV, meTy, m_join, m_app, m_ext, m_pop, m_rev, strsOf_str, strsOf_nil, strsOf_app, strsOf_mapf, strsOf_map, Option.bind_some, Option.map_some, atI, ixN, ↓ok_if, ↓ok_map, ↓ok_bind, ↓o2_if, ↓o3_if]
          refine ⟨by omega, ?_⟩
          exact add (.pl op t) o4 (b' - 1) c4 (by simp only [Rw.gw]; exact t1) (by simp only [Rw.d]; omega) (by omega) (by simp only [Rw.n]; omega) (hB4.mono (by omega))
        · obtain ⟨m', rfl⟩ : ∃ m', m = m' + 1 := ⟨m - 1, by omega⟩
          simp only [Nat.add_sub_cancel, PR] at R hi2 em add hb hPR hB4 ⊢
          by_cases w5 : d2 = 4
          · simp -dsimp [↓w_var, ↓w_cst, ↓w_bty, ↓w_glob, ↓w_bin, ↓w_neg, ↓w_cmp, ↓w_chain, ↓w_and, ↓w_or, ↓w_not, ↓w_ite, ↓w_lst, ↓w_tup, ↓w_ix, ↓w_sl, ↓w_lc, ↓w_call, ↓w_pcall, ↓w_new, ↓w_bi, ↓w_me, ↓w_dsp, ↓wt_nil, ↓wt_and, ↓wt_or, ↓wt_not, ↓wt_val, ↓wa_nil, ↓wa_cons, ↓wb_nil, ↓wb_cons, ↓wo_nil, ↓wo_cons, ↓ws_nil, ↓ws_seq, ↓ws_set, ↓ws_setT, ↓ws_setIx, ↓ws_aug, ↓ws_ifs, ↓ws_for, ↓ws_whl, ↓ws_ret, ↓ws_retN, ↓ws_expr, ↓ws_pass, ↓ws_brk, ↓ws_setO, ↓ws_retO, ↓ws_appO, ↓ws_extO, ↓ws_revO, ↓ws_putO, ↓ws_par, ↓ws_wipe, ↓ws_frz, ↓ok_some, ↓ok_none, ↓o2_some, ↓o2_none, ↓o3_some, ↓o3_none, ↓seqQ_nx, ↓seqQ_rt, ↓seqQ_bk, ↓seqQ_ct, ↓retQ_rt, ↓retQ_nx, ↓turnQ_nx, ↓turnQ_rt, ↓turnQ_bk, ↓turnQ_ct, ↓wipeQ, ↓w_runF, for_en, for_zp, lc_en, lc_zp, wipeE, flV', asg, asgs, parV, Src.get, srcOf, seqSrc, sizeLine, newV, binV, addV, ixV, dctOf, seqOf, lstOf, lstW, slV, biV, isV, tyOf, cmpV, augV, setIxV, meTy, m_join, m_app, m_ext, m_pop, m_rev, strsOf_str, strsOf_nil, strsOf_app, strsOf_mapf, strsOf_map, Option.bind_some, Option.map_some, atI, ixN, ↓ok_if, ↓ok_map, ↓ok_bind, ↓o2_if, ↓o3_if, FK.eqV, w5]
            refine R _ o4 (b' - 1) c4 (by omega) hB4 (by omega) (by omega) _ fun l2 o5 b5 c5 q1 q2 q3 q4 hB5 => ?_
            simp -dsimp [↓w_var, ↓w_cst, ↓w_bty, ↓w_glob, ↓w_bin, ↓w_neg, ↓w_cmp, ↓w_chain, ↓w_and, ↓w_or, ↓w_not, ↓w_ite, ↓w_lst, ↓w_tup, ↓w_ix, ↓w_sl, ↓w_lc, ↓w_call, ↓w_pcall, ↓w_new, ↓w_bi, ↓w_me, ↓w_dsp, ↓wt_nil, ↓wt_and, ↓wt_or, ↓wt_not, ↓wt_val, ↓wa_nil, ↓wa_cons, ↓wb_nil, ↓wb_cons, ↓wo_nil, ↓wo_cons, ↓ws_nil, ↓ws_seq, ↓ws_set, ↓ws_setT, ↓ws_setIx, ↓ws_aug, ↓ws_ifs, ↓ws_for, ↓ws_whl, ↓ws_ret, ↓ws_retN, ↓ws_expr, ↓ws_pass, ↓ws_brk, ↓ws_setO, ↓ws_retO, ↓ws_appO, ↓ws_extO, ↓ws_revO, ↓ws_putO, ↓ws_par, ↓ws_wipe, ↓ws_frz, ↓ok_some, ↓ok_none, ↓o2_some, ↓o2_none, ↓o3_some, ↓o3_none, ↓seqQ_nx, ↓seqQ_rt, ↓seqQ_bk, ↓seqQ_ct, ↓retQ_rt, ↓retQ_nx, ↓turnQ_nx, ↓turnQ_rt, ↓turnQ_bk, ↓turnQ_ct, ↓wipeQ, ↓w_runF, for_en, for_zp, lc_en, lc_zp, wipeE, flV', asg, asgs, parV, Src.get, srcOf, seqSrc, sizeLine, newV, binV, addV, ixV, dctOf, seqOf, lstOf, lstW, slV, biV, isV, tyOf, cmpV, augV, setIxV, meTy, m_join, m_app, m_ext, m_pop, m_rev, strsOf_str, strsOf_nil, strsOf_app, strsOf_mapf, strsOf_map, Option.bind_some, Option.map_some, atI, ixN, ↓ok_if, ↓ok_map, ↓ok_bind, ↓o2_if, ↓o3_if]
            refine ⟨by omega, ?_⟩
            rw [show (Vl.tup [.str (Str.ofString "turns"), t.v, .tup (l2.map Rw.v)]) = (Rw.turns t l2).v by simp only [Rw.v, Rw.vs_map]]
            exact add (.turns t l2) o5 b5 c5 (by simp only [Rw.gw]; exact ⟨t1, q1⟩) (by simp only [Rw.d]; omega) (by omega) (by simp only [Rw.n]; omega) (hB5.mono (by omega))
          · simp -dsimp [↓w_var, ↓w_cst, ↓w_bty, ↓w_glob, ↓w_bin, ↓w_neg, ↓w_cmp, ↓w_chain, ↓w_and, ↓w_or, ↓w_not, ↓w_ite, ↓w_lst, ↓w_tup, ↓w_ix, ↓w_sl, ↓w_lc, ↓w_call, ↓w_pcall, ↓w_new, ↓w_bi, ↓w_me, ↓w_dsp, ↓wt_nil, ↓wt_and, ↓wt_or, ↓wt_not, ↓wt_val, ↓wa_nil, ↓wa_cons, ↓wb_nil, ↓wb_cons, ↓wo_nil, ↓wo_cons, ↓ws_nil, ↓ws_seq, ↓ws_set, ↓ws_setT, ↓ws_setIx, ↓ws_aug, ↓ws_ifs, ↓ws_for, ↓ws_whl, ↓ws_ret, ↓ws_retN, ↓ws_expr, ↓ws_pass, ↓ws_brk, ↓ws_setO, ↓ws_retO, ↓ws_appO, ↓ws_extO, ↓ws_revO, ↓ws_putO, ↓ws_par, ↓ws_wipe, ↓ws_frz, ↓ok_some, ↓ok_none, ↓o2_some, ↓o2_none, ↓o3_some, ↓o3_none, ↓seqQ_nx, ↓seqQ_rt, ↓seqQ_bk, ↓seqQ_ct, ↓retQ_rt, ↓retQ_nx, ↓turnQ_nx, ↓turnQ_rt, ↓turnQ_bk, ↓turnQ_ct, ↓wipeQ, ↓w_runF, for_en, for_zp, lc_en, lc_zp, wipeE, flV', asg, asgs, parV, Src.get, srcOf, seqSrc, sizeLine, newV, binV, addV, ixV, dctOf, seqOf, lstOf, lstW, slV, biV, isV, tyOf, cmpV, augV, setIxV, meTy, m_join, m_app, m_ext, m_pop, m_rev, strsOf_str, strsOf_nil, strsOf_app, strsOf_mapf, strsOf_map, Option.bind_some, Option.map_some, atI, ixN, ↓ok_if, ↓ok_map, ↓ok_bind, ↓o2_if, ↓o3_if, FK.eqV, w0, w4, w5]
            refine R _ o4 (b' - 1) c4 (by omega) hB4 (by omega) (by omega) _ fun l2 o5 b5 c5 q1 q2 q3 q4 hB5 => ?_
            simp -dsimp [↓w_var, ↓w_cst, ↓w_bty, ↓w_glob, ↓w_bin, ↓w_neg, ↓w_cmp, ↓w_chain, ↓w_and, ↓w_or, ↓w_not, ↓w_ite, ↓w_lst, ↓w_tup, ↓w_ix, ↓w_sl, ↓w_lc, ↓w_call, ↓w_pcall, ↓w_new, ↓w_bi, ↓w_me, ↓w_dsp, ↓wt_nil, ↓wt_and, ↓wt_or, ↓wt_not, ↓wt_val, ↓wa_nil, ↓wa_cons, ↓wb_nil, ↓wb_cons, ↓wo_nil, ↓wo_cons, ↓ws_nil, ↓ws_seq, ↓ws_set, ↓ws_setT, ↓ws_setIx, ↓ws_aug, ↓ws_ifs, ↓ws_for, ↓ws_whl, ↓ws_ret, ↓ws_retN, ↓ws_expr, ↓ws_pass, ↓ws_brk, ↓ws_setO, ↓ws_retO, ↓ws_appO, ↓ws_extO, ↓ws_revO, ↓ws_putO, ↓ws_par, ↓ws_wipe, ↓ws_frz, ↓ok_some, ↓ok_none, ↓o2_some, ↓o2_none, ↓o3_some, ↓o3_none, ↓seqQ_nx, ↓seqQ_rt, ↓seqQ_bk, ↓seqQ_ct, ↓retQ_rt, ↓retQ_nx, ↓turnQ_nx, ↓turnQ_rt, ↓turnQ_bk, ↓turnQ_ct, ↓wipeQ, ↓w_runF, for_en, for_zp, lc_en, lc_zp, wipeE, flV', asg, asgs, parV, Src.get, srcOf, seqSrc, sizeLine, newV, binV, addV, ixV, dctOf, seqOf, lstOf, lstW, slV, biV, isV, tyOf, cmpV, augV, setIxV, meTy, m_join, m_app, m_ext, m_pop, m_rev, strsOf_str, strsOf_nil, strsOf_app, strsOf_mapf, strsOf_map, Option.bind_some, Option.map_some, atI, ixN, ↓ok_if, ↓ok_map, ↓ok_bind, ↓o2_if, ↓o3_if]
            refine R _ o5 b5 c5 (by omega) hB5 (by omega) (by omega) _ fun l3 o6 b6 c6 p1 p2 p3 p4 hB6 => ?_
            simp -dsimp [↓w_var, ↓w_cst, ↓w_bty, ↓w_glob, ↓w_bin, ↓w_neg, ↓w_cmp, ↓w_chain, ↓w_and, ↓w_or, ↓w_not, ↓w_ite, ↓w_lst, ↓w_tup, ↓w_ix, ↓w_sl, ↓w_lc, ↓w_call, ↓w_pcall, ↓w_new, ↓w_bi, ↓w_me, ↓w_dsp, ↓wt_nil, ↓wt_and, ↓wt_or, ↓wt_not, ↓wt_val, ↓wa_nil, ↓wa_cons, ↓wb_nil, ↓wb_cons, ↓wo_nil, ↓wo_cons, ↓ws_nil, ↓ws_seq, ↓ws_set, ↓ws_setT, ↓ws_setIx, ↓ws_aug, ↓ws_ifs, ↓ws_for, ↓ws_whl, ↓ws_ret, ↓ws_retN, ↓ws_expr, ↓ws_pass, ↓ws_brk, ↓ws_setO, ↓ws_retO, ↓ws_appO, ↓ws_extO, ↓ws_revO, ↓ws_putO, ↓ws_par, ↓ws_wipe, ↓ws_frz, ↓ok_some, ↓ok_none, ↓o2_some, ↓o2_none, ↓o3_some, ↓o3_none, ↓seqQ_nx, ↓seqQ_rt, ↓seqQ_bk, ↓seqQ_ct, ↓retQ_rt, ↓retQ_nx, ↓turnQ_nx, ↓turnQ_rt, ↓turnQ_bk, ↓turnQ_ct, ↓wipeQ, ↓w_runF, for_en, for_zp, lc_en, lc_zp, wipeE, flV', asg, asgs, parV, Src.get, srcOf, seqSrc, sizeLine, newV, binV, addV, ixV, dctOf, seqOf, lstOf, lstW, slV, biV, isV, tyOf, cmpV, augV, setIxV, meTy, m_join, m_app, m_ext, m_pop, m_rev, strsOf_str, strsOf_nil, strsOf_app, strsOf_mapf, strsOf_map, Option.bind_some, Option.map_some, atI, ixN, ↓ok_if, ↓ok_map, ↓ok_bind, ↓o2_if, ↓o3_if]
            refine ⟨by omega, ?_⟩
            rw [show (Vl.tup [.str (Str.ofString "if"), t.v, .tup (l2.map Rw.v), .tup (l3.map Rw.v)]) = (Rw.ife t l2 l3).v by simp only [Rw.v, Rw.vs_map]]
            exact add (.ife t l2 l3) o6 b6 c6 (by simp only [Rw.gw]; exact ⟨t1, q1, p1⟩) (by simp only [Rw.d]; omega) (by omega) (by simp only [Rw.n]; omega) (hB6.mono (by omega))
    · simp -dsimp [↓w_var, ↓w_cst, ↓w_bty, ↓w_glob, ↓w_bin, ↓w_neg, ↓w_cmp, ↓w_chain, ↓w_and, ↓w_or, ↓w_not, ↓w_ite, ↓w_lst, ↓w_tup, ↓w_ix, ↓w_sl, ↓w_lc, ↓w_call, ↓w_pcall, ↓w_new, ↓w_bi, ↓w_me, ↓w_dsp, ↓wt_nil, ↓wt_and, ↓wt_or, ↓wt_not, ↓wt_val, ↓wa_nil, ↓wa_cons, ↓wb_nil, ↓wb_cons, ↓wo_nil, ↓wo_cons, ↓ws_nil, ↓ws_seq, ↓ws_set, ↓ws_setT, ↓ws_setIx, ↓ws_aug, ↓ws_ifs, ↓ws_for, ↓ws_whl, ↓ws_ret, ↓ws_retN, ↓ws_expr, ↓ws_pass, ↓ws_brk, ↓ws_setO, ↓ws_retO, ↓ws_appO, ↓ws_extO, ↓ws_revO, ↓ws_putO, ↓ws_par, ↓ws_wipe, ↓ws_frz, ↓ok_some, ↓ok_none, ↓o2_some, ↓o2_none, ↓o3_some, ↓o3_none, ↓seqQ_nx, ↓seqQ_rt, ↓seqQ_bk, ↓seqQ_ct, ↓retQ_rt, ↓retQ_nx, ↓turnQ_nx, ↓turnQ_rt, ↓turnQ_bk, ↓turnQ_ct, ↓wipeQ, ↓w_runF, for_en, for_zp, lc_en, lc_zp, wipeE, flV', asg, asgs, parV, Src.get, srcOf, seqSrc, sizeLine, newV, binV, addV, ixV, dctOf, seqOf, lstOf, lstW, slV, biV, isV, tyOf, cmpV, augV, setIxV, meTy, m_join, m_app, m_ext, m_pop, m_rev, strsOf_str, strsOf_nil, strsOf_app, strsOf_mapf, strsOf_map, Option.bind_some, Option.map_some, atI, ixN, ↓ok_if, ↓ok_map, ↓ok_bind, ↓o2_if, ↓o3_if, roomO, hb0]
      exact ⟨l, o2, b', c', rfl, rfl, g1, g2, g3, g4, hB2.mono (by omega), by omega⟩
  · obtain ⟨l, o', b', c', rfl, rfl, g1, g2, g3, g4, g5, g6⟩ := hI
    simp only [List.length_map, List.length_range] at g5 g6
    have hi2 : n * (PR m / 4) ≤ 3 * (PR m / 4) := Nat.mul_le_mul_right _ (by omega)
    simp -dsimp [↓w_var, ↓w_cst, ↓w_bty, ↓w_glob, ↓w_bin, ↓w_neg, ↓w_cmp, ↓w_chain, ↓w_and, ↓w_or, ↓w_not, ↓w_ite, ↓w_lst, ↓w_tup, ↓w_ix, ↓w_sl, ↓w_lc, ↓w_call, ↓w_pcall, ↓w_new, ↓w_bi, ↓w_me, ↓w_dsp, ↓wt_nil, ↓wt_and, ↓wt_or, ↓wt_not, ↓wt_val, ↓wa_nil, ↓wa_cons, ↓wb_nil, ↓wb_cons, ↓wo_nil, ↓wo_cons, ↓ws_nil, ↓ws_seq, ↓ws_set, ↓ws_setT, ↓ws_setIx, ↓ws_aug, ↓ws_ifs, ↓ws_for, ↓ws_whl, ↓ws_ret, ↓ws_retN, ↓ws_expr, ↓ws_pass, ↓ws_brk, ↓ws_setO, ↓ws_retO, ↓ws_appO, ↓ws_extO, ↓ws_revO, ↓ws_putO, ↓ws_par, ↓ws_wipe, ↓ws_frz, ↓ok_some, ↓ok_none, ↓o2_some, ↓o2_none, ↓o3_some, ↓o3_none, ↓seqQ_nx, ↓seqQ_rt, ↓seqQ_bk, ↓seqQ_ct, ↓retQ_rt, ↓retQ_nx, ↓turnQ_nx, ↓turnQ_rt, ↓turnQ_bk, ↓turnQ_ct, ↓wipeQ, ↓w_runF, for_en, for_zp, lc_en, lc_zp, wipeE, flV', asg, asgs, parV, Src.get, srcOf, seqSrc, sizeLine, newV, binV, addV, ixV, dctOf, seqOf, lstOf, lstW, slV, biV, isV, tyOf, cmpV, augV, setIxV, meTy, m_join, m_app, m_ext, m_pop, m_rev, strsOf_str, strsOf_nil, strsOf_app, strsOf_mapf, strsOf_map, Option.bind_some, Option.map_some, atI, ixN, ↓ok_if, ↓ok_map, ↓ok_bind, ↓o2_if, ↓o3_if]
    exact ⟨l, o', b', c', rfl, rfl, g1, g2, g3, g4, g5.mono (by omega)⟩
theorem any_rows_run (D : HasAnyR W) : ∀ (m k : Nat), m ≤ 2 → 11 + m ≤ k → RowsAt W m k := by
  intro m
  induction m with
  | zero =>
    intro k _ hk
    obtain ⟨k, rfl⟩ : ∃ j, k = j + 1 := ⟨k - 1, by omega⟩
    exact any_rows_step D 0 k (by omega) (by omega) fun m' e => by omega
  | succ m ih =>
    intro k hm hk
    obtain ⟨k, rfl⟩ : ∃ j, k = j + 1 := ⟨k - 1, by omega⟩
    exact any_rows_step D (m + 1) k hm (by omega) fun m' e => by
      obtain rfl : m = m' := by omega
      exact ih k (by omega) (by omega)
end
end FK

/-! ### unlike words -/
namespace FK
open PySem PySem.Spec PyProof.Rows L2
/-- _law_unlike: 0 law_left_here@, 1 law_many, 2 law_found!, 3 law_turn, 4 law_word, 5 law_one, 6 law_k -/
def F.law_unlike_e0 : Ex := (.bin .Add (.cst (.str "z")) (.bi .str (.cons (.var 6) .nil)))
def F.law_unlike_b0 : Sx := (.seq (.set 4 (.pcall 7 (.cons (.var 0) .nil))) (.seq (.wipe [3, 4] (.appO 2 (.ix (.lc .seq (.cons (.bin .Add (.lst (.cons (.var 4) .nil)) (.lc .rng (.cons (.cst (.int 20)) .nil) (.name 6) [6] .nil F.law_unlike_e0)) .nil) (.name 5) [5] (.val (.cmp .NotIn (.var 5) (.var 2))) (.var 5)) (.cst (.int 0))))) .nil))
def F.law_unlike_body : Sx := (.seq (.setO 2 (.lst .nil)) (.seq (.wipe [3, 4] (.for_ .rng (.cons (.var 1) .nil) (.name 3) F.law_unlike_b0)) (.seq (.retO 2) .nil)))
def F.law_unlike : Fn := ⟨2, 7, F.law_unlike_body⟩
/-! a text among texts -/
theorem mapM_strs (l : List Str) : (l.map Vl.str).mapM flV = some (l.map V.str) := by
  induction l with
  | nil => rfl
  | cons x l ih => rw [List.map_cons, List.mapM_cons, ih]; rfl
theorem l2_in (w : Str) (l : List Str) : L2.inV (.str w) (l.map V.str) = decide (w ∈ l) := by
  induction l with
  | nil => simp [L2.inV]
  | cons x l ih =>
    simp only [L2.inV, List.map_cons, List.any_cons, L2.eqV] at ih ⊢
    rw [ih]
    by_cases h : x = w
    · subst h; simp
    · have h' : ¬ w = x := fun z => h z.symm
      simp [h, h']
theorem in_strs {w : Str} {v : Vl} {h : AH} {l : List Str} (hd : dctOf v h = none) (hs : ∀ z, v ≠ .str z) (hv : seqOf v h = some (l.map .str)) : FK.inV (.str w) v h = some (decide (w ∈ l)) := by
  cases v <;> first
    | (exact absurd rfl (hs _))
    | (simp only [seqOf, lstOf, lstW] at hv; simp only [FK.inV, hd]; cases hv; done)
    | (simp only [FK.inV, hd, hv, Option.bind_some, flV, mapM_strs, l2_in])
/-- a number's figures -/
def sI (n : Int) : Str := Str.ofString (toString n)
theorem strV_sI {h : AH} {i : Int} (hi : i.natAbs.log2 < 1900) : strV (.int i) h = some (sI i) := strV_int hi
theorem zed_words : ∀ n : Nat, n < 20 → WordS (Str.ofString "z" ++ sI (n : Int)) := by
  intro n hn
  apply wordB_ok.mp
  have q : (List.range 20).all (fun n => wordB (Str.ofString "z" ++ sI (n : Int))) = true := by decide +kernel
  exact List.all_eq_true.mp q n (by simpa using hn)
def zeds : List Str := (List.range 20).map fun (n : Nat) => Str.ofString "z" ++ sI (n : Int)
theorem zeds_nd : zeds.Nodup := by decide +kernel
theorem pigeon {l m : List Str} (hl : l.Nodup) (h : m.length < l.length) : ∃ x ∈ l, x ∉ m := by
  apply Classical.byContradiction
  intro hn
  have sub : ∀ x ∈ l, x ∈ m := fun x hx => Classical.byContradiction fun z => hn ⟨x, hx, z⟩
  have go : ∀ (l m : List Str), l.Nodup → (∀ x ∈ l, x ∈ m) → l.length ≤ m.length := by
    intro l
    induction l with
    | nil => intro m _ _; simp
    | cons x l ih =>
      intro m hn hs
      have hx : x ∈ m := hs x (by simp)
      have h1 := ih (m.erase x) (List.nodup_cons.mp hn).2 fun y hy => (List.mem_erase_of_ne (fun (e : y = x) => (List.nodup_cons.mp hn).1 (by rw [← e]; exact hy))).mpr (hs y (List.mem_cons_of_mem _ hy))
      rw [List.length_erase_of_mem hx] at h1
      have : 0 < m.length := List.length_pos_of_mem hx
      simp only [List.length_cons]
      omega
  have := go l m hl sub
  omega
section
variable {W : Wd}
structure HasAnyU (W : Wd) : Prop extends HasAnyR W where
  unlike : W.fns.lookup 8 = some F.law_unlike
def QUn (m B : Nat) (v : Vl) (h : AH) : Prop := ∃ (ws : List Str) (o' : Ob), v = .fl (ws.map .str) ∧ h = [o'] ∧ ws.length = m ∧ ws.Nodup ∧ (∀ w ∈ ws, WordS w) ∧ Dr (B + 12 * m) o'
def IUn (m B : Nat) (i : Nat) (e : AE) (h : AH) : Prop := ∃ (ws : List Str) (o' : Ob), e = [some (.ref 0), some (.int m), some (.fl (ws.map .str)), none, none, none, none] ∧ h = [o'] ∧ ws.length = i ∧ ws.Nodup ∧ (∀ w ∈ ws, WordS w) ∧ Dr (B + 12 * i) o'
theorem unlike_run (D : HasAnyU W) {k m B : Nat} {o : Ob} (hk : 6 ≤ k) (hm : m ≤ 15) (hB : Dr B o) (hb : B + 12 * m < 2 ^ 40) : O2 (W.C k 8 [.ref 0, .int m] [o]) (QUn m B) := by
  obtain ⟨k, rfl⟩ : ∃ j, k = j + 1 := ⟨k - 1, by omega⟩
  rw [Wd.C_run D.unlike]
  have r1 : in62 (m : Int) = true := by simp [in62]; omega
  have r2 : in62 20 = true := by decide
  simp -dsimp [F.law_unlike, F.law_unlike_body, ↓w_var, ↓w_cst, ↓w_bty, ↓w_glob, ↓w_bin, ↓w_neg, ↓w_cmp, ↓w_chain, ↓w_and, ↓w_or, ↓w_not, ↓w_ite, ↓w_lst, ↓w_tup, ↓w_ix, ↓w_sl, ↓w_lc, ↓w_call, ↓w_pcall, ↓w_new, ↓w_bi, ↓w_me, ↓w_dsp, ↓wt_nil, ↓wt_and, ↓wt_or, ↓wt_not, ↓wt_val, ↓wa_nil, ↓wa_cons, ↓wb_nil, ↓wb_cons, ↓wo_nil, ↓wo_cons, ↓ws_nil, ↓ws_seq, ↓ws_set, ↓ws_setT, ↓ws_setIx, ↓ws_aug, ↓ws_ifs, ↓ws_for, ↓ws_whl, ↓ws_ret, ↓ws_retN, ↓ws_expr, ↓ws_pass, ↓ws_brk, ↓ws_setO, ↓ws_retO, ↓ws_appO, ↓ws_extO, ↓ws_revO, ↓ws_putO, ↓ws_par, ↓ws_wipe, ↓ws_frz, ↓ok_some, ↓ok_none, ↓o2_some, ↓o2_none, ↓o3_some, ↓o3_none, ↓seqQ_nx, ↓seqQ_rt, ↓seqQ_bk, ↓seqQ_ct, ↓retQ_rt, ↓retQ_nx, ↓turnQ_nx, ↓turnQ_rt, ↓turnQ_bk, ↓turnQ_ct, ↓wipeQ, ↓w_runF, for_en, for_zp, lc_en, lc_zp, wipeE, flV', asg, asgs, parV, Src.get, srcOf, seqSrc, sizeLine, newV, binV, addV, ixV, dctOf, seqOf, lstOf, lstW, slV, biV, isV, tyOf, cmpV, augV, setIxV, meTy, m_join, m_app, m_ext, m_pop, m_rev, strsOf_str, strsOf_nil, strsOf_app, strsOf_mapf, strsOf_map, Option.bind_some, Option.map_some, atI, ixN, ↓ok_if, ↓ok_map, ↓ok_bind, ↓o2_if, ↓o3_if, r1, rngL]
  refine for_inv (I := IUn m B) ⟨[], o, rfl, rfl, rfl, by simp, by simp, hB.mono (by omega)⟩ (fun i x e h' hx hI => ?_) (fun e h' hI => ?_) (by simp)
  · obtain ⟨ws, o', rfl, rfl, g1, g2, g3, g4⟩ := hI
    have hi : i < m := by
      have := (List.getElem?_eq_some_iff.mp hx).1
      simpa using this
    simp -dsimp [F.law_unlike_b0, ↓w_var, ↓w_cst, ↓w_bty, ↓w_glob, ↓w_bin, ↓w_neg, ↓w_cmp, ↓w_chain, ↓w_and, ↓w_or, ↓w_not, ↓w_ite, ↓w_lst, ↓w_tup, ↓w_ix, ↓w_sl, ↓w_lc, ↓w_call, ↓w_pcall, ↓w_new, ↓w_bi, ↓w_me, ↓w_dsp, ↓wt_nil, ↓wt_and, ↓wt_or, ↓wt_not, ↓wt_val, ↓wa_nil, ↓wa_cons, ↓wb_nil, ↓wb_cons, ↓wo_nil, ↓wo_cons, ↓ws_nil, ↓ws_seq, ↓ws_set, ↓ws_setT, ↓ws_setIx, ↓ws_aug, ↓ws_ifs, ↓ws_for, ↓ws_whl, ↓ws_ret, ↓ws_retN, ↓ws_expr, ↓ws_pass, ↓ws_brk, ↓ws_setO, ↓ws_retO, ↓ws_appO, ↓ws_extO, ↓ws_revO, ↓ws_putO, ↓ws_par, ↓ws_wipe, ↓ws_frz, ↓ok_some, ↓ok_none, ↓o2_some, ↓o2_none, ↓o3_some, ↓o3_none, ↓seqQ_nx, ↓seqQ_rt, ↓seqQ_bk, ↓seqQ_ct, ↓retQ_rt, ↓retQ_nx, ↓turnQ_nx, ↓turnQ_rt, ↓turnQ_bk, ↓turnQ_ct, ↓wipeQ, ↓w_runF, for_en, for_zp, lc_en, lc_zp, wipeE, flV', asg, asgs, parV, Src.get, srcOf, seqSrc, sizeLine, newV, binV, addV, ixV, dctOf, seqOf, lstOf, lstW, slV, biV, isV, tyOf, cmpV, augV, setIxV, meTy, m_join, m_app, m_ext, m_pop, m_rev, strsOf_str, strsOf_nil, strsOf_app, strsOf_mapf, strsOf_map, Option.bind_some, Option.map_some, atI, ixN, ↓ok_if, ↓ok_map, ↓ok_bind, ↓o2_if, ↓o3_if]
    refine any_word_ok D.toHasAny (by omega) rfl g4 (by omega) fun w o2 hw hB2 => ?_
    simp -dsimp [↓w_var, ↓w_cst, ↓w_bty, ↓w_glob, ↓w_bin, ↓w_neg, ↓w_cmp, ↓w_chain, ↓w_and, ↓w_or, ↓w_not, ↓w_ite, ↓w_lst, ↓w_tup, ↓w_ix, ↓w_sl, ↓w_lc, ↓w_call, ↓w_pcall, ↓w_new, ↓w_bi, ↓w_me, ↓w_dsp, ↓wt_nil, ↓wt_and, ↓wt_or, ↓wt_not, ↓wt_val, ↓wa_nil, ↓wa_cons, ↓wb_nil, ↓wb_cons, ↓wo_nil, ↓wo_cons, ↓ws_nil, ↓ws_seq, ↓ws_set, ↓ws_setT, ↓ws_setIx, ↓ws_aug, ↓ws_ifs, ↓ws_for, ↓ws_whl, ↓ws_ret, ↓ws_retN, ↓ws_expr, ↓ws_pass, ↓ws_brk, ↓ws_setO, ↓ws_retO, ↓ws_appO, ↓ws_extO, ↓ws_revO, ↓ws_putO, ↓ws_par, ↓ws_wipe, ↓ws_frz, ↓ok_some, ↓ok_none, ↓o2_some, ↓o2_none, ↓o3_some, ↓o3_none, ↓seqQ_nx, ↓seqQ_rt, ↓seqQ_bk, ↓seqQ_ct, ↓retQ_rt, ↓retQ_nx, ↓turnQ_nx, ↓turnQ_rt, ↓turnQ_bk, ↓turnQ_ct, ↓wipeQ, ↓w_runF, for_en, for_zp, lc_en, lc_zp, wipeE, flV', asg, asgs, parV, Src.get, srcOf, seqSrc, sizeLine, newV, binV, addV, ixV, dctOf, seqOf, lstOf, lstW, slV, biV, isV, tyOf, cmpV, augV, setIxV, meTy, m_join, m_app, m_ext, m_pop, m_rev, strsOf_str, strsOf_nil, strsOf_app, strsOf_mapf, strsOf_map, Option.bind_some, Option.map_some, atI, ixN, ↓ok_if, ↓ok_map, ↓ok_bind, ↓o2_if, ↓o3_if, r2, rngL]
    refine O2.of (lc_map (ys := List.range 20) (emb := fun n => .int (n : Nat)) (g := fun n => .str (Str.ofString "z" ++ sI (n : Int))) evT_nil (fun n hn => ?_) rfl (by simp)) ?_
    · have hn' : n < 20 := by simpa using hn
      have e1 := fun h => strV_sI (h := h) (i := (n : Int)) (by
        have := logN (n := n) (by omega)
        omega)
      have l1 := (zed_words n hn').ok.1
      rw [app_len] at l1
      simp -dsimp [F.law_unlike_e0, ↓w_var, ↓w_cst, ↓w_bty, ↓w_glob, ↓w_bin, ↓w_neg, ↓w_cmp, ↓w_chain, ↓w_and, ↓w_or, ↓w_not, ↓w_ite, ↓w_lst, ↓w_tup, ↓w_ix, ↓w_sl, ↓w_lc, ↓w_call, ↓w_pcall, ↓w_new, ↓w_bi, ↓w_me, ↓w_dsp, ↓wt_nil, ↓wt_and, ↓wt_or, ↓wt_not, ↓wt_val, ↓wa_nil, ↓wa_cons, ↓wb_nil, ↓wb_cons, ↓wo_nil, ↓wo_cons, ↓ws_nil, ↓ws_seq, ↓ws_set, ↓ws_setT, ↓ws_setIx, ↓ws_aug, ↓ws_ifs, ↓ws_for, ↓ws_whl, ↓ws_ret, ↓ws_retN, ↓ws_expr, ↓ws_pass, ↓ws_brk, ↓ws_setO, ↓ws_retO, ↓ws_appO, ↓ws_extO, ↓ws_revO, ↓ws_putO, ↓ws_par, ↓ws_wipe, ↓ws_frz, ↓ok_some, ↓ok_none, ↓o2_some, ↓o2_none, ↓o3_some, ↓o3_none, ↓seqQ_nx, ↓seqQ_rt, ↓seqQ_bk, ↓seqQ_ct, ↓retQ_rt, ↓retQ_nx, ↓turnQ_nx, ↓turnQ_rt, ↓turnQ_bk, ↓turnQ_ct, ↓wipeQ, ↓w_runF, for_en, for_zp, lc_en, lc_zp, wipeE, flV', asg, asgs, parV, Src.get, srcOf, seqSrc, newV, binV, addV, ixV, dctOf, seqOf, lstOf, lstW, slV, biV, isV, tyOf, cmpV, augV, setIxV, meTy, m_join, m_app, m_ext, m_pop, m_rev, strsOf_str, strsOf_nil, strsOf_app, strsOf_mapf, strsOf_map, Option.bind_some, Option.map_some, atI, ixN, ↓ok_if, ↓ok_map, ↓ok_bind, ↓o2_if, ↓o3_if, e1]
      simp only [sizeLine]
      omega
    · have eF : (List.range 20).map (fun (n : Nat) => Vl.str (Str.ofString "z" ++ sI (n : Int))) = zeds.map .str := by simp [zeds]
      have hzl : zeds.length = 20 := by simp [zeds]
      have hz : (w :: zeds).filter (fun x => !decide (x ∈ ws)) ≠ [] := by
        obtain ⟨x, hx1, hx2⟩ := pigeon (m := ws) zeds_nd (by omega)
        intro hn
        have : x ∈ (w :: zeds).filter (fun x => !decide (x ∈ ws)) := List.mem_filter.mpr ⟨by simp [hx1], by simp [hx2]⟩
        rw [hn] at this; cases this
      obtain ⟨y, ys, hy⟩ := List.exists_cons_of_ne_nil hz
      have hym : y ∈ (w :: zeds).filter (fun x => !decide (x ∈ ws)) := by rw [hy]; simp
      obtain ⟨hy1, hy2⟩ := List.mem_filter.mp hym
      have hyw : WordS y := by
        rcases List.mem_cons.mp hy1 with rfl | h1
        · exact hw
        · obtain ⟨n, hn, rfl⟩ := List.mem_map.mp h1
          exact zed_words n (by simpa using hn)
      have hyn : y ∉ ws := by simpa using hy2
      simp -dsimp [↓w_var, ↓w_cst, ↓w_bty, ↓w_glob, ↓w_bin, ↓w_neg, ↓w_cmp, ↓w_chain, ↓w_and, ↓w_or, ↓w_not, ↓w_ite, ↓w_lst, ↓w_tup, ↓w_ix, ↓w_sl, ↓w_lc, ↓w_call, ↓w_pcall, ↓w_new, ↓w_bi, ↓w_me, ↓w_dsp, ↓wt_nil, ↓wt_and, ↓wt_or, ↓wt_not, ↓wt_val, ↓wa_nil, ↓wa_cons, ↓wb_nil, ↓wb_cons, ↓wo_nil, ↓wo_cons, ↓ws_nil, ↓ws_seq, ↓ws_set, ↓ws_setT, ↓ws_setIx, ↓ws_aug, ↓ws_ifs, ↓ws_for, ↓ws_whl, ↓ws_ret, ↓ws_retN, ↓ws_expr, ↓ws_pass, ↓ws_brk, ↓ws_setO, ↓ws_retO, ↓ws_appO, ↓ws_extO, ↓ws_revO, ↓ws_putO, ↓ws_par, ↓ws_wipe, ↓ws_frz, ↓ok_some, ↓ok_none, ↓o2_some, ↓o2_none, ↓o3_some, ↓o3_none, ↓seqQ_nx, ↓seqQ_rt, ↓seqQ_bk, ↓seqQ_ct, ↓retQ_rt, ↓retQ_nx, ↓turnQ_nx, ↓turnQ_rt, ↓turnQ_bk, ↓turnQ_ct, ↓wipeQ, ↓w_runF, for_en, for_zp, lc_en, lc_zp, wipeE, flV', asg, asgs, parV, Src.get, srcOf, seqSrc, sizeLine, newV, binV, addV, dctOf, seqOf, lstOf, lstW, slV, biV, isV, tyOf, cmpV, augV, setIxV, meTy, m_join, m_app, m_ext, m_pop, m_rev, strsOf_str, strsOf_nil, strsOf_app, strsOf_mapf, strsOf_map, Option.bind_some, Option.map_some, ↓ok_if, ↓ok_map, ↓ok_bind, ↓o2_if, ↓o3_if]
      rw [eF]
      refine O2.of (lc_filter (ys := w :: zeds) (emb := Vl.str) (p := fun x => !decide (x ∈ ws)) (g := Vl.str) (fun x hx => ?_) (by simp) (by simp [zeds])) ?_
      · have e2 := fun h => in_strs (w := x) (v := .bw (ws.map .str)) (h := h) (l := ws) rfl (by simp) rfl
        simp -dsimp [↓w_var, ↓w_cst, ↓w_bty, ↓w_glob, ↓w_bin, ↓w_neg, ↓w_cmp, ↓w_chain, ↓w_and, ↓w_or, ↓w_not, ↓w_ite, ↓w_lst, ↓w_tup, ↓w_ix, ↓w_sl, ↓w_lc, ↓w_call, ↓w_pcall, ↓w_new, ↓w_bi, ↓w_me, ↓w_dsp, ↓wt_nil, ↓wt_and, ↓wt_or, ↓wt_not, ↓wt_val, ↓wa_nil, ↓wa_cons, ↓wb_nil, ↓wb_cons, ↓wo_nil, ↓wo_cons, ↓ws_nil, ↓ws_seq, ↓ws_set, ↓ws_setT, ↓ws_setIx, ↓ws_aug, ↓ws_ifs, ↓ws_for, ↓ws_whl, ↓ws_ret, ↓ws_retN, ↓ws_expr, ↓ws_pass, ↓ws_brk, ↓ws_setO, ↓ws_retO, ↓ws_appO, ↓ws_extO, ↓ws_revO, ↓ws_putO, ↓ws_par, ↓ws_wipe, ↓ws_frz, ↓ok_some, ↓ok_none, ↓o2_some, ↓o2_none, ↓o3_some, ↓o3_none, ↓seqQ_nx, ↓seqQ_rt, ↓seqQ_bk, ↓seqQ_ct, ↓retQ_rt, ↓retQ_nx, ↓turnQ_nx, ↓turnQ_rt, ↓turnQ_bk, ↓turnQ_ct, ↓wipeQ, ↓w_runF, for_en, for_zp, lc_en, lc_zp, wipeE, flV', asg, asgs, parV, Src.get, srcOf, seqSrc, sizeLine, newV, binV, addV, dctOf, seqOf, lstOf, lstW, slV, biV, isV, tyOf, cmpV, augV, setIxV, meTy, m_join, m_app, m_ext, m_pop, m_rev, strsOf_str, strsOf_nil, strsOf_app, strsOf_mapf, strsOf_map, Option.bind_some, Option.map_some, ↓ok_if, ↓ok_map, ↓ok_bind, ↓o2_if, ↓o3_if]
        apply O2.eq
        simp -dsimp [↓w_var, ↓w_cst, ↓w_bty, ↓w_glob, ↓w_bin, ↓w_neg, ↓w_cmp, ↓w_chain, ↓w_and, ↓w_or, ↓w_not, ↓w_ite, ↓w_lst, ↓w_tup, ↓w_ix, ↓w_sl, ↓w_lc, ↓w_call, ↓w_pcall, ↓w_new, ↓w_bi, ↓w_me, ↓w_dsp, ↓wt_nil, ↓wt_and, ↓wt_or, ↓wt_not, ↓wt_val, ↓wa_nil, ↓wa_cons, ↓wb_nil, ↓wb_cons, ↓wo_nil, ↓wo_cons, ↓ws_nil, ↓ws_seq, ↓ws_set, ↓ws_setT, ↓ws_setIx, ↓ws_aug, ↓ws_ifs, ↓ws_for, ↓ws_whl, ↓ws_ret, ↓ws_retN, ↓ws_expr, ↓ws_pass, ↓ws_brk, ↓ws_setO, ↓ws_retO, ↓ws_appO, ↓ws_extO, ↓ws_revO, ↓ws_putO, ↓ws_par, ↓ws_wipe, ↓ws_frz, ↓ok_some, ↓ok_none, ↓o2_some, ↓o2_none, ↓o3_some, ↓o3_none, ↓seqQ_nx, ↓seqQ_rt, ↓seqQ_bk, ↓seqQ_ct, ↓retQ_rt, ↓retQ_nx, ↓turnQ_nx, ↓turnQ_rt, ↓turnQ_bk, ↓turnQ_ct, ↓wipeQ, ↓w_runF, for_en, for_zp, lc_en, lc_zp, wipeE, flV', asg, asgs, parV, Src.get, srcOf, seqSrc, sizeLine, newV, binV, addV, dctOf, seqOf, lstOf, lstW, slV, biV, isV, tyOf, cmpV, augV, setIxV, meTy, m_join, m_app, m_ext, m_pop, m_rev, strsOf_str, strsOf_nil, strsOf_app, strsOf_mapf, strsOf_map, Option.bind_some, Option.map_some, ↓ok_if, ↓ok_map, ↓ok_bind, ↓o2_if, ↓o3_if, e2]
      · rw [hy]
        simp -dsimp [↓w_var, ↓w_cst, ↓w_bty, ↓w_glob, ↓w_bin, ↓w_neg, ↓w_cmp, ↓w_chain, ↓w_and, ↓w_or, ↓w_not, ↓w_ite, ↓w_lst, ↓w_tup, ↓w_ix, ↓w_sl, ↓w_lc, ↓w_call, ↓w_pcall, ↓w_new, ↓w_bi, ↓w_me, ↓w_dsp, ↓wt_nil, ↓wt_and, ↓wt_or, ↓wt_not, ↓wt_val, ↓wa_nil, ↓wa_cons, ↓wb_nil, ↓wb_cons, ↓wo_nil, ↓wo_cons, ↓ws_nil, ↓ws_seq, ↓ws_set, ↓ws_setT, ↓ws_setIx, ↓ws_aug, ↓ws_ifs, ↓ws_for, ↓ws_whl, ↓ws_ret, ↓ws_retN, ↓ws_expr, ↓ws_pass, ↓ws_brk, ↓ws_setO, ↓ws_retO, ↓ws_appO, ↓ws_extO, ↓ws_revO, ↓ws_putO, ↓ws_par, ↓ws_wipe, ↓ws_frz, ↓ok_some, ↓ok_none, ↓o2_some, ↓o2_none, ↓o3_some, ↓o3_none, ↓seqQ_nx, ↓seqQ_rt, ↓seqQ_bk, ↓seqQ_ct, ↓retQ_rt, ↓retQ_nx, ↓turnQ_nx, ↓turnQ_rt, ↓turnQ_bk, ↓turnQ_ct, ↓wipeQ, ↓w_runF, for_en, for_zp, lc_en, lc_zp, wipeE, flV', asg, asgs, parV, Src.get, srcOf, seqSrc, sizeLine, newV, binV, addV, ixV, dctOf, seqOf, lstOf, lstW, slV, biV, isV, tyOf, cmpV, augV, setIxV, meTy, m_join, m_app, m_ext, m_pop, m_rev, strsOf_str, strsOf_nil, strsOf_app, strsOf_mapf, strsOf_map, Option.bind_some, Option.map_some, atI, ixN, ↓ok_if, ↓ok_map, ↓ok_bind, ↓o2_if, ↓o3_if]
        refine ⟨by omega, ?_⟩
        exact ⟨ws ++ [y], o2, by simp, rfl, by simp [g1], by
          rw [List.nodup_append]
          exact ⟨g2, by simp, fun a ha b hb e => by
            obtain rfl : b = y := by simpa using hb
            subst e; exact hyn ha⟩, fun x hx => by
          rcases List.mem_append.mp hx with z | z
          · exact g3 x z
          · obtain rfl : x = y := by simpa using z
            exact hyw, hB2.mono (by omega)⟩
  · obtain ⟨ws, o', rfl, rfl, g1, g2, g3, g4⟩ := hI
    simp only [List.length_map, List.length_range] at g1 g4
    simp -dsimp [↓w_var, ↓w_cst, ↓w_bty, ↓w_glob, ↓w_bin, ↓w_neg, ↓w_cmp, ↓w_chain, ↓w_and, ↓w_or, ↓w_not, ↓w_ite, ↓w_lst, ↓w_tup, ↓w_ix, ↓w_sl, ↓w_lc, ↓w_call, ↓w_pcall, ↓w_new, ↓w_bi, ↓w_me, ↓w_dsp, ↓wt_nil, ↓wt_and, ↓wt_or, ↓wt_not, ↓wt_val, ↓wa_nil, ↓wa_cons, ↓wb_nil, ↓wb_cons, ↓wo_nil, ↓wo_cons, ↓ws_nil, ↓ws_seq, ↓ws_set, ↓ws_setT, ↓ws_setIx, ↓ws_aug, ↓ws_ifs, ↓ws_for, ↓ws_whl, ↓ws_ret, ↓ws_retN, ↓ws_expr, ↓ws_pass, ↓ws_brk, ↓ws_setO, ↓ws_retO, ↓ws_appO, ↓ws_extO, ↓ws_revO, ↓ws_putO, ↓ws_par, ↓ws_wipe, ↓ws_frz, ↓ok_some, ↓ok_none, ↓o2_some, ↓o2_none, ↓o3_some, ↓o3_none, ↓seqQ_nx, ↓seqQ_rt, ↓seqQ_bk, ↓seqQ_ct, ↓retQ_rt, ↓retQ_nx, ↓turnQ_nx, ↓turnQ_rt, ↓turnQ_bk, ↓turnQ_ct, ↓wipeQ, ↓w_runF, for_en, for_zp, lc_en, lc_zp, wipeE, flV', asg, asgs, parV, Src.get, srcOf, seqSrc, sizeLine, newV, binV, addV, ixV, dctOf, seqOf, lstOf, lstW, slV, biV, isV, tyOf, cmpV, augV, setIxV, meTy, m_join, m_app, m_ext, m_pop, m_rev, strsOf_str, strsOf_nil, strsOf_app, strsOf_mapf, strsOf_map, Option.bind_some, Option.map_some, atI, ixN, ↓ok_if, ↓ok_map, ↓ok_bind, ↓o2_if, ↓o3_if]
    exact ⟨ws, o', rfl, rfl, g1, g2, g3, g4⟩
end
end FK

/-! ### drawn functions -/
namespace FK
open PySem PySem.Spec PyProof.Rows L2
/-- _law_any_function: 0 law_left_here@, 1 law_deep, 2 law_room@, 3 law_name, 4 law_some, 5 law_words, 6 law_inner!, 7 law_word, 8 law_rows, 9 law_many, 10 law_more -/
def F.law_any_function_b0 : Sx := (.seq (.wipe [7] (.ifs (.val (.cmp .Gt (.ix (.var 2) (.cst (.int 0))) (.cst (.int 0)))) (.seq (.setIx (.var 2) (.cst (.int 0)) (.bin .Sub (.ix (.var 2) (.cst (.int 0))) (.cst (.int 1)))) (.seq (.appO 6 (.pcall 12 (.cons (.var 0) (.cons (.bin .Add (.var 1) (.cst (.int 1))) (.cons (.var 2) (.cons (.var 7) .nil)))))) .nil)) .nil)) .nil)
def F.law_any_function_body : Sx := (.seq (.par [(9, false), (10, false)] (.cons (.pcall 6 (.cons (.var 0) (.cons (.cst (.int 5)) .nil))) (.cons (.pcall 6 (.cons (.var 0) (.cons (.cst (.int 5)) .nil))) .nil))) (.seq (.set 4 (.bin .Mult (.ix (.lst (.cons (.cst (.int 0)) (.cons (.cst (.int 0)) (.cons (.cst (.int 1)) (.cons (.cst (.int 3)) .nil))))) (.pcall 6 (.cons (.var 0) (.cons (.cst (.int 4)) .nil)))) (.bi .int (.cons (.cmp .Lt (.var 1) (.cst (.int 5))) .nil)))) (.seq (.set 5 (.pcall 8 (.cons (.var 0) (.cons (.bin .Add (.bin .Add (.var 9) (.var 10)) (.var 4)) .nil)))) (.seq (.wipe [4] (.setO 6 (.lst .nil))) (.seq (.wipe [4, 7] (.for_ .seq (.cons (.sl (.var 5) (.cons (.bin .Add (.var 9) (.var 10)) .nil) .nil) .nil) (.name 7) F.law_any_function_b0)) (.seq (.frz 6) (.seq (.set 8 (.pcall 11 (.cons (.var 0) (.cons (.cst (.int 1)) (.cons (.var 2) .nil))))) (.seq (.ret (.tup (.cons (.var 3) (.cons (.bi .tuple (.cons (.sl (.var 5) .nil (.cons (.var 9) .nil)) .nil)) (.cons (.bi .tuple (.cons (.sl (.var 5) (.cons (.var 9) .nil) (.cons (.bin .Add (.var 9) (.var 10)) .nil)) .nil)) (.cons (.bi .tuple (.cons (.var 6) .nil)) (.cons (.var 8) .nil))))))) .nil))))))))
def F.law_any_function : Fn := ⟨4, 11, F.law_any_function_body⟩
/-- _law_any_program: 0 law_left_here@, 1 law_name -/
def F.law_any_program_body : Sx := (.seq (.set 1 (.pcall 7 (.cons (.var 0) .nil))) (.seq (.ret (.pcall 12 (.cons (.var 0) (.cons (.cst (.int 1)) (.cons (.new (.lst (.cons (.cst (.int 11)) (.cons (.bin .Add (.cst (.int 4)) (.bin .Mult (.cst (.int 12)) (.pcall 6 (.cons (.var 0) (.cons (.cst (.int 4)) .nil))))) (.cons (.cst (.int 64)) .nil))))) (.cons (.var 1) .nil)))))) .nil))
def F.law_any_program : Fn := ⟨1, 2, F.law_any_program_body⟩
theorem cut_from {α : Type} (xs : List α) (i : Nat) : cutL xs (some (i : Int)) none = xs.drop i := by
  simp only [cutL, HT.sIx_nat, HT.sIx_none]
  by_cases h : i ≤ xs.length
  · rw [Nat.min_eq_left h, List.take_of_length_le (by simp)]
  · rw [Nat.min_eq_right (by omega), List.drop_of_length_le (Nat.le_refl _), List.drop_of_length_le (by omega)]
    simp
theorem cut_to {α : Type} (xs : List α) (j : Nat) : cutL xs none (some (j : Int)) = xs.take j := by
  simp only [cutL, HT.sIx_nat, HT.sIx_none, List.drop_zero, Nat.sub_zero]
  by_cases h : j ≤ xs.length
  · rw [Nat.min_eq_left h]
  · rw [Nat.min_eq_right (by omega), List.take_of_length_le (Nat.le_refl _), List.take_of_length_le (by omega)]
theorem cut_mid {α : Type} (xs : List α) (i j : Nat) : cutL xs (some (i : Int)) (some (j : Int)) = (xs.take j).drop i := by
  simp only [cutL, HT.sIx_nat]
  rw [List.drop_take]
  by_cases h : i ≤ xs.length
  · rw [Nat.min_eq_left h]
    by_cases h2 : j ≤ xs.length
    · rw [Nat.min_eq_left h2]
    · rw [Nat.min_eq_right (by omega), List.take_of_length_le (by simp), List.take_of_length_le (by simp; omega)]
  · rw [Nat.min_eq_right (a := i) (by omega), List.drop_of_length_le (l := xs) (Nat.le_refl _), List.drop_of_length_le (l := xs) (i := i) (by omega)]
    simp
def Pg.name : Pg → Str
  | .fn n _ _ _ _ => n
mutual
def Pg.gw : Pg → Prop
  | .fn n ps ns inner rows => WordS n ∧ (∀ w ∈ ps, WordS w) ∧ (∀ w ∈ ns, WordS w) ∧ (ps ++ ns ++ inner.map Pg.name).Nodup ∧ Pg.gws inner ∧ Rw.gws rows
def Pg.gws : List Pg → Prop
  | [] => True
  | t :: l => t.gw ∧ Pg.gws l
end
mutual
theorem Pg.gw_ok : ∀ t : Pg, t.gw → t.ok ∧ t.named
  | .fn n ps ns inner rows, h => by
    simp only [Pg.gw] at h
    obtain ⟨h1, h2, h3, _, h5, h6⟩ := h
    simp only [Pg.ok, Pg.named]
    exact ⟨⟨h1.ok, fun w hw => (h2 w hw).ok, fun w hw => (h3 w hw).ok, (Pg.gws_ok inner h5).1, (Rw.gws_ok rows h6).1⟩, (Pg.gws_ok inner h5).2, (Rw.gws_ok rows h6).2⟩
theorem Pg.gws_ok : ∀ l : List Pg, Pg.gws l → Pg.oks l ∧ Pg.nameds l
  | [], _ => by simp [Pg.oks, Pg.nameds]
  | t :: l, h => by
    simp only [Pg.gws] at h
    simp only [Pg.oks, Pg.nameds]
    exact ⟨⟨(Pg.gw_ok t h.1).1, (Pg.gws_ok l h.2).1⟩, (Pg.gw_ok t h.1).2, (Pg.gws_ok l h.2).2⟩
end
theorem Pg.gws_app : ∀ {l : List Pg} {r : Pg}, Pg.gws l → r.gw → Pg.gws (l ++ [r])
  | [], r, _, h => by simp [Pg.gws, h]
  | t :: l, r, k, h => by simp only [Pg.gws] at k; simp only [List.cons_append, Pg.gws]; exact ⟨k.1, Pg.gws_app k.2 h⟩
theorem Pg.ds_app (r : Pg) : ∀ l : List Pg, Pg.ds (l ++ [r]) = max (Pg.ds l) r.d
  | [] => by simp [Pg.ds]
  | x :: l => by simp only [List.cons_append, Pg.ds, Pg.ds_app r l]; omega
theorem Pg.ns_app (r : Pg) : ∀ l : List Pg, Pg.ns (l ++ [r]) = Pg.ns l + r.n
  | [] => by simp [Pg.ns]
  | x :: l => by simp only [List.cons_append, Pg.ns, Pg.ns_app r l]; omega
def PF : Nat → Nat
  | 0 => 6000000
  | m + 1 => 6000000 + 3 * PF m
def QFun (m B a b : Nat) (name : Str) (v : Vl) (h : AH) : Prop := ∃ (p : Pg) (o' : Ob) (a' b' : Nat) (c : Int), v = p.v ∧ h = [o', roomO a' b' c] ∧ p.gw ∧ p.name = name ∧ p.d ≤ 8 + m ∧ a' ≤ a ∧ b' ≤ b ∧ p.n ≤ 10 * (1 + (a - a')) + 800 * (b - b') ∧ Dr (B + PF m) o'
def IFun (m B a b P : Nat) (name : Str) (dp : Int) (ws : List Str) (p q : Nat) (i : Nat) (e : AE) (h : AH) : Prop := ∃ (l : List Pg) (o' : Ob) (a' b' : Nat) (c : Int),
  e = [some (.ref 0), some (.int dp), some (.ref 1), some (.str name), none, some (.fz (ws.map .str)), some (.fl (l.map Pg.v)), none, none, some (.int p), some (.int q)] ∧ h = [o', roomO a' b' c] ∧ Pg.gws l ∧ (l.map Pg.name).Sublist ((ws.drop (p + q)).take i) ∧ Pg.ds l ≤ 7 + m ∧ a' ≤ a ∧ b' ≤ b ∧ Pg.ns l ≤ 10 * (a - a') + 800 * (b - b') ∧ Dr (B + i * P) o'
section
variable {W : Wd}
structure HasAnyP (W : Wd) : Prop extends HasAnyU W where
  fn : W.fns.lookup 12 = some F.law_any_function
  prog : W.fns.lookup 13 = some F.law_any_program
theorem unlike_frm {k m B i : Nat} {o : Ob} {h : AH} (H : O2 (W.C k 8 [.ref 0, .int m] [o]) (QUn m B)) (hB : Dr B o) (hi : h[i]? = some o) {Q : Vl → AH → Prop}
    (q : ∀ (ws : List Str) (o' : Ob), ws.length = m → ws.Nodup → (∀ w ∈ ws, WordS w) → Dr (B + 12 * m) o' → Q (.fl (ws.map .str)) (h.set i o')) : O2 (frm (W.C k 8) [.ref i, .int m] h) Q := by
  obtain ⟨v, h', e, ws, o', rfl, rfl, h1, h2, h3, h4⟩ := H
  exact ⟨_, _, frm_ref1 (vs := [.int m]) hi rfl rfl hB.nr h4.nr e (by simp [outV, noRef]), q ws o' h1 h2 h3 h4⟩
def FunAt (W : Wd) (m k : Nat) : Prop := ∀ (B : Nat) (o : Ob) (c dp : Int) (a b : Nat) (name : Str), dp = 5 - m → WordS name → Dr B o → B + PF m ≤ 2 ^ 40 → a ≤ 1000 → b ≤ 1000 → O2 (W.C k 12 [.ref 0, .int dp, .ref 1, .str name] [o, roomO a b c]) (QFun m B a b name)
theorem fun_frm {k m B i j : Nat} {o : Ob} {c dp : Int} {a b : Nat} {name : Str} {h : AH} (H : O2 (W.C k 12 [.ref 0, .int dp, .ref 1, .str name] [o, roomO a b c]) (QFun m B a b name)) (hB : Dr B o) (hij : i ≠ j) (hi : h[i]? = some o) (hj : h[j]? = some (roomO a b c)) {Q : Vl → AH → Prop}
    (q : ∀ (p : Pg) (o' : Ob) (a' b' : Nat) (c' : Int), p.gw → p.name = name → p.d ≤ 8 + m → a' ≤ a → b' ≤ b → p.n ≤ 10 * (1 + (a - a')) + 800 * (b - b') → Dr (B + PF m) o' → Q p.v ((h.set i o').set j (roomO a' b' c'))) : O2 (frm (W.C k 12) [.ref i, .int dp, .ref j, .str name] h) Q := by
  obtain ⟨v, h', e, p, o', a', b', c', rfl, rfl, h1, h2, h3, h4, h5, h6, h7⟩ := H
  refine ⟨_, _, frm_ref2 (us := [.int dp]) (ws := [.str name]) (u := p.v) hij hi hj rfl rfl rfl rfl hB.nr rfl h7.nr rfl e ?_, q p o' a' b' c' h1 h2 h3 h4 h5 h6 h7⟩
  obtain ⟨xs, ex⟩ := p.v_tup
  have := p.v_nr
  rw [ex] at this ⊢
  simp [outV, this]
theorem any_function_step (D : HasAnyP W) (m k : Nat) (hm : m ≤ 4) (hk : 13 ≤ k) (IH : ∀ m', m = m' + 1 → FunAt W m' k) : FunAt W m (k + 1) := by
  intro B o c dp a b name hdp hname hB hb ha1 hb1
  rw [Wd.C_run D.fn]
  have hPF : 6000000 ≤ PF m := by cases m <;> simp only [PF] <;> omega
  have hPR : PR 2 = 5840000 := by decide
  simp -dsimp [F.law_any_function, F.law_any_function_body, ↓w_var, ↓w_cst, ↓w_bty, ↓w_glob, ↓w_bin, ↓w_neg, ↓w_cmp, ↓w_chain, ↓w_and, ↓w_or, ↓w_not, ↓w_ite, ↓w_lst, ↓w_tup, ↓w_ix, ↓w_sl, ↓w_lc, ↓w_call, ↓w_pcall, ↓w_new, ↓w_bi, ↓w_me, ↓w_dsp, ↓wt_nil, ↓wt_and, ↓wt_or, ↓wt_not, ↓wt_val, ↓wa_nil, ↓wa_cons, ↓wb_nil, ↓wb_cons, ↓wo_nil, ↓wo_cons, ↓ws_nil, ↓ws_seq, ↓ws_set, ↓ws_setT, ↓ws_setIx, ↓ws_aug, ↓ws_ifs, ↓ws_for, ↓ws_whl, ↓ws_ret, ↓ws_retN, ↓ws_expr, ↓ws_pass, ↓ws_brk, ↓ws_setO, ↓ws_retO, ↓ws_appO, ↓ws_extO, ↓ws_revO, ↓ws_putO, ↓ws_par, ↓ws_wipe, ↓ws_frz, ↓ok_some, ↓ok_none, ↓o2_some, ↓o2_none, ↓o3_some, ↓o3_none, ↓seqQ_nx, ↓seqQ_rt, ↓seqQ_bk, ↓seqQ_ct, ↓retQ_rt, ↓retQ_nx, ↓turnQ_nx, ↓turnQ_rt, ↓turnQ_bk, ↓turnQ_ct, ↓wipeQ, ↓w_runF, for_en, for_zp, lc_en, lc_zp, wipeE, flV', asg, asgs, parV, Src.get, srcOf, seqSrc, sizeLine, newV, binV, addV, ixV, dctOf, seqOf, lstOf, lstW, slV, biV, isV, tyOf, cmpV, augV, setIxV, meTy, m_join, m_app, m_ext, m_pop, m_rev, strsOf_str, strsOf_nil, strsOf_app, strsOf_mapf, strsOf_map, Option.bind_some, Option.map_some, atI, ixN, ↓ok_if, ↓ok_map, ↓ok_bind, ↓o2_if, ↓o3_if]
  refine pick_ok D.toHasDraw (by omega) rfl hB (by omega) (by decide) (by decide) fun d1 o1 d10 d11 hB1 => ?_
  simp -dsimp [↓w_var, ↓w_cst, ↓w_bty, ↓w_glob, ↓w_bin, ↓w_neg, ↓w_cmp, ↓w_chain, ↓w_and, ↓w_or, ↓w_not, ↓w_ite, ↓w_lst, ↓w_tup, ↓w_ix, ↓w_sl, ↓w_lc, ↓w_call, ↓w_pcall, ↓w_new, ↓w_bi, ↓w_me, ↓w_dsp, ↓wt_nil, ↓wt_and, ↓wt_or, ↓wt_not, ↓wt_val, ↓wa_nil, ↓wa_cons, ↓wb_nil, ↓wb_cons, ↓wo_nil, ↓wo_cons, ↓ws_nil, ↓ws_seq, ↓ws_set, ↓ws_setT, ↓ws_setIx, ↓ws_aug, ↓ws_ifs, ↓ws_for, ↓ws_whl, ↓ws_ret, ↓ws_retN, ↓ws_expr, ↓ws_pass, ↓ws_brk, ↓ws_setO, ↓ws_retO, ↓ws_appO, ↓ws_extO, ↓ws_revO, ↓ws_putO, ↓ws_par, ↓ws_wipe, ↓ws_frz, ↓ok_some, ↓ok_none, ↓o2_some, ↓o2_none, ↓o3_some, ↓o3_none, ↓seqQ_nx, ↓seqQ_rt, ↓seqQ_bk, ↓seqQ_ct, ↓retQ_rt, ↓retQ_nx, ↓turnQ_nx, ↓turnQ_rt, ↓turnQ_bk, ↓turnQ_ct, ↓wipeQ, ↓w_runF, for_en, for_zp, lc_en, lc_zp, wipeE, flV', asg, asgs, parV, Src.get, srcOf, seqSrc, sizeLine, newV, binV, addV, ixV, dctOf, seqOf, lstOf, lstW, slV, biV, isV, tyOf, cmpV, augV, setIxV, meTy, m_join, m_app, m_ext, m_pop, m_rev, strsOf_str, strsOf_nil, strsOf_app, strsOf_mapf, strsOf_map, Option.bind_some, Option.map_some, atI, ixN, ↓ok_if, ↓ok_map, ↓ok_bind, ↓o2_if, ↓o3_if]
  refine pick_ok D.toHasDraw (by omega) rfl hB1 (by omega) (by decide) (by decide) fun d2 o2 d20 d21 hB2 => ?_
  obtain ⟨p, rfl⟩ := Int.eq_ofNat_of_zero_le d10
  obtain ⟨q, rfl⟩ := Int.eq_ofNat_of_zero_le d20
  simp -dsimp [↓w_var, ↓w_cst, ↓w_bty, ↓w_glob, ↓w_bin, ↓w_neg, ↓w_cmp, ↓w_chain, ↓w_and, ↓w_or, ↓w_not, ↓w_ite, ↓w_lst, ↓w_tup, ↓w_ix, ↓w_sl, ↓w_lc, ↓w_call, ↓w_pcall, ↓w_new, ↓w_bi, ↓w_me, ↓w_dsp, ↓wt_nil, ↓wt_and, ↓wt_or, ↓wt_not, ↓wt_val, ↓wa_nil, ↓wa_cons, ↓wb_nil, ↓wb_cons, ↓wo_nil, ↓wo_cons, ↓ws_nil, ↓ws_seq, ↓ws_set, ↓ws_setT, ↓ws_setIx, ↓ws_aug, ↓ws_ifs, ↓ws_for, ↓ws_whl, ↓ws_ret, ↓ws_retN, ↓ws_expr, ↓ws_pass, ↓ws_brk, ↓ws_setO, ↓ws_retO, ↓ws_appO, ↓ws_extO, ↓ws_revO, ↓ws_putO, ↓ws_par, ↓ws_wipe, ↓ws_frz, ↓ok_some, ↓ok_none, ↓o2_some, ↓o2_none, ↓o3_some, ↓o3_none, ↓seqQ_nx, ↓seqQ_rt, ↓seqQ_bk, ↓seqQ_ct, ↓retQ_rt, ↓retQ_nx, ↓turnQ_nx, ↓turnQ_rt, ↓turnQ_bk, ↓turnQ_ct, ↓wipeQ, ↓w_runF, for_en, for_zp, lc_en, lc_zp, wipeE, flV', asg, asgs, parV, Src.get, srcOf, seqSrc, sizeLine, newV, binV, addV, ixV, dctOf, seqOf, lstOf, lstW, slV, biV, isV, tyOf, cmpV, augV, setIxV, meTy, m_join, m_app, m_ext, m_pop, m_rev, strsOf_str, strsOf_nil, strsOf_app, strsOf_mapf, strsOf_map, Option.bind_some, Option.map_some, atI, ixN, ↓ok_if, ↓ok_map, ↓ok_bind, ↓o2_if, ↓o3_if]
  refine pick_ok D.toHasDraw (by omega) rfl hB2 (by omega) (by decide) (by decide) fun d3 o3 d30 d31 hB3 => ?_
  obtain ⟨x, hx, e⟩ := ix_lst (v := .fl [.int 0, .int 0, .int 1, .int 3]) (h := [o3, roomO a b c]) rfl rfl (by simp) d30 (by simpa using d31)
  obtain ⟨u, rfl, hu⟩ : ∃ u : Nat, x = .int u ∧ u ≤ 3 := by
    simp only [List.mem_cons, List.not_mem_nil, or_false] at hx
    rcases hx with rfl | rfl | rfl | rfl
    · exact ⟨0, rfl, by decide⟩
    · exact ⟨0, rfl, by decide⟩
    · exact ⟨1, rfl, by decide⟩
    · exact ⟨3, rfl, by decide⟩
  refine Ok.of e ?_
  have hc1 : CMulB (u : Int) (if dp < 5 then 1 else 0) = true := mulR (by split <;> omega) (by split <;> omega)
  obtain ⟨s, hs, hs3, hs0⟩ : ∃ s : Nat, (u : Int) * (if dp < 5 then 1 else 0) = s ∧ s ≤ 3 ∧ (m = 0 → s = 0) := by
    by_cases h0 : dp < 5
    · rw [if_pos h0]; exact ⟨u, by omega, hu, fun z => by omega⟩
    · rw [if_neg h0]; exact ⟨0, by omega, by omega, fun _ => rfl⟩
  have ea : (p : Int) + (q : Int) + (s : Int) = ((p + q + s : Nat) : Int) := by omega
  have eb : (p : Int) + (q : Int) = ((p + q : Nat) : Int) := by omega
  simp -dsimp [↓w_var, ↓w_cst, ↓w_bty, ↓w_glob, ↓w_bin, ↓w_neg, ↓w_cmp, ↓w_chain, ↓w_and, ↓w_or, ↓w_not, ↓w_ite, ↓w_lst, ↓w_tup, ↓w_ix, ↓w_sl, ↓w_lc, ↓w_call, ↓w_pcall, ↓w_new, ↓w_bi, ↓w_me, ↓w_dsp, ↓wt_nil, ↓wt_and, ↓wt_or, ↓wt_not, ↓wt_val, ↓wa_nil, ↓wa_cons, ↓wb_nil, ↓wb_cons, ↓wo_nil, ↓wo_cons, ↓ws_nil, ↓ws_seq, ↓ws_set, ↓ws_setT, ↓ws_setIx, ↓ws_aug, ↓ws_ifs, ↓ws_for, ↓ws_whl, ↓ws_ret, ↓ws_retN, ↓ws_expr, ↓ws_pass, ↓ws_brk, ↓ws_setO, ↓ws_retO, ↓ws_appO, ↓ws_extO, ↓ws_revO, ↓ws_putO, ↓ws_par, ↓ws_wipe, ↓ws_frz, ↓ok_some, ↓ok_none, ↓o2_some, ↓o2_none, ↓o3_some, ↓o3_none, ↓seqQ_nx, ↓seqQ_rt, ↓seqQ_bk, ↓seqQ_ct, ↓retQ_rt, ↓retQ_nx, ↓turnQ_nx, ↓turnQ_rt, ↓turnQ_bk, ↓turnQ_ct, ↓wipeQ, ↓w_runF, for_en, for_zp, lc_en, lc_zp, wipeE, flV', asg, asgs, parV, Src.get, srcOf, seqSrc, sizeLine, newV, binV, addV, ixV, dctOf, seqOf, lstOf, lstW, slV, biV, isV, tyOf, cmpV, augV, setIxV, meTy, m_join, m_app, m_ext, m_pop, m_rev, strsOf_str, strsOf_nil, strsOf_app, strsOf_mapf, strsOf_map, Option.bind_some, Option.map_some, atI, ixN, ↓ok_if, ↓ok_map, ↓ok_bind, ↓o2_if, ↓o3_if, hc1, hs]
  rw [ea]
  refine unlike_frm (unlike_run D.toHasAnyU (by omega) (by omega) hB3 (by omega)) hB3 rfl fun ws o4 w1 w2 w3 hB4 => ?_
  have ec : cutL (ws.map Vl.str) (some ((p : Int) + (q : Int))) none = (ws.drop (p + q)).map .str := by rw [eb, cut_from, List.map_drop]
  have ed : cutL (ws.map Vl.str) none (some (p : Int)) = (ws.take p).map .str := by rw [cut_to, List.map_take]
  have ee : cutL (ws.map Vl.str) (some (p : Int)) (some ((p : Int) + (q : Int))) = ((ws.take (p + q)).drop p).map .str := by rw [eb, cut_mid, List.map_drop, List.map_take]
  simp -dsimp [↓w_var, ↓w_cst, ↓w_bty, ↓w_glob, ↓w_bin, ↓w_neg, ↓w_cmp, ↓w_chain, ↓w_and, ↓w_or, ↓w_not, ↓w_ite, ↓w_lst, ↓w_tup, ↓w_ix, ↓w_sl, ↓w_lc, ↓w_call, ↓w_pcall, ↓w_new, ↓w_bi, ↓w_me, ↓w_dsp, ↓wt_nil, ↓wt_and, ↓wt_or, ↓wt_not, ↓wt_val, ↓wa_nil, ↓wa_cons, ↓wb_nil, ↓wb_cons, ↓wo_nil, ↓wo_cons, ↓ws_nil, ↓ws_seq, ↓ws_set, ↓ws_setT, ↓ws_setIx, ↓ws_aug, ↓ws_ifs, ↓ws_for, ↓ws_whl, ↓ws_ret, ↓ws_retN, ↓ws_expr, ↓ws_pass, ↓ws_brk, ↓ws_setO, ↓ws_retO, ↓ws_appO, ↓ws_extO, ↓ws_revO, ↓ws_putO, ↓ws_par, ↓ws_wipe, ↓ws_frz, ↓ok_some, ↓ok_none, ↓o2_some, ↓o2_none, ↓o3_some, ↓o3_none, ↓seqQ_nx, ↓seqQ_rt, ↓seqQ_bk, ↓seqQ_ct, ↓retQ_rt, ↓retQ_nx, ↓turnQ_nx, ↓turnQ_rt, ↓turnQ_bk, ↓turnQ_ct, ↓wipeQ, ↓w_runF, for_en, for_zp, lc_en, lc_zp, wipeE, flV', asg, asgs, parV, Src.get, srcOf, seqSrc, sizeLine, newV, binV, addV, ixV, dctOf, seqOf, lstOf, lstW, slV, biV, isV, tyOf, cmpV, augV, setIxV, meTy, m_join, m_app, m_ext, m_pop, m_rev, strsOf_str, strsOf_nil, strsOf_app, strsOf_mapf, strsOf_map, Option.bind_some, Option.map_some, atI, ixN, ↓ok_if, ↓ok_map, ↓ok_bind, ↓o2_if, ↓o3_if, ec]
  refine for_inv (I := IFun m (B + 3 + 12 * (p + q + s)) a b (PF (m - 1)) name dp ws p q) ⟨[], o4, a, b, c, rfl, rfl, by simp [Pg.gws], by simp, by simp [Pg.ds], by omega, by omega, by simp [Pg.ns], hB4.mono (by omega)⟩ (fun i x e h' hx hI => ?_) (fun e h' hI => ?_) (by simp)
  · obtain ⟨l, o', a', b', c', rfl, rfl, g1, g2, g3, g4, g5, g6, g7⟩ := hI
    rw [← List.map_drop, List.getElem?_map, Option.map_eq_some_iff] at hx
    obtain ⟨w, hw, rfl⟩ := hx
    have hi : i < s := by
      have := (List.getElem?_eq_some_iff.mp hw).1
      simp at this; omega
    obtain ⟨m', rfl⟩ : ∃ m', m = m' + 1 := ⟨m - 1, by
      have : m ≠ 0 := fun z => by have := hs0 z; omega
      omega⟩
    simp only [Nat.add_sub_cancel, PF] at g7 hPF hb ⊢
    have hi2 : i * PF m' ≤ 2 * PF m' := Nat.mul_le_mul_right _ (by omega)
    have em : (i + 1) * PF m' = i * PF m' + PF m' := by rw [Nat.add_mul, Nat.one_mul]
    have et : (ws.drop (p + q)).take (i + 1) = (ws.drop (p + q)).take i ++ [w] := by rw [List.take_add_one, hw]; rfl
    by_cases ha0 : 0 < a'
    · have ea : (a' : Int) - 1 = ((a' - 1 : Nat) : Int) := by omega
      simp -dsimp [F.law_any_function_b0, ↓w_var, ↓w_cst, ↓w_bty, ↓w_glob, ↓w_bin, ↓w_neg, ↓w_cmp, ↓w_chain, ↓w_and, ↓w_or, ↓w_not, ↓w_ite, ↓w_lst, ↓w_tup, ↓w_ix, ↓w_sl, ↓w_lc, ↓w_call, ↓w_pcall, ↓w_new, ↓w_bi, ↓w_me, ↓w_dsp, ↓wt_nil, ↓wt_and, ↓wt_or, ↓wt_not, ↓wt_val, ↓wa_nil, ↓wa_cons, ↓wb_nil, ↓wb_cons, ↓wo_nil, ↓wo_cons, ↓ws_nil, ↓ws_seq, ↓ws_set, ↓ws_setT, ↓ws_setIx, ↓ws_aug, ↓ws_ifs, ↓ws_for, ↓ws_whl, ↓ws_ret, ↓ws_retN, ↓ws_expr, ↓ws_pass, ↓ws_brk, ↓ws_setO, ↓ws_retO, ↓ws_appO, ↓ws_extO, ↓ws_revO, ↓ws_putO, ↓ws_par, ↓ws_wipe, ↓ws_frz, ↓ok_some, ↓ok_none, ↓o2_some, ↓o2_none, ↓o3_some, ↓o3_none, ↓seqQ_nx, ↓seqQ_rt, ↓seqQ_bk, ↓seqQ_ct, ↓retQ_rt, ↓retQ_nx, ↓turnQ_nx, ↓turnQ_rt, ↓turnQ_bk, ↓turnQ_ct, ↓wipeQ, ↓w_runF, for_en, for_zp, lc_en, lc_zp, wipeE, flV', asg, asgs, parV, Src.get, srcOf, seqSrc, sizeLine, newV, binV, addV, ixV, dctOf, seqOf, lstOf, lstW, slV, biV, isV, tyOf, cmpV, augV, setIxV, meTy, m_join, m_app, m_ext, m_pop, m_rev, strsOf_str, strsOf_nil, strsOf_app, strsOf_mapf, strsOf_map, Option.bind_some, Option.map_some, atI, ixN, ↓ok_if, ↓ok_map, ↓ok_bind, ↓o2_if, ↓o3_if, roomO, ha0]
      rw [ea]
      refine fun_frm (IH m' rfl _ o' c' (dp + 1) (a' - 1) b' w (by omega) (w3 w (List.mem_of_mem_drop (List.mem_of_getElem? hw))) g7 (by omega) (by omega) (by omega)) g7 (by decide) rfl rfl fun P o5 a5 b5 c5 q1 q2 q3 q4 q5 q6 hB5 => ?_
      simp -dsimp [↓w_var, ↓w_cst, ↓w_bty, ↓w_glob, ↓w_bin, ↓w_neg, ↓w_cmp, ↓w_chain, ↓w_and, ↓w_or, ↓w_not, ↓w_ite, ↓w_lst, ↓w_tup, ↓w_ix, ↓w_sl, ↓w_lc, ↓w_call, ↓w_pcall, ↓w_new, ↓w_bi, ↓w_me, ↓w_dsp, ↓wt_nil, ↓wt_and, ↓wt_or, ↓wt_not, ↓wt_val, ↓wa_nil, ↓wa_cons, ↓wb_nil, ↓wb_cons, ↓wo_nil, ↓wo_cons, ↓ws_nil, ↓ws_seq, ↓ws_set, ↓ws_setT, ↓ws_setIx, ↓ws_aug, ↓ws_ifs, ↓ws_for, ↓ws_whl, ↓ws_ret, ↓ws_retN, ↓ws_expr, ↓ws_pass, ↓ws_brk, ↓ws_setO, ↓ws_retO, ↓ws_appO, ↓ws_extO, ↓ws_revO, ↓ws_putO, ↓ws_par, ↓ws_wipe, ↓ws_frz, ↓ok_some, ↓ok_none, ↓o2_some, ↓o2_none, ↓o3_some, ↓o3_none, ↓seqQ_nx, ↓seqQ_rt, ↓seqQ_bk, ↓seqQ_ct, ↓retQ_rt, ↓retQ_nx, ↓turnQ_nx, ↓turnQ_rt, ↓turnQ_bk, ↓turnQ_ct, ↓wipeQ, ↓w_runF, for_en, for_zp, lc_en, lc_zp, wipeE, flV', asg, asgs, parV, Src.get, srcOf, seqSrc, sizeLine, newV, binV, addV, ixV, dctOf, seqOf, lstOf, lstW, slV, biV, isV, tyOf, cmpV, augV, setIxV, meTy, m_join, m_app, m_ext, m_pop, m_rev, strsOf_str, strsOf_nil, strsOf_app, strsOf_mapf, strsOf_map, Option.bind_some, Option.map_some, atI, ixN, ↓ok_if, ↓ok_map, ↓ok_bind, ↓o2_if, ↓o3_if]
      have ll : l.length ≤ i := by have := g2.length_le; simp at this; omega
      refine ⟨by omega, ?_⟩
      exact ⟨l ++ [P], o5, a5, b5, c5, by simp, rfl, Pg.gws_app g1 q1, by
        rw [et, List.map_append]
        exact List.Sublist.append g2 (by simp [q2]), by rw [Pg.ds_app]; omega, by omega, by omega, by rw [Pg.ns_app]; omega, by rw [em]; exact hB5.mono (by omega)⟩
    · simp -dsimp [F.law_any_function_b0, ↓w_var, ↓w_cst, ↓w_bty, ↓w_glob, ↓w_bin, ↓w_neg, ↓w_cmp, ↓w_chain, ↓w_and, ↓w_or, ↓w_not, ↓w_ite, ↓w_lst, ↓w_tup, ↓w_ix, ↓w_sl, ↓w_lc, ↓w_call, ↓w_pcall, ↓w_new, ↓w_bi, ↓w_me, ↓w_dsp, ↓wt_nil, ↓wt_and, ↓wt_or, ↓wt_not, ↓wt_val, ↓wa_nil, ↓wa_cons, ↓wb_nil, ↓wb_cons, ↓wo_nil, ↓wo_cons, ↓ws_nil, ↓ws_seq, ↓ws_set, ↓ws_setT, ↓ws_setIx, ↓ws_aug, ↓ws_ifs, ↓ws_for, ↓ws_whl, ↓ws_ret, ↓ws_retN, ↓ws_expr, ↓ws_pass, ↓ws_brk, ↓ws_setO, ↓ws_retO, ↓ws_appO, ↓ws_extO, ↓ws_revO, ↓ws_putO, ↓ws_par, ↓ws_wipe, ↓ws_frz, ↓ok_some, ↓ok_none, ↓o2_some, ↓o2_none, ↓o3_some, ↓o3_none, ↓seqQ_nx, ↓seqQ_rt, ↓seqQ_bk, ↓seqQ_ct, ↓retQ_rt, ↓retQ_nx, ↓turnQ_nx, ↓turnQ_rt, ↓turnQ_bk, ↓turnQ_ct, ↓wipeQ, ↓w_runF, for_en, for_zp, lc_en, lc_zp, wipeE, flV', asg, asgs, parV, Src.get, srcOf, seqSrc, sizeLine, newV, binV, addV, ixV, dctOf, seqOf, lstOf, lstW, slV, biV, isV, tyOf, cmpV, augV, setIxV, meTy, m_join, m_app, m_ext, m_pop, m_rev, strsOf_str, strsOf_nil, strsOf_app, strsOf_mapf, strsOf_map, Option.bind_some, Option.map_some, atI, ixN, ↓ok_if, ↓ok_map, ↓ok_bind, ↓o2_if, ↓o3_if, roomO, ha0]
      exact ⟨l, o', a', b', c', rfl, rfl, g1, by rw [et]; exact g2.trans (List.sublist_append_left _ _), g3, g4, g5, g6, by rw [em]; exact g7.mono (by omega)⟩
  · obtain ⟨l, o', a', b', c', rfl, rfl, g1, g2, g3, g4, g5, g6, g7⟩ := hI
    simp only [List.length_map, List.length_drop] at g2 g7
    have hi2 : (ws.length - (p + q)) * PF (m - 1) ≤ 3 * PF (m - 1) := Nat.mul_le_mul_right _ (by omega)
    have hPm : m ≠ 0 → PF m = 6000000 + 3 * PF (m - 1) := fun h => by
      obtain ⟨m', rfl⟩ : ∃ m', m = m' + 1 := ⟨m - 1, by omega⟩
      simp only [PF, Nat.add_sub_cancel]
    simp -dsimp [↓w_var, ↓w_cst, ↓w_bty, ↓w_glob, ↓w_bin, ↓w_neg, ↓w_cmp, ↓w_chain, ↓w_and, ↓w_or, ↓w_not, ↓w_ite, ↓w_lst, ↓w_tup, ↓w_ix, ↓w_sl, ↓w_lc, ↓w_call, ↓w_pcall, ↓w_new, ↓w_bi, ↓w_me, ↓w_dsp, ↓wt_nil, ↓wt_and, ↓wt_or, ↓wt_not, ↓wt_val, ↓wa_nil, ↓wa_cons, ↓wb_nil, ↓wb_cons, ↓wo_nil, ↓wo_cons, ↓ws_nil, ↓ws_seq, ↓ws_set, ↓ws_setT, ↓ws_setIx, ↓ws_aug, ↓ws_ifs, ↓ws_for, ↓ws_whl, ↓ws_ret, ↓ws_retN, ↓ws_expr, ↓ws_pass, ↓ws_brk, ↓ws_setO, ↓ws_retO, ↓ws_appO, ↓ws_extO, ↓ws_revO, ↓ws_putO, ↓ws_par, ↓ws_wipe, ↓ws_frz, ↓ok_some, ↓ok_none, ↓o2_some, ↓o2_none, ↓o3_some, ↓o3_none, ↓seqQ_nx, ↓seqQ_rt, ↓seqQ_bk, ↓seqQ_ct, ↓retQ_rt, ↓retQ_nx, ↓turnQ_nx, ↓turnQ_rt, ↓turnQ_bk, ↓turnQ_ct, ↓wipeQ, ↓w_runF, for_en, for_zp, lc_en, lc_zp, wipeE, flV', asg, asgs, parV, Src.get, srcOf, seqSrc, sizeLine, newV, binV, addV, ixV, dctOf, seqOf, lstOf, lstW, slV, biV, isV, tyOf, cmpV, augV, setIxV, meTy, m_join, m_app, m_ext, m_pop, m_rev, strsOf_str, strsOf_nil, strsOf_app, strsOf_mapf, strsOf_map, Option.bind_some, Option.map_some, atI, ixN, ↓ok_if, ↓ok_map, ↓ok_bind, ↓o2_if, ↓o3_if]
    have hr : Dr (B + 6000000 - PR 2 + 3 * PF (m - 1) * (if m = 0 then 0 else 1)) o' := by
      by_cases h0 : m = 0
      · have := hs0 h0
        rw [if_pos h0]
        refine g7.mono ?_
        have e0 : ws.length - (p + q) = 0 := by omega
        rw [e0]; omega
      · rw [if_neg h0]
        exact g7.mono (by omega)
    have hPm2 : B + 6000000 - PR 2 + 3 * PF (m - 1) * (if m = 0 then 0 else 1) + PR 2 ≤ B + PF m := by
      by_cases h0 : m = 0
      · rw [if_pos h0]; omega
      · rw [if_neg h0]; have := hPm h0; omega
    refine rows_frm (any_rows_run D.toHasAnyR 2 k (by omega) (by omega) _ o' a' c' 1 b' (by omega) hr (by omega) (by omega)) hr (by decide) rfl rfl fun rl o5 b5 c5 r1 r2 r3 r4 hB5 => ?_
    simp -dsimp [↓w_var, ↓w_cst, ↓w_bty, ↓w_glob, ↓w_bin, ↓w_neg, ↓w_cmp, ↓w_chain, ↓w_and, ↓w_or, ↓w_not, ↓w_ite, ↓w_lst, ↓w_tup, ↓w_ix, ↓w_sl, ↓w_lc, ↓w_call, ↓w_pcall, ↓w_new, ↓w_bi, ↓w_me, ↓w_dsp, ↓wt_nil, ↓wt_and, ↓wt_or, ↓wt_not, ↓wt_val, ↓wa_nil, ↓wa_cons, ↓wb_nil, ↓wb_cons, ↓wo_nil, ↓wo_cons, ↓ws_nil, ↓ws_seq, ↓ws_set, ↓ws_setT, ↓ws_setIx, ↓ws_aug, ↓ws_ifs, ↓ws_for, ↓ws_whl, ↓ws_ret, ↓ws_retN, ↓ws_expr, ↓ws_pass, ↓ws_brk, ↓ws_setO, ↓ws_retO, ↓ws_appO, ↓ws_extO, ↓ws_revO, ↓ws_putO, ↓ws_par, ↓ws_wipe, ↓ws_frz, ↓ok_some, ↓ok_none, ↓o2_some, ↓o2_none, ↓o3_some, ↓o3_none, ↓seqQ_nx, ↓seqQ_rt, ↓seqQ_bk, ↓seqQ_ct, ↓retQ_rt, ↓retQ_nx, ↓turnQ_nx, ↓turnQ_rt, ↓turnQ_bk, ↓turnQ_ct, ↓wipeQ, ↓w_runF, for_en, for_zp, lc_en, lc_zp, wipeE, flV', asg, asgs, parV, Src.get, srcOf, seqSrc, sizeLine, newV, binV, addV, ixV, dctOf, seqOf, lstOf, lstW, slV, biV, isV, tyOf, cmpV, augV, setIxV, meTy, m_join, m_app, m_ext, m_pop, m_rev, strsOf_str, strsOf_nil, strsOf_app, strsOf_mapf, strsOf_map, Option.bind_some, Option.map_some, atI, ixN, ↓ok_if, ↓ok_map, ↓ok_bind, ↓o2_if, ↓o3_if, ed, ee]
    have e1 : (ws.take p ++ (ws.take (p + q)).drop p) = ws.take (p + q) := by
      have := List.take_append_drop p (ws.take (p + q))
      rw [List.take_take, Nat.min_eq_left (by omega)] at this
      exact this
    have e2 : (l.map Pg.name).Sublist (ws.drop (p + q)) := g2.trans (List.take_sublist _ _)
    have e3 : (ws.take (p + q) ++ l.map Pg.name).Sublist ws := by
      conv => rhs; rw [← List.take_append_drop (p + q) ws]
      exact (List.Sublist.refl _).append e2
    refine ⟨.fn name (ws.take p) ((ws.take (p + q)).drop p) l rl, o5, a', b5, c5, by simp [Pg.v, Pg.vs_map, Rw.vs_map], rfl, ?_, rfl, by simp only [Pg.d]; omega, g4, by omega, ?_, hB5.mono (by omega)⟩
    · simp only [Pg.gw]
      exact ⟨hname, fun w hw => w3 w (List.mem_of_mem_take hw), fun w hw => w3 w (List.mem_of_mem_take (List.mem_of_mem_drop hw)), by rw [e1]; exact w2.sublist e3, g1, r1⟩
    · have l1 : (ws.take p).length ≤ p := by simp; omega
      have l2 : ((ws.take (p + q)).drop p).length ≤ q := by simp; omega
      simp only [Pg.n]
      omega
theorem any_function_run (D : HasAnyP W) : ∀ (m k : Nat), m ≤ 4 → 14 + m ≤ k → FunAt W m k := by
  intro m
  induction m with
  | zero =>
    intro k _ hk
    obtain ⟨k, rfl⟩ : ∃ j, k = j + 1 := ⟨k - 1, by omega⟩
    exact any_function_step D 0 k (by omega) (by omega) fun m' e => by omega
  | succ m ih =>
    intro k hm hk
    obtain ⟨k, rfl⟩ : ∃ j, k = j + 1 := ⟨k - 1, by omega⟩
    exact any_function_step D (m + 1) k hm (by omega) fun m' e => by
      obtain rfl : m = m' := by omega
      exact ih k (by omega) (by omega)
/-- a call that is handed one list that it may change, and makes others -/
theorem frm_ref1x {g : List Vl → AH → Option (Vl × AH)} {h : AH} {vs : List Vl} {u v : Vl} {n : Nat} {o o' : Ob} {rest : AH} (hn : h[n]? = some o) (hv : noRefs vs = true) (hb : anyBw vs = false) (no : noRefO o = true) (no' : noRefO o' = true) (hg : g (.ref 0 :: vs.map lendV) [o] = some (v, o' :: rest)) (ho : outV 1 (o' :: rest) v = some u) : frm g (.ref n :: vs) h = some (u, h.set n o') := by
  simp only [frm, pins, refNo, List.not_mem_nil, if_false, List.nil_append, pins_pure hv, getAll, hn, List.all_cons, List.all_nil, Bool.and_true, no, if_true, run0, List.length_nil, hg, List.length_cons, ho, List.take, no', putAll]
  simp [anyBw, hb, no']
/-- a drawn program -/
def QProg (B : Nat) (v : Vl) (h : AH) : Prop := ∃ (p : Pg) (o' ob : Ob), v = p.v ∧ h = [o', ob] ∧ p.gw ∧ p.d ≤ 12 ∧ p.n ≤ 33000 ∧ Dr (B + 2 ^ 31) o'
theorem any_program_run (D : HasAnyP W) {k B : Nat} {o : Ob} (hk : 20 ≤ k) (hB : Dr B o) (hb : B < 2 ^ 35) : O2 (W.C k 13 [.ref 0] [o]) (QProg B) := by
  obtain ⟨k, rfl⟩ : ∃ j, k = j + 1 := ⟨k - 1, by omega⟩
  rw [Wd.C_run D.prog]
  have hPF : PF 4 ≤ 2 ^ 30 := by decide
  simp -dsimp [F.law_any_program, F.law_any_program_body, ↓w_var, ↓w_cst, ↓w_bty, ↓w_glob, ↓w_bin, ↓w_neg, ↓w_cmp, ↓w_chain, ↓w_and, ↓w_or, ↓w_not, ↓w_ite, ↓w_lst, ↓w_tup, ↓w_ix, ↓w_sl, ↓w_lc, ↓w_call, ↓w_pcall, ↓w_new, ↓w_bi, ↓w_me, ↓w_dsp, ↓wt_nil, ↓wt_and, ↓wt_or, ↓wt_not, ↓wt_val, ↓wa_nil, ↓wa_cons, ↓wb_nil, ↓wb_cons, ↓wo_nil, ↓wo_cons, ↓ws_nil, ↓ws_seq, ↓ws_set, ↓ws_setT, ↓ws_setIx, ↓ws_aug, ↓ws_ifs, ↓ws_for, ↓ws_whl, ↓ws_ret, ↓ws_retN, ↓ws_expr, ↓ws_pass, ↓ws_brk, ↓ws_setO, ↓ws_retO, ↓ws_appO, ↓ws_extO, ↓ws_revO, ↓ws_putO, ↓ws_par, ↓ws_wipe, ↓ws_frz, ↓ok_some, ↓ok_none, ↓o2_some, ↓o2_none, ↓o3_some, ↓o3_none, ↓seqQ_nx, ↓seqQ_rt, ↓seqQ_bk, ↓seqQ_ct, ↓retQ_rt, ↓retQ_nx, ↓turnQ_nx, ↓turnQ_rt, ↓turnQ_bk, ↓turnQ_ct, ↓wipeQ, ↓w_runF, for_en, for_zp, lc_en, lc_zp, wipeE, flV', asg, asgs, parV, Src.get, srcOf, seqSrc, sizeLine, newV, binV, addV, ixV, dctOf, seqOf, lstOf, lstW, slV, biV, isV, tyOf, cmpV, augV, setIxV, meTy, m_join, m_app, m_ext, m_pop, m_rev, strsOf_str, strsOf_nil, strsOf_app, strsOf_mapf, strsOf_map, Option.bind_some, Option.map_some, atI, ixN, ↓ok_if, ↓ok_map, ↓ok_bind, ↓o2_if, ↓o3_if]
  refine any_word_ok D.toHasAny (by omega) rfl hB (by omega) fun w o1 hw hB1 => ?_
  simp -dsimp [↓w_var, ↓w_cst, ↓w_bty, ↓w_glob, ↓w_bin, ↓w_neg, ↓w_cmp, ↓w_chain, ↓w_and, ↓w_or, ↓w_not, ↓w_ite, ↓w_lst, ↓w_tup, ↓w_ix, ↓w_sl, ↓w_lc, ↓w_call, ↓w_pcall, ↓w_new, ↓w_bi, ↓w_me, ↓w_dsp, ↓wt_nil, ↓wt_and, ↓wt_or, ↓wt_not, ↓wt_val, ↓wa_nil, ↓wa_cons, ↓wb_nil, ↓wb_cons, ↓wo_nil, ↓wo_cons, ↓ws_nil, ↓ws_seq, ↓ws_set, ↓ws_setT, ↓ws_setIx, ↓ws_aug, ↓ws_ifs, ↓ws_for, ↓ws_whl, ↓ws_ret, ↓ws_retN, ↓ws_expr, ↓ws_pass, ↓ws_brk, ↓ws_setO, ↓ws_retO, ↓ws_appO, ↓ws_extO, ↓ws_revO, ↓ws_putO, ↓ws_par, ↓ws_wipe, ↓ws_frz, ↓ok_some, ↓ok_none, ↓o2_some, ↓o2_none, ↓o3_some, ↓o3_none, ↓seqQ_nx, ↓seqQ_rt, ↓seqQ_bk, ↓seqQ_ct, ↓retQ_rt, ↓retQ_nx, ↓turnQ_nx, ↓turnQ_rt, ↓turnQ_bk, ↓turnQ_ct, ↓wipeQ, ↓w_runF, for_en, for_zp, lc_en, lc_zp, wipeE, flV', asg, asgs, parV, Src.get, srcOf, seqSrc, sizeLine, newV, binV, addV, ixV, dctOf, seqOf, lstOf, lstW, slV, biV, isV, tyOf, cmpV, augV, setIxV, meTy, m_join, m_app, m_ext, m_pop, m_rev, strsOf_str, strsOf_nil, strsOf_app, strsOf_mapf, strsOf_map, Option.bind_some, Option.map_some, atI, ixN, ↓ok_if, ↓ok_map, ↓ok_bind, ↓o2_if, ↓o3_if]
  refine pick_ok D.toHasDraw (by omega) rfl hB1 (by omega) (by decide) (by decide) fun d o2 d0 d1 hB2 => ?_
  obtain ⟨p, rfl⟩ := Int.eq_ofNat_of_zero_le d0
  have hc1 : CMulB 12 (p : Int) = true := mulL (by decide) (by decide)
  have e4 : (4 : Int) + 12 * (p : Int) = ((4 + 12 * p : Nat) : Int) := by omega
  simp -dsimp [↓w_var, ↓w_cst, ↓w_bty, ↓w_glob, ↓w_bin, ↓w_neg, ↓w_cmp, ↓w_chain, ↓w_and, ↓w_or, ↓w_not, ↓w_ite, ↓w_lst, ↓w_tup, ↓w_ix, ↓w_sl, ↓w_lc, ↓w_call, ↓w_pcall, ↓w_new, ↓w_bi, ↓w_me, ↓w_dsp, ↓wt_nil, ↓wt_and, ↓wt_or, ↓wt_not, ↓wt_val, ↓wa_nil, ↓wa_cons, ↓wb_nil, ↓wb_cons, ↓wo_nil, ↓wo_cons, ↓ws_nil, ↓ws_seq, ↓ws_set, ↓ws_setT, ↓ws_setIx, ↓ws_aug, ↓ws_ifs, ↓ws_for, ↓ws_whl, ↓ws_ret, ↓ws_retN, ↓ws_expr, ↓ws_pass, ↓ws_brk, ↓ws_setO, ↓ws_retO, ↓ws_appO, ↓ws_extO, ↓ws_revO, ↓ws_putO, ↓ws_par, ↓ws_wipe, ↓ws_frz, ↓ok_some, ↓ok_none, ↓o2_some, ↓o2_none, ↓o3_some, ↓o3_none, ↓seqQ_nx, ↓seqQ_rt, ↓seqQ_bk, ↓seqQ_ct, ↓retQ_rt, ↓retQ_nx, ↓turnQ_nx, ↓turnQ_rt, ↓turnQ_bk, ↓turnQ_ct, ↓wipeQ, ↓w_runF, for_en, for_zp, lc_en, lc_zp, wipeE, flV', asg, asgs, parV, Src.get, srcOf, seqSrc, sizeLine, newV, binV, addV, ixV, dctOf, seqOf, lstOf, lstW, slV, biV, isV, tyOf, cmpV, augV, setIxV, meTy, m_join, m_app, m_ext, m_pop, m_rev, strsOf_str, strsOf_nil, strsOf_app, strsOf_mapf, strsOf_map, Option.bind_some, Option.map_some, atI, ixN, ↓ok_if, ↓ok_map, ↓ok_bind, ↓o2_if, ↓o3_if, hc1]
  rw [e4]
  refine fun_frm (any_function_run D 4 k (by omega) (by omega) _ o2 64 1 11 (4 + 12 * p) w (by omega) hw hB2 (by omega) (by omega) (by omega)) hB2 (by decide) rfl rfl fun P o5 a5 b5 c5 q1 q2 q3 q4 q5 q6 hB5 => ?_
  simp -dsimp [↓w_var, ↓w_cst, ↓w_bty, ↓w_glob, ↓w_bin, ↓w_neg, ↓w_cmp, ↓w_chain, ↓w_and, ↓w_or, ↓w_not, ↓w_ite, ↓w_lst, ↓w_tup, ↓w_ix, ↓w_sl, ↓w_lc, ↓w_call, ↓w_pcall, ↓w_new, ↓w_bi, ↓w_me, ↓w_dsp, ↓wt_nil, ↓wt_and, ↓wt_or, ↓wt_not, ↓wt_val, ↓wa_nil, ↓wa_cons, ↓wb_nil, ↓wb_cons, ↓wo_nil, ↓wo_cons, ↓ws_nil, ↓ws_seq, ↓ws_set, ↓ws_setT, ↓ws_setIx, ↓ws_aug, ↓ws_ifs, ↓ws_for, ↓ws_whl, ↓ws_ret, ↓ws_retN, ↓ws_expr, ↓ws_pass, ↓ws_brk, ↓ws_setO, ↓ws_retO, ↓ws_appO, ↓ws_extO, ↓ws_revO, ↓ws_putO, ↓ws_par, ↓ws_wipe, ↓ws_frz, ↓ok_some, ↓ok_none, ↓o2_some, ↓o2_none, ↓o3_some, ↓o3_none, ↓seqQ_nx, ↓seqQ_rt, ↓seqQ_bk, ↓seqQ_ct, ↓retQ_rt, ↓retQ_nx, ↓turnQ_nx, ↓turnQ_rt, ↓turnQ_bk, ↓turnQ_ct, ↓wipeQ, ↓w_runF, for_en, for_zp, lc_en, lc_zp, wipeE, flV', asg, asgs, parV, Src.get, srcOf, seqSrc, sizeLine, newV, binV, addV, ixV, dctOf, seqOf, lstOf, lstW, slV, biV, isV, tyOf, cmpV, augV, setIxV, meTy, m_join, m_app, m_ext, m_pop, m_rev, strsOf_str, strsOf_nil, strsOf_app, strsOf_mapf, strsOf_map, Option.bind_some, Option.map_some, atI, ixN, ↓ok_if, ↓ok_map, ↓ok_bind, ↓o2_if, ↓o3_if]
  exact ⟨P, o5, _, rfl, rfl, q1, by omega, by omega, hB5.mono (by omega)⟩
theorem any_program_ok (D : HasAnyP W) {o : Ob} {k B a : Nat} {h : AH} (hk : 20 ≤ k) (ha : h[a]? = some o) (hB : Dr B o) (hb : B < 2 ^ 35) {Q : Vl → AH → Prop} (q : ∀ (p : Pg) o', p.gw → p.d ≤ 12 → p.n ≤ 33000 → Dr (B + 2 ^ 31) o' → Q p.v (h.set a o')) : O2 (frm (W.C k 13) [.ref a] h) Q := by
  obtain ⟨v, h', e, p, o', ob, rfl, rfl, h1, h2, h3, h4⟩ := any_program_run D hk hB hb
  refine ⟨_, _, frm_ref1x (vs := []) (u := p.v) ha rfl rfl hB.nr h4.nr e ?_, q p o' h1 h2 h3 h4⟩
  obtain ⟨xs, ex⟩ := p.v_tup
  have := p.v_nr
  rw [ex] at this ⊢
  simp [outV, this]
end
end FK

namespace K77
open PySem PySem.Spec PyProof.Rows L2 FK
/-- law: 0 law_script, 1 law_k, 2 law_left_here@, 3 law_program, 4 law_turn, 5 law_kept, 6 law_due, 7 law_found -/
def F.law_b0 : Sx := (.seq (.set 7 (.pcall 3 (.cons (.var 3) .nil))) (.seq (.wipe [4, 7] (.ifs (.or (.not (.val (.bi .isinstance (.cons (.var 7) (.cons (.bty "str") .nil))))) (.or (.val (.cmp .NotEq (.var 7) (.var 6))) (.val (.cmp .NotEq (.bi .str (.cons (.var 3) .nil)) (.var 5))))) (.seq (.ret (.cst (.bl false))) .nil) .nil)) .nil))
def F.law_b1 : Sx := (.seq (.set 2 (.new (.pcall 5 (.cons (.var 0) (.cons (.var 1) .nil))))) (.seq (.setIx (.var 2) (.cst (.int 1)) (.bin .Add (.ix (.var 2) (.cst (.int 1))) (.cst (.int 7700)))) (.seq (.set 3 (.pcall 13 (.cons (.var 2) .nil))) (.seq (.wipe [1, 2, 4, 7] (.par [(5, false), (6, false)] (.cons (.bi .str (.cons (.var 3) .nil)) (.cons (.me .join (.cst (.str "\n")) (.cons (.pcall 16 (.cons (.var 3) .nil)) .nil)) .nil)))) (.seq (.wipe [1, 2, 3, 4, 5, 6, 7] (.for_ .rng (.cons (.cst (.int 2)) .nil) (.name 4) F.law_b0)) .nil)))))
def F.law_body : Sx := (.seq (.wipe [1, 2, 3, 4, 5, 6, 7] (.for_ .rng (.cons (.bi .max (.cons (.cst (.int 3)) (.cons (.bi .min (.cons (.bi .len (.cons (.var 0) .nil)) (.cons (.cst (.int 8)) .nil))) .nil))) .nil) (.name 1) F.law_b1)) (.seq (.ret (.cst (.bl true))) .nil))
def F.law : Fn := ⟨1, 8, F.law_body⟩
def topS (i : Nat) : Stmt := PySem.Challenge.pw_flatkeep_k77_programs_written.main.body.getD i (.Pass ⟨0, 0, 0, 0⟩)
def gls : List (Str × Vl) := []
def en_term_text : En := ⟨"term_text", topS 1, ["term", "some", "one"], ["term"], F.term_text⟩
def en_rows_text : En := ⟨"rows_text", topS 2, ["rows", "found", "row", "arm", "some"], ["rows"], F.rows_text⟩
def en_function_text : En := ⟨"function_text", topS 3, ["function", "found", "one", "name", "params", "names", "inner", "rows"], ["function"], F.function_text⟩
def en_text_of : En := ⟨"text_of", topS 4, ["program"], ["program"], F.text_of⟩
def en_law_mix : En := ⟨"_law_mix", topS 6, ["_law_cell", "_law_k", "_law_m"], ["_law_cell", "_law_k"], F.law_mix⟩
def en_law_left : En := ⟨"_law_left", topS 7, ["_law_script", "_law_k", "_law_cell", "_law_own"], ["_law_script", "_law_k"], F.law_left⟩
def en_law_pick : En := ⟨"_law_pick", topS 8, ["_law_left_here", "_law_many", "_law_digit"], ["_law_left_here", "_law_many"], F.law_pick⟩
def en_law_any_word : En := ⟨"_law_any_word", topS 9, ["_law_left_here", "_law_letters", "_law_kept", "_law_size", "_law_signs", "_law_k"], ["_law_left_here"], F.law_any_word⟩
def en_law_unlike : En := ⟨"_law_unlike", topS 10, ["_law_left_here", "_law_many", "_law_found", "_law_turn", "_law_word", "_law_one", "_law_k"], ["_law_left_here", "_law_many"], F.law_unlike⟩
def en_law_any_number : En := ⟨"_law_any_number", topS 11, ["_law_left_here", "_law_way"], ["_law_left_here"], F.law_any_number⟩
def en_law_any_term : En := ⟨"_law_any_term", topS 12, ["_law_left_here", "_law_deep", "_law_room", "_law_way", "_law_head", "_law_one", "_law_many", "_law_k"], ["_law_left_here", "_law_deep", "_law_room"], F.law_any_term⟩
def en_law_any_rows : En := ⟨"_law_any_rows", topS 13, ["_law_left_here", "_law_deep", "_law_room", "_law_found", "_law_turn", "_law_way", "_law_term", "_law_one"], ["_law_left_here", "_law_deep", "_law_room"], F.law_any_rows⟩
def en_law_any_function : En := ⟨"_law_any_function", topS 14, ["_law_left_here", "_law_deep", "_law_room", "_law_name", "_law_some", "_law_words", "_law_inner", "_law_word", "_law_rows", "_law_many", "_law_more"], ["_law_left_here", "_law_deep", "_law_room", "_law_name"], F.law_any_function⟩
def en_law_any_program : En := ⟨"_law_any_program", topS 15, ["_law_left_here", "_law_name"], ["_law_left_here"], F.law_any_program⟩
def en_law_term_words : En := ⟨"_law_term_words", topS 16, ["_law_term", "_law_some", "_law_found", "_law_one"], ["_law_term"], F.law_term_words⟩
def en_law_rows_lines : En := ⟨"_law_rows_lines", topS 17, ["_law_rows", "_law_found", "_law_row", "_law_words"], ["_law_rows"], F.law_rows_lines⟩
def en_law_lines : En := ⟨"_law_lines", topS 18, ["_law_function", "_law_found", "_law_one", "_law_name", "_law_params", "_law_names", "_law_inner", "_law_rows"], ["_law_function"], F.law_lines⟩
def en_law : En := ⟨"law", topS 19, ["_law_script", "_law_k", "_law_left_here", "_law_program", "_law_turn", "_law_kept", "_law_due", "_law_found"], ["_law_script"], F.law⟩
def ens : List (Nat × En) := [(0, en_term_text), (1, en_rows_text), (2, en_function_text), (3, en_text_of), (4, en_law_mix), (5, en_law_left), (6, en_law_pick), (7, en_law_any_word), (8, en_law_unlike), (9, en_law_any_number), (10, en_law_any_term), (11, en_law_any_rows), (12, en_law_any_function), (13, en_law_any_program), (14, en_law_term_words), (15, en_law_rows_lines), (16, en_law_lines), (17, en_law)]
def tab : Tab := ⟨gls, [(0, "term_text"), (1, "rows_text"), (2, "function_text"), (3, "text_of"), (4, "_law_mix"), (5, "_law_left"), (6, "_law_pick"), (7, "_law_any_word"), (8, "_law_unlike"), (9, "_law_any_number"), (10, "_law_any_term"), (11, "_law_any_rows"), (12, "_law_any_function"), (13, "_law_any_program"), (14, "_law_term_words"), (15, "_law_rows_lines"), (16, "_law_lines"), (17, "law")]⟩
def fns : List (Nat × Fn) := [(0, F.term_text), (1, F.rows_text), (2, F.function_text), (3, F.text_of), (4, F.law_mix), (5, F.law_left), (6, F.law_pick), (7, F.law_any_word), (8, F.law_unlike), (9, F.law_any_number), (10, F.law_any_term), (11, F.law_any_rows), (12, F.law_any_function), (13, F.law_any_program), (14, F.law_term_words), (15, F.law_rows_lines), (16, F.law_lines), (17, F.law)]
theorem ens_ok : ens.all (·.2.ok tab) = true := by decide +kernel
theorem tab_ok : tab.fnm = ens.map fun p => (p.1, p.2.x) := rfl
theorem fns_ok : (ens.map fun p => (p.1, p.2.F)) = fns := rfl
def W : Wd := ⟨fns, gls, 1000⟩
theorem hasP : HasAnyP W where
  mix := rfl
  left := rfl
  pick := rfl
  word := rfl
  number := rfl
  term := rfl
  rows := rfl
  unlike := rfl
  fn := rfl
  prog := rfl
theorem hasT : HasText W := ⟨rfl, rfl, rfl, rfl⟩
theorem hasL : HasLines W := ⟨rfl, rfl, rfl⟩
def ILaw (ns : List Int) (_ : Nat) (e : AE) (_ : AH) : Prop := e = [some (.kz (ns.map .int)), none, none, none, none, none, none, none]
theorem law_true (ns : List Int) (hn : ns.length ≤ 63) : ∃ h', callN fns gls 1000 40 17 [.kz (ns.map .int)] [] = some (.bl true, h') := by
  suffices H : O2 (W.C 40 17 [.kz (ns.map .int)] []) fun v _ => v = .bl true by
    obtain ⟨v, h', e, rfl⟩ := H
    exact ⟨h', e⟩
  rw [show (40 : Nat) = 39 + 1 from rfl, Wd.C_run (F := F.law) rfl]
  have kt := kit_tab.2.2.2.1
  simp -dsimp [F.law, F.law_body, ↓w_var, ↓w_cst, ↓w_bty, ↓w_glob, ↓w_bin, ↓w_neg, ↓w_cmp, ↓w_chain, ↓w_and, ↓w_or, ↓w_not, ↓w_ite, ↓w_lst, ↓w_tup, ↓w_ix, ↓w_sl, ↓w_lc, ↓w_call, ↓w_pcall, ↓w_new, ↓w_bi, ↓w_me, ↓w_dsp, ↓wt_nil, ↓wt_and, ↓wt_or, ↓wt_not, ↓wt_val, ↓wa_nil, ↓wa_cons, ↓wb_nil, ↓wb_cons, ↓wo_nil, ↓wo_cons, ↓ws_nil, ↓ws_seq, ↓ws_set, ↓ws_setT, ↓ws_setIx, ↓ws_aug, ↓ws_ifs, ↓ws_for, ↓ws_whl, ↓ws_ret, ↓ws_retN, ↓ws_expr, ↓ws_pass, ↓ws_brk, ↓ws_setO, ↓ws_retO, ↓ws_appO, ↓ws_extO, ↓ws_revO, ↓ws_putO, ↓ws_par, ↓ws_wipe, ↓ws_frz, ↓ok_some, ↓ok_none, ↓o2_some, ↓o2_none, ↓o3_some, ↓o3_none, ↓seqQ_nx, ↓seqQ_rt, ↓seqQ_bk, ↓seqQ_ct, ↓retQ_rt, ↓retQ_nx, ↓turnQ_nx, ↓turnQ_rt, ↓turnQ_bk, ↓turnQ_ct, ↓wipeQ, ↓w_runF, for_en, for_zp, lc_en, lc_zp, wipeE, flV', asg, asgs, parV, Src.get, srcOf, seqSrc, sizeLine, newV, binV, addV, ixV, dctOf, seqOf, lstOf, lstW, slV, biV, isV, tyOf, cmpV, augV, setIxV, meTy, m_join, m_app, m_ext, m_pop, m_rev, strsOf_str, strsOf_nil, strsOf_app, strsOf_mapf, strsOf_map, Option.bind_some, Option.map_some, atI, ixN, ↓ok_if, ↓ok_map, ↓ok_bind, ↓o2_if, ↓o3_if]
  generalize hX : (if (3 : Int) < if (8 : Int) < (ns.length : Int) then 8 else (ns.length : Int) then if (8 : Int) < (ns.length : Int) then 8 else (ns.length : Int) else 3) = X
  have hb : 3 ≤ X ∧ X ≤ 8 := by
    rw [← hX]
    split <;> split <;> (try split) <;> omega
  refine ⟨by simp [in62]; omega, ?_⟩
  refine for_inv (I := ILaw ns) rfl (fun i x e h' hx hI => ?_) (fun e h' hI => ?_)
  · cases hI
    have hi : i < 8 := by
      have := (List.getElem?_eq_some_iff.mp hx).1
      simp [rngL] at this; omega
    obtain rfl : x = .int (i : Nat) := by
      simp only [rngL, List.getElem?_map, Option.map_eq_some_iff] at hx
      obtain ⟨y, hy, rfl⟩ := hx
      have := List.getElem?_eq_some_iff.mp hy
      obtain ⟨_, hy⟩ := this
      simp at hy
      subst hy
      simp
    obtain ⟨w, c, hlf⟩ := left_ok hasP.toHasDraw (k := 39) (h := h') ns i (by omega) (by omega)
    simp -dsimp [F.law_b1, ↓w_var, ↓w_cst, ↓w_bty, ↓w_glob, ↓w_bin, ↓w_neg, ↓w_cmp, ↓w_chain, ↓w_and, ↓w_or, ↓w_not, ↓w_ite, ↓w_lst, ↓w_tup, ↓w_ix, ↓w_sl, ↓w_lc, ↓w_call, ↓w_pcall, ↓w_new, ↓w_bi, ↓w_me, ↓w_dsp, ↓wt_nil, ↓wt_and, ↓wt_or, ↓wt_not, ↓wt_val, ↓wa_nil, ↓wa_cons, ↓wb_nil, ↓wb_cons, ↓wo_nil, ↓wo_cons, ↓ws_nil, ↓ws_seq, ↓ws_set, ↓ws_setT, ↓ws_setIx, ↓ws_aug, ↓ws_ifs, ↓ws_for, ↓ws_whl, ↓ws_ret, ↓ws_retN, ↓ws_expr, ↓ws_pass, ↓ws_brk, ↓ws_setO, ↓ws_retO, ↓ws_appO, ↓ws_extO, ↓ws_revO, ↓ws_putO, ↓ws_par, ↓ws_wipe, ↓ws_frz, ↓ok_some, ↓ok_none, ↓o2_some, ↓o2_none, ↓o3_some, ↓o3_none, ↓seqQ_nx, ↓seqQ_rt, ↓seqQ_bk, ↓seqQ_ct, ↓retQ_rt, ↓retQ_nx, ↓turnQ_nx, ↓turnQ_rt, ↓turnQ_bk, ↓turnQ_ct, ↓wipeQ, ↓w_runF, for_en, for_zp, lc_en, lc_zp, wipeE, flV', asg, asgs, parV, Src.get, srcOf, seqSrc, sizeLine, newV, binV, addV, ixV, dctOf, seqOf, lstOf, lstW, slV, biV, isV, tyOf, cmpV, augV, setIxV, meTy, m_join, m_app, m_ext, m_pop, m_rev, strsOf_str, strsOf_nil, strsOf_app, strsOf_mapf, strsOf_map, Option.bind_some, Option.map_some, atI, ixN, ↓ok_if, ↓ok_map, ↓ok_bind, ↓o2_if, ↓o3_if, hlf]
    refine any_program_ok hasP (by omega) (by simp) (B := 0) ⟨w, c + 7700, 0, rfl, Nat.le_refl _⟩ (by decide) fun p o' gw hd hn2 _ => ?_
    obtain ⟨ok, nd⟩ := p.gw_ok gw
    have S := fun h => p.str_ok h ok (by omega) (by omega)
    have L := fun h => lines_ok hasL 39 p h ok nd (by omega) (by omega)
    have T := fun h => text_of_ok (h := h) (k := 39) hasT p ok nd (by omega) (by omega)
    have sl := p.sum_len ok
    have ep : Str.join (Str.ofString "\n") p.tl = p.text := rfl
    simp -dsimp [↓w_var, ↓w_cst, ↓w_bty, ↓w_glob, ↓w_bin, ↓w_neg, ↓w_cmp, ↓w_chain, ↓w_and, ↓w_or, ↓w_not, ↓w_ite, ↓w_lst, ↓w_tup, ↓w_ix, ↓w_sl, ↓w_lc, ↓w_call, ↓w_pcall, ↓w_new, ↓w_bi, ↓w_me, ↓w_dsp, ↓wt_nil, ↓wt_and, ↓wt_or, ↓wt_not, ↓wt_val, ↓wa_nil, ↓wa_cons, ↓wb_nil, ↓wb_cons, ↓wo_nil, ↓wo_cons, ↓ws_nil, ↓ws_seq, ↓ws_set, ↓ws_setT, ↓ws_setIx, ↓ws_aug, ↓ws_ifs, ↓ws_for, ↓ws_whl, ↓ws_ret, ↓ws_retN, ↓ws_expr, ↓ws_pass, ↓ws_brk, ↓ws_setO, ↓ws_retO, ↓ws_appO, ↓ws_extO, ↓ws_revO, ↓ws_putO, ↓ws_par, ↓ws_wipe, ↓ws_frz, ↓ok_some, ↓ok_none, ↓o2_some, ↓o2_none, ↓o3_some, ↓o3_none, ↓seqQ_nx, ↓seqQ_rt, ↓seqQ_bk, ↓seqQ_ct, ↓retQ_rt, ↓retQ_nx, ↓turnQ_nx, ↓turnQ_rt, ↓turnQ_bk, ↓turnQ_ct, ↓wipeQ, ↓w_runF, for_en, for_zp, lc_en, lc_zp, wipeE, flV', asg, asgs, parV, Src.get, srcOf, seqSrc, sizeLine, newV, binV, addV, ixV, dctOf, seqOf, lstOf, lstW, slV, biV, isV, tyOf, cmpV, augV, setIxV, meTy, m_join, m_app, m_ext, m_pop, m_rev, strsOf_str, strsOf_nil, strsOf_app, strsOf_mapf, strsOf_map, Option.bind_some, Option.map_some, atI, ixN, ↓ok_if, ↓ok_map, ↓ok_bind, ↓o2_if, ↓o3_if, S, L, T, ep]
    refine ⟨by omega, ?_⟩
    simp -dsimp [↓w_var, ↓w_cst, ↓w_bty, ↓w_glob, ↓w_bin, ↓w_neg, ↓w_cmp, ↓w_chain, ↓w_and, ↓w_or, ↓w_not, ↓w_ite, ↓w_lst, ↓w_tup, ↓w_ix, ↓w_sl, ↓w_lc, ↓w_call, ↓w_pcall, ↓w_new, ↓w_bi, ↓w_me, ↓w_dsp, ↓wt_nil, ↓wt_and, ↓wt_or, ↓wt_not, ↓wt_val, ↓wa_nil, ↓wa_cons, ↓wb_nil, ↓wb_cons, ↓wo_nil, ↓wo_cons, ↓ws_nil, ↓ws_seq, ↓ws_set, ↓ws_setT, ↓ws_setIx, ↓ws_aug, ↓ws_ifs, ↓ws_for, ↓ws_whl, ↓ws_ret, ↓ws_retN, ↓ws_expr, ↓ws_pass, ↓ws_brk, ↓ws_setO, ↓ws_retO, ↓ws_appO, ↓ws_extO, ↓ws_revO, ↓ws_putO, ↓ws_par, ↓ws_wipe, ↓ws_frz, ↓ok_some, ↓ok_none, ↓o2_some, ↓o2_none, ↓o3_some, ↓o3_none, ↓seqQ_nx, ↓seqQ_rt, ↓seqQ_bk, ↓seqQ_ct, ↓retQ_rt, ↓retQ_nx, ↓turnQ_nx, ↓turnQ_rt, ↓turnQ_bk, ↓turnQ_ct, ↓wipeQ, ↓w_runF, for_en, for_zp, lc_en, lc_zp, wipeE, flV', asg, asgs, parV, Src.get, srcOf, seqSrc, sizeLine, newV, binV, addV, ixV, dctOf, seqOf, lstOf, lstW, slV, biV, isV, tyOf, cmpV, augV, setIxV, meTy, m_join, m_app, m_ext, m_pop, m_rev, strsOf_str, strsOf_nil, strsOf_app, strsOf_mapf, strsOf_map, Option.bind_some, Option.map_some, atI, ixN, ↓ok_if, ↓ok_map, ↓ok_bind, ↓o2_if, ↓o3_if, ↓wf_zero, ↓wf_succ, ↓wl_zero, ↓wl_succ, enL, List.zipIdx, zpL, rngL, in62, F.law_b0, S, T, kt, FK.eqV]
    exact rfl
  · cases hI
    simp -dsimp [↓w_var, ↓w_cst, ↓w_bty, ↓w_glob, ↓w_bin, ↓w_neg, ↓w_cmp, ↓w_chain, ↓w_and, ↓w_or, ↓w_not, ↓w_ite, ↓w_lst, ↓w_tup, ↓w_ix, ↓w_sl, ↓w_lc, ↓w_call, ↓w_pcall, ↓w_new, ↓w_bi, ↓w_me, ↓w_dsp, ↓wt_nil, ↓wt_and, ↓wt_or, ↓wt_not, ↓wt_val, ↓wa_nil, ↓wa_cons, ↓wb_nil, ↓wb_cons, ↓wo_nil, ↓wo_cons, ↓ws_nil, ↓ws_seq, ↓ws_set, ↓ws_setT, ↓ws_setIx, ↓ws_aug, ↓ws_ifs, ↓ws_for, ↓ws_whl, ↓ws_ret, ↓ws_retN, ↓ws_expr, ↓ws_pass, ↓ws_brk, ↓ws_setO, ↓ws_retO, ↓ws_appO, ↓ws_extO, ↓ws_revO, ↓ws_putO, ↓ws_par, ↓ws_wipe, ↓ws_frz, ↓ok_some, ↓ok_none, ↓o2_some, ↓o2_none, ↓o3_some, ↓o3_none, ↓seqQ_nx, ↓seqQ_rt, ↓seqQ_bk, ↓seqQ_ct, ↓retQ_rt, ↓retQ_nx, ↓turnQ_nx, ↓turnQ_rt, ↓turnQ_bk, ↓turnQ_ct, ↓wipeQ, ↓w_runF, for_en, for_zp, lc_en, lc_zp, wipeE, flV', asg, asgs, parV, Src.get, srcOf, seqSrc, sizeLine, newV, binV, addV, ixV, dctOf, seqOf, lstOf, lstW, slV, biV, isV, tyOf, cmpV, augV, setIxV, meTy, m_join, m_app, m_ext, m_pop, m_rev, strsOf_str, strsOf_nil, strsOf_app, strsOf_mapf, strsOf_map, Option.bind_some, Option.map_some, atI, ixN, ↓ok_if, ↓ok_map, ↓ok_bind, ↓o2_if, ↓o3_if]
end K77

namespace K77
open PySem PySem.Spec PyProof.Rows L2 FK
theorem mk {w : World} {K : PySem.W.Frag} {h : Heap} {mg : Str → Option Value} {fa : Addr} (X : K.In h) (G : h.Ns mainGlobals mg) (hfa : mg "law" = some (.ref fa))
    {f0 : Addr} {oc0 kV0 dc0 pm0 cd0 ct0 : Value} {od0 an0 : Option Addr} {sl0 : Array (Option Value)}
    (a0 : PySem.W.nsIn K mainGlobals "term_text" = some (some (.ref f0))) (l0 : K.lookup f0 = some ⟨oc0, od0, .func (PySem.W.fnOf "term_text" "term_text" (defArgs (topS 1)) (defBody (topS 1)) (defScope (topS 1)) .none kV0 dc0 pm0 an0 cd0 ct0), sl0⟩) (c0 : PySem.W.codeIn K cd0 "term_text" = true) (k0 : PySem.W.keepIn K (.ref f0) = true)
    {f1 : Addr} {oc1 kV1 dc1 pm1 cd1 ct1 : Value} {od1 an1 : Option Addr} {sl1 : Array (Option Value)}
    (a1 : PySem.W.nsIn K mainGlobals "rows_text" = some (some (.ref f1))) (l1 : K.lookup f1 = some ⟨oc1, od1, .func (PySem.W.fnOf "rows_text" "rows_text" (defArgs (topS 2)) (defBody (topS 2)) (defScope (topS 2)) .none kV1 dc1 pm1 an1 cd1 ct1), sl1⟩) (c1 : PySem.W.codeIn K cd1 "rows_text" = true) (k1 : PySem.W.keepIn K (.ref f1) = true)
    {f2 : Addr} {oc2 kV2 dc2 pm2 cd2 ct2 : Value} {od2 an2 : Option Addr} {sl2 : Array (Option Value)}
    (a2 : PySem.W.nsIn K mainGlobals "function_text" = some (some (.ref f2))) (l2 : K.lookup f2 = some ⟨oc2, od2, .func (PySem.W.fnOf "function_text" "function_text" (defArgs (topS 3)) (defBody (topS 3)) (defScope (topS 3)) .none kV2 dc2 pm2 an2 cd2 ct2), sl2⟩) (c2 : PySem.W.codeIn K cd2 "function_text" = true) (k2 : PySem.W.keepIn K (.ref f2) = true)
    {f3 : Addr} {oc3 kV3 dc3 pm3 cd3 ct3 : Value} {od3 an3 : Option Addr} {sl3 : Array (Option Value)}
    (a3 : PySem.W.nsIn K mainGlobals "text_of" = some (some (.ref f3))) (l3 : K.lookup f3 = some ⟨oc3, od3, .func (PySem.W.fnOf "text_of" "text_of" (defArgs (topS 4)) (defBody (topS 4)) (defScope (topS 4)) .none kV3 dc3 pm3 an3 cd3 ct3), sl3⟩) (c3 : PySem.W.codeIn K cd3 "text_of" = true) (k3 : PySem.W.keepIn K (.ref f3) = true)
    {f4 : Addr} {oc4 kV4 dc4 pm4 cd4 ct4 : Value} {od4 an4 : Option Addr} {sl4 : Array (Option Value)}
    (a4 : PySem.W.nsIn K mainGlobals "_law_mix" = some (some (.ref f4))) (l4 : K.lookup f4 = some ⟨oc4, od4, .func (PySem.W.fnOf "_law_mix" "_law_mix" (defArgs (topS 6)) (defBody (topS 6)) (defScope (topS 6)) .none kV4 dc4 pm4 an4 cd4 ct4), sl4⟩) (c4 : PySem.W.codeIn K cd4 "_law_mix" = true) (k4 : PySem.W.keepIn K (.ref f4) = true)
    {f5 : Addr} {oc5 kV5 dc5 pm5 cd5 ct5 : Value} {od5 an5 : Option Addr} {sl5 : Array (Option Value)}
    (a5 : PySem.W.nsIn K mainGlobals "_law_left" = some (some (.ref f5))) (l5 : K.lookup f5 = some ⟨oc5, od5, .func (PySem.W.fnOf "_law_left" "_law_left" (defArgs (topS 7)) (defBody (topS 7)) (defScope (topS 7)) .none kV5 dc5 pm5 an5 cd5 ct5), sl5⟩) (c5 : PySem.W.codeIn K cd5 "_law_left" = true) (k5 : PySem.W.keepIn K (.ref f5) = true)
    {f6 : Addr} {oc6 kV6 dc6 pm6 cd6 ct6 : Value} {od6 an6 : Option Addr} {sl6 : Array (Option Value)}
    (a6 : PySem.W.nsIn K mainGlobals "_law_pick" = some (some (.ref f6))) (l6 : K.lookup f6 = some ⟨oc6, od6, .func (PySem.W.fnOf "_law_pick" "_law_pick" (defArgs (topS 8)) (defBody (topS 8)) (defScope (topS 8)) .none kV6 dc6 pm6 an6 cd6 ct6), sl6⟩) (c6 : PySem.W.codeIn K cd6 "_law_pick" = true) (k6 : PySem.W.keepIn K (.ref f6) = true)
    {f7 : Addr} {oc7 kV7 dc7 pm7 cd7 ct7 : Value} {od7 an7 : Option Addr} {sl7 : Array (Option Value)}
    (a7 : PySem.W.nsIn K mainGlobals "_law_any_word" = some (some (.ref f7))) (l7 : K.lookup f7 = some ⟨oc7, od7, .func (PySem.W.fnOf "_law_any_word" "_law_any_word" (defArgs (topS 9)) (defBody (topS 9)) (defScope (topS 9)) .none kV7 dc7 pm7 an7 cd7 ct7), sl7⟩) (c7 : PySem.W.codeIn K cd7 "_law_any_word" = true) (k7 : PySem.W.keepIn K (.ref f7) = true)
    {f8 : Addr} {oc8 kV8 dc8 pm8 cd8 ct8 : Value} {od8 an8 : Option Addr} {sl8 : Array (Option Value)}
    (a8 : PySem.W.nsIn K mainGlobals "_law_unlike" = some (some (.ref f8))) (l8 : K.lookup f8 = some ⟨oc8, od8, .func (PySem.W.fnOf "_law_unlike" "_law_unlike" (defArgs (topS 10)) (defBody (topS 10)) (defScope (topS 10)) .none kV8 dc8 pm8 an8 cd8 ct8), sl8⟩) (c8 : PySem.W.codeIn K cd8 "_law_unlike" = true) (k8 : PySem.W.keepIn K (.ref f8) = true)
    {f9 : Addr} {oc9 kV9 dc9 pm9 cd9 ct9 : Value} {od9 an9 : Option Addr} {sl9 : Array (Option Value)}
    (a9 : PySem.W.nsIn K mainGlobals "_law_any_number" = some (some (.ref f9))) (l9 : K.lookup f9 = some ⟨oc9, od9, .func (PySem.W.fnOf "_law_any_number" "_law_any_number" (defArgs (topS 11)) (defBody (topS 11)) (defScope (topS 11)) .none kV9 dc9 pm9 an9 cd9 ct9), sl9⟩) (c9 : PySem.W.codeIn K cd9 "_law_any_number" = true) (k9 : PySem.W.keepIn K (.ref f9) = true)
    {f10 : Addr} {oc10 kV10 dc10 pm10 cd10 ct10 : Value} {od10 an10 : Option Addr} {sl10 : Array (Option Value)}
    (a10 : PySem.W.nsIn K mainGlobals "_law_any_term" = some (some (.ref f10))) (l10 : K.lookup f10 = some ⟨oc10, od10, .func (PySem.W.fnOf "_law_any_term" "_law_any_term" (defArgs (topS 12)) (defBody (topS 12)) (defScope (topS 12)) .none kV10 dc10 pm10 an10 cd10 ct10), sl10⟩) (c10 : PySem.W.codeIn K cd10 "_law_any_term" = true) (k10 : PySem.W.keepIn K (.ref f10) = true)
    {f11 : Addr} {oc11 kV11 dc11 pm11 cd11 ct11 : Value} {od11 an11 : Option Addr} {sl11 : Array (Option Value)}
    (a11 : PySem.W.nsIn K mainGlobals "_law_any_rows" = some (some (.ref f11))) (l11 : K.lookup f11 = some ⟨oc11, od11, .func (PySem.W.fnOf "_law_any_rows" "_law_any_rows" (defArgs (topS 13)) (defBody (topS 13)) (defScope (topS 13)) .none kV11 dc11 pm11 an11 cd11 ct11), sl11⟩) (c11 : PySem.W.codeIn K cd11 "_law_any_rows" = true) (k11 : PySem.W.keepIn K (.ref f11) = true)
    {f12 : Addr} {oc12 kV12 dc12 pm12 cd12 ct12 : Value} {od12 an12 : Option Addr} {sl12 : Array (Option Value)}
    (a12 : PySem.W.nsIn K mainGlobals "_law_any_function" = some (some (.ref f12))) (l12 : K.lookup f12 = some ⟨oc12, od12, .func (PySem.W.fnOf "_law_any_function" "_law_any_function" (defArgs (topS 14)) (defBody (topS 14)) (defScope (topS 14)) .none kV12 dc12 pm12 an12 cd12 ct12), sl12⟩) (c12 : PySem.W.codeIn K cd12 "_law_any_function" = true) (k12 : PySem.W.keepIn K (.ref f12) = true)
    {f13 : Addr} {oc13 kV13 dc13 pm13 cd13 ct13 : Value} {od13 an13 : Option Addr} {sl13 : Array (Option Value)}
    (a13 : PySem.W.nsIn K mainGlobals "_law_any_program" = some (some (.ref f13))) (l13 : K.lookup f13 = some ⟨oc13, od13, .func (PySem.W.fnOf "_law_any_program" "_law_any_program" (defArgs (topS 15)) (defBody (topS 15)) (defScope (topS 15)) .none kV13 dc13 pm13 an13 cd13 ct13), sl13⟩) (c13 : PySem.W.codeIn K cd13 "_law_any_program" = true) (k13 : PySem.W.keepIn K (.ref f13) = true)
    {f14 : Addr} {oc14 kV14 dc14 pm14 cd14 ct14 : Value} {od14 an14 : Option Addr} {sl14 : Array (Option Value)}
    (a14 : PySem.W.nsIn K mainGlobals "_law_term_words" = some (some (.ref f14))) (l14 : K.lookup f14 = some ⟨oc14, od14, .func (PySem.W.fnOf "_law_term_words" "_law_term_words" (defArgs (topS 16)) (defBody (topS 16)) (defScope (topS 16)) .none kV14 dc14 pm14 an14 cd14 ct14), sl14⟩) (c14 : PySem.W.codeIn K cd14 "_law_term_words" = true) (k14 : PySem.W.keepIn K (.ref f14) = true)
    {f15 : Addr} {oc15 kV15 dc15 pm15 cd15 ct15 : Value} {od15 an15 : Option Addr} {sl15 : Array (Option Value)}
    (a15 : PySem.W.nsIn K mainGlobals "_law_rows_lines" = some (some (.ref f15))) (l15 : K.lookup f15 = some ⟨oc15, od15, .func (PySem.W.fnOf "_law_rows_lines" "_law_rows_lines" (defArgs (topS 17)) (defBody (topS 17)) (defScope (topS 17)) .none kV15 dc15 pm15 an15 cd15 ct15), sl15⟩) (c15 : PySem.W.codeIn K cd15 "_law_rows_lines" = true) (k15 : PySem.W.keepIn K (.ref f15) = true)
    {f16 : Addr} {oc16 kV16 dc16 pm16 cd16 ct16 : Value} {od16 an16 : Option Addr} {sl16 : Array (Option Value)}
    (a16 : PySem.W.nsIn K mainGlobals "_law_lines" = some (some (.ref f16))) (l16 : K.lookup f16 = some ⟨oc16, od16, .func (PySem.W.fnOf "_law_lines" "_law_lines" (defArgs (topS 18)) (defBody (topS 18)) (defScope (topS 18)) .none kV16 dc16 pm16 an16 cd16 ct16), sl16⟩) (c16 : PySem.W.codeIn K cd16 "_law_lines" = true) (k16 : PySem.W.keepIn K (.ref f16) = true)
    {f17 : Addr} {oc17 kV17 dc17 pm17 cd17 ct17 : Value} {od17 an17 : Option Addr} {sl17 : Array (Option Value)}
    (a17 : PySem.W.nsIn K mainGlobals "law" = some (some (.ref f17))) (l17 : K.lookup f17 = some ⟨oc17, od17, .func (PySem.W.fnOf "law" "law" (defArgs (topS 19)) (defBody (topS 19)) (defScope (topS 19)) .none kV17 dc17 pm17 an17 cd17 ct17), sl17⟩) (c17 : PySem.W.codeIn K cd17 "law" = true) (k17 : PySem.W.keepIn K (.ref f17) = true)
    (z0 : PySem.W.nsIn K mainGlobals "len" = some none)
    (z1 : PySem.W.nsIn K mainGlobals "abs" = some none)
    (z2 : PySem.W.nsIn K mainGlobals "isinstance" = some none)
    (z3 : PySem.W.nsIn K mainGlobals "all" = some none)
    (z4 : PySem.W.nsIn K mainGlobals "any" = some none)
    (z5 : PySem.W.nsIn K mainGlobals "tuple" = some none)
    (z6 : PySem.W.nsIn K mainGlobals "list" = some none)
    (z7 : PySem.W.nsIn K mainGlobals "str" = some none)
    (z8 : PySem.W.nsIn K mainGlobals "min" = some none)
    (z9 : PySem.W.nsIn K mainGlobals "max" = some none)
    (z10 : PySem.W.nsIn K mainGlobals "sum" = some none)
    (z11 : PySem.W.nsIn K mainGlobals "int" = some none)
    (z12 : PySem.W.nsIn K mainGlobals "range" = some none)
    (z13 : PySem.W.nsIn K mainGlobals "bool" = some none)
    (z14 : PySem.W.nsIn K mainGlobals "enumerate" = some none)
    (z15 : PySem.W.nsIn K mainGlobals "zip" = some none)
    (z16 : PySem.W.nsIn K mainGlobals "sorted" = some none)
    (z17 : PySem.W.nsIn K mainGlobals "set" = some none)
    (z18 : PySem.W.nsIn K mainGlobals "dict" = some none)
    (z19 : PySem.W.nsIn K mainGlobals "repr" = some none)
    : ∃ fd : FuncData, Binds K fd ["_law_script"] [] ∧ ∀ base : Heap, K.In base → base.Ns mainGlobals mg → FnG PySem.Challenge.rw_flatkeep_k77_programs_written.prog w K mg base 40 fa fd ["_law_script"] (callN fns gls 1000 40 17) := by
  have gl : ∀ x v, tab.gl.lookup x = some v → ∃ u z, mg x = some u ∧ RelV z u ∧ ∀ ρ H, RepV K ρ H v z := fun x v e => by
    have q := lookup_mem e
    simp only [tab, gls, List.mem_cons, List.not_mem_nil, or_false, Prod.mk.injEq] at q
  have bn : ∀ x ∈ BN, mg x = none := fun x e => by
    simp only [BN, List.mem_cons, List.not_mem_nil, or_false] at e
    rcases e with rfl | rfl | rfl | rfl | rfl | rfl | rfl | rfl | rfl | rfl | rfl | rfl | rfl | rfl | rfl | rfl | rfl | rfl | rfl | rfl
    · exact PySem.W.mg_none_of X G z0
    · exact PySem.W.mg_none_of X G z1
    · exact PySem.W.mg_none_of X G z2
    · exact PySem.W.mg_none_of X G z3
    · exact PySem.W.mg_none_of X G z4
    · exact PySem.W.mg_none_of X G z5
    · exact PySem.W.mg_none_of X G z6
    · exact PySem.W.mg_none_of X G z7
    · exact PySem.W.mg_none_of X G z8
    · exact PySem.W.mg_none_of X G z9
    · exact PySem.W.mg_none_of X G z10
    · exact PySem.W.mg_none_of X G z11
    · exact PySem.W.mg_none_of X G z12
    · exact PySem.W.mg_none_of X G z13
    · exact PySem.W.mg_none_of X G z14
    · exact PySem.W.mg_none_of X G z15
    · exact PySem.W.mg_none_of X G z16
    · exact PySem.W.mg_none_of X G z17
    · exact PySem.W.mg_none_of X G z18
    · exact PySem.W.mg_none_of X G z19
  have st : ∀ p ∈ ens, ∃ fa fd, Stands K mg p.2 fa fd := fun p e => by
    simp only [ens, List.mem_cons, List.not_mem_nil, or_false] at e
    rcases e with rfl | rfl | rfl | rfl | rfl | rfl | rfl | rfl | rfl | rfl | rfl | rfl | rfl | rfl | rfl | rfl | rfl | rfl
    · exact stands_mk (E := en_term_text) X G a0 l0 c0 k0 fun _ _ _ _ _ _ us hl => match us, hl with | [_], _ => rfl
    · exact stands_mk (E := en_rows_text) X G a1 l1 c1 k1 fun _ _ _ _ _ _ us hl => match us, hl with | [_], _ => rfl
    · exact stands_mk (E := en_function_text) X G a2 l2 c2 k2 fun _ _ _ _ _ _ us hl => match us, hl with | [_], _ => rfl
    · exact stands_mk (E := en_text_of) X G a3 l3 c3 k3 fun _ _ _ _ _ _ us hl => match us, hl with | [_], _ => rfl
    · exact stands_mk (E := en_law_mix) X G a4 l4 c4 k4 fun _ _ _ _ _ _ us hl => match us, hl with | [_, _], _ => rfl
    · exact stands_mk (E := en_law_left) X G a5 l5 c5 k5 fun _ _ _ _ _ _ us hl => match us, hl with | [_, _], _ => rfl
    · exact stands_mk (E := en_law_pick) X G a6 l6 c6 k6 fun _ _ _ _ _ _ us hl => match us, hl with | [_, _], _ => rfl
    · exact stands_mk (E := en_law_any_word) X G a7 l7 c7 k7 fun _ _ _ _ _ _ us hl => match us, hl with | [_], _ => rfl
    · exact stands_mk (E := en_law_unlike) X G a8 l8 c8 k8 fun _ _ _ _ _ _ us hl => match us, hl with | [_, _], _ => rfl
    · exact stands_mk (E := en_law_any_number) X G a9 l9 c9 k9 fun _ _ _ _ _ _ us hl => match us, hl with | [_], _ => rfl
    · exact stands_mk (E := en_law_any_term) X G a10 l10 c10 k10 fun _ _ _ _ _ _ us hl => match us, hl with | [_, _, _], _ => rfl
    · exact stands_mk (E := en_law_any_rows) X G a11 l11 c11 k11 fun _ _ _ _ _ _ us hl => match us, hl with | [_, _, _], _ => rfl
    · exact stands_mk (E := en_law_any_function) X G a12 l12 c12 k12 fun _ _ _ _ _ _ us hl => match us, hl with | [_, _, _, _], _ => rfl
    · exact stands_mk (E := en_law_any_program) X G a13 l13 c13 k13 fun _ _ _ _ _ _ us hl => match us, hl with | [_], _ => rfl
    · exact stands_mk (E := en_law_term_words) X G a14 l14 c14 k14 fun _ _ _ _ _ _ us hl => match us, hl with | [_], _ => rfl
    · exact stands_mk (E := en_law_rows_lines) X G a15 l15 c15 k15 fun _ _ _ _ _ _ us hl => match us, hl with | [_], _ => rfl
    · exact stands_mk (E := en_law_lines) X G a16 l16 c16 k16 fun _ _ _ _ _ _ us hl => match us, hl with | [_], _ => rfl
    · exact stands_mk (E := en_law) X G a17 l17 c17 k17 fun _ _ _ _ _ _ us hl => match us, hl with | [_], _ => rfl
  exact law_mk (T := tab) (es := ens) (f := 17) (E := en_law) (fu := 1000) rfl rfl hfa tab_ok ens_ok ⟨gl, bn⟩ st
end K77
open PySem PySem.W PyProof.Rows
set_option maxRecDepth 100000 in
set_option maxHeartbeats 0 in
theorem PySem.Challenge.cw_flatkeep_k77_programs_written_holds : PySem.Challenge.rw_flatkeep_k77_programs_written.Holds := by
  w_on; o_law; k_head; (case hw => w_witness2)
  k_fill
  refine FK.walkG (l := PySem.Challenge.rw_flatkeep_k77_programs_written) (k := 40) (x := "_law_script") (m := FK.callN K77.fns K77.gls 1000 40 17) rfl rfl ⟨rfl, by decide +kernel, by decide +kernel⟩ (fun w h Y => PySem.W.kIn_of Y) ?F K77.law_true
  case F =>
    intro w mg fa h KX G hmg
    refine' K77.mk KX G hmg ?q_a0 ?q_l0 ?q_c0 ?q_k0 ?q_a1 ?q_l1 ?q_c1 ?q_k1 ?q_a2 ?q_l2 ?q_c2 ?q_k2 ?q_a3 ?q_l3 ?q_c3 ?q_k3 ?q_a4 ?q_l4 ?q_c4 ?q_k4 ?q_a5 ?q_l5 ?q_c5 ?q_k5 ?q_a6 ?q_l6 ?q_c6 ?q_k6 ?q_a7 ?q_l7 ?q_c7 ?q_k7 ?q_a8 ?q_l8 ?q_c8 ?q_k8 ?q_a9 ?q_l9 ?q_c9 ?q_k9 ?q_a10 ?q_l10 ?q_c10 ?q_k10 ?q_a11 ?q_l11 ?q_c11 ?q_k11 ?q_a12 ?q_l12 ?q_c12 ?q_k12 ?q_a13 ?q_l13 ?q_c13 ?q_k13 ?q_a14 ?q_l14 ?q_c14 ?q_k14 ?q_a15 ?q_l15 ?q_c15 ?q_k15 ?q_a16 ?q_l16 ?q_c16 ?q_k16 ?q_a17 ?q_l17 ?q_c17 ?q_k17 ?q_z0 ?q_z1 ?q_z2 ?q_z3 ?q_z4 ?q_z5 ?q_z6 ?q_z7 ?q_z8 ?q_z9 ?q_z10 ?q_z11 ?q_z12 ?q_z13 ?q_z14 ?q_z15 ?q_z16 ?q_z17 ?q_z18 ?q_z19
    (case q_a0 => k_is)
    (case q_l0 => k_is)
    (case q_c0 => k_is)
    (case q_k0 => k_is)
    (case q_a1 => k_is)
    (case q_l1 => k_is)
    (case q_c1 => k_is)
    (case q_k1 => k_is)
    (case q_a2 => k_is)
    (case q_l2 => k_is)
    (case q_c2 => k_is)
    (case q_k2 => k_is)
    (case q_a3 => k_is)
    (case q_l3 => k_is)
    (case q_c3 => k_is)
    (case q_k3 => k_is)
    (case q_a4 => k_is)
    (case q_l4 => k_is)
    (case q_c4 => k_is)
    (case q_k4 => k_is)
    (case q_a5 => k_is)
    (case q_l5 => k_is)
    (case q_c5 => k_is)
    (case q_k5 => k_is)
    (case q_a6 => k_is)
    (case q_l6 => k_is)
    (case q_c6 => k_is)
    (case q_k6 => k_is)
    (case q_a7 => k_is)
    (case q_l7 => k_is)
    (case q_c7 => k_is)
    (case q_k7 => k_is)
    (case q_a8 => k_is)
    (case q_l8 => k_is)
    (case q_c8 => k_is)
    (case q_k8 => k_is)
    (case q_a9 => k_is)
    (case q_l9 => k_is)
    (case q_c9 => k_is)
    (case q_k9 => k_is)
    (case q_a10 => k_is)
    (case q_l10 => k_is)
    (case q_c10 => k_is)
    (case q_k10 => k_is)
    (case q_a11 => k_is)
    (case q_l11 => k_is)
    (case q_c11 => k_is)
    (case q_k11 => k_is)
    (case q_a12 => k_is)
    (case q_l12 => k_is)
    (case q_c12 => k_is)
    (case q_k12 => k_is)
    (case q_a13 => k_is)
    (case q_l13 => k_is)
    (case q_c13 => k_is)
    (case q_k13 => k_is)
    (case q_a14 => k_is)
    (case q_l14 => k_is)
    (case q_c14 => k_is)
    (case q_k14 => k_is)
    (case q_a15 => k_is)
    (case q_l15 => k_is)
    (case q_c15 => k_is)
    (case q_k15 => k_is)
    (case q_a16 => k_is)
    (case q_l16 => k_is)
    (case q_c16 => k_is)
    (case q_k16 => k_is)
    (case q_a17 => k_is)
    (case q_l17 => k_is)
    (case q_c17 => k_is)
    (case q_k17 => k_is)
    (case q_z0 => k_is)
    (case q_z1 => k_is)
    (case q_z2 => k_is)
    (case q_z3 => k_is)
    (case q_z4 => k_is)
    (case q_z5 => k_is)
    (case q_z6 => k_is)
    (case q_z7 => k_is)
    (case q_z8 => k_is)
    (case q_z9 => k_is)
    (case q_z10 => k_is)
    (case q_z11 => k_is)
    (case q_z12 => k_is)
    (case q_z13 => k_is)
    (case q_z14 => k_is)
    (case q_z15 => k_is)
    (case q_z16 => k_is)
    (case q_z17 => k_is)
    (case q_z18 => k_is)
    (case q_z19 => k_is)
