import PyProof.Rows.All
import Wide.All
import OpenK.AllK
import Wide.FinOn
import HandS.ForMost
import HandS.Exc
import HandS.CallSlots
import HandS.WordsExc
import HandS.Comp
import HandS.IsInst
import HandS.Style
import HandS.Defaults
import HandS.Ends
import PySem.Challenge.RW_rimcords_k00_rims
set_option Elab.async false
set_option linter.all false
set_option maxRecDepth 100000
namespace FL
open PySem L2

/-- a truth value that is not reckoned by unfolding -/
noncomputable def yes (P : Prop) : Bool := @decide P (Classical.propDecidable P)
theorem yes_of {P : Prop} (h : P) : yes P = true := @decide_eq_true P (Classical.propDecidable P) h
theorem of_yes {P : Prop} (h : yes P = true) : P := @of_decide_eq_true P (Classical.propDecidable P) h
/-- plain data -/
inductive D where
  | non | bl (b : Bool) | int (i : Int) | str (s : Str)
  | tup (ds : List D) | lst (ds : List D) | vec (ds : List D)
  | obj (c : Nat) (ds : List D) | mobj (c : Nat) (ds : List D)

/-- footprints: how often an address is owned -/
abbrev Fp := Addr → Nat
def one (a : Addr) : Fp := fun x => if x = a then 1 else 0
def zf : Fp := fun _ => 0

/-- a class: where it stands, its fields by place -/
structure Cl where
  at_ : Addr
  fs : List Str

mutual
/-- d is held by v: what is frozen stands in F, what is owned in H, within the footprint A -/
def Own (K : PySem.W.Frag) (cl : Nat → Cl) (F H : Hp) : D → V → Fp → Prop
  | .non, v, _ => v = .non
  | .bl b, v, _ => v = .bl b
  | .int i, v, _ => v = .int i
  | .str s, v, _ => v = .str s
  | .tup ds, v, A => ∃ a xs, v = .ref a ∧ SqT K F a xs ∧ Owns K cl F H ds xs A
  | .lst ds, v, A => ∃ a xs, v = .ref a ∧ SqL K F a xs ∧ Owns K cl F H ds xs A
  | .vec ds, v, A => ∃ a xs B, v = .ref a ∧ F a = none ∧ H a = some (.lst xs) ∧ Owns K cl F H ds xs B ∧ ∀ x, one a x + B x ≤ A x
  | .obj c ds, v, A => ∃ a dx xs, v = .ref a ∧ F a = some (.ins (cl c).at_ dx ((cl c).fs.zip xs)) ∧ xs.length ≤ (cl c).fs.length ∧ Owns K cl F H ds xs A
  | .mobj c ds, v, A => ∃ a dx xs B, v = .ref a ∧ F a = none ∧ H a = some (.ins (cl c).at_ dx ((cl c).fs.zip xs)) ∧ xs.length ≤ (cl c).fs.length ∧ Owns K cl F H ds xs B ∧ ∀ x, one a x + B x ≤ A x
def Owns (K : PySem.W.Frag) (cl : Nat → Cl) (F H : Hp) : List D → List V → Fp → Prop
  | [], vs, _ => vs = []
  | d :: ds, vs, A => ∃ v r B C, vs = v :: r ∧ Own K cl F H d v B ∧ Owns K cl F H ds r C ∧ ∀ x, B x + C x ≤ A x
end

mutual
/-- nothing in it is owned -/
def D.pure : D → Bool
  | .non => true | .bl _ => true | .int _ => true | .str _ => true
  | .tup ds => D.pures ds | .lst ds => D.pures ds | .vec _ => false
  | .obj _ ds => D.pures ds | .mobj _ _ => false
def D.pures : List D → Bool
  | [] => true
  | d :: ds => d.pure && D.pures ds
end
mutual
/-- all of it frozen -/
def D.frz : D → D
  | .non => .non | .bl b => .bl b | .int i => .int i | .str s => .str s
  | .tup ds => .tup (D.frzs ds) | .lst ds => .lst (D.frzs ds) | .vec ds => .lst (D.frzs ds)
  | .obj c ds => .obj c (D.frzs ds) | .mobj c ds => .obj c (D.frzs ds)
def D.frzs : List D → List D
  | [] => []
  | d :: ds => d.frz :: D.frzs ds
end

abbrev Le (F F' : Hp) : Prop := ∀ a o, F a = some o → F' a = some o
theorem Le.refl {F : Hp} : Le F F := fun _ _ h => h
theorem Le.trans {F G H : Hp} (a : Le F G) (b : Le G H) : Le F H := fun x o h => b x o (a x o h)
theorem Le.sqL {K : PySem.W.Frag} {F F' : Hp} {a : Addr} {xs : List V} (h : Le F F') : SqL K F a xs → SqL K F' a xs := fun q => by
  rcases q with (q | ⟨o, q⟩) | q
  · exact .inl (.inl (h _ _ q))
  · exact .inl (.inr ⟨o, h _ _ q⟩)
  · exact .inr q
theorem Le.sqT {K : PySem.W.Frag} {F F' : Hp} {a : Addr} {xs : List V} (h : Le F F') : SqT K F a xs → SqT K F' a xs := fun q => by
  rcases q with (q | ⟨o, q⟩) | q
  · exact .inl (.inl (h _ _ q))
  · exact .inl (.inr ⟨o, h _ _ q⟩)
  · exact .inr q

theorem one_self {a : Addr} : one a a = 1 := by simp [one]

section
variable {K : PySem.W.Frag} {cl : Nat → Cl} {F F' H H' : Hp}

mutual
theorem Own.mono : ∀ {d : D} {v : V} {A A' : Fp}, Own K cl F H d v A → Le F F' → (∀ a, 0 < A a → H' a = H a ∧ F' a = none) → (∀ x, A x ≤ A' x) → Own K cl F' H' d v A'
  | .non, _, _, _, h, _, _, _ => h
  | .bl _, _, _, _, h, _, _, _ => h
  | .int _, _, _, _, h, _, _, _ => h
  | .str _, _, _, _, h, _, _, _ => h
  | .tup ds, v, A, A', h, l, k, m => by
    obtain ⟨a, xs, e, q, r⟩ := h
    exact ⟨a, xs, e, l.sqT q, Owns.mono r l k m⟩
  | .lst ds, v, A, A', h, l, k, m => by
    obtain ⟨a, xs, e, q, r⟩ := h
    exact ⟨a, xs, e, l.sqL q, Owns.mono r l k m⟩
  | .vec ds, v, A, A', h, l, k, m => by
    obtain ⟨a, xs, B, e, n, q, r, s⟩ := h
    have ha : 0 < A a := by have := s a; rw [one_self] at this; omega
    exact ⟨a, xs, B, e, (k a ha).2, (k a ha).1.trans q, Owns.mono r l (fun b hb => k b (by have := s b; omega)) (fun _ => Nat.le_refl _), fun x => Nat.le_trans (s x) (m x)⟩
  | .obj c ds, v, A, A', h, l, k, m => by
    obtain ⟨a, dx, xs, e, q, z, r⟩ := h
    exact ⟨a, dx, xs, e, l _ _ q, z, Owns.mono r l k m⟩
  | .mobj c ds, v, A, A', h, l, k, m => by
    obtain ⟨a, dx, xs, B, e, n, q, z, r, s⟩ := h
    have ha : 0 < A a := by have := s a; rw [one_self] at this; omega
    exact ⟨a, dx, xs, B, e, (k a ha).2, (k a ha).1.trans q, z, Owns.mono r l (fun b hb => k b (by have := s b; omega)) (fun _ => Nat.le_refl _), fun x => Nat.le_trans (s x) (m x)⟩
theorem Owns.mono : ∀ {ds : List D} {vs : List V} {A A' : Fp}, Owns K cl F H ds vs A → Le F F' → (∀ a, 0 < A a → H' a = H a ∧ F' a = none) → (∀ x, A x ≤ A' x) → Owns K cl F' H' ds vs A'
  | [], _, _, _, h, _, _, _ => h
  | d :: ds, vs, A, A', h, l, k, m => by
    obtain ⟨v, r, B, C, e, p, q, s⟩ := h
    exact ⟨v, r, B, C, e, Own.mono p l (fun b hb => k b (by have := s b; omega)) (fun _ => Nat.le_refl _), Owns.mono q l (fun b hb => k b (by have := s b; omega)) (fun _ => Nat.le_refl _), fun x => Nat.le_trans (s x) (m x)⟩
end

mutual
theorem Own.up : ∀ {d : D} {v : V} {A A' : Fp}, Own K cl F H d v A → (∀ x, A x ≤ A' x) → Own K cl F H d v A'
  | .non, _, _, _, h, _ => h
  | .bl _, _, _, _, h, _ => h
  | .int _, _, _, _, h, _ => h
  | .str _, _, _, _, h, _ => h
  | .tup ds, v, A, A', h, m => by
    obtain ⟨a, xs, e, q, r⟩ := h
    exact ⟨a, xs, e, q, Owns.up r m⟩
  | .lst ds, v, A, A', h, m => by
    obtain ⟨a, xs, e, q, r⟩ := h
    exact ⟨a, xs, e, q, Owns.up r m⟩
  | .vec ds, v, A, A', h, m => by
    obtain ⟨a, xs, B, e, n, q, r, s⟩ := h
    exact ⟨a, xs, B, e, n, q, r, fun x => Nat.le_trans (s x) (m x)⟩
  | .obj c ds, v, A, A', h, m => by
    obtain ⟨a, dx, xs, e, q, z, r⟩ := h
    exact ⟨a, dx, xs, e, q, z, Owns.up r m⟩
  | .mobj c ds, v, A, A', h, m => by
    obtain ⟨a, dx, xs, B, e, n, q, z, r, s⟩ := h
    exact ⟨a, dx, xs, B, e, n, q, z, r, fun x => Nat.le_trans (s x) (m x)⟩
theorem Owns.up : ∀ {ds : List D} {vs : List V} {A A' : Fp}, Owns K cl F H ds vs A → (∀ x, A x ≤ A' x) → Owns K cl F H ds vs A'
  | [], _, _, _, h, _ => h
  | d :: ds, vs, A, A', h, m => by
    obtain ⟨v, r, B, C, e, p, q, s⟩ := h
    exact ⟨v, r, B, C, e, p, q, fun x => Nat.le_trans (s x) (m x)⟩
end

mutual
theorem Own.of_pure : ∀ {d : D} {v : V} {A : Fp}, d.pure = true → Own K cl F H d v A → Own K cl F H' d v zf
  | .non, _, _, _, h => h
  | .bl _, _, _, _, h => h
  | .int _, _, _, _, h => h
  | .str _, _, _, _, h => h
  | .tup ds, v, A, p, h => by
    obtain ⟨a, xs, e, q, r⟩ := h
    exact ⟨a, xs, e, q, Owns.of_pure p r⟩
  | .lst ds, v, A, p, h => by
    obtain ⟨a, xs, e, q, r⟩ := h
    exact ⟨a, xs, e, q, Owns.of_pure p r⟩
  | .vec ds, v, A, p, h => by cases p
  | .obj c ds, v, A, p, h => by
    obtain ⟨a, dx, xs, e, q, z, r⟩ := h
    exact ⟨a, dx, xs, e, q, z, Owns.of_pure p r⟩
  | .mobj c ds, v, A, p, h => by cases p
theorem Owns.of_pure : ∀ {ds : List D} {vs : List V} {A : Fp}, D.pures ds = true → Owns K cl F H ds vs A → Owns K cl F H' ds vs zf
  | [], _, _, _, h => h
  | d :: ds, vs, A, p, h => by
    obtain ⟨v, r, B, C, e, q, t, s⟩ := h
    have p' : d.pure = true ∧ D.pures ds = true := by simpa [D.pures] using p
    exact ⟨v, r, zf, zf, e, Own.of_pure p'.1 q, Owns.of_pure p'.2 t, fun x => Nat.le_refl _⟩
end

mutual
theorem D.frz_of_pure : ∀ {d : D}, d.pure = true → d.frz = d
  | .non, _ => rfl
  | .bl _, _ => rfl
  | .int _, _ => rfl
  | .str _, _ => rfl
  | .tup ds, p => by rw [D.frz, D.frzs_of_pure (ds := ds) (by simpa [D.pure] using p)]
  | .lst ds, p => by rw [D.frz, D.frzs_of_pure (ds := ds) (by simpa [D.pure] using p)]
  | .vec ds, p => by simp [D.pure] at p
  | .obj c ds, p => by rw [D.frz, D.frzs_of_pure (ds := ds) (by simpa [D.pure] using p)]
  | .mobj c ds, p => by simp [D.pure] at p
theorem D.frzs_of_pure : ∀ {ds : List D}, D.pures ds = true → D.frzs ds = ds
  | [], _ => rfl
  | d :: ds, p => by
    have p' : d.pure = true ∧ D.pures ds = true := by simpa [D.pures] using p
    rw [D.frzs, D.frz_of_pure p'.1, D.frzs_of_pure p'.2]
end
mutual
theorem D.pure_frz : ∀ (d : D), d.frz.pure = true
  | .non => rfl
  | .bl _ => rfl
  | .int _ => rfl
  | .str _ => rfl
  | .tup ds => by rw [D.frz, D.pure]; exact D.pures_frzs ds
  | .lst ds => by rw [D.frz, D.pure]; exact D.pures_frzs ds
  | .vec ds => by rw [D.frz, D.pure]; exact D.pures_frzs ds
  | .obj c ds => by rw [D.frz, D.pure]; exact D.pures_frzs ds
  | .mobj c ds => by rw [D.frz, D.pure]; exact D.pures_frzs ds
theorem D.pures_frzs : ∀ (ds : List D), D.pures (D.frzs ds) = true
  | [] => rfl
  | d :: ds => by rw [D.frzs, D.pures, D.pure_frz d, D.pures_frzs ds]; rfl
end

mutual
theorem Own.freeze : ∀ {d : D} {v : V} {A : Fp}, Own K cl F H d v A → Le F F' → (∀ a, 0 < A a → F' a = H a) → Own K cl F' H' d.frz v zf
  | .non, _, _, h, _, _ => h
  | .bl _, _, _, h, _, _ => h
  | .int _, _, _, h, _, _ => h
  | .str _, _, _, h, _, _ => h
  | .tup ds, v, A, h, l, k => by
    obtain ⟨a, xs, e, q, r⟩ := h
    exact ⟨a, xs, e, l.sqT q, Owns.freeze r l k⟩
  | .lst ds, v, A, h, l, k => by
    obtain ⟨a, xs, e, q, r⟩ := h
    exact ⟨a, xs, e, l.sqL q, Owns.freeze r l k⟩
  | .vec ds, v, A, h, l, k => by
    obtain ⟨a, xs, B, e, n, q, r, s⟩ := h
    have ha : 0 < A a := by have := s a; rw [one_self] at this; omega
    exact ⟨a, xs, e, SqL.of ((k a ha).trans q), Owns.freeze r l fun b hb => k b (by have := s b; omega)⟩
  | .obj c ds, v, A, h, l, k => by
    obtain ⟨a, dx, xs, e, q, z, r⟩ := h
    exact ⟨a, dx, xs, e, l _ _ q, z, Owns.freeze r l k⟩
  | .mobj c ds, v, A, h, l, k => by
    obtain ⟨a, dx, xs, B, e, n, q, z, r, s⟩ := h
    have ha : 0 < A a := by have := s a; rw [one_self] at this; omega
    exact ⟨a, dx, xs, e, (k a ha).trans q, z, Owns.freeze r l fun b hb => k b (by have := s b; omega)⟩
theorem Owns.freeze : ∀ {ds : List D} {vs : List V} {A : Fp}, Owns K cl F H ds vs A → Le F F' → (∀ a, 0 < A a → F' a = H a) → Owns K cl F' H' (D.frzs ds) vs zf
  | [], _, _, h, _, _ => h
  | d :: ds, vs, A, h, l, k => by
    obtain ⟨v, r, B, C, e, p, q, s⟩ := h
    exact ⟨v, r, zf, zf, e, Own.freeze p l (fun b hb => k b (by have := s b; omega)), Owns.freeze q l (fun b hb => k b (by have := s b; omega)), fun x => Nat.le_refl _⟩
end
theorem Owns.length : ∀ {ds : List D} {vs : List V} {A : Fp}, Owns K cl F H ds vs A → ds.length = vs.length
  | [], vs, _, h => by
    have e : vs = [] := h
    subst e; rfl
  | d :: ds, vs, A, h => by
    obtain ⟨v, r, B, C, e, p, q, s⟩ := h
    rw [e, List.length_cons, List.length_cons, Owns.length q]
end

/-! ### the state -/
/-- the ghost of a call: the heap and the frozen part at its entry -/
structure Gh where
  E : Hp
  F : Hp
structure Sta (G : Gh) (F H : Hp) (A : Fp) : Prop where
  sub : Le F H
  ent : Le G.E H
  low : Le G.F F
  fr : ∀ a o, F a = some o → G.F a = some o ∨ G.E a = none
  own : ∀ a, 0 < A a → F a = none ∧ G.E a = none ∧ ∃ o, H a = some o
  nd : ∀ a, A a ≤ 1
theorem Sta.less {G : Gh} {F H : Hp} {A A' : Fp} (s : Sta G F H A) (h : ∀ x, A' x ≤ A x) : Sta G F H A' :=
  ⟨s.sub, s.ent, s.low, s.fr, fun a ha => s.own a (Nat.lt_of_lt_of_le ha (h a)), fun a => Nat.le_trans (h a) (s.nd a)⟩

/-- the frame: slot by slot; none: nothing is known -/
def EnvR (K : PySem.W.Frag) (cl : Nat → Cl) (F H : Hp) : List (Option D) → St → Fp → Prop
  | [], σ, _ => σ = []
  | none :: ρ, σ, A => ∃ s r, σ = s :: r ∧ EnvR K cl F H ρ r A
  | some d :: ρ, σ, A => ∃ v r B C, σ = some v :: r ∧ Own K cl F H d v B ∧ EnvR K cl F H ρ r C ∧ ∀ x, B x + C x ≤ A x
abbrev Rho := List (Option D)
section
variable {K : PySem.W.Frag} {cl : Nat → Cl} {F F' H H' : Hp}
theorem EnvR.mono : ∀ {ρ : Rho} {σ : St} {A A' : Fp}, EnvR K cl F H ρ σ A → Le F F' → (∀ a, 0 < A a → H' a = H a ∧ F' a = none) → (∀ x, A x ≤ A' x) → EnvR K cl F' H' ρ σ A'
  | [], _, _, _, h, _, _, _ => h
  | none :: ρ, σ, A, A', h, l, k, m => by
    obtain ⟨s, r, e, h⟩ := h
    exact ⟨s, r, e, EnvR.mono h l k m⟩
  | some d :: ρ, σ, A, A', h, l, k, m => by
    obtain ⟨v, r, B, C, e, p, q, s⟩ := h
    exact ⟨v, r, B, C, e, Own.mono p l (fun b hb => k b (by have := s b; omega)) (fun _ => Nat.le_refl _), EnvR.mono q l (fun b hb => k b (by have := s b; omega)) (fun _ => Nat.le_refl _), fun x => Nat.le_trans (s x) (m x)⟩
theorem EnvR.up : ∀ {ρ : Rho} {σ : St} {A A' : Fp}, EnvR K cl F H ρ σ A → (∀ x, A x ≤ A' x) → EnvR K cl F H ρ σ A'
  | [], _, _, _, h, _ => h
  | none :: ρ, σ, A, A', h, m => by
    obtain ⟨s, r, e, h⟩ := h
    exact ⟨s, r, e, EnvR.up h m⟩
  | some d :: ρ, σ, A, A', h, m => by
    obtain ⟨v, r, B, C, e, p, q, s⟩ := h
    exact ⟨v, r, B, C, e, p, q, fun x => Nat.le_trans (s x) (m x)⟩
theorem EnvR.length : ∀ {ρ : Rho} {σ : St} {A : Fp}, EnvR K cl F H ρ σ A → ρ.length = σ.length
  | [], σ, _, h => by
    have e : σ = [] := h
    subst e; rfl
  | none :: ρ, σ, A, h => by
    obtain ⟨s, r, e, h⟩ := h
    rw [e, List.length_cons, List.length_cons, EnvR.length h]
  | some d :: ρ, σ, A, h => by
    obtain ⟨v, r, B, C, e, p, q, s⟩ := h
    rw [e, List.length_cons, List.length_cons, EnvR.length q]
theorem EnvR.get : ∀ {ρ : Rho} {σ : St} {A : Fp} {i : Nat} {d : D}, EnvR K cl F H ρ σ A → ρ[i]? = some (some d) → ∃ v B C, σ[i]? = some (some v) ∧ Own K cl F H d v B ∧ EnvR K cl F H (ρ.set i none) σ C ∧ ∀ x, B x + C x ≤ A x
  | [], _, _, _, _, _, h => by simp at h
  | none :: ρ, σ, A, 0, d, h, e => by simp at e
  | none :: ρ, σ, A, i + 1, d, h, e => by
    obtain ⟨s, r, es, h⟩ := h
    obtain ⟨v, B, C, p, q, t, u⟩ := EnvR.get (i := i) h (by simpa using e)
    exact ⟨v, B, C, by rw [es]; simpa using p, q, ⟨s, r, es, t⟩, u⟩
  | some d' :: ρ, σ, A, 0, d, h, e => by
    obtain ⟨v, r, B, C, es, p, q, s⟩ := h
    have e' : d' = d := by simpa using e
    subst e'
    exact ⟨v, B, C, by rw [es]; rfl, p, ⟨_, r, es, q⟩, s⟩
  | some d' :: ρ, σ, A, i + 1, d, h, e => by
    obtain ⟨v, r, B, C, es, p, q, s⟩ := h
    obtain ⟨v', B', C', p', q', t', u'⟩ := EnvR.get (i := i) q (by simpa using e)
    refine ⟨v', B', fun x => B x + C' x, by rw [es]; simpa using p', q', ⟨v, r, B, C', es, p, t', fun x => Nat.le_refl _⟩, fun x => ?_⟩
    have := s x; have := u' x
    show B' x + (B x + C' x) ≤ A x
    omega
theorem EnvR.put : ∀ {ρ : Rho} {σ : St} {A B : Fp} {i : Nat} {d : D} {v : V}, EnvR K cl F H ρ σ A → Own K cl F H d v B → EnvR K cl F H (ρ.set i (some d)) (σ.set i (some v)) (fun x => B x + A x)
  | [], σ, A, B, i, d, v, h, _ => by
    have e : σ = [] := h
    subst e
    exact rfl
  | none :: ρ, σ, A, B, 0, d, v, h, o => by
    obtain ⟨s, r, es, h⟩ := h
    subst es
    exact ⟨v, r, B, A, rfl, o, h, fun x => Nat.le_refl _⟩
  | none :: ρ, σ, A, B, i + 1, d, v, h, o => by
    obtain ⟨s, r, es, h⟩ := h
    subst es
    exact ⟨s, _, rfl, EnvR.put h o⟩
  | some d' :: ρ, σ, A, B, 0, d, v, h, o => by
    obtain ⟨v', r, B', C, es, p, q, s⟩ := h
    subst es
    refine ⟨v, r, B, C, rfl, o, q, fun x => ?_⟩
    have := s x
    show B x + C x ≤ B x + A x
    omega
  | some d' :: ρ, σ, A, B, i + 1, d, v, h, o => by
    obtain ⟨v', r, B', C, es, p, q, s⟩ := h
    subst es
    refine ⟨v', _, B', fun x => B x + C x, rfl, p, EnvR.put q o, fun x => ?_⟩
    have := s x
    show B' x + (B x + C x) ≤ B x + A x
    omega
/-- to know less -/
theorem EnvR.drop : ∀ {ρ : Rho} {σ : St} {A : Fp} (i : Nat), EnvR K cl F H ρ σ A → EnvR K cl F H (ρ.set i none) σ A
  | [], _, _, _, h => h
  | none :: ρ, σ, A, 0, h => h
  | none :: ρ, σ, A, i + 1, h => by
    obtain ⟨s, r, es, h⟩ := h
    exact ⟨s, r, es, EnvR.drop i h⟩
  | some d' :: ρ, σ, A, 0, h => by
    obtain ⟨v', r, B', C, es, p, q, s⟩ := h
    exact ⟨_, r, es, q.up fun x => by have := s x; omega⟩
  | some d' :: ρ, σ, A, i + 1, h => by
    obtain ⟨v', r, B', C, es, p, q, s⟩ := h
    exact ⟨v', r, B', C, es, p, EnvR.drop i q, s⟩
end
end FL

set_option Elab.async false
set_option linter.all false
set_option maxRecDepth 100000
namespace FL
open PySem L2

/-- what a part of the program comes to -/
inductive RX (α : Type) where
  | ok (a : α) (ρ : Rho)
  | ex (c : Nat) (ds : List D) (ρ : Rho)
  | bad
def RX.bind {α β : Type} (r : RX α) (k : α → Rho → RX β) : RX β :=
  match r with
  | .ok a ρ => k a ρ
  | .ex c ds ρ => .ex c ds ρ
  | .bad => .bad
inductive RS where
  | nx (ρ : Rho) | rt (d : D) | bk (ρ : Rho) | ct (ρ : Rho) | ex (c : Nat) (ds : List D) (ρ : Rho) | bad
def RX.stmt {α : Type} (r : RX α) (k : α → Rho → RS) : RS :=
  match r with
  | .ok a ρ => k a ρ
  | .ex c ds ρ => .ex c ds ρ
  | .bad => .bad
def RS.seq (r : RS) (k : Rho → RS) : RS :=
  match r with
  | .nx ρ => k ρ
  | r => r

section
variable (K : PySem.W.Frag) (cl : Nat → Cl) (G : Gh)
/-- a state that follows -/
structure Ev (F H : Hp) (R : Fp) (F' H' : Hp) (σ : St) (ρ' : Rho) (A' B : Fp) : Prop where
  le : Le F F'
  ag : ∀ a, 0 < R a → H' a = H a
  st : Sta G F' H' (fun x => A' x + (B x + R x))
  en : EnvR K cl F' H' ρ' σ A'
def ExR (F : Hp) (c : Nat) (ds : List D) (v : Value) (d : Option Addr) : Prop :=
  v = .ref (cl c).at_ ∧ ∃ dd xs, d = some dd ∧ F dd = some (.xd ((cl c).fs.zip xs)) ∧ Owns K cl F F ds xs zf
end

section
variable {K : PySem.W.Frag} {cl : Nat → Cl} {G : Gh} {F H F' H' F'' H'' : Hp} {R B A' A'' B'' : Fp} {σ σ' : St} {ρ' ρ'' : Rho}
theorem Ev.self {ρ : Rho} {A : Fp} (st : Sta G F H (fun x => A x + R x)) (en : EnvR K cl F H ρ σ A) : Ev K cl G F H R F H σ ρ A zf :=
  ⟨Le.refl, fun _ _ => rfl, st.less fun x => by show A x + (zf x + R x) ≤ A x + R x; unfold zf; omega, en⟩
theorem Ev.trans (e : Ev K cl G F H R F' H' σ ρ' A' B) (e' : Ev K cl G F' H' (fun x => B x + R x) F'' H'' σ' ρ'' A'' B'') : Ev K cl G F H R F'' H'' σ' ρ'' A'' B'' :=
  ⟨e.le.trans e'.le, fun a ha => (e'.ag a (by show 0 < B a + R a; omega)).trans (e.ag a ha), e'.st.less fun x => by show A'' x + (B'' x + R x) ≤ A'' x + (B'' x + (B x + R x)); omega, e'.en⟩
/-- what was held ahead is held -/
theorem Ev.keep (e : Ev K cl G F H (fun x => B x + R x) F' H' σ ρ' A' B'') {d : D} {v : V} (o : Own K cl F H d v B) : Own K cl F' H' d v B :=
  o.mono e.le (fun a ha => ⟨e.ag a (by show 0 < B a + R a; omega), (e.st.own a (by show 0 < A' a + (B'' a + (B a + R a)); omega)).1⟩) fun _ => Nat.le_refl _
theorem Ev.keeps (e : Ev K cl G F H (fun x => B x + R x) F' H' σ ρ' A' B'') {d : List D} {v : List V} (o : Owns K cl F H d v B) : Owns K cl F' H' d v B :=
  o.mono e.le (fun a ha => ⟨e.ag a (by show 0 < B a + R a; omega), (e.st.own a (by show 0 < A' a + (B'' a + (B a + R a)); omega)).1⟩) fun _ => Nat.le_refl _
/-- less is held by hand -/
theorem Ev.lessB {B' : Fp} (e : Ev K cl G F H R F' H' σ ρ' A' B) (h : ∀ x, B' x ≤ B x) : Ev K cl G F H R F' H' σ ρ' A' B' :=
  ⟨e.le, e.ag, e.st.less fun x => by have := h x; show A' x + (B' x + R x) ≤ A' x + (B x + R x); omega, e.en⟩
theorem Ev.lessR {R' : Fp} (e : Ev K cl G F H R F' H' σ ρ' A' B) (h : ∀ x, R' x ≤ R x) : Ev K cl G F H R' F' H' σ ρ' A' B :=
  ⟨e.le, fun a ha => e.ag a (Nat.lt_of_lt_of_le ha (h a)), e.st.less fun x => by have := h x; show A' x + (B x + R' x) ≤ A' x + (B x + R x); omega, e.en⟩
end

/-! ### readings -/
abbrev WX' := Value → Option Addr → St → Hp → Prop
section
variable (K : PySem.W.Frag) (cl : Nat → Cl) (W : WX') {α β : Type} (rep : Hp → Hp → α → β → Fp → Prop)
def Pst (G : Gh) (F H : Hp) (σ : St) (R : Fp) (r : RX α) (Q : β → Hp → Prop) : Prop :=
  match r with
  | .ok a ρ' => ∀ v F' H' A' B, Ev K cl G F H R F' H' σ ρ' A' B → rep F' H' a v B → Q v H'
  | .ex c ds ρ' => ∀ u d F' H' A', Ev K cl G F H R F' H' σ ρ' A' zf → ExR K cl F' c ds u d → W u d σ H'
  | .bad => False
def tX (m : Rho → RX α) (σ : St) (H : Hp) (Q : β → Hp → Prop) : Prop :=
  ∃ G F ρ A R, Sta G F H (fun x => A x + R x) ∧ EnvR K cl F H ρ σ A ∧ Pst K cl W rep G F H σ R (m ρ) Q
def SPst (G : Gh) (F H : Hp) (R : Fp) (r : RS) (E : Ends) : Prop :=
  match r with
  | .nx ρ' => ∀ σ F' H' A', Ev K cl G F H R F' H' σ ρ' A' zf → E.nx σ H'
  | .bk ρ' => ∀ σ F' H' A', Ev K cl G F H R F' H' σ ρ' A' zf → E.bk σ H'
  | .ct ρ' => ∀ σ F' H' A', Ev K cl G F H R F' H' σ ρ' A' zf → E.ct σ H'
  | .rt d => ∀ v F' H' B, Ev K cl G F H R F' H' [] [] zf B → Own K cl F' H' d v B → E.rt v H'
  | .ex c ds ρ' => ∀ u d σ F' H' A', Ev K cl G F H R F' H' σ ρ' A' zf → ExR K cl F' c ds u d → W u d σ H'
  | .bad => False
def tS (m : Rho → RS) (E : Ends) (σ : St) (H : Hp) : Prop :=
  ∃ G F ρ A R, Sta G F H (fun x => A x + R x) ∧ EnvR K cl F H ρ σ A ∧ SPst K cl W G F H R (m ρ) E
end
def rD (K : PySem.W.Frag) (cl : Nat → Cl) : Hp → Hp → D → V → Fp → Prop := fun F H d v B => Own K cl F H d v B
def rL (K : PySem.W.Frag) (cl : Nat → Cl) : Hp → Hp → List D → List V → Fp → Prop := fun F H d v B => Owns K cl F H d v B
def rB : Hp → Hp → Bool → Bool → Fp → Prop := fun _ _ a b _ => a = b
/-- a path that is looked at: its footprint lies in the frame's -/
abbrev FE (X : Cx) (cl : Nat → Cl) (W : WX') (e : Expr) (m : Rho → RX D) : Prop := PE X e (tX X.K cl W (rD X.K cl) m)
abbrev FT (X : Cx) (cl : Nat → Cl) (W : WX') (e : Expr) (m : Rho → RX Bool) : Prop := PT X e (tX X.K cl W rB m)
abbrev FA (X : Cx) (cl : Nat → Cl) (W : WX') (es : List Expr) (m : Rho → RX (List D)) : Prop := PA X es (tX X.K cl W (rL X.K cl) m)
abbrev FS (X : Cx) (cl : Nat → Cl) (W : WX') (s : Stmt) (m : Rho → RS) : Prop := PS X s (tS X.K cl W m)
abbrev FSs (X : Cx) (cl : Nat → Cl) (W : WX') (s : List Stmt) (m : Rho → RS) : Prop := PSs X s (tS X.K cl W m)

theorem PE_imp {X : Cx} {e : Expr} {t t' : TE} (h : PE X e t) (i : ∀ σ H Q, t' σ H Q → t σ H Q) : PE X e t' := ⟨fun pins s σ H Q I q => h.run pins s σ H Q I (i σ H Q q)⟩
theorem PT_imp {X : Cx} {e : Expr} {t t' : TT} (h : PT X e t) (i : ∀ σ H Q, t' σ H Q → t σ H Q) : PT X e t' := ⟨fun pins s σ H Q I q => h.run pins s σ H Q I (i σ H Q q)⟩
theorem PA_imp {X : Cx} {e : List Expr} {t t' : TA} (h : PA X e t) (i : ∀ σ H Q, t' σ H Q → t σ H Q) : PA X e t' := ⟨fun pos pins s σ H Q I q => h.run pos pins s σ H Q I (i σ H Q q)⟩
theorem PS_imp {X : Cx} {e : Stmt} {t t' : TS} (h : PS X e t) (i : ∀ D σ H, t' D σ H → t D σ H) : PS X e t' := ⟨fun pins s σ H D I q => h.run pins s σ H D I (i D σ H q)⟩
theorem PSs_imp {X : Cx} {e : List Stmt} {t t' : TS} (h : PSs X e t) (i : ∀ D σ H, t' D σ H → t D σ H) : PSs X e t' := ⟨fun pins s σ H D I q => h.run pins s σ H D I (i D σ H q)⟩

section
variable {K : PySem.W.Frag} {cl : Nat → Cl} {W : WX'} {α β α' β' : Type} {rep : Hp → Hp → α → β → Fp → Prop} {rep' : Hp → Hp → α' → β' → Fp → Prop}
variable {G : Gh} {F H F' H' : Hp} {R B A' : Fp} {σ : St} {ρ' : Rho}
theorem Ev.thenR (e : Ev K cl G F H R F' H' σ ρ' A' B) {F'' H'' : Hp} {σ' : St} {ρ'' : Rho} {A'' B'' : Fp} (e' : Ev K cl G F' H' R F'' H'' σ' ρ'' A'' B'') : Ev K cl G F H R F'' H'' σ' ρ'' A'' B'' :=
  ⟨e.le.trans e'.le, fun a ha => (e'.ag a ha).trans (e.ag a ha), e'.st, e'.en⟩
theorem Pst.next {r : RX α} {Q : β → Hp → Prop} (h : Pst K cl W rep G F H σ R r Q) (e : Ev K cl G F H R F' H' σ ρ' A' B) : Pst K cl W rep G F' H' σ R r Q := by
  cases r with
  | ok a ρ => exact fun v F2 H2 A2 B2 e2 o => h v F2 H2 A2 B2 (e.thenR e2) o
  | ex c ds ρ => exact fun u d F2 H2 A2 e2 o => h u d F2 H2 A2 (e.thenR e2) o
  | bad => exact h
theorem SPst.next {r : RS} {E : Ends} (h : SPst K cl W G F H R r E) {σ : St} (e : Ev K cl G F H R F' H' σ ρ' A' B) : SPst K cl W G F' H' R r E := by
  cases r with
  | nx ρ => exact fun s F2 H2 A2 e2 => h s F2 H2 A2 (e.thenR e2)
  | bk ρ => exact fun s F2 H2 A2 e2 => h s F2 H2 A2 (e.thenR e2)
  | ct ρ => exact fun s F2 H2 A2 e2 => h s F2 H2 A2 (e.thenR e2)
  | rt d => exact fun v F2 H2 B2 e2 o => h v F2 H2 B2 (e.thenR e2) o
  | ex c ds ρ => exact fun u d s F2 H2 A2 e2 o => h u d s F2 H2 A2 (e.thenR e2) o
  | bad => exact h
/-- r is run while C is held -/
theorem Pst.bindC {C : Fp} {r : RX α} {k : α → Rho → RX α'} {Q : β' → Hp → Prop} {P : β → Hp → Prop} (h : Pst K cl W rep' G F H σ R (r.bind k) Q)
    (hk : ∀ a ρ' v F' H' A' B, Ev K cl G F H (fun x => C x + R x) F' H' σ ρ' A' B → rep F' H' a v B → Pst K cl W rep' G F' H' σ R (k a ρ') Q → P v H') : Pst K cl W rep G F H σ (fun x => C x + R x) r P := by
  have hr : ∀ x, R x ≤ C x + R x := fun x => Nat.le_add_left _ _
  cases r with
  | ok a ρ => exact fun v F2 H2 A2 B2 e2 o => hk a ρ v F2 H2 A2 B2 e2 o (Pst.next (r := k a ρ) h (e2.lessR hr))
  | ex c ds ρ => exact fun u d F2 H2 A2 e2 o => h u d F2 H2 A2 (e2.lessR hr) o
  | bad => exact h
theorem Pst.bind {r : RX α} {k : α → Rho → RX α'} {Q : β' → Hp → Prop} {P : β → Hp → Prop} (h : Pst K cl W rep' G F H σ R (r.bind k) Q)
    (hk : ∀ a ρ' v F' H' A' B, Ev K cl G F H R F' H' σ ρ' A' B → rep F' H' a v B → Pst K cl W rep' G F' H' σ R (k a ρ') Q → P v H') : Pst K cl W rep G F H σ R r P := by
  cases r with
  | ok a ρ => exact fun v F2 H2 A2 B2 e2 o => hk a ρ v F2 H2 A2 B2 e2 o (Pst.next (r := k a ρ) h e2)
  | ex c ds ρ => exact fun u d F2 H2 A2 e2 o => h u d F2 H2 A2 e2 o
  | bad => exact h
theorem Pst.stmtC {C : Fp} {r : RX α} {k : α → Rho → RS} {E : Ends} {P : β → Hp → Prop} (h : SPst K cl W G F H R (r.stmt k) E)
    (hk : ∀ a ρ' v F' H' A' B, Ev K cl G F H (fun x => C x + R x) F' H' σ ρ' A' B → rep F' H' a v B → SPst K cl W G F' H' R (k a ρ') E → P v H') : Pst K cl W rep G F H σ (fun x => C x + R x) r P := by
  have hr : ∀ x, R x ≤ C x + R x := fun x => Nat.le_add_left _ _
  cases r with
  | ok a ρ => exact fun v F2 H2 A2 B2 e2 o => hk a ρ v F2 H2 A2 B2 e2 o (SPst.next (r := k a ρ) h (e2.lessR hr))
  | ex c ds ρ => exact fun u d F2 H2 A2 e2 o => h u d σ F2 H2 A2 (e2.lessR hr) o
  | bad => exact h
theorem Pst.stmt {r : RX α} {k : α → Rho → RS} {E : Ends} {P : β → Hp → Prop} (h : SPst K cl W G F H R (r.stmt k) E)
    (hk : ∀ a ρ' v F' H' A' B, Ev K cl G F H R F' H' σ ρ' A' B → rep F' H' a v B → SPst K cl W G F' H' R (k a ρ') E → P v H') : Pst K cl W rep G F H σ R r P := by
  cases r with
  | ok a ρ => exact fun v F2 H2 A2 B2 e2 o => hk a ρ v F2 H2 A2 B2 e2 o (SPst.next (r := k a ρ) h e2)
  | ex c ds ρ => exact fun u d F2 H2 A2 e2 o => h u d σ F2 H2 A2 e2 o
  | bad => exact h
theorem Pst.hold {C : Fp} {r : RX α} {Q : β → Hp → Prop} (h : Pst K cl W rep G F H σ R r Q) : Pst K cl W rep G F H σ (fun x => C x + R x) r Q := by
  have hr : ∀ x, R x ≤ C x + R x := fun x => Nat.le_add_left _ _
  cases r with
  | ok a ρ => exact fun v F2 H2 A2 B2 e2 o => h v F2 H2 A2 B2 (e2.lessR hr) o
  | ex c ds ρ => exact fun u d F2 H2 A2 e2 o => h u d F2 H2 A2 (e2.lessR hr) o
  | bad => exact h
theorem SPst.hold {C : Fp} {r : RS} {E : Ends} (h : SPst K cl W G F H R r E) : SPst K cl W G F H (fun x => C x + R x) r E := by
  have hr : ∀ x, R x ≤ C x + R x := fun x => Nat.le_add_left _ _
  cases r with
  | nx ρ => exact fun s F2 H2 A2 e2 => h s F2 H2 A2 (e2.lessR hr)
  | bk ρ => exact fun s F2 H2 A2 e2 => h s F2 H2 A2 (e2.lessR hr)
  | ct ρ => exact fun s F2 H2 A2 e2 => h s F2 H2 A2 (e2.lessR hr)
  | rt d => exact fun v F2 H2 B2 e2 o => h v F2 H2 B2 (e2.lessR hr) o
  | ex c ds ρ => exact fun u d s F2 H2 A2 e2 o => h u d s F2 H2 A2 (e2.lessR hr) o
  | bad => exact h
theorem tX.run {m : Rho → RX α} {Q : β → Hp → Prop} (e : Ev K cl G F H R F' H' σ ρ' A' B) (p : Pst K cl W rep G F' H' σ (fun x => B x + R x) (m ρ') Q) : tX K cl W rep m σ H' Q :=
  ⟨G, F', ρ', A', fun x => B x + R x, e.st, e.en, p⟩
/-- nothing is held -/
theorem tX.run0 {m : Rho → RX α} {Q : β → Hp → Prop} (e : Ev K cl G F H R F' H' σ ρ' A' B) (p : Pst K cl W rep G F' H' σ R (m ρ') Q) : tX K cl W rep m σ H' Q :=
  ⟨G, F', ρ', A', R, e.st.less fun x => by show A' x + R x ≤ A' x + (B x + R x); omega, e.en, p⟩
theorem tS.run0 {m : Rho → RS} {E : Ends} (e : Ev K cl G F H R F' H' σ ρ' A' B) (p : SPst K cl W G F' H' R (m ρ') E) : tS K cl W m E σ H' :=
  ⟨G, F', ρ', A', R, e.st.less fun x => by show A' x + R x ≤ A' x + (B x + R x); omega, e.en, p⟩
theorem tS.run {m : Rho → RS} {E : Ends} (e : Ev K cl G F H R F' H' σ ρ' A' B) (p : SPst K cl W G F' H' (fun x => B x + R x) (m ρ') E) : tS K cl W m E σ H' :=
  ⟨G, F', ρ', A', fun x => B x + R x, e.st, e.en, p⟩
end
end FL

set_option Elab.async false
set_option linter.all false
set_option maxRecDepth 100000
namespace FL
open PySem L2

/-! ### expressions -/
def eC (d : D) : Rho → RX D := fun ρ => .ok d ρ
/-- a name: what it holds is frozen -/
def eV (i : Nat) : Rho → RX D := fun ρ => match ρ[i]? with | some (some d) => .ok d.frz (ρ.set i (some d.frz)) | _ => .bad
/-- a name's last use -/
def eM (i : Nat) : Rho → RX D := fun ρ => match ρ[i]? with | some (some d) => .ok d (ρ.set i none) | _ => .bad
def opt (o : Option D) (ρ : Rho) : RX D := match o with | some d => .ok d ρ | none => .bad
def eBin (f : D → D → Option D) (a b : Rho → RX D) : Rho → RX D := fun ρ => (a ρ).bind fun x ρ1 => (b ρ1).bind fun y ρ2 => opt (f x y) ρ2
def eUn (f : D → Option D) (a : Rho → RX D) : Rho → RX D := fun ρ => (a ρ).bind fun x ρ1 => opt (f x) ρ1
def aNil : Rho → RX (List D) := fun ρ => .ok [] ρ
def aCons (a : Rho → RX D) (b : Rho → RX (List D)) : Rho → RX (List D) := fun ρ => (a ρ).bind fun x ρ1 => (b ρ1).bind fun y ρ2 => .ok (x :: y) ρ2
noncomputable def cap (n : Nat) : Bool := yes (n < 16777216)
noncomputable def eTup (a : Rho → RX (List D)) : Rho → RX D := fun ρ => (a ρ).bind fun x ρ1 => if cap x.length then .ok (.tup x) ρ1 else .bad
noncomputable def eLst (a : Rho → RX (List D)) : Rho → RX D := fun ρ => (a ρ).bind fun x ρ1 => if cap x.length then .ok (.vec x) ρ1 else .bad
/-- a built-in called -/
def eFn (f : List D → Option D) (a : Rho → RX (List D)) : Rho → RX D := fun ρ => (a ρ).bind fun x ρ1 => opt (f x) ρ1
def tB1 (a : Rho → RX D) : Rho → RX Bool := fun ρ => (a ρ).bind fun x ρ1 => match x with | .bl b => .ok b ρ1 | _ => .bad
def tAnd (a b : Rho → RX Bool) : Rho → RX Bool := fun ρ => (a ρ).bind fun x ρ1 => if x then b ρ1 else .ok false ρ1
def tOr (a b : Rho → RX Bool) : Rho → RX Bool := fun ρ => (a ρ).bind fun x ρ1 => if x then .ok true ρ1 else b ρ1
def tNot (a : Rho → RX Bool) : Rho → RX Bool := fun ρ => (a ρ).bind fun x ρ1 => .ok (!x) ρ1
def andX : D → RX D → Rho → RX D
  | .bl true, k, _ => k
  | .bl false, _, ρ => .ok (.bl false) ρ
  | _, _, _ => .bad
def orX : D → RX D → Rho → RX D
  | .bl true, _, ρ => .ok (.bl true) ρ
  | .bl false, k, _ => k
  | _, _, _ => .bad
def eAnd (a b : Rho → RX D) : Rho → RX D := fun ρ => (a ρ).bind fun x ρ1 => andX x (b ρ1) ρ1
def eOr (a b : Rho → RX D) : Rho → RX D := fun ρ => (a ρ).bind fun x ρ1 => orX x (b ρ1) ρ1
def eNot (a : Rho → RX D) : Rho → RX D := fun ρ => (a ρ).bind fun x ρ1 => match x with | .bl b => .ok (.bl (!b)) ρ1 | _ => .bad
def eIf (t : Rho → RX Bool) (a b : Rho → RX D) : Rho → RX D := fun ρ => (t ρ).bind fun x ρ1 => if x then a ρ1 else b ρ1

section
variable {X : Cx} {cl : Nat → Cl} {W : WX'} {K : PySem.W.Frag}
variable {G : Gh} {F H F' H' : Hp} {R B A A' : Fp} {σ : St} {ρ ρ' : Rho}

/-- a result without a footprint, where one stands -/
theorem Pst.ok {α β : Type} {rep : Hp → Hp → α → β → Fp → Prop} {a : α} {v : β} {Q : β → Hp → Prop} (p : Pst K cl W rep G F' H' σ R (.ok a ρ') Q) (e : Ev K cl G F H R F' H' σ ρ' A' B) (o : rep F' H' a v zf) : Q v H' :=
  p v F' H' A' zf (Ev.self (e.st.less fun x => by show A' x + R x ≤ A' x + (B x + R x); omega) e.en) o
theorem Pst.okB {α β : Type} {rep : Hp → Hp → α → β → Fp → Prop} {a : α} {v : β} {Q : β → Hp → Prop} (p : Pst K cl W rep G F H σ R (.ok a ρ') Q) (st : Sta G F H (fun x => A x + (B x + R x))) (en : EnvR K cl F H ρ' σ A) (o : rep F H a v B) : Q v H :=
  p v F H A B ⟨Le.refl, fun _ _ => rfl, st, en⟩ o

theorem fe_const {e : Expr} {d : D} {v : V} (h : PE X e (tC v)) (hd : ∀ F H, Own X.K cl F H d v zf) : FE X cl W e (eC d) := PE_imp h fun σ H Q q => by
  obtain ⟨G, F, ρ, A, R, st, en, p⟩ := q
  exact p v F H A zf (Ev.self st en) (hd F H)
theorem fe_int {i j pos} : FE X cl W (.Constant (.int i) j pos) (eC (.int i)) := fe_const pe_int fun _ _ => rfl
theorem fe_bl {b j pos} : FE X cl W (.Constant (.bool b) j pos) (eC (.bl b)) := fe_const pe_bl fun _ _ => rfl
theorem fe_non {j pos} : FE X cl W (.Constant .none j pos) (eC .non) := fe_const pe_non fun _ _ => rfl
theorem fe_str {x j pos} : FE X cl W (.Constant (.str x) j pos) (eC (.str x)) := fe_const pe_str fun _ _ => rfl

/-- an owned thing is frozen -/
theorem freeze_st {d : D} {v : V} {C : Fp} (st : Sta G F H (fun x => C x + (B x + R x))) (o : Own K cl F H d v B) :
    ∃ F', Le F F' ∧ Sta G F' H (fun x => C x + R x) ∧ Own K cl F' H d.frz v zf := by
  have hown : ∀ a, 0 < B a → F a = none ∧ G.E a = none ∧ ∃ o, H a = some o := fun a ha => st.own a (by show 0 < C a + (B a + R a); omega)
  have hnd : ∀ a, C a + (B a + R a) ≤ 1 := st.nd
  refine ⟨fun a => if 0 < B a then H a else F a, fun a o e => ?_, ⟨fun a o e => ?_, st.ent, fun a o e => ?_, fun a o e => ?_, fun a ha => ?_, fun a => by have := hnd a; show C a + R a ≤ 1; omega⟩, ?_⟩
  · show (if 0 < B a then H a else F a) = some o
    split
    · rename_i hb; rw [(hown a hb).1] at e; cases e
    · exact e
  · have e' : (if 0 < B a then H a else F a) = some o := e
    split at e'
    · exact e'
    · exact st.sub a o e'
  · show (if 0 < B a then H a else F a) = some o
    split
    · rename_i hb
      have := st.low a o e
      rw [(hown a hb).1] at this; cases this
    · exact st.low a o e
  · have e' : (if 0 < B a then H a else F a) = some o := e
    split at e'
    · rename_i hb; exact .inr (hown a hb).2.1
    · exact st.fr a o e'
  · have ha' : 0 < C a + R a := ha
    have h1 := st.own a (by show 0 < C a + (B a + R a); omega)
    refine ⟨?_, h1.2⟩
    show (if 0 < B a then H a else F a) = none
    rw [if_neg (by have := hnd a; omega)]
    exact h1.1
  · refine o.freeze (fun a o' e => ?_) fun a ha => ?_
    · show (if 0 < B a then H a else F a) = some o'
      split
      · rename_i hb; rw [(hown a hb).1] at e; cases e
      · exact e
    · show (if 0 < B a then H a else F a) = H a
      rw [if_pos ha]

theorem fe_var {i : Nat} {x : Str} {pos : Pos} (h : PE X (.Name x pos) (tVar i)) : FE X cl W (.Name x pos) (eV i) := PE_imp h fun σ H Q q => by
  obtain ⟨G, F, ρ, A, R, st, en, p⟩ := q
  unfold eV at p
  cases e : ρ[i]? with
  | none => rw [e] at p; exact p.elim
  | some o =>
    cases o with
    | none => rw [e] at p; exact p.elim
    | some d =>
      rw [e] at p
      obtain ⟨v, B, C, hv, o, en', hs⟩ := en.get e
      refine ⟨v, hv, ?_⟩
      obtain ⟨F', le, st', o'⟩ := freeze_st (B := B) (R := R) (C := C) (st.less fun x => by have := hs x; show C x + (B x + R x) ≤ A x + R x; omega) o
      have hi : i < ρ.length := (List.getElem?_eq_some_iff.mp e).1
      have en2 : EnvR X.K cl F' H (ρ.set i none) σ C := en'.mono le (fun a ha => ⟨rfl, (st'.own a (by show 0 < C a + R a; omega)).1⟩) fun _ => Nat.le_refl _
      have en3 := en2.put (i := i) o'
      rw [List.set_set] at en3
      have hσ : σ.set i (some v) = σ := by
        obtain ⟨hl, hg⟩ := List.getElem?_eq_some_iff.mp hv
        rw [← hg]
        exact List.set_getElem_self hl
      rw [hσ] at en3
      exact p v F' H (fun x => zf x + C x) zf ⟨le, fun _ _ => rfl, st'.less fun x => by show zf x + C x + (zf x + R x) ≤ C x + R x; unfold zf; omega, en3⟩ o'
theorem fe_move {i : Nat} {x : Str} {pos : Pos} (h : PE X (.Name x pos) (tVar i)) : FE X cl W (.Name x pos) (eM i) := PE_imp h fun σ H Q q => by
  obtain ⟨G, F, ρ, A, R, st, en, p⟩ := q
  unfold eM at p
  cases e : ρ[i]? with
  | none => rw [e] at p; exact p.elim
  | some o =>
    cases o with
    | none => rw [e] at p; exact p.elim
    | some d =>
      rw [e] at p
      obtain ⟨v, B, C, hv, o, en', hs⟩ := en.get e
      exact ⟨v, hv, Pst.okB p (st.less fun x => by have := hs x; show C x + (B x + R x) ≤ A x + R x; omega) en' o⟩

/-- a built-in rule over data: r is HandS' reading of it -/
def Does2 (X : Cx) (cl : Nat → Cl) (f : D → D → Option D) (r : R2) : Prop :=
  ∀ (x y d : D), f x y = some d → ∀ (G : Gh) (F H : Hp) (S B C : Fp) (vx vy : V) (Q : VK), Sta G F H (fun z => B z + (C z + S z)) → Own X.K cl F H x vx C → Own X.K cl F H y vy B →
    (∀ v F' H' B', Le F F' → (∀ a, 0 < S a → H' a = H a) → Sta G F' H' (fun z => B' z + S z) → Own X.K cl F' H' d v B' → Q v H') → r vx vy H Q
def Does1 (X : Cx) (cl : Nat → Cl) (f : D → Option D) (r : V → Hp → VK → Prop) : Prop :=
  ∀ (x d : D), f x = some d → ∀ (G : Gh) (F H : Hp) (S C : Fp) (vx : V) (Q : VK), Sta G F H (fun z => C z + S z) → Own X.K cl F H x vx C →
    (∀ v F' H' B', Le F F' → (∀ a, 0 < S a → H' a = H a) → Sta G F' H' (fun z => B' z + S z) → Own X.K cl F' H' d v B' → Q v H') → r vx H Q
def DoesL (X : Cx) (cl : Nat → Cl) (f : List D → Option D) (r : List V → Hp → VK → Prop) : Prop :=
  ∀ (x : List D) (d : D), f x = some d → ∀ (G : Gh) (F H : Hp) (S C : Fp) (vx : List V) (Q : VK), Sta G F H (fun z => C z + S z) → Owns X.K cl F H x vx C →
    (∀ v F' H' B', Le F F' → (∀ a, 0 < S a → H' a = H a) → Sta G F' H' (fun z => B' z + S z) → Own X.K cl F' H' d v B' → Q v H') → r vx H Q
/-- behind such a rule -/
theorem Pst.does {d : D} {Q : VK} (p : Pst K cl W (rD K cl) G F H σ R (.ok d ρ) Q) (st : Sta G F H (fun x => A x + R x)) (en : EnvR K cl F H ρ σ A) :
    ∀ v F' H' B', Le F F' → (∀ a, 0 < A a + R a → H' a = H a) → Sta G F' H' (fun z => B' z + (A z + R z)) → Own K cl F' H' d v B' → Q v H' := fun v F' H' B' le ag st' o =>
  p v F' H' A B' ⟨le, fun a ha => ag a (by omega), st'.less fun z => by show A z + (B' z + R z) ≤ B' z + (A z + R z); omega,
    en.mono le (fun a ha => ⟨ag a (by omega), (st'.own a (by show 0 < B' a + (A a + R a); omega)).1⟩) fun _ => Nat.le_refl _⟩ o
theorem fe_bin {e : Expr} {a b : Rho → RX D} {f : D → D → Option D} {r : R2} (hf : Does2 X cl f r) (h : PE X e (tOp r (tX X.K cl W (rD X.K cl) a) (tX X.K cl W (rD X.K cl) b))) : FE X cl W e (eBin f a b) := PE_imp h fun σ H Q q => by
  obtain ⟨G, F, ρ, A, R, st, en, p⟩ := q
  refine ⟨G, F, ρ, A, R, st, en, Pst.bind p fun x ρ1 v1 F1 H1 A1 B1 e1 o1 p1 => ?_⟩
  refine tX.run e1 (Pst.bindC p1 fun y ρ2 v2 F2 H2 A2 B2 e2 o2 p2 => ?_)
  cases hd : f x y with
  | none => rw [hd] at p2; exact p2.elim
  | some d =>
    rw [hd] at p2
    refine hf x y d hd G F2 H2 (fun z => A2 z + R z) B2 B1 v1 v2 Q (e2.st.less fun z => ?_) (e2.keep o1) o2 (Pst.does p2 (e2.st.less fun z => ?_) e2.en)
    · show B2 z + (B1 z + (A2 z + R z)) ≤ A2 z + (B2 z + (B1 z + R z)); omega
    · show A2 z + R z ≤ A2 z + (B2 z + (B1 z + R z)); omega
theorem fe_un {e : Expr} {a : Rho → RX D} {f : D → Option D} {r : V → Hp → VK → Prop} (hf : Does1 X cl f r) (h : PE X e (tUn r (tX X.K cl W (rD X.K cl) a))) : FE X cl W e (eUn f a) := PE_imp h fun σ H Q q => by
  obtain ⟨G, F, ρ, A, R, st, en, p⟩ := q
  refine ⟨G, F, ρ, A, R, st, en, Pst.bind p fun x ρ1 v1 F1 H1 A1 B1 e1 o1 p1 => ?_⟩
  cases hd : f x with
  | none => rw [hd] at p1; exact p1.elim
  | some d =>
    rw [hd] at p1
    refine hf x d hd G F1 H1 (fun z => A1 z + R z) B1 v1 Q (e1.st.less fun z => ?_) o1 (Pst.does p1 (e1.st.less fun z => ?_) e1.en)
    · show B1 z + (A1 z + R z) ≤ A1 z + (B1 z + R z); omega
    · show A1 z + R z ≤ A1 z + (B1 z + R z); omega
theorem fe_fn {e : Expr} {a : Rho → RX (List D)} {f : List D → Option D} {r : List V → Hp → VK → Prop} (hf : DoesL X cl f r) (h : PE X e (tCB r (tX X.K cl W (rL X.K cl) a))) : FE X cl W e (eFn f a) := PE_imp h fun σ H Q q => by
  obtain ⟨G, F, ρ, A, R, st, en, p⟩ := q
  refine ⟨G, F, ρ, A, R, st, en, Pst.bind p fun x ρ1 v1 F1 H1 A1 B1 e1 o1 p1 => ?_⟩
  cases hd : f x with
  | none => rw [hd] at p1; exact p1.elim
  | some d =>
    rw [hd] at p1
    refine hf x d hd G F1 H1 (fun z => A1 z + R z) B1 v1 Q (e1.st.less fun z => ?_) o1 (Pst.does p1 (e1.st.less fun z => ?_) e1.en)
    · show B1 z + (A1 z + R z) ≤ A1 z + (B1 z + R z); omega
    · show A1 z + R z ≤ A1 z + (B1 z + R z); omega

/-! ### lists of expressions, displays -/
theorem fa_nil : FA X cl W [] aNil := PA_imp pa_nil fun σ H Q q => by
  obtain ⟨G, F, ρ, A, R, st, en, p⟩ := q
  exact p [] F H A zf (Ev.self st en) rfl
theorem fa_cons {e : Expr} {es : List Expr} {a : Rho → RX D} {b : Rho → RX (List D)} (ha : FE X cl W e a) (hb : FA X cl W es b)
    (hs : starEach (e :: es) X.env = (false, eval e X.env) :: starEach es X.env := by rfl) : FA X cl W (e :: es) (aCons a b) := PA_imp (pa_cons ha hb hs) fun σ H Q q => by
  obtain ⟨G, F, ρ, A, R, st, en, p⟩ := q
  refine ⟨G, F, ρ, A, R, st, en, Pst.bind p fun x ρ1 v1 F1 H1 A1 B1 e1 o1 p1 => ?_⟩
  refine tX.run e1 (Pst.bindC p1 fun y ρ2 v2 F2 H2 A2 B2 e2 o2 p2 => ?_)
  exact Pst.okB (B := fun z => B1 z + B2 z) p2 (e2.st.less fun z => by show A2 z + (B1 z + B2 z + R z) ≤ A2 z + (B2 z + (B1 z + R z)); omega) e2.en ⟨v1, v2, B1, B2, rfl, e2.keep o1, o2, fun _ => Nat.le_refl _⟩

/-- a new object is laid: frozen, or owned -/
theorem lay_frozen {p : Addr} {o : HO} {S : Fp} (st : Sta G F H S) (np : H p = none) : Le F (upd F p o) ∧ Sta G (upd F p o) (upd H p o) S := by
  have le : Le F (upd F p o) := fun a u e => by rw [upd_ne (ne_of_none (st.sub a u e) np)]; exact e
  refine ⟨le, fun a u e => ?_, fun a u e => ?_, fun a u e => le a u (st.low a u e), fun a u e => ?_, fun a ha => ?_, st.nd⟩
  · by_cases h : a = p
    · subst h; rw [upd_same] at e ⊢; exact e
    · rw [upd_ne h] at e ⊢; exact st.sub a u e
  · rw [upd_ne (ne_of_none (st.ent a u e) np)]; exact st.ent a u e
  · by_cases h : a = p
    · subst h
      right
      cases q : G.E a with
      | none => rfl
      | some w => rw [st.ent a w q] at np; cases np
    · rw [upd_ne h] at e; exact st.fr a u e
  · obtain ⟨h1, h2, u, h3⟩ := st.own a ha
    have ne : a ≠ p := ne_of_none h3 np
    exact ⟨by rw [upd_ne ne]; exact h1, h2, u, by rw [upd_ne ne]; exact h3⟩
theorem lay_owned {p : Addr} {o : HO} {S : Fp} (st : Sta G F H S) (np : H p = none) : F p = none ∧ S p = 0 ∧ Sta G F (upd H p o) (fun z => one p z + S z) := by
  have fp : F p = none := by
    cases q : F p with
    | none => rfl
    | some w => rw [st.sub p w q] at np; cases np
  have sp : S p = 0 := by
    cases q : S p with
    | zero => rfl
    | succ n =>
      obtain ⟨_, _, u, h3⟩ := st.own p (by omega)
      rw [h3] at np; cases np
  refine ⟨fp, sp, fun a u e => ?_, fun a u e => ?_, st.low, st.fr, fun a ha => ?_, fun a => ?_⟩
  · rw [upd_ne (ne_of_none (st.sub a u e) np)]; exact st.sub a u e
  · rw [upd_ne (ne_of_none (st.ent a u e) np)]; exact st.ent a u e
  · by_cases h : a = p
    · subst h
      refine ⟨fp, ?_, o, upd_same⟩
      cases q : G.E a with
      | none => rfl
      | some w => rw [st.ent a w q] at np; cases np
    · have ha' : 0 < one p a + S a := ha
      unfold one at ha'
      rw [if_neg h] at ha'
      obtain ⟨h1, h2, u, h3⟩ := st.own a (by omega)
      exact ⟨h1, h2, u, by rw [upd_ne h]; exact h3⟩
  · show one p a + S a ≤ 1
    unfold one
    split
    · rename_i h; subst h; omega
    · have := st.nd a; omega
/-- owned things are where they were behind a new object -/
theorem Owns.laid {S B : Fp} {p : Addr} {o : HO} {ds : List D} {vs : List V} (w : Owns K cl F H ds vs B) (st : Sta G F H (fun z => B z + S z)) (np : H p = none) (le : Le F F') (hF : ∀ a, 0 < B a → F' a = none) : Owns K cl F' (upd H p o) ds vs B :=
  w.mono le (fun a ha => by
    obtain ⟨_, _, u, h3⟩ := st.own a (by show 0 < B a + S a; omega)
    exact ⟨upd_ne (ne_of_none h3 np), hF a ha⟩) fun _ => Nat.le_refl _
theorem cap_line {n : Nat} (h : cap n = true) : n < sizeLine := by
  have e : sizeLine = 16777216 := sizeLine_eq
  have := of_yes h
  omega
theorem fe_tup {es : List Expr} {x1 pos} {a : Rho → RX (List D)} (h : FA X cl W es a) : FE X cl W (.Tuple es x1 pos) (eTup a) := PE_imp (pe_tup h) fun σ H Q q => by
  obtain ⟨G, F, ρ, A, R, st, en, p⟩ := q
  refine ⟨G, F, ρ, A, R, st, en, Pst.bind p fun x ρ1 v1 F1 H1 A1 B1 e1 o1 p1 => ?_⟩
  have hl : x.length = v1.length := Owns.length o1
  by_cases hc : cap x.length = true
  · rw [if_pos hc] at p1
    refine ⟨by rw [← hl]; exact Nat.le_of_lt (cap_line hc), fun q nq => ?_⟩
    have st1 : Sta G F1 H1 (fun z => B1 z + (A1 z + R z)) := e1.st.less fun z => by show B1 z + (A1 z + R z) ≤ A1 z + (B1 z + R z); omega
    obtain ⟨le, st2⟩ := lay_frozen (o := .tup v1) st1 nq
    refine Pst.does p1 (e1.st.less fun z => ?_) e1.en (.ref q) _ _ B1 le (fun a ha => ?_) st2 ⟨q, v1, rfl, SqT.of upd_same, o1.laid st1 nq le fun a ha => (st2.own a (by show 0 < B1 a + _; omega)).1⟩
    · show A1 z + R z ≤ A1 z + (B1 z + R z); omega
    · obtain ⟨_, _, u, h3⟩ := st1.own a (by show 0 < B1 a + (A1 a + R a); omega)
      exact upd_ne (ne_of_none h3 nq)
  · rw [if_neg hc] at p1; exact p1.elim
theorem fe_lst {es : List Expr} {pos} {a : Rho → RX (List D)} (h : FA X cl W es a) : FE X cl W (.List es pos) (eLst a) := PE_imp (pe_lst h) fun σ H Q q => by
  obtain ⟨G, F, ρ, A, R, st, en, p⟩ := q
  refine ⟨G, F, ρ, A, R, st, en, Pst.bind p fun x ρ1 v1 F1 H1 A1 B1 e1 o1 p1 => ?_⟩
  have hl : x.length = v1.length := Owns.length o1
  by_cases hc : cap x.length = true
  · rw [if_pos hc] at p1
    refine ⟨by rw [← hl]; exact Nat.le_of_lt (cap_line hc), fun q nq => ?_⟩
    have st1 : Sta G F1 H1 (fun z => B1 z + (A1 z + R z)) := e1.st.less fun z => by show B1 z + (A1 z + R z) ≤ A1 z + (B1 z + R z); omega
    obtain ⟨fq, sq, st2⟩ := lay_owned (o := .lst v1) st1 nq
    refine Pst.does p1 (e1.st.less fun z => ?_) e1.en (.ref q) _ _ (fun z => one q z + B1 z) Le.refl (fun a ha => ?_) (st2.less fun z => ?_) ⟨q, v1, B1, rfl, fq, upd_same, o1.laid st1 nq Le.refl (fun a ha => (st1.own a (by show 0 < B1 a + _; omega)).1), fun _ => Nat.le_refl _⟩
    · show A1 z + R z ≤ A1 z + (B1 z + R z); omega
    · obtain ⟨_, _, u, h3⟩ := st1.own a (by show 0 < B1 a + (A1 a + R a); omega)
      exact upd_ne (ne_of_none h3 nq)
    · show one q z + B1 z + (A1 z + R z) ≤ one q z + (B1 z + (A1 z + R z)); omega
  · rw [if_neg hc] at p1; exact p1.elim
end
end FL

set_option Elab.async false
set_option linter.all false
set_option maxRecDepth 100000
namespace FL
open PySem L2

section
variable {X : Cx} {cl : Nat → Cl} {W : WX'} {K : PySem.W.Frag}
variable {G : Gh} {F H F' H' : Hp} {R B A A' : Fp} {σ : St} {ρ ρ' : Rho} {pos : Pos}

/-! ### tests -/
theorem ft_val {e : Expr} {a : Rho → RX D} (h : FE X cl W e a) (he : ∀ whole, isTrue e X.env whole = (do let v ← whole; standAt e.pos; holding [v] (truthy v)) := by intro _; rfl) : FT X cl W e (tB1 a) := PT_imp (pt_val h he) fun σ H Q q => by
  obtain ⟨G, F, ρ, A, R, st, en, p⟩ := q
  refine ⟨G, F, ρ, A, R, st, en, Pst.bind p fun x ρ1 v1 F1 H1 A1 B1 e1 o1 p1 => ?_⟩
  cases x with
  | bl b => exact ⟨b, o1, Pst.ok p1 e1 rfl⟩
  | _ => exact p1.elim
theorem ft_cmp {e : Expr} {a : Rho → RX D} {t : TE} (h : PT X e (tTest t)) (ht : ∀ σ H Q, tX X.K cl W (rD X.K cl) a σ H Q → t σ H Q) : FT X cl W e (tB1 a) := PT_imp h fun σ H Q q => by
  obtain ⟨G, F, ρ, A, R, st, en, p⟩ := q
  refine ht σ H _ ⟨G, F, ρ, A, R, st, en, Pst.bind p fun x ρ1 v1 F1 H1 A1 B1 e1 o1 p1 => ?_⟩
  cases x with
  | bl b => exact ⟨b, o1, Pst.ok p1 e1 rfl⟩
  | _ => exact p1.elim
abbrev FW (X : Cx) (cl : Nat → Cl) (W : WX') (e : Expr) (m : Rho → RX Bool) : Prop := PW X e (tX X.K cl W rB m)
theorem PW_imp {X : Cx} {e : Expr} {t t' : TT} (h : PW X e t) (i : ∀ σ H Q, t' σ H Q → t σ H Q) : PW X e t' := ⟨fun w pins s σ H Q I q => h.run w pins s σ H Q I (i σ H Q q)⟩
theorem fw_and1 {a : Expr} {m : Rho → RX Bool} (h : FT X cl W a m) : FW X cl W (.BoolOp .And [a] pos) m := pw_and1 h
theorem fw_or1 {a : Expr} {m : Rho → RX Bool} (h : FT X cl W a m) : FW X cl W (.BoolOp .Or [a] pos) m := pw_or1 h
theorem fw_and {a b : Expr} {rest : List Expr} {m n : Rho → RX Bool} (ha : FT X cl W a m) (hb : FW X cl W (.BoolOp .And (b :: rest) pos) n) : FW X cl W (.BoolOp .And (a :: b :: rest) pos) (tAnd m n) := PW_imp (pw_and ha hb) fun σ H Q q => by
  obtain ⟨G, F, ρ, A, R, st, en, p⟩ := q
  refine ⟨G, F, ρ, A, R, st, en, Pst.bind p fun x ρ1 v1 F1 H1 A1 B1 e1 o1 p1 => ?_⟩
  have o1' : x = v1 := o1
  subst o1'
  cases x with
  | true => exact tX.run0 e1 p1
  | false => exact Pst.ok p1 e1 rfl
theorem fw_or {a b : Expr} {rest : List Expr} {m n : Rho → RX Bool} (ha : FT X cl W a m) (hb : FW X cl W (.BoolOp .Or (b :: rest) pos) n) : FW X cl W (.BoolOp .Or (a :: b :: rest) pos) (tOr m n) := PW_imp (pw_or ha hb) fun σ H Q q => by
  obtain ⟨G, F, ρ, A, R, st, en, p⟩ := q
  refine ⟨G, F, ρ, A, R, st, en, Pst.bind p fun x ρ1 v1 F1 H1 A1 B1 e1 o1 p1 => ?_⟩
  have o1' : x = v1 := o1
  subst o1'
  cases x with
  | true => exact Pst.ok p1 e1 rfl
  | false => exact tX.run0 e1 p1
theorem ft_not {a : Expr} {m : Rho → RX Bool} (h : FT X cl W a m) : FT X cl W (.UnaryOp .Not a pos) (tNot m) := PT_imp (pt_not h) fun σ H Q q => by
  obtain ⟨G, F, ρ, A, R, st, en, p⟩ := q
  refine ⟨G, F, ρ, A, R, st, en, Pst.bind p fun x ρ1 v1 F1 H1 A1 B1 e1 o1 p1 => ?_⟩
  have o1' : x = v1 := o1
  subst o1'
  exact Pst.ok p1 e1 rfl
theorem fe_and {a b : Expr} {rest : List Expr} {m n : Rho → RX D} (ha : FE X cl W a m) (hb : FE X cl W (.BoolOp .And (b :: rest) pos) n) : FE X cl W (.BoolOp .And (a :: b :: rest) pos) (eAnd m n) := PE_imp (pe_and ha hb) fun σ H Q q => by
  obtain ⟨G, F, ρ, A, R, st, en, p⟩ := q
  refine ⟨G, F, ρ, A, R, st, en, Pst.bind p fun x ρ1 v1 F1 H1 A1 B1 e1 o1 p1 => ?_⟩
  cases x with
  | bl b =>
    refine ⟨b, o1, ?_⟩
    cases b with
    | true => exact tX.run0 e1 p1
    | false => exact Pst.ok p1 e1 rfl
  | _ => exact p1.elim
theorem fe_or {a b : Expr} {rest : List Expr} {m n : Rho → RX D} (ha : FE X cl W a m) (hb : FE X cl W (.BoolOp .Or (b :: rest) pos) n) : FE X cl W (.BoolOp .Or (a :: b :: rest) pos) (eOr m n) := PE_imp (pe_or ha hb) fun σ H Q q => by
  obtain ⟨G, F, ρ, A, R, st, en, p⟩ := q
  refine ⟨G, F, ρ, A, R, st, en, Pst.bind p fun x ρ1 v1 F1 H1 A1 B1 e1 o1 p1 => ?_⟩
  cases x with
  | bl b =>
    refine ⟨b, o1, ?_⟩
    cases b with
    | true => exact Pst.ok p1 e1 rfl
    | false => exact tX.run0 e1 p1
  | _ => exact p1.elim
theorem fe_not {a : Expr} {m : Rho → RX D} (h : FE X cl W a m) : FE X cl W (.UnaryOp .Not a pos) (eNot m) := PE_imp (pe_not h) fun σ H Q q => by
  obtain ⟨G, F, ρ, A, R, st, en, p⟩ := q
  refine ⟨G, F, ρ, A, R, st, en, Pst.bind p fun x ρ1 v1 F1 H1 A1 B1 e1 o1 p1 => ?_⟩
  cases x with
  | bl b => exact ⟨b, o1, Pst.ok p1 e1 rfl⟩
  | _ => exact p1.elim
theorem fe_one {op} {a : Expr} {m : Rho → RX D} (h : FE X cl W a m) : FE X cl W (.BoolOp op [a] pos) m := pe_one h
theorem fe_if {c a b : Expr} {t : Rho → RX Bool} {m n : Rho → RX D} (hc : FT X cl W c t) (ha : FE X cl W a m) (hb : FE X cl W b n) : FE X cl W (.IfExp c a b pos) (eIf t m n) := PE_imp (pe_ifExp hc ha hb) fun σ H Q q => by
  obtain ⟨G, F, ρ, A, R, st, en, p⟩ := q
  refine ⟨G, F, ρ, A, R, st, en, Pst.bind p fun x ρ1 v1 F1 H1 A1 B1 e1 o1 p1 => ?_⟩
  have o1' : x = v1 := o1
  subst o1'
  cases x with
  | true => exact tX.run0 e1 p1
  | false => exact tX.run0 e1 p1

/-- a op b op' c -/
def eChain (f g : D → D → Option D) (a b c : Rho → RX D) : Rho → RX D := fun ρ => (a ρ).bind fun x ρ1 => (b ρ1).bind fun y ρ2 =>
  if y.pure then (match f x y with | some (.bl true) => (c ρ2).bind fun z ρ3 => opt (g y z) ρ3 | some (.bl false) => .ok (.bl false) ρ2 | _ => .bad) else .bad
theorem chain_imp {f g : D → D → Option D} {r r' : R2} {a b c : Rho → RX D} (hf : Does2 X cl f r) (hg : Does2 X cl g r') {σ : St} {H : Hp} {Q : VK} (q : tX X.K cl W (rD X.K cl) (eChain f g a b c) σ H Q) :
    tChain r r' (tX X.K cl W (rD X.K cl) a) (tX X.K cl W (rD X.K cl) b) (tX X.K cl W (rD X.K cl) c) σ H Q := by
  obtain ⟨G, F, ρ, A, R, st, en, p⟩ := q
  refine ⟨G, F, ρ, A, R, st, en, Pst.bind p fun x ρ1 v1 F1 H1 A1 B1 e1 o1 p1 => ?_⟩
  refine tX.run e1 (Pst.bindC p1 fun y ρ2 v2 F2 H2 A2 B2 e2 o2 p2 => ?_)
  by_cases hp : y.pure = true
  · rw [if_pos hp] at p2
    have o2' : Own X.K cl F2 H2 y v2 zf := o2.of_pure hp
    cases hd : f x y with
    | none => rw [hd] at p2; exact p2.elim
    | some d =>
      rw [hd] at p2
      cases d with
      | bl k =>
        refine hf x y _ hd G F2 H2 (fun z => A2 z + R z) B2 B1 v1 v2 _ (e2.st.less fun z => ?_) (e2.keep o1) o2 fun v F' H' B' le ag st' o => ?_
        · show B2 z + (B1 z + (A2 z + R z)) ≤ A2 z + (B2 z + (B1 z + R z)); omega
        · refine ⟨k, o, ?_⟩
          have e3 : Ev X.K cl G F2 H2 R F' H' σ ρ2 A2 B' := ⟨le, fun a ha => ag a (by show 0 < A2 a + R a; omega), st'.less fun z => by show A2 z + (B' z + R z) ≤ B' z + (A2 z + R z); omega,
            e2.en.mono le (fun a ha => ⟨ag a (by show 0 < A2 a + R a; omega), (st'.own a (by show 0 < B' a + (A2 a + R a); omega)).1⟩) fun _ => Nat.le_refl _⟩
          cases k with
          | true =>
            have p3 : Pst X.K cl W (rD X.K cl) G F2 H2 σ R ((c ρ2).bind fun z ρ3 => opt (g y z) ρ3) Q := p2
            refine tX.run0 e3 (Pst.bind (Pst.next p3 e3) fun z ρ3 v3 F3 H3 A3 B3 e4 o3 p4 => ?_)
            cases hd2 : g y z with
            | none => rw [hd2] at p4; exact p4.elim
            | some d =>
              rw [hd2] at p4
              refine hg y z d hd2 G F3 H3 (fun z => A3 z + R z) B3 zf v2 v3 Q (e4.st.less fun z => ?_) ((o2'.mono (e3.le.trans e4.le) (fun a ha => absurd ha (Nat.lt_irrefl _)) fun _ => Nat.le_refl _)) o3 (Pst.does p4 (e4.st.less fun z => ?_) e4.en)
              · show B3 z + (zf z + (A3 z + R z)) ≤ A3 z + (B3 z + R z); unfold zf; omega
              · show A3 z + R z ≤ A3 z + (B3 z + R z); omega
          | false => exact Pst.ok (K := X.K) (cl := cl) (W := W) (rep := rD X.K cl) (a := .bl false) (v := .bl false) (Q := Q) (Pst.next p2 e3) (e3.lessB (B' := zf) fun _ => Nat.zero_le _) rfl
      | _ => exact p2.elim
  · rw [if_neg hp] at p2; exact p2.elim

/-! ### statements -/
def sNx : Rho → RS := fun ρ => .nx ρ
def sSeq (a b : Rho → RS) : Rho → RS := fun ρ => (a ρ).seq b
def sIf (t : Rho → RX Bool) (a b : Rho → RS) : Rho → RS := fun ρ => (t ρ).stmt fun x ρ1 => if x then a ρ1 else b ρ1
def sRet (a : Rho → RX D) : Rho → RS := fun ρ => (a ρ).stmt fun d _ => .rt d
def sSet (i : Nat) (a : Rho → RX D) : Rho → RS := fun ρ => (a ρ).stmt fun d ρ1 => .nx (ρ1.set i (some d))
def sEx (a : Rho → RX D) : Rho → RS := fun ρ => (a ρ).stmt fun _ ρ1 => .nx ρ1
def sBk : Rho → RS := fun ρ => .bk ρ
def sCt : Rho → RS := fun ρ => .ct ρ
/-- the slots of l are forgotten -/
def fgt : List Nat → Rho → Rho
  | [], ρ => ρ
  | v :: vs, ρ => (fgt vs ρ).set v none
def RS.fgt (l : List Nat) (r : RS) : RS :=
  match r with
  | .nx ρ => .nx (FL.fgt l ρ)
  | .bk ρ => .bk (FL.fgt l ρ)
  | .ct ρ => .ct (FL.fgt l ρ)
  | r => r
def sFgt (l : List Nat) (a : Rho → RS) : Rho → RS := fun ρ => (a ρ).fgt l
theorem EnvR.fgt {K : PySem.W.Frag} {cl : Nat → Cl} {F H : Hp} {σ : St} {A : Fp} : ∀ (l : List Nat) {ρ : Rho}, EnvR K cl F H ρ σ A → EnvR K cl F H (FL.fgt l ρ) σ A
  | [], _, h => h
  | i :: l, _, h => (EnvR.fgt l h).drop i

theorem SPst.nx {E : Ends} (p : SPst K cl W G F' H' R (.nx ρ') E) (e : Ev K cl G F H R F' H' σ ρ' A' B) : E.nx σ H' :=
  p σ F' H' A' (Ev.self (e.st.less fun x => by show A' x + R x ≤ A' x + (B x + R x); omega) e.en)
theorem fss_nil : FSs X cl W [] sNx := PSs_imp pss_nil fun D σ H q => by
  obtain ⟨G, F, ρ, A, R, st, en, p⟩ := q
  exact p σ F H A (Ev.self st en)
theorem SPst.seq {r : RS} {k : Rho → RS} {E : Ends} {N : St → Hp → Prop} (h : SPst K cl W G F H R (r.seq k) E)
    (hk : ∀ ρ' σ F' H' A', Ev K cl G F H R F' H' σ ρ' A' zf → SPst K cl W G F' H' R (k ρ') E → N σ H') : SPst K cl W G F H R r { E with nx := N } := by
  cases r with
  | nx ρ => exact fun s F2 H2 A2 e2 => hk ρ s F2 H2 A2 e2 (SPst.next (r := k ρ) h e2)
  | bk ρ => exact h
  | ct ρ => exact h
  | rt d => exact h
  | ex c ds ρ => exact h
  | bad => exact h
theorem fss_cons {s : Stmt} {ss : List Stmt} {m n : Rho → RS} (h1 : FS X cl W s m) (h2 : FSs X cl W ss n) : FSs X cl W (s :: ss) (sSeq m n) := PSs_imp (pss_cons h1 h2) fun D σ H q => by
  obtain ⟨G, F, ρ, A, R, st, en, p⟩ := q
  exact ⟨G, F, ρ, A, R, st, en, SPst.seq p fun ρ' σ' F' H' A' e1 p1 => tS.run0 e1 p1⟩
theorem fss_one {s : Stmt} {m : Rho → RS} (h1 : FS X cl W s m) : FSs X cl W [s] m := pss_one h1
theorem fs_pass : FS X cl W (.Pass pos) sNx := PS_imp ps_pass fun D σ H q => by
  obtain ⟨G, F, ρ, A, R, st, en, p⟩ := q
  exact p σ F H A (Ev.self st en)
theorem fs_break : FS X cl W (.Break pos) sBk := PS_imp ps_break fun D σ H q => by
  obtain ⟨G, F, ρ, A, R, st, en, p⟩ := q
  exact p σ F H A (Ev.self st en)
theorem fs_continue : FS X cl W (.Continue pos) sCt := PS_imp ps_continue fun D σ H q => by
  obtain ⟨G, F, ρ, A, R, st, en, p⟩ := q
  exact p σ F H A (Ev.self st en)
theorem fs_if {c : Expr} {a b : List Stmt} {t : Rho → RX Bool} {m n : Rho → RS} (hc : FT X cl W c t) (ha : FSs X cl W a m) (hb : FSs X cl W b n) : FS X cl W (.If c a b pos) (sIf t m n) := PS_imp (ps_if hc ha hb) fun D σ H q => by
  obtain ⟨G, F, ρ, A, R, st, en, p⟩ := q
  refine ⟨G, F, ρ, A, R, st, en, Pst.stmt p fun x ρ1 v1 F1 H1 A1 B1 e1 o1 p1 => ?_⟩
  have o1' : x = v1 := o1
  subst o1'
  cases x with
  | true => exact tS.run0 e1 p1
  | false => exact tS.run0 e1 p1
theorem fs_ret {e : Expr} {m : Rho → RX D} (h : FE X cl W e m) : FS X cl W (.Return (some e) pos) (sRet m) := PS_imp (ps_ret h) fun D σ H q => by
  obtain ⟨G, F, ρ, A, R, st, en, p⟩ := q
  refine ⟨G, F, ρ, A, R, st, en, Pst.stmt p fun x ρ1 v1 F1 H1 A1 B1 e1 o1 p1 => ?_⟩
  exact p1 v1 F1 H1 B1 ⟨Le.refl, fun _ _ => rfl, e1.st.less fun z => by show zf z + (B1 z + R z) ≤ A1 z + (B1 z + R z); unfold zf; omega, rfl⟩ o1
theorem fs_retN : FS X cl W (.Return none pos) (sRet (eC .non)) := PS_imp ps_retN fun D σ H q => by
  obtain ⟨G, F, ρ, A, R, st, en, p⟩ := q
  exact p .non F H zf ⟨Le.refl, fun _ _ => rfl, st.less fun z => by show zf z + (zf z + R z) ≤ A z + R z; unfold zf; omega, rfl⟩ rfl
theorem fs_expr {e : Expr} {m : Rho → RX D} (h : FE X cl W e m) (hs : swapsWith e none pos.line X.env = pure false := by rfl) : FS X cl W (.Expr e pos) (sEx m) := PS_imp (ps_expr h hs) fun D σ H q => by
  obtain ⟨G, F, ρ, A, R, st, en, p⟩ := q
  exact ⟨G, F, ρ, A, R, st, en, Pst.stmt p fun x ρ1 v1 F1 H1 A1 B1 e1 o1 p1 => SPst.nx p1 e1⟩
theorem Ev.put {d : D} {v : V} (e : Ev K cl G F H R F' H' σ ρ A' B) (o : Own K cl F' H' d v B) (i : Nat) : Ev K cl G F H R F' H' (σ.set i (some v)) (ρ.set i (some d)) (fun x => B x + A' x) zf :=
  ⟨e.le, e.ag, e.st.less fun x => by show B x + A' x + (zf x + R x) ≤ A' x + (B x + R x); unfold zf; omega, e.en.put o⟩
theorem set_imp {te : TE} {m : Rho → RX D} {i : Nat} (ht : ∀ σ H Q, tX X.K cl W (rD X.K cl) m σ H Q → te σ H Q) (D : Ends) (σ : St) (H : Hp) (q : tS X.K cl W (sSet i m) D σ H) : tAsg te (gName i) D σ H := by
  obtain ⟨G, F, ρ, A, R, st, en, p⟩ := q
  refine ht _ _ _ ⟨G, F, ρ, A, R, st, en, Pst.stmt p fun x ρ1 v1 F1 H1 A1 B1 e1 o1 p1 => ?_⟩
  have e2 := e1.put o1 i
  exact p1 _ F1 H1 _ ⟨Le.refl, fun _ _ => rfl, e2.st, e2.en⟩
theorem fs_set {i : Nat} {x : Str} {e : Expr} {m : Rho → RX D} {pos' : Pos} (hN : X.N.Nodup) (hi : X.N[i]? = some x) (hx : Loc X.env.scope x) (he : FE X cl W e m) (hs : swapsWith e (some (.Name x pos')) pos.line X.env = pure false := by rfl)
    (hf : X.fn x = true ∨ X.env.scope.names.lookup x = some .local := by first | exact .inl rfl | exact .inr rfl | assumption) : FS X cl W (.Assign [.Name x pos'] e pos) (sSet i m) :=
  PS_imp (ps_set hN hi hx he hs hf) (set_imp fun _ _ _ q => q)
theorem fs_fgt {s : Stmt} {m : Rho → RS} (l : List Nat) (h : FS X cl W s m) : FS X cl W s (sFgt l m) := PS_imp h fun D σ H q => by
  obtain ⟨G, F, ρ, A, R, st, en, p⟩ := q
  refine ⟨G, F, ρ, A, R, st, en, ?_⟩
  unfold sFgt at p
  cases hm : m ρ with
  | nx ρ1 => rw [hm] at p; exact fun s F2 H2 A2 e2 => p s F2 H2 A2 ⟨e2.le, e2.ag, e2.st, e2.en.fgt l⟩
  | bk ρ1 => rw [hm] at p; exact fun s F2 H2 A2 e2 => p s F2 H2 A2 ⟨e2.le, e2.ag, e2.st, e2.en.fgt l⟩
  | ct ρ1 => rw [hm] at p; exact fun s F2 H2 A2 e2 => p s F2 H2 A2 ⟨e2.le, e2.ag, e2.st, e2.en.fgt l⟩
  | rt d => rw [hm] at p; exact p
  | ex c ds ρ1 => rw [hm] at p; exact p
  | bad => rw [hm] at p; exact p
theorem fss_fgt {s : List Stmt} {m : Rho → RS} (l : List Nat) (h : FSs X cl W s m) : FSs X cl W s (sFgt l m) := PSs_imp h fun D σ H q => by
  obtain ⟨G, F, ρ, A, R, st, en, p⟩ := q
  refine ⟨G, F, ρ, A, R, st, en, ?_⟩
  unfold sFgt at p
  cases hm : m ρ with
  | nx ρ1 => rw [hm] at p; exact fun s F2 H2 A2 e2 => p s F2 H2 A2 ⟨e2.le, e2.ag, e2.st, e2.en.fgt l⟩
  | bk ρ1 => rw [hm] at p; exact fun s F2 H2 A2 e2 => p s F2 H2 A2 ⟨e2.le, e2.ag, e2.st, e2.en.fgt l⟩
  | ct ρ1 => rw [hm] at p; exact fun s F2 H2 A2 e2 => p s F2 H2 A2 ⟨e2.le, e2.ag, e2.st, e2.en.fgt l⟩
  | rt d => rw [hm] at p; exact p
  | ex c ds ρ1 => rw [hm] at p; exact p
  | bad => rw [hm] at p; exact p
end
end FL

set_option Elab.async false
set_option linter.all false
set_option maxRecDepth 100000
namespace FL
open PySem L2

/-! ### loops -/
def loop (g : D → Rho → Option Rho) (b : Rho → RS) : List D → Rho → RS
  | [], ρ => .nx ρ
  | d :: ds, ρ =>
    match g d ρ with
    | none => .bad
    | some ρ1 =>
      match b ρ1 with
      | .nx ρ2 => loop g b ds ρ2
      | .ct ρ2 => loop g b ds ρ2
      | .bk ρ2 => .nx ρ2
      | .rt d => .rt d
      | .ex c xs ρ2 => .ex c xs ρ2
      | .bad => .bad
def sFor (it : Rho → RX (List D)) (g : D → Rho → Option Rho) (b : Rho → RS) : Rho → RS := fun ρ => (it ρ).stmt fun ds ρ1 => loop g b ds ρ1
def gN (i : Nat) : D → Rho → Option Rho := fun d ρ => some (ρ.set i (some d))

/-- the iterator J yields ds -/
def ItOk (K : PySem.W.Frag) (cl : Nat → Cl) (F : Hp) (J : It) (ds : List D) : Prop :=
  ∀ (G : Gh) (F1 H : Hp) (S : Fp), Le F F1 → Sta G F1 H S →
    (∀ (i : Nat) (d : D), ds[i]? = some d → J.go i H ∧ ∀ x H', J.yld i H x H' → ∃ F2, Le F1 F2 ∧ (∀ a, 0 < S a → H' a = H a) ∧ Sta G F2 H' S ∧ Own K cl F2 H' d x zf) ∧ J.stop ds.length H
def rIt (K : PySem.W.Frag) (cl : Nat → Cl) : Hp → Hp → List D → It → Fp → Prop := fun F _ ds J _ => ItOk K cl F J ds
abbrev FI (X : Cx) (cl : Nat → Cl) (W : WX') (tg e : Expr) (m : Rho → RX (List D)) : Prop := PI X tg e (tX X.K cl W (rIt X.K cl) m)
/-- a target: its slots are vs -/
def tG (K : PySem.W.Frag) (cl : Nat → Cl) (vs : List Nat) (m : D → Rho → Option Rho) : TG := fun v σ H Q =>
  ∃ G F ρ A B R d, Sta G F H (fun x => A x + (B x + R x)) ∧ EnvR K cl F H ρ σ A ∧ Own K cl F H d v B ∧
    match m d ρ with
    | some ρ1 => ∀ σ' F' H' A', wipe σ' vs = wipe σ vs → Ev K cl G F H R F' H' σ' ρ1 A' zf → Q σ' H'
    | none => False
abbrev FG (X : Cx) (cl : Nat → Cl) (tg : Expr) (vs : List Nat) (m : D → Rho → Option Rho) : Prop := PG X tg (tG X.K cl vs m)

section
variable {X : Cx} {cl : Nat → Cl} {W : WX'} {K : PySem.W.Frag}
variable {G : Gh} {F H F' H' : Hp} {R B A A' : Fp} {σ : St} {ρ ρ' : Rho} {pos : Pos}

theorem PG_imp {X : Cx} {e : Expr} {t t' : TG} (h : PG X e t) (i : ∀ v σ H Q, t' v σ H Q → t v σ H Q) : PG X e t' := ⟨fun pins s σ H v u Q I r q => h.run pins s σ H v u Q I r (i v σ H Q q)⟩
theorem wipe_set1 (σ : St) (i : Nat) (o : Option V) : wipe (σ.set i o) [i] = wipe σ [i] := by
  show (σ.set i o).set i none = σ.set i none
  rw [List.set_set]
theorem fg_name {i : Nat} {x : Str} (hN : X.N.Nodup) (hi : X.N[i]? = some x) (hx : Loc X.env.scope x) (hf : X.fn x = true ∨ X.env.scope.names.lookup x = some .local := by first | exact .inl rfl | exact .inr rfl | assumption) : FG X cl (.Name x pos) [i] (gN i) :=
  PG_imp (pg_name hN hi hx hf) fun v σ H Q q => by
    obtain ⟨G, F, ρ, A, B, R, d, st, en, o, q⟩ := q
    exact q (σ.set i (some v)) F H (fun x => B x + A x) (wipe_set1 σ i _) ⟨Le.refl, fun _ _ => rfl, st.less fun x => by show B x + A x + (zf x + R x) ≤ A x + (B x + R x); unfold zf; omega, en.put o⟩

theorem fs_for {tg iter : Expr} {body : List Stmt} {it : Rho → RX (List D)} {g : D → Rho → Option Rho} {b : Rho → RS} {vs : List Nat} (hp : PassesOwn (model X.prog X.w) X.A X.env X.xe) (hc : X.calm = true) (hi : FI X cl W tg iter it) (hg : FG X cl tg vs g) (hb : FSs X cl W body b)
    (hs : ∀ x, foldedSetIterable iter X.env x = pure x := by intro _; rfl) : FS X cl W (.For tg iter body [] pos) (sFor it g b) := PS_imp (ps_for hp hc hi hg hb hs) fun E σ H q => by
  obtain ⟨G, F, ρ, A, R, st, en, p⟩ := q
  refine ⟨G, F, ρ, A, R, st, en, Pst.stmt p fun ds ρ1 J F1 H1 A1 B1 e1 o1 p1 => ?_⟩
  refine ⟨fun i m σ H => m = ds.length - i ∧ i ≤ ds.length ∧ ∃ F ρ A, Le F1 F ∧ Sta G F H (fun x => A x + R x) ∧ EnvR X.K cl F H ρ σ A ∧ SPst X.K cl W G F H R (loop g b (ds.drop i) ρ) E, ⟨ds.length, rfl, Nat.zero_le _, F1, ρ1, A1, Le.refl, e1.st.less fun x => by show A1 x + R x ≤ A1 x + (B1 x + R x); omega, e1.en, p1⟩, ?_⟩
  rintro i m σ2 H2 ⟨rfl, hi2, F2, ρ2, A2, le2, st2, en2, p2⟩
  obtain ⟨go, stop⟩ := o1 G F2 H2 _ le2 st2
  by_cases hlt : i < ds.length
  · refine .inr ?_
    have hd : ds[i]? = some ds[i] := List.getElem?_eq_getElem hlt
    obtain ⟨g1, g2⟩ := go i _ hd
    refine ⟨g1, fun σ' H' => ∃ F ρ A, Le F1 F ∧ Sta G F H' (fun x => A x + R x) ∧ EnvR X.K cl F H' ρ σ' A ∧ SPst X.K cl W G F H' R (loop g b (ds.drop (i + 1)) ρ) E, fun σ' H' n => ⟨ds.length - (i + 1), by omega, rfl, hlt, n⟩, fun x H' y => ?_⟩
    obtain ⟨F3, le3, ag3, st3, o3⟩ := g2 x H' y
    have en3 : EnvR X.K cl F3 H' ρ2 σ2 A2 := en2.mono le3 (fun a ha => ⟨ag3 a (by show 0 < A2 a + R a; omega), (st3.own a (by show 0 < A2 a + R a; omega)).1⟩) fun _ => Nat.le_refl _
    have e3 : Ev X.K cl G F2 H2 R F3 H' σ2 ρ2 A2 zf := ⟨le3, fun a ha => ag3 a (by show 0 < A2 a + R a; omega), st3.less fun x => by show A2 x + (zf x + R x) ≤ A2 x + R x; unfold zf; omega, en3⟩
    have hdrop : ds.drop i = ds[i] :: ds.drop (i + 1) := List.drop_eq_getElem_cons hlt
    rw [hdrop] at p2
    have p3 := SPst.next p2 e3
    refine ⟨G, F3, ρ2, A2, zf, R, ds[i], e3.st, en3, o3, ?_⟩
    unfold loop at p3
    cases hgd : g ds[i] ρ2 with
    | none => rw [hgd] at p3; exact p3.elim
    | some ρ3 =>
      rw [hgd] at p3
      refine fun σ4 F4 H4 A4 hw e4 => tS.run0 e4 ?_
      have p4 := SPst.next p3 e4
      cases hbr : b ρ3 with
      | nx ρ5 =>
        simp only [hbr] at p4
        exact fun σ5 F5 H5 A5 e5 => ⟨F5, ρ5, A5, le2.trans (le3.trans (e4.le.trans e5.le)), e5.st.less fun x => by show A5 x + R x ≤ A5 x + (zf x + R x); omega, e5.en, SPst.next p4 e5⟩
      | ct ρ5 =>
        simp only [hbr] at p4
        exact fun σ5 F5 H5 A5 e5 => ⟨F5, ρ5, A5, le2.trans (le3.trans (e4.le.trans e5.le)), e5.st.less fun x => by show A5 x + R x ≤ A5 x + (zf x + R x); omega, e5.en, SPst.next p4 e5⟩
      | bk ρ5 => simp only [hbr] at p4; exact p4
      | rt d => simp only [hbr] at p4; exact p4
      | ex c xs ρ5 => simp only [hbr] at p4; exact p4
      | bad => simp only [hbr] at p4; exact p4.elim
  · have e : i = ds.length := by omega
    subst e
    refine .inl ⟨stop, ?_⟩
    rw [List.drop_length] at p2
    exact p2 σ2 F2 H2 A2 (Ev.self st2 en2)

/-! ### freezing -/
/-- the frozen part, with B's objects -/
def fz (F H : Hp) (B : Fp) : Hp := fun a => if 0 < B a then H a else F a
theorem fz_st {C : Fp} (st : Sta G F H (fun x => C x + (B x + R x))) : Le F (fz F H B) ∧ Sta G (fz F H B) H (fun x => C x + R x) := by
  have hown : ∀ a, 0 < B a → F a = none ∧ G.E a = none ∧ ∃ o, H a = some o := fun a ha => st.own a (by show 0 < C a + (B a + R a); omega)
  have hnd : ∀ a, C a + (B a + R a) ≤ 1 := st.nd
  refine ⟨fun a o e => ?_, ⟨fun a o e => ?_, st.ent, fun a o e => ?_, fun a o e => ?_, fun a ha => ?_, fun a => by have := hnd a; show C a + R a ≤ 1; omega⟩⟩
  · show (if 0 < B a then H a else F a) = some o
    split
    · rename_i hb; rw [(hown a hb).1] at e; cases e
    · exact e
  · have e' : (if 0 < B a then H a else F a) = some o := e
    split at e'
    · exact e'
    · exact st.sub a o e'
  · show (if 0 < B a then H a else F a) = some o
    split
    · rename_i hb
      have := st.low a o e
      rw [(hown a hb).1] at this; cases this
    · exact st.low a o e
  · have e' : (if 0 < B a then H a else F a) = some o := e
    split at e'
    · rename_i hb; exact .inr (hown a hb).2.1
    · exact st.fr a o e'
  · have ha' : 0 < C a + R a := ha
    have h1 := st.own a (by show 0 < C a + (B a + R a); omega)
    refine ⟨?_, h1.2⟩
    show (if 0 < B a then H a else F a) = none
    rw [if_neg (by have := hnd a; omega)]
    exact h1.1
theorem fz_at {a : Addr} (h : 0 < B a) : fz F H B a = H a := if_pos h

/-- what lies by hand is frozen -/
theorem Ev.fz (e : Ev K cl G F H R F' H' σ ρ' A' B) : Ev K cl G F H R (FL.fz F' H' B) H' σ ρ' A' zf ∧ Le F' (FL.fz F' H' B) := by
  obtain ⟨le, st⟩ := fz_st e.st
  refine ⟨⟨e.le.trans le, e.ag, st.less fun x => by show A' x + (zf x + R x) ≤ A' x + R x; unfold zf; omega, e.en.mono le (fun a ha => ⟨rfl, (st.own a (by show 0 < A' a + R a; omega)).1⟩) fun _ => Nat.le_refl _⟩, le⟩

/-! ### what is walked -/
def iSeq (K : PySem.W.Frag) (tl : TE) : TI := fun σ H R => tl σ H fun x H1 => ∃ a, x = .ref a ∧ (((∃ xs, SqL K H1 a xs) ∧ R (Itl K a) H1) ∨ ((∃ xs, SqT K H1 a xs) ∧ R (Itt K a) H1))
theorem pi_seq {tg l : Expr} {tl : TE} (hl : PE X l tl) : PI X tg l (iSeq X.K tl) := by
  refine ⟨fun pins s σ H R I h => ?_⟩
  refine thn (hl.run pins s σ H _ I h) fun v s1 ⟨x, H1, I1, r1, q1⟩ => ?_
  obtain ⟨a, e, q⟩ := q1
  subst e
  cases r1
  rcases q with ⟨⟨xs, hq⟩, q⟩ | ⟨⟨xs, hq⟩, q⟩
  · obtain ⟨its, rv, p, hz⟩ := I1.list hq
    refine wpAny_pyIter_list p.isList ?_
    refine ⟨s1.heap.objs.size, [s1.heap.objs.size], _, _, H1, rfl, I1.kept (t' := s1.toks) fun b o e => Heap.get?_push_of_some _ e, turn_list a _, ⟨_, Heap.get?_push_size _ rfl, rfl, rfl⟩, fun b hb => ?_, q⟩
    have e : b = s1.heap.objs.size := by simpa using hb
    subst e
    exact I1.fpOk (Nat.le_refl _) (I1.hok.fresh (Nat.le_refl _))
  · obtain ⟨its, rv, p, hz⟩ := I1.tuple hq
    refine wpAny_pyIter_tuple (show s1.heap.IsTuple a its.toArray from p) ?_
    refine ⟨s1.heap.objs.size, [s1.heap.objs.size], _, _, H1, rfl, I1.kept (t' := s1.toks) fun b o e => Heap.get?_push_of_some _ e, turn_tuple a _, ⟨_, Heap.get?_push_size _ rfl, rfl, rfl⟩, fun b hb => ?_, q⟩
    have e : b = s1.heap.objs.size := by simpa using hb
    subst e
    exact I1.fpOk (Nat.le_refl _) (I1.hok.fresh (Nat.le_refl _))
/-- the items of a list or tuple, all frozen -/
def itms : D → Option (List D)
  | .lst ds => some ds
  | .tup ds => some ds
  | _ => none
def optL (o : Option (List D)) (ρ : Rho) : RX (List D) := match o with | some d => .ok d ρ | none => .bad
def iSq (a : Rho → RX D) : Rho → RX (List D) := fun ρ => (a ρ).bind fun d ρ1 => optL (itms d.frz) ρ1
theorem Owns.get {K : PySem.W.Frag} {cl : Nat → Cl} {F H : Hp} : ∀ {ds : List D} {vs : List V} {A : Fp} {i : Nat} {d : D}, Owns K cl F H ds vs A → ds[i]? = some d → ∃ v, vs[i]? = some v ∧ Own K cl F H d v A
  | [], _, _, _, _, _, e => by simp at e
  | d' :: ds, vs, A, 0, d, h, e => by
    obtain ⟨v, r, B, C, es, p, q, s⟩ := h
    have e' : d' = d := by simpa using e
    subst e' es
    exact ⟨v, rfl, p.up fun x => by have := s x; omega⟩
  | d' :: ds, vs, A, i + 1, d, h, e => by
    obtain ⟨v, r, B, C, es, p, q, s⟩ := h
    subst es
    obtain ⟨v', h1, h2⟩ := Owns.get (i := i) q (by simpa using e)
    exact ⟨v', by simpa using h1, h2.up fun x => by have := s x; omega⟩
theorem Owns.snoc {K : PySem.W.Frag} {cl : Nat → Cl} {F H : Hp} : ∀ {ds : List D} {vs : List V} {A B : Fp} {d : D} {v : V}, Owns K cl F H ds vs A → Own K cl F H d v B → Owns K cl F H (ds ++ [d]) (vs ++ [v]) (fun x => A x + B x)
  | [], vs, A, B, d, v, h, o => by
    have e : vs = [] := h
    subst e
    exact ⟨v, [], B, A, rfl, o, rfl, fun x => by show B x + A x ≤ A x + B x; omega⟩
  | d' :: ds, vs, A, B, d, v, h, o => by
    obtain ⟨v', r, B', C', es, p, q, s⟩ := h
    subst es
    exact ⟨v', _, B', fun x => C' x + B x, rfl, p, Owns.snoc q o, fun x => by have := s x; show B' x + (C' x + B x) ≤ A x + B x; omega⟩
theorem sub_sqL {K : PySem.W.Frag} {a : Addr} {xs ys : List V} (le : Le F H) (h : SqL K F a xs) (h' : SqL K H a ys) (inj : SqL K H a xs → SqL K H a ys → xs = ys) : xs = ys := inj (le.sqL h) h'
/-- what stands at an address, as a list, in the abstract heap: one answer (H holds it at most once; what stands in K is not tracked) -/
theorem zero_own {d : D} {v : V} (o : Own K cl F H d v zf) (le : Le F F') : Own K cl F' H' d v zf := o.mono le (fun a ha => absurd ha (Nat.lt_irrefl _)) fun _ => Nat.le_refl _
theorem zero_owns {d : List D} {v : List V} (o : Owns K cl F H d v zf) (le : Le F F') : Owns K cl F' H' d v zf := o.mono le (fun a ha => absurd ha (Nat.lt_irrefl _)) fun _ => Nat.le_refl _
end
end FL

set_option Elab.async false
set_option linter.all false
set_option maxRecDepth 100000
namespace FL
open PySem L2
section
variable {X : Cx} {cl : Nat → Cl} {W : WX'} {K : PySem.W.Frag}
variable {G : Gh} {F H F' H' : Hp} {R B A A' : Fp} {σ : St} {ρ ρ' : Rho} {pos : Pos}

theorem fi_seq {tg l : Expr} {m : Rho → RX D} (h : FE X cl W l m) : FI X cl W tg l (iSq m) := ⟨fun pins s σ H R' I q => (pi_seq (tg := tg) h).run pins s σ H R' I (by
  obtain ⟨G, F, ρ, A, R, st, en, p⟩ := q
  refine ⟨G, F, ρ, A, R, st, en, Pst.bind p fun x ρ1 v1 F1 H1 A1 B1 e1 o1 p1 => ?_⟩
  obtain ⟨e2, le2⟩ := e1.fz
  have o2 : Own X.K cl (fz F1 H1 B1) H1 x.frz v1 zf := o1.freeze le2 fun a ha => fz_at ha
  have e3 : Ev X.K cl G F1 H1 R (fz F1 H1 B1) H1 σ ρ1 A1 zf := ⟨le2, fun _ _ => rfl, e2.st, e2.en⟩
  cases hx : x.frz with
  | lst ds =>
    rw [hx] at o2 p1
    obtain ⟨a, xs, ev, q, os⟩ := o2
    subst ev
    have q1 : SqL X.K H1 a xs := (show Le _ H1 from e2.st.sub).sqL q
    refine ⟨a, rfl, .inl ⟨⟨xs, q1⟩, p1 _ _ _ _ _ e3 fun G' F3 H3 S le3 st3 => ⟨fun i d hd => ?_, ⟨xs, (le3.trans st3.sub).sqL q, by rw [Owns.length os]; exact Nat.le_refl _⟩⟩⟩⟩
    obtain ⟨v, hv, ov⟩ := os.get hd
    refine ⟨⟨xs, v, (le3.trans st3.sub).sqL q, hv⟩, fun y H' hy => ?_⟩
    obtain ⟨rfl, hy⟩ := hy
    have := hy xs ((le3.trans st3.sub).sqL q)
    rw [hv] at this
    cases this
    exact ⟨F3, Le.refl, fun _ _ => rfl, st3, zero_own ov le3⟩
  | tup ds =>
    rw [hx] at o2 p1
    obtain ⟨a, xs, ev, q, os⟩ := o2
    subst ev
    have q1 : SqT X.K H1 a xs := (show Le _ H1 from e2.st.sub).sqT q
    refine ⟨a, rfl, .inr ⟨⟨xs, q1⟩, p1 _ _ _ _ _ e3 fun G' F3 H3 S le3 st3 => ⟨fun i d hd => ?_, ⟨xs, (le3.trans st3.sub).sqT q, by rw [Owns.length os]; exact Nat.le_refl _⟩⟩⟩⟩
    obtain ⟨v, hv, ov⟩ := os.get hd
    refine ⟨⟨xs, v, (le3.trans st3.sub).sqT q, hv⟩, fun y H' hy => ?_⟩
    obtain ⟨rfl, hy⟩ := hy
    have := hy xs ((le3.trans st3.sub).sqT q)
    rw [hv] at this
    cases this
    exact ⟨F3, Le.refl, fun _ _ => rfl, st3, zero_own ov le3⟩
  | _ => rw [hx] at p1; exact p1.elim)⟩

/-- lo, lo + 1, .. -/
def rng (lo : Int) (n : Nat) : List D := (List.range n).map fun (k : Nat) => D.int (lo + k)
noncomputable def bnd (i : Int) : Bool := yes (-(2 ^ 62) ≤ i ∧ i < 2 ^ 62)
noncomputable def iRg1 (a : Rho → RX (List D)) : Rho → RX (List D) := fun ρ => (a ρ).bind fun ds ρ1 => match ds with | [.int j] => if bnd j then .ok (rng 0 j.toNat) ρ1 else .bad | _ => .bad
noncomputable def iRg2 (a : Rho → RX (List D)) : Rho → RX (List D) := fun ρ => (a ρ).bind fun ds ρ1 => match ds with | [.int i, .int j] => if bnd i && bnd j then .ok (rng i (j - i).toNat) ρ1 else .bad | _ => .bad
theorem itOk_rng {F : Hp} {lo : Int} {n : Nat} : ItOk K cl F (Itr lo n) (rng lo n) := fun G F1 H S le st => by
  have hl : (rng lo n).length = n := by unfold rng; rw [List.length_map, List.length_range]
  refine ⟨fun i d hd => ?_, by rw [hl]; exact Nat.le_refl _⟩
  have hi : i < n := by have := (List.getElem?_eq_some_iff.mp hd).1; omega
  refine ⟨hi, fun x H' y => ?_⟩
  obtain ⟨rfl, rfl⟩ := y
  have e : d = .int (lo + i) := by
    unfold rng at hd
    rw [List.getElem?_map, List.getElem?_range hi] at hd
    exact (Option.some.inj hd).symm
  subst e
  exact ⟨F1, Le.refl, fun _ _ => rfl, st, rfl⟩
theorem fi_range1 {tg a : Expr} {p : Pos} {m : Rho → RX (List D)} (hg : Gl X "range") (hm : X.mg "range" = none) (ha : FA X cl W [a] m) (hs : starEach [a] X.env = [(false, eval a X.env)] := by rfl) : FI X cl W tg (.Call (.Name "range" p) [a] [] pos) (iRg1 m) :=
  ⟨fun pins s σ H R' I q => (pi_range1 (tg := tg) hg hm ha hs).run pins s σ H R' I (by
  obtain ⟨G, F, ρ, A, R, st, en, p⟩ := q
  refine ⟨G, F, ρ, A, R, st, en, Pst.bind p fun x ρ1 v1 F1 H1 A1 B1 e1 o1 p1 => ?_⟩
  match x, o1, p1 with
  | [.int j], o1, p1 =>
    obtain ⟨v, r, B, C, rfl, ov, os, _⟩ := o1
    have e1' : v = .int j := ov
    have e2' : r = [] := os
    subst e1' e2'
    by_cases hb : bnd j = true
    · simp only [hb, if_true] at p1
      obtain ⟨h1, h2⟩ := of_yes hb
      exact ⟨j, rfl, h1, h2, p1 _ F1 H1 A1 zf (Ev.self (e1.st.less fun x => by show A1 x + R x ≤ A1 x + (B1 x + R x); omega) e1.en) itOk_rng⟩
    · simp only [hb] at p1; exact p1.elim
  | [], _, p1 => exact p1.elim
  | .non :: _, _, p1 => exact p1.elim
  | .bl _ :: _, _, p1 => exact p1.elim
  | .str _ :: _, _, p1 => exact p1.elim
  | .tup _ :: _, _, p1 => exact p1.elim
  | .lst _ :: _, _, p1 => exact p1.elim
  | .vec _ :: _, _, p1 => exact p1.elim
  | .obj _ _ :: _, _, p1 => exact p1.elim
  | .mobj _ _ :: _, _, p1 => exact p1.elim
  | .int _ :: _ :: _, _, p1 => exact p1.elim)⟩
theorem fi_range2 {tg a b : Expr} {p : Pos} {m : Rho → RX (List D)} (hg : Gl X "range") (hm : X.mg "range" = none) (ha : FA X cl W [a, b] m) (hs : starEach [a, b] X.env = [(false, eval a X.env), (false, eval b X.env)] := by rfl) (hs2 : starEach [b] X.env = [(false, eval b X.env)] := by rfl) : FI X cl W tg (.Call (.Name "range" p) [a, b] [] pos) (iRg2 m) :=
  ⟨fun pins s σ H R' I q => (pi_range2 (tg := tg) hg hm ha hs hs2).run pins s σ H R' I (by
  obtain ⟨G, F, ρ, A, R, st, en, p⟩ := q
  refine ⟨G, F, ρ, A, R, st, en, Pst.bind p fun x ρ1 v1 F1 H1 A1 B1 e1 o1 p1 => ?_⟩
  have hx : ∃ i j, x = [.int i, .int j] ∧ bnd i = true ∧ bnd j = true := by
    split at p1
    · rename_i i j
      refine ⟨i, j, rfl, ?_⟩
      by_cases hb : (bnd i && bnd j) = true
      · simpa using hb
      · rw [if_neg hb] at p1; exact p1.elim
    · exact p1.elim
  obtain ⟨i, j, rfl, hbi, hbj⟩ := hx
  simp only [hbi, hbj, Bool.and_self, if_true] at p1
  obtain ⟨v, r, B, C, rfl, ov, os, _⟩ := o1
  obtain ⟨v', r', B', C', rfl, ov', os', _⟩ := os
  have e1' : v = .int i := ov
  have e2' : v' = .int j := ov'
  have e3' : r' = [] := os'
  subst e1' e2' e3'
  obtain ⟨h1, h2⟩ := of_yes hbi
  obtain ⟨h3, h4⟩ := of_yes hbj
  exact ⟨i, j, rfl, ⟨h1, h2, h3, h4⟩, p1 _ F1 H1 A1 zf (Ev.self (e1.st.less fun x => by show A1 x + R x ≤ A1 x + (B1 x + R x); omega) e1.en) itOk_rng⟩)⟩

/-! ### comprehensions -/
def RX.noex {α : Type} (r : RX α) : RX α := match r with | .ok a ρ => .ok a ρ | _ => .bad
noncomputable def lcl (vs : List Nat) (g : D → Rho → Option Rho) (t : Rho → RX Bool) (e : Rho → RX D) : List D → List D → Rho → RX (List D)
  | [], acc, ρ => .ok acc ρ
  | d :: ds, acc, ρ =>
    match g d ρ with
    | none => .bad
    | some ρ1 =>
      match t ρ1 with
      | .ok true ρ2 =>
        match e ρ2 with
        | .ok y ρ3 => if cap acc.length then lcl vs g t e ds (acc ++ [y]) (fgt vs ρ3) else .bad
        | _ => .bad
      | .ok false ρ2 => lcl vs g t e ds acc (fgt vs ρ2)
      | _ => .bad
def rst (ρ1 : Rho) : List Nat → Rho → Rho
  | [], ρ2 => ρ2
  | i :: vs, ρ2 => match ρ1[i]? with | some (some d) => if d.pure then (rst ρ1 vs ρ2).set i (some d) else rst ρ1 vs ρ2 | _ => rst ρ1 vs ρ2
noncomputable def eLc (vs : List Nat) (it : Rho → RX (List D)) (g : D → Rho → Option Rho) (t : Rho → RX Bool) (e : Rho → RX D) : Rho → RX D := fun ρ =>
  (it ρ).bind fun ds ρ1 => (lcl vs g t e ds [] (fgt vs ρ1)).bind fun acc ρ2 => .ok (.vec acc) (rst ρ1 vs ρ2)
def tT : Rho → RX Bool := fun ρ => .ok true ρ

theorem EnvR.set2 : ∀ {ρ : Rho} {σ : St} {A : Fp} (i : Nat), EnvR K cl F H ρ σ A → EnvR K cl F H (ρ.set i none) (σ.set i none) A
  | [], σ, _, i, h => by
    have e : σ = [] := h
    subst e; exact rfl
  | none :: ρ, σ, A, 0, h => by
    obtain ⟨s, r, e, h⟩ := h
    subst e; exact ⟨none, r, rfl, h⟩
  | none :: ρ, σ, A, i + 1, h => by
    obtain ⟨s, r, e, h⟩ := h
    subst e; exact ⟨s, _, rfl, EnvR.set2 i h⟩
  | some d :: ρ, σ, A, 0, h => by
    obtain ⟨v, r, B, C, e, p, q, s⟩ := h
    subst e; exact ⟨none, r, rfl, q.up fun x => by have := s x; omega⟩
  | some d :: ρ, σ, A, i + 1, h => by
    obtain ⟨v, r, B, C, e, p, q, s⟩ := h
    subst e; exact ⟨v, _, B, C, rfl, p, EnvR.set2 i q, s⟩
theorem EnvR.wipe : ∀ (vs : List Nat) {ρ : Rho} {σ : St} {A : Fp}, EnvR K cl F H ρ σ A → EnvR K cl F H (FL.fgt vs ρ) (L2.wipe σ vs) A
  | [], _, _, _, h => h
  | v :: vs, _, _, _, h => (EnvR.wipe vs h).set2 v
theorem EnvR.other : ∀ {ρ : Rho} {σ σ' : St} {A : Fp}, EnvR K cl F H ρ σ A → σ'.length = σ.length → (∀ (i : Nat) v, σ[i]? = some (some v) → σ'[i]? = some (some v)) → EnvR K cl F H ρ σ' A
  | [], σ, σ', _, h, l, _ => by
    have e : σ = [] := h
    subst e
    exact List.length_eq_zero_iff.mp l
  | none :: ρ, σ, σ', A, h, l, w => by
    obtain ⟨s, r, e, h⟩ := h
    subst e
    cases σ' with
    | nil => simp at l
    | cons s' r' => exact ⟨s', r', rfl, EnvR.other h (by simpa using l) fun i v q => by simpa using w (i + 1) v (by simpa using q)⟩
  | some d :: ρ, σ, σ', A, h, l, w => by
    obtain ⟨v, r, B, C, e, p, q, s⟩ := h
    subst e
    cases σ' with
    | nil => simp at l
    | cons s' r' =>
      have e' : s' = some v := by simpa using w 0 v (by simp)
      subst e'
      exact ⟨v, r', B, C, rfl, p, EnvR.other q (by simpa using l) fun i v q => by simpa using w (i + 1) v (by simpa using q), s⟩
theorem EnvR.unwipe {vs : List Nat} (h : EnvR K cl F H ρ (L2.wipe σ vs) A) : EnvR K cl F H ρ σ A := h.other (wipe_length σ vs).symm fun i v q => (wipe_some q).1
theorem wipe_setv (v : Nat) : ∀ (vs : List Nat) (σ : St) (o : Option V), (L2.wipe (σ.set v o) vs).set v none = (L2.wipe σ vs).set v none
  | [], σ, o => by show (σ.set v o).set v none = σ.set v none; rw [List.set_set]
  | u :: vs, σ, o => by
    show ((L2.wipe (σ.set v o) vs).set u none).set v none = ((L2.wipe σ vs).set u none).set v none
    by_cases h : u = v
    · subst h; rw [List.set_set, List.set_set, wipe_setv u vs]
    · rw [List.set_comm _ _ h, wipe_setv v vs, List.set_comm _ _ (Ne.symm h)]
theorem wipe_idem : ∀ (vs : List Nat) (σ : St), L2.wipe (L2.wipe σ vs) vs = L2.wipe σ vs
  | [], σ => rfl
  | v :: vs, σ => by
    show (L2.wipe ((L2.wipe σ vs).set v none) vs).set v none = (L2.wipe σ vs).set v none
    rw [wipe_setv, wipe_idem]
/-- the old values of the block's names, where they are pure -/
theorem EnvR.rst {ρ1 : Rho} {A1 : Fp} {F1 H1 : Hp} (e1 : EnvR K cl F1 H1 ρ1 σ A1) (le : Le F1 F) : ∀ (vs : List Nat) {ρ2 : Rho} {A : Fp}, EnvR K cl F H ρ2 σ A → EnvR K cl F H (FL.rst ρ1 vs ρ2) σ A
  | [], _, _, h => h
  | i :: vs, ρ2, A, h => by
    have ih := EnvR.rst e1 le vs h
    unfold FL.rst
    split
    · rename_i d hd
      split
      · rename_i hp
        obtain ⟨v, B, C, hv, o, _, _⟩ := e1.get hd
        have o' : Own K cl F H d v zf := (o.of_pure (H' := H) hp).mono le (fun a ha => absurd ha (Nat.lt_irrefl _)) fun _ => Nat.le_refl _
        have := ih.put (i := i) o'
        have hσ : σ.set i (some v) = σ := by
          obtain ⟨hl, hg⟩ := List.getElem?_eq_some_iff.mp hv
          rw [← hg]
          exact List.set_getElem_self hl
        rw [hσ] at this
        exact this.up fun x => by show zf x + A x ≤ A x; unfold zf; omega
      · exact ih
    · exact ih

/-- an owned object is rewritten -/
theorem upd_own {p : Addr} {o : HO} {S : Fp} (st : Sta G F H S) (hp : 0 < S p) : Sta G F (upd H p o) S := by
  obtain ⟨h1, h2, u, h3⟩ := st.own p hp
  refine ⟨fun a w e => ?_, fun a w e => ?_, st.low, st.fr, fun a ha => ?_, st.nd⟩
  · rw [upd_ne (ne_of_none e h1)]; exact st.sub a w e
  · rw [upd_ne (ne_of_none e h2)]; exact st.ent a w e
  · obtain ⟨g1, g2, w, g3⟩ := st.own a ha
    refine ⟨g1, g2, ?_⟩
    by_cases h : a = p
    · subst h; exact ⟨o, upd_same⟩
    · exact ⟨w, by rw [upd_ne h]; exact g3⟩

theorem lc_imp {wi : TI} {g : TG} {tt : TT} {te : TE} {it : Rho → RX (List D)} {gm : D → Rho → Option Rho} {t : Rho → RX Bool} {m : Rho → RX D} {vs : List Nat}
    (hwi : ∀ σ H Q, tX X.K cl W (rIt X.K cl) it σ H Q → wi σ H Q) (hg : ∀ v σ H Q, tG X.K cl vs gm v σ H Q → g v σ H Q)
    (ht : ∀ σ H Q, tX X.K cl (fun _ _ _ _ => False) rB t σ H Q → tt σ H Q) (he : ∀ σ H Q, tX X.K cl (fun _ _ _ _ => False) (rD X.K cl) m σ H Q → te σ H Q)
    (σ : St) (H : Hp) (Q : VK) (q : tX X.K cl W (rD X.K cl) (eLc vs it gm t m) σ H Q) : tLc wi g tt te vs σ H Q := by
  obtain ⟨G, F, ρ, A, R, st, en, p⟩ := q
  refine hwi _ _ _ ⟨G, F, ρ, A, R, st, en, Pst.bind p fun ds ρ1 J F1 H1 A1 B1 e1 o1 p1 => ?_⟩
  intro Dd nD
  -- the turn's word
  let Wd : Nat → Hp → Prop := fun i H => ∃ F ρ2 A C acc accV, Le F1 F ∧ F Dd = none ∧ H Dd = some (.lst accV) ∧ Sta G F H (fun x => A x + (one Dd x + (C x + R x))) ∧ (∀ a, 0 < R a → H a = H1 a) ∧ EnvR X.K cl F H ρ2 (wipe σ vs) A ∧ Owns X.K cl F H acc accV C ∧
    Pst X.K cl W (rD X.K cl) G F1 H1 σ R ((lcl vs gm t m (ds.drop i) acc ρ2).bind fun acc ρ2 => .ok (.vec acc) (rst ρ1 vs ρ2)) Q
  have st1 : Sta G F1 H1 (fun x => A1 x + R x) := e1.st.less fun x => by show A1 x + R x ≤ A1 x + (B1 x + R x); omega
  obtain ⟨fD, sD, stD⟩ := lay_owned (o := .lst []) st1 nD
  have start : Wd 0 (upd H1 Dd (.lst [])) := by
    refine ⟨F1, fgt vs ρ1, A1, zf, [], [], Le.refl, fD, upd_same, stD.less fun x => ?_, fun a ha => ?_, ?_, rfl, p1⟩
    · show A1 x + (one Dd x + (zf x + R x)) ≤ one Dd x + (A1 x + R x); unfold zf; omega
    · have hne : a ≠ Dd := fun e => by subst e; have : A1 a + R a = 0 := sD; omega
      exact upd_ne hne
    · refine (EnvR.wipe vs e1.en).mono Le.refl (fun a ha => ?_) fun _ => Nat.le_refl _
      have hne : a ≠ Dd := fun e => by subst e; have : A1 a + R a = 0 := sD; omega
      exact ⟨upd_ne hne, (st1.own a (by show 0 < A1 a + R a; omega)).1⟩
  refine ⟨fun i m H => m = ds.length - i ∧ i ≤ ds.length ∧ Wd i H, ⟨ds.length, rfl, Nat.zero_le _, start⟩, ?_⟩
  rintro i mm H2 ⟨rfl, hi, F2, ρ2, A2, C, acc, accV, le2, fD2, hD2, st2, ag2, en2, oa2, p2⟩
  obtain ⟨go, stop⟩ := o1 G F2 H2 _ le2 st2
  by_cases hlt : i < ds.length
  · refine .inr ?_
    have hd : ds[i]? = some ds[i] := List.getElem?_eq_getElem hlt
    obtain ⟨g1, g2⟩ := go i _ hd
    refine ⟨g1, Wd (i + 1), fun H' n => ⟨ds.length - (i + 1), by omega, rfl, hlt, n⟩, fun x H' y => ?_⟩
    obtain ⟨F3, le3, ag3, st3, o3⟩ := g2 x H' y
    have hdrop : ds.drop i = ds[i] :: ds.drop (i + 1) := List.drop_eq_getElem_cons hlt
    rw [hdrop] at p2
    unfold lcl at p2
    -- R with the list and its items held
    have en3 : EnvR X.K cl F3 H' ρ2 (wipe σ vs) A2 := en2.mono le3 (fun a ha => ⟨ag3 a (by show 0 < A2 a + _; omega), (st3.own a (by show 0 < A2 a + _; omega)).1⟩) fun _ => Nat.le_refl _
    refine hg _ _ _ _ ⟨G, F3, ρ2, A2, zf, fun x => one Dd x + (C x + R x), ds[i], st3.less fun x => by show A2 x + (zf x + (one Dd x + (C x + R x))) ≤ A2 x + (one Dd x + (C x + R x)); unfold zf; omega, en3, o3, ?_⟩
    cases hgd : gm ds[i] ρ2 with
    | none => simp only [hgd] at p2; exact p2.elim
    | some ρ3 =>
      simp only [hgd] at p2
      intro σ4 F4 H4 A4 hw e4
      rw [wipe_idem] at hw
      refine ⟨hw, ?_⟩
      refine ht _ _ _ ⟨G, F4, ρ3, A4, fun x => one Dd x + (C x + R x), e4.st.less fun x => by show A4 x + (one Dd x + (C x + R x)) ≤ A4 x + (zf x + (one Dd x + (C x + R x))); omega, e4.en, ?_⟩
      cases htr : t ρ3 with
      | ex c xs ρ4 => simp only [htr] at p2; exact p2.elim
      | bad => simp only [htr] at p2; exact p2.elim
      | ok b ρ4 =>
        intro b' F5 H5 A5 B5 e5 ob
        have ob' : b = b' := ob
        subst ob'
        have ag5 : ∀ a, 0 < one Dd a + (C a + R a) → H5 a = H2 a := fun a ha => (e5.ag a ha).trans ((e4.ag a ha).trans (ag3 a (by show 0 < A2 a + (one Dd a + (C a + R a)); omega)))
        have le5 : Le F2 F5 := le3.trans (e4.le.trans e5.le)
        have fre5 : ∀ a, 0 < one Dd a + (C a + R a) → F5 a = none := fun a ha => (e5.st.own a (by show 0 < A5 a + (B5 a + (one Dd a + (C a + R a))); omega)).1
        have oneD : 0 < one Dd Dd := by rw [one_self]; exact Nat.one_pos
        cases b with
        | false =>
          simp only [htr] at p2
          rw [if_neg Bool.false_ne_true]
          refine ⟨F5, fgt vs ρ4, A5, C, acc, accV, le2.trans le5, fre5 Dd (by omega), (ag5 Dd (by omega)).trans hD2, e5.st.less fun x => ?_, fun a ha => (ag5 a (by omega)).trans (ag2 a ha), ?_, oa2.mono le5 (fun a ha => ⟨ag5 a (by omega), fre5 a (by omega)⟩) (fun _ => Nat.le_refl _), p2⟩
          · show A5 x + (one Dd x + (C x + R x)) ≤ A5 x + (B5 x + (one Dd x + (C x + R x))); omega
          · rw [← hw]; exact EnvR.wipe vs e5.en
        | true =>
          simp only [htr] at p2
          rw [if_pos rfl]
          refine he _ _ _ ⟨G, F5, ρ4, A5, fun x => one Dd x + (C x + R x), e5.st.less fun x => by show A5 x + (one Dd x + (C x + R x)) ≤ A5 x + (B5 x + (one Dd x + (C x + R x))); omega, e5.en, ?_⟩
          cases hmr : m ρ4 with
          | ex c xs ρ5 => simp only [hmr] at p2; exact p2.elim
          | bad => simp only [hmr] at p2; exact p2.elim
          | ok d ρ5 =>
            simp only [hmr] at p2
            intro v6 F6 H6 A6 B6 e6 o6
            have ag6 : ∀ a, 0 < one Dd a + (C a + R a) → H6 a = H2 a := fun a ha => (e6.ag a ha).trans (ag5 a ha)
            have le6 : Le F2 F6 := le5.trans e6.le
            have fre6 : ∀ a, 0 < one Dd a + (C a + R a) → F6 a = none := fun a ha => (e6.st.own a (by show 0 < A6 a + (B6 a + (one Dd a + (C a + R a))); omega)).1
            by_cases hc : cap acc.length = true
            · rw [if_pos hc] at p2
              have hal : acc.length = accV.length := Owns.length oa2
              refine ⟨accV, (ag6 Dd (by omega)).trans hD2, by rw [← hal]; exact cap_line hc, ?_⟩
              have st6 := upd_own (o := .lst (accV ++ [v6])) e6.st (show 0 < A6 Dd + (B6 Dd + (one Dd Dd + (C Dd + R Dd))) by omega)
              have ndD : ∀ a, 0 < A6 a + (B6 a + (C a + R a)) → a ≠ Dd := fun a ha e => by
                subst e
                have h1 : A6 a + (B6 a + (one a a + (C a + R a))) ≤ 1 := e6.st.nd a
                rw [one_self] at h1
                omega
              refine ⟨F6, fgt vs ρ5, A6, fun x => C x + B6 x, acc ++ [d], accV ++ [v6], le2.trans le6, fre6 Dd (by omega), upd_same, st6.less fun x => ?_, fun a ha => ?_, ?_, ?_, p2⟩
              · show A6 x + (one Dd x + (C x + B6 x + R x)) ≤ A6 x + (B6 x + (one Dd x + (C x + R x))); omega
              · rw [upd_ne (ndD a (by omega))]; exact (ag6 a (by omega)).trans (ag2 a ha)
              · rw [← hw]
                refine (EnvR.wipe vs e6.en).mono Le.refl (fun a ha => ⟨upd_ne (ndD a (by omega)), (e6.st.own a (by show 0 < A6 a + _; omega)).1⟩) fun _ => Nat.le_refl _
              · have oa6 : Owns X.K cl F6 (upd H6 Dd (.lst (accV ++ [v6]))) acc accV C := oa2.mono le6 (fun a ha => ⟨by rw [upd_ne (ndD a (by omega))]; exact ag6 a (by omega), fre6 a (by omega)⟩) fun _ => Nat.le_refl _
                have ov6 : Own X.K cl F6 (upd H6 Dd (.lst (accV ++ [v6]))) d v6 B6 := o6.mono Le.refl (fun a ha => ⟨upd_ne (ndD a (by omega)), (e6.st.own a (by show 0 < A6 a + (B6 a + _); omega)).1⟩) fun _ => Nat.le_refl _
                exact oa6.snoc ov6
            · rw [if_neg hc] at p2; exact p2.elim
  · have e : i = ds.length := by omega
    subst e
    refine .inl ⟨stop, ?_⟩
    rw [List.drop_length] at p2
    refine p2 (.ref Dd) F2 H2 A2 (fun x => one Dd x + C x) ⟨le2, ag2, st2.less fun x => by show A2 x + (one Dd x + C x + R x) ≤ A2 x + (one Dd x + (C x + R x)); omega, EnvR.rst e1.en le2 vs en2.unwipe⟩ ⟨Dd, accV, C, rfl, fD2, hD2, oa2, fun _ => Nat.le_refl _⟩
end
end FL

set_option Elab.async false
set_option linter.all false
set_option maxRecDepth 100000
namespace FL
open PySem L2
open PyProof.Rows (envOfC)
abbrev W0 : WX' := fun _ _ _ _ => False
section
variable {X : Cx} {cl : Nat → Cl} {W : WX'} {K : PySem.W.Frag}
variable {G : Gh} {F H F' H' : Hp} {R B A A' : Fp} {σ : St} {ρ ρ' : Rho} {pos : Pos}

theorem PTs_imp {X : Cx} {es : List Expr} {t t' : TT} (h : PTs X es t) (i : ∀ σ H Q, t' σ H Q → t σ H Q) : PTs X es t' := ⟨fun pins s σ H Q I q => h.run pins s σ H Q I (i σ H Q q)⟩
theorem ft_nil : PTs X [] (tX X.K cl W rB tT) := PTs_imp pts_nil fun σ H Q q => by
  obtain ⟨G, F, ρ, A, R, st, en, p⟩ := q
  exact p true F H A zf (Ev.self st en) rfl
theorem ft_one {c : Expr} {t : Rho → RX Bool} (h : FT X cl W c t) : PTs X [c] (tX X.K cl W rB t) := pts_one h

theorem fe_lc {elt tg iter : Expr} {ifs : List Expr} {scope : Scope} {own : List (Str × Nat)} {it : Rho → RX (List D)} {g : D → Rho → Option Rho} {t : Rho → RX Bool} {m : Rho → RX D} (hc : X.calm = true) (hN : X.N.Nodup) (hi : FI X cl W tg iter it) (ok : BlkOk X.N X.env.scope scope own)
    (hg : ∀ (s : Shared) (H : Hp) (C : Addr) (clo : List (Str × Addr)) (fp : List Addr), FG (X.blk s H scope (compEnvC scope clo C X.env) fp) cl tg (own.map (·.2)) g)
    (ht : ∀ (s : Shared) (H : Hp) (C : Addr) (clo : List (Str × Addr)) (fp : List Addr), PTs (X.blk s H scope (compEnvC scope clo C X.env) fp) ifs (tX X.K cl W0 rB t))
    (he : ∀ (s : Shared) (H : Hp) (C : Addr) (clo : List (Str × Addr)) (fp : List Addr), FE (X.blk s H scope (compEnvC scope clo C X.env) fp) cl W0 elt m) (hs : ∀ x, foldedSetIterable iter X.env x = pure x := by intro _; rfl) :
    FE X cl W (.ListComp elt [⟨tg, iter, ifs, 0⟩] scope pos) (eLc (own.map (·.2)) it g t m) :=
  PE_imp (pe_lc hc hN hi ok hg ht he hs) fun σ H Q q => lc_imp (fun _ _ _ q => q) (fun _ _ _ _ q => q) (fun _ _ _ q => q) (fun _ _ _ q => q) σ H Q q
theorem fs_setLc {i : Nat} {y : Str} {py : Pos} {spos : Pos} {elt tg iter : Expr} {ifs : List Expr} {scope : Scope} {own : List (Str × Nat)} {it : Rho → RX (List D)} {g : D → Rho → Option Rho} {t : Rho → RX Bool} {m : Rho → RX D} (hc : X.calm = true) (hN : X.N.Nodup)
    (hy : X.N[i]? = some y) (hyl : X.env.scope.names.lookup y = some .local) (hsw : swapsWith (.ListComp elt [⟨tg, iter, ifs, 0⟩] scope pos) (some (.Name y py)) spos.line X.env = pure true) (hi : FI X cl W tg iter it) (ok : BlkOk X.N X.env.scope scope own)
    (hg : ∀ (s : Shared) (H : Hp) (C : Addr) (clo : List (Str × Addr)) (fp : List Addr), FG (X.blk s H scope (compEnvC scope clo C X.env) fp) cl tg (own.map (·.2)) g)
    (ht : ∀ (s : Shared) (H : Hp) (C : Addr) (clo : List (Str × Addr)) (fp : List Addr), PTs (X.blk s H scope (compEnvC scope clo C X.env) fp) ifs (tX X.K cl W0 rB t))
    (he : ∀ (s : Shared) (H : Hp) (C : Addr) (clo : List (Str × Addr)) (fp : List Addr), FE (X.blk s H scope (compEnvC scope clo C X.env) fp) cl W0 elt m) (hs : ∀ x, foldedSetIterable iter X.env x = pure x := by intro _; rfl) :
    FS X cl W (.Assign [.Name y py] (.ListComp elt [⟨tg, iter, ifs, 0⟩] scope pos) spos) (sSet i (eLc (own.map (·.2)) it g t m)) :=
  PS_imp (ps_setLc hc hN hy hyl hsw hi ok hg ht he hs) (set_imp fun σ H Q q => lc_imp (fun _ _ _ q => q) (fun _ _ _ _ q => q) (fun _ _ _ q => q) (fun _ _ _ q => q) σ H Q q)

/-! ### defs -/
inductive RF where
  | rt (d : D) | ex (c : Nat) (ds : List D) | bad
def RS.out (r : RS) : RF := match r with | .nx _ => .rt .non | .rt d => .rt d | .ex c ds _ => .ex c ds | _ => .bad
/-- a def's body, run: n slots -/
def runF (np n : Nat) (b : Rho → RS) (ds : List D) : RF := if ds.length = np then (b (ds.map some ++ List.replicate (n - np) none)).out else .bad
theorem runF_len {np n : Nat} {b : Rho → RS} : ∀ l, runF np n b l ≠ .bad → l.length = np := fun l h => by
  unfold runF at h
  split at h
  · assumption
  · exact absurd rfl h
/-- the promise of a def: m is what it does with data -/
def spF (K : PySem.W.Frag) (cl : Nat → Cl) (n : Nat) (m : List D → RF) : Sp := fun vs H Q E => vs.length = n ∧ ∃ F ds, Le F H ∧ Owns K cl F H ds vs zf ∧
  match m ds with
  | .rt d => ∀ v F' H' B, Le F F' → Le H H' → Sta ⟨H, F⟩ F' H' B → Own K cl F' H' d v B → Q v H'
  | .ex c xs => ∀ u d F' H', Le F F' → Le H H' → Sta ⟨H, F⟩ F' H' zf → ExR K cl F' c xs u d → E u d H'
  | .bad => False
theorem EnvR.none_all : ∀ (n : Nat), EnvR K cl F H (List.replicate n none) (List.replicate n none) zf
  | 0 => rfl
  | n + 1 => by
    show EnvR K cl F H (none :: List.replicate n none) (none :: List.replicate n none) zf
    exact ⟨none, _, rfl, EnvR.none_all n⟩
theorem EnvR.args : ∀ {ds : List D} {vs : List V} {ρ : Rho} {σ : St}, Owns K cl F H ds vs zf → EnvR K cl F H ρ σ zf → EnvR K cl F H (ds.map some ++ ρ) (vs.map some ++ σ) zf
  | [], vs, ρ, σ, h, e => by
    have ev : vs = [] := h
    subst ev
    exact e
  | d :: ds, vs, ρ, σ, h, e => by
    obtain ⟨v, r, B, C, es, p, q, s⟩ := h
    subst es
    have zB : ∀ x, B x ≤ zf x := fun x => by have := s x; omega
    have zC : ∀ x, C x ≤ zf x := fun x => by have := s x; omega
    exact ⟨v, _, zf, zf, rfl, p.up zB, EnvR.args (q.up zC) e, fun x => Nat.le_refl _⟩
theorem fn_F {P : Program} {w : World} {K : PySem.W.Frag} {mg : Str → Option Value} {base : Heap} {x qual : Str} {st : Stmt} {f : Addr} {fd : FuncData} {N ps : List Str} {k n nN : Nat} {b : Rho → RS}
    (Fn : Fun K x qual st f fd) (S : FnScope N ps (defScope st)) (hn : n = ps.length) (hN : nN = N.length)
    (hb : ∀ (cdv : Value) (A : Around) (outer : List Env) (s : Shared) (H : Hp) (E : XK), Room k (A.deeper (envOfC qual (defScope st) s.heap.objs.size f cdv)) →
      FSs (cxOf (L2.CX P w) P w K mg base N qual (defScope st) f cdv A outer s H E) cl (fun c d _ H => E c d H) (defBody st) b) :
    FnOk P w K mg base (L2.CX P w) (k + 1) f fd ps (spF K cl n (runF n nN b)) := by
  refine Fn.okX S (fun vs H Q E h => h.1.trans hn) fun cdv A outer s H vs Q E hr h => ?_
  refine ⟨_, hb cdv A outer s H E hr, ?_⟩
  obtain ⟨hl, F, ds, le, os, p⟩ := h
  have hds : ds.length = vs.length := Owns.length os
  refine ⟨⟨H, F⟩, F, ds.map some ++ List.replicate (nN - ds.length) none, zf, zf, ⟨le, Le.refl, Le.refl, fun a o e => .inl e, fun a ha => absurd ha (Nat.lt_irrefl _), fun a => Nat.zero_le _⟩, ?_, ?_⟩
  · show EnvR K cl F H (ds.map some ++ List.replicate (nN - ds.length) none) (vs.map some ++ List.replicate (N.length - vs.length) none) zf
    rw [hN, hds]
    exact EnvR.args os (EnvR.none_all _)
  · unfold runF at p
    have hdn : ds.length = n := hds.trans hl
    rw [if_pos hdn, ← hdn] at p
    cases hr : b (ds.map some ++ List.replicate (nN - ds.length) none) with
    | nx ρ => rw [hr] at p; exact fun σ F' H' A' e => p .non F' H' zf e.le e.st.ent (e.st.less fun x => by show zf x ≤ _; exact Nat.zero_le _) rfl
    | rt d => rw [hr] at p; exact fun v F' H' B e o => p v F' H' B e.le e.st.ent (e.st.less fun x => by show B x ≤ zf x + (B x + zf x); omega) o
    | ex c xs ρ => rw [hr] at p; exact fun u d σ F' H' A' e o => p u d F' H' e.le e.st.ent (e.st.less fun x => by show zf x ≤ _; exact Nat.zero_le _) o
    | bk ρ => rw [hr] at p; exact p.elim
    | ct ρ => rw [hr] at p; exact p.elim
    | bad => rw [hr] at p; exact p.elim

/-- a call: the arguments are frozen -/
def eCall (m : List D → RF) (dd : List D) (a : Rho → RX (List D)) : Rho → RX D := fun ρ => (a ρ).bind fun ds ρ1 =>
  match m (D.frzs ds ++ dd) with
  | .rt d => .ok d ρ1
  | .ex c xs => .ex c xs ρ1
  | .bad => .bad
theorem Owns.append : ∀ {ds es : List D} {vs us : List V}, Owns K cl F H ds vs zf → Owns K cl F H es us zf → Owns K cl F H (ds ++ es) (vs ++ us) zf
  | [], es, vs, us, h, e => by
    have ev : vs = [] := h
    subst ev
    exact e
  | d :: ds, es, vs, us, h, e => by
    obtain ⟨v, r, B, C, ev, p, q, s⟩ := h
    subst ev
    have zB : ∀ x, B x ≤ zf x := fun x => by have := s x; omega
    have zC : ∀ x, C x ≤ zf x := fun x => by have := s x; omega
    exact ⟨v, _, zf, zf, rfl, p.up zB, Owns.append (q.up zC) e, fun x => Nat.le_refl _⟩
/-- behind a call -/
theorem Ev.call {F2 H2 : Hp} {B2 : Fp} (e : Ev K cl G F H R F' H' σ ρ' A' zf) (le : Le F' F2) (lh : Le H' H2) (st : Sta ⟨H', F'⟩ F2 H2 B2) : Ev K cl G F H R F2 H2 σ ρ' A' B2 := by
  have old : ∀ a, 0 < A' a + R a → F' a = none ∧ G.E a = none ∧ ∃ o, H' a = some o := fun a ha => e.st.own a (by show 0 < A' a + (zf a + R a); unfold zf; omega)
  have keepF : ∀ a, 0 < A' a + R a → F2 a = none := fun a ha => by
    obtain ⟨h1, h2, o, h3⟩ := old a ha
    cases q : F2 a with
    | none => rfl
    | some w =>
      rcases st.fr a w q with z | z
      · rw [show F' a = some w from z] at h1; cases h1
      · rw [show H' a = none from z] at h3; cases h3
  refine ⟨e.le.trans le, fun a ha => ?_, ⟨st.sub, fun a o z => lh a o (e.st.ent a o z), fun a o z => le a o (e.st.low a o z), fun a o z => ?_, fun a ha => ?_, fun a => ?_⟩, e.en.mono le (fun a ha => ?_) fun _ => Nat.le_refl _⟩
  · obtain ⟨_, _, o, h3⟩ := old a (by omega)
    rw [lh a o h3]
    rw [← e.ag a ha]
    exact h3.symm
  · rcases st.fr a o z with q | q
    · exact e.st.fr a o q
    · right
      cases w : G.E a with
      | none => rfl
      | some u =>
        have := e.st.ent a u w
        rw [show H' a = none from q] at this; cases this
  · have ha' : 0 < A' a + (B2 a + R a) := ha
    by_cases hb : 0 < B2 a
    · obtain ⟨h1, h2, o, h3⟩ := st.own a hb
      refine ⟨h1, ?_, o, h3⟩
      cases w : G.E a with
      | none => rfl
      | some u =>
        have := e.st.ent a u w
        rw [show H' a = none from h2] at this; cases this
    · obtain ⟨h1, h2, o, h3⟩ := old a (by omega)
      exact ⟨keepF a (by omega), h2, o, lh a o h3⟩
  · show A' a + (B2 a + R a) ≤ 1
    have h1 : A' a + (zf a + R a) ≤ 1 := e.st.nd a
    have h2 : B2 a ≤ 1 := st.nd a
    unfold zf at h1
    by_cases hb : 0 < B2 a
    · by_cases ha : 0 < A' a + R a
      · obtain ⟨_, _, o, h3⟩ := old a ha
        obtain ⟨_, h2, _⟩ := st.own a hb
        rw [show H' a = none from h2] at h3; cases h3
      · omega
    · omega
  · obtain ⟨_, _, o, h3⟩ := old a (by omega)
    exact ⟨(lh a o h3).trans h3.symm, keepF a (by omega)⟩
theorem call_imp {n : Nat} {m : List D → RF} {dd : List D} {dv : List V} {a : Rho → RX (List D)} (hdd : ∀ F H, Owns X.K cl F H dd dv zf) (hlen : ∀ l, m l ≠ .bad → l.length = n) (σ : St) (H : Hp) (Q : VK) (q : tX X.K cl W (rD X.K cl) (eCall m dd a) σ H Q) :
    tCallSD (spF X.K cl n m) dv (WE W) (tX X.K cl W (rL X.K cl) a) σ H Q := by
  obtain ⟨G, F, ρ, A, R, st, en, p⟩ := q
  refine ⟨G, F, ρ, A, R, st, en, Pst.bind p fun x ρ1 v1 F1 H1 A1 B1 e1 o1 p1 => ?_⟩
  obtain ⟨e2, le2⟩ := e1.fz
  have o2 : Owns X.K cl (fz F1 H1 B1) H1 (D.frzs x) v1 zf := Owns.freeze o1 le2 fun a ha => fz_at ha
  have o3 := Owns.append o2 (hdd (fz F1 H1 B1) H1)
  refine ⟨?_, fz F1 H1 B1, D.frzs x ++ dd, e2.st.sub, o3, ?_⟩
  · rw [← Owns.length o3]
    refine hlen _ fun z => ?_
    simp only [z] at p1
    exact p1
  · have e3 : Ev X.K cl G F1 H1 R (fz F1 H1 B1) H1 σ ρ1 A1 zf := ⟨le2, fun _ _ => rfl, e2.st, e2.en⟩
    cases hm : m (D.frzs x ++ dd) with
    | rt d =>
      simp only [hm] at p1
      exact fun v F' H' B le lh st' o => p1 v F' H' A1 B (e3.call le lh st') o
    | ex c xs =>
      simp only [hm] at p1
      exact fun u d F' H' le lh st' o => p1 u d F' H' A1 (e3.call le lh st') o
    | bad => simp only [hm] at p1; exact p1.elim
end
end FL

set_option Elab.async false
set_option linter.all false
set_option maxRecDepth 100000
namespace FL
open PySem L2
section
variable {X : Cx} {cl : Nat → Cl} {W : WX'} {K : PySem.W.Frag}
variable {G : Gh} {F H F' H' : Hp} {R B A A' : Fp} {σ : St} {ρ ρ' : Rho} {pos : Pos}

/-! ### operators upon ints -/
def iOp (C : Int → Int → Bool) (g : Int → Int → D) (x y : D) : Option D :=
  match x, y with
  | .int i, .int j => if C i j then some (g i j) else none
  | _, _ => none
theorem iOp_some {C : Int → Int → Bool} {g : Int → Int → D} {x y d : D} (h : iOp C g x y = some d) : ∃ i j, x = .int i ∧ y = .int j ∧ C i j = true ∧ d = g i j := by
  unfold iOp at h
  split at h
  · rename_i i j
    split at h
    · rename_i hc; exact ⟨i, j, rfl, rfl, hc, (Option.some.inj h).symm⟩
    · cases h
  · cases h
def yes2 : Int → Int → Bool := fun _ _ => true
noncomputable def mulOk (i j : Int) : Bool := yes ((-(2 ^ 64) < i ∧ i < 2 ^ 64) ∨ (-(2 ^ 64) < j ∧ j < 2 ^ 64))
noncomputable def divOk (_ j : Int) : Bool := yes (0 < j ∧ j < 1073741824)
noncomputable def modOk (_ j : Int) : Bool := yes (0 < j)
theorem does_iOp {C : Int → Int → Bool} {g : Int → Int → D} {C' : Int → Int → Prop} {g' : Int → Int → V} (hC : ∀ i j, C i j = true → C' i j) (hg : ∀ i j F H, Own X.K cl F H (g i j) (g' i j) zf) : Does2 X cl (iOp C g) (rI C' g') := fun x y d hd G F H S B C vx vy Q st ox oy k => by
  obtain ⟨i, j, rfl, rfl, hc, rfl⟩ := iOp_some hd
  have e1 : vx = .int i := ox
  have e2 : vy = .int j := oy
  exact ⟨i, j, e1, e2, hC i j hc, k _ F H zf Le.refl (fun _ _ => rfl) (st.less fun z => by show zf z + S z ≤ _; unfold zf; omega) (hg i j F H)⟩
theorem does_iOp0 {g : Int → Int → D} {g' : Int → Int → V} (hg : ∀ i j F H, Own X.K cl F H (g i j) (g' i j) zf) : Does2 X cl (iOp yes2 g) (rI0 g') := fun x y d hd G F H S B C vx vy Q st ox oy k => by
  obtain ⟨i, j, rfl, rfl, hc, rfl⟩ := iOp_some hd
  have e1 : vx = .int i := ox
  have e2 : vy = .int j := oy
  exact ⟨i, j, e1, e2, k _ F H zf Le.refl (fun _ _ => rfl) (st.less fun z => by show zf z + S z ≤ _; unfold zf; omega) (hg i j F H)⟩
def subD : D → D → Option D := iOp yes2 fun i j => .int (i - j)
noncomputable def mulD : D → D → Option D := iOp mulOk fun i j => .int (i * j)
noncomputable def modD : D → D → Option D := iOp modOk fun i j => .int (i % j)
noncomputable def divD : D → D → Option D := iOp divOk fun i j => .int (i / j)
def ltD : D → D → Option D := iOp yes2 fun i j => .bl (decide (i < j))
def leD : D → D → Option D := iOp yes2 fun i j => .bl (decide (i ≤ j))
def gtD : D → D → Option D := iOp yes2 fun i j => .bl (decide (j < i))
def geD : D → D → Option D := iOp yes2 fun i j => .bl (decide (j ≤ i))
def addI : D → D → Option D := iOp yes2 fun i j => .int (i + j)
abbrev rSub' : R2 := rI0 fun i j => .int (i - j)
theorem d_sub : Does2 X cl subD (rI0 fun i j => .int (i - j)) := does_iOp0 fun _ _ _ _ => rfl
theorem d_addI : Does2 X cl addI (rI0 fun i j => .int (i + j)) := does_iOp0 fun _ _ _ _ => rfl
theorem d_mul : Does2 X cl mulD (rI CMul fun i j => .int (i * j)) := does_iOp (fun i j h => by unfold mulOk at h; have h' := of_yes h; exact h') fun _ _ _ _ => rfl
theorem d_mod : Does2 X cl modD (rI (fun _ j => 0 < j) fun i j => .int (i % j)) := does_iOp (fun _ _ h => of_yes h) fun _ _ _ _ => rfl
theorem d_div : Does2 X cl divD (rI CDiv fun i j => .int (i / j)) := does_iOp (fun i j h => by unfold divOk at h; have h' := of_yes h; exact h') fun _ _ _ _ => rfl
theorem d_lt : Does2 X cl ltD (rI0 fun i j => .bl (decide (i < j))) := does_iOp0 fun _ _ _ _ => rfl
theorem d_le : Does2 X cl leD (rI0 fun i j => .bl (decide (i ≤ j))) := does_iOp0 fun _ _ _ _ => rfl
theorem d_gt : Does2 X cl gtD (rI0 fun i j => .bl (decide (j < i))) := does_iOp0 fun _ _ _ _ => rfl
theorem d_ge : Does2 X cl geD (rI0 fun i j => .bl (decide (j ≤ i))) := does_iOp0 fun _ _ _ _ => rfl
def negD : D → Option D := fun x => match x with | .int i => some (.int (-i)) | _ => none
theorem d_neg : Does1 X cl negD (rU fun i => .int (-i)) := fun x d hd G F H S C vx Q st ox k => by
  cases x with
  | int i =>
    have e : d = .int (-i) := (Option.some.inj hd).symm
    subst e
    exact ⟨i, ox, k _ F H zf Le.refl (fun _ _ => rfl) (st.less fun z => by show zf z + S z ≤ _; unfold zf; omega) rfl⟩
  | _ => cases hd

/-! ### scalars -/
def scl : D → Option V
  | .non => some .non | .bl b => some (.bl b) | .int i => some (.int i) | .str s => some (.str s)
  | _ => none
theorem scl_own {d : D} {v w : V} {A : Fp} (h : scl d = some w) (o : Own K cl F H d v A) : v = w := by
  cases d with
  | non => cases h; exact o
  | bl b => cases h; exact o
  | int i => cases h; exact o
  | str s => cases h; exact o
  | _ => cases h
def eqS (x y : D) : Option D := match scl x, scl y with | some v, some w => if scal v w then some (.bl (decide (v = w))) else none | _, _ => none
def neS (x y : D) : Option D := match scl x, scl y with | some v, some w => if scal v w then some (.bl (!decide (v = w))) else none | _, _ => none
theorem d_eqS : Does2 X cl eqS rEq := fun x y d hd G F H S B C vx vy Q st ox oy k => by
  unfold eqS at hd
  cases hx : scl x with
  | none => rw [hx] at hd; cases hd
  | some v =>
    cases hy : scl y with
    | none => rw [hx, hy] at hd; cases hd
    | some w =>
      rw [hx, hy] at hd
      simp only at hd
      split at hd
      · rename_i hs
        have e1 := scl_own hx ox
        have e2 := scl_own hy oy
        subst e1 e2
        have e3 := (Option.some.inj hd).symm
        subst e3
        exact ⟨hs, k _ F H zf Le.refl (fun _ _ => rfl) (st.less fun z => by show zf z + S z ≤ _; unfold zf; omega) rfl⟩
      · cases hd
theorem d_neS : Does2 X cl neS rNe := fun x y d hd G F H S B C vx vy Q st ox oy k => by
  unfold neS at hd
  cases hx : scl x with
  | none => rw [hx] at hd; cases hd
  | some v =>
    cases hy : scl y with
    | none => rw [hx, hy] at hd; cases hd
    | some w =>
      rw [hx, hy] at hd
      simp only at hd
      split at hd
      · rename_i hs
        have e1 := scl_own hx ox
        have e2 := scl_own hy oy
        subst e1 e2
        have e3 := (Option.some.inj hd).symm
        subst e3
        exact ⟨hs, k _ F H zf Le.refl (fun _ _ => rfl) (st.less fun z => by show zf z + S z ≤ _; unfold zf; omega) rfl⟩
      · cases hd
def isB (x y : D) : Option D := match x, y with | .bl a, .bl b => some (.bl (decide (a = b))) | _, _ => none
theorem d_isB : Does2 X cl isB rIsB := fun x y d hd G F H S B C vx vy Q st ox oy k => by
  unfold isB at hd
  split at hd
  · rename_i a b
    have e := (Option.some.inj hd).symm
    subst e
    exact ⟨a, b, ox, oy, k _ F H zf Le.refl (fun _ _ => rfl) (st.less fun z => by show zf z + S z ≤ _; unfold zf; omega) rfl⟩
  · cases hd
/-- is None -/
def D.isNon : D → Bool
  | .non => true
  | _ => false
def isN (x y : D) : Option D := if y.isNon then some (.bl x.isNon) else none
def notN (x y : D) : Option D := if y.isNon then some (.bl (!x.isNon)) else none
theorem isNon_eq {d : D} (h : d.isNon = true) : d = .non := by cases d <;> first | rfl | cases h
theorem own_non {d : D} {v : V} {A : Fp} (o : Own K cl F H d v A) : decide (v = .non) = d.isNon := by
  cases d with
  | non => have e : v = .non := o; subst e; rfl
  | bl b => have e : v = .bl b := o; subst e; rfl
  | int b => have e : v = .int b := o; subst e; rfl
  | str b => have e : v = .str b := o; subst e; rfl
  | tup ds => obtain ⟨a, xs, e, _⟩ := o; subst e; rfl
  | lst ds => obtain ⟨a, xs, e, _⟩ := o; subst e; rfl
  | vec ds => obtain ⟨a, xs, B, e, _⟩ := o; subst e; rfl
  | obj c ds => obtain ⟨a, xs, B, e, _⟩ := o; subst e; rfl
  | mobj c ds => obtain ⟨a, xs, B, C, e, _⟩ := o; subst e; rfl
theorem d_isN : Does2 X cl isN (fun x y H Q => y = .non ∧ Q (.bl (decide (x = .non))) H) := fun x y d hd G F H S B C vx vy Q st ox oy k => by
  unfold isN at hd
  split at hd
  · rename_i hy
    have e := (Option.some.inj hd).symm
    subst e
    rw [isNon_eq hy] at oy
    refine ⟨oy, ?_⟩
    rw [own_non ox]
    exact k _ F H zf Le.refl (fun _ _ => rfl) (st.less fun z => by show zf z + S z ≤ _; unfold zf; omega) rfl
  · cases hd
theorem d_notN : Does2 X cl notN (fun x y H Q => y = .non ∧ Q (.bl (!decide (x = .non))) H) := fun x y d hd G F H S B C vx vy Q st ox oy k => by
  unfold notN at hd
  split at hd
  · rename_i hy
    have e := (Option.some.inj hd).symm
    subst e
    rw [isNon_eq hy] at oy
    refine ⟨oy, ?_⟩
    rw [own_non ox]
    exact k _ F H zf Le.refl (fun _ _ => rfl) (st.less fun z => by show zf z + S z ≤ _; unfold zf; omega) rfl
  · cases hd

/-! ### lists and tuples -/
/-- the items of any list or tuple -/
def sq : D → Option (List D)
  | .lst ds => some ds | .vec ds => some ds | .tup ds => some ds
  | _ => none
theorem own_sq {d : D} {ds : List D} {v : V} {A : Fp} (h : sq d = some ds) (o : Own K cl F H d v A) (sub : Le F H) : ∃ a xs, v = .ref a ∧ (SqL K H a xs ∨ SqT K H a xs) ∧ Owns K cl F H ds xs A := by
  cases d with
  | lst es => cases h; obtain ⟨a, xs, e, q, r⟩ := o; exact ⟨a, xs, e, .inl (sub.sqL q), r⟩
  | vec es => cases h; obtain ⟨a, xs, B, e, n, q, r, s⟩ := o; exact ⟨a, xs, e, .inl (SqL.of q), r.up fun x => by have := s x; omega⟩
  | tup es => cases h; obtain ⟨a, xs, e, q, r⟩ := o; exact ⟨a, xs, e, .inr (sub.sqT q), r⟩
  | _ => cases h
noncomputable def lenL (xs : List D) : Option D := match xs with | [d] => (match sq d with | some ds => some (.int ds.length) | none => (match d with | .str s => if yes (s.length ≤ 16777216) then some (.int s.length) else none | _ => none)) | _ => none
theorem d_len : DoesL X cl lenL (fun xs H Q => ∃ x n, xs = [x] ∧ LenV X.K x H n ∧ Q (.int n) H) := fun x d hd G F H S C vx Q st ox k => by
  unfold lenL at hd
  split at hd
  · rename_i d0
    obtain ⟨v, r, B, C', rfl, ov, os, hs⟩ := ox
    have er : r = [] := os
    subst er
    cases hq : sq d0 with
    | some ds =>
      rw [hq] at hd
      have e := (Option.some.inj hd).symm
      subst e
      obtain ⟨a, xs, rfl, q, r⟩ := own_sq hq ov st.sub
      have hl := Owns.length r
      refine ⟨.ref a, ds.length, rfl, ?_, k _ F H zf Le.refl (fun _ _ => rfl) (st.less fun z => by show zf z + S z ≤ _; unfold zf; omega) rfl⟩
      rcases q with q | q
      · exact .inl ⟨xs, q, hl⟩
      · exact .inr ⟨xs, q, hl⟩
    | none =>
      rw [hq] at hd
      cases d0 with
      | str s =>
        simp only at hd
        split at hd
        · rename_i hc
          have e := (Option.some.inj hd).symm
          subst e
          have ev : v = .str s := ov
          subst ev
          refine ⟨_, s.length, rfl, ⟨by have h1 := of_yes hc; rw [sizeLine_eq]; exact h1, rfl⟩, k _ F H zf Le.refl (fun _ _ => rfl) (st.less fun z => by show zf z + S z ≤ _; unfold zf; omega) rfl⟩
        · cases hd
      | _ => cases hd
  · cases hd
def maxL (xs : List D) : Option D := match xs with | [.int i, .int j] => some (.int (if j > i then j else i)) | _ => none
def minL (xs : List D) : Option D := match xs with | [.int i, .int j] => some (.int (if j < i then j else i)) | _ => none
theorem owns2 {x y : D} {vs : List V} {A : Fp} (o : Owns K cl F H [x, y] vs A) : ∃ v w, vs = [v, w] ∧ Own K cl F H x v A ∧ Own K cl F H y w A := by
  obtain ⟨v, r, B, C, rfl, o1, os, hs⟩ := o
  obtain ⟨w, r', B', C', rfl, o2, os', hs'⟩ := os
  have er : r' = [] := os'
  subst er
  exact ⟨v, w, rfl, o1.up fun x => by have := hs x; omega, o2.up fun x => by have := hs x; have := hs' x; omega⟩
theorem owns1 {x : D} {vs : List V} {A : Fp} (o : Owns K cl F H [x] vs A) : ∃ v, vs = [v] ∧ Own K cl F H x v A := by
  obtain ⟨v, r, B, C, rfl, o1, os, hs⟩ := o
  have er : r = [] := os
  subst er
  exact ⟨v, rfl, o1.up fun x => by have := hs x; omega⟩
theorem d_max : DoesL X cl maxL (fun xs H Q => ∃ i j, xs = [.int i, .int j] ∧ Q (.int (if j > i then j else i)) H) := fun x d hd G F H S C vx Q st ox k => by
  unfold maxL at hd
  split at hd
  · rename_i i j
    obtain ⟨v, w, rfl, o1, o2⟩ := owns2 ox
    have e := (Option.some.inj hd).symm
    subst e
    have e1 : v = .int i := o1
    have e2 : w = .int j := o2
    subst e1 e2
    exact ⟨i, j, rfl, k _ F H zf Le.refl (fun _ _ => rfl) (st.less fun z => by show zf z + S z ≤ _; unfold zf; omega) rfl⟩
  · cases hd
theorem d_min : DoesL X cl minL (fun xs H Q => ∃ i j, xs = [.int i, .int j] ∧ Q (.int (if j < i then j else i)) H) := fun x d hd G F H S C vx Q st ox k => by
  unfold minL at hd
  split at hd
  · rename_i i j
    obtain ⟨v, w, rfl, o1, o2⟩ := owns2 ox
    have e := (Option.some.inj hd).symm
    subst e
    have e1 : v = .int i := o1
    have e2 : w = .int j := o2
    subst e1 e2
    exact ⟨i, j, rfl, k _ F H zf Le.refl (fun _ _ => rfl) (st.less fun z => by show zf z + S z ≤ _; unfold zf; omega) rfl⟩
  · cases hd
def intL (xs : List D) : Option D := match xs with | [.int i] => some (.int i) | [.bl b] => some (.int (if b then 1 else 0)) | _ => none
theorem d_int : DoesL X cl intL (fun xs H Q => (∃ i, xs = [.int i] ∧ Q (.int i) H) ∨ ∃ k, xs = [.bl k] ∧ Q (.int (if k then 1 else 0)) H) := fun x d hd G F H S C vx Q st ox k => by
  unfold intL at hd
  split at hd
  · rename_i i
    obtain ⟨v, rfl, o1⟩ := owns1 ox
    have e := (Option.some.inj hd).symm
    subst e
    have e1 : v = .int i := o1
    subst e1
    exact .inl ⟨i, rfl, k _ F H zf Le.refl (fun _ _ => rfl) (st.less fun z => by show zf z + S z ≤ _; unfold zf; omega) rfl⟩
  · rename_i b
    obtain ⟨v, rfl, o1⟩ := owns1 ox
    have e := (Option.some.inj hd).symm
    subst e
    have e1 : v = .bl b := o1
    subst e1
    exact .inr ⟨b, rfl, k _ F H zf Le.refl (fun _ _ => rfl) (st.less fun z => by show zf z + S z ≤ _; unfold zf; omega) rfl⟩
  · cases hd
/-- tuple(xs) -/
def tupL (xs : List D) : Option D := match xs with | [d] => (match sq d with | some ds => some (.tup ds) | none => none) | _ => none
theorem d_tuple : DoesL X cl tupL (fun xs H Q => ∃ p ys, xs = [.ref p] ∧ ((SqL X.K H p ys ∧ ∀ l, H l = none → Q (.ref l) (upd H l (.tup ys))) ∨ (SqT X.K H p ys ∧ Q (.ref p) H))) := fun x d hd G F H S C vx Q st ox k => by
  unfold tupL at hd
  split at hd
  · rename_i d0
    obtain ⟨v, rfl, ov⟩ := owns1 ox
    have new : ∀ (ds : List D) (a : Addr) (xs : List V), SqL X.K H a xs → Owns X.K cl F H ds xs C → d = .tup ds → ∃ p ys, [V.ref a] = [.ref p] ∧ ((SqL X.K H p ys ∧ ∀ l, H l = none → Q (.ref l) (upd H l (.tup ys))) ∨ (SqT X.K H p ys ∧ Q (.ref p) H)) := fun ds a xs q r ed => by
      subst ed
      refine ⟨a, xs, rfl, .inl ⟨q, fun l hl => ?_⟩⟩
      obtain ⟨le, st2⟩ := lay_frozen (o := .tup xs) st hl
      refine k (.ref l) _ _ C le (fun b hb => ?_) st2 ⟨l, xs, rfl, SqT.of upd_same, r.laid st hl le fun b hb => (st2.own b (by show 0 < C b + S b; omega)).1⟩
      obtain ⟨_, _, u, h3⟩ := st.own b (by show 0 < C b + S b; omega)
      exact upd_ne (ne_of_none h3 hl)
    cases d0 with
    | lst ds =>
      obtain ⟨a, xs, rfl, q, r⟩ := ov
      exact new ds a xs (st.sub.sqL q) r (Option.some.inj hd).symm
    | vec ds =>
      obtain ⟨a, xs, B, rfl, n, q, r, s⟩ := ov
      exact new ds a xs (SqL.of q) (r.up fun x => by have := s x; omega) (Option.some.inj hd).symm
    | tup ds =>
      obtain ⟨a, xs, rfl, q, r⟩ := ov
      have e := (Option.some.inj hd).symm
      subst e
      exact ⟨a, xs, rfl, .inr ⟨st.sub.sqT q, k _ F H C Le.refl (fun _ _ => rfl) st ⟨a, xs, rfl, q, r⟩⟩⟩
    | _ => cases hd
  · cases hd
/-- list(xs) -/
def lisL (xs : List D) : Option D := match xs with | [d] => (match sq d with | some ds => some (.vec ds) | none => none) | _ => none
theorem d_list : DoesL X cl lisL (fun xs H Q => ∃ p ys, xs = [.ref p] ∧ (SqL X.K H p ys ∨ SqT X.K H p ys) ∧ ∀ l, H l = none → Q (.ref l) (upd H l (.lst ys))) := fun x d hd G F H S C vx Q st ox k => by
  unfold lisL at hd
  split at hd
  · rename_i d0
    obtain ⟨v, rfl, ov⟩ := owns1 ox
    cases hq : sq d0 with
    | none => rw [hq] at hd; cases hd
    | some ds =>
      rw [hq] at hd
      have e := (Option.some.inj hd).symm
      subst e
      obtain ⟨a, xs, rfl, q, r⟩ := own_sq hq ov st.sub
      refine ⟨a, xs, rfl, q, fun l hl => ?_⟩
      obtain ⟨fl, sl, st2⟩ := lay_owned (o := .lst xs) st hl
      refine k (.ref l) F _ (fun z => one l z + C z) Le.refl (fun b hb => ?_) (st2.less fun z => by show one l z + C z + S z ≤ one l z + (C z + S z); omega) ⟨l, xs, C, rfl, fl, upd_same, r.laid st hl Le.refl (fun b hb => (st.own b (by show 0 < C b + S b; omega)).1), fun _ => Nat.le_refl _⟩
      obtain ⟨_, _, u, h3⟩ := st.own b (by show 0 < C b + S b; omega)
      exact upd_ne (ne_of_none h3 hl)
  · cases hd
/-- x in xs, flat items -/
def flatD (d : D) : Bool := (scl d).isSome
def eqvD (x y : D) : Bool := match scl x, scl y with | some v, some w => eqV v w | _, _ => false
def inD (x y : D) : Option D := match sq y with | some ds => if flatD x && ds.all flatD then some (.bl (ds.any fun d => eqvD d x)) else none | none => none
def ninD (x y : D) : Option D := match sq y with | some ds => if flatD x && ds.all flatD then some (.bl (!ds.any fun d => eqvD d x)) else none | none => none
theorem flat_own {d : D} {v : V} {A : Fp} (h : flatD d = true) (o : Own K cl F H d v A) : scl d = some v ∧ flatV v = true := by
  cases d with
  | non => have e : v = .non := o; subst e; exact ⟨rfl, rfl⟩
  | bl b => have e : v = .bl b := o; subst e; exact ⟨rfl, rfl⟩
  | int b => have e : v = .int b := o; subst e; exact ⟨rfl, rfl⟩
  | str b => have e : v = .str b := o; subst e; exact ⟨rfl, rfl⟩
  | _ => cases h
theorem any_own {x : D} {v : V} (hx : scl x = some v) : ∀ {ds : List D} {vs : List V} {A : Fp}, ds.all flatD = true → Owns K cl F H ds vs A → vs.all flatV = true ∧ (vs.any fun y => eqV y v) = ds.any fun d => eqvD d x
  | [], vs, _, _, o => by have e : vs = [] := o; subst e; exact ⟨rfl, rfl⟩
  | d :: ds, vs, A, h, o => by
    obtain ⟨w, r, B, C, rfl, p, q, s⟩ := o
    rw [List.all_cons, Bool.and_eq_true] at h
    obtain ⟨h1, h2⟩ := flat_own h.1 p
    obtain ⟨h3, h4⟩ := any_own hx h.2 q
    refine ⟨by rw [List.all_cons, h2, h3]; rfl, ?_⟩
    rw [List.any_cons, List.any_cons, h4]
    have : eqvD d x = eqV w v := by unfold eqvD; rw [h1, hx]
    rw [this]
theorem d_in : Does2 X cl inD (rIn X.K false) := fun x y d hd G F H S B C vx vy Q st ox oy k => by
  unfold inD at hd
  cases hq : sq y with
  | none => rw [hq] at hd; cases hd
  | some ds =>
    rw [hq] at hd
    simp only at hd
    split at hd
    · rename_i hf
      rw [Bool.and_eq_true] at hf
      have e := (Option.some.inj hd).symm
      subst e
      obtain ⟨a, xs, rfl, q, r⟩ := own_sq hq oy st.sub
      obtain ⟨h1, h2⟩ := flat_own hf.1 ox
      obtain ⟨h3, h4⟩ := any_own h1 hf.2 r
      refine ⟨a, xs, rfl, q, h2, h3, ?_⟩
      rw [if_neg Bool.false_ne_true]
      unfold inV
      rw [h4]
      exact k _ F H zf Le.refl (fun _ _ => rfl) (st.less fun z => by show zf z + S z ≤ _; unfold zf; omega) rfl
    · cases hd
theorem d_nin : Does2 X cl ninD (rIn X.K true) := fun x y d hd G F H S B C vx vy Q st ox oy k => by
  unfold ninD at hd
  cases hq : sq y with
  | none => rw [hq] at hd; cases hd
  | some ds =>
    rw [hq] at hd
    simp only at hd
    split at hd
    · rename_i hf
      rw [Bool.and_eq_true] at hf
      have e := (Option.some.inj hd).symm
      subst e
      obtain ⟨a, xs, rfl, q, r⟩ := own_sq hq oy st.sub
      obtain ⟨h1, h2⟩ := flat_own hf.1 ox
      obtain ⟨h3, h4⟩ := any_own h1 hf.2 r
      refine ⟨a, xs, rfl, q, h2, h3, ?_⟩
      rw [if_pos rfl]
      unfold inV
      rw [h4]
      exact k _ F H zf Le.refl (fun _ _ => rfl) (st.less fun z => by show zf z + S z ≤ _; unfold zf; omega) rfl
    · cases hd
/-- xs[i], of what is no name -/
def ixD (x y : D) : Option D := match sq x, y with | some ds, .int i => atI ds i | _, _ => none
theorem atI_own {ds : List D} {vs : List V} {A : Fp} {i : Int} {d : D} (o : Owns K cl F H ds vs A) (h : atI ds i = some d) : ∃ v, atI vs i = some v ∧ Own K cl F H d v A := by
  have hl := Owns.length o
  unfold atI at h ⊢
  rw [← hl]
  cases hq : ixN ds.length i with
  | none => rw [hq] at h; cases h
  | some j =>
    rw [hq] at h
    exact o.get h
theorem d_ix : Does2 X cl ixD (rIx X.K) := fun x y d hd G F H S B C vx vy Q st ox oy k => by
  unfold ixD at hd
  split at hd
  · rename_i ds i hq
    obtain ⟨a, xs, rfl, q, r⟩ := own_sq hq ox st.sub
    obtain ⟨v, hv, ov⟩ := atI_own r hd
    have ei : vy = .int i := oy
    have kk := k v F H C Le.refl (fun _ _ => rfl) (st.less fun z => by show C z + S z ≤ B z + (C z + S z); omega) ov
    rcases q with q | q
    · exact .inl ⟨a, xs, i, v, rfl, ei, q, hv, kk⟩
    · exact .inr (.inl ⟨a, xs, i, v, rfl, ei, q, hv, kk⟩)
  · cases hd
end
end FL

set_option Elab.async false
set_option linter.all false
set_option maxRecDepth 100000
namespace FL
open PySem L2
section
variable {X : Cx} {cl : Nat → Cl} {W : WX'} {K : PySem.W.Frag}
variable {G : Gh} {F H F' H' : Hp} {R B A A' : Fp} {σ : St} {ρ ρ' : Rho} {pos : Pos}

/-! ### operators, as written -/
theorem bin_imp {a b : Rho → RX D} {f : D → D → Option D} {r : R2} (hf : Does2 X cl f r) {σ : St} {H : Hp} {Q : VK} (q : tX X.K cl W (rD X.K cl) (eBin f a b) σ H Q) : tOp r (tX X.K cl W (rD X.K cl) a) (tX X.K cl W (rD X.K cl) b) σ H Q := by
  obtain ⟨G, F, ρ, A, R, st, en, p⟩ := q
  refine ⟨G, F, ρ, A, R, st, en, Pst.bind p fun x ρ1 v1 F1 H1 A1 B1 e1 o1 p1 => ?_⟩
  refine tX.run e1 (Pst.bindC p1 fun y ρ2 v2 F2 H2 A2 B2 e2 o2 p2 => ?_)
  cases hd : f x y with
  | none => rw [hd] at p2; exact p2.elim
  | some d =>
    rw [hd] at p2
    refine hf x y d hd G F2 H2 (fun z => A2 z + R z) B2 B1 v1 v2 Q (e2.st.less fun z => ?_) (e2.keep o1) o2 (Pst.does p2 (e2.st.less fun z => ?_) e2.en)
    · show B2 z + (B1 z + (A2 z + R z)) ≤ A2 z + (B2 z + (B1 z + R z)); omega
    · show A2 z + R z ≤ A2 z + (B2 z + (B1 z + R z)); omega
/-- two ways to read an operator -/
def orO (f g : D → D → Option D) (x y : D) : Option D := match f x y with | some d => some d | none => g x y
theorem Does2.or {f g : D → D → Option D} {r r' : R2} (h : Does2 X cl f r) (h' : Does2 X cl g r') : Does2 X cl (orO f g) (fun x y H Q => r x y H Q ∨ r' x y H Q) := fun x y d hd G F H S B C vx vy Q st ox oy k => by
  unfold orO at hd
  cases hf : f x y with
  | some w =>
    rw [hf] at hd
    have e := Option.some.inj hd
    subst e
    exact .inl (h x y _ hf G F H S B C vx vy Q st ox oy k)
  | none =>
    rw [hf] at hd
    exact .inr (h' x y d hd G F H S B C vx vy Q st ox oy k)
section
variable {a b c : Expr} {ma mb mc : Rho → RX D}
theorem fe_op {op : Operator} {f : D → D → Option D} {r : R2} (hf : Does2 X cl f r) (ho : OpR X (binaryOp op) r) (ha : FE X cl W a ma) (hb : FE X cl W b mb) : FE X cl W (.BinOp a op b pos) (eBin f ma mb) := fe_bin hf (pe_op ho ha hb)
theorem fe_neg (ha : FE X cl W a ma) : FE X cl W (.UnaryOp .USub a pos) (eUn negD ma) := fe_un d_neg (pe_un un_neg ha)
theorem fe_cmp {op : CmpOp} {f : D → D → Option D} {r : R2} (hf : Does2 X cl f r) (ho : OpR X (compareOp op) r) (ha : FE X cl W a ma) (hb : FE X cl W b mb) (hm : behindInMarks op b = false) : FE X cl W (.Compare a [op] [b] pos) (eBin f ma mb) := fe_bin hf (pe_cmpR ho ha hb hm)
theorem ft_cmpR {op : CmpOp} {f : D → D → Option D} {r : R2} (hf : Does2 X cl f r) (ho : OpR X (compareOp op) r) (ha : FE X cl W a ma) (hb : FE X cl W b mb) (hm : behindInMarks op b = false) : FT X cl W (.Compare a [op] [b] pos) (tB1 (eBin f ma mb)) := ft_cmp (pt_cmpR ho ha hb hm) fun _ _ _ q => bin_imp hf q
theorem fe_chain {op op' : CmpOp} {f g : D → D → Option D} {r r' : R2} (hf : Does2 X cl f r) (hg : Does2 X cl g r') (ho : OpR X (compareOp op) r) (ho' : OpR X (compareOp op') r') (ha : FE X cl W a ma) (hb : FE X cl W b mb) (hc : FE X cl W c mc)
    (hm : lastMarks [op, op'] [b, c] = false) : FE X cl W (.Compare a [op, op'] [b, c] pos) (eChain f g ma mb mc) := PE_imp (pe_chain ho ho' ha hb hc hm) fun _ _ _ q => chain_imp hf hg q
theorem ft_chain {op op' : CmpOp} {f g : D → D → Option D} {r r' : R2} (hf : Does2 X cl f r) (hg : Does2 X cl g r') (ho : OpR X (compareOp op) r) (ho' : OpR X (compareOp op') r') (ha : FE X cl W a ma) (hb : FE X cl W b mb) (hc : FE X cl W c mc)
    (hm : lastMarks [op, op'] [b, c] = false) : FT X cl W (.Compare a [op, op'] [b, c] pos) (tB1 (eChain f g ma mb mc)) := PT_imp (pt_chain ho ho' ha hb hc hm) fun σ H Q q => by
  have q' : tX X.K cl W (rD X.K cl) (eChain f g ma mb mc) σ H (fun x H' => ∃ k, x = .bl k ∧ Q k H') := by
    obtain ⟨G, F, ρ, A, R, st, en, p⟩ := q
    refine ⟨G, F, ρ, A, R, st, en, Pst.bind p fun x ρ1 v1 F1 H1 A1 B1 e1 o1 p1 => ?_⟩
    cases x with
    | bl k => exact ⟨k, o1, Pst.ok p1 e1 rfl⟩
    | _ => exact p1.elim
  exact chain_imp hf hg q'
theorem fe_ix (ha : FE X cl W a ma) (hb : FE X cl W b mb) (hs : PlainIx b) : FE X cl W (.Subscript a b pos) (eBin ixD ma mb) := fe_bin d_ix (pe_ix ix_seq ha hb hs)
end

/-! ### the names' rules -/
theorem fe_v (i : Nat) {x : Str} {pos : Pos} (hN : X.N[i]? = some x := by rfl) (hv : Vis X.env.scope x := by first | exact Or.inl rfl | exact Or.inr (Or.inl rfl) | exact Or.inr (Or.inr rfl)) (hd : (x == ("__debug__" : Str)) = false := by decide)
    (hcd : (x == ("__classdict__" : Str)) = false := by decide) : FE X cl W (.Name x pos) (eV i) := fe_var (pv i hN hv hd hcd)
theorem fe_m (i : Nat) {x : Str} {pos : Pos} (hN : X.N[i]? = some x := by rfl) (hv : Vis X.env.scope x := by first | exact Or.inl rfl | exact Or.inr (Or.inl rfl) | exact Or.inr (Or.inr rfl)) (hd : (x == ("__debug__" : Str)) = false := by decide)
    (hcd : (x == ("__classdict__" : Str)) = false := by decide) : FE X cl W (.Name x pos) (eM i) := fe_move (pv i hN hv hd hcd)

/-! ### quiet parts: nothing is made, nothing changes; what it comes to may stay in the frame -/
def tQ (K : PySem.W.Frag) (cl : Nat → Cl) (m : Rho → Option D) (σ : St) (H : Hp) (Q : V → Hp → Prop) : Prop :=
  ∃ (G : Gh) (F : Hp) (ρ : Rho) (A R : Fp), Sta G F H (fun x => A x + R x) ∧ EnvR K cl F H ρ σ A ∧ match m ρ with | some d => ∀ v, Own K cl F H d v A → Q v H | none => False
def tQT (K : PySem.W.Frag) (cl : Nat → Cl) (m : Rho → Option Bool) (σ : St) (H : Hp) (Q : Bool → Hp → Prop) : Prop :=
  ∃ (G : Gh) (F : Hp) (ρ : Rho) (A R : Fp), Sta G F H (fun x => A x + R x) ∧ EnvR K cl F H ρ σ A ∧ match m ρ with | some b => Q b H | none => False
abbrev FQ (X : Cx) (cl : Nat → Cl) (e : Expr) (m : Rho → Option D) : Prop := PE X e (tQ X.K cl m)
abbrev FQT (X : Cx) (cl : Nat → Cl) (e : Expr) (m : Rho → Option Bool) : Prop := PT X e (tQT X.K cl m)
def qV (i : Nat) : Rho → Option D := fun ρ => match ρ[i]? with | some (some d) => some d | _ => none
def qC (d : D) : Rho → Option D := fun _ => some d
def qBin (f : D → D → Option D) (a b : Rho → Option D) : Rho → Option D := fun ρ => (a ρ).bind fun x => (b ρ).bind fun y => f x y
def qUn (f : D → Option D) (a : Rho → Option D) : Rho → Option D := fun ρ => (a ρ).bind f
def qB (a : Rho → Option D) : Rho → Option Bool := fun ρ => (a ρ).bind fun x => match x with | .bl b => some b | _ => none
def andB : D → Option D → Option D
  | .bl true, k => k
  | .bl false, _ => some (.bl false)
  | _, _ => none
def orB : D → Option D → Option D
  | .bl true, _ => some (.bl true)
  | .bl false, k => k
  | _, _ => none
def qAnd (a b : Rho → Option D) : Rho → Option D := fun ρ => (a ρ).bind fun x => andB x (b ρ)
def qOr (a b : Rho → Option D) : Rho → Option D := fun ρ => (a ρ).bind fun x => orB x (b ρ)
def qNot (a : Rho → Option D) : Rho → Option D := fun ρ => (a ρ).bind fun x => match x with | .bl b => some (.bl (!b)) | _ => none
def qIf (t : Rho → Option Bool) (a b : Rho → Option D) : Rho → Option D := fun ρ => (t ρ).bind fun x => if x then a ρ else b ρ
def qAndT (a b : Rho → Option Bool) : Rho → Option Bool := fun ρ => (a ρ).bind fun x => if x then b ρ else some false
def qOrT (a b : Rho → Option Bool) : Rho → Option Bool := fun ρ => (a ρ).bind fun x => if x then some true else b ρ
def qNotT (a : Rho → Option Bool) : Rho → Option Bool := fun ρ => (a ρ).bind fun x => some (!x)
def qChain (f g : D → D → Option D) (a b c : Rho → Option D) : Rho → Option D := fun ρ => (a ρ).bind fun x => (b ρ).bind fun y => (f x y).bind fun r => andB r ((c ρ).bind fun z => g y z)

/-- a rule that changes nothing -/
def Quiet2 (X : Cx) (cl : Nat → Cl) (f : D → D → Option D) (r : R2) : Prop :=
  ∀ (x y d : D), f x y = some d → ∀ (F H : Hp) (A : Fp) (vx vy : V) (Q : VK), Le F H → Own X.K cl F H x vx A → Own X.K cl F H y vy A → (∀ v, Own X.K cl F H d v A → Q v H) → r vx vy H Q
def QuietL (X : Cx) (cl : Nat → Cl) (f : List D → Option D) (r : List V → Hp → VK → Prop) : Prop :=
  ∀ (x : List D) (d : D), f x = some d → ∀ (F H : Hp) (A : Fp) (vx : List V) (Q : VK), Le F H → Owns X.K cl F H x vx (fun z => A z + A z) → (∀ v, Own X.K cl F H d v A → Q v H) → r vx H Q
theorem q_iOp {C : Int → Int → Bool} {g : Int → Int → D} {C' : Int → Int → Prop} {g' : Int → Int → V} (hC : ∀ i j, C i j = true → C' i j) (hg : ∀ i j F H A, Own X.K cl F H (g i j) (g' i j) A) : Quiet2 X cl (iOp C g) (rI C' g') := fun x y d hd F H A vx vy Q sub ox oy k => by
  obtain ⟨i, j, rfl, rfl, hc, rfl⟩ := iOp_some hd
  exact ⟨i, j, ox, oy, hC i j hc, k _ (hg i j F H A)⟩
theorem q_iOp0 {g : Int → Int → D} {g' : Int → Int → V} (hg : ∀ i j F H A, Own X.K cl F H (g i j) (g' i j) A) : Quiet2 X cl (iOp yes2 g) (rI0 g') := fun x y d hd F H A vx vy Q sub ox oy k => by
  obtain ⟨i, j, rfl, rfl, hc, rfl⟩ := iOp_some hd
  exact ⟨i, j, ox, oy, k _ (hg i j F H A)⟩
theorem q_sub : Quiet2 X cl subD (rI0 fun i j => .int (i - j)) := q_iOp0 fun _ _ _ _ _ => rfl
theorem q_addI : Quiet2 X cl addI (rI0 fun i j => .int (i + j)) := q_iOp0 fun _ _ _ _ _ => rfl
theorem q_mul : Quiet2 X cl mulD (rI CMul fun i j => .int (i * j)) := q_iOp (fun i j h => by unfold mulOk at h; have h' := of_yes h; exact h') fun _ _ _ _ _ => rfl
theorem q_mod : Quiet2 X cl modD (rI (fun _ j => 0 < j) fun i j => .int (i % j)) := q_iOp (fun _ _ h => of_yes h) fun _ _ _ _ _ => rfl
theorem q_div : Quiet2 X cl divD (rI CDiv fun i j => .int (i / j)) := q_iOp (fun i j h => by unfold divOk at h; have h' := of_yes h; exact h') fun _ _ _ _ _ => rfl
theorem q_lt : Quiet2 X cl ltD (rI0 fun i j => .bl (decide (i < j))) := q_iOp0 fun _ _ _ _ _ => rfl
theorem q_le : Quiet2 X cl leD (rI0 fun i j => .bl (decide (i ≤ j))) := q_iOp0 fun _ _ _ _ _ => rfl
theorem q_gt : Quiet2 X cl gtD (rI0 fun i j => .bl (decide (j < i))) := q_iOp0 fun _ _ _ _ _ => rfl
theorem q_ge : Quiet2 X cl geD (rI0 fun i j => .bl (decide (j ≤ i))) := q_iOp0 fun _ _ _ _ _ => rfl
theorem q_eqS : Quiet2 X cl eqS rEq := fun x y d hd F H A vx vy Q sub ox oy k => by
  unfold eqS at hd
  cases hx : scl x with
  | none => rw [hx] at hd; cases hd
  | some v =>
    cases hy : scl y with
    | none => rw [hx, hy] at hd; cases hd
    | some w =>
      rw [hx, hy] at hd
      simp only at hd
      split at hd
      · rename_i hs
        have e1 := scl_own hx ox
        have e2 := scl_own hy oy
        subst e1 e2
        have e3 := (Option.some.inj hd).symm
        subst e3
        exact ⟨hs, k _ rfl⟩
      · cases hd
theorem q_neS : Quiet2 X cl neS rNe := fun x y d hd F H A vx vy Q sub ox oy k => by
  unfold neS at hd
  cases hx : scl x with
  | none => rw [hx] at hd; cases hd
  | some v =>
    cases hy : scl y with
    | none => rw [hx, hy] at hd; cases hd
    | some w =>
      rw [hx, hy] at hd
      simp only at hd
      split at hd
      · rename_i hs
        have e1 := scl_own hx ox
        have e2 := scl_own hy oy
        subst e1 e2
        have e3 := (Option.some.inj hd).symm
        subst e3
        exact ⟨hs, k _ rfl⟩
      · cases hd
theorem q_isB : Quiet2 X cl isB rIsB := fun x y d hd F H A vx vy Q sub ox oy k => by
  unfold isB at hd
  split at hd
  · rename_i a b
    have e := (Option.some.inj hd).symm
    subst e
    exact ⟨a, b, ox, oy, k _ rfl⟩
  · cases hd
theorem q_isN : Quiet2 X cl isN (fun x y H Q => y = .non ∧ Q (.bl (decide (x = .non))) H) := fun x y d hd F H A vx vy Q sub ox oy k => by
  unfold isN at hd
  split at hd
  · rename_i hy
    have e := (Option.some.inj hd).symm
    subst e
    rw [isNon_eq hy] at oy
    refine ⟨oy, ?_⟩
    rw [own_non ox]
    exact k _ rfl
  · cases hd
theorem q_notN : Quiet2 X cl notN (fun x y H Q => y = .non ∧ Q (.bl (!decide (x = .non))) H) := fun x y d hd F H A vx vy Q sub ox oy k => by
  unfold notN at hd
  split at hd
  · rename_i hy
    have e := (Option.some.inj hd).symm
    subst e
    rw [isNon_eq hy] at oy
    refine ⟨oy, ?_⟩
    rw [own_non ox]
    exact k _ rfl
  · cases hd
theorem q_in : Quiet2 X cl inD (rIn X.K false) := fun x y d hd F H A vx vy Q sub ox oy k => by
  unfold inD at hd
  cases hq : sq y with
  | none => rw [hq] at hd; cases hd
  | some ds =>
    rw [hq] at hd
    simp only at hd
    split at hd
    · rename_i hf
      rw [Bool.and_eq_true] at hf
      have e := (Option.some.inj hd).symm
      subst e
      obtain ⟨a, xs, rfl, q, r⟩ := own_sq hq oy sub
      obtain ⟨h1, h2⟩ := flat_own hf.1 ox
      obtain ⟨h3, h4⟩ := any_own h1 hf.2 r
      refine ⟨a, xs, rfl, q, h2, h3, ?_⟩
      rw [if_neg Bool.false_ne_true]
      unfold inV
      rw [h4]
      exact k _ rfl
    · cases hd
theorem q_nin : Quiet2 X cl ninD (rIn X.K true) := fun x y d hd F H A vx vy Q sub ox oy k => by
  unfold ninD at hd
  cases hq : sq y with
  | none => rw [hq] at hd; cases hd
  | some ds =>
    rw [hq] at hd
    simp only at hd
    split at hd
    · rename_i hf
      rw [Bool.and_eq_true] at hf
      have e := (Option.some.inj hd).symm
      subst e
      obtain ⟨a, xs, rfl, q, r⟩ := own_sq hq oy sub
      obtain ⟨h1, h2⟩ := flat_own hf.1 ox
      obtain ⟨h3, h4⟩ := any_own h1 hf.2 r
      refine ⟨a, xs, rfl, q, h2, h3, ?_⟩
      rw [if_pos rfl]
      unfold inV
      rw [h4]
      exact k _ rfl
    · cases hd
theorem q_ix : Quiet2 X cl ixD (rIx X.K) := fun x y d hd F H A vx vy Q sub ox oy k => by
  unfold ixD at hd
  split at hd
  · rename_i ds i hq
    obtain ⟨a, xs, rfl, q, r⟩ := own_sq hq ox sub
    obtain ⟨v, hv, ov⟩ := atI_own r hd
    have ei : vy = .int i := oy
    rcases q with q | q
    · exact .inl ⟨a, xs, i, v, rfl, ei, q, hv, k v ov⟩
    · exact .inr (.inl ⟨a, xs, i, v, rfl, ei, q, hv, k v ov⟩)
  · cases hd
theorem Quiet2.or {f g : D → D → Option D} {r r' : R2} (h : Quiet2 X cl f r) (h' : Quiet2 X cl g r') : Quiet2 X cl (orO f g) (fun x y H Q => r x y H Q ∨ r' x y H Q) := fun x y d hd F H A vx vy Q sub ox oy k => by
  unfold orO at hd
  cases hf : f x y with
  | some w =>
    rw [hf] at hd
    have e := Option.some.inj hd
    subst e
    exact .inl (h x y _ hf F H A vx vy Q sub ox oy k)
  | none =>
    rw [hf] at hd
    exact .inr (h' x y d hd F H A vx vy Q sub ox oy k)

theorem fq_const {e : Expr} {d : D} {v : V} (h : PE X e (tC v)) (hd : ∀ F H A w, Own X.K cl F H d w A ↔ w = v) : FQ X cl e (qC d) := PE_imp h fun σ H Q q => by
  obtain ⟨G, F, ρ, A, R, st, en, p⟩ := q
  exact p v ((hd _ _ _ _).mpr rfl)
theorem fq_int {i j pos} : FQ X cl (.Constant (.int i) j pos) (qC (.int i)) := fq_const pe_int fun _ _ _ _ => Iff.rfl
theorem fq_bl {b j pos} : FQ X cl (.Constant (.bool b) j pos) (qC (.bl b)) := fq_const pe_bl fun _ _ _ _ => Iff.rfl
theorem fq_non {j pos} : FQ X cl (.Constant .none j pos) (qC .non) := fq_const pe_non fun _ _ _ _ => Iff.rfl
theorem fq_str {x j pos} : FQ X cl (.Constant (.str x) j pos) (qC (.str x)) := fq_const pe_str fun _ _ _ _ => Iff.rfl
theorem fq_var {i : Nat} {x : Str} {pos : Pos} (h : PE X (.Name x pos) (tVar i)) : FQ X cl (.Name x pos) (qV i) := PE_imp h fun σ H Q q => by
  obtain ⟨G, F, ρ, A, R, st, en, p⟩ := q
  unfold qV at p
  cases e : ρ[i]? with
  | none => rw [e] at p; exact p.elim
  | some o =>
    cases o with
    | none => rw [e] at p; exact p.elim
    | some d =>
      rw [e] at p
      obtain ⟨v, B, C, hv, o, en', hs⟩ := en.get e
      exact ⟨v, hv, p v (o.up fun x => by have := hs x; omega)⟩
theorem fq_v (i : Nat) {x : Str} {pos : Pos} (hN : X.N[i]? = some x := by rfl) (hv : Vis X.env.scope x := by first | exact Or.inl rfl | exact Or.inr (Or.inl rfl) | exact Or.inr (Or.inr rfl)) (hd : (x == ("__debug__" : Str)) = false := by decide)
    (hcd : (x == ("__classdict__" : Str)) = false := by decide) : FQ X cl (.Name x pos) (qV i) := fq_var (pv i hN hv hd hcd)
/-- a quiet part as a value: it must be pure, or its frame's thing is taken by hand -/
def eQ (m : Rho → Option D) : Rho → RX D := fun ρ => match m ρ with | some d => if d.pure then .ok d ρ else .bad | none => .bad
theorem fe_q {e : Expr} {m : Rho → Option D} (h : FQ X cl e m) : FE X cl W e (eQ m) := PE_imp h fun σ H Q q => by
  obtain ⟨G, F, ρ, A, R, st, en, p⟩ := q
  refine ⟨G, F, ρ, A, R, st, en, ?_⟩
  unfold eQ at p
  cases hm : m ρ with
  | none => rw [hm] at p; exact p.elim
  | some d =>
    rw [hm] at p
    by_cases hp : d.pure = true
    · simp only [hp, if_true] at p
      exact fun v o => p v F H A zf (Ev.self st en) (o.of_pure hp)
    · simp only [hp] at p; exact p.elim
def tQ1 (m : Rho → Option Bool) : Rho → RX Bool := fun ρ => match m ρ with | some b => .ok b ρ | none => .bad
theorem ft_q {e : Expr} {m : Rho → Option Bool} (h : FQT X cl e m) : FT X cl W e (tQ1 m) := PT_imp h fun σ H Q q => by
  obtain ⟨G, F, ρ, A, R, st, en, p⟩ := q
  refine ⟨G, F, ρ, A, R, st, en, ?_⟩
  unfold tQ1 at p
  cases hm : m ρ with
  | none => rw [hm] at p; exact p.elim
  | some b => rw [hm] at p; exact p b F H A zf (Ev.self st en) rfl
theorem qbin_imp {a b : Rho → Option D} {f : D → D → Option D} {r : R2} (hf : Quiet2 X cl f r) {σ : St} {H : Hp} {Q : VK} (q : tQ X.K cl (qBin f a b) σ H Q) : tOp r (tQ X.K cl a) (tQ X.K cl b) σ H Q := by
  obtain ⟨G, F, ρ, A, R, st, en, p⟩ := q
  refine ⟨G, F, ρ, A, R, st, en, ?_⟩
  unfold qBin at p
  cases ha : a ρ with
  | none => rw [ha] at p; exact p.elim
  | some x =>
    rw [ha] at p
    intro v1 o1
    refine ⟨G, F, ρ, A, R, st, en, ?_⟩
    cases hb : b ρ with
    | none => simp only [Option.bind_some, hb] at p; exact p.elim
    | some y =>
      simp only [Option.bind_some, hb] at p
      intro v2 o2
      cases hd : f x y with
      | none => rw [hd] at p; exact p.elim
      | some d =>
        rw [hd] at p
        exact hf x y d hd F H A v1 v2 Q st.sub o1 o2 p
theorem fq_bin {e : Expr} {a b : Rho → Option D} {f : D → D → Option D} {r : R2} (hf : Quiet2 X cl f r) (h : PE X e (tOp r (tQ X.K cl a) (tQ X.K cl b))) : FQ X cl e (qBin f a b) := PE_imp h fun _ _ _ q => qbin_imp hf q
section
variable {a b c : Expr} {ma mb mc : Rho → Option D} {rest : List Expr}
theorem fq_op {op : Operator} {f : D → D → Option D} {r : R2} (hf : Quiet2 X cl f r) (ho : OpR X (binaryOp op) r) (ha : FQ X cl a ma) (hb : FQ X cl b mb) : FQ X cl (.BinOp a op b pos) (qBin f ma mb) := fq_bin hf (pe_op ho ha hb)
theorem fq_cmp {op : CmpOp} {f : D → D → Option D} {r : R2} (hf : Quiet2 X cl f r) (ho : OpR X (compareOp op) r) (ha : FQ X cl a ma) (hb : FQ X cl b mb) (hm : behindInMarks op b = false) : FQ X cl (.Compare a [op] [b] pos) (qBin f ma mb) := fq_bin hf (pe_cmpR ho ha hb hm)
theorem fq_ix (ha : FQ X cl a ma) (hb : FQ X cl b mb) (hs : PlainIx b) : FQ X cl (.Subscript a b pos) (qBin ixD ma mb) := fq_bin q_ix (pe_ix ix_seq ha hb hs)
theorem fq_neg (ha : FQ X cl a ma) : FQ X cl (.UnaryOp .USub a pos) (qUn negD ma) := PE_imp (pe_un un_neg ha) fun σ H Q q => by
  obtain ⟨G, F, ρ, A, R, st, en, p⟩ := q
  refine ⟨G, F, ρ, A, R, st, en, ?_⟩
  unfold qUn at p
  cases ha : ma ρ with
  | none => rw [ha] at p; exact p.elim
  | some x =>
    rw [ha] at p
    intro v1 o1
    cases x with
    | int i => exact ⟨i, o1, p _ rfl⟩
    | _ => exact p.elim
theorem fqt_val {e : Expr} {m : Rho → Option D} (h : FQ X cl e m) (he : ∀ whole, isTrue e X.env whole = (do let v ← whole; standAt e.pos; holding [v] (truthy v)) := by intro _; rfl) : FQT X cl e (qB m) := PT_imp (pt_val h he) fun σ H Q q => by
  obtain ⟨G, F, ρ, A, R, st, en, p⟩ := q
  refine ⟨G, F, ρ, A, R, st, en, ?_⟩
  unfold qB at p
  cases ha : m ρ with
  | none => rw [ha] at p; exact p.elim
  | some x =>
    rw [ha] at p
    intro v1 o1
    cases x with
    | bl b => exact ⟨b, o1, p⟩
    | _ => exact p.elim
theorem fqt_cmp {op : CmpOp} {f : D → D → Option D} {r : R2} (hf : Quiet2 X cl f r) (ho : OpR X (compareOp op) r) (ha : FQ X cl a ma) (hb : FQ X cl b mb) (hm : behindInMarks op b = false) : FQT X cl (.Compare a [op] [b] pos) (qB (qBin f ma mb)) := PT_imp (pt_cmpR ho ha hb hm) fun σ H Q q => by
  refine qbin_imp hf ?_
  obtain ⟨G, F, ρ, A, R, st, en, p⟩ := q
  refine ⟨G, F, ρ, A, R, st, en, ?_⟩
  unfold qB at p
  cases ha : qBin f ma mb ρ with
  | none => rw [ha] at p; exact p.elim
  | some x =>
    rw [ha] at p
    intro v1 o1
    cases x with
    | bl b => exact ⟨b, o1, p⟩
    | _ => exact p.elim
theorem qchain_imp {f g : D → D → Option D} {r r' : R2} (hf : Quiet2 X cl f r) (hg : Quiet2 X cl g r') {σ : St} {H : Hp} {Q : VK} (q : tQ X.K cl (qChain f g ma mb mc) σ H Q) : tChain r r' (tQ X.K cl ma) (tQ X.K cl mb) (tQ X.K cl mc) σ H Q := by
  obtain ⟨G, F, ρ, A, R, st, en, p⟩ := q
  refine ⟨G, F, ρ, A, R, st, en, ?_⟩
  unfold qChain at p
  cases ha : ma ρ with
  | none => rw [ha] at p; exact p.elim
  | some x =>
    rw [ha] at p
    intro v1 o1
    refine ⟨G, F, ρ, A, R, st, en, ?_⟩
    cases hb : mb ρ with
    | none => simp only [Option.bind_some, hb] at p; exact p.elim
    | some y =>
      simp only [Option.bind_some, hb] at p
      intro v2 o2
      cases hd : f x y with
      | none => rw [hd] at p; exact p.elim
      | some d =>
        simp only [Option.bind_some, hd] at p
        cases d with
        | bl k =>
          refine hf x y _ hd F H A v1 v2 _ st.sub o1 o2 fun w ow => ⟨k, ow, ?_⟩
          cases k with
          | true =>
            rw [if_pos rfl]
            refine ⟨G, F, ρ, A, R, st, en, ?_⟩
            have p : match (mc ρ).bind fun z => g y z with | some d => ∀ v, Own X.K cl F H d v A → Q v H | none => False := p
            cases hc : mc ρ with
            | none => simp only [hc] at p; exact p.elim
            | some z =>
              simp only [hc, Option.bind_some] at p
              intro v3 o3
              cases hd2 : g y z with
              | none => rw [hd2] at p; exact p.elim
              | some d =>
                rw [hd2] at p
                exact hg y z d hd2 F H A v2 v3 Q st.sub o2 o3 p
          | false => rw [if_neg Bool.false_ne_true]; exact p _ rfl
        | _ => exact p.elim
theorem fq_chain {op op' : CmpOp} {f g : D → D → Option D} {r r' : R2} (hf : Quiet2 X cl f r) (hg : Quiet2 X cl g r') (ho : OpR X (compareOp op) r) (ho' : OpR X (compareOp op') r') (ha : FQ X cl a ma) (hb : FQ X cl b mb) (hc : FQ X cl c mc)
    (hm : lastMarks [op, op'] [b, c] = false) : FQ X cl (.Compare a [op, op'] [b, c] pos) (qChain f g ma mb mc) := PE_imp (pe_chain ho ho' ha hb hc hm) fun _ _ _ q => qchain_imp hf hg q
theorem fqt_chain {op op' : CmpOp} {f g : D → D → Option D} {r r' : R2} (hf : Quiet2 X cl f r) (hg : Quiet2 X cl g r') (ho : OpR X (compareOp op) r) (ho' : OpR X (compareOp op') r') (ha : FQ X cl a ma) (hb : FQ X cl b mb) (hc : FQ X cl c mc)
    (hm : lastMarks [op, op'] [b, c] = false) : FQT X cl (.Compare a [op, op'] [b, c] pos) (qB (qChain f g ma mb mc)) := PT_imp (pt_chain ho ho' ha hb hc hm) fun σ H Q q => by
  have q' : tQ X.K cl (qChain f g ma mb mc) σ H (fun x H' => ∃ k, x = .bl k ∧ Q k H') := by
    obtain ⟨G, F, ρ, A, R, st, en, p⟩ := q
    refine ⟨G, F, ρ, A, R, st, en, ?_⟩
    unfold qB at p
    cases ha : qChain f g ma mb mc ρ with
    | none => rw [ha] at p; exact p.elim
    | some x =>
      rw [ha] at p
      intro v1 o1
      cases x with
      | bl b => exact ⟨b, o1, p⟩
      | _ => exact p.elim
  exact qchain_imp hf hg q'
theorem fq_and (ha : FQ X cl a ma) (hb : FQ X cl (.BoolOp .And (b :: rest) pos) mb) : FQ X cl (.BoolOp .And (a :: b :: rest) pos) (qAnd ma mb) := PE_imp (pe_and ha hb) fun σ H Q q => by
  obtain ⟨G, F, ρ, A, R, st, en, p⟩ := q
  refine ⟨G, F, ρ, A, R, st, en, ?_⟩
  unfold qAnd at p
  cases ha : ma ρ with
  | none => rw [ha] at p; exact p.elim
  | some x =>
    rw [ha] at p
    intro v1 o1
    cases x with
    | bl k =>
      refine ⟨k, o1, ?_⟩
      cases k with
      | true => exact ⟨G, F, ρ, A, R, st, en, p⟩
      | false => exact p _ rfl
    | _ => exact p.elim
theorem fq_or (ha : FQ X cl a ma) (hb : FQ X cl (.BoolOp .Or (b :: rest) pos) mb) : FQ X cl (.BoolOp .Or (a :: b :: rest) pos) (qOr ma mb) := PE_imp (pe_or ha hb) fun σ H Q q => by
  obtain ⟨G, F, ρ, A, R, st, en, p⟩ := q
  refine ⟨G, F, ρ, A, R, st, en, ?_⟩
  unfold qOr at p
  cases ha : ma ρ with
  | none => rw [ha] at p; exact p.elim
  | some x =>
    rw [ha] at p
    intro v1 o1
    cases x with
    | bl k =>
      refine ⟨k, o1, ?_⟩
      cases k with
      | true => exact p _ rfl
      | false => exact ⟨G, F, ρ, A, R, st, en, p⟩
    | _ => exact p.elim
theorem fq_one {op} (ha : FQ X cl a ma) : FQ X cl (.BoolOp op [a] pos) ma := pe_one ha
theorem fq_not (ha : FQ X cl a ma) : FQ X cl (.UnaryOp .Not a pos) (qNot ma) := PE_imp (pe_not ha) fun σ H Q q => by
  obtain ⟨G, F, ρ, A, R, st, en, p⟩ := q
  refine ⟨G, F, ρ, A, R, st, en, ?_⟩
  unfold qNot at p
  cases ha : ma ρ with
  | none => rw [ha] at p; exact p.elim
  | some x =>
    rw [ha] at p
    intro v1 o1
    cases x with
    | bl k => exact ⟨k, o1, p _ rfl⟩
    | _ => exact p.elim
abbrev FQW (X : Cx) (cl : Nat → Cl) (e : Expr) (m : Rho → Option Bool) : Prop := PW X e (tQT X.K cl m)
theorem fqw_and1 {m : Rho → Option Bool} (h : FQT X cl a m) : FQW X cl (.BoolOp .And [a] pos) m := pw_and1 h
theorem fqw_or1 {m : Rho → Option Bool} (h : FQT X cl a m) : FQW X cl (.BoolOp .Or [a] pos) m := pw_or1 h
theorem fqw_and {m n : Rho → Option Bool} (ha : FQT X cl a m) (hb : FQW X cl (.BoolOp .And (b :: rest) pos) n) : FQW X cl (.BoolOp .And (a :: b :: rest) pos) (qAndT m n) := PW_imp (pw_and ha hb) fun σ H Q q => by
  obtain ⟨G, F, ρ, A, R, st, en, p⟩ := q
  refine ⟨G, F, ρ, A, R, st, en, ?_⟩
  unfold qAndT at p
  cases ha : m ρ with
  | none => rw [ha] at p; exact p.elim
  | some x =>
    rw [ha] at p
    cases x with
    | true => exact ⟨G, F, ρ, A, R, st, en, p⟩
    | false => exact p
theorem fqw_or {m n : Rho → Option Bool} (ha : FQT X cl a m) (hb : FQW X cl (.BoolOp .Or (b :: rest) pos) n) : FQW X cl (.BoolOp .Or (a :: b :: rest) pos) (qOrT m n) := PW_imp (pw_or ha hb) fun σ H Q q => by
  obtain ⟨G, F, ρ, A, R, st, en, p⟩ := q
  refine ⟨G, F, ρ, A, R, st, en, ?_⟩
  unfold qOrT at p
  cases ha : m ρ with
  | none => rw [ha] at p; exact p.elim
  | some x =>
    rw [ha] at p
    cases x with
    | true => exact p
    | false => exact ⟨G, F, ρ, A, R, st, en, p⟩
theorem fqt_not {m : Rho → Option Bool} (h : FQT X cl a m) : FQT X cl (.UnaryOp .Not a pos) (qNotT m) := PT_imp (pt_not h) fun σ H Q q => by
  obtain ⟨G, F, ρ, A, R, st, en, p⟩ := q
  refine ⟨G, F, ρ, A, R, st, en, ?_⟩
  unfold qNotT at p
  cases ha : m ρ with
  | none => rw [ha] at p; exact p.elim
  | some x => rw [ha] at p; exact p
theorem fq_if {t : Rho → Option Bool} (hc : FQT X cl c t) (ha : FQ X cl a ma) (hb : FQ X cl b mb) : FQ X cl (.IfExp c a b pos) (qIf t ma mb) := PE_imp (pe_ifExp hc ha hb) fun σ H Q q => by
  obtain ⟨G, F, ρ, A, R, st, en, p⟩ := q
  refine ⟨G, F, ρ, A, R, st, en, ?_⟩
  unfold qIf at p
  cases ht : t ρ with
  | none => rw [ht] at p; exact p.elim
  | some x =>
    rw [ht] at p
    cases x with
    | true => exact ⟨G, F, ρ, A, R, st, en, p⟩
    | false => exact ⟨G, F, ρ, A, R, st, en, p⟩
end
end
end FL

set_option Elab.async false
set_option linter.all false
set_option maxRecDepth 100000
namespace FL
open PySem L2
/-! ### calls -/
/-- a def at hand: x its name, n its parameters, m what it does, dd the defaults that fill up -/
structure Fnc (P : Program) (w : World) (K : PySem.W.Frag) (mg : Str → Option Value) (base : Heap) (cl : Nat → Cl) (x : Str) (k n : Nat) (m : List D → RF) (dd : List D) : Prop where
  ex : ∃ (f : Addr) (fd : FuncData) (ps : List Str) (ds : List Value) (dv : List V), FnOk P w K mg base (L2.CX P w) k f fd ps (spF K cl n m) ∧ mg x = some (.ref f) ∧ PySem.W.keepIn K (.ref f) = true ∧ Binds K fd ps ds ∧ Vals dv ds ∧ ∀ F H, Owns K cl F H dd dv zf
  len : ∀ l, m l ≠ .bad → l.length = n
def pick {α : Type} (idx : List Nat) (l : List α) : List α := idx.filterMap fun i => l[i]?
/-- .. called with nu positional values and the keywords ks -/
structure FncK (P : Program) (w : World) (K : PySem.W.Frag) (mg : Str → Option Value) (base : Heap) (cl : Nat → Cl) (x : Str) (k n : Nat) (m : List D → RF) (nu : Nat) (ks : List Str) (idx : List Nat) (dd : List D) : Prop where
  ex : ∃ (f : Addr) (fd : FuncData) (ps : List Str) (ds : List Value) (dv : List V), FnOk P w K mg base (L2.CX P w) k f fd ps (spF K cl n m) ∧ mg x = some (.ref f) ∧ PySem.W.keepIn K (.ref f) = true ∧ Vals dv ds ∧ (∀ F H, Owns K cl F H dd dv zf) ∧
    ∀ (s : Shared) (us ws : List Value), K.In s.heap → us.length = nu → ws.length = ks.length → BindsTo s fd ⟨us, ks.zip ws⟩ (ps.zip (pick idx (us ++ ws ++ ds)))
  len : ∀ l, m l ≠ .bad → l.length = n
def eCallK (m : List D → RF) (nu nk : Nat) (idx : List Nat) (dd : List D) (a b : Rho → RX (List D)) : Rho → RX D := fun ρ => (a ρ).bind fun xs ρ1 => (b ρ1).bind fun ys ρ2 =>
  if xs.length = nu ∧ ys.length = nk then
    match m (pick idx (D.frzs xs ++ D.frzs ys ++ dd)) with
    | .rt d => .ok d ρ2
    | .ex c zs => .ex c zs ρ2
    | .bad => .bad
  else .bad
section
variable {X : Cx} {cl : Nat → Cl} {W : WX'} {K : PySem.W.Frag}
variable {G : Gh} {F H F' H' : Hp} {R B A A' : Fp} {σ : St} {ρ ρ' : Rho} {pos : Pos}
theorem fe_call {x : Str} {k n : Nat} {m : List D → RF} {dd : List D} {p : Pos} {e : Expr} {es : List Expr} {a : Rho → RX (List D)} (Fc : Fnc X.prog X.w X.K X.mg X.base cl x k n m dd) (hr : Room k X.A) (hg : Gl X x) (tk : Takes X W) (ha : FA X cl W (e :: es) a)
    (hdb : (x == ("__debug__" : Str)) = false := by decide) (he : starEach (e :: es) X.env = (false, eval e X.env) :: starEach es X.env := by rfl) (hpl : (backTo pos (starEach es X.env)).any (·.1) = false := by rfl) : FE X cl W (.Call (.Name x p) (e :: es) [] pos) (eCall m dd a) := by
  obtain ⟨⟨f, fd, ps, ds, dv, h1, h2, h3, h4, h5, h6⟩, hl⟩ := Fc
  exact PE_imp (pe_callSD h1 hr hg h2 h3 h4 h5 (passAt tk) ha hdb he hpl) fun σ H Q q => call_imp h6 hl σ H Q q
theorem Vals.pick : ∀ (idx : List Nat) {vs : List V} {us : List Value}, Vals vs us → Vals (FL.pick idx vs) (FL.pick idx us)
  | [], _, _, _ => .nil
  | i :: idx, vs, us, r => by
    have ih := Vals.pick idx r
    unfold FL.pick at ih ⊢
    rw [List.filterMap_cons, List.filterMap_cons]
    cases h : vs[i]? with
    | none => rw [Vals.none_of r h]; exact ih
    | some v =>
      obtain ⟨u, hu, ru⟩ := r.get h
      rw [hu]
      exact .cons ru ih
theorem Owns.pick : ∀ (idx : List Nat) {ds : List D} {vs : List V}, Owns K cl F H ds vs zf → Owns K cl F H (FL.pick idx ds) (FL.pick idx vs) zf
  | [], _, _, _ => rfl
  | i :: idx, ds, vs, o => by
    have ih := Owns.pick idx o
    unfold FL.pick at ih ⊢
    rw [List.filterMap_cons, List.filterMap_cons]
    cases h : ds[i]? with
    | none =>
      have : vs[i]? = none := List.getElem?_eq_none_iff.mpr (by rw [← Owns.length o]; exact List.getElem?_eq_none_iff.mp h)
      rw [this]; exact ih
    | some d =>
      obtain ⟨v, hv, ov⟩ := o.get h
      rw [hv]
      exact ⟨v, _, zf, zf, rfl, ov, ih, fun _ => Nat.le_refl _⟩
abbrev FK (X : Cx) (cl : Nat → Cl) (W : WX') (ks : List Keyword) (m : Rho → RX (List D)) : Prop := PK X ks (tX X.K cl W (rL X.K cl) m)
theorem PK_imp {X : Cx} {ks : List Keyword} {t t' : TA} (h : PK X ks t) (i : ∀ σ H Q, t' σ H Q → t σ H Q) : PK X ks t' := ⟨fun pos pins s σ H Q I q => h.run pos pins s σ H Q I (i σ H Q q)⟩
theorem fk_nil : FK X cl W [] aNil := PK_imp pk_nil fun σ H Q q => by
  obtain ⟨G, F, ρ, A, R, st, en, p⟩ := q
  exact p [] F H A zf (Ev.self st en) rfl
theorem fk_cons {e : Expr} {nm : Option Str} {kpos : Pos} {ks : List Keyword} {a : Rho → RX D} {b : Rho → RX (List D)} (ha : FE X cl W e a) (hb : FK X cl W ks b) : FK X cl W (⟨nm, e, kpos⟩ :: ks) (aCons a b) := PK_imp (pk_cons ha hb) fun σ H Q q => by
  obtain ⟨G, F, ρ, A, R, st, en, p⟩ := q
  refine ⟨G, F, ρ, A, R, st, en, Pst.bind p fun x ρ1 v1 F1 H1 A1 B1 e1 o1 p1 => ?_⟩
  refine tX.run e1 (Pst.bindC p1 fun y ρ2 v2 F2 H2 A2 B2 e2 o2 p2 => ?_)
  exact Pst.okB (B := fun z => B1 z + B2 z) p2 (e2.st.less fun z => by show A2 z + (B1 z + B2 z + R z) ≤ A2 z + (B2 z + (B1 z + R z)); omega) e2.en ⟨v1, v2, B1, B2, rfl, e2.keep o1, o2, fun _ => Nat.le_refl _⟩
/-- the reading of a call with keywords, at the caller's slots -/
def tCallNS (n m : Nat) (sp : Sp) (gV : List V → List V → List V) (E : St → XK) (t tk : TA) : TE := fun σ H Q => t σ H fun vs H1 => tk σ H1 fun zs H2 => vs.length = n ∧ zs.length = m ∧ sp (gV vs zs) H2 Q (E σ)
theorem run_fnNS {CX : CXT} {k n : Nat} {f : Addr} {fd : FuncData} {ps ks : List Str} {sp : Sp} {E : St → XK} {g : List Value → List Value → List Value} {gV : List V → List V → List V} {pins : List (Addr × Obj)} {σ : St} {H : Hp} {s : Shared} {Q : VK} {us ws : List Value} {vs zs : List V}
    (F : FnOk X.prog X.w X.K X.mg X.base CX k f fd ps sp) (hr : Room k X.A) (hb : KBn X.K fd ps n ks g gV) (hx : PassesAt CX X σ (E σ))
    (I : Inv X pins σ H s) (r : Vals vs us) (rz : Vals zs ws) (l1 : vs.length = n) (l2 : zs.length = ks.length) (h : sp (gV vs zs) H Q (E σ)) : wpAny (model X.prog X.w) X.A (call (.ref f) us (ks.zip ws)) (EP X pins σ Q) X.xe s := by
  have r2 := hb.rel r rz
  refine wpAny_call (codeAny_mono (F.run X.A X.stack s H ⟨us, ks.zip ws⟩ (g us ws) (gV vs zs) Q (E σ) hr I.env0 (hb.to s us ws I.kIn (r.length.symm.trans l1) (rz.length.symm.trans l2)) r2 h) fun r s' hq => ?_)
  cases r with
  | error e => exact hx pins H s e s' I hq
  | ok fl =>
    cases fl with
    | ret u => exact I.after hq
    | next => exact False.elim hq
    | brk => exact False.elim hq
    | cont => exact False.elim hq
theorem callK_imp {n nu nk : Nat} {m : List D → RF} {idx : List Nat} {dd : List D} {dv : List V} {a b : Rho → RX (List D)} (hdd : ∀ F H, Owns X.K cl F H dd dv zf) (hlen : ∀ l, m l ≠ .bad → l.length = n) (σ : St) (H : Hp) (Q : VK) (q : tX X.K cl W (rD X.K cl) (eCallK m nu nk idx dd a b) σ H Q) :
    tCallNS nu nk (spF X.K cl n m) (fun vs zs => pick idx (vs ++ zs ++ dv)) (WE W) (tX X.K cl W (rL X.K cl) a) (tX X.K cl W (rL X.K cl) b) σ H Q := by
  obtain ⟨G, F, ρ, A, R, st, en, p⟩ := q
  refine ⟨G, F, ρ, A, R, st, en, Pst.bind p fun x ρ1 v1 F1 H1 A1 B1 e1 o1 p1 => ?_⟩
  refine tX.run e1 (Pst.bindC p1 fun y ρ2 v2 F2 H2 A2 B2 e2 o2 p2 => ?_)
  by_cases hl : x.length = nu ∧ y.length = nk
  · rw [if_pos hl] at p2
    refine ⟨(Owns.length o1).symm.trans hl.1, (Owns.length o2).symm.trans hl.2, ?_⟩
    -- all that is held is frozen
    have e3 : Ev X.K cl G F2 H2 R F2 H2 σ ρ2 A2 (fun z => B2 z + B1 z) := ⟨Le.refl, fun _ _ => rfl, e2.st.less fun z => by show A2 z + (B2 z + B1 z + R z) ≤ A2 z + (B2 z + (B1 z + R z)); omega, e2.en⟩
    obtain ⟨e4, le4⟩ := e3.fz
    have ox : Owns X.K cl (fz F2 H2 fun z => B2 z + B1 z) H2 (D.frzs x) v1 zf := Owns.freeze (e2.keeps o1) le4 fun a ha => fz_at (by show 0 < B2 a + B1 a; omega)
    have oy : Owns X.K cl (fz F2 H2 fun z => B2 z + B1 z) H2 (D.frzs y) v2 zf := Owns.freeze o2 le4 fun a ha => fz_at (by show 0 < B2 a + B1 a; omega)
    have oo := Owns.pick idx (Owns.append (Owns.append ox oy) (hdd (fz F2 H2 fun z => B2 z + B1 z) H2))
    refine ⟨?_, fz F2 H2 (fun z => B2 z + B1 z), _, e4.st.sub, oo, ?_⟩
    · rw [← Owns.length oo]
      refine hlen _ fun z => ?_
      simp only [z] at p2
      exact p2
    · cases hm : m (pick idx (D.frzs x ++ D.frzs y ++ dd)) with
      | rt d =>
        simp only [hm] at p2
        exact fun v F' H' B le lh st' o => p2 v F' H' A2 B (e4.call le lh st') o
      | ex c xs =>
        simp only [hm] at p2
        exact fun u d F' H' le lh st' o => p2 u d F' H' A2 (e4.call le lh st') o
      | bad => simp only [hm] at p2; exact p2.elim
  · rw [if_neg hl] at p2; exact p2.elim
theorem fe_callK {x : Str} {k n nu : Nat} {ks : List Str} {idx : List Nat} {m : List D → RF} {dd : List D} {p : Pos} {e : Expr} {es : List Expr} {kws : List Keyword} {a b : Rho → RX (List D)} (Fc : FncK X.prog X.w X.K X.mg X.base cl x k n m nu ks idx dd) (hr : Room k X.A) (hg : Gl X x) (tk : Takes X W)
    (ha : FA X cl W (e :: es) a) (hkw : FK X cl W kws b) (hall : (backToKw pos (keywordEach kws X.env)).all (·.1.isSome) = true := by rfl) (hks : (backToKw pos (keywordEach kws X.env)).filterMap (·.1) = ks := by rfl)
    (hdb : (x == ("__debug__" : Str)) = false := by decide) (he : starEach (e :: es) X.env = (false, eval e X.env) :: starEach es X.env := by rfl)
    (hpl : ((backTo pos (starEach (e :: es) X.env)).any (·.1) || (backToKw pos (keywordEach kws X.env)).any (·.1.isNone)) = false := by rfl) : FE X cl W (.Call (.Name x p) (e :: es) kws pos) (eCallK m nu ks.length idx dd a b) := by
  obtain ⟨⟨f, fd, ps, ds, dv, h1, h2, h3, h4, h5, h6⟩, hl⟩ := Fc
  have kb : KBn X.K fd ps nu ks (fun us ws => pick idx (us ++ ws ++ ds)) (fun vs zs => pick idx (vs ++ zs ++ dv)) := ⟨h6, fun r1 r2 => Vals.pick idx ((r1.append r2).append h4)⟩
  refine PE_imp (t := tCallNS nu ks.length (spF X.K cl n m) (fun vs zs => pick idx (vs ++ zs ++ dv)) (WE W) (tX X.K cl W (rL X.K cl) a) (tX X.K cl W (rL X.K cl) b)) ⟨fun pins s σ H Q I h => ?_⟩ fun σ H Q q => callK_imp h5 hl σ H Q q
  refine wpAny_Call_Name_kw (ld_glob I hg h2 ?_ hdb)
  refine PySem.W.callWith_KW (h₀ := X.base) I.ok.mod.kin h3 hall (thn (ha.run pos pins s σ H _ I h) fun us s1 ⟨vs, H1, I1, r, q⟩ => ?_) hpl he
  refine thn (hkw.run pos pins s1 σ H1 _ I1 q) fun ws s2 ⟨zs, H2, I2, rz, l1, l2, q2⟩ => ⟨I2.kIn, ?_⟩
  rw [hks]
  exact run_fnNS h1 hr kb (passAt tk σ) I2 r rz l1 l2 q2
theorem fe_callK0 {x : Str} {k n : Nat} {ks : List Str} {idx : List Nat} {m : List D → RF} {dd : List D} {p : Pos} {kws : List Keyword} {b : Rho → RX (List D)} (Fc : FncK X.prog X.w X.K X.mg X.base cl x k n m 0 ks idx dd) (hr : Room k X.A) (hg : Gl X x) (tk : Takes X W)
    (hkw : FK X cl W kws b) (hall : (backToKw pos (keywordEach kws X.env)).all (·.1.isSome) = true := by rfl) (hks : (backToKw pos (keywordEach kws X.env)).filterMap (·.1) = ks := by rfl)
    (hdb : (x == ("__debug__" : Str)) = false := by decide) (hpl : ((backTo pos (starEach [] X.env)).any (·.1) || (backToKw pos (keywordEach kws X.env)).any (·.1.isNone)) = false := by rfl) : FE X cl W (.Call (.Name x p) [] kws pos) (eCallK m 0 ks.length idx dd aNil b) := by
  obtain ⟨⟨f, fd, ps, ds, dv, h1, h2, h3, h4, h5, h6⟩, hl⟩ := Fc
  have kb : KBn X.K fd ps 0 ks (fun us ws => pick idx (us ++ ws ++ ds)) (fun vs zs => pick idx (vs ++ zs ++ dv)) := ⟨h6, fun r1 r2 => Vals.pick idx ((r1.append r2).append h4)⟩
  refine PE_imp (t := fun σ H Q => tX X.K cl W (rL X.K cl) aNil σ H fun vs H1 => tX X.K cl W (rL X.K cl) b σ H1 fun zs H2 => vs.length = 0 ∧ zs.length = ks.length ∧ spF X.K cl n m (pick idx (vs ++ zs ++ dv)) H2 Q (WE W σ)) ⟨fun pins s σ H Q I h => ?_⟩ fun σ H Q q => callK_imp h5 hl σ H Q q
  refine wpAny_Call_Name_kw (ld_glob I hg h2 ?_ hdb)
  refine PySem.W.callWith_KW0 (h₀ := X.base) I.ok.mod.kin h3 hall ?_ hpl
  have h' : tX X.K cl W (rL X.K cl) b σ H fun zs H2 => zs.length = ks.length ∧ spF X.K cl n m (pick idx (zs ++ dv)) H2 Q (WE W σ) := by
    obtain ⟨G, F, ρ, A, R, st, en, p⟩ := h
    have p' := p [] F H A zf (Ev.self st en) rfl
    obtain ⟨G', F', ρ', A', R', st', en', p''⟩ := p'
    refine ⟨G', F', ρ', A', R', st', en', ?_⟩
    unfold Pst at p'' ⊢
    split at p''
    · exact fun v F2 H2 A2 B2 e2 o2 => (p'' v F2 H2 A2 B2 e2 o2).2
    · exact p''
    · exact p''
  refine thn (hkw.run pos pins s σ H _ I h') fun ws s2 ⟨zs, H2, I2, rz, l2, q2⟩ => ⟨I2.kIn, ?_⟩
  rw [hks]
  exact run_fnNS (us := []) (vs := []) h1 hr kb (passAt tk σ) I2 .nil rz rfl l2 q2

/-! ### built-ins called -/
theorem fe_callB {x : Str} {p : Pos} {e : Expr} {es : List Expr} {a : Rho → RX (List D)} {f : List D → Option D} {r : List V → Hp → VK → Prop} {id : String} (hf : DoesL X cl f r) (hc : CallR X (.builtin id) r) (hg : Gl X x) (hm : X.mg x = none) (hv : bootBuiltins x = some (.builtin id)) (ha : FA X cl W (e :: es) a) (hn : x ≠ "__name__" := by decide) (hdb : (x == ("__debug__" : Str)) = false := by decide)
    (he : starEach (e :: es) X.env = (false, eval e X.env) :: starEach es X.env := by rfl) (hpl : (backTo pos (starEach es X.env)).any (·.1) = false := by rfl) : FE X cl W (.Call (.Name x p) (e :: es) [] pos) (eFn f a) := fe_fn hf (pe_callB hc hg hm hv ha hn hdb he hpl)
theorem fe_callTy {x : Str} {p : Pos} {e : Expr} {es : List Expr} {a : Rho → RX (List D)} {f : List D → Option D} {r : List V → Hp → VK → Prop} {T : String} (hf : DoesL X cl f r) (hc : CallR X (.type T) r) (hg : Gl X x) (hm : X.mg x = none) (hv : bootBuiltins x = some (.type T)) (ha : FA X cl W (e :: es) a) (hn : x ≠ "__name__" := by decide) (hdb : (x == ("__debug__" : Str)) = false := by decide)
    (he : starEach (e :: es) X.env = (false, eval e X.env) :: starEach es X.env := by rfl) (hpl : (backTo pos (starEach es X.env)).any (·.1) = false := by rfl) : FE X cl W (.Call (.Name x p) (e :: es) [] pos) (eFn f a) := fe_fn hf (pe_callTy hc hg hm hv ha hn hdb he hpl)
/-- .. of quiet arguments, nothing made -/
def Quiet1 (X : Cx) (cl : Nat → Cl) (f : D → Option D) (r : List V → Hp → VK → Prop) : Prop :=
  ∀ (x d : D), f x = some d → ∀ (F H : Hp) (A : Fp) (vx : V) (Q : VK), Le F H → Own X.K cl F H x vx A → (∀ v, Own X.K cl F H d v A → Q v H) → r [vx] H Q
def Quiet12 (X : Cx) (cl : Nat → Cl) (f : D → D → Option D) (r : List V → Hp → VK → Prop) : Prop :=
  ∀ (x y d : D), f x y = some d → ∀ (F H : Hp) (A : Fp) (vx vy : V) (Q : VK), Le F H → Own X.K cl F H x vx A → Own X.K cl F H y vy A → (∀ v, Own X.K cl F H d v A → Q v H) → r [vx, vy] H Q
theorem fq_1 {e a : Expr} {m : Rho → Option D} {f : D → Option D} {r : List V → Hp → VK → Prop} (hf : Quiet1 X cl f r) (h : PE X e (tCB r (tCons (tQ X.K cl m) tNil))) : FQ X cl e (qUn f m) := PE_imp h fun σ H Q q => by
  obtain ⟨G, F, ρ, A, R, st, en, p⟩ := q
  refine ⟨G, F, ρ, A, R, st, en, ?_⟩
  unfold qUn at p
  cases ha : m ρ with
  | none => rw [ha] at p; exact p.elim
  | some x =>
    rw [ha] at p
    intro v1 o1
    cases hd : f x with
    | none => rw [Option.bind_some, hd] at p; exact p.elim
    | some d =>
      rw [Option.bind_some, hd] at p
      exact hf x d hd F H A v1 Q st.sub o1 p
theorem fq_2 {e : Expr} {m n : Rho → Option D} {f : D → D → Option D} {r : List V → Hp → VK → Prop} (hf : Quiet12 X cl f r) (h : PE X e (tCB r (tCons (tQ X.K cl m) (tCons (tQ X.K cl n) tNil)))) : FQ X cl e (qBin f m n) := PE_imp h fun σ H Q q => by
  obtain ⟨G, F, ρ, A, R, st, en, p⟩ := q
  refine ⟨G, F, ρ, A, R, st, en, ?_⟩
  unfold qBin at p
  cases ha : m ρ with
  | none => rw [ha] at p; exact p.elim
  | some x =>
    rw [ha] at p
    intro v1 o1
    refine ⟨G, F, ρ, A, R, st, en, ?_⟩
    cases hb : n ρ with
    | none => simp only [Option.bind_some, hb] at p; exact p.elim
    | some y =>
      simp only [Option.bind_some, hb] at p
      intro v2 o2
      cases hd : f x y with
      | none => rw [hd] at p; exact p.elim
      | some d =>
        rw [hd] at p
        exact hf x y d hd F H A v1 v2 Q st.sub o1 o2 p
noncomputable def len1 (d : D) : Option D := lenL [d]
def max2 (x y : D) : Option D := maxL [x, y]
def min2 (x y : D) : Option D := minL [x, y]
def int1 (d : D) : Option D := intL [d]
theorem q_len : Quiet1 X cl len1 (fun xs H Q => ∃ x n, xs = [x] ∧ LenV X.K x H n ∧ Q (.int n) H) := fun x d hd F H A v Q sub o k => by
  unfold len1 lenL at hd
  simp only at hd
  cases hq : sq x with
  | some ds =>
    rw [hq] at hd
    have e := (Option.some.inj hd).symm
    subst e
    obtain ⟨a, xs, rfl, q, r⟩ := own_sq hq o sub
    have hl := Owns.length r
    refine ⟨.ref a, ds.length, rfl, ?_, k _ rfl⟩
    rcases q with q | q
    · exact .inl ⟨xs, q, hl⟩
    · exact .inr ⟨xs, q, hl⟩
  | none =>
    rw [hq] at hd
    cases x with
    | str s =>
      simp only at hd
      split at hd
      · rename_i hc
        have e := (Option.some.inj hd).symm
        subst e
        have ev : v = .str s := o
        subst ev
        exact ⟨_, s.length, rfl, ⟨by have h1 := of_yes hc; rw [sizeLine_eq]; exact h1, rfl⟩, k _ rfl⟩
      · cases hd
    | _ => cases hd
theorem q_max : Quiet12 X cl max2 (fun xs H Q => ∃ i j, xs = [.int i, .int j] ∧ Q (.int (if j > i then j else i)) H) := fun x y d hd F H A v w Q sub o o' k => by
  unfold max2 maxL at hd
  split at hd
  · rename_i i j he
    cases he
    have e := (Option.some.inj hd).symm
    subst e
    have e1 : v = .int i := o
    have e2 : w = .int j := o'
    subst e1 e2
    exact ⟨i, j, rfl, k _ rfl⟩
  · cases hd
theorem q_min : Quiet12 X cl min2 (fun xs H Q => ∃ i j, xs = [.int i, .int j] ∧ Q (.int (if j < i then j else i)) H) := fun x y d hd F H A v w Q sub o o' k => by
  unfold min2 minL at hd
  split at hd
  · rename_i i j he
    cases he
    have e := (Option.some.inj hd).symm
    subst e
    have e1 : v = .int i := o
    have e2 : w = .int j := o'
    subst e1 e2
    exact ⟨i, j, rfl, k _ rfl⟩
  · cases hd
theorem q_int : Quiet1 X cl int1 (fun xs H Q => (∃ i, xs = [.int i] ∧ Q (.int i) H) ∨ ∃ k, xs = [.bl k] ∧ Q (.int (if k then 1 else 0)) H) := fun x d hd F H A v Q sub o k => by
  unfold int1 intL at hd
  split at hd
  · rename_i i he
    cases he
    have e := (Option.some.inj hd).symm
    subst e
    have e1 : v = .int i := o
    subst e1
    exact .inl ⟨i, rfl, k _ rfl⟩
  · rename_i b he
    cases he
    have e := (Option.some.inj hd).symm
    subst e
    have e1 : v = .bl b := o
    subst e1
    exact .inr ⟨b, rfl, k _ rfl⟩
  · cases hd
theorem fq_callB1 {x : Str} {p : Pos} {e : Expr} {m : Rho → Option D} {f : D → Option D} {r : List V → Hp → VK → Prop} {id : String} (hf : Quiet1 X cl f r) (hc : CallR X (.builtin id) r) (hg : Gl X x) (hm : X.mg x = none) (hv : bootBuiltins x = some (.builtin id)) (ha : FQ X cl e m) (hn : x ≠ "__name__" := by decide) (hdb : (x == ("__debug__" : Str)) = false := by decide)
    (he : starEach [e] X.env = [(false, eval e X.env)] := by rfl) : FQ X cl (.Call (.Name x p) [e] [] pos) (qUn f m) := fq_1 (a := e) hf (pe_callB hc hg hm hv (pa_cons ha pa_nil he) hn hdb he rfl)
theorem fq_callB2 {x : Str} {p : Pos} {e e' : Expr} {m n : Rho → Option D} {f : D → D → Option D} {r : List V → Hp → VK → Prop} {id : String} (hf : Quiet12 X cl f r) (hc : CallR X (.builtin id) r) (hg : Gl X x) (hm : X.mg x = none) (hv : bootBuiltins x = some (.builtin id)) (ha : FQ X cl e m) (hb : FQ X cl e' n) (hn : x ≠ "__name__" := by decide) (hdb : (x == ("__debug__" : Str)) = false := by decide)
    (he : starEach [e, e'] X.env = (false, eval e X.env) :: starEach [e'] X.env := by rfl) (he' : starEach [e'] X.env = [(false, eval e' X.env)] := by rfl) (hpl : (backTo pos (starEach [e'] X.env)).any (·.1) = false := by rfl) : FQ X cl (.Call (.Name x p) [e, e'] [] pos) (qBin f m n) := fq_2 hf (pe_callB hc hg hm hv (pa_cons ha (pa_cons hb pa_nil he') he) hn hdb he hpl)
theorem fq_callTy1 {x : Str} {p : Pos} {e : Expr} {m : Rho → Option D} {f : D → Option D} {r : List V → Hp → VK → Prop} {T : String} (hf : Quiet1 X cl f r) (hc : CallR X (.type T) r) (hg : Gl X x) (hm : X.mg x = none) (hv : bootBuiltins x = some (.type T)) (ha : FQ X cl e m) (hn : x ≠ "__name__" := by decide) (hdb : (x == ("__debug__" : Str)) = false := by decide)
    (he : starEach [e] X.env = [(false, eval e X.env)] := by rfl) : FQ X cl (.Call (.Name x p) [e] [] pos) (qUn f m) := fq_1 (a := e) hf (pe_callTy hc hg hm hv (pa_cons ha pa_nil he) hn hdb he rfl)

/-! ### isinstance -/
/-- what an own class must have to be asked for -/
structure InsTy (K : PySem.W.Frag) (C : Addr) : Prop where
  cls : Cls K C
  ha : PySem.W.findIn K (.ref C) "__class__" = some (some (.builtin "object.__class__"))
  hn : PySem.W.specialIn K (.builtin "object.__class__") "__get__" = some (some (.builtin "getset_descriptor.__get__"))
  ht : PySem.W.takesIn K (.builtin "object.__class__") = some true
  hm : PySem.W.mroIn K C (.type "object") = some true
/-- the kind: a built-in type's name, or an own class -/
def kindD : D → Option (String ⊕ Nat)
  | .non => some (.inl "NoneType") | .bl _ => some (.inl "bool") | .int _ => some (.inl "int") | .str _ => some (.inl "str")
  | .tup _ => some (.inl "tuple") | .lst _ => some (.inl "list") | .vec _ => some (.inl "list") | .obj c _ => some (.inr c) | .mobj c _ => some (.inr c)
def isiD (tab : String ⊕ Nat → Option Bool) (d : D) : Option D := (kindD d).bind fun k => (tab k).map D.bl
def Tab (K : PySem.W.Frag) (cl : Nat → Cl) (u : Value) (tab : String ⊕ Nat → Option Bool) : Prop :=
  (∀ n b, tab (.inl n) = some b → PySem.W.kitOne K (.type n) u = some b) ∧ ∀ c b, tab (.inr c) = some b → InsTy K (cl c).at_ ∧ PySem.W.kitOne K (.ref (cl c).at_) u = some b
theorem ty_list {a : Addr} {xs : List V} (h : SqL K H a xs) : TyX K H (.ref a) (.type "list") := by
  rcases h with (h | ⟨o, h⟩) | ⟨o, its, n, h, c, _⟩
  · exact .base (.lst h)
  · exact .base (.frz h)
  · exact .kList h c
theorem ty_tup {a : Addr} {xs : List V} (h : SqT K H a xs) : TyX K H (.ref a) (.type "tuple") := by
  rcases h with (h | ⟨o, h⟩) | ⟨o, its, n, h, c, _⟩
  · exact .base (.tup h)
  · exact .fTuple h
  · exact .kTuple h c
theorem fq_isi {e c : Expr} {m : Rho → Option D} {vc : V} {u : Value} {tab : String ⊕ Nat → Option Bool} {p : Pos} (ht : Tab X.K cl u tab) (hu : ClsV vc u) (hg : Gl X "isinstance") (hm : X.mg "isinstance" = none) (ha : FQ X cl e m) (hc : PE X c (tC vc))
    (he : starEach [e, c] X.env = (false, eval e X.env) :: starEach [c] X.env := by rfl) (he' : starEach [c] X.env = [(false, eval c X.env)] := by rfl) (hpl : (backTo pos (starEach [c] X.env)).any (·.1) = false := by rfl) : FQ X cl (.Call (.Name "isinstance" p) [e, c] [] pos) (qUn (isiD tab) m) :=
  PE_imp (pe_callB call_isi hg hm (by decide +kernel) (pa_cons ha (pa_cons hc pa_nil he') he) (by decide) (by decide) he hpl) fun σ H Q q => by
  obtain ⟨G, F, ρ, A, R, st, en, p⟩ := q
  refine ⟨G, F, ρ, A, R, st, en, ?_⟩
  unfold qUn at p
  cases hx : m ρ with
  | none => rw [hx] at p; exact p.elim
  | some x =>
    rw [hx] at p
    intro v o
    have p' : match isiD tab x with | some d => ∀ v, Own X.K cl F H d v A → Q v H | none => False := p
    unfold isiD at p'
    cases hk : kindD x with
    | none => rw [hk] at p'; exact p'.elim
    | some k =>
      rw [hk] at p'
      cases hb : tab k with
      | none => simp only [Option.bind_some, hb] at p'; exact p'.elim
      | some b =>
        simp only [Option.bind_some, hb, Option.map_some] at p'
        have fin : ∀ t, TyX X.K H v t → PySem.W.kitOne X.K t u = some b → rIsi X.K [v, vc] H Q := fun t ty e => ⟨v, vc, t, u, b, rfl, hu, ty, e, p' _ rfl⟩
        cases x with
        | non => cases hk; have e : v = .non := o; subst e; exact fin _ (.base .non) (ht.1 _ _ hb)
        | bl k => cases hk; have e : v = .bl k := o; subst e; exact fin _ (.base (.bl k)) (ht.1 _ _ hb)
        | int k => cases hk; have e : v = .int k := o; subst e; exact fin _ (.base (.int k)) (ht.1 _ _ hb)
        | str k => cases hk; have e : v = .str k := o; subst e; exact fin _ (.base (.str k)) (ht.1 _ _ hb)
        | tup ds => cases hk; obtain ⟨a, xs, rfl, q, r⟩ := o; exact fin _ (ty_tup (st.sub.sqT q)) (ht.1 _ _ hb)
        | lst ds => cases hk; obtain ⟨a, xs, rfl, q, r⟩ := o; exact fin _ (ty_list (st.sub.sqL q)) (ht.1 _ _ hb)
        | vec ds => cases hk; obtain ⟨a, xs, B, rfl, n, q, r, s⟩ := o; exact fin _ (ty_list (SqL.of q)) (ht.1 _ _ hb)
        | obj c ds =>
          cases hk
          obtain ⟨a, dx, xs, rfl, q, z, r⟩ := o
          obtain ⟨i, e⟩ := ht.2 _ _ hb
          exact fin _ (.base (.ins (st.sub _ _ q) i.cls i.ha i.hn i.ht i.hm)) e
        | mobj c ds =>
          cases hk
          obtain ⟨a, dx, xs, B, rfl, n, q, z, r, s⟩ := o
          obtain ⟨i, e⟩ := ht.2 _ _ hb
          exact fin _ (.base (.ins q i.cls i.ha i.hn i.ht i.hm)) e
/-- a built-in type asked for, own classes left out -/
def tabTy (T : String) : String ⊕ Nat → Option Bool
  | .inl n => kitB n T
  | .inr _ => none
theorem tab_ty {T : String} : Tab K cl (.type T) (tabTy T) := ⟨fun n b h => kit_ty h, fun c b h => by cases h⟩

/-! ### xs.append(e), xs a name -/
noncomputable def eApp (i : Nat) (m : Rho → RX D) : Rho → RX D := fun ρ => match ρ[i]? with
  | some (some (.vec _)) => (m ρ).bind fun d ρ1 => match ρ1[i]? with
    | some (some (.vec ds)) => if cap ds.length then .ok .non (ρ1.set i (some (.vec (ds ++ [d])))) else .bad
    | _ => .bad
  | _ => .bad
theorem fe_app {i : Nat} {x : Str} {p apos : Pos} {e : Expr} {m : Rho → RX D} (hx : PE X (.Name x p) (tVar i)) (ha : FE X cl W e m) (hN : i < X.N.length ∨ True := .inr trivial)
    (hbase : attributeBase (.Name x p) "append" X.env (eval (.Name x p) X.env) = eval (.Name x p) X.env := by rfl)
    (hfew : ((backTo pos (starEach [e] X.env)).all (fun x => !x.1) && (backToKw pos (keywordEach [] X.env)).all (fun x => x.1.isSome)
      && decide ([e].length + ([] : List Keyword).length + (if ([] : List Keyword).isEmpty then 0 else 1) < 30)) = true := by rfl)
    (hline : (apos.endLine == pos.line) = true := by rfl) (hs : starEach [e] X.env = [(false, eval e X.env)] := by rfl) :
    FE X cl W (.Call (.Attribute (.Name x p) "append" apos) [e] [] pos) (eApp i m) :=
  PE_imp (pe_bm PySem.F.plainAttrs_list PySem.F.slot_list_append PySem.F.type_list_append mt_append hx (pa_cons ha pa_nil hs) hbase hfew hline hs rfl) fun σ H Q q => by
  obtain ⟨G, F, ρ, A, R, st, en, p⟩ := q
  unfold eApp at p
  split at p
  · rename_i es hρ
    obtain ⟨v, B, C, hv, o, en', hs⟩ := en.get hρ
    obtain ⟨a, xs, B', rfl, fa, hH, os, hs'⟩ := o
    refine ⟨.ref a, hv, .inl ⟨rfl, xs, SqL.of hH⟩, ?_⟩
    refine ⟨G, F, ρ, A, R, st, en, Pst.bind p fun d ρ1 v1 F1 H1 A1 B1 e1 o1 p1 => ?_⟩
    split at p1
    · rename_i ds hρ1
      split at p1
      · rename_i hc
        obtain ⟨w, B2, C2, hw, o2, en2, hs2⟩ := e1.en.get hρ1
        rw [hv] at hw
        cases hw
        obtain ⟨a2, ys, B3, ev, fa2, hH2, os2, hs3⟩ := o2
        cases ev
        have hB2 : 0 < B2 a := by have := hs3 a; rw [one_self] at this; omega
        have hl : ds.length = ys.length := Owns.length os2
        refine ⟨a, ys, v1, rfl, rfl, hH2, by rw [← hl]; exact cap_line hc, ?_⟩
        have hA1 : 0 < A1 a := by have := hs2 a; omega
        have nd := e1.st.nd
        have st2 := upd_own (o := .lst (ys ++ [v1])) e1.st (show 0 < A1 a + (B1 a + R a) by omega)
        -- nothing else lies at a
        have off : ∀ b, 0 < C2 b + (B3 b + (B1 b + R b)) → b ≠ a := fun b hb e => by
          subst e
          have h1 : A1 b + (B1 b + R b) ≤ 1 := nd b
          have h2 := hs2 b
          have h3 := hs3 b
          rw [one_self] at h3
          omega
        have own1 : ∀ b, 0 < A1 b + (B1 b + R b) → F1 b = none := fun b hb => (e1.st.own b hb).1
        have en3 : EnvR X.K cl F1 (upd H1 a (.lst (ys ++ [v1]))) (ρ1.set i none) σ C2 := en2.mono Le.refl (fun b hb => ⟨upd_ne (off b (by omega)), own1 b (by have := hs2 b; omega)⟩) fun _ => Nat.le_refl _
        have os3 : Owns X.K cl F1 (upd H1 a (.lst (ys ++ [v1]))) ds ys B3 := os2.mono Le.refl (fun b hb => ⟨upd_ne (off b (by omega)), own1 b (by have := hs2 b; have := hs3 b; omega)⟩) fun _ => Nat.le_refl _
        have o3 : Own X.K cl F1 (upd H1 a (.lst (ys ++ [v1]))) d v1 B1 := o1.mono Le.refl (fun b hb => ⟨upd_ne (off b (by omega)), own1 b (by omega)⟩) fun _ => Nat.le_refl _
        have ov : Own X.K cl F1 (upd H1 a (.lst (ys ++ [v1]))) (.vec (ds ++ [d])) (.ref a) (fun z => one a z + (B3 z + B1 z)) := ⟨a, _, fun z => B3 z + B1 z, rfl, fa2, upd_same, os3.snoc o3, fun _ => Nat.le_refl _⟩
        have en4 := en3.put (i := i) ov
        rw [List.set_set] at en4
        have hσ : σ.set i (some (.ref a)) = σ := by
          obtain ⟨hl, hg⟩ := List.getElem?_eq_some_iff.mp hv
          rw [← hg]
          exact List.set_getElem_self hl
        rw [hσ] at en4
        refine p1 .non F1 _ _ zf ⟨Le.refl, fun b hb => upd_ne (off b (by omega)), st2.less fun z => ?_, en4⟩ rfl
        have h2 := hs2 z
        have h3 := hs3 z
        show one a z + (B3 z + B1 z) + C2 z + (zf z + R z) ≤ A1 z + (B1 z + R z)
        unfold zf
        omega
      · exact p1.elim
    · exact p1.elim
  · exact p.elim
end
end FL

set_option Elab.async false
set_option linter.all false
set_option maxRecDepth 100000
namespace FL
open PySem L2
open PyProof.Rows (envOfC)
/-! ### what a def's body hands to the rules -/
section
variable {P : Program} {w : World} {K : PySem.W.Frag} {mg : Str → Option Value} {base : Heap} {N : List Str} {qual : Str} {scope : Scope} {f : Addr} {cd : Value} {A : Around} {outer : List Env} {s : Shared} {H : Hp} {E : XK}
theorem tk_of : Takes (cxOf (L2.CX P w) P w K mg base N qual scope f cd A outer s H E) (fun c d _ H => E c d H) := takes_of rfl rfl rfl rfl
theorem pw_of : PassesOwn (model (cxOf (L2.CX P w) P w K mg base N qual scope f cd A outer s H E).prog (cxOf (L2.CX P w) P w K mg base N qual scope f cd A outer s H E).w) (cxOf (L2.CX P w) P w K mg base N qual scope f cd A outer s H E).A (cxOf (L2.CX P w) P w K mg base N qual scope f cd A outer s H E).env (cxOf (L2.CX P w) P w K mg base N qual scope f cd A outer s H E).xe := passes_of rfl
end
/-- a def that stands at hand -/
theorem fnc_mk {P : Program} {w : World} {K : PySem.W.Frag} {mg : Str → Option Value} {base : Heap} {cl : Nat → Cl} {x : Str} {k n : Nat} {m : List D → RF} {f : Addr} {fd : FuncData} {ps : List Str} (F : FnOk P w K mg base (L2.CX P w) k f fd ps (spF K cl n m)) (hm : mg x = some (.ref f)) (hk : PySem.W.keepIn K (.ref f) = true) (hb : Binds K fd ps []) (hl : ∀ l, m l ≠ .bad → l.length = n) : Fnc P w K mg base cl x k n m [] :=
  ⟨⟨f, fd, ps, [], [], F, hm, hk, hb, .nil, fun _ _ => rfl⟩, hl⟩
theorem fncK_mk {P : Program} {w : World} {K : PySem.W.Frag} {mg : Str → Option Value} {base : Heap} {cl : Nat → Cl} {x : Str} {k n nu : Nat} {ks : List Str} {idx : List Nat} {m : List D → RF} {f : Addr} {fd : FuncData} {ps : List Str} (F : FnOk P w K mg base (L2.CX P w) k f fd ps (spF K cl n m)) (hm : mg x = some (.ref f)) (hk : PySem.W.keepIn K (.ref f) = true) (hl : ∀ l, m l ≠ .bad → l.length = n)
    (hb : ∀ (us ws : List Value), us.length = nu → ws.length = ks.length → bindArgs fd ⟨us, ks.zip ws⟩ = pure (ps.zip (pick idx (us ++ ws ++ [])))) : FncK P w K mg base cl x k n m nu ks idx [] :=
  ⟨⟨f, fd, ps, [], [], F, hm, hk, .nil, fun _ _ => rfl, fun s us ws _ h1 h2 => .of_eq (hb us ws h1 h2)⟩, hl⟩
/-- the law's end -/
theorem walk_FL {l : PySem.W.OpenLaw} {k : Nat} {q : Program} {loose : List Str} {XP : (Str → Option Value) → Heap → Prop} {YP : World → Heap → Prop} {d : DefRec} {K : Params → PySem.W.Frag} {x : Str} {cl : World → Nat → Cl} {m : World → List D → RF}
    (hn : l.most = some 63) (hdf : d.params.defaults = []) (hr : Room k callerA) (hY : ∀ (w : World) (h : Heap), YP w h → (K w.params).In h)
    (F : ∀ (w : World) (mg : Str → Option Value) (fa : Addr) (h : Heap), (K w.params).In h → h.Ns mainGlobals mg → mg d.name = some (.ref fa) →
      ∃ fd : FuncData, (∀ (s : Shared) (u : Value), BindsTo s fd ⟨[u], []⟩ [(x, u)]) ∧
        ∀ base : Heap, (K w.params).In base → base.Ns mainGlobals mg → FnOk l.prog w (K w.params) mg base (L2.CX l.prog w) k fa fd [x] (spF (K w.params) (cl w) 1 (m w)))
    (hm : ∀ (w : World) (ns : List Int), ns.length ≤ 63 → m w [.lst (ns.map D.int)] = .rt (.bl true)) :
    PySem.W.WalkO q loose XP YP l.row.toRowW d [] (fun f vs => PySem.call f vs) :=
  L2.walk_of (n := 63) (k := k) (x := x) (CX := fun w => L2.CX l.prog w) (sp := fun w => spF (K w.params) (cl w) 1 (m w)) hn (by decide) hdf hr hY F (fun w H a ns hl _ hS => by
    have own : ∀ (ns : List Int) , Owns (K w.params) (cl w) H H (ns.map D.int) (ns.map V.int) zf := fun ns => by
      induction ns with
      | nil => rfl
      | cons i r ih => exact ⟨.int i, _, zf, zf, rfl, rfl, ih, fun _ => Nat.le_refl _⟩
    refine ⟨rfl, H, [.lst (ns.map D.int)], Le.refl, ⟨.ref a, [], zf, zf, rfl, ⟨a, _, rfl, hS, own ns⟩, rfl, fun _ => Nat.le_refl _⟩, ?_⟩
    rw [hm w ns hl]
    exact fun v F' H' B _ _ _ o => o) fun w H s e s' z => by
      obtain ⟨_, _, _, _, _, _, _, _, _, _, _, _, z⟩ := z
      exact z
end FL

set_option Elab.async false
set_option linter.all false
set_option maxRecDepth 100000
namespace FL
open PySem L2
/-! ### reckoning with the functions -/
theorem loop_ind {α : Type} {g : D → Rho → Option Rho} {b : Rho → RS} (f : α → D) (P : List α → Rho → Prop) (Q : RS → Prop) (h0 : ∀ ρ, P [] ρ → Q (.nx ρ))
    (hs : ∀ x xs ρ, P (x :: xs) ρ → ∃ ρ1, g (f x) ρ = some ρ1 ∧ ((∃ ρ2, (b ρ1 = .nx ρ2 ∨ b ρ1 = .ct ρ2) ∧ P xs ρ2) ∨ (∃ ρ2, b ρ1 = .bk ρ2 ∧ Q (.nx ρ2)) ∨ (∃ d, b ρ1 = .rt d ∧ Q (.rt d)) ∨ (∃ c ds ρ2, b ρ1 = .ex c ds ρ2 ∧ Q (.ex c ds ρ2)))) :
    ∀ (xs : List α) (ρ : Rho), P xs ρ → Q (loop g b (xs.map f) ρ)
  | [], ρ, h => h0 ρ h
  | x :: xs, ρ, h => by
    obtain ⟨ρ1, hg, h⟩ := hs x xs ρ h
    rw [List.map_cons]
    unfold loop
    rw [hg]
    rcases h with ⟨ρ2, h1, h2⟩ | ⟨ρ2, h1, h2⟩ | ⟨d, h1, h2⟩ | ⟨c, ds, ρ2, h1, h2⟩
    · have ih := loop_ind f P Q h0 hs xs ρ2 h2
      rcases h1 with h1 | h1 <;> (simp only [h1]; exact ih)
    · simp only [h1]; exact h2
    · simp only [h1]; exact h2
    · simp only [h1]; exact h2
theorem loop_fold {α S : Type} {g : D → Rho → Option Rho} {b : Rho → RS} (f : α → D) (env : S → Rho) (step : S → α → S) (I : S → Prop) (xs : List α) (hI : ∀ s, ∀ x ∈ xs, I s → I (step s x))
    (hs : ∀ s, ∀ x ∈ xs, I s → ∃ ρ1, g (f x) (env s) = some ρ1 ∧ b ρ1 = .nx (env (step s x))) : ∀ s, I s → loop g b (xs.map f) (env s) = .nx (env (xs.foldl step s)) ∧ I (xs.foldl step s) := by
  induction xs with
  | nil => exact fun s h => ⟨rfl, h⟩
  | cons x xs ih =>
    intro s h
    obtain ⟨ρ1, h1, h2⟩ := hs s x List.mem_cons_self h
    rw [List.map_cons, List.foldl_cons]
    unfold loop
    simp only [h1, h2]
    exact ih (fun s y hy => hI s y (List.mem_cons_of_mem _ hy)) (fun s y hy => hs s y (List.mem_cons_of_mem _ hy)) _ (hI s x List.mem_cons_self h)
/-- a loop whose turns leave the frame as it is -/
theorem loop_same {α : Type} {g : D → Rho → Option Rho} {b : Rho → RS} (f : α → D) (xs : List α) (ρ : Rho) (hs : ∀ x ∈ xs, ∃ ρ1, g (f x) ρ = some ρ1 ∧ b ρ1 = .nx ρ) : loop g b (xs.map f) ρ = .nx ρ := by
  induction xs with
  | nil => rfl
  | cons x xs ih =>
    obtain ⟨ρ1, h1, h2⟩ := hs x List.mem_cons_self
    rw [List.map_cons]
    unfold loop
    simp only [h1, h2]
    exact ih fun y hy => hs y (List.mem_cons_of_mem _ hy)
theorem lcl_map {α : Type} {vs : List Nat} {g : D → Rho → Option Rho} {t : Rho → RX Bool} {e : Rho → RX D} {ρ : Rho} (f : α → D) (p : α → Bool) (h : α → D) : ∀ (xs : List α) (acc : List D), acc.length + xs.length < 16777216 →
    (∀ x ∈ xs, ∃ ρ1 ρ2, g (f x) ρ = some ρ1 ∧ t ρ1 = .ok (p x) ρ2 ∧ (p x = true → ∃ ρ3, e ρ2 = .ok (h x) ρ3 ∧ fgt vs ρ3 = ρ) ∧ (p x = false → fgt vs ρ2 = ρ)) → lcl vs g t e (xs.map f) acc ρ = .ok (acc ++ (xs.filter p).map h) ρ
  | [], acc, _, _ => by simp [lcl]
  | x :: xs, acc, hl, H => by
    obtain ⟨ρ1, ρ2, h1, h2, h3, h4⟩ := H x List.mem_cons_self
    have H' := fun y hy => H y (List.mem_cons_of_mem x hy)
    rw [List.map_cons]
    unfold lcl
    rw [List.length_cons] at hl
    cases hp : p x with
    | true =>
      obtain ⟨ρ3, h5, h6⟩ := h3 hp
      rw [hp] at h2
      have hc : cap acc.length = true := yes_of (by omega)
      simp only [h1, h2, h5, hc, if_true, h6]
      rw [lcl_map f p h xs (acc ++ [h x]) (by simp only [List.length_append, List.length_cons, List.length_nil]; omega) H']
      simp [hp]
    | false =>
      rw [hp] at h2
      simp only [h1, h2, h4 hp]
      rw [lcl_map f p h xs acc (by omega) H']
      simp [hp]
/-- .. without a test -/
theorem lcl_all {α : Type} {vs : List Nat} {g : D → Rho → Option Rho} {e : Rho → RX D} {ρ : Rho} (f : α → D) (h : α → D) (xs : List α) (hl : xs.length < 16777216)
    (H : ∀ x ∈ xs, ∃ ρ1 ρ3, g (f x) ρ = some ρ1 ∧ e ρ1 = .ok (h x) ρ3 ∧ fgt vs ρ3 = ρ) : lcl vs g tT e (xs.map f) [] ρ = .ok (xs.map h) ρ := by
  rw [lcl_map f (fun _ => true) h xs [] (by simpa using hl) fun x hx => by
    obtain ⟨ρ1, ρ3, h1, h2, h3⟩ := H x hx
    exact ⟨ρ1, ρ1, h1, rfl, fun _ => ⟨ρ3, h2, h3⟩, fun z => by cases z⟩]
  rw [List.nil_append]
  congr 2
  exact List.filter_eq_self.mpr fun _ _ => rfl
theorem cap_of {n : Nat} (h : n < 16777216) : cap n = true := yes_of h
theorem cap_0 : cap 0 = true := cap_of (by decide)
theorem cap_1 : cap 1 = true := cap_of (by decide)
theorem cap_2 : cap 2 = true := cap_of (by decide)
theorem cap_3 : cap 3 = true := cap_of (by decide)
theorem cap_4 : cap 4 = true := cap_of (by decide)
theorem cap_5 : cap 5 = true := cap_of (by decide)
theorem cap_6 : cap 6 = true := cap_of (by decide)
theorem cap_7 : cap 7 = true := cap_of (by decide)
theorem cap_8 : cap 8 = true := cap_of (by decide)
theorem cap_9 : cap 9 = true := cap_of (by decide)
theorem cap_10 : cap 10 = true := cap_of (by decide)
theorem cap_11 : cap 11 = true := cap_of (by decide)
theorem cap_12 : cap 12 = true := cap_of (by decide)
theorem cap_13 : cap 13 = true := cap_of (by decide)
theorem cap_14 : cap 14 = true := cap_of (by decide)
theorem cap_15 : cap 15 = true := cap_of (by decide)
theorem cap_16 : cap 16 = true := cap_of (by decide)
theorem cap_17 : cap 17 = true := cap_of (by decide)
theorem cap_18 : cap 18 = true := cap_of (by decide)
theorem cap_19 : cap 19 = true := cap_of (by decide)
theorem cap_20 : cap 20 = true := cap_of (by decide)
theorem cap_21 : cap 21 = true := cap_of (by decide)
theorem cap_22 : cap 22 = true := cap_of (by decide)
theorem cap_23 : cap 23 = true := cap_of (by decide)
theorem cap_24 : cap 24 = true := cap_of (by decide)
theorem cap_25 : cap 25 = true := cap_of (by decide)
theorem cap_26 : cap 26 = true := cap_of (by decide)
theorem cap_27 : cap 27 = true := cap_of (by decide)
theorem cap_28 : cap 28 = true := cap_of (by decide)
theorem cap_29 : cap 29 = true := cap_of (by decide)
theorem cap_30 : cap 30 = true := cap_of (by decide)
theorem cap_31 : cap 31 = true := cap_of (by decide)
theorem cap_32 : cap 32 = true := cap_of (by decide)
theorem cap_33 : cap 33 = true := cap_of (by decide)
theorem cap_34 : cap 34 = true := cap_of (by decide)
theorem cap_35 : cap 35 = true := cap_of (by decide)
theorem cap_36 : cap 36 = true := cap_of (by decide)
theorem cap_37 : cap 37 = true := cap_of (by decide)
theorem cap_38 : cap 38 = true := cap_of (by decide)
theorem cap_39 : cap 39 = true := cap_of (by decide)
theorem cap_40 : cap 40 = true := cap_of (by decide)
theorem bnd_of {i : Int} (h : -(2 ^ 62) ≤ i ∧ i < 2 ^ 62) : bnd i = true := yes_of h
theorem D.pures_map {α : Type} {f : α → D} (h : ∀ x, (f x).pure = true) : ∀ (l : List α), D.pures (l.map f) = true
  | [] => rfl
  | x :: l => by rw [List.map_cons, D.pures, h x, D.pures_map h l]; rfl
theorem D.pures_int (l : List Int) : D.pures (l.map D.int) = true := D.pures_map (fun _ => rfl) l
theorem D.frzs_map {α : Type} {f : α → D} (h : ∀ x, (f x).pure = true) (l : List α) : D.frzs (l.map f) = l.map f := D.frzs_of_pure (D.pures_map h l)
theorem D.frzs_int (l : List Int) : D.frzs (l.map D.int) = l.map D.int := D.frzs_map (fun _ => rfl) l
theorem rng_eq (lo : Int) (n : Nat) : rng lo n = ((List.range n).map fun (k : Nat) => lo + k).map D.int := by unfold rng; rw [List.map_map]; rfl
theorem atI_lt {α : Type} {xs : List α} {i : Int} (h0 : 0 ≤ i) (h : i.toNat < xs.length) : atI xs i = some (xs[i.toNat]) := by
  have q := atI_nat (List.getElem?_eq_getElem h)
  rw [Int.toNat_of_nonneg h0] at q
  exact q
theorem flat_all (l : List Int) : (l.map D.int).all flatD = true := by
  rw [List.all_eq_true]
  intro d hd
  obtain ⟨i, _, rfl⟩ := List.mem_map.mp hd
  rfl
theorem eqv_int (i j : Int) : eqvD (.int i) (.int j) = decide (i = j) := by
  show eqV (.int i) (.int j) = _
  unfold eqV
  by_cases h : i = j <;> simp [h]
theorem any_int (l : List Int) (x : Int) : ((l.map D.int).any fun d => eqvD d (.int x)) = decide (x ∈ l) := by
  rw [List.any_map, Bool.eq_iff_iff, List.any_eq_true, decide_eq_true_iff]
  constructor
  · rintro ⟨y, hy, h⟩
    have h' : eqvD (.int y) (.int x) = true := h
    rw [eqv_int, decide_eq_true_iff] at h'
    exact h' ▸ hy
  · exact fun h => ⟨x, h, by show eqvD (.int x) (.int x) = true; rw [eqv_int]; simp⟩
theorem inD_ints {d : D} {l : List Int} (h : sq d = some (l.map D.int)) (x : Int) : inD (.int x) d = some (.bl (decide (x ∈ l))) := by
  unfold inD
  rw [h]
  simp only [flat_all, any_int]
  rfl
theorem ninD_ints {d : D} {l : List Int} (h : sq d = some (l.map D.int)) (x : Int) : ninD (.int x) d = some (.bl (!decide (x ∈ l))) := by
  unfold ninD
  rw [h]
  simp only [flat_all, any_int]
  rfl
theorem eqS_int (i j : Int) : eqS (.int i) (.int j) = some (.bl (decide (i = j))) := by
  unfold eqS scl scal; simp
theorem neS_int (i j : Int) : neS (.int i) (.int j) = some (.bl (!decide (i = j))) := by
  unfold neS scl scal; simp
theorem eqS_bl (i j : Bool) : eqS (.bl i) (.bl j) = some (.bl (decide (i = j))) := by
  unfold eqS scl scal; simp
theorem neS_bl (i j : Bool) : neS (.bl i) (.bl j) = some (.bl (!decide (i = j))) := by
  unfold neS scl scal; simp
theorem addI_i (i j : Int) : addI (.int i) (.int j) = some (.int (i + j)) := rfl
theorem subD_i (i j : Int) : subD (.int i) (.int j) = some (.int (i - j)) := rfl
theorem ltD_i (i j : Int) : ltD (.int i) (.int j) = some (.bl (decide (i < j))) := rfl
theorem leD_i (i j : Int) : leD (.int i) (.int j) = some (.bl (decide (i ≤ j))) := rfl
theorem gtD_i (i j : Int) : gtD (.int i) (.int j) = some (.bl (decide (j < i))) := rfl
theorem geD_i (i j : Int) : geD (.int i) (.int j) = some (.bl (decide (j ≤ i))) := rfl
theorem modD_i {i j : Int} (h : 0 < j) : modD (.int i) (.int j) = some (.int (i % j)) := by
  show (if modOk i j then some (D.int (i % j)) else none) = _
  exact if_pos (yes_of h)
theorem divD_i {i j : Int} (h : 0 < j ∧ j < 1073741824) : divD (.int i) (.int j) = some (.int (i / j)) := by
  show (if divOk i j then some (D.int (i / j)) else none) = _
  exact if_pos (yes_of h)
theorem mulD_i {i j : Int} (h : (-(2 ^ 64) < i ∧ i < 2 ^ 64) ∨ (-(2 ^ 64) < j ∧ j < 2 ^ 64)) : mulD (.int i) (.int j) = some (.int (i * j)) := by
  show (if mulOk i j then some (D.int (i * j)) else none) = _
  exact if_pos (yes_of h)
theorem max2_i (i j : Int) : max2 (.int i) (.int j) = some (.int (max i j)) := by
  show some (D.int (if j > i then j else i)) = _
  rw [Int.max_def]
  congr 2
  split <;> split <;> omega
theorem min2_i (i j : Int) : min2 (.int i) (.int j) = some (.int (min i j)) := by
  show some (D.int (if j < i then j else i)) = _
  rw [Int.min_def]
  congr 2
  split <;> split <;> omega
theorem maxL_i (i j : Int) : maxL [.int i, .int j] = some (.int (max i j)) := max2_i i j
theorem minL_i (i j : Int) : minL [.int i, .int j] = some (.int (min i j)) := min2_i i j
theorem int1_i (i : Int) : int1 (.int i) = some (.int i) := rfl
theorem intL_i (i : Int) : intL [.int i] = some (.int i) := rfl
theorem len1_sq {d : D} {ds : List D} (h : sq d = some ds) : len1 d = some (.int ds.length) := by
  show (match sq d with | some ds => some (D.int ds.length) | none => _) = _
  rw [h]
theorem lenL_sq {d : D} {ds : List D} (h : sq d = some ds) : lenL [d] = some (.int ds.length) := len1_sq h
theorem tupL_sq {d : D} {ds : List D} (h : sq d = some ds) : tupL [d] = some (.tup ds) := by
  show (match sq d with | some ds => some (D.tup ds) | none => none) = _
  rw [h]
theorem ixD_sq {d e : D} {ds : List D} {i : Int} (h : sq d = some ds) (h2 : atI ds i = some e) : ixD d (.int i) = some e := by
  unfold ixD
  rw [h]
  exact h2
theorem isi_ty {T : String} {d : D} {n : String} {b : Bool} (h : kindD d = some (.inl n)) (h2 : kitB n T = some b) : isiD (tabTy T) d = some (.bl b) := by
  unfold isiD
  rw [h]
  show (kitB n T).map D.bl = _
  rw [h2]
  rfl
theorem isi_int_int (i : Int) : isiD (tabTy "int") (.int i) = some (.bl true) := isi_ty rfl (by decide +kernel)
theorem isi_bool_int (i : Int) : isiD (tabTy "bool") (.int i) = some (.bl false) := isi_ty rfl (by decide +kernel)
theorem isi_tuple_tup (l : List D) : isiD (tabTy "tuple") (.tup l) = some (.bl true) := isi_ty rfl (by decide +kernel)
end FL
namespace FL
open PySem L2
section
variable {α β : Type} {a : α} {ρ : Rho} {c : Nat} {ds : List D} {d : D}
theorem bind_ok {k : α → Rho → RX β} : (RX.ok a ρ).bind k = k a ρ := rfl
theorem bind_ex {k : α → Rho → RX β} : (RX.ex c ds ρ : RX α).bind k = .ex c ds ρ := rfl
theorem stmt_ok {k : α → Rho → RS} : (RX.ok a ρ).stmt k = k a ρ := rfl
theorem stmt_ex {k : α → Rho → RS} : (RX.ex c ds ρ : RX α).stmt k = .ex c ds ρ := rfl
theorem seq_nx {k : Rho → RS} : (RS.nx ρ).seq k = k ρ := rfl
theorem seq_rt {k : Rho → RS} : (RS.rt d).seq k = .rt d := rfl
theorem seq_ex {k : Rho → RS} : (RS.ex c ds ρ).seq k = .ex c ds ρ := rfl
theorem seq_bk {k : Rho → RS} : (RS.bk ρ).seq k = .bk ρ := rfl
theorem seq_ct {k : Rho → RS} : (RS.ct ρ).seq k = .ct ρ := rfl
theorem fgt_nx {l : List Nat} : (RS.nx ρ).fgt l = .nx (fgt l ρ) := rfl
theorem fgt_bk {l : List Nat} : (RS.bk ρ).fgt l = .bk (fgt l ρ) := rfl
theorem fgt_ct {l : List Nat} : (RS.ct ρ).fgt l = .ct (fgt l ρ) := rfl
theorem fgt_rt {l : List Nat} : (RS.rt d).fgt l = .rt d := rfl
theorem fgt_ex {l : List Nat} : (RS.ex c ds ρ).fgt l = .ex c ds ρ := rfl
theorem out_nx : (RS.nx ρ).out = .rt .non := rfl
theorem out_rt : (RS.rt d).out = .rt d := rfl
theorem out_ex : (RS.ex c ds ρ).out = .ex c ds := rfl
theorem andB_tt {k : Option D} : andB (.bl true) k = k := rfl
theorem andB_ff {k : Option D} : andB (.bl false) k = some (.bl false) := rfl
theorem andB_some {p q : Bool} : andB (.bl p) (some (.bl q)) = some (.bl (p && q)) := by cases p <;> rfl
theorem orB_tt {k : Option D} : orB (.bl true) k = some (.bl true) := rfl
theorem orB_ff {k : Option D} : orB (.bl false) k = k := rfl
theorem orB_some {p q : Bool} : orB (.bl p) (some (.bl q)) = some (.bl (p || q)) := by cases p <;> rfl
theorem andX_tt {k : RX D} : andX (.bl true) k ρ = k := rfl
theorem andX_ff {k : RX D} : andX (.bl false) k ρ = .ok (.bl false) ρ := rfl
theorem andX_some {p q : Bool} : andX (.bl p) (.ok (.bl q) ρ) ρ = .ok (.bl (p && q)) ρ := by cases p <;> rfl
theorem orX_tt {k : RX D} : orX (.bl true) k ρ = .ok (.bl true) ρ := rfl
theorem orX_ff {k : RX D} : orX (.bl false) k ρ = k := rfl
theorem orX_some {p q : Bool} : orX (.bl p) (.ok (.bl q) ρ) ρ = .ok (.bl (p || q)) ρ := by cases p <;> rfl
theorem itAnd {p q : Bool} : (if p = true then some q else some false) = some (p && q) := by cases p <;> rfl
theorem itOr {p q : Bool} : (if p = true then some true else some q) = some (p || q) := by cases p <;> rfl
theorem itAndX {p q : Bool} : (if p = true then RX.ok q ρ else RX.ok false ρ) = RX.ok (p && q) ρ := by cases p <;> rfl
theorem itOrX {p q : Bool} : (if p = true then RX.ok true ρ else RX.ok q ρ) = RX.ok (p || q) ρ := by cases p <;> rfl
theorem opt_some : opt (some d) ρ = .ok d ρ := rfl
theorem optL_some : optL (some ds) ρ = .ok ds ρ := rfl
end
end FL

set_option Elab.async false
set_option linter.all false
set_option maxRecDepth 100000
set_option maxHeartbeats 4000000
/-! the program of rimcords_k00_rims: its defs as functions, and their walks -/
namespace Prg
open PySem L2 FL
open PyProof.Rows (envOfC)
def topS (i : Nat) : Stmt := PySem.Challenge.pw_rimcords_k00_rims.main.body.getD i (.Pass ⟨0, 0, 0, 0⟩)
def cl : Nat → Cl := fun _ => ⟨0, []⟩
abbrev s_d_gaps : Stmt := (topS 1)
abbrev N_d_gaps : List Str := ["pins"]
noncomputable def b_d_gaps : Rho → RS := (sRet (eQ (qBin max2 (qV 0) (qC (.int 1)))))
noncomputable def d_gaps : List D → RF := runF 1 1 b_d_gaps
abbrev s_d_arc : Stmt := (topS 2)
abbrev N_d_arc : List Str := ["pins", "first", "last", "steps", "k"]
noncomputable def b_d_arc : Rho → RS := (sSeq (sIf (tQ1 (qB (qBin eqS (qV 0) (qC (.int 0))))) (sRet (eTup aNil)) sNx) (sSeq (sSet 3 (eQ (qBin modD (qBin subD (qV 2) (qV 1)) (qV 0)))) (sRet (eFn tupL (aCons (eLc [4] (iRg1 (aCons (eV 3) aNil)) (gN 4) tT (eQ (qBin modD (qBin addI (qBin addI (qV 1) (qC (.int 1))) (qV 4)) (qV 0)))) aNil)))))
noncomputable def d_arc : List D → RF := runF 3 5 b_d_arc
abbrev s_d_parts : Stmt := (topS 3)
abbrev N_d_parts : List Str := ["pins", "one", "other", "first", "last", "passed"]
noncomputable def b_d_parts : Rho → RS := (sSeq (sSet 5 (eCall d_arc [] (aCons (eV 0) (aCons (eV 3) (aCons (eV 4) aNil))))) (sRet (eQ (qBin neS (qBin inD (qV 1) (qV 5)) (qBin inD (qV 2) (qV 5))))))
noncomputable def d_parts : List D → RF := runF 5 6 b_d_parts
abbrev s_d_crosses : Stmt := (topS 4)
abbrev N_d_crosses : List Str := ["a", "b", "c", "d", "low", "high"]
noncomputable def b_d_crosses : Rho → RS := (sSeq (sIf (tOr (tQ1 (qB (qBin eqS (qV 0) (qV 1)))) (tOr (tQ1 (qB (qBin eqS (qV 2) (qV 3)))) (tOr (tB1 (eBin inD (eV 0) (eTup (aCons (eV 2) (aCons (eV 3) aNil))))) (tB1 (eBin inD (eV 1) (eTup (aCons (eV 2) (aCons (eV 3) aNil)))))))) (sRet (eQ (qC (.bl false)))) sNx) (sSeq (sSet 4 (eQ (qBin min2 (qV 0) (qV 1)))) (sSeq (sSet 5 (eQ (qBin max2 (qV 0) (qV 1)))) (sRet (eQ (qBin neS (qChain ltD ltD (qV 4) (qV 2) (qV 5)) (qChain ltD ltD (qV 4) (qV 3) (qV 5))))))))
noncomputable def d_crosses : List D → RF := runF 4 6 b_d_crosses
abbrev s_d_law_whole : Stmt := (topS 6)
abbrev N_d_law_whole : List Str := ["_law_value"]
noncomputable def b_d_law_whole : Rho → RS := (sRet (eQ (qAnd (qUn (isiD (tabTy "int")) (qV 0)) (qNot (qUn (isiD (tabTy "bool")) (qV 0))))))
noncomputable def d_law_whole : List D → RF := runF 1 1 b_d_law_whole
abbrev s_d_law_cell : Stmt := (topS 7)
abbrev N_d_law_cell : List Str := ["_law_script", "_law_k", "_law_seed", "_law_cell_here"]
noncomputable def b_d_law_cell : Rho → RS := (sSeq (sIf (tQ1 (qB (qBin ltD (qV 1) (qUn len1 (qV 0))))) (sRet (eQ (qBin ixD (qV 0) (qV 1)))) sNx) (sSeq (sSet 2 (eQ (qC (.int 17)))) (sSeq (sFgt [3] (sFor (iSq (eV 0)) (gN 3) (sFgt [3] (sSet 2 (eQ (qBin modD (qUn int1 (qBin addI (qBin mulD (qV 2) (qC (.int 31))) (qBin modD (qUn int1 (qV 3)) (qC (.int 1000003))))) (qC (.int 1000003)))))))) (sRet (eQ (qBin modD (qUn int1 (qBin mulD (qBin mulD (qBin addI (qV 2) (qC (.int 7))) (qBin addI (qV 1) (qC (.int 3)))) (qC (.int 69621)))) (qC (.int 2147483647))))))))
noncomputable def d_law_cell : List D → RF := runF 2 4 b_d_law_cell
abbrev s_d_law_truth : Stmt := (topS 8)
abbrev N_d_law_truth : List Str := ["_law_value", "_law_due"]
noncomputable def b_d_law_truth : Rho → RS := (sSeq (sIf (tQ1 (qB (qV 1))) (sRet (eQ (qBin isB (qV 0) (qC (.bl true))))) sNx) (sRet (eQ (qBin isB (qV 0) (qC (.bl false))))))
noncomputable def d_law_truth : List D → RF := runF 2 2 b_d_law_truth
abbrev s_d_law_row : Stmt := (topS 9)
abbrev N_d_law_row : List Str := ["_law_value", "_law_due", "_law_k"]
noncomputable def b_d_law_row : Rho → RS := (sSeq (sIf (tQ1 (qOrT (qNotT (qB (qUn (isiD (tabTy "tuple")) (qV 0)))) (qB (qBin neS (qUn len1 (qV 0)) (qUn len1 (qV 1)))))) (sRet (eQ (qC (.bl false)))) sNx) (sSeq (sFgt [2] (sFor (iRg1 (aCons (eQ (qUn len1 (qV 1))) aNil)) (gN 2) (sFgt [2] (sIf (tOr (tNot (tB1 (eCall d_law_whole [] (aCons (eQ (qBin ixD (qV 0) (qV 2))) aNil)))) (tQ1 (qB (qBin neS (qBin ixD (qV 0) (qV 2)) (qBin ixD (qV 1) (qV 2)))))) (sRet (eQ (qC (.bl false)))) sNx)))) (sRet (eQ (qC (.bl true))))))
noncomputable def d_law_row : List D → RF := runF 2 3 b_d_law_row
abbrev s_d_law_walk : Stmt := (topS 10)
abbrev N_d_law_walk : List Str := ["_law_rim_here", "_law_start", "_law_stop", "_law_row_here", "_law_k", "_law_step"]
noncomputable def b_d_law_walk : Rho → RS := (sSeq (sSet 3 (eLst aNil)) (sSeq (sSet 4 (eV 1)) (sSeq (sFgt [4, 5] (sFor (iRg1 (aCons (eV 0) aNil)) (gN 5) (sFgt [5] (sSeq (sIf (tQ1 (qB (qBin eqS (qV 4) (qV 2)))) sBk sNx) (sSeq (sSet 4 (eQ (qBin modD (qUn int1 (qBin addI (qV 4) (qC (.int 1)))) (qV 0)))) (sEx (eApp 3 (eV 4)))))))) (sRet (eM 3)))))
noncomputable def d_law_walk : List D → RF := runF 3 6 b_d_law_walk
abbrev s_d_law_apart : Stmt := (topS 11)
abbrev N_d_law_apart : List Str := ["_law_w", "_law_x", "_law_y", "_law_z"]
noncomputable def b_d_law_apart : Rho → RS := (sSeq (sIf (tOr (tB1 (eBin inD (eV 0) (eLst (aCons (eV 1) (aCons (eV 2) (aCons (eV 3) aNil)))))) (tOr (tB1 (eBin inD (eV 1) (eLst (aCons (eV 2) (aCons (eV 3) aNil))))) (tQ1 (qB (qBin eqS (qV 2) (qV 3)))))) (sRet (eQ (qC (.bl false)))) sNx) (sRet (eQ (qBin neS (qChain ltD ltD (qBin min2 (qV 0) (qV 1)) (qV 2) (qBin max2 (qV 0) (qV 1))) (qChain ltD ltD (qBin min2 (qV 0) (qV 1)) (qV 3) (qBin max2 (qV 0) (qV 1)))))))
noncomputable def d_law_apart : List D → RF := runF 4 4 b_d_law_apart
abbrev s_d_law_rim : Stmt := (topS 12)
abbrev N_d_law_rim : List Str := ["_law_rim_here", "_law_start", "_law_near", "_law_stop", "_law_met", "_law_back", "_law_away", "_law_due"]
noncomputable def b_d_law_rim : Rho → RS := (sSeq (sFgt [6, 5, 7, 4, 3] (sFor (iRg1 (aCons (eQ (qBin max2 (qV 0) (qC (.int 1)))) aNil)) (gN 3) (sFgt [6, 5, 7, 4, 3] (sSeq (sSet 4 (eCall d_law_walk [] (aCons (eV 0) (aCons (eV 1) (aCons (eV 3) aNil))))) (sSeq (sIf (tNot (tB1 (eCall d_law_row [] (aCons (eCall d_arc [] (aCons (eV 0) (aCons (eV 1) (aCons (eV 3) aNil)))) (aCons (eV 4) aNil))))) (sRet (eQ (qC (.bl false)))) sNx) (sSeq (sSet 5 (eCall d_law_walk [] (aCons (eV 0) (aCons (eV 3) (aCons (eV 1) aNil))))) (sSeq (sIf (tNot (tB1 (eCall d_law_row [] (aCons (eCall d_arc [] (aCons (eV 0) (aCons (eV 3) (aCons (eV 1) aNil)))) (aCons (eV 5) aNil))))) (sRet (eQ (qC (.bl false)))) sNx) (sFgt [6, 7] (sFor (iRg1 (aCons (eV 0) aNil)) (gN 6) (sFgt [6, 7] (sSeq (sSet 7 (eQ (qBin neS (qBin inD (qV 2) (qV 4)) (qBin inD (qV 6) (qV 4))))) (sSeq (sIf (tNot (tB1 (eCall d_law_truth [] (aCons (eCall d_parts [] (aCons (eV 0) (aCons (eV 2) (aCons (eV 6) (aCons (eV 1) (aCons (eV 3) aNil)))))) (aCons (eV 7) aNil))))) (sRet (eQ (qC (.bl false)))) sNx) (sIf (tNot (tB1 (eCall d_law_truth [] (aCons (eCall d_parts [] (aCons (eV 0) (aCons (eV 6) (aCons (eV 2) (aCons (eV 3) (aCons (eV 1) aNil)))))) (aCons (eV 7) aNil))))) (sRet (eQ (qC (.bl false)))) sNx))))))))))))) (sRet (eQ (qC (.bl true)))))
noncomputable def d_law_rim : List D → RF := runF 3 8 b_d_law_rim
abbrev s_d_law_four : Stmt := (topS 13)
abbrev N_d_law_four : List Str := ["_law_w", "_law_x", "_law_y", "_law_z", "_law_due"]
noncomputable def b_d_law_four : Rho → RS := (sSeq (sSet 4 (eCall d_law_apart [] (aCons (eV 0) (aCons (eV 1) (aCons (eV 2) (aCons (eV 3) aNil)))))) (sSeq (sIf (tOr (tNot (tB1 (eCall d_law_truth [] (aCons (eCall d_crosses [] (aCons (eV 0) (aCons (eV 1) (aCons (eV 2) (aCons (eV 3) aNil))))) (aCons (eV 4) aNil))))) (tNot (tB1 (eCall d_law_truth [] (aCons (eCall d_crosses [] (aCons (eV 2) (aCons (eV 3) (aCons (eV 0) (aCons (eV 1) aNil))))) (aCons (eV 4) aNil)))))) (sRet (eQ (qC (.bl false)))) sNx) (sRet (eAnd (eCall d_law_truth [] (aCons (eCall d_crosses [] (aCons (eV 1) (aCons (eV 0) (aCons (eV 2) (aCons (eV 3) aNil))))) (aCons (eV 4) aNil))) (eCall d_law_truth [] (aCons (eCall d_crosses [] (aCons (eV 0) (aCons (eV 1) (aCons (eV 3) (aCons (eV 2) aNil))))) (aCons (eV 4) aNil)))))))
noncomputable def d_law_four : List D → RF := runF 4 5 b_d_law_four
abbrev s_d_law : Stmt := (topS 14)
abbrev N_d_law : List Str := ["_law_script", "_law_rim_here", "_law_start", "_law_near", "_law_stop", "_law_k", "_law_told", "_law_w", "_law_x", "_law_y", "_law_z", "_law_met", "_law_due"]
noncomputable def b_d_law : Rho → RS := (sSeq (sSet 1 (eBin modD (eFn intL (aCons (eCall d_law_cell [] (aCons (eV 0) (aCons (eQ (qC (.int 0))) aNil))) aNil)) (eQ (qC (.int 13))))) (sSeq (sIf (tB1 (eBin eqS (eBin modD (eFn intL (aCons (eCall d_law_cell [] (aCons (eV 0) (aCons (eQ (qC (.int 1))) aNil))) aNil)) (eQ (qC (.int 8)))) (eQ (qC (.int 1))))) (sSet 1 (eBin modD (eFn intL (aCons (eCall d_law_cell [] (aCons (eV 0) (aCons (eQ (qC (.int 0))) aNil))) aNil)) (eQ (qC (.int 41))))) sNx) (sSeq (sSet 2 (eBin modD (eFn intL (aCons (eCall d_law_cell [] (aCons (eV 0) (aCons (eQ (qC (.int 2))) aNil))) aNil)) (eQ (qBin max2 (qV 1) (qC (.int 1)))))) (sSeq (sSet 3 (eBin modD (eFn intL (aCons (eCall d_law_cell [] (aCons (eV 0) (aCons (eQ (qC (.int 3))) aNil))) aNil)) (eQ (qBin max2 (qV 1) (qC (.int 1)))))) (sSeq (sSet 4 (eBin modD (eFn intL (aCons (eCall d_law_cell [] (aCons (eV 0) (aCons (eQ (qC (.int 4))) aNil))) aNil)) (eQ (qBin max2 (qV 1) (qC (.int 1)))))) (sSeq (sFgt [5, 6] (sFor (iRg1 (aCons (eQ (qC (.int 41))) aNil)) (gN 5) (sFgt [5, 6] (sSeq (sSet 6 (eCall d_gaps [] (aCons (eV 5) aNil))) (sIf (tOr (tNot (tB1 (eCall d_law_whole [] (aCons (eV 6) aNil)))) (tQ1 (qB (qBin neS (qV 6) (qBin max2 (qV 5) (qC (.int 1))))))) (sRet (eQ (qC (.bl false)))) sNx))))) (sSeq (sIf (tNot (tB1 (eCall d_law_rim [] (aCons (eV 1) (aCons (eV 2) (aCons (eV 3) aNil)))))) (sRet (eQ (qC (.bl false)))) sNx) (sSeq (sSet 7 (eBin modD (eFn intL (aCons (eCall d_law_cell [] (aCons (eV 0) (aCons (eQ (qC (.int 5))) aNil))) aNil)) (eQ (qC (.int 40))))) (sSeq (sSet 8 (eBin modD (eFn intL (aCons (eCall d_law_cell [] (aCons (eV 0) (aCons (eQ (qC (.int 6))) aNil))) aNil)) (eQ (qC (.int 40))))) (sSeq (sSet 9 (eBin modD (eFn intL (aCons (eCall d_law_cell [] (aCons (eV 0) (aCons (eQ (qC (.int 7))) aNil))) aNil)) (eQ (qC (.int 40))))) (sSeq (sFgt [10] (sFor (iRg1 (aCons (eQ (qC (.int 40))) aNil)) (gN 10) (sFgt [10] (sIf (tOr (tNot (tB1 (eCall d_law_four [] (aCons (eV 7) (aCons (eV 8) (aCons (eV 9) (aCons (eV 10) aNil))))))) (tOr (tNot (tB1 (eCall d_law_four [] (aCons (eV 7) (aCons (eV 8) (aCons (eV 7) (aCons (eV 10) aNil))))))) (tNot (tB1 (eCall d_law_four [] (aCons (eV 7) (aCons (eV 7) (aCons (eV 9) (aCons (eV 10) aNil))))))))) (sRet (eQ (qC (.bl false)))) sNx)))) (sSeq (sSet 6 (eCallK d_gaps 0 1 [0] [] aNil (aCons (eV 1) aNil))) (sSeq (sIf (tOr (tNot (tB1 (eCall d_law_whole [] (aCons (eV 6) aNil)))) (tQ1 (qB (qBin neS (qV 6) (qBin max2 (qV 1) (qC (.int 1))))))) (sRet (eQ (qC (.bl false)))) sNx) (sSeq (sSet 11 (eCall d_law_walk [] (aCons (eV 1) (aCons (eV 2) (aCons (eV 4) aNil))))) (sSeq (sFgt [12] (sIf (tQ1 (qB (qBin gtD (qV 1) (qC (.int 0))))) (sSeq (sSet 12 (eQ (qBin neS (qBin inD (qV 3) (qV 11)) (qBin inD (qBin modD (qUn int1 (qV 8)) (qV 1)) (qV 11))))) (sIf (tNot (tB1 (eCall d_law_truth [] (aCons (eCallK d_parts 0 5 [0, 1, 2, 3, 4] [] aNil (aCons (eV 1) (aCons (eV 3) (aCons (eQ (qBin modD (qUn int1 (qV 8)) (qV 1))) (aCons (eV 2) (aCons (eV 4) aNil)))))) (aCons (eV 12) aNil))))) (sRet (eQ (qC (.bl false)))) sNx)) sNx)) (sSeq (sIf (tNot (tB1 (eCall d_law_truth [] (aCons (eCallK d_crosses 0 4 [0, 1, 2, 3] [] aNil (aCons (eV 7) (aCons (eV 8) (aCons (eV 9) (aCons (eV 3) aNil))))) (aCons (eCall d_law_apart [] (aCons (eV 7) (aCons (eV 8) (aCons (eV 9) (aCons (eV 3) aNil))))) aNil))))) (sRet (eQ (qC (.bl false)))) sNx) (sRet (eAnd (eCall d_law_row [] (aCons (eCallK d_arc 0 3 [0, 1, 2] [] aNil (aCons (eV 1) (aCons (eV 2) (aCons (eV 4) aNil)))) (aCons (eV 11) aNil))) (eCall d_law_row [] (aCons (eCall d_arc [] (aCons (eV 1) (aCons (eV 2) (aCons (eV 4) aNil)))) (aCons (eV 11) aNil)))))))))))))))))))))
noncomputable def d_law : List D → RF := runF 1 13 b_d_law
structure Txt (mg : Str → Option Value) : Prop where
  n_bool : mg "bool" = none
  n_int : mg "int" = none
  n_isinstance : mg "isinstance" = none
  n_len : mg "len" = none
  n_max : mg "max" = none
  n_min : mg "min" = none
  n_range : mg "range" = none
  n_tuple : mg "tuple" = none
theorem sc_d_gaps : FnScope N_d_gaps ["pins"] (defScope s_d_gaps) := ⟨rfl, rfl, rfl, by decide +kernel, rfl, by decide +kernel, by decide +kernel⟩
theorem sc_d_arc : FnScope N_d_arc ["pins", "first", "last"] (defScope s_d_arc) := ⟨rfl, rfl, rfl, by decide +kernel, rfl, by decide +kernel, by decide +kernel⟩
abbrev lit_d_arc_8_17 : Scope := { kind := .function, names := [(".0", .local), ("k", .local), ("first", .free), ("pins", .free)], isGenerator := false, isCoroutine := false, more := [] }
theorem sc_d_parts : FnScope N_d_parts ["pins", "one", "other", "first", "last"] (defScope s_d_parts) := ⟨rfl, rfl, rfl, by decide +kernel, rfl, by decide +kernel, by decide +kernel⟩
theorem sc_d_crosses : FnScope N_d_crosses ["a", "b", "c", "d"] (defScope s_d_crosses) := ⟨rfl, rfl, rfl, by decide +kernel, rfl, by decide +kernel, by decide +kernel⟩
theorem sc_d_law_whole : FnScope N_d_law_whole ["_law_value"] (defScope s_d_law_whole) := ⟨rfl, rfl, rfl, by decide +kernel, rfl, by decide +kernel, by decide +kernel⟩
theorem sc_d_law_cell : FnScope N_d_law_cell ["_law_script", "_law_k"] (defScope s_d_law_cell) := ⟨rfl, rfl, rfl, by decide +kernel, rfl, by decide +kernel, by decide +kernel⟩
theorem sc_d_law_truth : FnScope N_d_law_truth ["_law_value", "_law_due"] (defScope s_d_law_truth) := ⟨rfl, rfl, rfl, by decide +kernel, rfl, by decide +kernel, by decide +kernel⟩
theorem sc_d_law_row : FnScope N_d_law_row ["_law_value", "_law_due"] (defScope s_d_law_row) := ⟨rfl, rfl, rfl, by decide +kernel, rfl, by decide +kernel, by decide +kernel⟩
theorem sc_d_law_walk : FnScope N_d_law_walk ["_law_rim_here", "_law_start", "_law_stop"] (defScope s_d_law_walk) := ⟨rfl, rfl, rfl, by decide +kernel, rfl, by decide +kernel, by decide +kernel⟩
theorem sc_d_law_apart : FnScope N_d_law_apart ["_law_w", "_law_x", "_law_y", "_law_z"] (defScope s_d_law_apart) := ⟨rfl, rfl, rfl, by decide +kernel, rfl, by decide +kernel, by decide +kernel⟩
theorem sc_d_law_rim : FnScope N_d_law_rim ["_law_rim_here", "_law_start", "_law_near"] (defScope s_d_law_rim) := ⟨rfl, rfl, rfl, by decide +kernel, rfl, by decide +kernel, by decide +kernel⟩
theorem sc_d_law_four : FnScope N_d_law_four ["_law_w", "_law_x", "_law_y", "_law_z"] (defScope s_d_law_four) := ⟨rfl, rfl, rfl, by decide +kernel, rfl, by decide +kernel, by decide +kernel⟩
theorem sc_d_law : FnScope N_d_law ["_law_script"] (defScope s_d_law) := ⟨rfl, rfl, rfl, by decide +kernel, rfl, by decide +kernel, by decide +kernel⟩
section
variable {P : Program} {w : World} {K : PySem.W.Frag} {mg : Str → Option Value} {base : Heap}
theorem ok_d_gaps {fa : Addr} {fd : FuncData} (Fn : Fun K "gaps" "gaps" s_d_gaps fa fd) (T : Txt mg) : FnOk P w K mg base (L2.CX P w) 1 fa fd ["pins"] (spF K cl 1 d_gaps) :=
  fn_F Fn sc_d_gaps rfl rfl fun cdv A outer s H E hr => (fss_one (fs_ret (fe_q (fq_callB2 q_max (call_max2 rfl) (by rfl) T.n_max (by decide +kernel) (fq_v 0) fq_int))))
theorem ok_d_arc {fa : Addr} {fd : FuncData} (Fn : Fun K "arc" "arc" s_d_arc fa fd) (T : Txt mg) : FnOk P w K mg base (L2.CX P w) 1 fa fd ["pins", "first", "last"] (spF K cl 3 d_arc) :=
  fn_F Fn sc_d_arc rfl rfl fun cdv A outer s H E hr => (fss_cons (fs_if (ft_q (fqt_cmp q_eqS op_eq (fq_v 0) fq_int (nomark _))) (fss_one (fs_ret (fe_tup fa_nil))) fss_nil) (fss_cons (fs_set (i := 3) sc_d_arc.nd rfl (by first | exact .inl rfl | exact .inr rfl) (fe_q (fq_op q_mod op_mod (fq_op q_sub op_sub (fq_v 2) (fq_v 1)) (fq_v 0)))) (fss_one (fs_ret (fe_callTy d_tuple call_tuple_of (by rfl) T.n_tuple (by decide +kernel) (fa_cons (fe_lc (own := [("k", 4)]) rfl sc_d_arc.nd (fi_range1 (by rfl) T.n_range (fa_cons (fe_v 3) fa_nil)) (blkOk_by (own := [("k", 4)]) (N := N_d_arc) (sc := (defScope s_d_arc)) (by decide +kernel)) (fun _ _ _ _ _ => (fg_name (i := 4) sc_d_arc.nd rfl (by first | exact .inl rfl | exact .inr rfl))) (fun _ _ _ _ _ => ft_nil) (fun _ _ _ _ _ => (fe_q (fq_op q_mod op_mod (fq_op q_addI op_add (fq_op q_addI op_add (fq_v 1) fq_int) (fq_v 4)) (fq_v 0))))) fa_nil))))))
theorem ok_d_parts {fa : Addr} {fd : FuncData} (Fn : Fun K "parts" "parts" s_d_parts fa fd) (T : Txt mg) (h_d_arc : Fnc P w K mg base cl "arc" 1 3 d_arc []) : FnOk P w K mg base (L2.CX P w) 2 fa fd ["pins", "one", "other", "first", "last"] (spF K cl 5 d_parts) :=
  fn_F Fn sc_d_parts rfl rfl fun cdv A outer s H E hr => (fss_cons (fs_set (i := 5) sc_d_parts.nd rfl (by first | exact .inl rfl | exact .inr rfl) (fe_call h_d_arc (hr.mono (by decide)) (by rfl) tk_of (fa_cons (fe_v 0) (fa_cons (fe_v 3) (fa_cons (fe_v 4) fa_nil))))) (fss_one (fs_ret (fe_q (fq_cmp q_neS op_ne (fq_cmp q_in op_in_seq (fq_v 1) (fq_v 5) (by rfl)) (fq_cmp q_in op_in_seq (fq_v 2) (fq_v 5) (by rfl)) (nomark _))))))
theorem ok_d_crosses {fa : Addr} {fd : FuncData} (Fn : Fun K "crosses" "crosses" s_d_crosses fa fd) (T : Txt mg) : FnOk P w K mg base (L2.CX P w) 1 fa fd ["a", "b", "c", "d"] (spF K cl 4 d_crosses) :=
  fn_F Fn sc_d_crosses rfl rfl fun cdv A outer s H E hr => (fss_cons (fs_if (PW.pt (fw_or (ft_q (fqt_cmp q_eqS op_eq (fq_v 0) (fq_v 1) (nomark _))) (fw_or (ft_q (fqt_cmp q_eqS op_eq (fq_v 2) (fq_v 3) (nomark _))) (fw_or (ft_cmpR d_in op_in_seq (fe_v 0) (fe_tup (fa_cons (fe_v 2) (fa_cons (fe_v 3) fa_nil))) (by rfl)) (fw_or1 (ft_cmpR d_in op_in_seq (fe_v 1) (fe_tup (fa_cons (fe_v 2) (fa_cons (fe_v 3) fa_nil))) (by rfl))))))) (fss_one (fs_ret (fe_q fq_bl))) fss_nil) (fss_cons (fs_set (i := 4) sc_d_crosses.nd rfl (by first | exact .inl rfl | exact .inr rfl) (fe_q (fq_callB2 q_min (call_min2 rfl) (by rfl) T.n_min (by decide +kernel) (fq_v 0) (fq_v 1)))) (fss_cons (fs_set (i := 5) sc_d_crosses.nd rfl (by first | exact .inl rfl | exact .inr rfl) (fe_q (fq_callB2 q_max (call_max2 rfl) (by rfl) T.n_max (by decide +kernel) (fq_v 0) (fq_v 1)))) (fss_one (fs_ret (fe_q (fq_cmp q_neS op_ne (fq_chain q_lt q_lt op_lt op_lt (fq_v 4) (fq_v 2) (fq_v 5) (by rfl)) (fq_chain q_lt q_lt op_lt op_lt (fq_v 4) (fq_v 3) (fq_v 5) (by rfl)) (nomark _))))))))
theorem ok_d_law_whole {fa : Addr} {fd : FuncData} (Fn : Fun K "_law_whole" "_law_whole" s_d_law_whole fa fd) (T : Txt mg) : FnOk P w K mg base (L2.CX P w) 1 fa fd ["_law_value"] (spF K cl 1 d_law_whole) :=
  fn_F Fn sc_d_law_whole rfl rfl fun cdv A outer s H E hr => (fss_one (fs_ret (fe_q (fq_and (fq_isi tab_ty (.ty "int") (by rfl) T.n_isinstance (fq_v 0) (pe_bltn (v := .ty "int") (by rfl) T.n_int (by decide +kernel) rfl)) (fq_one (fq_not (fq_isi tab_ty (.ty "bool") (by rfl) T.n_isinstance (fq_v 0) (pe_bltn (v := .ty "bool") (by rfl) T.n_bool (by decide +kernel) rfl))))))))
theorem ok_d_law_cell {fa : Addr} {fd : FuncData} (Fn : Fun K "_law_cell" "_law_cell" s_d_law_cell fa fd) (T : Txt mg) : FnOk P w K mg base (L2.CX P w) 1 fa fd ["_law_script", "_law_k"] (spF K cl 2 d_law_cell) :=
  fn_F Fn sc_d_law_cell rfl rfl fun cdv A outer s H E hr => (fss_cons (fs_if (ft_q (fqt_cmp q_lt op_lt (fq_v 1) (fq_callB1 q_len call_len (by rfl) T.n_len (by decide +kernel) (fq_v 0)) (nomark _))) (fss_one (fs_ret (fe_q (fq_ix (fq_v 0) (fq_v 1) (fun _ _ => rfl))))) fss_nil) (fss_cons (fs_set (i := 2) sc_d_law_cell.nd rfl (by first | exact .inl rfl | exact .inr rfl) (fe_q fq_int)) (fss_cons (fs_fgt [3] (fs_for pw_of rfl (fi_seq (fe_v 0)) (fg_name (i := 3) sc_d_law_cell.nd rfl (by first | exact .inl rfl | exact .inr rfl)) (fss_fgt [3] (fss_one (fs_set (i := 2) sc_d_law_cell.nd rfl (by first | exact .inl rfl | exact .inr rfl) (fe_q (fq_op q_mod op_mod (fq_callTy1 q_int call_int1 (by rfl) T.n_int (by decide +kernel) (fq_op q_addI op_add (fq_op q_mul op_mul (fq_v 2) fq_int) (fq_op q_mod op_mod (fq_callTy1 q_int call_int1 (by rfl) T.n_int (by decide +kernel) (fq_v 3)) fq_int))) fq_int))))))) (fss_one (fs_ret (fe_q (fq_op q_mod op_mod (fq_callTy1 q_int call_int1 (by rfl) T.n_int (by decide +kernel) (fq_op q_mul op_mul (fq_op q_mul op_mul (fq_op q_addI op_add (fq_v 2) fq_int) (fq_op q_addI op_add (fq_v 1) fq_int)) fq_int)) fq_int)))))))
theorem ok_d_law_truth {fa : Addr} {fd : FuncData} (Fn : Fun K "_law_truth" "_law_truth" s_d_law_truth fa fd) (T : Txt mg) : FnOk P w K mg base (L2.CX P w) 1 fa fd ["_law_value", "_law_due"] (spF K cl 2 d_law_truth) :=
  fn_F Fn sc_d_law_truth rfl rfl fun cdv A outer s H E hr => (fss_cons (fs_if (ft_q (fqt_val (fq_v 1))) (fss_one (fs_ret (fe_q (fq_cmp q_isB op_isBl (fq_v 0) fq_bl (nomark _))))) fss_nil) (fss_one (fs_ret (fe_q (fq_cmp q_isB op_isBl (fq_v 0) fq_bl (nomark _))))))
theorem ok_d_law_row {fa : Addr} {fd : FuncData} (Fn : Fun K "_law_row" "_law_row" s_d_law_row fa fd) (T : Txt mg) (h_d_law_whole : Fnc P w K mg base cl "_law_whole" 1 1 d_law_whole []) : FnOk P w K mg base (L2.CX P w) 2 fa fd ["_law_value", "_law_due"] (spF K cl 2 d_law_row) :=
  fn_F Fn sc_d_law_row rfl rfl fun cdv A outer s H E hr => (fss_cons (fs_if (ft_q (PW.pt (fqw_or (fqt_not (fqt_val (fq_isi tab_ty (.ty "tuple") (by rfl) T.n_isinstance (fq_v 0) (pe_bltn (v := .ty "tuple") (by rfl) T.n_tuple (by decide +kernel) rfl)))) (fqw_or1 (fqt_cmp q_neS op_ne (fq_callB1 q_len call_len (by rfl) T.n_len (by decide +kernel) (fq_v 0)) (fq_callB1 q_len call_len (by rfl) T.n_len (by decide +kernel) (fq_v 1)) (nomark _)))))) (fss_one (fs_ret (fe_q fq_bl))) fss_nil) (fss_cons (fs_fgt [2] (fs_for pw_of rfl (fi_range1 (by rfl) T.n_range (fa_cons (fe_q (fq_callB1 q_len call_len (by rfl) T.n_len (by decide +kernel) (fq_v 1))) fa_nil)) (fg_name (i := 2) sc_d_law_row.nd rfl (by first | exact .inl rfl | exact .inr rfl)) (fss_fgt [2] (fss_one (fs_if (PW.pt (fw_or (ft_not (ft_val (fe_call h_d_law_whole (hr.mono (by decide)) (by rfl) tk_of (fa_cons (fe_q (fq_ix (fq_v 0) (fq_v 2) (fun _ _ => rfl))) fa_nil)))) (fw_or1 (ft_q (fqt_cmp q_neS op_ne (fq_ix (fq_v 0) (fq_v 2) (fun _ _ => rfl)) (fq_ix (fq_v 1) (fq_v 2) (fun _ _ => rfl)) (nomark _)))))) (fss_one (fs_ret (fe_q fq_bl))) fss_nil))))) (fss_one (fs_ret (fe_q fq_bl)))))
theorem ok_d_law_walk {fa : Addr} {fd : FuncData} (Fn : Fun K "_law_walk" "_law_walk" s_d_law_walk fa fd) (T : Txt mg) : FnOk P w K mg base (L2.CX P w) 1 fa fd ["_law_rim_here", "_law_start", "_law_stop"] (spF K cl 3 d_law_walk) :=
  fn_F Fn sc_d_law_walk rfl rfl fun cdv A outer s H E hr => (fss_cons (fs_set (i := 3) sc_d_law_walk.nd rfl (by first | exact .inl rfl | exact .inr rfl) (fe_lst fa_nil)) (fss_cons (fs_set (i := 4) sc_d_law_walk.nd rfl (by first | exact .inl rfl | exact .inr rfl) (fe_v 1)) (fss_cons (fs_fgt [4, 5] (fs_for pw_of rfl (fi_range1 (by rfl) T.n_range (fa_cons (fe_v 0) fa_nil)) (fg_name (i := 5) sc_d_law_walk.nd rfl (by first | exact .inl rfl | exact .inr rfl)) (fss_fgt [5] (fss_cons (fs_if (ft_q (fqt_cmp q_eqS op_eq (fq_v 4) (fq_v 2) (nomark _))) (fss_one fs_break) fss_nil) (fss_cons (fs_set (i := 4) sc_d_law_walk.nd rfl (by first | exact .inl rfl | exact .inr rfl) (fe_q (fq_op q_mod op_mod (fq_callTy1 q_int call_int1 (by rfl) T.n_int (by decide +kernel) (fq_op q_addI op_add (fq_v 4) fq_int)) (fq_v 0)))) (fss_one (fs_expr (fe_app (pv 3) (fe_v 4))))))))) (fss_one (fs_ret (fe_m 3))))))
theorem ok_d_law_apart {fa : Addr} {fd : FuncData} (Fn : Fun K "_law_apart" "_law_apart" s_d_law_apart fa fd) (T : Txt mg) : FnOk P w K mg base (L2.CX P w) 1 fa fd ["_law_w", "_law_x", "_law_y", "_law_z"] (spF K cl 4 d_law_apart) :=
  fn_F Fn sc_d_law_apart rfl rfl fun cdv A outer s H E hr => (fss_cons (fs_if (PW.pt (fw_or (ft_cmpR d_in op_in_seq (fe_v 0) (fe_lst (fa_cons (fe_v 1) (fa_cons (fe_v 2) (fa_cons (fe_v 3) fa_nil)))) (by rfl)) (fw_or (ft_cmpR d_in op_in_seq (fe_v 1) (fe_lst (fa_cons (fe_v 2) (fa_cons (fe_v 3) fa_nil))) (by rfl)) (fw_or1 (ft_q (fqt_cmp q_eqS op_eq (fq_v 2) (fq_v 3) (nomark _))))))) (fss_one (fs_ret (fe_q fq_bl))) fss_nil) (fss_one (fs_ret (fe_q (fq_cmp q_neS op_ne (fq_chain q_lt q_lt op_lt op_lt (fq_callB2 q_min (call_min2 rfl) (by rfl) T.n_min (by decide +kernel) (fq_v 0) (fq_v 1)) (fq_v 2) (fq_callB2 q_max (call_max2 rfl) (by rfl) T.n_max (by decide +kernel) (fq_v 0) (fq_v 1)) (by rfl)) (fq_chain q_lt q_lt op_lt op_lt (fq_callB2 q_min (call_min2 rfl) (by rfl) T.n_min (by decide +kernel) (fq_v 0) (fq_v 1)) (fq_v 3) (fq_callB2 q_max (call_max2 rfl) (by rfl) T.n_max (by decide +kernel) (fq_v 0) (fq_v 1)) (by rfl)) (nomark _))))))
theorem ok_d_law_rim {fa : Addr} {fd : FuncData} (Fn : Fun K "_law_rim" "_law_rim" s_d_law_rim fa fd) (T : Txt mg) (h_d_law_walk : Fnc P w K mg base cl "_law_walk" 1 3 d_law_walk []) (h_d_law_row : Fnc P w K mg base cl "_law_row" 2 2 d_law_row []) (h_d_arc : Fnc P w K mg base cl "arc" 1 3 d_arc []) (h_d_law_truth : Fnc P w K mg base cl "_law_truth" 1 2 d_law_truth []) (h_d_parts : Fnc P w K mg base cl "parts" 2 5 d_parts []) : FnOk P w K mg base (L2.CX P w) 3 fa fd ["_law_rim_here", "_law_start", "_law_near"] (spF K cl 3 d_law_rim) :=
  fn_F Fn sc_d_law_rim rfl rfl fun cdv A outer s H E hr => (fss_cons (fs_fgt [6, 5, 7, 4, 3] (fs_for pw_of rfl (fi_range1 (by rfl) T.n_range (fa_cons (fe_q (fq_callB2 q_max (call_max2 rfl) (by rfl) T.n_max (by decide +kernel) (fq_v 0) fq_int)) fa_nil)) (fg_name (i := 3) sc_d_law_rim.nd rfl (by first | exact .inl rfl | exact .inr rfl)) (fss_fgt [6, 5, 7, 4, 3] (fss_cons (fs_set (i := 4) sc_d_law_rim.nd rfl (by first | exact .inl rfl | exact .inr rfl) (fe_call h_d_law_walk (hr.mono (by decide)) (by rfl) tk_of (fa_cons (fe_v 0) (fa_cons (fe_v 1) (fa_cons (fe_v 3) fa_nil))))) (fss_cons (fs_if (ft_not (ft_val (fe_call h_d_law_row (hr.mono (by decide)) (by rfl) tk_of (fa_cons (fe_call h_d_arc (hr.mono (by decide)) (by rfl) tk_of (fa_cons (fe_v 0) (fa_cons (fe_v 1) (fa_cons (fe_v 3) fa_nil)))) (fa_cons (fe_v 4) fa_nil))))) (fss_one (fs_ret (fe_q fq_bl))) fss_nil) (fss_cons (fs_set (i := 5) sc_d_law_rim.nd rfl (by first | exact .inl rfl | exact .inr rfl) (fe_call h_d_law_walk (hr.mono (by decide)) (by rfl) tk_of (fa_cons (fe_v 0) (fa_cons (fe_v 3) (fa_cons (fe_v 1) fa_nil))))) (fss_cons (fs_if (ft_not (ft_val (fe_call h_d_law_row (hr.mono (by decide)) (by rfl) tk_of (fa_cons (fe_call h_d_arc (hr.mono (by decide)) (by rfl) tk_of (fa_cons (fe_v 0) (fa_cons (fe_v 3) (fa_cons (fe_v 1) fa_nil)))) (fa_cons (fe_v 5) fa_nil))))) (fss_one (fs_ret (fe_q fq_bl))) fss_nil) (fss_one (fs_fgt [6, 7] (fs_for pw_of rfl (fi_range1 (by rfl) T.n_range (fa_cons (fe_v 0) fa_nil)) (fg_name (i := 6) sc_d_law_rim.nd rfl (by first | exact .inl rfl | exact .inr rfl)) (fss_fgt [6, 7] (fss_cons (fs_set (i := 7) sc_d_law_rim.nd rfl (by first | exact .inl rfl | exact .inr rfl) (fe_q (fq_cmp q_neS op_ne (fq_cmp q_in op_in_seq (fq_v 2) (fq_v 4) (by rfl)) (fq_cmp q_in op_in_seq (fq_v 6) (fq_v 4) (by rfl)) (nomark _)))) (fss_cons (fs_if (ft_not (ft_val (fe_call h_d_law_truth (hr.mono (by decide)) (by rfl) tk_of (fa_cons (fe_call h_d_parts (hr.mono (by decide)) (by rfl) tk_of (fa_cons (fe_v 0) (fa_cons (fe_v 2) (fa_cons (fe_v 6) (fa_cons (fe_v 1) (fa_cons (fe_v 3) fa_nil)))))) (fa_cons (fe_v 7) fa_nil))))) (fss_one (fs_ret (fe_q fq_bl))) fss_nil) (fss_one (fs_if (ft_not (ft_val (fe_call h_d_law_truth (hr.mono (by decide)) (by rfl) tk_of (fa_cons (fe_call h_d_parts (hr.mono (by decide)) (by rfl) tk_of (fa_cons (fe_v 0) (fa_cons (fe_v 6) (fa_cons (fe_v 2) (fa_cons (fe_v 3) (fa_cons (fe_v 1) fa_nil)))))) (fa_cons (fe_v 7) fa_nil))))) (fss_one (fs_ret (fe_q fq_bl))) fss_nil))))))))))))))) (fss_one (fs_ret (fe_q fq_bl))))
theorem ok_d_law_four {fa : Addr} {fd : FuncData} (Fn : Fun K "_law_four" "_law_four" s_d_law_four fa fd) (T : Txt mg) (h_d_law_apart : Fnc P w K mg base cl "_law_apart" 1 4 d_law_apart []) (h_d_law_truth : Fnc P w K mg base cl "_law_truth" 1 2 d_law_truth []) (h_d_crosses : Fnc P w K mg base cl "crosses" 1 4 d_crosses []) : FnOk P w K mg base (L2.CX P w) 2 fa fd ["_law_w", "_law_x", "_law_y", "_law_z"] (spF K cl 4 d_law_four) :=
  fn_F Fn sc_d_law_four rfl rfl fun cdv A outer s H E hr => (fss_cons (fs_set (i := 4) sc_d_law_four.nd rfl (by first | exact .inl rfl | exact .inr rfl) (fe_call h_d_law_apart (hr.mono (by decide)) (by rfl) tk_of (fa_cons (fe_v 0) (fa_cons (fe_v 1) (fa_cons (fe_v 2) (fa_cons (fe_v 3) fa_nil)))))) (fss_cons (fs_if (PW.pt (fw_or (ft_not (ft_val (fe_call h_d_law_truth (hr.mono (by decide)) (by rfl) tk_of (fa_cons (fe_call h_d_crosses (hr.mono (by decide)) (by rfl) tk_of (fa_cons (fe_v 0) (fa_cons (fe_v 1) (fa_cons (fe_v 2) (fa_cons (fe_v 3) fa_nil))))) (fa_cons (fe_v 4) fa_nil))))) (fw_or1 (ft_not (ft_val (fe_call h_d_law_truth (hr.mono (by decide)) (by rfl) tk_of (fa_cons (fe_call h_d_crosses (hr.mono (by decide)) (by rfl) tk_of (fa_cons (fe_v 2) (fa_cons (fe_v 3) (fa_cons (fe_v 0) (fa_cons (fe_v 1) fa_nil))))) (fa_cons (fe_v 4) fa_nil)))))))) (fss_one (fs_ret (fe_q fq_bl))) fss_nil) (fss_one (fs_ret (fe_and (fe_call h_d_law_truth (hr.mono (by decide)) (by rfl) tk_of (fa_cons (fe_call h_d_crosses (hr.mono (by decide)) (by rfl) tk_of (fa_cons (fe_v 1) (fa_cons (fe_v 0) (fa_cons (fe_v 2) (fa_cons (fe_v 3) fa_nil))))) (fa_cons (fe_v 4) fa_nil))) (fe_one (fe_call h_d_law_truth (hr.mono (by decide)) (by rfl) tk_of (fa_cons (fe_call h_d_crosses (hr.mono (by decide)) (by rfl) tk_of (fa_cons (fe_v 0) (fa_cons (fe_v 1) (fa_cons (fe_v 3) (fa_cons (fe_v 2) fa_nil))))) (fa_cons (fe_v 4) fa_nil)))))))))
theorem ok_d_law {fa : Addr} {fd : FuncData} (Fn : Fun K "law" "law" s_d_law fa fd) (T : Txt mg) (h_d_law_cell : Fnc P w K mg base cl "_law_cell" 1 2 d_law_cell []) (h_d_gaps : Fnc P w K mg base cl "gaps" 1 1 d_gaps []) (h_d_law_whole : Fnc P w K mg base cl "_law_whole" 1 1 d_law_whole []) (h_d_law_rim : Fnc P w K mg base cl "_law_rim" 3 3 d_law_rim []) (h_d_law_four : Fnc P w K mg base cl "_law_four" 2 4 d_law_four []) (h_d_law_walk : Fnc P w K mg base cl "_law_walk" 1 3 d_law_walk []) (h_d_law_truth : Fnc P w K mg base cl "_law_truth" 1 2 d_law_truth []) (h_d_parts : Fnc P w K mg base cl "parts" 2 5 d_parts []) (h_d_law_apart : Fnc P w K mg base cl "_law_apart" 1 4 d_law_apart []) (h_d_crosses : Fnc P w K mg base cl "crosses" 1 4 d_crosses []) (h_d_law_row : Fnc P w K mg base cl "_law_row" 2 2 d_law_row []) (h_d_arc : Fnc P w K mg base cl "arc" 1 3 d_arc []) (k_d_arc_kpins_first_last_0 : FncK P w K mg base cl "arc" 1 3 d_arc 0 ["pins", "first", "last"] [0, 1, 2] []) (k_d_crosses_ka_b_c_d_0 : FncK P w K mg base cl "crosses" 1 4 d_crosses 0 ["a", "b", "c", "d"] [0, 1, 2, 3] []) (k_d_gaps_kpins_0 : FncK P w K mg base cl "gaps" 1 1 d_gaps 0 ["pins"] [0] []) (k_d_parts_kpins_one_other_first_last_0 : FncK P w K mg base cl "parts" 2 5 d_parts 0 ["pins", "one", "other", "first", "last"] [0, 1, 2, 3, 4] []) : FnOk P w K mg base (L2.CX P w) 4 fa fd ["_law_script"] (spF K cl 1 d_law) :=
  fn_F Fn sc_d_law rfl rfl fun cdv A outer s H E hr => (fss_cons (fs_set (i := 1) sc_d_law.nd rfl (by first | exact .inl rfl | exact .inr rfl) (fe_op d_mod op_mod (fe_callTy d_int call_int1 (by rfl) T.n_int (by decide +kernel) (fa_cons (fe_call h_d_law_cell (hr.mono (by decide)) (by rfl) tk_of (fa_cons (fe_v 0) (fa_cons (fe_q fq_int) fa_nil))) fa_nil)) (fe_q fq_int))) (fss_cons (fs_if (ft_cmpR d_eqS op_eq (fe_op d_mod op_mod (fe_callTy d_int call_int1 (by rfl) T.n_int (by decide +kernel) (fa_cons (fe_call h_d_law_cell (hr.mono (by decide)) (by rfl) tk_of (fa_cons (fe_v 0) (fa_cons (fe_q fq_int) fa_nil))) fa_nil)) (fe_q fq_int)) (fe_q fq_int) (nomark _)) (fss_one (fs_set (i := 1) sc_d_law.nd rfl (by first | exact .inl rfl | exact .inr rfl) (fe_op d_mod op_mod (fe_callTy d_int call_int1 (by rfl) T.n_int (by decide +kernel) (fa_cons (fe_call h_d_law_cell (hr.mono (by decide)) (by rfl) tk_of (fa_cons (fe_v 0) (fa_cons (fe_q fq_int) fa_nil))) fa_nil)) (fe_q fq_int)))) fss_nil) (fss_cons (fs_set (i := 2) sc_d_law.nd rfl (by first | exact .inl rfl | exact .inr rfl) (fe_op d_mod op_mod (fe_callTy d_int call_int1 (by rfl) T.n_int (by decide +kernel) (fa_cons (fe_call h_d_law_cell (hr.mono (by decide)) (by rfl) tk_of (fa_cons (fe_v 0) (fa_cons (fe_q fq_int) fa_nil))) fa_nil)) (fe_q (fq_callB2 q_max (call_max2 rfl) (by rfl) T.n_max (by decide +kernel) (fq_v 1) fq_int)))) (fss_cons (fs_set (i := 3) sc_d_law.nd rfl (by first | exact .inl rfl | exact .inr rfl) (fe_op d_mod op_mod (fe_callTy d_int call_int1 (by rfl) T.n_int (by decide +kernel) (fa_cons (fe_call h_d_law_cell (hr.mono (by decide)) (by rfl) tk_of (fa_cons (fe_v 0) (fa_cons (fe_q fq_int) fa_nil))) fa_nil)) (fe_q (fq_callB2 q_max (call_max2 rfl) (by rfl) T.n_max (by decide +kernel) (fq_v 1) fq_int)))) (fss_cons (fs_set (i := 4) sc_d_law.nd rfl (by first | exact .inl rfl | exact .inr rfl) (fe_op d_mod op_mod (fe_callTy d_int call_int1 (by rfl) T.n_int (by decide +kernel) (fa_cons (fe_call h_d_law_cell (hr.mono (by decide)) (by rfl) tk_of (fa_cons (fe_v 0) (fa_cons (fe_q fq_int) fa_nil))) fa_nil)) (fe_q (fq_callB2 q_max (call_max2 rfl) (by rfl) T.n_max (by decide +kernel) (fq_v 1) fq_int)))) (fss_cons (fs_fgt [5, 6] (fs_for pw_of rfl (fi_range1 (by rfl) T.n_range (fa_cons (fe_q fq_int) fa_nil)) (fg_name (i := 5) sc_d_law.nd rfl (by first | exact .inl rfl | exact .inr rfl)) (fss_fgt [5, 6] (fss_cons (fs_set (i := 6) sc_d_law.nd rfl (by first | exact .inl rfl | exact .inr rfl) (fe_call h_d_gaps (hr.mono (by decide)) (by rfl) tk_of (fa_cons (fe_v 5) fa_nil))) (fss_one (fs_if (PW.pt (fw_or (ft_not (ft_val (fe_call h_d_law_whole (hr.mono (by decide)) (by rfl) tk_of (fa_cons (fe_v 6) fa_nil)))) (fw_or1 (ft_q (fqt_cmp q_neS op_ne (fq_v 6) (fq_callB2 q_max (call_max2 rfl) (by rfl) T.n_max (by decide +kernel) (fq_v 5) fq_int) (nomark _)))))) (fss_one (fs_ret (fe_q fq_bl))) fss_nil)))))) (fss_cons (fs_if (ft_not (ft_val (fe_call h_d_law_rim (hr.mono (by decide)) (by rfl) tk_of (fa_cons (fe_v 1) (fa_cons (fe_v 2) (fa_cons (fe_v 3) fa_nil)))))) (fss_one (fs_ret (fe_q fq_bl))) fss_nil) (fss_cons (fs_set (i := 7) sc_d_law.nd rfl (by first | exact .inl rfl | exact .inr rfl) (fe_op d_mod op_mod (fe_callTy d_int call_int1 (by rfl) T.n_int (by decide +kernel) (fa_cons (fe_call h_d_law_cell (hr.mono (by decide)) (by rfl) tk_of (fa_cons (fe_v 0) (fa_cons (fe_q fq_int) fa_nil))) fa_nil)) (fe_q fq_int))) (fss_cons (fs_set (i := 8) sc_d_law.nd rfl (by first | exact .inl rfl | exact .inr rfl) (fe_op d_mod op_mod (fe_callTy d_int call_int1 (by rfl) T.n_int (by decide +kernel) (fa_cons (fe_call h_d_law_cell (hr.mono (by decide)) (by rfl) tk_of (fa_cons (fe_v 0) (fa_cons (fe_q fq_int) fa_nil))) fa_nil)) (fe_q fq_int))) (fss_cons (fs_set (i := 9) sc_d_law.nd rfl (by first | exact .inl rfl | exact .inr rfl) (fe_op d_mod op_mod (fe_callTy d_int call_int1 (by rfl) T.n_int (by decide +kernel) (fa_cons (fe_call h_d_law_cell (hr.mono (by decide)) (by rfl) tk_of (fa_cons (fe_v 0) (fa_cons (fe_q fq_int) fa_nil))) fa_nil)) (fe_q fq_int))) (fss_cons (fs_fgt [10] (fs_for pw_of rfl (fi_range1 (by rfl) T.n_range (fa_cons (fe_q fq_int) fa_nil)) (fg_name (i := 10) sc_d_law.nd rfl (by first | exact .inl rfl | exact .inr rfl)) (fss_fgt [10] (fss_one (fs_if (PW.pt (fw_or (ft_not (ft_val (fe_call h_d_law_four (hr.mono (by decide)) (by rfl) tk_of (fa_cons (fe_v 7) (fa_cons (fe_v 8) (fa_cons (fe_v 9) (fa_cons (fe_v 10) fa_nil))))))) (fw_or (ft_not (ft_val (fe_call h_d_law_four (hr.mono (by decide)) (by rfl) tk_of (fa_cons (fe_v 7) (fa_cons (fe_v 8) (fa_cons (fe_v 7) (fa_cons (fe_v 10) fa_nil))))))) (fw_or1 (ft_not (ft_val (fe_call h_d_law_four (hr.mono (by decide)) (by rfl) tk_of (fa_cons (fe_v 7) (fa_cons (fe_v 7) (fa_cons (fe_v 9) (fa_cons (fe_v 10) fa_nil))))))))))) (fss_one (fs_ret (fe_q fq_bl))) fss_nil))))) (fss_cons (fs_set (i := 6) sc_d_law.nd rfl (by first | exact .inl rfl | exact .inr rfl) (fe_callK0 k_d_gaps_kpins_0 (hr.mono (by decide)) (by rfl) tk_of (fk_cons (fe_v 1) fk_nil))) (fss_cons (fs_if (PW.pt (fw_or (ft_not (ft_val (fe_call h_d_law_whole (hr.mono (by decide)) (by rfl) tk_of (fa_cons (fe_v 6) fa_nil)))) (fw_or1 (ft_q (fqt_cmp q_neS op_ne (fq_v 6) (fq_callB2 q_max (call_max2 rfl) (by rfl) T.n_max (by decide +kernel) (fq_v 1) fq_int) (nomark _)))))) (fss_one (fs_ret (fe_q fq_bl))) fss_nil) (fss_cons (fs_set (i := 11) sc_d_law.nd rfl (by first | exact .inl rfl | exact .inr rfl) (fe_call h_d_law_walk (hr.mono (by decide)) (by rfl) tk_of (fa_cons (fe_v 1) (fa_cons (fe_v 2) (fa_cons (fe_v 4) fa_nil))))) (fss_cons (fs_fgt [12] (fs_if (ft_q (fqt_cmp q_gt op_gt (fq_v 1) fq_int (nomark _))) (fss_cons (fs_set (i := 12) sc_d_law.nd rfl (by first | exact .inl rfl | exact .inr rfl) (fe_q (fq_cmp q_neS op_ne (fq_cmp q_in op_in_seq (fq_v 3) (fq_v 11) (by rfl)) (fq_cmp q_in op_in_seq (fq_op q_mod op_mod (fq_callTy1 q_int call_int1 (by rfl) T.n_int (by decide +kernel) (fq_v 8)) (fq_v 1)) (fq_v 11) (by rfl)) (nomark _)))) (fss_one (fs_if (ft_not (ft_val (fe_call h_d_law_truth (hr.mono (by decide)) (by rfl) tk_of (fa_cons (fe_callK0 k_d_parts_kpins_one_other_first_last_0 (hr.mono (by decide)) (by rfl) tk_of (fk_cons (fe_v 1) (fk_cons (fe_v 3) (fk_cons (fe_q (fq_op q_mod op_mod (fq_callTy1 q_int call_int1 (by rfl) T.n_int (by decide +kernel) (fq_v 8)) (fq_v 1))) (fk_cons (fe_v 2) (fk_cons (fe_v 4) fk_nil)))))) (fa_cons (fe_v 12) fa_nil))))) (fss_one (fs_ret (fe_q fq_bl))) fss_nil))) fss_nil)) (fss_cons (fs_if (ft_not (ft_val (fe_call h_d_law_truth (hr.mono (by decide)) (by rfl) tk_of (fa_cons (fe_callK0 k_d_crosses_ka_b_c_d_0 (hr.mono (by decide)) (by rfl) tk_of (fk_cons (fe_v 7) (fk_cons (fe_v 8) (fk_cons (fe_v 9) (fk_cons (fe_v 3) fk_nil))))) (fa_cons (fe_call h_d_law_apart (hr.mono (by decide)) (by rfl) tk_of (fa_cons (fe_v 7) (fa_cons (fe_v 8) (fa_cons (fe_v 9) (fa_cons (fe_v 3) fa_nil))))) fa_nil))))) (fss_one (fs_ret (fe_q fq_bl))) fss_nil) (fss_one (fs_ret (fe_and (fe_call h_d_law_row (hr.mono (by decide)) (by rfl) tk_of (fa_cons (fe_callK0 k_d_arc_kpins_first_last_0 (hr.mono (by decide)) (by rfl) tk_of (fk_cons (fe_v 1) (fk_cons (fe_v 2) (fk_cons (fe_v 4) fk_nil)))) (fa_cons (fe_v 11) fa_nil))) (fe_one (fe_call h_d_law_row (hr.mono (by decide)) (by rfl) tk_of (fa_cons (fe_call h_d_arc (hr.mono (by decide)) (by rfl) tk_of (fa_cons (fe_v 1) (fa_cons (fe_v 2) (fa_cons (fe_v 4) fa_nil)))) (fa_cons (fe_v 11) fa_nil)))))))))))))))))))))))
end
end Prg

set_option Elab.async false
set_option linter.all false
set_option maxRecDepth 100000
set_option maxHeartbeats 1000000
namespace Math
open PySem FL Prg
open L2 (atI atI_nat)
theorem gaps_eq (p : Int) : d_gaps [.int p] = .rt (.int (max p 1)) := by
  simp -implicitDefEqProofs only [d_gaps, b_d_gaps, runF, sNx, sSeq, sIf, sRet, sSet, sEx, sBk, sCt, sFgt, fgt, eC, eV, eM, eBin, eUn, aNil, aCons, eTup, eLst, eFn, tB1, tAnd, tOr, tNot, eAnd, eOr, eNot, eIf, eCall, eCallK, pick, eQ, tQ1, qV, qC, qBin, qUn, qB, qAnd, qOr, qNot, qIf, qAndT, qOrT, qNotT, qChain, eChain, eLc, sFor, iSq, iRg1, iRg2, gN, itms, rst, eApp, D.frz, D.frzs, D.pure, D.pures, bind_ok, bind_ex, stmt_ok, stmt_ex, seq_nx, seq_rt, seq_ex, seq_bk, seq_ct, fgt_nx, fgt_bk, fgt_ct, fgt_rt, fgt_ex, out_nx, out_rt, out_ex, opt_some, optL_some, andB_tt, andB_ff, andB_some, orB_tt, orB_ff, orB_some, andX_tt, andX_ff, andX_some, orX_tt, orX_ff, orX_some, itAnd, itOr, itAndX, itOrX, Option.bind_some, List.map_cons, List.map_nil, List.length_cons, List.length_nil, List.cons_append, List.nil_append, List.getElem?_cons_zero, List.getElem?_cons_succ, List.getElem?_nil, List.set_cons_zero, List.set_cons_succ, List.replicate, addI_i, subD_i, ltD_i, leD_i, gtD_i, geD_i, eqS_int, neS_int, eqS_bl, neS_bl, max2_i, min2_i, maxL_i, minL_i, int1_i, intL_i, if_true, if_false, ite_true, ite_false, and_true, true_and, and_self, Bool.and_self, Bool.and_true, Bool.true_and, Bool.and_false, Bool.false_and, Bool.or_true, Bool.true_or, Bool.or_false, Bool.false_or, Bool.not_true, Bool.not_false, Nat.reduceAdd, Nat.reduceSub, Nat.reduceEqDiff, List.filterMap_cons, List.filterMap_nil, decide_true, decide_false, Bool.false_eq_true, reduceIte, Int.reduceAdd, Int.reduceSub, Int.reduceMul, Int.reduceNeg, Int.reduceLT, Int.reduceLE, Int.reduceEq, Int.reduceMod, Int.reduceDiv, Int.lt_irrefl, reduceCtorEq, D.frzs_int, D.pures_int, cap_0, cap_1, cap_2, cap_3, cap_4, cap_5, cap_6, cap_7, cap_8, cap_9, cap_10, cap_11, cap_12, cap_13, cap_14, cap_15, cap_16, cap_17, cap_18, cap_19, cap_20, cap_21, cap_22, cap_23, cap_24, cap_25, cap_26, cap_27, cap_28, cap_29, cap_30, cap_31, cap_32, cap_33, cap_34, cap_35, cap_36, cap_37, cap_38, cap_39, cap_40]
def arcM (p f l : Int) : List Int := (List.range ((l - f) % p).toNat).map fun (k : Nat) => (f + 1 + (k : Int)) % p
theorem arc0 (f l : Int) : d_arc [.int 0, .int f, .int l] = .rt (.tup []) := by
  simp -implicitDefEqProofs only [d_arc, b_d_arc, runF, sNx, sSeq, sIf, sRet, sSet, sEx, sBk, sCt, sFgt, fgt, eC, eV, eM, eBin, eUn, aNil, aCons, eTup, eLst, eFn, tB1, tAnd, tOr, tNot, eAnd, eOr, eNot, eIf, eCall, eCallK, pick, eQ, tQ1, qV, qC, qBin, qUn, qB, qAnd, qOr, qNot, qIf, qAndT, qOrT, qNotT, qChain, eChain, eLc, sFor, iSq, iRg1, iRg2, gN, itms, rst, eApp, D.frz, D.frzs, D.pure, D.pures, bind_ok, bind_ex, stmt_ok, stmt_ex, seq_nx, seq_rt, seq_ex, seq_bk, seq_ct, fgt_nx, fgt_bk, fgt_ct, fgt_rt, fgt_ex, out_nx, out_rt, out_ex, opt_some, optL_some, andB_tt, andB_ff, andB_some, orB_tt, orB_ff, orB_some, andX_tt, andX_ff, andX_some, orX_tt, orX_ff, orX_some, itAnd, itOr, itAndX, itOrX, Option.bind_some, List.map_cons, List.map_nil, List.length_cons, List.length_nil, List.cons_append, List.nil_append, List.getElem?_cons_zero, List.getElem?_cons_succ, List.getElem?_nil, List.set_cons_zero, List.set_cons_succ, List.replicate, addI_i, subD_i, ltD_i, leD_i, gtD_i, geD_i, eqS_int, neS_int, eqS_bl, neS_bl, max2_i, min2_i, maxL_i, minL_i, int1_i, intL_i, if_true, if_false, ite_true, ite_false, and_true, true_and, and_self, Bool.and_self, Bool.and_true, Bool.true_and, Bool.and_false, Bool.false_and, Bool.or_true, Bool.true_or, Bool.or_false, Bool.false_or, Bool.not_true, Bool.not_false, Nat.reduceAdd, Nat.reduceSub, Nat.reduceEqDiff, List.filterMap_cons, List.filterMap_nil, decide_true, decide_false, Bool.false_eq_true, reduceIte, Int.reduceAdd, Int.reduceSub, Int.reduceMul, Int.reduceNeg, Int.reduceLT, Int.reduceLE, Int.reduceEq, Int.reduceMod, Int.reduceDiv, Int.lt_irrefl, reduceCtorEq, D.frzs_int, D.pures_int, cap_0, cap_1, cap_2, cap_3, cap_4, cap_5, cap_6, cap_7, cap_8, cap_9, cap_10, cap_11, cap_12, cap_13, cap_14, cap_15, cap_16, cap_17, cap_18, cap_19, cap_20, cap_21, cap_22, cap_23, cap_24, cap_25, cap_26, cap_27, cap_28, cap_29, cap_30, cap_31, cap_32, cap_33, cap_34, cap_35, cap_36, cap_37, cap_38, cap_39, cap_40]
theorem arc_eq (p f l : Int) (h : 0 < p) (h2 : p ≤ 40) : d_arc [.int p, .int f, .int l] = .rt (.tup ((arcM p f l).map .int)) := by
  have hp : ¬ p = 0 := by omega
  have h3 : 0 ≤ (l - f) % p := Int.emod_nonneg _ hp
  have h4 : (l - f) % p < p := Int.emod_lt_of_pos _ h
  have hb : bnd ((l - f) % p) = true := bnd_of ⟨by omega, by omega⟩
  simp -implicitDefEqProofs only [d_arc, b_d_arc, runF, sNx, sSeq, sIf, sRet, sSet, sEx, sBk, sCt, sFgt, fgt, eC, eV, eM, eBin, eUn, aNil, aCons, eTup, eLst, eFn, tB1, tAnd, tOr, tNot, eAnd, eOr, eNot, eIf, eCall, eCallK, pick, eQ, tQ1, qV, qC, qBin, qUn, qB, qAnd, qOr, qNot, qIf, qAndT, qOrT, qNotT, qChain, eChain, eLc, sFor, iSq, iRg1, iRg2, gN, itms, rst, eApp, D.frz, D.frzs, D.pure, D.pures, bind_ok, bind_ex, stmt_ok, stmt_ex, seq_nx, seq_rt, seq_ex, seq_bk, seq_ct, fgt_nx, fgt_bk, fgt_ct, fgt_rt, fgt_ex, out_nx, out_rt, out_ex, opt_some, optL_some, andB_tt, andB_ff, andB_some, orB_tt, orB_ff, orB_some, andX_tt, andX_ff, andX_some, orX_tt, orX_ff, orX_some, itAnd, itOr, itAndX, itOrX, Option.bind_some, List.map_cons, List.map_nil, List.length_cons, List.length_nil, List.cons_append, List.nil_append, List.getElem?_cons_zero, List.getElem?_cons_succ, List.getElem?_nil, List.set_cons_zero, List.set_cons_succ, List.replicate, addI_i, subD_i, ltD_i, leD_i, gtD_i, geD_i, eqS_int, neS_int, eqS_bl, neS_bl, max2_i, min2_i, maxL_i, minL_i, int1_i, intL_i, if_true, if_false, ite_true, ite_false, and_true, true_and, and_self, Bool.and_self, Bool.and_true, Bool.true_and, Bool.and_false, Bool.false_and, Bool.or_true, Bool.true_or, Bool.or_false, Bool.false_or, Bool.not_true, Bool.not_false, Nat.reduceAdd, Nat.reduceSub, Nat.reduceEqDiff, List.filterMap_cons, List.filterMap_nil, decide_true, decide_false, Bool.false_eq_true, reduceIte, Int.reduceAdd, Int.reduceSub, Int.reduceMul, Int.reduceNeg, Int.reduceLT, Int.reduceLE, Int.reduceEq, Int.reduceMod, Int.reduceDiv, Int.lt_irrefl, reduceCtorEq, D.frzs_int, D.pures_int, cap_0, cap_1, cap_2, cap_3, cap_4, cap_5, cap_6, cap_7, cap_8, cap_9, cap_10, cap_11, cap_12, cap_13, cap_14, cap_15, cap_16, cap_17, cap_18, cap_19, cap_20, cap_21, cap_22, cap_23, cap_24, cap_25, cap_26, cap_27, cap_28, cap_29, cap_30, cap_31, cap_32, cap_33, cap_34, cap_35, cap_36, cap_37, cap_38, cap_39, cap_40, hp, modD_i h, hb, rng_eq]
  rw [lcl_all (h := fun i => .int ((f + 1 + i) % p)) D.int _ (by simp only [List.length_map, List.length_range]; omega) fun x hx => ⟨_, _, rfl, by simp -implicitDefEqProofs only [runF, sNx, sSeq, sIf, sRet, sSet, sEx, sBk, sCt, sFgt, fgt, eC, eV, eM, eBin, eUn, aNil, aCons, eTup, eLst, eFn, tB1, tAnd, tOr, tNot, eAnd, eOr, eNot, eIf, eCall, eCallK, pick, eQ, tQ1, qV, qC, qBin, qUn, qB, qAnd, qOr, qNot, qIf, qAndT, qOrT, qNotT, qChain, eChain, eLc, sFor, iSq, iRg1, iRg2, gN, itms, rst, eApp, D.frz, D.frzs, D.pure, D.pures, bind_ok, bind_ex, stmt_ok, stmt_ex, seq_nx, seq_rt, seq_ex, seq_bk, seq_ct, fgt_nx, fgt_bk, fgt_ct, fgt_rt, fgt_ex, out_nx, out_rt, out_ex, opt_some, optL_some, andB_tt, andB_ff, andB_some, orB_tt, orB_ff, orB_some, andX_tt, andX_ff, andX_some, orX_tt, orX_ff, orX_some, itAnd, itOr, itAndX, itOrX, Option.bind_some, List.map_cons, List.map_nil, List.length_cons, List.length_nil, List.cons_append, List.nil_append, List.getElem?_cons_zero, List.getElem?_cons_succ, List.getElem?_nil, List.set_cons_zero, List.set_cons_succ, List.replicate, addI_i, subD_i, ltD_i, leD_i, gtD_i, geD_i, eqS_int, neS_int, eqS_bl, neS_bl, max2_i, min2_i, maxL_i, minL_i, int1_i, intL_i, if_true, if_false, ite_true, ite_false, and_true, true_and, and_self, Bool.and_self, Bool.and_true, Bool.true_and, Bool.and_false, Bool.false_and, Bool.or_true, Bool.true_or, Bool.or_false, Bool.false_or, Bool.not_true, Bool.not_false, Nat.reduceAdd, Nat.reduceSub, Nat.reduceEqDiff, List.filterMap_cons, List.filterMap_nil, decide_true, decide_false, Bool.false_eq_true, reduceIte, Int.reduceAdd, Int.reduceSub, Int.reduceMul, Int.reduceNeg, Int.reduceLT, Int.reduceLE, Int.reduceEq, Int.reduceMod, Int.reduceDiv, Int.lt_irrefl, reduceCtorEq, D.frzs_int, D.pures_int, cap_0, cap_1, cap_2, cap_3, cap_4, cap_5, cap_6, cap_7, cap_8, cap_9, cap_10, cap_11, cap_12, cap_13, cap_14, cap_15, cap_16, cap_17, cap_18, cap_19, cap_20, cap_21, cap_22, cap_23, cap_24, cap_25, cap_26, cap_27, cap_28, cap_29, cap_30, cap_31, cap_32, cap_33, cap_34, cap_35, cap_36, cap_37, cap_38, cap_39, cap_40, modD_i h]; rfl, by rfl⟩]
  simp -implicitDefEqProofs only [runF, sNx, sSeq, sIf, sRet, sSet, sEx, sBk, sCt, sFgt, fgt, eC, eV, eM, eBin, eUn, aNil, aCons, eTup, eLst, eFn, tB1, tAnd, tOr, tNot, eAnd, eOr, eNot, eIf, eCall, eCallK, pick, eQ, tQ1, qV, qC, qBin, qUn, qB, qAnd, qOr, qNot, qIf, qAndT, qOrT, qNotT, qChain, eChain, eLc, sFor, iSq, iRg1, iRg2, gN, itms, rst, eApp, D.frz, D.frzs, D.pure, D.pures, bind_ok, bind_ex, stmt_ok, stmt_ex, seq_nx, seq_rt, seq_ex, seq_bk, seq_ct, fgt_nx, fgt_bk, fgt_ct, fgt_rt, fgt_ex, out_nx, out_rt, out_ex, opt_some, optL_some, andB_tt, andB_ff, andB_some, orB_tt, orB_ff, orB_some, andX_tt, andX_ff, andX_some, orX_tt, orX_ff, orX_some, itAnd, itOr, itAndX, itOrX, Option.bind_some, List.map_cons, List.map_nil, List.length_cons, List.length_nil, List.cons_append, List.nil_append, List.getElem?_cons_zero, List.getElem?_cons_succ, List.getElem?_nil, List.set_cons_zero, List.set_cons_succ, List.replicate, addI_i, subD_i, ltD_i, leD_i, gtD_i, geD_i, eqS_int, neS_int, eqS_bl, neS_bl, max2_i, min2_i, maxL_i, minL_i, int1_i, intL_i, if_true, if_false, ite_true, ite_false, and_true, true_and, and_self, Bool.and_self, Bool.and_true, Bool.true_and, Bool.and_false, Bool.false_and, Bool.or_true, Bool.true_or, Bool.or_false, Bool.false_or, Bool.not_true, Bool.not_false, Nat.reduceAdd, Nat.reduceSub, Nat.reduceEqDiff, List.filterMap_cons, List.filterMap_nil, decide_true, decide_false, Bool.false_eq_true, reduceIte, Int.reduceAdd, Int.reduceSub, Int.reduceMul, Int.reduceNeg, Int.reduceLT, Int.reduceLE, Int.reduceEq, Int.reduceMod, Int.reduceDiv, Int.lt_irrefl, reduceCtorEq, D.frzs_int, D.pures_int, cap_0, cap_1, cap_2, cap_3, cap_4, cap_5, cap_6, cap_7, cap_8, cap_9, cap_10, cap_11, cap_12, cap_13, cap_14, cap_15, cap_16, cap_17, cap_18, cap_19, cap_20, cap_21, cap_22, cap_23, cap_24, cap_25, cap_26, cap_27, cap_28, cap_29, cap_30, cap_31, cap_32, cap_33, cap_34, cap_35, cap_36, cap_37, cap_38, cap_39, cap_40, tupL_sq (show sq (.vec _) = some _ from rfl), arcM, List.map_map]
  congr 3
  funext k
  simp
theorem parts_eq (p o t f l : Int) (h : 0 < p) (h2 : p ≤ 40) : d_parts [.int p, .int o, .int t, .int f, .int l] = .rt (.bl (!decide (decide (o ∈ arcM p f l) = decide (t ∈ arcM p f l)))) := by
  simp -implicitDefEqProofs only [d_parts, b_d_parts, runF, sNx, sSeq, sIf, sRet, sSet, sEx, sBk, sCt, sFgt, fgt, eC, eV, eM, eBin, eUn, aNil, aCons, eTup, eLst, eFn, tB1, tAnd, tOr, tNot, eAnd, eOr, eNot, eIf, eCall, eCallK, pick, eQ, tQ1, qV, qC, qBin, qUn, qB, qAnd, qOr, qNot, qIf, qAndT, qOrT, qNotT, qChain, eChain, eLc, sFor, iSq, iRg1, iRg2, gN, itms, rst, eApp, D.frz, D.frzs, D.pure, D.pures, bind_ok, bind_ex, stmt_ok, stmt_ex, seq_nx, seq_rt, seq_ex, seq_bk, seq_ct, fgt_nx, fgt_bk, fgt_ct, fgt_rt, fgt_ex, out_nx, out_rt, out_ex, opt_some, optL_some, andB_tt, andB_ff, andB_some, orB_tt, orB_ff, orB_some, andX_tt, andX_ff, andX_some, orX_tt, orX_ff, orX_some, itAnd, itOr, itAndX, itOrX, Option.bind_some, List.map_cons, List.map_nil, List.length_cons, List.length_nil, List.cons_append, List.nil_append, List.getElem?_cons_zero, List.getElem?_cons_succ, List.getElem?_nil, List.set_cons_zero, List.set_cons_succ, List.replicate, addI_i, subD_i, ltD_i, leD_i, gtD_i, geD_i, eqS_int, neS_int, eqS_bl, neS_bl, max2_i, min2_i, maxL_i, minL_i, int1_i, intL_i, if_true, if_false, ite_true, ite_false, and_true, true_and, and_self, Bool.and_self, Bool.and_true, Bool.true_and, Bool.and_false, Bool.false_and, Bool.or_true, Bool.true_or, Bool.or_false, Bool.false_or, Bool.not_true, Bool.not_false, Nat.reduceAdd, Nat.reduceSub, Nat.reduceEqDiff, List.filterMap_cons, List.filterMap_nil, decide_true, decide_false, Bool.false_eq_true, reduceIte, Int.reduceAdd, Int.reduceSub, Int.reduceMul, Int.reduceNeg, Int.reduceLT, Int.reduceLE, Int.reduceEq, Int.reduceMod, Int.reduceDiv, Int.lt_irrefl, reduceCtorEq, D.frzs_int, D.pures_int, cap_0, cap_1, cap_2, cap_3, cap_4, cap_5, cap_6, cap_7, cap_8, cap_9, cap_10, cap_11, cap_12, cap_13, cap_14, cap_15, cap_16, cap_17, cap_18, cap_19, cap_20, cap_21, cap_22, cap_23, cap_24, cap_25, cap_26, cap_27, cap_28, cap_29, cap_30, cap_31, cap_32, cap_33, cap_34, cap_35, cap_36, cap_37, cap_38, cap_39, cap_40, arc_eq p f l h h2, inD_ints (show sq (.tup _) = some _ from rfl)]
theorem whole_int (i : Int) : d_law_whole [.int i] = .rt (.bl true) := by
  simp -implicitDefEqProofs only [d_law_whole, b_d_law_whole, runF, sNx, sSeq, sIf, sRet, sSet, sEx, sBk, sCt, sFgt, fgt, eC, eV, eM, eBin, eUn, aNil, aCons, eTup, eLst, eFn, tB1, tAnd, tOr, tNot, eAnd, eOr, eNot, eIf, eCall, eCallK, pick, eQ, tQ1, qV, qC, qBin, qUn, qB, qAnd, qOr, qNot, qIf, qAndT, qOrT, qNotT, qChain, eChain, eLc, sFor, iSq, iRg1, iRg2, gN, itms, rst, eApp, D.frz, D.frzs, D.pure, D.pures, bind_ok, bind_ex, stmt_ok, stmt_ex, seq_nx, seq_rt, seq_ex, seq_bk, seq_ct, fgt_nx, fgt_bk, fgt_ct, fgt_rt, fgt_ex, out_nx, out_rt, out_ex, opt_some, optL_some, andB_tt, andB_ff, andB_some, orB_tt, orB_ff, orB_some, andX_tt, andX_ff, andX_some, orX_tt, orX_ff, orX_some, itAnd, itOr, itAndX, itOrX, Option.bind_some, List.map_cons, List.map_nil, List.length_cons, List.length_nil, List.cons_append, List.nil_append, List.getElem?_cons_zero, List.getElem?_cons_succ, List.getElem?_nil, List.set_cons_zero, List.set_cons_succ, List.replicate, addI_i, subD_i, ltD_i, leD_i, gtD_i, geD_i, eqS_int, neS_int, eqS_bl, neS_bl, max2_i, min2_i, maxL_i, minL_i, int1_i, intL_i, if_true, if_false, ite_true, ite_false, and_true, true_and, and_self, Bool.and_self, Bool.and_true, Bool.true_and, Bool.and_false, Bool.false_and, Bool.or_true, Bool.true_or, Bool.or_false, Bool.false_or, Bool.not_true, Bool.not_false, Nat.reduceAdd, Nat.reduceSub, Nat.reduceEqDiff, List.filterMap_cons, List.filterMap_nil, decide_true, decide_false, Bool.false_eq_true, reduceIte, Int.reduceAdd, Int.reduceSub, Int.reduceMul, Int.reduceNeg, Int.reduceLT, Int.reduceLE, Int.reduceEq, Int.reduceMod, Int.reduceDiv, Int.lt_irrefl, reduceCtorEq, D.frzs_int, D.pures_int, cap_0, cap_1, cap_2, cap_3, cap_4, cap_5, cap_6, cap_7, cap_8, cap_9, cap_10, cap_11, cap_12, cap_13, cap_14, cap_15, cap_16, cap_17, cap_18, cap_19, cap_20, cap_21, cap_22, cap_23, cap_24, cap_25, cap_26, cap_27, cap_28, cap_29, cap_30, cap_31, cap_32, cap_33, cap_34, cap_35, cap_36, cap_37, cap_38, cap_39, cap_40, isi_int_int, isi_bool_int]
theorem truth_eq (a b : Bool) : d_law_truth [.bl a, .bl b] = .rt (.bl (decide (a = b))) := by
  cases b <;> simp -implicitDefEqProofs only [d_law_truth, b_d_law_truth, runF, sNx, sSeq, sIf, sRet, sSet, sEx, sBk, sCt, sFgt, fgt, eC, eV, eM, eBin, eUn, aNil, aCons, eTup, eLst, eFn, tB1, tAnd, tOr, tNot, eAnd, eOr, eNot, eIf, eCall, eCallK, pick, eQ, tQ1, qV, qC, qBin, qUn, qB, qAnd, qOr, qNot, qIf, qAndT, qOrT, qNotT, qChain, eChain, eLc, sFor, iSq, iRg1, iRg2, gN, itms, rst, eApp, D.frz, D.frzs, D.pure, D.pures, bind_ok, bind_ex, stmt_ok, stmt_ex, seq_nx, seq_rt, seq_ex, seq_bk, seq_ct, fgt_nx, fgt_bk, fgt_ct, fgt_rt, fgt_ex, out_nx, out_rt, out_ex, opt_some, optL_some, andB_tt, andB_ff, andB_some, orB_tt, orB_ff, orB_some, andX_tt, andX_ff, andX_some, orX_tt, orX_ff, orX_some, itAnd, itOr, itAndX, itOrX, Option.bind_some, List.map_cons, List.map_nil, List.length_cons, List.length_nil, List.cons_append, List.nil_append, List.getElem?_cons_zero, List.getElem?_cons_succ, List.getElem?_nil, List.set_cons_zero, List.set_cons_succ, List.replicate, addI_i, subD_i, ltD_i, leD_i, gtD_i, geD_i, eqS_int, neS_int, eqS_bl, neS_bl, max2_i, min2_i, maxL_i, minL_i, int1_i, intL_i, if_true, if_false, ite_true, ite_false, and_true, true_and, and_self, Bool.and_self, Bool.and_true, Bool.true_and, Bool.and_false, Bool.false_and, Bool.or_true, Bool.true_or, Bool.or_false, Bool.false_or, Bool.not_true, Bool.not_false, Nat.reduceAdd, Nat.reduceSub, Nat.reduceEqDiff, List.filterMap_cons, List.filterMap_nil, decide_true, decide_false, Bool.false_eq_true, reduceIte, Int.reduceAdd, Int.reduceSub, Int.reduceMul, Int.reduceNeg, Int.reduceLT, Int.reduceLE, Int.reduceEq, Int.reduceMod, Int.reduceDiv, Int.lt_irrefl, reduceCtorEq, D.frzs_int, D.pures_int, cap_0, cap_1, cap_2, cap_3, cap_4, cap_5, cap_6, cap_7, cap_8, cap_9, cap_10, cap_11, cap_12, cap_13, cap_14, cap_15, cap_16, cap_17, cap_18, cap_19, cap_20, cap_21, cap_22, cap_23, cap_24, cap_25, cap_26, cap_27, cap_28, cap_29, cap_30, cap_31, cap_32, cap_33, cap_34, cap_35, cap_36, cap_37, cap_38, cap_39, cap_40, isB]
def crossM (a b c d : Int) : Bool := if a = b ∨ c = d ∨ a = c ∨ a = d ∨ b = c ∨ b = d then false else !decide (decide (min a b < c ∧ c < max a b) = decide (min a b < d ∧ d < max a b))
theorem mem2 (a c d : Int) : a ∈ [c, d] ↔ a = c ∨ a = d := by simp
theorem crosses_eq (a b c d : Int) : d_crosses [.int a, .int b, .int c, .int d] = .rt (.bl (crossM a b c d)) := by
  have e : sq (.tup [.int c, .int d]) = some ([c, d].map .int) := rfl
  have hc : cap 2 = true := cap_of (by decide)
  simp -implicitDefEqProofs only [d_crosses, b_d_crosses, runF, sNx, sSeq, sIf, sRet, sSet, sEx, sBk, sCt, sFgt, fgt, eC, eV, eM, eBin, eUn, aNil, aCons, eTup, eLst, eFn, tB1, tAnd, tOr, tNot, eAnd, eOr, eNot, eIf, eCall, eCallK, pick, eQ, tQ1, qV, qC, qBin, qUn, qB, qAnd, qOr, qNot, qIf, qAndT, qOrT, qNotT, qChain, eChain, eLc, sFor, iSq, iRg1, iRg2, gN, itms, rst, eApp, D.frz, D.frzs, D.pure, D.pures, bind_ok, bind_ex, stmt_ok, stmt_ex, seq_nx, seq_rt, seq_ex, seq_bk, seq_ct, fgt_nx, fgt_bk, fgt_ct, fgt_rt, fgt_ex, out_nx, out_rt, out_ex, opt_some, optL_some, andB_tt, andB_ff, andB_some, orB_tt, orB_ff, orB_some, andX_tt, andX_ff, andX_some, orX_tt, orX_ff, orX_some, itAnd, itOr, itAndX, itOrX, Option.bind_some, List.map_cons, List.map_nil, List.length_cons, List.length_nil, List.cons_append, List.nil_append, List.getElem?_cons_zero, List.getElem?_cons_succ, List.getElem?_nil, List.set_cons_zero, List.set_cons_succ, List.replicate, addI_i, subD_i, ltD_i, leD_i, gtD_i, geD_i, eqS_int, neS_int, eqS_bl, neS_bl, max2_i, min2_i, maxL_i, minL_i, int1_i, intL_i, if_true, if_false, ite_true, ite_false, and_true, true_and, and_self, Bool.and_self, Bool.and_true, Bool.true_and, Bool.and_false, Bool.false_and, Bool.or_true, Bool.true_or, Bool.or_false, Bool.false_or, Bool.not_true, Bool.not_false, Nat.reduceAdd, Nat.reduceSub, Nat.reduceEqDiff, List.filterMap_cons, List.filterMap_nil, decide_true, decide_false, Bool.false_eq_true, reduceIte, Int.reduceAdd, Int.reduceSub, Int.reduceMul, Int.reduceNeg, Int.reduceLT, Int.reduceLE, Int.reduceEq, Int.reduceMod, Int.reduceDiv, Int.lt_irrefl, reduceCtorEq, D.frzs_int, D.pures_int, cap_0, cap_1, cap_2, cap_3, cap_4, cap_5, cap_6, cap_7, cap_8, cap_9, cap_10, cap_11, cap_12, cap_13, cap_14, cap_15, cap_16, cap_17, cap_18, cap_19, cap_20, cap_21, cap_22, cap_23, cap_24, cap_25, cap_26, cap_27, cap_28, cap_29, cap_30, cap_31, cap_32, cap_33, cap_34, cap_35, cap_36, cap_37, cap_38, cap_39, cap_40, hc, inD_ints e, mem2]
  by_cases h : a = b ∨ c = d ∨ a = c ∨ a = d ∨ b = c ∨ b = d
  · have h' : (decide (a = b) || (decide (c = d) || (decide (a = c ∨ a = d) || decide (b = c ∨ b = d)))) = true := by simp; omega
    simp -implicitDefEqProofs only [h', runF, sNx, sSeq, sIf, sRet, sSet, sEx, sBk, sCt, sFgt, fgt, eC, eV, eM, eBin, eUn, aNil, aCons, eTup, eLst, eFn, tB1, tAnd, tOr, tNot, eAnd, eOr, eNot, eIf, eCall, eCallK, pick, eQ, tQ1, qV, qC, qBin, qUn, qB, qAnd, qOr, qNot, qIf, qAndT, qOrT, qNotT, qChain, eChain, eLc, sFor, iSq, iRg1, iRg2, gN, itms, rst, eApp, D.frz, D.frzs, D.pure, D.pures, bind_ok, bind_ex, stmt_ok, stmt_ex, seq_nx, seq_rt, seq_ex, seq_bk, seq_ct, fgt_nx, fgt_bk, fgt_ct, fgt_rt, fgt_ex, out_nx, out_rt, out_ex, opt_some, optL_some, andB_tt, andB_ff, andB_some, orB_tt, orB_ff, orB_some, andX_tt, andX_ff, andX_some, orX_tt, orX_ff, orX_some, itAnd, itOr, itAndX, itOrX, Option.bind_some, List.map_cons, List.map_nil, List.length_cons, List.length_nil, List.cons_append, List.nil_append, List.getElem?_cons_zero, List.getElem?_cons_succ, List.getElem?_nil, List.set_cons_zero, List.set_cons_succ, List.replicate, addI_i, subD_i, ltD_i, leD_i, gtD_i, geD_i, eqS_int, neS_int, eqS_bl, neS_bl, max2_i, min2_i, maxL_i, minL_i, int1_i, intL_i, if_true, if_false, ite_true, ite_false, and_true, true_and, and_self, Bool.and_self, Bool.and_true, Bool.true_and, Bool.and_false, Bool.false_and, Bool.or_true, Bool.true_or, Bool.or_false, Bool.false_or, Bool.not_true, Bool.not_false, Nat.reduceAdd, Nat.reduceSub, Nat.reduceEqDiff, List.filterMap_cons, List.filterMap_nil, decide_true, decide_false, Bool.false_eq_true, reduceIte, Int.reduceAdd, Int.reduceSub, Int.reduceMul, Int.reduceNeg, Int.reduceLT, Int.reduceLE, Int.reduceEq, Int.reduceMod, Int.reduceDiv, Int.lt_irrefl, reduceCtorEq, D.frzs_int, D.pures_int, cap_0, cap_1, cap_2, cap_3, cap_4, cap_5, cap_6, cap_7, cap_8, cap_9, cap_10, cap_11, cap_12, cap_13, cap_14, cap_15, cap_16, cap_17, cap_18, cap_19, cap_20, cap_21, cap_22, cap_23, cap_24, cap_25, cap_26, cap_27, cap_28, cap_29, cap_30, cap_31, cap_32, cap_33, cap_34, cap_35, cap_36, cap_37, cap_38, cap_39, cap_40]
    unfold crossM
    rw [if_pos h]
  · have h' : (decide (a = b) || (decide (c = d) || (decide (a = c ∨ a = d) || decide (b = c ∨ b = d)))) = false := by simp; omega
    simp -implicitDefEqProofs only [h', runF, sNx, sSeq, sIf, sRet, sSet, sEx, sBk, sCt, sFgt, fgt, eC, eV, eM, eBin, eUn, aNil, aCons, eTup, eLst, eFn, tB1, tAnd, tOr, tNot, eAnd, eOr, eNot, eIf, eCall, eCallK, pick, eQ, tQ1, qV, qC, qBin, qUn, qB, qAnd, qOr, qNot, qIf, qAndT, qOrT, qNotT, qChain, eChain, eLc, sFor, iSq, iRg1, iRg2, gN, itms, rst, eApp, D.frz, D.frzs, D.pure, D.pures, bind_ok, bind_ex, stmt_ok, stmt_ex, seq_nx, seq_rt, seq_ex, seq_bk, seq_ct, fgt_nx, fgt_bk, fgt_ct, fgt_rt, fgt_ex, out_nx, out_rt, out_ex, opt_some, optL_some, andB_tt, andB_ff, andB_some, orB_tt, orB_ff, orB_some, andX_tt, andX_ff, andX_some, orX_tt, orX_ff, orX_some, itAnd, itOr, itAndX, itOrX, Option.bind_some, List.map_cons, List.map_nil, List.length_cons, List.length_nil, List.cons_append, List.nil_append, List.getElem?_cons_zero, List.getElem?_cons_succ, List.getElem?_nil, List.set_cons_zero, List.set_cons_succ, List.replicate, addI_i, subD_i, ltD_i, leD_i, gtD_i, geD_i, eqS_int, neS_int, eqS_bl, neS_bl, max2_i, min2_i, maxL_i, minL_i, int1_i, intL_i, if_true, if_false, ite_true, ite_false, and_true, true_and, and_self, Bool.and_self, Bool.and_true, Bool.true_and, Bool.and_false, Bool.false_and, Bool.or_true, Bool.true_or, Bool.or_false, Bool.false_or, Bool.not_true, Bool.not_false, Nat.reduceAdd, Nat.reduceSub, Nat.reduceEqDiff, List.filterMap_cons, List.filterMap_nil, decide_true, decide_false, Bool.false_eq_true, reduceIte, Int.reduceAdd, Int.reduceSub, Int.reduceMul, Int.reduceNeg, Int.reduceLT, Int.reduceLE, Int.reduceEq, Int.reduceMod, Int.reduceDiv, Int.lt_irrefl, reduceCtorEq, D.frzs_int, D.pures_int, cap_0, cap_1, cap_2, cap_3, cap_4, cap_5, cap_6, cap_7, cap_8, cap_9, cap_10, cap_11, cap_12, cap_13, cap_14, cap_15, cap_16, cap_17, cap_18, cap_19, cap_20, cap_21, cap_22, cap_23, cap_24, cap_25, cap_26, cap_27, cap_28, cap_29, cap_30, cap_31, cap_32, cap_33, cap_34, cap_35, cap_36, cap_37, cap_38, cap_39, cap_40]
    unfold crossM
    rw [if_neg h]
    simp
theorem apart_eq (a b c d : Int) : d_law_apart [.int a, .int b, .int c, .int d] = .rt (.bl (crossM a b c d)) := by
  have e : sq (.vec [.int b, .int c, .int d]) = some ([b, c, d].map .int) := rfl
  have e' : sq (.vec [.int c, .int d]) = some ([c, d].map .int) := rfl
  have hc : cap 2 = true := cap_of (by decide)
  have hc' : cap 3 = true := cap_of (by decide)
  simp -implicitDefEqProofs only [d_law_apart, b_d_law_apart, runF, sNx, sSeq, sIf, sRet, sSet, sEx, sBk, sCt, sFgt, fgt, eC, eV, eM, eBin, eUn, aNil, aCons, eTup, eLst, eFn, tB1, tAnd, tOr, tNot, eAnd, eOr, eNot, eIf, eCall, eCallK, pick, eQ, tQ1, qV, qC, qBin, qUn, qB, qAnd, qOr, qNot, qIf, qAndT, qOrT, qNotT, qChain, eChain, eLc, sFor, iSq, iRg1, iRg2, gN, itms, rst, eApp, D.frz, D.frzs, D.pure, D.pures, bind_ok, bind_ex, stmt_ok, stmt_ex, seq_nx, seq_rt, seq_ex, seq_bk, seq_ct, fgt_nx, fgt_bk, fgt_ct, fgt_rt, fgt_ex, out_nx, out_rt, out_ex, opt_some, optL_some, andB_tt, andB_ff, andB_some, orB_tt, orB_ff, orB_some, andX_tt, andX_ff, andX_some, orX_tt, orX_ff, orX_some, itAnd, itOr, itAndX, itOrX, Option.bind_some, List.map_cons, List.map_nil, List.length_cons, List.length_nil, List.cons_append, List.nil_append, List.getElem?_cons_zero, List.getElem?_cons_succ, List.getElem?_nil, List.set_cons_zero, List.set_cons_succ, List.replicate, addI_i, subD_i, ltD_i, leD_i, gtD_i, geD_i, eqS_int, neS_int, eqS_bl, neS_bl, max2_i, min2_i, maxL_i, minL_i, int1_i, intL_i, if_true, if_false, ite_true, ite_false, and_true, true_and, and_self, Bool.and_self, Bool.and_true, Bool.true_and, Bool.and_false, Bool.false_and, Bool.or_true, Bool.true_or, Bool.or_false, Bool.false_or, Bool.not_true, Bool.not_false, Nat.reduceAdd, Nat.reduceSub, Nat.reduceEqDiff, List.filterMap_cons, List.filterMap_nil, decide_true, decide_false, Bool.false_eq_true, reduceIte, Int.reduceAdd, Int.reduceSub, Int.reduceMul, Int.reduceNeg, Int.reduceLT, Int.reduceLE, Int.reduceEq, Int.reduceMod, Int.reduceDiv, Int.lt_irrefl, reduceCtorEq, D.frzs_int, D.pures_int, cap_0, cap_1, cap_2, cap_3, cap_4, cap_5, cap_6, cap_7, cap_8, cap_9, cap_10, cap_11, cap_12, cap_13, cap_14, cap_15, cap_16, cap_17, cap_18, cap_19, cap_20, cap_21, cap_22, cap_23, cap_24, cap_25, cap_26, cap_27, cap_28, cap_29, cap_30, cap_31, cap_32, cap_33, cap_34, cap_35, cap_36, cap_37, cap_38, cap_39, cap_40, hc, hc', inD_ints e, inD_ints e', mem2]
  have e3 : a ∈ [b, c, d] ↔ a = b ∨ a = c ∨ a = d := by simp
  simp only [e3]
  by_cases h : a = b ∨ c = d ∨ a = c ∨ a = d ∨ b = c ∨ b = d
  · have h' : (decide (a = b ∨ a = c ∨ a = d) || (decide (b = c ∨ b = d) || decide (c = d))) = true := by simp; omega
    simp -implicitDefEqProofs only [h', runF, sNx, sSeq, sIf, sRet, sSet, sEx, sBk, sCt, sFgt, fgt, eC, eV, eM, eBin, eUn, aNil, aCons, eTup, eLst, eFn, tB1, tAnd, tOr, tNot, eAnd, eOr, eNot, eIf, eCall, eCallK, pick, eQ, tQ1, qV, qC, qBin, qUn, qB, qAnd, qOr, qNot, qIf, qAndT, qOrT, qNotT, qChain, eChain, eLc, sFor, iSq, iRg1, iRg2, gN, itms, rst, eApp, D.frz, D.frzs, D.pure, D.pures, bind_ok, bind_ex, stmt_ok, stmt_ex, seq_nx, seq_rt, seq_ex, seq_bk, seq_ct, fgt_nx, fgt_bk, fgt_ct, fgt_rt, fgt_ex, out_nx, out_rt, out_ex, opt_some, optL_some, andB_tt, andB_ff, andB_some, orB_tt, orB_ff, orB_some, andX_tt, andX_ff, andX_some, orX_tt, orX_ff, orX_some, itAnd, itOr, itAndX, itOrX, Option.bind_some, List.map_cons, List.map_nil, List.length_cons, List.length_nil, List.cons_append, List.nil_append, List.getElem?_cons_zero, List.getElem?_cons_succ, List.getElem?_nil, List.set_cons_zero, List.set_cons_succ, List.replicate, addI_i, subD_i, ltD_i, leD_i, gtD_i, geD_i, eqS_int, neS_int, eqS_bl, neS_bl, max2_i, min2_i, maxL_i, minL_i, int1_i, intL_i, if_true, if_false, ite_true, ite_false, and_true, true_and, and_self, Bool.and_self, Bool.and_true, Bool.true_and, Bool.and_false, Bool.false_and, Bool.or_true, Bool.true_or, Bool.or_false, Bool.false_or, Bool.not_true, Bool.not_false, Nat.reduceAdd, Nat.reduceSub, Nat.reduceEqDiff, List.filterMap_cons, List.filterMap_nil, decide_true, decide_false, Bool.false_eq_true, reduceIte, Int.reduceAdd, Int.reduceSub, Int.reduceMul, Int.reduceNeg, Int.reduceLT, Int.reduceLE, Int.reduceEq, Int.reduceMod, Int.reduceDiv, Int.lt_irrefl, reduceCtorEq, D.frzs_int, D.pures_int, cap_0, cap_1, cap_2, cap_3, cap_4, cap_5, cap_6, cap_7, cap_8, cap_9, cap_10, cap_11, cap_12, cap_13, cap_14, cap_15, cap_16, cap_17, cap_18, cap_19, cap_20, cap_21, cap_22, cap_23, cap_24, cap_25, cap_26, cap_27, cap_28, cap_29, cap_30, cap_31, cap_32, cap_33, cap_34, cap_35, cap_36, cap_37, cap_38, cap_39, cap_40]
    unfold crossM
    rw [if_pos h]
  · have h' : (decide (a = b ∨ a = c ∨ a = d) || (decide (b = c ∨ b = d) || decide (c = d))) = false := by simp; omega
    simp -implicitDefEqProofs only [h', runF, sNx, sSeq, sIf, sRet, sSet, sEx, sBk, sCt, sFgt, fgt, eC, eV, eM, eBin, eUn, aNil, aCons, eTup, eLst, eFn, tB1, tAnd, tOr, tNot, eAnd, eOr, eNot, eIf, eCall, eCallK, pick, eQ, tQ1, qV, qC, qBin, qUn, qB, qAnd, qOr, qNot, qIf, qAndT, qOrT, qNotT, qChain, eChain, eLc, sFor, iSq, iRg1, iRg2, gN, itms, rst, eApp, D.frz, D.frzs, D.pure, D.pures, bind_ok, bind_ex, stmt_ok, stmt_ex, seq_nx, seq_rt, seq_ex, seq_bk, seq_ct, fgt_nx, fgt_bk, fgt_ct, fgt_rt, fgt_ex, out_nx, out_rt, out_ex, opt_some, optL_some, andB_tt, andB_ff, andB_some, orB_tt, orB_ff, orB_some, andX_tt, andX_ff, andX_some, orX_tt, orX_ff, orX_some, itAnd, itOr, itAndX, itOrX, Option.bind_some, List.map_cons, List.map_nil, List.length_cons, List.length_nil, List.cons_append, List.nil_append, List.getElem?_cons_zero, List.getElem?_cons_succ, List.getElem?_nil, List.set_cons_zero, List.set_cons_succ, List.replicate, addI_i, subD_i, ltD_i, leD_i, gtD_i, geD_i, eqS_int, neS_int, eqS_bl, neS_bl, max2_i, min2_i, maxL_i, minL_i, int1_i, intL_i, if_true, if_false, ite_true, ite_false, and_true, true_and, and_self, Bool.and_self, Bool.and_true, Bool.true_and, Bool.and_false, Bool.false_and, Bool.or_true, Bool.true_or, Bool.or_false, Bool.false_or, Bool.not_true, Bool.not_false, Nat.reduceAdd, Nat.reduceSub, Nat.reduceEqDiff, List.filterMap_cons, List.filterMap_nil, decide_true, decide_false, Bool.false_eq_true, reduceIte, Int.reduceAdd, Int.reduceSub, Int.reduceMul, Int.reduceNeg, Int.reduceLT, Int.reduceLE, Int.reduceEq, Int.reduceMod, Int.reduceDiv, Int.lt_irrefl, reduceCtorEq, D.frzs_int, D.pures_int, cap_0, cap_1, cap_2, cap_3, cap_4, cap_5, cap_6, cap_7, cap_8, cap_9, cap_10, cap_11, cap_12, cap_13, cap_14, cap_15, cap_16, cap_17, cap_18, cap_19, cap_20, cap_21, cap_22, cap_23, cap_24, cap_25, cap_26, cap_27, cap_28, cap_29, cap_30, cap_31, cap_32, cap_33, cap_34, cap_35, cap_36, cap_37, cap_38, cap_39, cap_40]
    unfold crossM
    rw [if_neg h]
    simp
theorem cross_swap (a b c d : Int) : crossM c d a b = crossM a b c d := by
  unfold crossM
  by_cases h : a = b ∨ c = d ∨ a = c ∨ a = d ∨ b = c ∨ b = d
  · rw [if_pos h, if_pos (by omega)]
  · rw [if_neg h, if_neg (by omega)]
    rw [Bool.eq_iff_iff]
    simp only [Bool.not_eq_true', decide_eq_false_iff_not, decide_eq_decide]
    omega
theorem cross_l (a b c d : Int) : crossM b a c d = crossM a b c d := by
  unfold crossM
  rw [Int.min_comm, Int.max_comm]
  by_cases h : a = b ∨ c = d ∨ a = c ∨ a = d ∨ b = c ∨ b = d
  · rw [if_pos h, if_pos (by omega)]
  · rw [if_neg h, if_neg (by omega)]
theorem cross_r (a b c d : Int) : crossM a b d c = crossM a b c d := by
  rw [cross_swap, cross_l, cross_swap]
theorem four_eq (a b c d : Int) : d_law_four [.int a, .int b, .int c, .int d] = .rt (.bl true) := by
  simp -implicitDefEqProofs only [d_law_four, b_d_law_four, runF, sNx, sSeq, sIf, sRet, sSet, sEx, sBk, sCt, sFgt, fgt, eC, eV, eM, eBin, eUn, aNil, aCons, eTup, eLst, eFn, tB1, tAnd, tOr, tNot, eAnd, eOr, eNot, eIf, eCall, eCallK, pick, eQ, tQ1, qV, qC, qBin, qUn, qB, qAnd, qOr, qNot, qIf, qAndT, qOrT, qNotT, qChain, eChain, eLc, sFor, iSq, iRg1, iRg2, gN, itms, rst, eApp, D.frz, D.frzs, D.pure, D.pures, bind_ok, bind_ex, stmt_ok, stmt_ex, seq_nx, seq_rt, seq_ex, seq_bk, seq_ct, fgt_nx, fgt_bk, fgt_ct, fgt_rt, fgt_ex, out_nx, out_rt, out_ex, opt_some, optL_some, andB_tt, andB_ff, andB_some, orB_tt, orB_ff, orB_some, andX_tt, andX_ff, andX_some, orX_tt, orX_ff, orX_some, itAnd, itOr, itAndX, itOrX, Option.bind_some, List.map_cons, List.map_nil, List.length_cons, List.length_nil, List.cons_append, List.nil_append, List.getElem?_cons_zero, List.getElem?_cons_succ, List.getElem?_nil, List.set_cons_zero, List.set_cons_succ, List.replicate, addI_i, subD_i, ltD_i, leD_i, gtD_i, geD_i, eqS_int, neS_int, eqS_bl, neS_bl, max2_i, min2_i, maxL_i, minL_i, int1_i, intL_i, if_true, if_false, ite_true, ite_false, and_true, true_and, and_self, Bool.and_self, Bool.and_true, Bool.true_and, Bool.and_false, Bool.false_and, Bool.or_true, Bool.true_or, Bool.or_false, Bool.false_or, Bool.not_true, Bool.not_false, Nat.reduceAdd, Nat.reduceSub, Nat.reduceEqDiff, List.filterMap_cons, List.filterMap_nil, decide_true, decide_false, Bool.false_eq_true, reduceIte, Int.reduceAdd, Int.reduceSub, Int.reduceMul, Int.reduceNeg, Int.reduceLT, Int.reduceLE, Int.reduceEq, Int.reduceMod, Int.reduceDiv, Int.lt_irrefl, reduceCtorEq, D.frzs_int, D.pures_int, cap_0, cap_1, cap_2, cap_3, cap_4, cap_5, cap_6, cap_7, cap_8, cap_9, cap_10, cap_11, cap_12, cap_13, cap_14, cap_15, cap_16, cap_17, cap_18, cap_19, cap_20, cap_21, cap_22, cap_23, cap_24, cap_25, cap_26, cap_27, cap_28, cap_29, cap_30, cap_31, cap_32, cap_33, cap_34, cap_35, cap_36, cap_37, cap_38, cap_39, cap_40, apart_eq, crosses_eq, truth_eq, cross_swap a b c d, cross_l, cross_r]
theorem row_eq (l : List Int) (h : l.length < 1000) : d_law_row [.tup (l.map .int), .lst (l.map .int)] = .rt (.bl true) := by
  have e1 : sq (.tup (l.map D.int)) = some (l.map .int) := rfl
  have e2 : sq (.lst (l.map D.int)) = some (l.map .int) := rfl
  have hb : bnd (l.length : Int) = true := bnd_of ⟨by omega, by omega⟩
  simp -implicitDefEqProofs only [d_law_row, b_d_law_row, runF, sNx, sSeq, sIf, sRet, sSet, sEx, sBk, sCt, sFgt, fgt, eC, eV, eM, eBin, eUn, aNil, aCons, eTup, eLst, eFn, tB1, tAnd, tOr, tNot, eAnd, eOr, eNot, eIf, eCall, eCallK, pick, eQ, tQ1, qV, qC, qBin, qUn, qB, qAnd, qOr, qNot, qIf, qAndT, qOrT, qNotT, qChain, eChain, eLc, sFor, iSq, iRg1, iRg2, gN, itms, rst, eApp, D.frz, D.frzs, D.pure, D.pures, bind_ok, bind_ex, stmt_ok, stmt_ex, seq_nx, seq_rt, seq_ex, seq_bk, seq_ct, fgt_nx, fgt_bk, fgt_ct, fgt_rt, fgt_ex, out_nx, out_rt, out_ex, opt_some, optL_some, andB_tt, andB_ff, andB_some, orB_tt, orB_ff, orB_some, andX_tt, andX_ff, andX_some, orX_tt, orX_ff, orX_some, itAnd, itOr, itAndX, itOrX, Option.bind_some, List.map_cons, List.map_nil, List.length_cons, List.length_nil, List.cons_append, List.nil_append, List.getElem?_cons_zero, List.getElem?_cons_succ, List.getElem?_nil, List.set_cons_zero, List.set_cons_succ, List.replicate, addI_i, subD_i, ltD_i, leD_i, gtD_i, geD_i, eqS_int, neS_int, eqS_bl, neS_bl, max2_i, min2_i, maxL_i, minL_i, int1_i, intL_i, if_true, if_false, ite_true, ite_false, and_true, true_and, and_self, Bool.and_self, Bool.and_true, Bool.true_and, Bool.and_false, Bool.false_and, Bool.or_true, Bool.true_or, Bool.or_false, Bool.false_or, Bool.not_true, Bool.not_false, Nat.reduceAdd, Nat.reduceSub, Nat.reduceEqDiff, List.filterMap_cons, List.filterMap_nil, decide_true, decide_false, Bool.false_eq_true, reduceIte, Int.reduceAdd, Int.reduceSub, Int.reduceMul, Int.reduceNeg, Int.reduceLT, Int.reduceLE, Int.reduceEq, Int.reduceMod, Int.reduceDiv, Int.lt_irrefl, reduceCtorEq, D.frzs_int, D.pures_int, cap_0, cap_1, cap_2, cap_3, cap_4, cap_5, cap_6, cap_7, cap_8, cap_9, cap_10, cap_11, cap_12, cap_13, cap_14, cap_15, cap_16, cap_17, cap_18, cap_19, cap_20, cap_21, cap_22, cap_23, cap_24, cap_25, cap_26, cap_27, cap_28, cap_29, cap_30, cap_31, cap_32, cap_33, cap_34, cap_35, cap_36, cap_37, cap_38, cap_39, cap_40, isi_tuple_tup, len1_sq e1, len1_sq e2, List.length_map, hb, rng_eq, Int.toNat_natCast]
  rw [loop_same D.int _ _ fun x hx => ⟨_, rfl, by
    obtain ⟨k, hk, rfl⟩ := List.mem_map.mp hx
    have hk' : k < l.length := List.mem_range.mp hk
    have a1 : atI (l.map D.int) (0 + (k : Int)) = some (.int l[k]) := by
      rw [Int.zero_add]; exact atI_nat (by simp [hk'])
    simp -implicitDefEqProofs only [runF, sNx, sSeq, sIf, sRet, sSet, sEx, sBk, sCt, sFgt, fgt, eC, eV, eM, eBin, eUn, aNil, aCons, eTup, eLst, eFn, tB1, tAnd, tOr, tNot, eAnd, eOr, eNot, eIf, eCall, eCallK, pick, eQ, tQ1, qV, qC, qBin, qUn, qB, qAnd, qOr, qNot, qIf, qAndT, qOrT, qNotT, qChain, eChain, eLc, sFor, iSq, iRg1, iRg2, gN, itms, rst, eApp, D.frz, D.frzs, D.pure, D.pures, bind_ok, bind_ex, stmt_ok, stmt_ex, seq_nx, seq_rt, seq_ex, seq_bk, seq_ct, fgt_nx, fgt_bk, fgt_ct, fgt_rt, fgt_ex, out_nx, out_rt, out_ex, opt_some, optL_some, andB_tt, andB_ff, andB_some, orB_tt, orB_ff, orB_some, andX_tt, andX_ff, andX_some, orX_tt, orX_ff, orX_some, itAnd, itOr, itAndX, itOrX, Option.bind_some, List.map_cons, List.map_nil, List.length_cons, List.length_nil, List.cons_append, List.nil_append, List.getElem?_cons_zero, List.getElem?_cons_succ, List.getElem?_nil, List.set_cons_zero, List.set_cons_succ, List.replicate, addI_i, subD_i, ltD_i, leD_i, gtD_i, geD_i, eqS_int, neS_int, eqS_bl, neS_bl, max2_i, min2_i, maxL_i, minL_i, int1_i, intL_i, if_true, if_false, ite_true, ite_false, and_true, true_and, and_self, Bool.and_self, Bool.and_true, Bool.true_and, Bool.and_false, Bool.false_and, Bool.or_true, Bool.true_or, Bool.or_false, Bool.false_or, Bool.not_true, Bool.not_false, Nat.reduceAdd, Nat.reduceSub, Nat.reduceEqDiff, List.filterMap_cons, List.filterMap_nil, decide_true, decide_false, Bool.false_eq_true, reduceIte, Int.reduceAdd, Int.reduceSub, Int.reduceMul, Int.reduceNeg, Int.reduceLT, Int.reduceLE, Int.reduceEq, Int.reduceMod, Int.reduceDiv, Int.lt_irrefl, reduceCtorEq, D.frzs_int, D.pures_int, cap_0, cap_1, cap_2, cap_3, cap_4, cap_5, cap_6, cap_7, cap_8, cap_9, cap_10, cap_11, cap_12, cap_13, cap_14, cap_15, cap_16, cap_17, cap_18, cap_19, cap_20, cap_21, cap_22, cap_23, cap_24, cap_25, cap_26, cap_27, cap_28, cap_29, cap_30, cap_31, cap_32, cap_33, cap_34, cap_35, cap_36, cap_37, cap_38, cap_39, cap_40, ixD_sq e1 a1, ixD_sq e2 a1, whole_int]⟩]
  simp -implicitDefEqProofs only [runF, sNx, sSeq, sIf, sRet, sSet, sEx, sBk, sCt, sFgt, fgt, eC, eV, eM, eBin, eUn, aNil, aCons, eTup, eLst, eFn, tB1, tAnd, tOr, tNot, eAnd, eOr, eNot, eIf, eCall, eCallK, pick, eQ, tQ1, qV, qC, qBin, qUn, qB, qAnd, qOr, qNot, qIf, qAndT, qOrT, qNotT, qChain, eChain, eLc, sFor, iSq, iRg1, iRg2, gN, itms, rst, eApp, D.frz, D.frzs, D.pure, D.pures, bind_ok, bind_ex, stmt_ok, stmt_ex, seq_nx, seq_rt, seq_ex, seq_bk, seq_ct, fgt_nx, fgt_bk, fgt_ct, fgt_rt, fgt_ex, out_nx, out_rt, out_ex, opt_some, optL_some, andB_tt, andB_ff, andB_some, orB_tt, orB_ff, orB_some, andX_tt, andX_ff, andX_some, orX_tt, orX_ff, orX_some, itAnd, itOr, itAndX, itOrX, Option.bind_some, List.map_cons, List.map_nil, List.length_cons, List.length_nil, List.cons_append, List.nil_append, List.getElem?_cons_zero, List.getElem?_cons_succ, List.getElem?_nil, List.set_cons_zero, List.set_cons_succ, List.replicate, addI_i, subD_i, ltD_i, leD_i, gtD_i, geD_i, eqS_int, neS_int, eqS_bl, neS_bl, max2_i, min2_i, maxL_i, minL_i, int1_i, intL_i, if_true, if_false, ite_true, ite_false, and_true, true_and, and_self, Bool.and_self, Bool.and_true, Bool.true_and, Bool.and_false, Bool.false_and, Bool.or_true, Bool.true_or, Bool.or_false, Bool.false_or, Bool.not_true, Bool.not_false, Nat.reduceAdd, Nat.reduceSub, Nat.reduceEqDiff, List.filterMap_cons, List.filterMap_nil, decide_true, decide_false, Bool.false_eq_true, reduceIte, Int.reduceAdd, Int.reduceSub, Int.reduceMul, Int.reduceNeg, Int.reduceLT, Int.reduceLE, Int.reduceEq, Int.reduceMod, Int.reduceDiv, Int.lt_irrefl, reduceCtorEq, D.frzs_int, D.pures_int, cap_0, cap_1, cap_2, cap_3, cap_4, cap_5, cap_6, cap_7, cap_8, cap_9, cap_10, cap_11, cap_12, cap_13, cap_14, cap_15, cap_16, cap_17, cap_18, cap_19, cap_20, cap_21, cap_22, cap_23, cap_24, cap_25, cap_26, cap_27, cap_28, cap_29, cap_30, cap_31, cap_32, cap_33, cap_34, cap_35, cap_36, cap_37, cap_38, cap_39, cap_40]
theorem cell_eq (ns : List Int) (k : Int) (h0 : 0 ≤ k) (h1 : k ≤ 1000) (hl : ns.length ≤ 63) : ∃ c, d_law_cell [.lst (ns.map .int), .int k] = .rt (.int c) := by
  have e : sq (.lst (ns.map D.int)) = some (ns.map .int) := rfl
  by_cases h : k < (ns.length : Int)
  · refine ⟨ns[k.toNat]'(by omega), ?_⟩
    have a1 : atI (ns.map D.int) k = some (.int (ns[k.toNat]'(by omega))) := by
      rw [atI_lt h0 (by simp; omega)]; simp
    simp -implicitDefEqProofs only [d_law_cell, b_d_law_cell, runF, sNx, sSeq, sIf, sRet, sSet, sEx, sBk, sCt, sFgt, fgt, eC, eV, eM, eBin, eUn, aNil, aCons, eTup, eLst, eFn, tB1, tAnd, tOr, tNot, eAnd, eOr, eNot, eIf, eCall, eCallK, pick, eQ, tQ1, qV, qC, qBin, qUn, qB, qAnd, qOr, qNot, qIf, qAndT, qOrT, qNotT, qChain, eChain, eLc, sFor, iSq, iRg1, iRg2, gN, itms, rst, eApp, D.frz, D.frzs, D.pure, D.pures, bind_ok, bind_ex, stmt_ok, stmt_ex, seq_nx, seq_rt, seq_ex, seq_bk, seq_ct, fgt_nx, fgt_bk, fgt_ct, fgt_rt, fgt_ex, out_nx, out_rt, out_ex, opt_some, optL_some, andB_tt, andB_ff, andB_some, orB_tt, orB_ff, orB_some, andX_tt, andX_ff, andX_some, orX_tt, orX_ff, orX_some, itAnd, itOr, itAndX, itOrX, Option.bind_some, List.map_cons, List.map_nil, List.length_cons, List.length_nil, List.cons_append, List.nil_append, List.getElem?_cons_zero, List.getElem?_cons_succ, List.getElem?_nil, List.set_cons_zero, List.set_cons_succ, List.replicate, addI_i, subD_i, ltD_i, leD_i, gtD_i, geD_i, eqS_int, neS_int, eqS_bl, neS_bl, max2_i, min2_i, maxL_i, minL_i, int1_i, intL_i, if_true, if_false, ite_true, ite_false, and_true, true_and, and_self, Bool.and_self, Bool.and_true, Bool.true_and, Bool.and_false, Bool.false_and, Bool.or_true, Bool.true_or, Bool.or_false, Bool.false_or, Bool.not_true, Bool.not_false, Nat.reduceAdd, Nat.reduceSub, Nat.reduceEqDiff, List.filterMap_cons, List.filterMap_nil, decide_true, decide_false, Bool.false_eq_true, reduceIte, Int.reduceAdd, Int.reduceSub, Int.reduceMul, Int.reduceNeg, Int.reduceLT, Int.reduceLE, Int.reduceEq, Int.reduceMod, Int.reduceDiv, Int.lt_irrefl, reduceCtorEq, D.frzs_int, D.pures_int, cap_0, cap_1, cap_2, cap_3, cap_4, cap_5, cap_6, cap_7, cap_8, cap_9, cap_10, cap_11, cap_12, cap_13, cap_14, cap_15, cap_16, cap_17, cap_18, cap_19, cap_20, cap_21, cap_22, cap_23, cap_24, cap_25, cap_26, cap_27, cap_28, cap_29, cap_30, cap_31, cap_32, cap_33, cap_34, cap_35, cap_36, cap_37, cap_38, cap_39, cap_40, len1_sq e, List.length_map, h, ixD_sq e a1]
  · simp -implicitDefEqProofs only [d_law_cell, b_d_law_cell, runF, sNx, sSeq, sIf, sRet, sSet, sEx, sBk, sCt, sFgt, fgt, eC, eV, eM, eBin, eUn, aNil, aCons, eTup, eLst, eFn, tB1, tAnd, tOr, tNot, eAnd, eOr, eNot, eIf, eCall, eCallK, pick, eQ, tQ1, qV, qC, qBin, qUn, qB, qAnd, qOr, qNot, qIf, qAndT, qOrT, qNotT, qChain, eChain, eLc, sFor, iSq, iRg1, iRg2, gN, itms, rst, eApp, D.frz, D.frzs, D.pure, D.pures, bind_ok, bind_ex, stmt_ok, stmt_ex, seq_nx, seq_rt, seq_ex, seq_bk, seq_ct, fgt_nx, fgt_bk, fgt_ct, fgt_rt, fgt_ex, out_nx, out_rt, out_ex, opt_some, optL_some, andB_tt, andB_ff, andB_some, orB_tt, orB_ff, orB_some, andX_tt, andX_ff, andX_some, orX_tt, orX_ff, orX_some, itAnd, itOr, itAndX, itOrX, Option.bind_some, List.map_cons, List.map_nil, List.length_cons, List.length_nil, List.cons_append, List.nil_append, List.getElem?_cons_zero, List.getElem?_cons_succ, List.getElem?_nil, List.set_cons_zero, List.set_cons_succ, List.replicate, addI_i, subD_i, ltD_i, leD_i, gtD_i, geD_i, eqS_int, neS_int, eqS_bl, neS_bl, max2_i, min2_i, maxL_i, minL_i, int1_i, intL_i, if_true, if_false, ite_true, ite_false, and_true, true_and, and_self, Bool.and_self, Bool.and_true, Bool.true_and, Bool.and_false, Bool.false_and, Bool.or_true, Bool.true_or, Bool.or_false, Bool.false_or, Bool.not_true, Bool.not_false, Nat.reduceAdd, Nat.reduceSub, Nat.reduceEqDiff, List.filterMap_cons, List.filterMap_nil, decide_true, decide_false, Bool.false_eq_true, reduceIte, Int.reduceAdd, Int.reduceSub, Int.reduceMul, Int.reduceNeg, Int.reduceLT, Int.reduceLE, Int.reduceEq, Int.reduceMod, Int.reduceDiv, Int.lt_irrefl, reduceCtorEq, D.frzs_int, D.pures_int, cap_0, cap_1, cap_2, cap_3, cap_4, cap_5, cap_6, cap_7, cap_8, cap_9, cap_10, cap_11, cap_12, cap_13, cap_14, cap_15, cap_16, cap_17, cap_18, cap_19, cap_20, cap_21, cap_22, cap_23, cap_24, cap_25, cap_26, cap_27, cap_28, cap_29, cap_30, cap_31, cap_32, cap_33, cap_34, cap_35, cap_36, cap_37, cap_38, cap_39, cap_40, len1_sq e, List.length_map, h]
    obtain ⟨h2, h3⟩ := loop_fold (g := gN 3) (b := sFgt [3] (sSet 2 (eQ (qBin modD (qUn int1 (qBin addI (qBin mulD (qV 2) (qC (.int 31))) (qBin modD (qUn int1 (qV 3)) (qC (.int 1000003))))) (qC (.int 1000003)))))) D.int (fun s : Int => [some (.lst (ns.map D.int)), some (.int k), some (.int s), none]) (fun s x => (s * 31 + x % 1000003) % 1000003) (fun s => 0 ≤ s ∧ s < 1000003) ns
      (fun s x _ _ => by omega) (fun s x _ hs => ⟨_, rfl, by
        simp -implicitDefEqProofs only [runF, sNx, sSeq, sIf, sRet, sSet, sEx, sBk, sCt, sFgt, fgt, eC, eV, eM, eBin, eUn, aNil, aCons, eTup, eLst, eFn, tB1, tAnd, tOr, tNot, eAnd, eOr, eNot, eIf, eCall, eCallK, pick, eQ, tQ1, qV, qC, qBin, qUn, qB, qAnd, qOr, qNot, qIf, qAndT, qOrT, qNotT, qChain, eChain, eLc, sFor, iSq, iRg1, iRg2, gN, itms, rst, eApp, D.frz, D.frzs, D.pure, D.pures, bind_ok, bind_ex, stmt_ok, stmt_ex, seq_nx, seq_rt, seq_ex, seq_bk, seq_ct, fgt_nx, fgt_bk, fgt_ct, fgt_rt, fgt_ex, out_nx, out_rt, out_ex, opt_some, optL_some, andB_tt, andB_ff, andB_some, orB_tt, orB_ff, orB_some, andX_tt, andX_ff, andX_some, orX_tt, orX_ff, orX_some, itAnd, itOr, itAndX, itOrX, Option.bind_some, List.map_cons, List.map_nil, List.length_cons, List.length_nil, List.cons_append, List.nil_append, List.getElem?_cons_zero, List.getElem?_cons_succ, List.getElem?_nil, List.set_cons_zero, List.set_cons_succ, List.replicate, addI_i, subD_i, ltD_i, leD_i, gtD_i, geD_i, eqS_int, neS_int, eqS_bl, neS_bl, max2_i, min2_i, maxL_i, minL_i, int1_i, intL_i, if_true, if_false, ite_true, ite_false, and_true, true_and, and_self, Bool.and_self, Bool.and_true, Bool.true_and, Bool.and_false, Bool.false_and, Bool.or_true, Bool.true_or, Bool.or_false, Bool.false_or, Bool.not_true, Bool.not_false, Nat.reduceAdd, Nat.reduceSub, Nat.reduceEqDiff, List.filterMap_cons, List.filterMap_nil, decide_true, decide_false, Bool.false_eq_true, reduceIte, Int.reduceAdd, Int.reduceSub, Int.reduceMul, Int.reduceNeg, Int.reduceLT, Int.reduceLE, Int.reduceEq, Int.reduceMod, Int.reduceDiv, Int.lt_irrefl, reduceCtorEq, D.frzs_int, D.pures_int, cap_0, cap_1, cap_2, cap_3, cap_4, cap_5, cap_6, cap_7, cap_8, cap_9, cap_10, cap_11, cap_12, cap_13, cap_14, cap_15, cap_16, cap_17, cap_18, cap_19, cap_20, cap_21, cap_22, cap_23, cap_24, cap_25, cap_26, cap_27, cap_28, cap_29, cap_30, cap_31, cap_32, cap_33, cap_34, cap_35, cap_36, cap_37, cap_38, cap_39, cap_40, mulD_i (show (-(2 ^ 64) < s ∧ s < 2 ^ 64) ∨ _ from .inl ⟨by omega, by omega⟩), modD_i (show (0 : Int) < 1000003 by decide)]⟩) 17 (by decide)
    rw [h2]
    have m1 : ∀ s : Int, 0 ≤ s ∧ s < 1000003 → mulD (.int (s + 7)) (.int (k + 3)) = some (.int ((s + 7) * (k + 3))) := fun s hs => mulD_i (.inl ⟨by omega, by omega⟩)
    have m2 : ∀ z : Int, mulD (.int z) (.int 69621) = some (.int (z * 69621)) := fun z => mulD_i (.inr ⟨by decide, by decide⟩)
    exact ⟨_, by simp -implicitDefEqProofs only [runF, sNx, sSeq, sIf, sRet, sSet, sEx, sBk, sCt, sFgt, fgt, eC, eV, eM, eBin, eUn, aNil, aCons, eTup, eLst, eFn, tB1, tAnd, tOr, tNot, eAnd, eOr, eNot, eIf, eCall, eCallK, pick, eQ, tQ1, qV, qC, qBin, qUn, qB, qAnd, qOr, qNot, qIf, qAndT, qOrT, qNotT, qChain, eChain, eLc, sFor, iSq, iRg1, iRg2, gN, itms, rst, eApp, D.frz, D.frzs, D.pure, D.pures, bind_ok, bind_ex, stmt_ok, stmt_ex, seq_nx, seq_rt, seq_ex, seq_bk, seq_ct, fgt_nx, fgt_bk, fgt_ct, fgt_rt, fgt_ex, out_nx, out_rt, out_ex, opt_some, optL_some, andB_tt, andB_ff, andB_some, orB_tt, orB_ff, orB_some, andX_tt, andX_ff, andX_some, orX_tt, orX_ff, orX_some, itAnd, itOr, itAndX, itOrX, Option.bind_some, List.map_cons, List.map_nil, List.length_cons, List.length_nil, List.cons_append, List.nil_append, List.getElem?_cons_zero, List.getElem?_cons_succ, List.getElem?_nil, List.set_cons_zero, List.set_cons_succ, List.replicate, addI_i, subD_i, ltD_i, leD_i, gtD_i, geD_i, eqS_int, neS_int, eqS_bl, neS_bl, max2_i, min2_i, maxL_i, minL_i, int1_i, intL_i, if_true, if_false, ite_true, ite_false, and_true, true_and, and_self, Bool.and_self, Bool.and_true, Bool.true_and, Bool.and_false, Bool.false_and, Bool.or_true, Bool.true_or, Bool.or_false, Bool.false_or, Bool.not_true, Bool.not_false, Nat.reduceAdd, Nat.reduceSub, Nat.reduceEqDiff, List.filterMap_cons, List.filterMap_nil, decide_true, decide_false, Bool.false_eq_true, reduceIte, Int.reduceAdd, Int.reduceSub, Int.reduceMul, Int.reduceNeg, Int.reduceLT, Int.reduceLE, Int.reduceEq, Int.reduceMod, Int.reduceDiv, Int.lt_irrefl, reduceCtorEq, D.frzs_int, D.pures_int, cap_0, cap_1, cap_2, cap_3, cap_4, cap_5, cap_6, cap_7, cap_8, cap_9, cap_10, cap_11, cap_12, cap_13, cap_14, cap_15, cap_16, cap_17, cap_18, cap_19, cap_20, cap_21, cap_22, cap_23, cap_24, cap_25, cap_26, cap_27, cap_28, cap_29, cap_30, cap_31, cap_32, cap_33, cap_34, cap_35, cap_36, cap_37, cap_38, cap_39, cap_40, m1 _ h3, m2, modD_i (show (0 : Int) < 2147483647 by decide)]; rfl⟩

theorem arc_len (p f l : Int) (h : 0 < p) : (arcM p f l).length = ((l - f) % p).toNat := by unfold arcM; simp
/-- the walk's word: j pins are met -/
def WP (p s t : Int) (xs : List Int) (ρ : Rho) : Prop :=
  ∃ j : Nat, xs.length + j = p.toNat ∧ (j : Int) ≤ (t - s) % p ∧ ρ = [some (.int p), some (.int s), some (.int t), some (.vec (((List.range j).map fun (k : Nat) => (s + 1 + (k : Int)) % p).map .int)), some (.int ((s + j) % p)), none]
theorem walk_eq (p s t : Int) (h : 0 < p) (h2 : p ≤ 40) (hs : 0 ≤ s ∧ s < p) (ht : 0 ≤ t ∧ t < p) : d_law_walk [.int p, .int s, .int t] = .rt (.vec ((arcM p s t).map .int)) := by
  have hb : bnd p = true := bnd_of ⟨by omega, by omega⟩
  have hn0 : 0 ≤ (t - s) % p := Int.emod_nonneg _ (by omega)
  have hn1 : (t - s) % p < p := Int.emod_lt_of_pos _ h
  have e1 : s % p = s := Int.emod_eq_of_lt hs.1 hs.2
  simp -implicitDefEqProofs only [d_law_walk, b_d_law_walk, runF, sNx, sSeq, sIf, sRet, sSet, sEx, sBk, sCt, sFgt, fgt, eC, eV, eM, eBin, eUn, aNil, aCons, eTup, eLst, eFn, tB1, tAnd, tOr, tNot, eAnd, eOr, eNot, eIf, eCall, eCallK, pick, eQ, tQ1, qV, qC, qBin, qUn, qB, qAnd, qOr, qNot, qIf, qAndT, qOrT, qNotT, qChain, eChain, eLc, sFor, iSq, iRg1, iRg2, gN, itms, rst, eApp, D.frz, D.frzs, D.pure, D.pures, bind_ok, bind_ex, stmt_ok, stmt_ex, seq_nx, seq_rt, seq_ex, seq_bk, seq_ct, fgt_nx, fgt_bk, fgt_ct, fgt_rt, fgt_ex, out_nx, out_rt, out_ex, opt_some, optL_some, andB_tt, andB_ff, andB_some, orB_tt, orB_ff, orB_some, andX_tt, andX_ff, andX_some, orX_tt, orX_ff, orX_some, itAnd, itOr, itAndX, itOrX, Option.bind_some, List.map_cons, List.map_nil, List.length_cons, List.length_nil, List.cons_append, List.nil_append, List.getElem?_cons_zero, List.getElem?_cons_succ, List.getElem?_nil, List.set_cons_zero, List.set_cons_succ, List.replicate, addI_i, subD_i, ltD_i, leD_i, gtD_i, geD_i, eqS_int, neS_int, eqS_bl, neS_bl, max2_i, min2_i, maxL_i, minL_i, int1_i, intL_i, if_true, if_false, ite_true, ite_false, and_true, true_and, and_self, Bool.and_self, Bool.and_true, Bool.true_and, Bool.and_false, Bool.false_and, Bool.or_true, Bool.true_or, Bool.or_false, Bool.false_or, Bool.not_true, Bool.not_false, Nat.reduceAdd, Nat.reduceSub, Nat.reduceEqDiff, List.filterMap_cons, List.filterMap_nil, decide_true, decide_false, Bool.false_eq_true, reduceIte, Int.reduceAdd, Int.reduceSub, Int.reduceMul, Int.reduceNeg, Int.reduceLT, Int.reduceLE, Int.reduceEq, Int.reduceMod, Int.reduceDiv, Int.lt_irrefl, reduceCtorEq, D.frzs_int, D.pures_int, cap_0, cap_1, cap_2, cap_3, cap_4, cap_5, cap_6, cap_7, cap_8, cap_9, cap_10, cap_11, cap_12, cap_13, cap_14, cap_15, cap_16, cap_17, cap_18, cap_19, cap_20, cap_21, cap_22, cap_23, cap_24, cap_25, cap_26, cap_27, cap_28, cap_29, cap_30, cap_31, cap_32, cap_33, cap_34, cap_35, cap_36, cap_37, cap_38, cap_39, cap_40, hb, rng_eq]
  have key := loop_ind (g := gN 5) (b := sFgt [5] (sSeq (sIf (tQ1 (qB (qBin eqS (qV 4) (qV 2)))) sBk sNx) (sSeq (sSet 4 (eQ (qBin modD (qUn int1 (qBin addI (qV 4) (qC (.int 1)))) (qV 0)))) (sEx (eApp 3 (eV 4))))))
    D.int (WP p s t) (fun r => ∃ k, r = .nx [some (.int p), some (.int s), some (.int t), some (.vec ((arcM p s t).map .int)), some (.int k), none])
    (fun ρ hw => by
      obtain ⟨j, h3, h4, rfl⟩ := hw
      simp only [List.length_nil] at h3
      omega)
    (fun x xs ρ hw => by
      obtain ⟨j, h3, h4, rfl⟩ := hw
      simp only [List.length_cons] at h3
      refine ⟨_, rfl, ?_⟩
      by_cases hj : (s + j) % p = t
      · -- the walk is at its end
        have hjn : ((t - s) % p).toNat = j := by
          have q := Int.emod_emod_of_dvd (s + j) (Int.dvd_refl p)
          have : (t - s) % p = (j : Int) := by
            rw [← hj, Int.emod_sub_emod]
            rw [show s + (j : Int) - s = j by omega]
            exact Int.emod_eq_of_lt (by omega) (by omega)
          omega
        refine .inr (.inl ⟨[some (.int p), some (.int s), some (.int t), some (.vec (((List.range j).map fun (k : Nat) => (s + 1 + (k : Int)) % p).map .int)), some (.int ((s + j) % p)), none], ?_, (s + j) % p, ?_⟩)
        · simp -implicitDefEqProofs only [runF, sNx, sSeq, sIf, sRet, sSet, sEx, sBk, sCt, sFgt, fgt, eC, eV, eM, eBin, eUn, aNil, aCons, eTup, eLst, eFn, tB1, tAnd, tOr, tNot, eAnd, eOr, eNot, eIf, eCall, eCallK, pick, eQ, tQ1, qV, qC, qBin, qUn, qB, qAnd, qOr, qNot, qIf, qAndT, qOrT, qNotT, qChain, eChain, eLc, sFor, iSq, iRg1, iRg2, gN, itms, rst, eApp, D.frz, D.frzs, D.pure, D.pures, bind_ok, bind_ex, stmt_ok, stmt_ex, seq_nx, seq_rt, seq_ex, seq_bk, seq_ct, fgt_nx, fgt_bk, fgt_ct, fgt_rt, fgt_ex, out_nx, out_rt, out_ex, opt_some, optL_some, andB_tt, andB_ff, andB_some, orB_tt, orB_ff, orB_some, andX_tt, andX_ff, andX_some, orX_tt, orX_ff, orX_some, itAnd, itOr, itAndX, itOrX, Option.bind_some, List.map_cons, List.map_nil, List.length_cons, List.length_nil, List.cons_append, List.nil_append, List.getElem?_cons_zero, List.getElem?_cons_succ, List.getElem?_nil, List.set_cons_zero, List.set_cons_succ, List.replicate, addI_i, subD_i, ltD_i, leD_i, gtD_i, geD_i, eqS_int, neS_int, eqS_bl, neS_bl, max2_i, min2_i, maxL_i, minL_i, int1_i, intL_i, if_true, if_false, ite_true, ite_false, and_true, true_and, and_self, Bool.and_self, Bool.and_true, Bool.true_and, Bool.and_false, Bool.false_and, Bool.or_true, Bool.true_or, Bool.or_false, Bool.false_or, Bool.not_true, Bool.not_false, Nat.reduceAdd, Nat.reduceSub, Nat.reduceEqDiff, List.filterMap_cons, List.filterMap_nil, decide_true, decide_false, Bool.false_eq_true, reduceIte, Int.reduceAdd, Int.reduceSub, Int.reduceMul, Int.reduceNeg, Int.reduceLT, Int.reduceLE, Int.reduceEq, Int.reduceMod, Int.reduceDiv, Int.lt_irrefl, reduceCtorEq, D.frzs_int, D.pures_int, cap_0, cap_1, cap_2, cap_3, cap_4, cap_5, cap_6, cap_7, cap_8, cap_9, cap_10, cap_11, cap_12, cap_13, cap_14, cap_15, cap_16, cap_17, cap_18, cap_19, cap_20, cap_21, cap_22, cap_23, cap_24, cap_25, cap_26, cap_27, cap_28, cap_29, cap_30, cap_31, cap_32, cap_33, cap_34, cap_35, cap_36, cap_37, cap_38, cap_39, cap_40, hj]
        · unfold arcM; rw [hjn]
      · have hlt : (j : Int) < (t - s) % p := by
          rcases Int.lt_or_eq_of_le h4 with q | q
          · exact q
          · exfalso
            apply hj
            have : (s + (j : Int)) % p = t % p := by
              rw [q, Int.add_emod_emod]
              congr 1
              omega
            rw [this]
            exact Int.emod_eq_of_lt ht.1 ht.2
        refine .inl ⟨[some (.int p), some (.int s), some (.int t), some (.vec (((List.range (j + 1)).map fun (k : Nat) => (s + 1 + (k : Int)) % p).map .int)), some (.int ((s + (j + 1 : Nat)) % p)), none], .inl ?_, j + 1, by omega, by omega, rfl⟩
        have em : ((s + (j : Int)) % p + 1) % p = (s + 1 + j) % p := by
          rw [Int.emod_add_emod]; congr 1; omega
        have em2 : (s + ((j + 1 : Nat) : Int)) % p = (s + 1 + j) % p := by congr 1; omega
        have hcap : cap (List.map D.int (List.map (fun (k : Nat) => (s + 1 + (k : Int)) % p) (List.range j))).length = true := cap_of (by simp; omega)
        simp -implicitDefEqProofs only [runF, sNx, sSeq, sIf, sRet, sSet, sEx, sBk, sCt, sFgt, fgt, eC, eV, eM, eBin, eUn, aNil, aCons, eTup, eLst, eFn, tB1, tAnd, tOr, tNot, eAnd, eOr, eNot, eIf, eCall, eCallK, pick, eQ, tQ1, qV, qC, qBin, qUn, qB, qAnd, qOr, qNot, qIf, qAndT, qOrT, qNotT, qChain, eChain, eLc, sFor, iSq, iRg1, iRg2, gN, itms, rst, eApp, D.frz, D.frzs, D.pure, D.pures, bind_ok, bind_ex, stmt_ok, stmt_ex, seq_nx, seq_rt, seq_ex, seq_bk, seq_ct, fgt_nx, fgt_bk, fgt_ct, fgt_rt, fgt_ex, out_nx, out_rt, out_ex, opt_some, optL_some, andB_tt, andB_ff, andB_some, orB_tt, orB_ff, orB_some, andX_tt, andX_ff, andX_some, orX_tt, orX_ff, orX_some, itAnd, itOr, itAndX, itOrX, Option.bind_some, List.map_cons, List.map_nil, List.length_cons, List.length_nil, List.cons_append, List.nil_append, List.getElem?_cons_zero, List.getElem?_cons_succ, List.getElem?_nil, List.set_cons_zero, List.set_cons_succ, List.replicate, addI_i, subD_i, ltD_i, leD_i, gtD_i, geD_i, eqS_int, neS_int, eqS_bl, neS_bl, max2_i, min2_i, maxL_i, minL_i, int1_i, intL_i, if_true, if_false, ite_true, ite_false, and_true, true_and, and_self, Bool.and_self, Bool.and_true, Bool.true_and, Bool.and_false, Bool.false_and, Bool.or_true, Bool.true_or, Bool.or_false, Bool.false_or, Bool.not_true, Bool.not_false, Nat.reduceAdd, Nat.reduceSub, Nat.reduceEqDiff, List.filterMap_cons, List.filterMap_nil, decide_true, decide_false, Bool.false_eq_true, reduceIte, Int.reduceAdd, Int.reduceSub, Int.reduceMul, Int.reduceNeg, Int.reduceLT, Int.reduceLE, Int.reduceEq, Int.reduceMod, Int.reduceDiv, Int.lt_irrefl, reduceCtorEq, D.frzs_int, D.pures_int, cap_0, cap_1, cap_2, cap_3, cap_4, cap_5, cap_6, cap_7, cap_8, cap_9, cap_10, cap_11, cap_12, cap_13, cap_14, cap_15, cap_16, cap_17, cap_18, cap_19, cap_20, cap_21, cap_22, cap_23, cap_24, cap_25, cap_26, cap_27, cap_28, cap_29, cap_30, cap_31, cap_32, cap_33, cap_34, cap_35, cap_36, cap_37, cap_38, cap_39, cap_40, hj, modD_i h, em, em2, hcap, List.range_succ, List.map_append])
    ((List.range p.toNat).map fun (k : Nat) => 0 + (k : Int)) [some (.int p), some (.int s), some (.int t), some (.vec []), some (.int s), none] ⟨0, by simp, by simpa using hn0, by simp [e1]⟩
  obtain ⟨k, hk⟩ := key
  rw [hk]
  simp -implicitDefEqProofs only [runF, sNx, sSeq, sIf, sRet, sSet, sEx, sBk, sCt, sFgt, fgt, eC, eV, eM, eBin, eUn, aNil, aCons, eTup, eLst, eFn, tB1, tAnd, tOr, tNot, eAnd, eOr, eNot, eIf, eCall, eCallK, pick, eQ, tQ1, qV, qC, qBin, qUn, qB, qAnd, qOr, qNot, qIf, qAndT, qOrT, qNotT, qChain, eChain, eLc, sFor, iSq, iRg1, iRg2, gN, itms, rst, eApp, D.frz, D.frzs, D.pure, D.pures, bind_ok, bind_ex, stmt_ok, stmt_ex, seq_nx, seq_rt, seq_ex, seq_bk, seq_ct, fgt_nx, fgt_bk, fgt_ct, fgt_rt, fgt_ex, out_nx, out_rt, out_ex, opt_some, optL_some, andB_tt, andB_ff, andB_some, orB_tt, orB_ff, orB_some, andX_tt, andX_ff, andX_some, orX_tt, orX_ff, orX_some, itAnd, itOr, itAndX, itOrX, Option.bind_some, List.map_cons, List.map_nil, List.length_cons, List.length_nil, List.cons_append, List.nil_append, List.getElem?_cons_zero, List.getElem?_cons_succ, List.getElem?_nil, List.set_cons_zero, List.set_cons_succ, List.replicate, addI_i, subD_i, ltD_i, leD_i, gtD_i, geD_i, eqS_int, neS_int, eqS_bl, neS_bl, max2_i, min2_i, maxL_i, minL_i, int1_i, intL_i, if_true, if_false, ite_true, ite_false, and_true, true_and, and_self, Bool.and_self, Bool.and_true, Bool.true_and, Bool.and_false, Bool.false_and, Bool.or_true, Bool.true_or, Bool.or_false, Bool.false_or, Bool.not_true, Bool.not_false, Nat.reduceAdd, Nat.reduceSub, Nat.reduceEqDiff, List.filterMap_cons, List.filterMap_nil, decide_true, decide_false, Bool.false_eq_true, reduceIte, Int.reduceAdd, Int.reduceSub, Int.reduceMul, Int.reduceNeg, Int.reduceLT, Int.reduceLE, Int.reduceEq, Int.reduceMod, Int.reduceDiv, Int.lt_irrefl, reduceCtorEq, D.frzs_int, D.pures_int, cap_0, cap_1, cap_2, cap_3, cap_4, cap_5, cap_6, cap_7, cap_8, cap_9, cap_10, cap_11, cap_12, cap_13, cap_14, cap_15, cap_16, cap_17, cap_18, cap_19, cap_20, cap_21, cap_22, cap_23, cap_24, cap_25, cap_26, cap_27, cap_28, cap_29, cap_30, cap_31, cap_32, cap_33, cap_34, cap_35, cap_36, cap_37, cap_38, cap_39, cap_40]
theorem walk0 (s t : Int) : d_law_walk [.int 0, .int s, .int t] = .rt (.vec []) := by
  have hb : bnd 0 = true := bnd_of ⟨by decide, by decide⟩
  simp -implicitDefEqProofs only [d_law_walk, b_d_law_walk, runF, sNx, sSeq, sIf, sRet, sSet, sEx, sBk, sCt, sFgt, fgt, eC, eV, eM, eBin, eUn, aNil, aCons, eTup, eLst, eFn, tB1, tAnd, tOr, tNot, eAnd, eOr, eNot, eIf, eCall, eCallK, pick, eQ, tQ1, qV, qC, qBin, qUn, qB, qAnd, qOr, qNot, qIf, qAndT, qOrT, qNotT, qChain, eChain, eLc, sFor, iSq, iRg1, iRg2, gN, itms, rst, eApp, D.frz, D.frzs, D.pure, D.pures, bind_ok, bind_ex, stmt_ok, stmt_ex, seq_nx, seq_rt, seq_ex, seq_bk, seq_ct, fgt_nx, fgt_bk, fgt_ct, fgt_rt, fgt_ex, out_nx, out_rt, out_ex, opt_some, optL_some, andB_tt, andB_ff, andB_some, orB_tt, orB_ff, orB_some, andX_tt, andX_ff, andX_some, orX_tt, orX_ff, orX_some, itAnd, itOr, itAndX, itOrX, Option.bind_some, List.map_cons, List.map_nil, List.length_cons, List.length_nil, List.cons_append, List.nil_append, List.getElem?_cons_zero, List.getElem?_cons_succ, List.getElem?_nil, List.set_cons_zero, List.set_cons_succ, List.replicate, addI_i, subD_i, ltD_i, leD_i, gtD_i, geD_i, eqS_int, neS_int, eqS_bl, neS_bl, max2_i, min2_i, maxL_i, minL_i, int1_i, intL_i, if_true, if_false, ite_true, ite_false, and_true, true_and, and_self, Bool.and_self, Bool.and_true, Bool.true_and, Bool.and_false, Bool.false_and, Bool.or_true, Bool.true_or, Bool.or_false, Bool.false_or, Bool.not_true, Bool.not_false, Nat.reduceAdd, Nat.reduceSub, Nat.reduceEqDiff, List.filterMap_cons, List.filterMap_nil, decide_true, decide_false, Bool.false_eq_true, reduceIte, Int.reduceAdd, Int.reduceSub, Int.reduceMul, Int.reduceNeg, Int.reduceLT, Int.reduceLE, Int.reduceEq, Int.reduceMod, Int.reduceDiv, Int.lt_irrefl, reduceCtorEq, D.frzs_int, D.pures_int, cap_0, cap_1, cap_2, cap_3, cap_4, cap_5, cap_6, cap_7, cap_8, cap_9, cap_10, cap_11, cap_12, cap_13, cap_14, cap_15, cap_16, cap_17, cap_18, cap_19, cap_20, cap_21, cap_22, cap_23, cap_24, cap_25, cap_26, cap_27, cap_28, cap_29, cap_30, cap_31, cap_32, cap_33, cap_34, cap_35, cap_36, cap_37, cap_38, cap_39, cap_40, hb, rng_eq]
  rfl

theorem emod_near {a p : Int} (h : 0 < p) (h1 : -p ≤ a) (h2 : a < p) : a % p = if 0 ≤ a then a else a + p := by
  split
  · exact Int.emod_eq_of_lt (by assumption) h2
  · have : a % p = (a + p) % p := by simp
    rw [this]
    exact Int.emod_eq_of_lt (by omega) (by omega)
theorem mem_arc {p f l x : Int} (h : 0 < p) (hf : 0 ≤ f ∧ f < p) (hx : 0 ≤ x ∧ x < p) : x ∈ arcM p f l ↔ (x - f - 1) % p < (l - f) % p := by
  unfold arcM
  rw [List.mem_map]
  have h4 : (l - f) % p < p := Int.emod_lt_of_pos _ h
  constructor
  · rintro ⟨j, hj, e⟩
    have hj' := List.mem_range.mp hj
    have : (x - f - 1) % p = (j : Int) := by
      rw [← e, Int.sub_sub, Int.emod_sub_emod, show f + 1 + (j : Int) - (f + 1) = j by omega]
      exact Int.emod_eq_of_lt (by omega) (by omega)
    omega
  · intro q
    have h5 : 0 ≤ (x - f - 1) % p := Int.emod_nonneg _ (by omega)
    refine ⟨((x - f - 1) % p).toNat, List.mem_range.mpr (by omega), ?_⟩
    rw [Int.toNat_of_nonneg h5, Int.add_emod_emod, show f + 1 + (x - f - 1) = x by omega]
    exact Int.emod_eq_of_lt hx.1 hx.2
theorem arc_same {p s x : Int} : x ∉ arcM p s s := by unfold arcM; simp
theorem arc_other {p s k x : Int} (h : 0 < p) (hs : 0 ≤ s ∧ s < p) (hk : 0 ≤ k ∧ k < p) (hx : 0 ≤ x ∧ x < p) (ne : s ≠ k) : x ∈ arcM p k s ↔ x ∉ arcM p s k := by
  rw [mem_arc h hk hx, mem_arc h hs hx, emod_near h (by omega) (by omega), emod_near h (by omega) (by omega), emod_near h (by omega) (by omega), emod_near h (by omega) (by omega)]
  split <;> split <;> split <;> split <;> omega
theorem parts_other {p s k x y : Int} (h : 0 < p) (hs : 0 ≤ s ∧ s < p) (hk : 0 ≤ k ∧ k < p) (hx : 0 ≤ x ∧ x < p) (hy : 0 ≤ y ∧ y < p) :
    (!decide (decide (y ∈ arcM p k s) = decide (x ∈ arcM p k s))) = !decide (decide (x ∈ arcM p s k) = decide (y ∈ arcM p s k)) := by
  by_cases e : s = k
  · subst e; simp [arc_same]
  · rw [Bool.eq_iff_iff]
    simp only [Bool.not_eq_true', decide_eq_false_iff_not, decide_eq_decide, arc_other h hs hk hx e, arc_other h hs hk hy e]
    by_cases h1 : x ∈ arcM p s k <;> by_cases h2 : y ∈ arcM p s k <;> simp [h1, h2]
theorem row0 : d_law_row [.tup [], .lst []] = .rt (.bl true) := row_eq [] (by decide)
theorem rim_eq (p s n : Int) (h0 : 0 ≤ p) (h2 : p ≤ 40) (hs : 0 ≤ s ∧ s < max p 1) (hn : 0 ≤ n ∧ n < max p 1) : d_law_rim [.int p, .int s, .int n] = .rt (.bl true) := by
  have hb : bnd (max p 1) = true := bnd_of ⟨by omega, by omega⟩
  have hb' : bnd p = true := bnd_of ⟨by omega, by omega⟩
  simp -implicitDefEqProofs only [d_law_rim, b_d_law_rim, runF, sNx, sSeq, sIf, sRet, sSet, sEx, sBk, sCt, sFgt, fgt, eC, eV, eM, eBin, eUn, aNil, aCons, eTup, eLst, eFn, tB1, tAnd, tOr, tNot, eAnd, eOr, eNot, eIf, eCall, eCallK, pick, eQ, tQ1, qV, qC, qBin, qUn, qB, qAnd, qOr, qNot, qIf, qAndT, qOrT, qNotT, qChain, eChain, eLc, sFor, iSq, iRg1, iRg2, gN, itms, rst, eApp, D.frz, D.frzs, D.pure, D.pures, bind_ok, bind_ex, stmt_ok, stmt_ex, seq_nx, seq_rt, seq_ex, seq_bk, seq_ct, fgt_nx, fgt_bk, fgt_ct, fgt_rt, fgt_ex, out_nx, out_rt, out_ex, opt_some, optL_some, andB_tt, andB_ff, andB_some, orB_tt, orB_ff, orB_some, andX_tt, andX_ff, andX_some, orX_tt, orX_ff, orX_some, itAnd, itOr, itAndX, itOrX, Option.bind_some, List.map_cons, List.map_nil, List.length_cons, List.length_nil, List.cons_append, List.nil_append, List.getElem?_cons_zero, List.getElem?_cons_succ, List.getElem?_nil, List.set_cons_zero, List.set_cons_succ, List.replicate, addI_i, subD_i, ltD_i, leD_i, gtD_i, geD_i, eqS_int, neS_int, eqS_bl, neS_bl, max2_i, min2_i, maxL_i, minL_i, int1_i, intL_i, if_true, if_false, ite_true, ite_false, and_true, true_and, and_self, Bool.and_self, Bool.and_true, Bool.true_and, Bool.and_false, Bool.false_and, Bool.or_true, Bool.true_or, Bool.or_false, Bool.false_or, Bool.not_true, Bool.not_false, Nat.reduceAdd, Nat.reduceSub, Nat.reduceEqDiff, List.filterMap_cons, List.filterMap_nil, decide_true, decide_false, Bool.false_eq_true, reduceIte, Int.reduceAdd, Int.reduceSub, Int.reduceMul, Int.reduceNeg, Int.reduceLT, Int.reduceLE, Int.reduceEq, Int.reduceMod, Int.reduceDiv, Int.lt_irrefl, reduceCtorEq, D.frzs_int, D.pures_int, cap_0, cap_1, cap_2, cap_3, cap_4, cap_5, cap_6, cap_7, cap_8, cap_9, cap_10, cap_11, cap_12, cap_13, cap_14, cap_15, cap_16, cap_17, cap_18, cap_19, cap_20, cap_21, cap_22, cap_23, cap_24, cap_25, cap_26, cap_27, cap_28, cap_29, cap_30, cap_31, cap_32, cap_33, cap_34, cap_35, cap_36, cap_37, cap_38, cap_39, cap_40, hb, rng_eq]
  rw [loop_same D.int _ _ fun x hx => ⟨_, rfl, by
    obtain ⟨k, hk, rfl⟩ := List.mem_map.mp hx
    have hk' : k < (max p 1).toNat := List.mem_range.mp hk
    by_cases hp : p = 0
    · subst hp
      simp -implicitDefEqProofs only [runF, sNx, sSeq, sIf, sRet, sSet, sEx, sBk, sCt, sFgt, fgt, eC, eV, eM, eBin, eUn, aNil, aCons, eTup, eLst, eFn, tB1, tAnd, tOr, tNot, eAnd, eOr, eNot, eIf, eCall, eCallK, pick, eQ, tQ1, qV, qC, qBin, qUn, qB, qAnd, qOr, qNot, qIf, qAndT, qOrT, qNotT, qChain, eChain, eLc, sFor, iSq, iRg1, iRg2, gN, itms, rst, eApp, D.frz, D.frzs, D.pure, D.pures, bind_ok, bind_ex, stmt_ok, stmt_ex, seq_nx, seq_rt, seq_ex, seq_bk, seq_ct, fgt_nx, fgt_bk, fgt_ct, fgt_rt, fgt_ex, out_nx, out_rt, out_ex, opt_some, optL_some, andB_tt, andB_ff, andB_some, orB_tt, orB_ff, orB_some, andX_tt, andX_ff, andX_some, orX_tt, orX_ff, orX_some, itAnd, itOr, itAndX, itOrX, Option.bind_some, List.map_cons, List.map_nil, List.length_cons, List.length_nil, List.cons_append, List.nil_append, List.getElem?_cons_zero, List.getElem?_cons_succ, List.getElem?_nil, List.set_cons_zero, List.set_cons_succ, List.replicate, addI_i, subD_i, ltD_i, leD_i, gtD_i, geD_i, eqS_int, neS_int, eqS_bl, neS_bl, max2_i, min2_i, maxL_i, minL_i, int1_i, intL_i, if_true, if_false, ite_true, ite_false, and_true, true_and, and_self, Bool.and_self, Bool.and_true, Bool.true_and, Bool.and_false, Bool.false_and, Bool.or_true, Bool.true_or, Bool.or_false, Bool.false_or, Bool.not_true, Bool.not_false, Nat.reduceAdd, Nat.reduceSub, Nat.reduceEqDiff, List.filterMap_cons, List.filterMap_nil, decide_true, decide_false, Bool.false_eq_true, reduceIte, Int.reduceAdd, Int.reduceSub, Int.reduceMul, Int.reduceNeg, Int.reduceLT, Int.reduceLE, Int.reduceEq, Int.reduceMod, Int.reduceDiv, Int.lt_irrefl, reduceCtorEq, D.frzs_int, D.pures_int, cap_0, cap_1, cap_2, cap_3, cap_4, cap_5, cap_6, cap_7, cap_8, cap_9, cap_10, cap_11, cap_12, cap_13, cap_14, cap_15, cap_16, cap_17, cap_18, cap_19, cap_20, cap_21, cap_22, cap_23, cap_24, cap_25, cap_26, cap_27, cap_28, cap_29, cap_30, cap_31, cap_32, cap_33, cap_34, cap_35, cap_36, cap_37, cap_38, cap_39, cap_40, walk0, arc0, row0, hb', rng_eq]
      rfl
    · have r1 := row_eq (arcM p s (0 + (k : Int))) (by rw [arc_len p s _ (by omega)]; have := Int.emod_lt_of_pos (0 + (k : Int) - s) (show 0 < p by omega); omega)
      have r2 := row_eq (arcM p (0 + (k : Int)) s) (by rw [arc_len p _ s (by omega)]; have := Int.emod_lt_of_pos (s - (0 + (k : Int))) (show 0 < p by omega); omega)
      simp -implicitDefEqProofs only [runF, sNx, sSeq, sIf, sRet, sSet, sEx, sBk, sCt, sFgt, fgt, eC, eV, eM, eBin, eUn, aNil, aCons, eTup, eLst, eFn, tB1, tAnd, tOr, tNot, eAnd, eOr, eNot, eIf, eCall, eCallK, pick, eQ, tQ1, qV, qC, qBin, qUn, qB, qAnd, qOr, qNot, qIf, qAndT, qOrT, qNotT, qChain, eChain, eLc, sFor, iSq, iRg1, iRg2, gN, itms, rst, eApp, D.frz, D.frzs, D.pure, D.pures, bind_ok, bind_ex, stmt_ok, stmt_ex, seq_nx, seq_rt, seq_ex, seq_bk, seq_ct, fgt_nx, fgt_bk, fgt_ct, fgt_rt, fgt_ex, out_nx, out_rt, out_ex, opt_some, optL_some, andB_tt, andB_ff, andB_some, orB_tt, orB_ff, orB_some, andX_tt, andX_ff, andX_some, orX_tt, orX_ff, orX_some, itAnd, itOr, itAndX, itOrX, Option.bind_some, List.map_cons, List.map_nil, List.length_cons, List.length_nil, List.cons_append, List.nil_append, List.getElem?_cons_zero, List.getElem?_cons_succ, List.getElem?_nil, List.set_cons_zero, List.set_cons_succ, List.replicate, addI_i, subD_i, ltD_i, leD_i, gtD_i, geD_i, eqS_int, neS_int, eqS_bl, neS_bl, max2_i, min2_i, maxL_i, minL_i, int1_i, intL_i, if_true, if_false, ite_true, ite_false, and_true, true_and, and_self, Bool.and_self, Bool.and_true, Bool.true_and, Bool.and_false, Bool.false_and, Bool.or_true, Bool.true_or, Bool.or_false, Bool.false_or, Bool.not_true, Bool.not_false, Nat.reduceAdd, Nat.reduceSub, Nat.reduceEqDiff, List.filterMap_cons, List.filterMap_nil, decide_true, decide_false, Bool.false_eq_true, reduceIte, Int.reduceAdd, Int.reduceSub, Int.reduceMul, Int.reduceNeg, Int.reduceLT, Int.reduceLE, Int.reduceEq, Int.reduceMod, Int.reduceDiv, Int.lt_irrefl, reduceCtorEq, D.frzs_int, D.pures_int, cap_0, cap_1, cap_2, cap_3, cap_4, cap_5, cap_6, cap_7, cap_8, cap_9, cap_10, cap_11, cap_12, cap_13, cap_14, cap_15, cap_16, cap_17, cap_18, cap_19, cap_20, cap_21, cap_22, cap_23, cap_24, cap_25, cap_26, cap_27, cap_28, cap_29, cap_30, cap_31, cap_32, cap_33, cap_34, cap_35, cap_36, cap_37, cap_38, cap_39, cap_40, walk_eq p s (0 + (k : Int)) (by omega) h2 (by omega) (by omega), walk_eq p (0 + (k : Int)) s (by omega) h2 (by omega) (by omega), arc_eq p s (0 + (k : Int)) (by omega) h2, arc_eq p (0 + (k : Int)) s (by omega) h2, r1, r2, hb', rng_eq]
      rw [loop_same D.int _ _ fun y hy => ⟨_, rfl, by
        obtain ⟨j, hj, rfl⟩ := List.mem_map.mp hy
        have hj' : j < p.toNat := List.mem_range.mp hj
        have po := parts_other (p := p) (s := s) (k := 0 + (k : Int)) (x := n) (y := 0 + (j : Int)) (by omega) (by omega) (by omega) (by omega) (by omega)
        simp -implicitDefEqProofs only [runF, sNx, sSeq, sIf, sRet, sSet, sEx, sBk, sCt, sFgt, fgt, eC, eV, eM, eBin, eUn, aNil, aCons, eTup, eLst, eFn, tB1, tAnd, tOr, tNot, eAnd, eOr, eNot, eIf, eCall, eCallK, pick, eQ, tQ1, qV, qC, qBin, qUn, qB, qAnd, qOr, qNot, qIf, qAndT, qOrT, qNotT, qChain, eChain, eLc, sFor, iSq, iRg1, iRg2, gN, itms, rst, eApp, D.frz, D.frzs, D.pure, D.pures, bind_ok, bind_ex, stmt_ok, stmt_ex, seq_nx, seq_rt, seq_ex, seq_bk, seq_ct, fgt_nx, fgt_bk, fgt_ct, fgt_rt, fgt_ex, out_nx, out_rt, out_ex, opt_some, optL_some, andB_tt, andB_ff, andB_some, orB_tt, orB_ff, orB_some, andX_tt, andX_ff, andX_some, orX_tt, orX_ff, orX_some, itAnd, itOr, itAndX, itOrX, Option.bind_some, List.map_cons, List.map_nil, List.length_cons, List.length_nil, List.cons_append, List.nil_append, List.getElem?_cons_zero, List.getElem?_cons_succ, List.getElem?_nil, List.set_cons_zero, List.set_cons_succ, List.replicate, addI_i, subD_i, ltD_i, leD_i, gtD_i, geD_i, eqS_int, neS_int, eqS_bl, neS_bl, max2_i, min2_i, maxL_i, minL_i, int1_i, intL_i, if_true, if_false, ite_true, ite_false, and_true, true_and, and_self, Bool.and_self, Bool.and_true, Bool.true_and, Bool.and_false, Bool.false_and, Bool.or_true, Bool.true_or, Bool.or_false, Bool.false_or, Bool.not_true, Bool.not_false, Nat.reduceAdd, Nat.reduceSub, Nat.reduceEqDiff, List.filterMap_cons, List.filterMap_nil, decide_true, decide_false, Bool.false_eq_true, reduceIte, Int.reduceAdd, Int.reduceSub, Int.reduceMul, Int.reduceNeg, Int.reduceLT, Int.reduceLE, Int.reduceEq, Int.reduceMod, Int.reduceDiv, Int.lt_irrefl, reduceCtorEq, D.frzs_int, D.pures_int, cap_0, cap_1, cap_2, cap_3, cap_4, cap_5, cap_6, cap_7, cap_8, cap_9, cap_10, cap_11, cap_12, cap_13, cap_14, cap_15, cap_16, cap_17, cap_18, cap_19, cap_20, cap_21, cap_22, cap_23, cap_24, cap_25, cap_26, cap_27, cap_28, cap_29, cap_30, cap_31, cap_32, cap_33, cap_34, cap_35, cap_36, cap_37, cap_38, cap_39, cap_40, inD_ints (show sq (.lst _) = some _ from rfl), parts_eq p _ _ _ _ (show 0 < p by omega) h2, truth_eq, po]⟩]
      simp -implicitDefEqProofs only [runF, sNx, sSeq, sIf, sRet, sSet, sEx, sBk, sCt, sFgt, fgt, eC, eV, eM, eBin, eUn, aNil, aCons, eTup, eLst, eFn, tB1, tAnd, tOr, tNot, eAnd, eOr, eNot, eIf, eCall, eCallK, pick, eQ, tQ1, qV, qC, qBin, qUn, qB, qAnd, qOr, qNot, qIf, qAndT, qOrT, qNotT, qChain, eChain, eLc, sFor, iSq, iRg1, iRg2, gN, itms, rst, eApp, D.frz, D.frzs, D.pure, D.pures, bind_ok, bind_ex, stmt_ok, stmt_ex, seq_nx, seq_rt, seq_ex, seq_bk, seq_ct, fgt_nx, fgt_bk, fgt_ct, fgt_rt, fgt_ex, out_nx, out_rt, out_ex, opt_some, optL_some, andB_tt, andB_ff, andB_some, orB_tt, orB_ff, orB_some, andX_tt, andX_ff, andX_some, orX_tt, orX_ff, orX_some, itAnd, itOr, itAndX, itOrX, Option.bind_some, List.map_cons, List.map_nil, List.length_cons, List.length_nil, List.cons_append, List.nil_append, List.getElem?_cons_zero, List.getElem?_cons_succ, List.getElem?_nil, List.set_cons_zero, List.set_cons_succ, List.replicate, addI_i, subD_i, ltD_i, leD_i, gtD_i, geD_i, eqS_int, neS_int, eqS_bl, neS_bl, max2_i, min2_i, maxL_i, minL_i, int1_i, intL_i, if_true, if_false, ite_true, ite_false, and_true, true_and, and_self, Bool.and_self, Bool.and_true, Bool.true_and, Bool.and_false, Bool.false_and, Bool.or_true, Bool.true_or, Bool.or_false, Bool.false_or, Bool.not_true, Bool.not_false, Nat.reduceAdd, Nat.reduceSub, Nat.reduceEqDiff, List.filterMap_cons, List.filterMap_nil, decide_true, decide_false, Bool.false_eq_true, reduceIte, Int.reduceAdd, Int.reduceSub, Int.reduceMul, Int.reduceNeg, Int.reduceLT, Int.reduceLE, Int.reduceEq, Int.reduceMod, Int.reduceDiv, Int.lt_irrefl, reduceCtorEq, D.frzs_int, D.pures_int, cap_0, cap_1, cap_2, cap_3, cap_4, cap_5, cap_6, cap_7, cap_8, cap_9, cap_10, cap_11, cap_12, cap_13, cap_14, cap_15, cap_16, cap_17, cap_18, cap_19, cap_20, cap_21, cap_22, cap_23, cap_24, cap_25, cap_26, cap_27, cap_28, cap_29, cap_30, cap_31, cap_32, cap_33, cap_34, cap_35, cap_36, cap_37, cap_38, cap_39, cap_40]⟩]
  simp -implicitDefEqProofs only [runF, sNx, sSeq, sIf, sRet, sSet, sEx, sBk, sCt, sFgt, fgt, eC, eV, eM, eBin, eUn, aNil, aCons, eTup, eLst, eFn, tB1, tAnd, tOr, tNot, eAnd, eOr, eNot, eIf, eCall, eCallK, pick, eQ, tQ1, qV, qC, qBin, qUn, qB, qAnd, qOr, qNot, qIf, qAndT, qOrT, qNotT, qChain, eChain, eLc, sFor, iSq, iRg1, iRg2, gN, itms, rst, eApp, D.frz, D.frzs, D.pure, D.pures, bind_ok, bind_ex, stmt_ok, stmt_ex, seq_nx, seq_rt, seq_ex, seq_bk, seq_ct, fgt_nx, fgt_bk, fgt_ct, fgt_rt, fgt_ex, out_nx, out_rt, out_ex, opt_some, optL_some, andB_tt, andB_ff, andB_some, orB_tt, orB_ff, orB_some, andX_tt, andX_ff, andX_some, orX_tt, orX_ff, orX_some, itAnd, itOr, itAndX, itOrX, Option.bind_some, List.map_cons, List.map_nil, List.length_cons, List.length_nil, List.cons_append, List.nil_append, List.getElem?_cons_zero, List.getElem?_cons_succ, List.getElem?_nil, List.set_cons_zero, List.set_cons_succ, List.replicate, addI_i, subD_i, ltD_i, leD_i, gtD_i, geD_i, eqS_int, neS_int, eqS_bl, neS_bl, max2_i, min2_i, maxL_i, minL_i, int1_i, intL_i, if_true, if_false, ite_true, ite_false, and_true, true_and, and_self, Bool.and_self, Bool.and_true, Bool.true_and, Bool.and_false, Bool.false_and, Bool.or_true, Bool.true_or, Bool.or_false, Bool.false_or, Bool.not_true, Bool.not_false, Nat.reduceAdd, Nat.reduceSub, Nat.reduceEqDiff, List.filterMap_cons, List.filterMap_nil, decide_true, decide_false, Bool.false_eq_true, reduceIte, Int.reduceAdd, Int.reduceSub, Int.reduceMul, Int.reduceNeg, Int.reduceLT, Int.reduceLE, Int.reduceEq, Int.reduceMod, Int.reduceDiv, Int.lt_irrefl, reduceCtorEq, D.frzs_int, D.pures_int, cap_0, cap_1, cap_2, cap_3, cap_4, cap_5, cap_6, cap_7, cap_8, cap_9, cap_10, cap_11, cap_12, cap_13, cap_14, cap_15, cap_16, cap_17, cap_18, cap_19, cap_20, cap_21, cap_22, cap_23, cap_24, cap_25, cap_26, cap_27, cap_28, cap_29, cap_30, cap_31, cap_32, cap_33, cap_34, cap_35, cap_36, cap_37, cap_38, cap_39, cap_40]
theorem law_runs (ns : List Int) (hl : ns.length ≤ 63) : d_law [.lst (ns.map .int)] = .rt (.bl true) := by
  obtain ⟨c0, h0⟩ := cell_eq ns 0 (by decide) (by decide) hl
  obtain ⟨c1, h1⟩ := cell_eq ns 1 (by decide) (by decide) hl
  obtain ⟨c2, h2⟩ := cell_eq ns 2 (by decide) (by decide) hl
  obtain ⟨c3, h3⟩ := cell_eq ns 3 (by decide) (by decide) hl
  obtain ⟨c4, h4⟩ := cell_eq ns 4 (by decide) (by decide) hl
  obtain ⟨c5, h5⟩ := cell_eq ns 5 (by decide) (by decide) hl
  obtain ⟨c6, h6⟩ := cell_eq ns 6 (by decide) (by decide) hl
  obtain ⟨c7, h7⟩ := cell_eq ns 7 (by decide) (by decide) hl
  have m13 := fun i => modD_i (i := i) (show (0 : Int) < 13 by decide)
  have m8 := fun i => modD_i (i := i) (show (0 : Int) < 8 by decide)
  have m40 := fun i => modD_i (i := i) (show (0 : Int) < 40 by decide)
  have m41 := fun i => modD_i (i := i) (show (0 : Int) < 41 by decide)
  have hb : bnd 41 = true := bnd_of ⟨by decide, by decide⟩
  have hb2 : bnd 40 = true := bnd_of ⟨by decide, by decide⟩
  -- the rim
  obtain ⟨p, hp0, hp1, hp⟩ : ∃ p : Int, 0 ≤ p ∧ p ≤ 40 ∧ (if decide (c1 % 8 = 1) = true then c0 % 41 else c0 % 13) = p := ⟨_, by split <;> omega, by split <;> omega, rfl⟩
  have mp := fun i => modD_i (i := i) (show 0 < max p 1 by omega)
  have hj : ∀ {a b : Int} {c : Bool} {r : List (Option D)}, (if c = true then RS.nx (some (.lst (ns.map D.int)) :: some (.int a) :: r) else RS.nx (some (.lst (ns.map D.int)) :: some (.int b) :: r)) = RS.nx (some (.lst (ns.map D.int)) :: some (.int (if c = true then a else b)) :: r) := by
    intro a b c r; cases c <;> rfl
  simp -implicitDefEqProofs only [d_law, b_d_law, runF, sNx, sSeq, sIf, sRet, sSet, sEx, sBk, sCt, sFgt, fgt, eC, eV, eM, eBin, eUn, aNil, aCons, eTup, eLst, eFn, tB1, tAnd, tOr, tNot, eAnd, eOr, eNot, eIf, eCall, eCallK, pick, eQ, tQ1, qV, qC, qBin, qUn, qB, qAnd, qOr, qNot, qIf, qAndT, qOrT, qNotT, qChain, eChain, eLc, sFor, iSq, iRg1, iRg2, gN, itms, rst, eApp, D.frz, D.frzs, D.pure, D.pures, bind_ok, bind_ex, stmt_ok, stmt_ex, seq_nx, seq_rt, seq_ex, seq_bk, seq_ct, fgt_nx, fgt_bk, fgt_ct, fgt_rt, fgt_ex, out_nx, out_rt, out_ex, opt_some, optL_some, andB_tt, andB_ff, andB_some, orB_tt, orB_ff, orB_some, andX_tt, andX_ff, andX_some, orX_tt, orX_ff, orX_some, itAnd, itOr, itAndX, itOrX, Option.bind_some, List.map_cons, List.map_nil, List.length_cons, List.length_nil, List.cons_append, List.nil_append, List.getElem?_cons_zero, List.getElem?_cons_succ, List.getElem?_nil, List.set_cons_zero, List.set_cons_succ, List.replicate, addI_i, subD_i, ltD_i, leD_i, gtD_i, geD_i, eqS_int, neS_int, eqS_bl, neS_bl, max2_i, min2_i, maxL_i, minL_i, int1_i, intL_i, if_true, if_false, ite_true, ite_false, and_true, true_and, and_self, Bool.and_self, Bool.and_true, Bool.true_and, Bool.and_false, Bool.false_and, Bool.or_true, Bool.true_or, Bool.or_false, Bool.false_or, Bool.not_true, Bool.not_false, Nat.reduceAdd, Nat.reduceSub, Nat.reduceEqDiff, List.filterMap_cons, List.filterMap_nil, decide_true, decide_false, Bool.false_eq_true, reduceIte, Int.reduceAdd, Int.reduceSub, Int.reduceMul, Int.reduceNeg, Int.reduceLT, Int.reduceLE, Int.reduceEq, Int.reduceMod, Int.reduceDiv, Int.lt_irrefl, reduceCtorEq, D.frzs_int, D.pures_int, cap_0, cap_1, cap_2, cap_3, cap_4, cap_5, cap_6, cap_7, cap_8, cap_9, cap_10, cap_11, cap_12, cap_13, cap_14, cap_15, cap_16, cap_17, cap_18, cap_19, cap_20, cap_21, cap_22, cap_23, cap_24, cap_25, cap_26, cap_27, cap_28, cap_29, cap_30, cap_31, cap_32, cap_33, cap_34, cap_35, cap_36, cap_37, cap_38, cap_39, cap_40, h0, h1, h2, h3, h4, h5, h6, h7, m13, m8, m40, m41, hj, hp, mp, hb, rng_eq]
  rw [loop_same D.int _ _ fun x hx => ⟨_, rfl, by simp -implicitDefEqProofs only [runF, sNx, sSeq, sIf, sRet, sSet, sEx, sBk, sCt, sFgt, fgt, eC, eV, eM, eBin, eUn, aNil, aCons, eTup, eLst, eFn, tB1, tAnd, tOr, tNot, eAnd, eOr, eNot, eIf, eCall, eCallK, pick, eQ, tQ1, qV, qC, qBin, qUn, qB, qAnd, qOr, qNot, qIf, qAndT, qOrT, qNotT, qChain, eChain, eLc, sFor, iSq, iRg1, iRg2, gN, itms, rst, eApp, D.frz, D.frzs, D.pure, D.pures, bind_ok, bind_ex, stmt_ok, stmt_ex, seq_nx, seq_rt, seq_ex, seq_bk, seq_ct, fgt_nx, fgt_bk, fgt_ct, fgt_rt, fgt_ex, out_nx, out_rt, out_ex, opt_some, optL_some, andB_tt, andB_ff, andB_some, orB_tt, orB_ff, orB_some, andX_tt, andX_ff, andX_some, orX_tt, orX_ff, orX_some, itAnd, itOr, itAndX, itOrX, Option.bind_some, List.map_cons, List.map_nil, List.length_cons, List.length_nil, List.cons_append, List.nil_append, List.getElem?_cons_zero, List.getElem?_cons_succ, List.getElem?_nil, List.set_cons_zero, List.set_cons_succ, List.replicate, addI_i, subD_i, ltD_i, leD_i, gtD_i, geD_i, eqS_int, neS_int, eqS_bl, neS_bl, max2_i, min2_i, maxL_i, minL_i, int1_i, intL_i, if_true, if_false, ite_true, ite_false, and_true, true_and, and_self, Bool.and_self, Bool.and_true, Bool.true_and, Bool.and_false, Bool.false_and, Bool.or_true, Bool.true_or, Bool.or_false, Bool.false_or, Bool.not_true, Bool.not_false, Nat.reduceAdd, Nat.reduceSub, Nat.reduceEqDiff, List.filterMap_cons, List.filterMap_nil, decide_true, decide_false, Bool.false_eq_true, reduceIte, Int.reduceAdd, Int.reduceSub, Int.reduceMul, Int.reduceNeg, Int.reduceLT, Int.reduceLE, Int.reduceEq, Int.reduceMod, Int.reduceDiv, Int.lt_irrefl, reduceCtorEq, D.frzs_int, D.pures_int, cap_0, cap_1, cap_2, cap_3, cap_4, cap_5, cap_6, cap_7, cap_8, cap_9, cap_10, cap_11, cap_12, cap_13, cap_14, cap_15, cap_16, cap_17, cap_18, cap_19, cap_20, cap_21, cap_22, cap_23, cap_24, cap_25, cap_26, cap_27, cap_28, cap_29, cap_30, cap_31, cap_32, cap_33, cap_34, cap_35, cap_36, cap_37, cap_38, cap_39, cap_40, gaps_eq, whole_int]⟩]
  simp -implicitDefEqProofs only [runF, sNx, sSeq, sIf, sRet, sSet, sEx, sBk, sCt, sFgt, fgt, eC, eV, eM, eBin, eUn, aNil, aCons, eTup, eLst, eFn, tB1, tAnd, tOr, tNot, eAnd, eOr, eNot, eIf, eCall, eCallK, pick, eQ, tQ1, qV, qC, qBin, qUn, qB, qAnd, qOr, qNot, qIf, qAndT, qOrT, qNotT, qChain, eChain, eLc, sFor, iSq, iRg1, iRg2, gN, itms, rst, eApp, D.frz, D.frzs, D.pure, D.pures, bind_ok, bind_ex, stmt_ok, stmt_ex, seq_nx, seq_rt, seq_ex, seq_bk, seq_ct, fgt_nx, fgt_bk, fgt_ct, fgt_rt, fgt_ex, out_nx, out_rt, out_ex, opt_some, optL_some, andB_tt, andB_ff, andB_some, orB_tt, orB_ff, orB_some, andX_tt, andX_ff, andX_some, orX_tt, orX_ff, orX_some, itAnd, itOr, itAndX, itOrX, Option.bind_some, List.map_cons, List.map_nil, List.length_cons, List.length_nil, List.cons_append, List.nil_append, List.getElem?_cons_zero, List.getElem?_cons_succ, List.getElem?_nil, List.set_cons_zero, List.set_cons_succ, List.replicate, addI_i, subD_i, ltD_i, leD_i, gtD_i, geD_i, eqS_int, neS_int, eqS_bl, neS_bl, max2_i, min2_i, maxL_i, minL_i, int1_i, intL_i, if_true, if_false, ite_true, ite_false, and_true, true_and, and_self, Bool.and_self, Bool.and_true, Bool.true_and, Bool.and_false, Bool.false_and, Bool.or_true, Bool.true_or, Bool.or_false, Bool.false_or, Bool.not_true, Bool.not_false, Nat.reduceAdd, Nat.reduceSub, Nat.reduceEqDiff, List.filterMap_cons, List.filterMap_nil, decide_true, decide_false, Bool.false_eq_true, reduceIte, Int.reduceAdd, Int.reduceSub, Int.reduceMul, Int.reduceNeg, Int.reduceLT, Int.reduceLE, Int.reduceEq, Int.reduceMod, Int.reduceDiv, Int.lt_irrefl, reduceCtorEq, D.frzs_int, D.pures_int, cap_0, cap_1, cap_2, cap_3, cap_4, cap_5, cap_6, cap_7, cap_8, cap_9, cap_10, cap_11, cap_12, cap_13, cap_14, cap_15, cap_16, cap_17, cap_18, cap_19, cap_20, cap_21, cap_22, cap_23, cap_24, cap_25, cap_26, cap_27, cap_28, cap_29, cap_30, cap_31, cap_32, cap_33, cap_34, cap_35, cap_36, cap_37, cap_38, cap_39, cap_40, rim_eq p (c2 % max p 1) (c3 % max p 1) hp0 hp1 ⟨Int.emod_nonneg _ (by omega), Int.emod_lt_of_pos _ (by omega)⟩ ⟨Int.emod_nonneg _ (by omega), Int.emod_lt_of_pos _ (by omega)⟩, h5, h6, h7, m40, hb2, rng_eq]
  rw [loop_same D.int _ _ fun x hx => ⟨_, rfl, by simp -implicitDefEqProofs only [runF, sNx, sSeq, sIf, sRet, sSet, sEx, sBk, sCt, sFgt, fgt, eC, eV, eM, eBin, eUn, aNil, aCons, eTup, eLst, eFn, tB1, tAnd, tOr, tNot, eAnd, eOr, eNot, eIf, eCall, eCallK, pick, eQ, tQ1, qV, qC, qBin, qUn, qB, qAnd, qOr, qNot, qIf, qAndT, qOrT, qNotT, qChain, eChain, eLc, sFor, iSq, iRg1, iRg2, gN, itms, rst, eApp, D.frz, D.frzs, D.pure, D.pures, bind_ok, bind_ex, stmt_ok, stmt_ex, seq_nx, seq_rt, seq_ex, seq_bk, seq_ct, fgt_nx, fgt_bk, fgt_ct, fgt_rt, fgt_ex, out_nx, out_rt, out_ex, opt_some, optL_some, andB_tt, andB_ff, andB_some, orB_tt, orB_ff, orB_some, andX_tt, andX_ff, andX_some, orX_tt, orX_ff, orX_some, itAnd, itOr, itAndX, itOrX, Option.bind_some, List.map_cons, List.map_nil, List.length_cons, List.length_nil, List.cons_append, List.nil_append, List.getElem?_cons_zero, List.getElem?_cons_succ, List.getElem?_nil, List.set_cons_zero, List.set_cons_succ, List.replicate, addI_i, subD_i, ltD_i, leD_i, gtD_i, geD_i, eqS_int, neS_int, eqS_bl, neS_bl, max2_i, min2_i, maxL_i, minL_i, int1_i, intL_i, if_true, if_false, ite_true, ite_false, and_true, true_and, and_self, Bool.and_self, Bool.and_true, Bool.true_and, Bool.and_false, Bool.false_and, Bool.or_true, Bool.true_or, Bool.or_false, Bool.false_or, Bool.not_true, Bool.not_false, Nat.reduceAdd, Nat.reduceSub, Nat.reduceEqDiff, List.filterMap_cons, List.filterMap_nil, decide_true, decide_false, Bool.false_eq_true, reduceIte, Int.reduceAdd, Int.reduceSub, Int.reduceMul, Int.reduceNeg, Int.reduceLT, Int.reduceLE, Int.reduceEq, Int.reduceMod, Int.reduceDiv, Int.lt_irrefl, reduceCtorEq, D.frzs_int, D.pures_int, cap_0, cap_1, cap_2, cap_3, cap_4, cap_5, cap_6, cap_7, cap_8, cap_9, cap_10, cap_11, cap_12, cap_13, cap_14, cap_15, cap_16, cap_17, cap_18, cap_19, cap_20, cap_21, cap_22, cap_23, cap_24, cap_25, cap_26, cap_27, cap_28, cap_29, cap_30, cap_31, cap_32, cap_33, cap_34, cap_35, cap_36, cap_37, cap_38, cap_39, cap_40, four_eq]⟩]
  by_cases hz : p = 0
  · subst hz
    have z2 : c2 % max (0 : Int) 1 = 0 := by rw [show max (0 : Int) 1 = 1 from rfl]; omega
    have z3 : c3 % max (0 : Int) 1 = 0 := by rw [show max (0 : Int) 1 = 1 from rfl]; omega
    have z4 : c4 % max (0 : Int) 1 = 0 := by rw [show max (0 : Int) 1 = 1 from rfl]; omega
    simp -implicitDefEqProofs only [runF, sNx, sSeq, sIf, sRet, sSet, sEx, sBk, sCt, sFgt, fgt, eC, eV, eM, eBin, eUn, aNil, aCons, eTup, eLst, eFn, tB1, tAnd, tOr, tNot, eAnd, eOr, eNot, eIf, eCall, eCallK, pick, eQ, tQ1, qV, qC, qBin, qUn, qB, qAnd, qOr, qNot, qIf, qAndT, qOrT, qNotT, qChain, eChain, eLc, sFor, iSq, iRg1, iRg2, gN, itms, rst, eApp, D.frz, D.frzs, D.pure, D.pures, bind_ok, bind_ex, stmt_ok, stmt_ex, seq_nx, seq_rt, seq_ex, seq_bk, seq_ct, fgt_nx, fgt_bk, fgt_ct, fgt_rt, fgt_ex, out_nx, out_rt, out_ex, opt_some, optL_some, andB_tt, andB_ff, andB_some, orB_tt, orB_ff, orB_some, andX_tt, andX_ff, andX_some, orX_tt, orX_ff, orX_some, itAnd, itOr, itAndX, itOrX, Option.bind_some, List.map_cons, List.map_nil, List.length_cons, List.length_nil, List.cons_append, List.nil_append, List.getElem?_cons_zero, List.getElem?_cons_succ, List.getElem?_nil, List.set_cons_zero, List.set_cons_succ, List.replicate, addI_i, subD_i, ltD_i, leD_i, gtD_i, geD_i, eqS_int, neS_int, eqS_bl, neS_bl, max2_i, min2_i, maxL_i, minL_i, int1_i, intL_i, if_true, if_false, ite_true, ite_false, and_true, true_and, and_self, Bool.and_self, Bool.and_true, Bool.true_and, Bool.and_false, Bool.false_and, Bool.or_true, Bool.true_or, Bool.or_false, Bool.false_or, Bool.not_true, Bool.not_false, Nat.reduceAdd, Nat.reduceSub, Nat.reduceEqDiff, List.filterMap_cons, List.filterMap_nil, decide_true, decide_false, Bool.false_eq_true, reduceIte, Int.reduceAdd, Int.reduceSub, Int.reduceMul, Int.reduceNeg, Int.reduceLT, Int.reduceLE, Int.reduceEq, Int.reduceMod, Int.reduceDiv, Int.lt_irrefl, reduceCtorEq, D.frzs_int, D.pures_int, cap_0, cap_1, cap_2, cap_3, cap_4, cap_5, cap_6, cap_7, cap_8, cap_9, cap_10, cap_11, cap_12, cap_13, cap_14, cap_15, cap_16, cap_17, cap_18, cap_19, cap_20, cap_21, cap_22, cap_23, cap_24, cap_25, cap_26, cap_27, cap_28, cap_29, cap_30, cap_31, cap_32, cap_33, cap_34, cap_35, cap_36, cap_37, cap_38, cap_39, cap_40, gaps_eq, whole_int, walk0, z2, z3, z4, crosses_eq, apart_eq, truth_eq, arc0, row0]
  · have q2 : 0 ≤ c2 % max p 1 ∧ c2 % max p 1 < p := ⟨Int.emod_nonneg _ (by omega), by have := Int.emod_lt_of_pos c2 (show 0 < max p 1 by omega); omega⟩
    have q4 : 0 ≤ c4 % max p 1 ∧ c4 % max p 1 < p := ⟨Int.emod_nonneg _ (by omega), by have := Int.emod_lt_of_pos c4 (show 0 < max p 1 by omega); omega⟩
    have hgt : (0 : Int) < p := by omega
    have r1 := row_eq (arcM p (c2 % max p 1) (c4 % max p 1)) (by rw [arc_len p _ _ hgt]; have := Int.emod_lt_of_pos (c4 % max p 1 - c2 % max p 1) hgt; omega)
    have mpp := fun i => modD_i (i := i) hgt
    simp -implicitDefEqProofs only [runF, sNx, sSeq, sIf, sRet, sSet, sEx, sBk, sCt, sFgt, fgt, eC, eV, eM, eBin, eUn, aNil, aCons, eTup, eLst, eFn, tB1, tAnd, tOr, tNot, eAnd, eOr, eNot, eIf, eCall, eCallK, pick, eQ, tQ1, qV, qC, qBin, qUn, qB, qAnd, qOr, qNot, qIf, qAndT, qOrT, qNotT, qChain, eChain, eLc, sFor, iSq, iRg1, iRg2, gN, itms, rst, eApp, D.frz, D.frzs, D.pure, D.pures, bind_ok, bind_ex, stmt_ok, stmt_ex, seq_nx, seq_rt, seq_ex, seq_bk, seq_ct, fgt_nx, fgt_bk, fgt_ct, fgt_rt, fgt_ex, out_nx, out_rt, out_ex, opt_some, optL_some, andB_tt, andB_ff, andB_some, orB_tt, orB_ff, orB_some, andX_tt, andX_ff, andX_some, orX_tt, orX_ff, orX_some, itAnd, itOr, itAndX, itOrX, Option.bind_some, List.map_cons, List.map_nil, List.length_cons, List.length_nil, List.cons_append, List.nil_append, List.getElem?_cons_zero, List.getElem?_cons_succ, List.getElem?_nil, List.set_cons_zero, List.set_cons_succ, List.replicate, addI_i, subD_i, ltD_i, leD_i, gtD_i, geD_i, eqS_int, neS_int, eqS_bl, neS_bl, max2_i, min2_i, maxL_i, minL_i, int1_i, intL_i, if_true, if_false, ite_true, ite_false, and_true, true_and, and_self, Bool.and_self, Bool.and_true, Bool.true_and, Bool.and_false, Bool.false_and, Bool.or_true, Bool.true_or, Bool.or_false, Bool.false_or, Bool.not_true, Bool.not_false, Nat.reduceAdd, Nat.reduceSub, Nat.reduceEqDiff, List.filterMap_cons, List.filterMap_nil, decide_true, decide_false, Bool.false_eq_true, reduceIte, Int.reduceAdd, Int.reduceSub, Int.reduceMul, Int.reduceNeg, Int.reduceLT, Int.reduceLE, Int.reduceEq, Int.reduceMod, Int.reduceDiv, Int.lt_irrefl, reduceCtorEq, D.frzs_int, D.pures_int, cap_0, cap_1, cap_2, cap_3, cap_4, cap_5, cap_6, cap_7, cap_8, cap_9, cap_10, cap_11, cap_12, cap_13, cap_14, cap_15, cap_16, cap_17, cap_18, cap_19, cap_20, cap_21, cap_22, cap_23, cap_24, cap_25, cap_26, cap_27, cap_28, cap_29, cap_30, cap_31, cap_32, cap_33, cap_34, cap_35, cap_36, cap_37, cap_38, cap_39, cap_40, gaps_eq, whole_int, walk_eq p _ _ hgt hp1 q2 q4, hgt, mpp, inD_ints (show sq (.vec _) = some _ from rfl), inD_ints (show sq (.lst _) = some _ from rfl), parts_eq p _ _ _ _ hgt hp1, crosses_eq, apart_eq, truth_eq, arc_eq p _ _ hgt hp1, r1]
end Math

namespace Prg
open PySem L2 FL
open PyProof.Rows (envOfC)
theorem all_mk {l : PySem.W.OpenLaw} {w : World} {K : PySem.W.Frag} {h : Heap} {mg : Str → Option Value} {fa f0 f1 f2 f3 f4 f5 f6 f7 f8 f9 f10 f11 f12 : Addr} (X : K.In h) (G : h.Ns mainGlobals mg) (hfa : mg "law" = some (.ref fa))
    {od0 an0 od1 an1 od2 an2 od3 an3 od4 an4 od5 an5 od6 an6 od7 an7 od8 an8 od9 an9 od10 an10 od11 an11 od12 an12 : Option Addr} {sl0 sl1 sl2 sl3 sl4 sl5 sl6 sl7 sl8 sl9 sl10 sl11 sl12 : Array (Option Value)} {oc0 kV0 dc0 pm0 cd0 ct0 oc1 kV1 dc1 pm1 cd1 ct1 oc2 kV2 dc2 pm2 cd2 ct2 oc3 kV3 dc3 pm3 cd3 ct3 oc4 kV4 dc4 pm4 cd4 ct4 oc5 kV5 dc5 pm5 cd5 ct5 oc6 kV6 dc6 pm6 cd6 ct6 oc7 kV7 dc7 pm7 cd7 ct7 oc8 kV8 dc8 pm8 cd8 ct8 oc9 kV9 dc9 pm9 cd9 ct9 oc10 kV10 dc10 pm10 cd10 ct10 oc11 kV11 dc11 pm11 cd11 ct11 oc12 kV12 dc12 pm12 cd12 ct12 : Value}
    (a0 : PySem.W.nsIn K mainGlobals "gaps" = some (some (.ref f0)))
    (l0 : K.lookup f0 = some ⟨oc0, od0, .func (PySem.W.fnOf "gaps" "gaps" (defArgs s_d_gaps) (defBody s_d_gaps) (defScope s_d_gaps) .none kV0 dc0 pm0 an0 cd0 ct0), sl0⟩)
    (c0 : PySem.W.codeIn K cd0 "gaps" = true)
    (k0 : PySem.W.keepIn K (.ref f0) = true)
    (a1 : PySem.W.nsIn K mainGlobals "arc" = some (some (.ref f1)))
    (l1 : K.lookup f1 = some ⟨oc1, od1, .func (PySem.W.fnOf "arc" "arc" (defArgs s_d_arc) (defBody s_d_arc) (defScope s_d_arc) .none kV1 dc1 pm1 an1 cd1 ct1), sl1⟩)
    (c1 : PySem.W.codeIn K cd1 "arc" = true)
    (k1 : PySem.W.keepIn K (.ref f1) = true)
    (a2 : PySem.W.nsIn K mainGlobals "parts" = some (some (.ref f2)))
    (l2 : K.lookup f2 = some ⟨oc2, od2, .func (PySem.W.fnOf "parts" "parts" (defArgs s_d_parts) (defBody s_d_parts) (defScope s_d_parts) .none kV2 dc2 pm2 an2 cd2 ct2), sl2⟩)
    (c2 : PySem.W.codeIn K cd2 "parts" = true)
    (k2 : PySem.W.keepIn K (.ref f2) = true)
    (a3 : PySem.W.nsIn K mainGlobals "crosses" = some (some (.ref f3)))
    (l3 : K.lookup f3 = some ⟨oc3, od3, .func (PySem.W.fnOf "crosses" "crosses" (defArgs s_d_crosses) (defBody s_d_crosses) (defScope s_d_crosses) .none kV3 dc3 pm3 an3 cd3 ct3), sl3⟩)
    (c3 : PySem.W.codeIn K cd3 "crosses" = true)
    (k3 : PySem.W.keepIn K (.ref f3) = true)
    (a4 : PySem.W.nsIn K mainGlobals "_law_whole" = some (some (.ref f4)))
    (l4 : K.lookup f4 = some ⟨oc4, od4, .func (PySem.W.fnOf "_law_whole" "_law_whole" (defArgs s_d_law_whole) (defBody s_d_law_whole) (defScope s_d_law_whole) .none kV4 dc4 pm4 an4 cd4 ct4), sl4⟩)
    (c4 : PySem.W.codeIn K cd4 "_law_whole" = true)
    (k4 : PySem.W.keepIn K (.ref f4) = true)
    (a5 : PySem.W.nsIn K mainGlobals "_law_cell" = some (some (.ref f5)))
    (l5 : K.lookup f5 = some ⟨oc5, od5, .func (PySem.W.fnOf "_law_cell" "_law_cell" (defArgs s_d_law_cell) (defBody s_d_law_cell) (defScope s_d_law_cell) .none kV5 dc5 pm5 an5 cd5 ct5), sl5⟩)
    (c5 : PySem.W.codeIn K cd5 "_law_cell" = true)
    (k5 : PySem.W.keepIn K (.ref f5) = true)
    (a6 : PySem.W.nsIn K mainGlobals "_law_truth" = some (some (.ref f6)))
    (l6 : K.lookup f6 = some ⟨oc6, od6, .func (PySem.W.fnOf "_law_truth" "_law_truth" (defArgs s_d_law_truth) (defBody s_d_law_truth) (defScope s_d_law_truth) .none kV6 dc6 pm6 an6 cd6 ct6), sl6⟩)
    (c6 : PySem.W.codeIn K cd6 "_law_truth" = true)
    (k6 : PySem.W.keepIn K (.ref f6) = true)
    (a7 : PySem.W.nsIn K mainGlobals "_law_row" = some (some (.ref f7)))
    (l7 : K.lookup f7 = some ⟨oc7, od7, .func (PySem.W.fnOf "_law_row" "_law_row" (defArgs s_d_law_row) (defBody s_d_law_row) (defScope s_d_law_row) .none kV7 dc7 pm7 an7 cd7 ct7), sl7⟩)
    (c7 : PySem.W.codeIn K cd7 "_law_row" = true)
    (k7 : PySem.W.keepIn K (.ref f7) = true)
    (a8 : PySem.W.nsIn K mainGlobals "_law_walk" = some (some (.ref f8)))
    (l8 : K.lookup f8 = some ⟨oc8, od8, .func (PySem.W.fnOf "_law_walk" "_law_walk" (defArgs s_d_law_walk) (defBody s_d_law_walk) (defScope s_d_law_walk) .none kV8 dc8 pm8 an8 cd8 ct8), sl8⟩)
    (c8 : PySem.W.codeIn K cd8 "_law_walk" = true)
    (k8 : PySem.W.keepIn K (.ref f8) = true)
    (a9 : PySem.W.nsIn K mainGlobals "_law_apart" = some (some (.ref f9)))
    (l9 : K.lookup f9 = some ⟨oc9, od9, .func (PySem.W.fnOf "_law_apart" "_law_apart" (defArgs s_d_law_apart) (defBody s_d_law_apart) (defScope s_d_law_apart) .none kV9 dc9 pm9 an9 cd9 ct9), sl9⟩)
    (c9 : PySem.W.codeIn K cd9 "_law_apart" = true)
    (k9 : PySem.W.keepIn K (.ref f9) = true)
    (a10 : PySem.W.nsIn K mainGlobals "_law_rim" = some (some (.ref f10)))
    (l10 : K.lookup f10 = some ⟨oc10, od10, .func (PySem.W.fnOf "_law_rim" "_law_rim" (defArgs s_d_law_rim) (defBody s_d_law_rim) (defScope s_d_law_rim) .none kV10 dc10 pm10 an10 cd10 ct10), sl10⟩)
    (c10 : PySem.W.codeIn K cd10 "_law_rim" = true)
    (k10 : PySem.W.keepIn K (.ref f10) = true)
    (a11 : PySem.W.nsIn K mainGlobals "_law_four" = some (some (.ref f11)))
    (l11 : K.lookup f11 = some ⟨oc11, od11, .func (PySem.W.fnOf "_law_four" "_law_four" (defArgs s_d_law_four) (defBody s_d_law_four) (defScope s_d_law_four) .none kV11 dc11 pm11 an11 cd11 ct11), sl11⟩)
    (c11 : PySem.W.codeIn K cd11 "_law_four" = true)
    (k11 : PySem.W.keepIn K (.ref f11) = true)
    (a12 : PySem.W.nsIn K mainGlobals "law" = some (some (.ref f12)))
    (l12 : K.lookup f12 = some ⟨oc12, od12, .func (PySem.W.fnOf "law" "law" (defArgs s_d_law) (defBody s_d_law) (defScope s_d_law) .none kV12 dc12 pm12 an12 cd12 ct12), sl12⟩)
    (c12 : PySem.W.codeIn K cd12 "law" = true)
    (k12 : PySem.W.keepIn K (.ref f12) = true)
    (z_bool : PySem.W.nsIn K mainGlobals "bool" = some none)
    (z_int : PySem.W.nsIn K mainGlobals "int" = some none)
    (z_isinstance : PySem.W.nsIn K mainGlobals "isinstance" = some none)
    (z_len : PySem.W.nsIn K mainGlobals "len" = some none)
    (z_max : PySem.W.nsIn K mainGlobals "max" = some none)
    (z_min : PySem.W.nsIn K mainGlobals "min" = some none)
    (z_range : PySem.W.nsIn K mainGlobals "range" = some none)
    (z_tuple : PySem.W.nsIn K mainGlobals "tuple" = some none)
    : ∃ fd : FuncData, (∀ (s : Shared) (v : Value), BindsTo s fd ⟨[v], []⟩ [("_law_script", v)]) ∧ ∀ base : Heap, K.In base → base.Ns mainGlobals mg → FnOk l.prog w K mg base (L2.CX l.prog w) 4 fa fd ["_law_script"] (spF K cl 1 d_law) := by
  have e := hfa.symm.trans (PySem.W.mg_of X G a12)
  cases e
  have T : Txt mg := ⟨PySem.W.mg_none_of X G z_bool, PySem.W.mg_none_of X G z_int, PySem.W.mg_none_of X G z_isinstance, PySem.W.mg_none_of X G z_len, PySem.W.mg_none_of X G z_max, PySem.W.mg_none_of X G z_min, PySem.W.mg_none_of X G z_range, PySem.W.mg_none_of X G z_tuple⟩
  have F0 := fun_mk (st := s_d_gaps) l0 c0 k0
  have F1 := fun_mk (st := s_d_arc) l1 c1 k1
  have F2 := fun_mk (st := s_d_parts) l2 c2 k2
  have F3 := fun_mk (st := s_d_crosses) l3 c3 k3
  have F4 := fun_mk (st := s_d_law_whole) l4 c4 k4
  have F5 := fun_mk (st := s_d_law_cell) l5 c5 k5
  have F6 := fun_mk (st := s_d_law_truth) l6 c6 k6
  have F7 := fun_mk (st := s_d_law_row) l7 c7 k7
  have F8 := fun_mk (st := s_d_law_walk) l8 c8 k8
  have F9 := fun_mk (st := s_d_law_apart) l9 c9 k9
  have F10 := fun_mk (st := s_d_law_rim) l10 c10 k10
  have F11 := fun_mk (st := s_d_law_four) l11 c11 k11
  have F12 := fun_mk (st := s_d_law) l12 c12 k12
  refine ⟨PySem.W.fnOf "law" "law" (defArgs s_d_law) (defBody s_d_law) (defScope s_d_law) .none kV12 dc12 pm12 an12 cd12 ct12, fun s v => .of_eq rfl, fun base _ _ => ?_⟩
  have o0 := ok_d_gaps (P := l.prog) (w := w) (mg := mg) (base := base) F0 T  
  have h_d_gaps := fnc_mk o0 (PySem.W.mg_of X G a0) k0 (F0.binds (ps := ["pins"]) fun _ _ _ _ _ _ us hl => match us, hl with | [_], _ => rfl) runF_len
  have k_d_gaps_kpins_0 := fncK_mk (nu := 0) (ks := ["pins"]) (idx := [0]) o0 (PySem.W.mg_of X G a0) k0 runF_len (fun us ws h1 h2 => match us, ws, h1, h2 with | [], [_], _, _ => rfl)
  have o1 := ok_d_arc (P := l.prog) (w := w) (mg := mg) (base := base) F1 T  
  have h_d_arc := fnc_mk o1 (PySem.W.mg_of X G a1) k1 (F1.binds (ps := ["pins", "first", "last"]) fun _ _ _ _ _ _ us hl => match us, hl with | [_, _, _], _ => rfl) runF_len
  have k_d_arc_kpins_first_last_0 := fncK_mk (nu := 0) (ks := ["pins", "first", "last"]) (idx := [0, 1, 2]) o1 (PySem.W.mg_of X G a1) k1 runF_len (fun us ws h1 h2 => match us, ws, h1, h2 with | [], [_, _, _], _, _ => rfl)
  have o2 := ok_d_parts (P := l.prog) (w := w) (mg := mg) (base := base) F2 T h_d_arc 
  have h_d_parts := fnc_mk o2 (PySem.W.mg_of X G a2) k2 (F2.binds (ps := ["pins", "one", "other", "first", "last"]) fun _ _ _ _ _ _ us hl => match us, hl with | [_, _, _, _, _], _ => rfl) runF_len
  have k_d_parts_kpins_one_other_first_last_0 := fncK_mk (nu := 0) (ks := ["pins", "one", "other", "first", "last"]) (idx := [0, 1, 2, 3, 4]) o2 (PySem.W.mg_of X G a2) k2 runF_len (fun us ws h1 h2 => match us, ws, h1, h2 with | [], [_, _, _, _, _], _, _ => rfl)
  have o3 := ok_d_crosses (P := l.prog) (w := w) (mg := mg) (base := base) F3 T  
  have h_d_crosses := fnc_mk o3 (PySem.W.mg_of X G a3) k3 (F3.binds (ps := ["a", "b", "c", "d"]) fun _ _ _ _ _ _ us hl => match us, hl with | [_, _, _, _], _ => rfl) runF_len
  have k_d_crosses_ka_b_c_d_0 := fncK_mk (nu := 0) (ks := ["a", "b", "c", "d"]) (idx := [0, 1, 2, 3]) o3 (PySem.W.mg_of X G a3) k3 runF_len (fun us ws h1 h2 => match us, ws, h1, h2 with | [], [_, _, _, _], _, _ => rfl)
  have o4 := ok_d_law_whole (P := l.prog) (w := w) (mg := mg) (base := base) F4 T  
  have h_d_law_whole := fnc_mk o4 (PySem.W.mg_of X G a4) k4 (F4.binds (ps := ["_law_value"]) fun _ _ _ _ _ _ us hl => match us, hl with | [_], _ => rfl) runF_len
  have o5 := ok_d_law_cell (P := l.prog) (w := w) (mg := mg) (base := base) F5 T  
  have h_d_law_cell := fnc_mk o5 (PySem.W.mg_of X G a5) k5 (F5.binds (ps := ["_law_script", "_law_k"]) fun _ _ _ _ _ _ us hl => match us, hl with | [_, _], _ => rfl) runF_len
  have o6 := ok_d_law_truth (P := l.prog) (w := w) (mg := mg) (base := base) F6 T  
  have h_d_law_truth := fnc_mk o6 (PySem.W.mg_of X G a6) k6 (F6.binds (ps := ["_law_value", "_law_due"]) fun _ _ _ _ _ _ us hl => match us, hl with | [_, _], _ => rfl) runF_len
  have o7 := ok_d_law_row (P := l.prog) (w := w) (mg := mg) (base := base) F7 T h_d_law_whole 
  have h_d_law_row := fnc_mk o7 (PySem.W.mg_of X G a7) k7 (F7.binds (ps := ["_law_value", "_law_due"]) fun _ _ _ _ _ _ us hl => match us, hl with | [_, _], _ => rfl) runF_len
  have o8 := ok_d_law_walk (P := l.prog) (w := w) (mg := mg) (base := base) F8 T  
  have h_d_law_walk := fnc_mk o8 (PySem.W.mg_of X G a8) k8 (F8.binds (ps := ["_law_rim_here", "_law_start", "_law_stop"]) fun _ _ _ _ _ _ us hl => match us, hl with | [_, _, _], _ => rfl) runF_len
  have o9 := ok_d_law_apart (P := l.prog) (w := w) (mg := mg) (base := base) F9 T  
  have h_d_law_apart := fnc_mk o9 (PySem.W.mg_of X G a9) k9 (F9.binds (ps := ["_law_w", "_law_x", "_law_y", "_law_z"]) fun _ _ _ _ _ _ us hl => match us, hl with | [_, _, _, _], _ => rfl) runF_len
  have o10 := ok_d_law_rim (P := l.prog) (w := w) (mg := mg) (base := base) F10 T h_d_law_walk h_d_law_row h_d_arc h_d_law_truth h_d_parts 
  have h_d_law_rim := fnc_mk o10 (PySem.W.mg_of X G a10) k10 (F10.binds (ps := ["_law_rim_here", "_law_start", "_law_near"]) fun _ _ _ _ _ _ us hl => match us, hl with | [_, _, _], _ => rfl) runF_len
  have o11 := ok_d_law_four (P := l.prog) (w := w) (mg := mg) (base := base) F11 T h_d_law_apart h_d_law_truth h_d_crosses 
  have h_d_law_four := fnc_mk o11 (PySem.W.mg_of X G a11) k11 (F11.binds (ps := ["_law_w", "_law_x", "_law_y", "_law_z"]) fun _ _ _ _ _ _ us hl => match us, hl with | [_, _, _, _], _ => rfl) runF_len
  exact ok_d_law F12 T h_d_law_cell h_d_gaps h_d_law_whole h_d_law_rim h_d_law_four h_d_law_walk h_d_law_truth h_d_parts h_d_law_apart h_d_crosses h_d_law_row h_d_arc k_d_arc_kpins_first_last_0 k_d_crosses_ka_b_c_d_0 k_d_gaps_kpins_0 k_d_parts_kpins_one_other_first_last_0
theorem walk {l : PySem.W.OpenLaw} {q : Program} {loose : List Str} {XP : (Str → Option Value) → Heap → Prop} {YP : World → Heap → Prop} {d : DefRec} {K : Params → PySem.W.Frag} (hn : l.most = some 63) (hdf : d.params.defaults = [])
    (hY : ∀ (w : World) (h : Heap), YP w h → (K w.params).In h)
    (F : ∀ (w : World) (mg : Str → Option Value) (fa : Addr) (h : Heap), (K w.params).In h → h.Ns mainGlobals mg → mg d.name = some (.ref fa) →
      ∃ fd : FuncData, (∀ (s : Shared) (u : Value), BindsTo s fd ⟨[u], []⟩ [("_law_script", u)]) ∧ ∀ base : Heap, (K w.params).In base → base.Ns mainGlobals mg → FnOk l.prog w (K w.params) mg base (L2.CX l.prog w) 4 fa fd ["_law_script"] (spF (K w.params) cl 1 d_law)) :
    PySem.W.WalkO q loose XP YP l.row.toRowW d [] (fun f vs => PySem.call f vs) :=
  walk_FL (cl := fun _ => cl) (m := fun _ => d_law) hn hdf ⟨rfl, by decide, by decide⟩ hY F fun _ ns h => Math.law_runs ns h
end Prg
open PySem PySem.W PyProof.Rows
set_option maxRecDepth 100000 in
set_option maxHeartbeats 0 in
theorem PySem.Challenge.cw_rimcords_k00_rims_holds : PySem.Challenge.rw_rimcords_k00_rims.Holds := by
  w_on; o_law; k_head; (case hw => w_witness2)
  k_fill
  refine Prg.walk (l := PySem.Challenge.rw_rimcords_k00_rims) rfl rfl (fun w h Y => PySem.W.kIn_of Y) ?F
  case F =>
    intro w mg fa h KX G hmg
    refine' Prg.all_mk KX G hmg ?a0 ?l0 ?c0 ?k0 ?a1 ?l1 ?c1 ?k1 ?a2 ?l2 ?c2 ?k2 ?a3 ?l3 ?c3 ?k3 ?a4 ?l4 ?c4 ?k4 ?a5 ?l5 ?c5 ?k5 ?a6 ?l6 ?c6 ?k6 ?a7 ?l7 ?c7 ?k7 ?a8 ?l8 ?c8 ?k8 ?a9 ?l9 ?c9 ?k9 ?a10 ?l10 ?c10 ?k10 ?a11 ?l11 ?c11 ?k11 ?a12 ?l12 ?c12 ?k12 ?z_bool ?z_int ?z_isinstance ?z_len ?z_max ?z_min ?z_range ?z_tuple
    (case a0 => k_is)
    (case l0 => k_is)
    (case c0 => k_is)
    (case k0 => k_is)
    (case a1 => k_is)
    (case l1 => k_is)
    (case c1 => k_is)
    (case k1 => k_is)
    (case a2 => k_is)
    (case l2 => k_is)
    (case c2 => k_is)
    (case k2 => k_is)
    (case a3 => k_is)
    (case l3 => k_is)
    (case c3 => k_is)
    (case k3 => k_is)
    (case a4 => k_is)
    (case l4 => k_is)
    (case c4 => k_is)
    (case k4 => k_is)
    (case a5 => k_is)
    (case l5 => k_is)
    (case c5 => k_is)
    (case k5 => k_is)
    (case a6 => k_is)
    (case l6 => k_is)
    (case c6 => k_is)
    (case k6 => k_is)
    (case a7 => k_is)
    (case l7 => k_is)
    (case c7 => k_is)
    (case k7 => k_is)
    (case a8 => k_is)
    (case l8 => k_is)
    (case c8 => k_is)
    (case k8 => k_is)
    (case a9 => k_is)
    (case l9 => k_is)
    (case c9 => k_is)
    (case k9 => k_is)
    (case a10 => k_is)
    (case l10 => k_is)
    (case c10 => k_is)
    (case k10 => k_is)
    (case a11 => k_is)
    (case l11 => k_is)
    (case c11 => k_is)
    (case k11 => k_is)
    (case a12 => k_is)
    (case l12 => k_is)
    (case c12 => k_is)
    (case k12 => k_is)
    (case z_bool => k_is)
    (case z_int => k_is)
    (case z_isinstance => k_is)
    (case z_len => k_is)
    (case z_max => k_is)
    (case z_min => k_is)
    (case z_range => k_is)
    (case z_tuple => k_is)
