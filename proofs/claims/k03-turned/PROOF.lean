import PyProof.Rows.All
import Wide.All
import OpenK.AllK
import Wide.FinOn
import HandS.ForMost
import HandS.Exc
import HandS.CallSlots
import HandS.WordsExc
import HandS.Comp
import HandS.IsInst
import HandS.Style
import HandS.Defaults
import HandS.Ends
import HandS.Property
import KE.KOpsOwn
import HandS.SortRule
import HandS.Conv
import KE.KDictSum
import HandS.TryOnly
import HandS.Deep
import HandS.OwnEq
import PySem.Challenge.RW_rimcords_k03_lots_turned
set_option Elab.async false
set_option linter.all false
set_option maxRecDepth 100000
namespace FL
open PySem L2

/-- a truth value that is not reckoned by unfolding -/
noncomputable def yes (P : Prop) : Bool := @decide P (Classical.propDecidable P)
theorem yes_of {P : Prop} (h : P) : yes P = true := @decide_eq_true P (Classical.propDecidable P) h
theorem of_yes {P : Prop} (h : yes P = true) : P := @of_decide_eq_true P (Classical.propDecidable P) h
/-- plain data -/
inductive D where
  | non | bl (b : Bool) | int (i : Int) | str (s : Str)
  | tup (ds : List D) | lst (ds : List D) | vec (ds : List D)
  | obj (c : Nat) (ds : List D) | mobj (c : Nat) (ds : List D)
  /-- an exception that is being handled; dicts: frozen, owned; keys that are tuples, or ints and texts; any other value that hangs on no heap -/
  | exc (c : Nat) (ds : List D) | dT (ks : List (List Key)) (ds : List D) | vT (ks : List (List Key)) (ds : List D)
  | dK (ks : List Key) (ds : List D) | vK (ks : List Key) (ds : List D) | val (v : V)

/-- footprints: how often an address is owned -/
abbrev Fp := Addr → Nat
def one (a : Addr) : Fp := fun x => if x = a then 1 else 0
def zf : Fp := fun _ => 0

/-- a class: where it stands, its fields by place -/
structure Cl where
  at_ : Addr
  fs : List Str
/-- the classes; where the instance stands that is being made; the exception that is being handled, its dict, its class -/
structure Tb where
  of : Nat → Cl
  sf : Addr
  ex : Addr
  ed : Addr
  ec : Value
instance : CoeFun Tb (fun _ => Nat → Cl) := ⟨Tb.of⟩

/-- ints alone, one or more -/
def D.isI : D → Bool
  | .int _ => true
  | _ => false
def D.isK : D → Bool
  | .int _ => true
  | .val _ => true
  | _ => false
def keyI (ds : List D) : Bool := !ds.isEmpty && ds.all D.isK
/-- a tuple: what may be a key stands in F itself -/
def TqT (K : PySem.W.Frag) (F : Hp) (a : Addr) (ds : List D) (xs : List V) : Prop := SqT K F a xs ∧ (keyI ds = true → F a = some (.tup xs))
mutual
/-- d is held by v: what is frozen stands in F, what is owned in H, within the footprint A -/
def Own (K : PySem.W.Frag) (cl : Tb) (F H : Hp) : D → V → Fp → Prop
  | .non, v, _ => v = .non
  | .bl b, v, _ => v = .bl b
  | .int i, v, _ => v = .int i
  | .str s, v, _ => v = .str s
  | .tup ds, v, A => ∃ a xs, v = .ref a ∧ TqT K F a ds xs ∧ Owns K cl F H ds xs A
  | .lst ds, v, A => ∃ a xs, v = .ref a ∧ SqL K F a xs ∧ Owns K cl F H ds xs A
  | .vec ds, v, A => ∃ a xs B, v = .ref a ∧ F a = none ∧ H a = some (.lst xs) ∧ Owns K cl F H ds xs B ∧ ∀ x, one a x + B x ≤ A x
  | .obj c ds, v, A => ∃ a dx xs, v = .ref a ∧ F a = some (.ins (cl c).at_ dx ((cl c).fs.zip xs)) ∧ xs.length ≤ (cl c).fs.length ∧ Owns K cl F H ds xs A
  | .mobj c ds, v, A => ∃ a dx xs B, (v = .ref a ∧ a = cl.sf) ∧ F a = none ∧ H a = some (.ins (cl c).at_ dx ((cl c).fs.zip xs)) ∧ xs.length ≤ (cl c).fs.length ∧ Owns K cl F H ds xs B ∧ ∀ x, one a x + B x ≤ A x
  | .exc c ds, v, A => ∃ xs, (v = .ref cl.ex ∧ cl.ec = .ref (cl c).at_) ∧ F cl.ed = some (.xd ((cl c).fs.zip xs)) ∧ xs.length ≤ (cl c).fs.length ∧ Owns K cl F H ds xs A
  | .dT ks ds, v, A => ∃ a xs, v = .ref a ∧ F a = some (.dT (ks.zip xs)) ∧ ks.length = xs.length ∧ Owns K cl F H ds xs A
  | .vT ks ds, v, A => ∃ a xs B, v = .ref a ∧ F a = none ∧ H a = some (.dT (ks.zip xs)) ∧ ks.length = xs.length ∧ Owns K cl F H ds xs B ∧ ∀ x, one a x + B x ≤ A x
  | .dK ks ds, v, A => ∃ a xs, v = .ref a ∧ F a = some (.dK (ks.zip xs)) ∧ ks.length = xs.length ∧ Owns K cl F H ds xs A
  | .vK ks ds, v, A => ∃ a xs B, v = .ref a ∧ F a = none ∧ H a = some (.dK (ks.zip xs)) ∧ ks.length = xs.length ∧ Owns K cl F H ds xs B ∧ ∀ x, one a x + B x ≤ A x
  | .val w, v, _ => v = w
def Owns (K : PySem.W.Frag) (cl : Tb) (F H : Hp) : List D → List V → Fp → Prop
  | [], vs, _ => vs = []
  | d :: ds, vs, A => ∃ v r B C, vs = v :: r ∧ Own K cl F H d v B ∧ Owns K cl F H ds r C ∧ ∀ x, B x + C x ≤ A x
end

mutual
/-- nothing in it is owned -/
def D.pure : D → Bool
  | .non => true | .bl _ => true | .int _ => true | .str _ => true
  | .tup ds => D.pures ds | .lst ds => D.pures ds | .vec _ => false
  | .obj _ ds => D.pures ds | .mobj _ _ => false | .exc _ ds => D.pures ds
  | .dT _ ds => D.pures ds | .vT _ _ => false | .dK _ ds => D.pures ds | .vK _ _ => false | .val _ => true
def D.pures : List D → Bool
  | [] => true
  | d :: ds => d.pure && D.pures ds
end
mutual
/-- all of it frozen -/
def D.frz : D → D
  | .non => .non | .bl b => .bl b | .int i => .int i | .str s => .str s
  | .tup ds => .tup (D.frzs ds) | .lst ds => .lst (D.frzs ds) | .vec ds => .lst (D.frzs ds)
  | .obj c ds => .obj c (D.frzs ds) | .mobj c ds => .obj c (D.frzs ds) | .exc c ds => .exc c (D.frzs ds)
  | .dT ks ds => .dT ks (D.frzs ds) | .vT ks ds => .dT ks (D.frzs ds) | .dK ks ds => .dK ks (D.frzs ds) | .vK ks ds => .dK ks (D.frzs ds) | .val v => .val v
def D.frzs : List D → List D
  | [] => []
  | d :: ds => d.frz :: D.frzs ds
end

theorem D.isK_frz (d : D) : d.frz.isK = d.isK := by cases d <;> rfl
theorem all_frzs : ∀ ds : List D, (D.frzs ds).all D.isK = ds.all D.isK
  | [] => rfl
  | d :: ds => by rw [D.frzs, List.all_cons, List.all_cons, D.isK_frz, all_frzs ds]
theorem keyI_frzs (ds : List D) (h : keyI (D.frzs ds) = true) : keyI ds = true := by
  unfold keyI at *
  rw [all_frzs] at h
  cases ds with
  | nil => simp [D.frzs] at h
  | cons d ds => simpa [D.frzs] using h
abbrev Le (F F' : Hp) : Prop := ∀ a o, F a = some o → F' a = some o
theorem Le.refl {F : Hp} : Le F F := fun _ _ h => h
theorem Le.trans {F G H : Hp} (a : Le F G) (b : Le G H) : Le F H := fun x o h => b x o (a x o h)
theorem Le.sqL {K : PySem.W.Frag} {F F' : Hp} {a : Addr} {xs : List V} (h : Le F F') : SqL K F a xs → SqL K F' a xs := fun q => by
  rcases q with (q | ⟨o, q⟩) | q
  · exact .inl (.inl (h _ _ q))
  · exact .inl (.inr ⟨o, h _ _ q⟩)
  · exact .inr q
theorem Le.sqT {K : PySem.W.Frag} {F F' : Hp} {a : Addr} {xs : List V} (h : Le F F') : SqT K F a xs → SqT K F' a xs := fun q => by
  rcases q with (q | ⟨o, q⟩) | q
  · exact .inl (.inl (h _ _ q))
  · exact .inl (.inr ⟨o, h _ _ q⟩)
  · exact .inr q

theorem one_self {a : Addr} : one a a = 1 := by simp [one]

section
variable {K : PySem.W.Frag} {cl : Tb} {F F' H H' : Hp}

mutual
theorem Own.mono : ∀ {d : D} {v : V} {A A' : Fp}, Own K cl F H d v A → Le F F' → (∀ a, 0 < A a → H' a = H a ∧ F' a = none) → (∀ x, A x ≤ A' x) → Own K cl F' H' d v A'
  | .non, _, _, _, h, _, _, _ => h
  | .bl _, _, _, _, h, _, _, _ => h
  | .int _, _, _, _, h, _, _, _ => h
  | .str _, _, _, _, h, _, _, _ => h
  | .tup ds, v, A, A', h, l, k, m => by
    obtain ⟨a, xs, e, q, r⟩ := h
    exact ⟨a, xs, e, ⟨l.sqT q.1, fun z => l _ _ (q.2 z)⟩, Owns.mono r l k m⟩
  | .lst ds, v, A, A', h, l, k, m => by
    obtain ⟨a, xs, e, q, r⟩ := h
    exact ⟨a, xs, e, l.sqL q, Owns.mono r l k m⟩
  | .vec ds, v, A, A', h, l, k, m => by
    obtain ⟨a, xs, B, e, n, q, r, s⟩ := h
    have ha : 0 < A a := by have := s a; rw [one_self] at this; omega
    exact ⟨a, xs, B, e, (k a ha).2, (k a ha).1.trans q, Owns.mono r l (fun b hb => k b (by have := s b; omega)) (fun _ => Nat.le_refl _), fun x => Nat.le_trans (s x) (m x)⟩
  | .obj c ds, v, A, A', h, l, k, m => by
    obtain ⟨a, dx, xs, e, q, z, r⟩ := h
    exact ⟨a, dx, xs, e, l _ _ q, z, Owns.mono r l k m⟩
  | .mobj c ds, v, A, A', h, l, k, m => by
    obtain ⟨a, dx, xs, B, e, n, q, z, r, s⟩ := h
    have ha : 0 < A a := by have := s a; rw [one_self] at this; omega
    exact ⟨a, dx, xs, B, e, (k a ha).2, (k a ha).1.trans q, z, Owns.mono r l (fun b hb => k b (by have := s b; omega)) (fun _ => Nat.le_refl _), fun x => Nat.le_trans (s x) (m x)⟩
  | .exc c ds, v, A, A', h, l, k, m => by
    obtain ⟨xs, e, q, z, r⟩ := h
    exact ⟨xs, e, l _ _ q, z, Owns.mono r l k m⟩
  | .dT ks ds, v, A, A', h, l, k, m => by
    obtain ⟨a, xs, e, q, z, r⟩ := h
    exact ⟨a, xs, e, l _ _ q, z, Owns.mono r l k m⟩
  | .dK ks ds, v, A, A', h, l, k, m => by
    obtain ⟨a, xs, e, q, z, r⟩ := h
    exact ⟨a, xs, e, l _ _ q, z, Owns.mono r l k m⟩
  | .vT ks ds, v, A, A', h, l, k, m => by
    obtain ⟨a, xs, B, e, n, q, z, r, s⟩ := h
    have ha : 0 < A a := by have := s a; rw [one_self] at this; omega
    exact ⟨a, xs, B, e, (k a ha).2, (k a ha).1.trans q, z, Owns.mono r l (fun b hb => k b (by have := s b; omega)) (fun _ => Nat.le_refl _), fun x => Nat.le_trans (s x) (m x)⟩
  | .vK ks ds, v, A, A', h, l, k, m => by
    obtain ⟨a, xs, B, e, n, q, z, r, s⟩ := h
    have ha : 0 < A a := by have := s a; rw [one_self] at this; omega
    exact ⟨a, xs, B, e, (k a ha).2, (k a ha).1.trans q, z, Owns.mono r l (fun b hb => k b (by have := s b; omega)) (fun _ => Nat.le_refl _), fun x => Nat.le_trans (s x) (m x)⟩
  | .val _, _, _, _, h, _, _, _ => h
theorem Owns.mono : ∀ {ds : List D} {vs : List V} {A A' : Fp}, Owns K cl F H ds vs A → Le F F' → (∀ a, 0 < A a → H' a = H a ∧ F' a = none) → (∀ x, A x ≤ A' x) → Owns K cl F' H' ds vs A'
  | [], _, _, _, h, _, _, _ => h
  | d :: ds, vs, A, A', h, l, k, m => by
    obtain ⟨v, r, B, C, e, p, q, s⟩ := h
    exact ⟨v, r, B, C, e, Own.mono p l (fun b hb => k b (by have := s b; omega)) (fun _ => Nat.le_refl _), Owns.mono q l (fun b hb => k b (by have := s b; omega)) (fun _ => Nat.le_refl _), fun x => Nat.le_trans (s x) (m x)⟩
end

mutual
theorem Own.up : ∀ {d : D} {v : V} {A A' : Fp}, Own K cl F H d v A → (∀ x, A x ≤ A' x) → Own K cl F H d v A'
  | .non, _, _, _, h, _ => h
  | .bl _, _, _, _, h, _ => h
  | .int _, _, _, _, h, _ => h
  | .str _, _, _, _, h, _ => h
  | .tup ds, v, A, A', h, m => by
    obtain ⟨a, xs, e, q, r⟩ := h
    exact ⟨a, xs, e, q, Owns.up r m⟩
  | .lst ds, v, A, A', h, m => by
    obtain ⟨a, xs, e, q, r⟩ := h
    exact ⟨a, xs, e, q, Owns.up r m⟩
  | .vec ds, v, A, A', h, m => by
    obtain ⟨a, xs, B, e, n, q, r, s⟩ := h
    exact ⟨a, xs, B, e, n, q, r, fun x => Nat.le_trans (s x) (m x)⟩
  | .obj c ds, v, A, A', h, m => by
    obtain ⟨a, dx, xs, e, q, z, r⟩ := h
    exact ⟨a, dx, xs, e, q, z, Owns.up r m⟩
  | .mobj c ds, v, A, A', h, m => by
    obtain ⟨a, dx, xs, B, e, n, q, z, r, s⟩ := h
    exact ⟨a, dx, xs, B, e, n, q, z, r, fun x => Nat.le_trans (s x) (m x)⟩
  | .exc c ds, v, A, A', h, m => by
    obtain ⟨xs, e, q, z, r⟩ := h
    exact ⟨xs, e, q, z, Owns.up r m⟩
  | .dT ks ds, v, A, A', h, m => by
    obtain ⟨a, xs, e, q, z, r⟩ := h
    exact ⟨a, xs, e, q, z, Owns.up r m⟩
  | .dK ks ds, v, A, A', h, m => by
    obtain ⟨a, xs, e, q, z, r⟩ := h
    exact ⟨a, xs, e, q, z, Owns.up r m⟩
  | .vT ks ds, v, A, A', h, m => by
    obtain ⟨a, xs, B, e, n, q, z, r, s⟩ := h
    exact ⟨a, xs, B, e, n, q, z, r, fun x => Nat.le_trans (s x) (m x)⟩
  | .vK ks ds, v, A, A', h, m => by
    obtain ⟨a, xs, B, e, n, q, z, r, s⟩ := h
    exact ⟨a, xs, B, e, n, q, z, r, fun x => Nat.le_trans (s x) (m x)⟩
  | .val _, _, _, _, h, _ => h
theorem Owns.up : ∀ {ds : List D} {vs : List V} {A A' : Fp}, Owns K cl F H ds vs A → (∀ x, A x ≤ A' x) → Owns K cl F H ds vs A'
  | [], _, _, _, h, _ => h
  | d :: ds, vs, A, A', h, m => by
    obtain ⟨v, r, B, C, e, p, q, s⟩ := h
    exact ⟨v, r, B, C, e, p, q, fun x => Nat.le_trans (s x) (m x)⟩
end

mutual
theorem Own.of_pure : ∀ {d : D} {v : V} {A : Fp}, d.pure = true → Own K cl F H d v A → Own K cl F H' d v zf
  | .non, _, _, _, h => h
  | .bl _, _, _, _, h => h
  | .int _, _, _, _, h => h
  | .str _, _, _, _, h => h
  | .tup ds, v, A, p, h => by
    obtain ⟨a, xs, e, q, r⟩ := h
    exact ⟨a, xs, e, q, Owns.of_pure p r⟩
  | .lst ds, v, A, p, h => by
    obtain ⟨a, xs, e, q, r⟩ := h
    exact ⟨a, xs, e, q, Owns.of_pure p r⟩
  | .vec ds, v, A, p, h => by cases p
  | .obj c ds, v, A, p, h => by
    obtain ⟨a, dx, xs, e, q, z, r⟩ := h
    exact ⟨a, dx, xs, e, q, z, Owns.of_pure p r⟩
  | .mobj c ds, v, A, p, h => by cases p
  | .exc c ds, v, A, p, h => by
    obtain ⟨xs, e, q, z, r⟩ := h
    exact ⟨xs, e, q, z, Owns.of_pure p r⟩
  | .dT ks ds, v, A, p, h => by
    obtain ⟨a, xs, e, q, z, r⟩ := h
    exact ⟨a, xs, e, q, z, Owns.of_pure p r⟩
  | .dK ks ds, v, A, p, h => by
    obtain ⟨a, xs, e, q, z, r⟩ := h
    exact ⟨a, xs, e, q, z, Owns.of_pure p r⟩
  | .vT ks ds, v, A, p, h => by cases p
  | .vK ks ds, v, A, p, h => by cases p
  | .val _, _, _, _, h => h
theorem Owns.of_pure : ∀ {ds : List D} {vs : List V} {A : Fp}, D.pures ds = true → Owns K cl F H ds vs A → Owns K cl F H' ds vs zf
  | [], _, _, _, h => h
  | d :: ds, vs, A, p, h => by
    obtain ⟨v, r, B, C, e, q, t, s⟩ := h
    have p' : d.pure = true ∧ D.pures ds = true := by simpa [D.pures] using p
    exact ⟨v, r, zf, zf, e, Own.of_pure p'.1 q, Owns.of_pure p'.2 t, fun x => Nat.le_refl _⟩
end

mutual
theorem D.frz_of_pure : ∀ {d : D}, d.pure = true → d.frz = d
  | .non, _ => rfl
  | .bl _, _ => rfl
  | .int _, _ => rfl
  | .str _, _ => rfl
  | .tup ds, p => by rw [D.frz, D.frzs_of_pure (ds := ds) (by simpa [D.pure] using p)]
  | .lst ds, p => by rw [D.frz, D.frzs_of_pure (ds := ds) (by simpa [D.pure] using p)]
  | .vec ds, p => by simp [D.pure] at p
  | .obj c ds, p => by rw [D.frz, D.frzs_of_pure (ds := ds) (by simpa [D.pure] using p)]
  | .mobj c ds, p => by simp [D.pure] at p
  | .exc c ds, p => by rw [D.frz, D.frzs_of_pure (ds := ds) (by simpa [D.pure] using p)]
  | .dT c ds, p => by rw [D.frz, D.frzs_of_pure (ds := ds) (by simpa [D.pure] using p)]
  | .dK c ds, p => by rw [D.frz, D.frzs_of_pure (ds := ds) (by simpa [D.pure] using p)]
  | .vT c ds, p => by simp [D.pure] at p
  | .vK c ds, p => by simp [D.pure] at p
  | .val _, _ => rfl
theorem D.frzs_of_pure : ∀ {ds : List D}, D.pures ds = true → D.frzs ds = ds
  | [], _ => rfl
  | d :: ds, p => by
    have p' : d.pure = true ∧ D.pures ds = true := by simpa [D.pures] using p
    rw [D.frzs, D.frz_of_pure p'.1, D.frzs_of_pure p'.2]
end
mutual
theorem D.pure_frz : ∀ (d : D), d.frz.pure = true
  | .non => rfl
  | .bl _ => rfl
  | .int _ => rfl
  | .str _ => rfl
  | .tup ds => by rw [D.frz, D.pure]; exact D.pures_frzs ds
  | .lst ds => by rw [D.frz, D.pure]; exact D.pures_frzs ds
  | .vec ds => by rw [D.frz, D.pure]; exact D.pures_frzs ds
  | .obj c ds => by rw [D.frz, D.pure]; exact D.pures_frzs ds
  | .mobj c ds => by rw [D.frz, D.pure]; exact D.pures_frzs ds
  | .exc c ds => by rw [D.frz, D.pure]; exact D.pures_frzs ds
  | .dT c ds => by rw [D.frz, D.pure]; exact D.pures_frzs ds
  | .vT c ds => by rw [D.frz, D.pure]; exact D.pures_frzs ds
  | .dK c ds => by rw [D.frz, D.pure]; exact D.pures_frzs ds
  | .vK c ds => by rw [D.frz, D.pure]; exact D.pures_frzs ds
  | .val _ => rfl
theorem D.pures_frzs : ∀ (ds : List D), D.pures (D.frzs ds) = true
  | [] => rfl
  | d :: ds => by rw [D.frzs, D.pures, D.pure_frz d, D.pures_frzs ds]; rfl
end

mutual
theorem Own.freeze : ∀ {d : D} {v : V} {A : Fp}, Own K cl F H d v A → Le F F' → (∀ a, 0 < A a → F' a = H a) → Own K cl F' H' d.frz v zf
  | .non, _, _, h, _, _ => h
  | .bl _, _, _, h, _, _ => h
  | .int _, _, _, h, _, _ => h
  | .str _, _, _, h, _, _ => h
  | .tup ds, v, A, h, l, k => by
    obtain ⟨a, xs, e, q, r⟩ := h
    exact ⟨a, xs, e, ⟨l.sqT q.1, fun z => l _ _ (q.2 (keyI_frzs ds z))⟩, Owns.freeze r l k⟩
  | .lst ds, v, A, h, l, k => by
    obtain ⟨a, xs, e, q, r⟩ := h
    exact ⟨a, xs, e, l.sqL q, Owns.freeze r l k⟩
  | .vec ds, v, A, h, l, k => by
    obtain ⟨a, xs, B, e, n, q, r, s⟩ := h
    have ha : 0 < A a := by have := s a; rw [one_self] at this; omega
    exact ⟨a, xs, e, SqL.of ((k a ha).trans q), Owns.freeze r l fun b hb => k b (by have := s b; omega)⟩
  | .obj c ds, v, A, h, l, k => by
    obtain ⟨a, dx, xs, e, q, z, r⟩ := h
    exact ⟨a, dx, xs, e, l _ _ q, z, Owns.freeze r l k⟩
  | .mobj c ds, v, A, h, l, k => by
    obtain ⟨a, dx, xs, B, e, n, q, z, r, s⟩ := h
    have ha : 0 < A a := by have := s a; rw [one_self] at this; omega
    exact ⟨a, dx, xs, e.1, (k a ha).trans q, z, Owns.freeze r l fun b hb => k b (by have := s b; omega)⟩
  | .exc c ds, v, A, h, l, k => by
    obtain ⟨xs, e, q, z, r⟩ := h
    exact ⟨xs, e, l _ _ q, z, Owns.freeze r l k⟩
  | .dT ks ds, v, A, h, l, k => by
    obtain ⟨a, xs, e, q, z, r⟩ := h
    exact ⟨a, xs, e, l _ _ q, z, Owns.freeze r l k⟩
  | .dK ks ds, v, A, h, l, k => by
    obtain ⟨a, xs, e, q, z, r⟩ := h
    exact ⟨a, xs, e, l _ _ q, z, Owns.freeze r l k⟩
  | .vT ks ds, v, A, h, l, k => by
    obtain ⟨a, xs, B, e, n, q, z, r, s⟩ := h
    have ha : 0 < A a := by have := s a; rw [one_self] at this; omega
    exact ⟨a, xs, e, (k a ha).trans q, z, Owns.freeze r l fun b hb => k b (by have := s b; omega)⟩
  | .vK ks ds, v, A, h, l, k => by
    obtain ⟨a, xs, B, e, n, q, z, r, s⟩ := h
    have ha : 0 < A a := by have := s a; rw [one_self] at this; omega
    exact ⟨a, xs, e, (k a ha).trans q, z, Owns.freeze r l fun b hb => k b (by have := s b; omega)⟩
  | .val _, _, _, h, _, _ => h
theorem Owns.freeze : ∀ {ds : List D} {vs : List V} {A : Fp}, Owns K cl F H ds vs A → Le F F' → (∀ a, 0 < A a → F' a = H a) → Owns K cl F' H' (D.frzs ds) vs zf
  | [], _, _, h, _, _ => h
  | d :: ds, vs, A, h, l, k => by
    obtain ⟨v, r, B, C, e, p, q, s⟩ := h
    exact ⟨v, r, zf, zf, e, Own.freeze p l (fun b hb => k b (by have := s b; omega)), Owns.freeze q l (fun b hb => k b (by have := s b; omega)), fun x => Nat.le_refl _⟩
end
theorem Owns.length : ∀ {ds : List D} {vs : List V} {A : Fp}, Owns K cl F H ds vs A → ds.length = vs.length
  | [], vs, _, h => by
    have e : vs = [] := h
    subst e; rfl
  | d :: ds, vs, A, h => by
    obtain ⟨v, r, B, C, e, p, q, s⟩ := h
    rw [e, List.length_cons, List.length_cons, Owns.length q]
end

/-! ### the state -/
/-- the ghost of a call: the heap and the frozen part at its entry -/
structure Gh where
  E : Hp
  F : Hp
structure Sta (G : Gh) (F H : Hp) (A : Fp) : Prop where
  sub : Le F H
  ent : Le G.E H
  low : Le G.F F
  fr : ∀ a o, F a = some o → G.F a = some o ∨ G.E a = none ∨ ∃ xs, o = .tup xs
  own : ∀ a, 0 < A a → F a = none ∧ G.E a = none ∧ ∃ o, H a = some o
  nd : ∀ a, A a ≤ 1
  nt : ∀ a xs, 0 < A a → H a ≠ some (.tup xs)
theorem Sta.less {G : Gh} {F H : Hp} {A A' : Fp} (s : Sta G F H A) (h : ∀ x, A' x ≤ A x) : Sta G F H A' :=
  ⟨s.sub, s.ent, s.low, s.fr, fun a ha => s.own a (Nat.lt_of_lt_of_le ha (h a)), fun a => Nat.le_trans (h a) (s.nd a), fun a xs ha => s.nt a xs (Nat.lt_of_lt_of_le ha (h a))⟩

/-- the frame: slot by slot; none: nothing is known -/
def EnvR (K : PySem.W.Frag) (cl : Tb) (F H : Hp) : List (Option D) → St → Fp → Prop
  | [], σ, _ => σ = []
  | none :: ρ, σ, A => ∃ s r, σ = s :: r ∧ EnvR K cl F H ρ r A
  | some d :: ρ, σ, A => ∃ v r B C, σ = some v :: r ∧ Own K cl F H d v B ∧ EnvR K cl F H ρ r C ∧ ∀ x, B x + C x ≤ A x
abbrev Rho := List (Option D)
section
variable {K : PySem.W.Frag} {cl : Tb} {F F' H H' : Hp}
theorem EnvR.mono : ∀ {ρ : Rho} {σ : St} {A A' : Fp}, EnvR K cl F H ρ σ A → Le F F' → (∀ a, 0 < A a → H' a = H a ∧ F' a = none) → (∀ x, A x ≤ A' x) → EnvR K cl F' H' ρ σ A'
  | [], _, _, _, h, _, _, _ => h
  | none :: ρ, σ, A, A', h, l, k, m => by
    obtain ⟨s, r, e, h⟩ := h
    exact ⟨s, r, e, EnvR.mono h l k m⟩
  | some d :: ρ, σ, A, A', h, l, k, m => by
    obtain ⟨v, r, B, C, e, p, q, s⟩ := h
    exact ⟨v, r, B, C, e, Own.mono p l (fun b hb => k b (by have := s b; omega)) (fun _ => Nat.le_refl _), EnvR.mono q l (fun b hb => k b (by have := s b; omega)) (fun _ => Nat.le_refl _), fun x => Nat.le_trans (s x) (m x)⟩
theorem EnvR.up : ∀ {ρ : Rho} {σ : St} {A A' : Fp}, EnvR K cl F H ρ σ A → (∀ x, A x ≤ A' x) → EnvR K cl F H ρ σ A'
  | [], _, _, _, h, _ => h
  | none :: ρ, σ, A, A', h, m => by
    obtain ⟨s, r, e, h⟩ := h
    exact ⟨s, r, e, EnvR.up h m⟩
  | some d :: ρ, σ, A, A', h, m => by
    obtain ⟨v, r, B, C, e, p, q, s⟩ := h
    exact ⟨v, r, B, C, e, p, q, fun x => Nat.le_trans (s x) (m x)⟩
theorem EnvR.length : ∀ {ρ : Rho} {σ : St} {A : Fp}, EnvR K cl F H ρ σ A → ρ.length = σ.length
  | [], σ, _, h => by
    have e : σ = [] := h
    subst e; rfl
  | none :: ρ, σ, A, h => by
    obtain ⟨s, r, e, h⟩ := h
    rw [e, List.length_cons, List.length_cons, EnvR.length h]
  | some d :: ρ, σ, A, h => by
    obtain ⟨v, r, B, C, e, p, q, s⟩ := h
    rw [e, List.length_cons, List.length_cons, EnvR.length q]
theorem EnvR.get : ∀ {ρ : Rho} {σ : St} {A : Fp} {i : Nat} {d : D}, EnvR K cl F H ρ σ A → ρ[i]? = some (some d) → ∃ v B C, σ[i]? = some (some v) ∧ Own K cl F H d v B ∧ EnvR K cl F H (ρ.set i none) σ C ∧ ∀ x, B x + C x ≤ A x
  | [], _, _, _, _, _, h => by simp at h
  | none :: ρ, σ, A, 0, d, h, e => by simp at e
  | none :: ρ, σ, A, i + 1, d, h, e => by
    obtain ⟨s, r, es, h⟩ := h
    obtain ⟨v, B, C, p, q, t, u⟩ := EnvR.get (i := i) h (by simpa using e)
    exact ⟨v, B, C, by rw [es]; simpa using p, q, ⟨s, r, es, t⟩, u⟩
  | some d' :: ρ, σ, A, 0, d, h, e => by
    obtain ⟨v, r, B, C, es, p, q, s⟩ := h
    have e' : d' = d := by simpa using e
    subst e'
    exact ⟨v, B, C, by rw [es]; rfl, p, ⟨_, r, es, q⟩, s⟩
  | some d' :: ρ, σ, A, i + 1, d, h, e => by
    obtain ⟨v, r, B, C, es, p, q, s⟩ := h
    obtain ⟨v', B', C', p', q', t', u'⟩ := EnvR.get (i := i) q (by simpa using e)
    refine ⟨v', B', fun x => B x + C' x, by rw [es]; simpa using p', q', ⟨v, r, B, C', es, p, t', fun x => Nat.le_refl _⟩, fun x => ?_⟩
    have := s x; have := u' x
    show B' x + (B x + C' x) ≤ A x
    omega
theorem EnvR.put : ∀ {ρ : Rho} {σ : St} {A B : Fp} {i : Nat} {d : D} {v : V}, EnvR K cl F H ρ σ A → Own K cl F H d v B → EnvR K cl F H (ρ.set i (some d)) (σ.set i (some v)) (fun x => B x + A x)
  | [], σ, A, B, i, d, v, h, _ => by
    have e : σ = [] := h
    subst e
    exact rfl
  | none :: ρ, σ, A, B, 0, d, v, h, o => by
    obtain ⟨s, r, es, h⟩ := h
    subst es
    exact ⟨v, r, B, A, rfl, o, h, fun x => Nat.le_refl _⟩
  | none :: ρ, σ, A, B, i + 1, d, v, h, o => by
    obtain ⟨s, r, es, h⟩ := h
    subst es
    exact ⟨s, _, rfl, EnvR.put h o⟩
  | some d' :: ρ, σ, A, B, 0, d, v, h, o => by
    obtain ⟨v', r, B', C, es, p, q, s⟩ := h
    subst es
    refine ⟨v, r, B, C, rfl, o, q, fun x => ?_⟩
    have := s x
    show B x + C x ≤ B x + A x
    omega
  | some d' :: ρ, σ, A, B, i + 1, d, v, h, o => by
    obtain ⟨v', r, B', C, es, p, q, s⟩ := h
    subst es
    refine ⟨v', _, B', fun x => B x + C x, rfl, p, EnvR.put q o, fun x => ?_⟩
    have := s x
    show B' x + (B x + C x) ≤ B x + A x
    omega
/-- to know less -/
theorem EnvR.drop : ∀ {ρ : Rho} {σ : St} {A : Fp} (i : Nat), EnvR K cl F H ρ σ A → EnvR K cl F H (ρ.set i none) σ A
  | [], _, _, _, h => h
  | none :: ρ, σ, A, 0, h => h
  | none :: ρ, σ, A, i + 1, h => by
    obtain ⟨s, r, es, h⟩ := h
    exact ⟨s, r, es, EnvR.drop i h⟩
  | some d' :: ρ, σ, A, 0, h => by
    obtain ⟨v', r, B', C, es, p, q, s⟩ := h
    exact ⟨_, r, es, q.up fun x => by have := s x; omega⟩
  | some d' :: ρ, σ, A, i + 1, h => by
    obtain ⟨v', r, B', C, es, p, q, s⟩ := h
    exact ⟨v', r, B', C, es, p, EnvR.drop i q, s⟩
end
end FL

set_option Elab.async false
set_option linter.all false
set_option maxRecDepth 100000
namespace FL
open PySem L2

/-- what a part of the program comes to -/
inductive RX (α : Type) where
  | ok (a : α) (ρ : Rho)
  | ex (c : Nat) (ds : List D) (ρ : Rho)
  | bad
def RX.bind {α β : Type} (r : RX α) (k : α → Rho → RX β) : RX β :=
  match r with
  | .ok a ρ => k a ρ
  | .ex c ds ρ => .ex c ds ρ
  | .bad => .bad
inductive RS where
  | nx (ρ : Rho) | rt (d : D) | bk (ρ : Rho) | ct (ρ : Rho) | ex (c : Nat) (ds : List D) (ρ : Rho) | bad
def RX.stmt {α : Type} (r : RX α) (k : α → Rho → RS) : RS :=
  match r with
  | .ok a ρ => k a ρ
  | .ex c ds ρ => .ex c ds ρ
  | .bad => .bad
def RS.seq (r : RS) (k : Rho → RS) : RS :=
  match r with
  | .nx ρ => k ρ
  | r => r

section
variable (K : PySem.W.Frag) (cl : Tb) (G : Gh)
/-- a state that follows -/
structure Ev (F H : Hp) (R : Fp) (F' H' : Hp) (σ : St) (ρ' : Rho) (A' B : Fp) : Prop where
  le : Le F F'
  ag : ∀ a, 0 < R a → H' a = H a
  st : Sta G F' H' (fun x => A' x + (B x + R x))
  en : EnvR K cl F' H' ρ' σ A'
def ExR (F : Hp) (c : Nat) (ds : List D) (v : Value) (d : Option Addr) : Prop :=
  v = .ref (cl c).at_ ∧ ∃ dd xs, d = some dd ∧ F dd = some (.xd ((cl c).fs.zip xs)) ∧ Owns K cl F F ds xs zf
end

section
variable {K : PySem.W.Frag} {cl : Tb} {G : Gh} {F H F' H' F'' H'' : Hp} {R B A' A'' B'' : Fp} {σ σ' : St} {ρ' ρ'' : Rho}
theorem Ev.self {ρ : Rho} {A : Fp} (st : Sta G F H (fun x => A x + R x)) (en : EnvR K cl F H ρ σ A) : Ev K cl G F H R F H σ ρ A zf :=
  ⟨Le.refl, fun _ _ => rfl, st.less fun x => by show A x + (zf x + R x) ≤ A x + R x; unfold zf; omega, en⟩
theorem Ev.trans (e : Ev K cl G F H R F' H' σ ρ' A' B) (e' : Ev K cl G F' H' (fun x => B x + R x) F'' H'' σ' ρ'' A'' B'') : Ev K cl G F H R F'' H'' σ' ρ'' A'' B'' :=
  ⟨e.le.trans e'.le, fun a ha => (e'.ag a (by show 0 < B a + R a; omega)).trans (e.ag a ha), e'.st.less fun x => by show A'' x + (B'' x + R x) ≤ A'' x + (B'' x + (B x + R x)); omega, e'.en⟩
/-- what was held ahead is held -/
theorem Ev.keep (e : Ev K cl G F H (fun x => B x + R x) F' H' σ ρ' A' B'') {d : D} {v : V} (o : Own K cl F H d v B) : Own K cl F' H' d v B :=
  o.mono e.le (fun a ha => ⟨e.ag a (by show 0 < B a + R a; omega), (e.st.own a (by show 0 < A' a + (B'' a + (B a + R a)); omega)).1⟩) fun _ => Nat.le_refl _
theorem Ev.keeps (e : Ev K cl G F H (fun x => B x + R x) F' H' σ ρ' A' B'') {d : List D} {v : List V} (o : Owns K cl F H d v B) : Owns K cl F' H' d v B :=
  o.mono e.le (fun a ha => ⟨e.ag a (by show 0 < B a + R a; omega), (e.st.own a (by show 0 < A' a + (B'' a + (B a + R a)); omega)).1⟩) fun _ => Nat.le_refl _
/-- less is held by hand -/
theorem Ev.lessB {B' : Fp} (e : Ev K cl G F H R F' H' σ ρ' A' B) (h : ∀ x, B' x ≤ B x) : Ev K cl G F H R F' H' σ ρ' A' B' :=
  ⟨e.le, e.ag, e.st.less fun x => by have := h x; show A' x + (B' x + R x) ≤ A' x + (B x + R x); omega, e.en⟩
theorem Ev.lessR {R' : Fp} (e : Ev K cl G F H R F' H' σ ρ' A' B) (h : ∀ x, R' x ≤ R x) : Ev K cl G F H R' F' H' σ ρ' A' B :=
  ⟨e.le, fun a ha => e.ag a (Nat.lt_of_lt_of_le ha (h a)), e.st.less fun x => by have := h x; show A' x + (B x + R' x) ≤ A' x + (B x + R x); omega, e.en⟩
end

/-! ### readings -/
abbrev WX' := Value → Option Addr → St → Hp → Prop
section
variable (K : PySem.W.Frag) (cl : Tb) (W : WX') {α β : Type} (rep : Hp → Hp → α → β → Fp → Prop)
def Pst (G : Gh) (F H : Hp) (σ : St) (R : Fp) (r : RX α) (Q : β → Hp → Prop) : Prop :=
  match r with
  | .ok a ρ' => ∀ v F' H' A' B, Ev K cl G F H R F' H' σ ρ' A' B → rep F' H' a v B → Q v H'
  | .ex c ds ρ' => ∀ u d F' H' A', Ev K cl G F H R F' H' σ ρ' A' zf → ExR K cl F' c ds u d → W u d σ H'
  | .bad => False
def tX (m : Rho → RX α) (σ : St) (H : Hp) (Q : β → Hp → Prop) : Prop :=
  ∃ G F ρ A R, Sta G F H (fun x => A x + R x) ∧ EnvR K cl F H ρ σ A ∧ Pst K cl W rep G F H σ R (m ρ) Q
def SPst (G : Gh) (F H : Hp) (R : Fp) (r : RS) (E : Ends) : Prop :=
  match r with
  | .nx ρ' => ∀ σ F' H' A', Ev K cl G F H R F' H' σ ρ' A' zf → E.nx σ H'
  | .bk ρ' => ∀ σ F' H' A', Ev K cl G F H R F' H' σ ρ' A' zf → E.bk σ H'
  | .ct ρ' => ∀ σ F' H' A', Ev K cl G F H R F' H' σ ρ' A' zf → E.ct σ H'
  | .rt d => ∀ v F' H' B, Ev K cl G F H R F' H' [] [] zf B → Own K cl F' H' d v B → E.rt v H'
  | .ex c ds ρ' => ∀ u d σ F' H' A', Ev K cl G F H R F' H' σ ρ' A' zf → ExR K cl F' c ds u d → W u d σ H'
  | .bad => False
def tS (m : Rho → RS) (E : Ends) (σ : St) (H : Hp) : Prop :=
  ∃ G F ρ A R, Sta G F H (fun x => A x + R x) ∧ EnvR K cl F H ρ σ A ∧ SPst K cl W G F H R (m ρ) E
end
def rD (K : PySem.W.Frag) (cl : Tb) : Hp → Hp → D → V → Fp → Prop := fun F H d v B => Own K cl F H d v B
def rL (K : PySem.W.Frag) (cl : Tb) : Hp → Hp → List D → List V → Fp → Prop := fun F H d v B => Owns K cl F H d v B
def rB : Hp → Hp → Bool → Bool → Fp → Prop := fun _ _ a b _ => a = b
/-- a path that is looked at: its footprint lies in the frame's -/
abbrev FE (X : Cx) (cl : Tb) (W : WX') (e : Expr) (m : Rho → RX D) : Prop := PE X e (tX X.K cl W (rD X.K cl) m)
abbrev FT (X : Cx) (cl : Tb) (W : WX') (e : Expr) (m : Rho → RX Bool) : Prop := PT X e (tX X.K cl W rB m)
abbrev FA (X : Cx) (cl : Tb) (W : WX') (es : List Expr) (m : Rho → RX (List D)) : Prop := PA X es (tX X.K cl W (rL X.K cl) m)
abbrev FS (X : Cx) (cl : Tb) (W : WX') (s : Stmt) (m : Rho → RS) : Prop := PS X s (tS X.K cl W m)
abbrev FSs (X : Cx) (cl : Tb) (W : WX') (s : List Stmt) (m : Rho → RS) : Prop := PSs X s (tS X.K cl W m)

theorem PE_imp {X : Cx} {e : Expr} {t t' : TE} (h : PE X e t) (i : ∀ σ H Q, t' σ H Q → t σ H Q) : PE X e t' := ⟨fun pins s σ H Q I q => h.run pins s σ H Q I (i σ H Q q)⟩
theorem PT_imp {X : Cx} {e : Expr} {t t' : TT} (h : PT X e t) (i : ∀ σ H Q, t' σ H Q → t σ H Q) : PT X e t' := ⟨fun pins s σ H Q I q => h.run pins s σ H Q I (i σ H Q q)⟩
theorem PA_imp {X : Cx} {e : List Expr} {t t' : TA} (h : PA X e t) (i : ∀ σ H Q, t' σ H Q → t σ H Q) : PA X e t' := ⟨fun pos pins s σ H Q I q => h.run pos pins s σ H Q I (i σ H Q q)⟩
theorem PS_imp {X : Cx} {e : Stmt} {t t' : TS} (h : PS X e t) (i : ∀ D σ H, t' D σ H → t D σ H) : PS X e t' := ⟨fun pins s σ H D I q => h.run pins s σ H D I (i D σ H q)⟩
theorem PSs_imp {X : Cx} {e : List Stmt} {t t' : TS} (h : PSs X e t) (i : ∀ D σ H, t' D σ H → t D σ H) : PSs X e t' := ⟨fun pins s σ H D I q => h.run pins s σ H D I (i D σ H q)⟩

section
variable {K : PySem.W.Frag} {cl : Tb} {W : WX'} {α β α' β' : Type} {rep : Hp → Hp → α → β → Fp → Prop} {rep' : Hp → Hp → α' → β' → Fp → Prop}
variable {G : Gh} {F H F' H' : Hp} {R B A' : Fp} {σ : St} {ρ' : Rho}
theorem Ev.thenR (e : Ev K cl G F H R F' H' σ ρ' A' B) {F'' H'' : Hp} {σ' : St} {ρ'' : Rho} {A'' B'' : Fp} (e' : Ev K cl G F' H' R F'' H'' σ' ρ'' A'' B'') : Ev K cl G F H R F'' H'' σ' ρ'' A'' B'' :=
  ⟨e.le.trans e'.le, fun a ha => (e'.ag a ha).trans (e.ag a ha), e'.st, e'.en⟩
theorem Pst.next {r : RX α} {Q : β → Hp → Prop} (h : Pst K cl W rep G F H σ R r Q) (e : Ev K cl G F H R F' H' σ ρ' A' B) : Pst K cl W rep G F' H' σ R r Q := by
  cases r with
  | ok a ρ => exact fun v F2 H2 A2 B2 e2 o => h v F2 H2 A2 B2 (e.thenR e2) o
  | ex c ds ρ => exact fun u d F2 H2 A2 e2 o => h u d F2 H2 A2 (e.thenR e2) o
  | bad => exact h
theorem SPst.next {r : RS} {E : Ends} (h : SPst K cl W G F H R r E) {σ : St} (e : Ev K cl G F H R F' H' σ ρ' A' B) : SPst K cl W G F' H' R r E := by
  cases r with
  | nx ρ => exact fun s F2 H2 A2 e2 => h s F2 H2 A2 (e.thenR e2)
  | bk ρ => exact fun s F2 H2 A2 e2 => h s F2 H2 A2 (e.thenR e2)
  | ct ρ => exact fun s F2 H2 A2 e2 => h s F2 H2 A2 (e.thenR e2)
  | rt d => exact fun v F2 H2 B2 e2 o => h v F2 H2 B2 (e.thenR e2) o
  | ex c ds ρ => exact fun u d s F2 H2 A2 e2 o => h u d s F2 H2 A2 (e.thenR e2) o
  | bad => exact h
/-- r is run while C is held -/
theorem Pst.bindC {C : Fp} {r : RX α} {k : α → Rho → RX α'} {Q : β' → Hp → Prop} {P : β → Hp → Prop} (h : Pst K cl W rep' G F H σ R (r.bind k) Q)
    (hk : ∀ a ρ' v F' H' A' B, Ev K cl G F H (fun x => C x + R x) F' H' σ ρ' A' B → rep F' H' a v B → Pst K cl W rep' G F' H' σ R (k a ρ') Q → P v H') : Pst K cl W rep G F H σ (fun x => C x + R x) r P := by
  have hr : ∀ x, R x ≤ C x + R x := fun x => Nat.le_add_left _ _
  cases r with
  | ok a ρ => exact fun v F2 H2 A2 B2 e2 o => hk a ρ v F2 H2 A2 B2 e2 o (Pst.next (r := k a ρ) h (e2.lessR hr))
  | ex c ds ρ => exact fun u d F2 H2 A2 e2 o => h u d F2 H2 A2 (e2.lessR hr) o
  | bad => exact h
theorem Pst.bind {r : RX α} {k : α → Rho → RX α'} {Q : β' → Hp → Prop} {P : β → Hp → Prop} (h : Pst K cl W rep' G F H σ R (r.bind k) Q)
    (hk : ∀ a ρ' v F' H' A' B, Ev K cl G F H R F' H' σ ρ' A' B → rep F' H' a v B → Pst K cl W rep' G F' H' σ R (k a ρ') Q → P v H') : Pst K cl W rep G F H σ R r P := by
  cases r with
  | ok a ρ => exact fun v F2 H2 A2 B2 e2 o => hk a ρ v F2 H2 A2 B2 e2 o (Pst.next (r := k a ρ) h e2)
  | ex c ds ρ => exact fun u d F2 H2 A2 e2 o => h u d F2 H2 A2 e2 o
  | bad => exact h
theorem Pst.stmtC {C : Fp} {r : RX α} {k : α → Rho → RS} {E : Ends} {P : β → Hp → Prop} (h : SPst K cl W G F H R (r.stmt k) E)
    (hk : ∀ a ρ' v F' H' A' B, Ev K cl G F H (fun x => C x + R x) F' H' σ ρ' A' B → rep F' H' a v B → SPst K cl W G F' H' R (k a ρ') E → P v H') : Pst K cl W rep G F H σ (fun x => C x + R x) r P := by
  have hr : ∀ x, R x ≤ C x + R x := fun x => Nat.le_add_left _ _
  cases r with
  | ok a ρ => exact fun v F2 H2 A2 B2 e2 o => hk a ρ v F2 H2 A2 B2 e2 o (SPst.next (r := k a ρ) h (e2.lessR hr))
  | ex c ds ρ => exact fun u d F2 H2 A2 e2 o => h u d σ F2 H2 A2 (e2.lessR hr) o
  | bad => exact h
theorem Pst.stmt {r : RX α} {k : α → Rho → RS} {E : Ends} {P : β → Hp → Prop} (h : SPst K cl W G F H R (r.stmt k) E)
    (hk : ∀ a ρ' v F' H' A' B, Ev K cl G F H R F' H' σ ρ' A' B → rep F' H' a v B → SPst K cl W G F' H' R (k a ρ') E → P v H') : Pst K cl W rep G F H σ R r P := by
  cases r with
  | ok a ρ => exact fun v F2 H2 A2 B2 e2 o => hk a ρ v F2 H2 A2 B2 e2 o (SPst.next (r := k a ρ) h e2)
  | ex c ds ρ => exact fun u d F2 H2 A2 e2 o => h u d σ F2 H2 A2 e2 o
  | bad => exact h
theorem Pst.hold {C : Fp} {r : RX α} {Q : β → Hp → Prop} (h : Pst K cl W rep G F H σ R r Q) : Pst K cl W rep G F H σ (fun x => C x + R x) r Q := by
  have hr : ∀ x, R x ≤ C x + R x := fun x => Nat.le_add_left _ _
  cases r with
  | ok a ρ => exact fun v F2 H2 A2 B2 e2 o => h v F2 H2 A2 B2 (e2.lessR hr) o
  | ex c ds ρ => exact fun u d F2 H2 A2 e2 o => h u d F2 H2 A2 (e2.lessR hr) o
  | bad => exact h
theorem SPst.hold {C : Fp} {r : RS} {E : Ends} (h : SPst K cl W G F H R r E) : SPst K cl W G F H (fun x => C x + R x) r E := by
  have hr : ∀ x, R x ≤ C x + R x := fun x => Nat.le_add_left _ _
  cases r with
  | nx ρ => exact fun s F2 H2 A2 e2 => h s F2 H2 A2 (e2.lessR hr)
  | bk ρ => exact fun s F2 H2 A2 e2 => h s F2 H2 A2 (e2.lessR hr)
  | ct ρ => exact fun s F2 H2 A2 e2 => h s F2 H2 A2 (e2.lessR hr)
  | rt d => exact fun v F2 H2 B2 e2 o => h v F2 H2 B2 (e2.lessR hr) o
  | ex c ds ρ => exact fun u d s F2 H2 A2 e2 o => h u d s F2 H2 A2 (e2.lessR hr) o
  | bad => exact h
theorem tX.run {m : Rho → RX α} {Q : β → Hp → Prop} (e : Ev K cl G F H R F' H' σ ρ' A' B) (p : Pst K cl W rep G F' H' σ (fun x => B x + R x) (m ρ') Q) : tX K cl W rep m σ H' Q :=
  ⟨G, F', ρ', A', fun x => B x + R x, e.st, e.en, p⟩
/-- nothing is held -/
theorem tX.run0 {m : Rho → RX α} {Q : β → Hp → Prop} (e : Ev K cl G F H R F' H' σ ρ' A' B) (p : Pst K cl W rep G F' H' σ R (m ρ') Q) : tX K cl W rep m σ H' Q :=
  ⟨G, F', ρ', A', R, e.st.less fun x => by show A' x + R x ≤ A' x + (B x + R x); omega, e.en, p⟩
theorem tS.run0 {m : Rho → RS} {E : Ends} (e : Ev K cl G F H R F' H' σ ρ' A' B) (p : SPst K cl W G F' H' R (m ρ') E) : tS K cl W m E σ H' :=
  ⟨G, F', ρ', A', R, e.st.less fun x => by show A' x + R x ≤ A' x + (B x + R x); omega, e.en, p⟩
theorem tS.run {m : Rho → RS} {E : Ends} (e : Ev K cl G F H R F' H' σ ρ' A' B) (p : SPst K cl W G F' H' (fun x => B x + R x) (m ρ') E) : tS K cl W m E σ H' :=
  ⟨G, F', ρ', A', fun x => B x + R x, e.st, e.en, p⟩
end
end FL

set_option Elab.async false
set_option linter.all false
set_option maxRecDepth 100000
namespace FL
open PySem L2

/-! ### expressions -/
def eC (d : D) : Rho → RX D := fun ρ => .ok d ρ
/-- a name: what it holds is frozen -/
def eV (i : Nat) : Rho → RX D := fun ρ => match ρ[i]? with | some (some d) => .ok d.frz (ρ.set i (some d.frz)) | _ => .bad
/-- a name's last use -/
def eM (i : Nat) : Rho → RX D := fun ρ => match ρ[i]? with | some (some d) => .ok d (ρ.set i none) | _ => .bad
def opt (o : Option D) (ρ : Rho) : RX D := match o with | some d => .ok d ρ | none => .bad
def eBin (f : D → D → Option D) (a b : Rho → RX D) : Rho → RX D := fun ρ => (a ρ).bind fun x ρ1 => (b ρ1).bind fun y ρ2 => opt (f x y) ρ2
def eUn (f : D → Option D) (a : Rho → RX D) : Rho → RX D := fun ρ => (a ρ).bind fun x ρ1 => opt (f x) ρ1
def aNil : Rho → RX (List D) := fun ρ => .ok [] ρ
def aCons (a : Rho → RX D) (b : Rho → RX (List D)) : Rho → RX (List D) := fun ρ => (a ρ).bind fun x ρ1 => (b ρ1).bind fun y ρ2 => .ok (x :: y) ρ2
noncomputable def cap (n : Nat) : Bool := yes (n < 16777216)
noncomputable def eTup (a : Rho → RX (List D)) : Rho → RX D := fun ρ => (a ρ).bind fun x ρ1 => if cap x.length then .ok (.tup x) ρ1 else .bad
noncomputable def eLst (a : Rho → RX (List D)) : Rho → RX D := fun ρ => (a ρ).bind fun x ρ1 => if cap x.length then .ok (.vec x) ρ1 else .bad
/-- a built-in called -/
def eFn (f : List D → Option D) (a : Rho → RX (List D)) : Rho → RX D := fun ρ => (a ρ).bind fun x ρ1 => opt (f x) ρ1
def tB1 (a : Rho → RX D) : Rho → RX Bool := fun ρ => (a ρ).bind fun x ρ1 => match x with | .bl b => .ok b ρ1 | _ => .bad
def tAnd (a b : Rho → RX Bool) : Rho → RX Bool := fun ρ => (a ρ).bind fun x ρ1 => if x then b ρ1 else .ok false ρ1
def tOr (a b : Rho → RX Bool) : Rho → RX Bool := fun ρ => (a ρ).bind fun x ρ1 => if x then .ok true ρ1 else b ρ1
def tNot (a : Rho → RX Bool) : Rho → RX Bool := fun ρ => (a ρ).bind fun x ρ1 => .ok (!x) ρ1
def andX : D → RX D → Rho → RX D
  | .bl true, k, _ => k
  | .bl false, _, ρ => .ok (.bl false) ρ
  | _, _, _ => .bad
def orX : D → RX D → Rho → RX D
  | .bl true, _, ρ => .ok (.bl true) ρ
  | .bl false, k, _ => k
  | _, _, _ => .bad
def eAnd (a b : Rho → RX D) : Rho → RX D := fun ρ => (a ρ).bind fun x ρ1 => andX x (b ρ1) ρ1
def eOr (a b : Rho → RX D) : Rho → RX D := fun ρ => (a ρ).bind fun x ρ1 => orX x (b ρ1) ρ1
def eNot (a : Rho → RX D) : Rho → RX D := fun ρ => (a ρ).bind fun x ρ1 => match x with | .bl b => .ok (.bl (!b)) ρ1 | _ => .bad
def eIf (t : Rho → RX Bool) (a b : Rho → RX D) : Rho → RX D := fun ρ => (t ρ).bind fun x ρ1 => if x then a ρ1 else b ρ1

section
variable {X : Cx} {cl : Tb} {W : WX'} {K : PySem.W.Frag}
variable {G : Gh} {F H F' H' : Hp} {R B A A' : Fp} {σ : St} {ρ ρ' : Rho}

/-- a result without a footprint, where one stands -/
theorem Pst.ok {α β : Type} {rep : Hp → Hp → α → β → Fp → Prop} {a : α} {v : β} {Q : β → Hp → Prop} (p : Pst K cl W rep G F' H' σ R (.ok a ρ') Q) (e : Ev K cl G F H R F' H' σ ρ' A' B) (o : rep F' H' a v zf) : Q v H' :=
  p v F' H' A' zf (Ev.self (e.st.less fun x => by show A' x + R x ≤ A' x + (B x + R x); omega) e.en) o
theorem Pst.okB {α β : Type} {rep : Hp → Hp → α → β → Fp → Prop} {a : α} {v : β} {Q : β → Hp → Prop} (p : Pst K cl W rep G F H σ R (.ok a ρ') Q) (st : Sta G F H (fun x => A x + (B x + R x))) (en : EnvR K cl F H ρ' σ A) (o : rep F H a v B) : Q v H :=
  p v F H A B ⟨Le.refl, fun _ _ => rfl, st, en⟩ o

theorem fe_const {e : Expr} {d : D} {v : V} (h : PE X e (tC v)) (hd : ∀ F H, Own X.K cl F H d v zf) : FE X cl W e (eC d) := PE_imp h fun σ H Q q => by
  obtain ⟨G, F, ρ, A, R, st, en, p⟩ := q
  exact p v F H A zf (Ev.self st en) (hd F H)
theorem fe_int {i j pos} : FE X cl W (.Constant (.int i) j pos) (eC (.int i)) := fe_const pe_int fun _ _ => rfl
theorem fe_bl {b j pos} : FE X cl W (.Constant (.bool b) j pos) (eC (.bl b)) := fe_const pe_bl fun _ _ => rfl
theorem fe_non {j pos} : FE X cl W (.Constant .none j pos) (eC .non) := fe_const pe_non fun _ _ => rfl
theorem fe_str {x j pos} : FE X cl W (.Constant (.str x) j pos) (eC (.str x)) := fe_const pe_str fun _ _ => rfl

/-- an owned thing is frozen -/
theorem freeze_st {d : D} {v : V} {C : Fp} (st : Sta G F H (fun x => C x + (B x + R x))) (o : Own K cl F H d v B) :
    ∃ F', Le F F' ∧ Sta G F' H (fun x => C x + R x) ∧ Own K cl F' H d.frz v zf := by
  have hown : ∀ a, 0 < B a → F a = none ∧ G.E a = none ∧ ∃ o, H a = some o := fun a ha => st.own a (by show 0 < C a + (B a + R a); omega)
  have hnd : ∀ a, C a + (B a + R a) ≤ 1 := st.nd
  refine ⟨fun a => if 0 < B a then H a else F a, fun a o e => ?_, ⟨fun a o e => ?_, st.ent, fun a o e => ?_, fun a o e => ?_, fun a ha => ?_, fun a => by have := hnd a; show C a + R a ≤ 1; omega, fun a xs ha => st.nt a xs (by have ha' : 0 < C a + R a := ha; show 0 < C a + (B a + R a); omega)⟩, ?_⟩
  · show (if 0 < B a then H a else F a) = some o
    split
    · rename_i hb; rw [(hown a hb).1] at e; cases e
    · exact e
  · have e' : (if 0 < B a then H a else F a) = some o := e
    split at e'
    · exact e'
    · exact st.sub a o e'
  · show (if 0 < B a then H a else F a) = some o
    split
    · rename_i hb
      have := st.low a o e
      rw [(hown a hb).1] at this; cases this
    · exact st.low a o e
  · have e' : (if 0 < B a then H a else F a) = some o := e
    split at e'
    · rename_i hb; exact .inr (.inl (hown a hb).2.1)
    · exact st.fr a o e'
  · have ha' : 0 < C a + R a := ha
    have h1 := st.own a (by show 0 < C a + (B a + R a); omega)
    refine ⟨?_, h1.2⟩
    show (if 0 < B a then H a else F a) = none
    rw [if_neg (by have := hnd a; omega)]
    exact h1.1
  · refine o.freeze (fun a o' e => ?_) fun a ha => ?_
    · show (if 0 < B a then H a else F a) = some o'
      split
      · rename_i hb; rw [(hown a hb).1] at e; cases e
      · exact e
    · show (if 0 < B a then H a else F a) = H a
      rw [if_pos ha]

theorem fe_var {i : Nat} {x : Str} {pos : Pos} (h : PE X (.Name x pos) (tVar i)) : FE X cl W (.Name x pos) (eV i) := PE_imp h fun σ H Q q => by
  obtain ⟨G, F, ρ, A, R, st, en, p⟩ := q
  unfold eV at p
  cases e : ρ[i]? with
  | none => rw [e] at p; exact p.elim
  | some o =>
    cases o with
    | none => rw [e] at p; exact p.elim
    | some d =>
      rw [e] at p
      obtain ⟨v, B, C, hv, o, en', hs⟩ := en.get e
      refine ⟨v, hv, ?_⟩
      obtain ⟨F', le, st', o'⟩ := freeze_st (B := B) (R := R) (C := C) (st.less fun x => by have := hs x; show C x + (B x + R x) ≤ A x + R x; omega) o
      have hi : i < ρ.length := (List.getElem?_eq_some_iff.mp e).1
      have en2 : EnvR X.K cl F' H (ρ.set i none) σ C := en'.mono le (fun a ha => ⟨rfl, (st'.own a (by show 0 < C a + R a; omega)).1⟩) fun _ => Nat.le_refl _
      have en3 := en2.put (i := i) o'
      rw [List.set_set] at en3
      have hσ : σ.set i (some v) = σ := by
        obtain ⟨hl, hg⟩ := List.getElem?_eq_some_iff.mp hv
        rw [← hg]
        exact List.set_getElem_self hl
      rw [hσ] at en3
      exact p v F' H (fun x => zf x + C x) zf ⟨le, fun _ _ => rfl, st'.less fun x => by show zf x + C x + (zf x + R x) ≤ C x + R x; unfold zf; omega, en3⟩ o'
theorem fe_move {i : Nat} {x : Str} {pos : Pos} (h : PE X (.Name x pos) (tVar i)) : FE X cl W (.Name x pos) (eM i) := PE_imp h fun σ H Q q => by
  obtain ⟨G, F, ρ, A, R, st, en, p⟩ := q
  unfold eM at p
  cases e : ρ[i]? with
  | none => rw [e] at p; exact p.elim
  | some o =>
    cases o with
    | none => rw [e] at p; exact p.elim
    | some d =>
      rw [e] at p
      obtain ⟨v, B, C, hv, o, en', hs⟩ := en.get e
      exact ⟨v, hv, Pst.okB p (st.less fun x => by have := hs x; show C x + (B x + R x) ≤ A x + R x; omega) en' o⟩

/-- a built-in rule over data: r is HandS' reading of it -/
def Does2 (X : Cx) (cl : Tb) (f : D → D → Option D) (r : R2) : Prop :=
  ∀ (x y d : D), f x y = some d → ∀ (G : Gh) (F H : Hp) (S B C : Fp) (vx vy : V) (Q : VK), Sta G F H (fun z => B z + (C z + S z)) → Own X.K cl F H x vx C → Own X.K cl F H y vy B →
    (∀ v F' H' B', Le F F' → (∀ a, 0 < S a → H' a = H a) → Sta G F' H' (fun z => B' z + S z) → Own X.K cl F' H' d v B' → Q v H') → r vx vy H Q
def Does1 (X : Cx) (cl : Tb) (f : D → Option D) (r : V → Hp → VK → Prop) : Prop :=
  ∀ (x d : D), f x = some d → ∀ (G : Gh) (F H : Hp) (S C : Fp) (vx : V) (Q : VK), Sta G F H (fun z => C z + S z) → Own X.K cl F H x vx C →
    (∀ v F' H' B', Le F F' → (∀ a, 0 < S a → H' a = H a) → Sta G F' H' (fun z => B' z + S z) → Own X.K cl F' H' d v B' → Q v H') → r vx H Q
def DoesL (X : Cx) (cl : Tb) (f : List D → Option D) (r : List V → Hp → VK → Prop) : Prop :=
  ∀ (x : List D) (d : D), f x = some d → ∀ (G : Gh) (F H : Hp) (S C : Fp) (vx : List V) (Q : VK), Sta G F H (fun z => C z + S z) → Owns X.K cl F H x vx C →
    (∀ v F' H' B', Le F F' → (∀ a, 0 < S a → H' a = H a) → Sta G F' H' (fun z => B' z + S z) → Own X.K cl F' H' d v B' → Q v H') → r vx H Q
/-- behind such a rule -/
theorem Pst.does {d : D} {Q : VK} (p : Pst K cl W (rD K cl) G F H σ R (.ok d ρ) Q) (st : Sta G F H (fun x => A x + R x)) (en : EnvR K cl F H ρ σ A) :
    ∀ v F' H' B', Le F F' → (∀ a, 0 < A a + R a → H' a = H a) → Sta G F' H' (fun z => B' z + (A z + R z)) → Own K cl F' H' d v B' → Q v H' := fun v F' H' B' le ag st' o =>
  p v F' H' A B' ⟨le, fun a ha => ag a (by omega), st'.less fun z => by show A z + (B' z + R z) ≤ B' z + (A z + R z); omega,
    en.mono le (fun a ha => ⟨ag a (by omega), (st'.own a (by show 0 < B' a + (A a + R a); omega)).1⟩) fun _ => Nat.le_refl _⟩ o
theorem fe_bin {e : Expr} {a b : Rho → RX D} {f : D → D → Option D} {r : R2} (hf : Does2 X cl f r) (h : PE X e (tOp r (tX X.K cl W (rD X.K cl) a) (tX X.K cl W (rD X.K cl) b))) : FE X cl W e (eBin f a b) := PE_imp h fun σ H Q q => by
  obtain ⟨G, F, ρ, A, R, st, en, p⟩ := q
  refine ⟨G, F, ρ, A, R, st, en, Pst.bind p fun x ρ1 v1 F1 H1 A1 B1 e1 o1 p1 => ?_⟩
  refine tX.run e1 (Pst.bindC p1 fun y ρ2 v2 F2 H2 A2 B2 e2 o2 p2 => ?_)
  cases hd : f x y with
  | none => rw [hd] at p2; exact p2.elim
  | some d =>
    rw [hd] at p2
    refine hf x y d hd G F2 H2 (fun z => A2 z + R z) B2 B1 v1 v2 Q (e2.st.less fun z => ?_) (e2.keep o1) o2 (Pst.does p2 (e2.st.less fun z => ?_) e2.en)
    · show B2 z + (B1 z + (A2 z + R z)) ≤ A2 z + (B2 z + (B1 z + R z)); omega
    · show A2 z + R z ≤ A2 z + (B2 z + (B1 z + R z)); omega
theorem fe_un {e : Expr} {a : Rho → RX D} {f : D → Option D} {r : V → Hp → VK → Prop} (hf : Does1 X cl f r) (h : PE X e (tUn r (tX X.K cl W (rD X.K cl) a))) : FE X cl W e (eUn f a) := PE_imp h fun σ H Q q => by
  obtain ⟨G, F, ρ, A, R, st, en, p⟩ := q
  refine ⟨G, F, ρ, A, R, st, en, Pst.bind p fun x ρ1 v1 F1 H1 A1 B1 e1 o1 p1 => ?_⟩
  cases hd : f x with
  | none => rw [hd] at p1; exact p1.elim
  | some d =>
    rw [hd] at p1
    refine hf x d hd G F1 H1 (fun z => A1 z + R z) B1 v1 Q (e1.st.less fun z => ?_) o1 (Pst.does p1 (e1.st.less fun z => ?_) e1.en)
    · show B1 z + (A1 z + R z) ≤ A1 z + (B1 z + R z); omega
    · show A1 z + R z ≤ A1 z + (B1 z + R z); omega
theorem fe_fn {e : Expr} {a : Rho → RX (List D)} {f : List D → Option D} {r : List V → Hp → VK → Prop} (hf : DoesL X cl f r) (h : PE X e (tCB r (tX X.K cl W (rL X.K cl) a))) : FE X cl W e (eFn f a) := PE_imp h fun σ H Q q => by
  obtain ⟨G, F, ρ, A, R, st, en, p⟩ := q
  refine ⟨G, F, ρ, A, R, st, en, Pst.bind p fun x ρ1 v1 F1 H1 A1 B1 e1 o1 p1 => ?_⟩
  cases hd : f x with
  | none => rw [hd] at p1; exact p1.elim
  | some d =>
    rw [hd] at p1
    refine hf x d hd G F1 H1 (fun z => A1 z + R z) B1 v1 Q (e1.st.less fun z => ?_) o1 (Pst.does p1 (e1.st.less fun z => ?_) e1.en)
    · show B1 z + (A1 z + R z) ≤ A1 z + (B1 z + R z); omega
    · show A1 z + R z ≤ A1 z + (B1 z + R z); omega

/-! ### lists of expressions, displays -/
theorem fa_nil : FA X cl W [] aNil := PA_imp pa_nil fun σ H Q q => by
  obtain ⟨G, F, ρ, A, R, st, en, p⟩ := q
  exact p [] F H A zf (Ev.self st en) rfl
theorem fa_cons {e : Expr} {es : List Expr} {a : Rho → RX D} {b : Rho → RX (List D)} (ha : FE X cl W e a) (hb : FA X cl W es b)
    (hs : starEach (e :: es) X.env = (false, eval e X.env) :: starEach es X.env := by rfl) : FA X cl W (e :: es) (aCons a b) := PA_imp (pa_cons ha hb hs) fun σ H Q q => by
  obtain ⟨G, F, ρ, A, R, st, en, p⟩ := q
  refine ⟨G, F, ρ, A, R, st, en, Pst.bind p fun x ρ1 v1 F1 H1 A1 B1 e1 o1 p1 => ?_⟩
  refine tX.run e1 (Pst.bindC p1 fun y ρ2 v2 F2 H2 A2 B2 e2 o2 p2 => ?_)
  exact Pst.okB (B := fun z => B1 z + B2 z) p2 (e2.st.less fun z => by show A2 z + (B1 z + B2 z + R z) ≤ A2 z + (B2 z + (B1 z + R z)); omega) e2.en ⟨v1, v2, B1, B2, rfl, e2.keep o1, o2, fun _ => Nat.le_refl _⟩

/-- a new object is laid: frozen, or owned -/
theorem lay_frozen {p : Addr} {o : HO} {S : Fp} (st : Sta G F H S) (np : H p = none) : Le F (upd F p o) ∧ Sta G (upd F p o) (upd H p o) S := by
  have le : Le F (upd F p o) := fun a u e => by rw [upd_ne (ne_of_none (st.sub a u e) np)]; exact e
  refine ⟨le, fun a u e => ?_, fun a u e => ?_, fun a u e => le a u (st.low a u e), fun a u e => ?_, fun a ha => ?_, st.nd, fun a xs ha => ?_⟩
  · by_cases h : a = p
    · subst h; rw [upd_same] at e ⊢; exact e
    · rw [upd_ne h] at e ⊢; exact st.sub a u e
  · rw [upd_ne (ne_of_none (st.ent a u e) np)]; exact st.ent a u e
  · by_cases h : a = p
    · subst h
      right; left
      cases q : G.E a with
      | none => rfl
      | some w => rw [st.ent a w q] at np; cases np
    · rw [upd_ne h] at e; exact st.fr a u e
  · obtain ⟨h1, h2, u, h3⟩ := st.own a ha
    have ne : a ≠ p := ne_of_none h3 np
    exact ⟨by rw [upd_ne ne]; exact h1, h2, u, by rw [upd_ne ne]; exact h3⟩
  · obtain ⟨h1, h2, u, h3⟩ := st.own a ha
    rw [upd_ne (ne_of_none h3 np)]
    exact st.nt a xs ha
theorem lay_owned {p : Addr} {o : HO} {S : Fp} (st : Sta G F H S) (np : H p = none) (ho : ∀ xs, o ≠ .tup xs := by intro _ h; cases h) : F p = none ∧ S p = 0 ∧ Sta G F (upd H p o) (fun z => one p z + S z) := by
  have fp : F p = none := by
    cases q : F p with
    | none => rfl
    | some w => rw [st.sub p w q] at np; cases np
  have sp : S p = 0 := by
    cases q : S p with
    | zero => rfl
    | succ n =>
      obtain ⟨_, _, u, h3⟩ := st.own p (by omega)
      rw [h3] at np; cases np
  refine ⟨fp, sp, fun a u e => ?_, fun a u e => ?_, st.low, st.fr, fun a ha => ?_, fun a => ?_, fun a xs ha => ?_⟩
  · rw [upd_ne (ne_of_none (st.sub a u e) np)]; exact st.sub a u e
  · rw [upd_ne (ne_of_none (st.ent a u e) np)]; exact st.ent a u e
  · by_cases h : a = p
    · subst h
      refine ⟨fp, ?_, o, upd_same⟩
      cases q : G.E a with
      | none => rfl
      | some w => rw [st.ent a w q] at np; cases np
    · have ha' : 0 < one p a + S a := ha
      unfold one at ha'
      rw [if_neg h] at ha'
      obtain ⟨h1, h2, u, h3⟩ := st.own a (by omega)
      exact ⟨h1, h2, u, by rw [upd_ne h]; exact h3⟩
  · show one p a + S a ≤ 1
    unfold one
    split
    · rename_i h; subst h; omega
    · have := st.nd a; omega
  · by_cases h : a = p
    · subst h; rw [upd_same]; intro e; exact ho xs (Option.some.inj e)
    · rw [upd_ne h]
      have ha' : 0 < one p a + S a := ha
      unfold one at ha'
      rw [if_neg h] at ha'
      exact st.nt a xs (by omega)
/-- owned things are where they were behind a new object -/
theorem Owns.laid {S B : Fp} {p : Addr} {o : HO} {ds : List D} {vs : List V} (w : Owns K cl F H ds vs B) (st : Sta G F H (fun z => B z + S z)) (np : H p = none) (le : Le F F') (hF : ∀ a, 0 < B a → F' a = none) : Owns K cl F' (upd H p o) ds vs B :=
  w.mono le (fun a ha => by
    obtain ⟨_, _, u, h3⟩ := st.own a (by show 0 < B a + S a; omega)
    exact ⟨upd_ne (ne_of_none h3 np), hF a ha⟩) fun _ => Nat.le_refl _
theorem cap_line {n : Nat} (h : cap n = true) : n < sizeLine := by
  have e : sizeLine = 16777216 := sizeLine_eq
  have := of_yes h
  omega
theorem fe_tup {es : List Expr} {x1 pos} {a : Rho → RX (List D)} (h : FA X cl W es a) : FE X cl W (.Tuple es x1 pos) (eTup a) := PE_imp (pe_tup h) fun σ H Q q => by
  obtain ⟨G, F, ρ, A, R, st, en, p⟩ := q
  refine ⟨G, F, ρ, A, R, st, en, Pst.bind p fun x ρ1 v1 F1 H1 A1 B1 e1 o1 p1 => ?_⟩
  have hl : x.length = v1.length := Owns.length o1
  by_cases hc : cap x.length = true
  · rw [if_pos hc] at p1
    refine ⟨by rw [← hl]; exact Nat.le_of_lt (cap_line hc), fun q nq => ?_⟩
    have st1 : Sta G F1 H1 (fun z => B1 z + (A1 z + R z)) := e1.st.less fun z => by show B1 z + (A1 z + R z) ≤ A1 z + (B1 z + R z); omega
    obtain ⟨le, st2⟩ := lay_frozen (o := .tup v1) st1 nq
    refine Pst.does p1 (e1.st.less fun z => ?_) e1.en (.ref q) _ _ B1 le (fun a ha => ?_) st2 ⟨q, v1, rfl, ⟨SqT.of upd_same, fun _ => upd_same⟩, o1.laid st1 nq le fun a ha => (st2.own a (by show 0 < B1 a + _; omega)).1⟩
    · show A1 z + R z ≤ A1 z + (B1 z + R z); omega
    · obtain ⟨_, _, u, h3⟩ := st1.own a (by show 0 < B1 a + (A1 a + R a); omega)
      exact upd_ne (ne_of_none h3 nq)
  · rw [if_neg hc] at p1; exact p1.elim
theorem fe_lst {es : List Expr} {pos} {a : Rho → RX (List D)} (h : FA X cl W es a) : FE X cl W (.List es pos) (eLst a) := PE_imp (pe_lst h) fun σ H Q q => by
  obtain ⟨G, F, ρ, A, R, st, en, p⟩ := q
  refine ⟨G, F, ρ, A, R, st, en, Pst.bind p fun x ρ1 v1 F1 H1 A1 B1 e1 o1 p1 => ?_⟩
  have hl : x.length = v1.length := Owns.length o1
  by_cases hc : cap x.length = true
  · rw [if_pos hc] at p1
    refine ⟨by rw [← hl]; exact Nat.le_of_lt (cap_line hc), fun q nq => ?_⟩
    have st1 : Sta G F1 H1 (fun z => B1 z + (A1 z + R z)) := e1.st.less fun z => by show B1 z + (A1 z + R z) ≤ A1 z + (B1 z + R z); omega
    obtain ⟨fq, sq, st2⟩ := lay_owned (o := .lst v1) st1 nq
    refine Pst.does p1 (e1.st.less fun z => ?_) e1.en (.ref q) _ _ (fun z => one q z + B1 z) Le.refl (fun a ha => ?_) (st2.less fun z => ?_) ⟨q, v1, B1, rfl, fq, upd_same, o1.laid st1 nq Le.refl (fun a ha => (st1.own a (by show 0 < B1 a + _; omega)).1), fun _ => Nat.le_refl _⟩
    · show A1 z + R z ≤ A1 z + (B1 z + R z); omega
    · obtain ⟨_, _, u, h3⟩ := st1.own a (by show 0 < B1 a + (A1 a + R a); omega)
      exact upd_ne (ne_of_none h3 nq)
    · show one q z + B1 z + (A1 z + R z) ≤ one q z + (B1 z + (A1 z + R z)); omega
  · rw [if_neg hc] at p1; exact p1.elim
end
end FL

set_option Elab.async false
set_option linter.all false
set_option maxRecDepth 100000
namespace FL
open PySem L2

section
variable {X : Cx} {cl : Tb} {W : WX'} {K : PySem.W.Frag}
variable {G : Gh} {F H F' H' : Hp} {R B A A' : Fp} {σ : St} {ρ ρ' : Rho} {pos : Pos}

/-! ### tests -/
theorem ft_val {e : Expr} {a : Rho → RX D} (h : FE X cl W e a) (he : ∀ whole, isTrue e X.env whole = (do let v ← whole; standAt e.pos; holding [v] (truthy v)) := by intro _; rfl) : FT X cl W e (tB1 a) := PT_imp (pt_val h he) fun σ H Q q => by
  obtain ⟨G, F, ρ, A, R, st, en, p⟩ := q
  refine ⟨G, F, ρ, A, R, st, en, Pst.bind p fun x ρ1 v1 F1 H1 A1 B1 e1 o1 p1 => ?_⟩
  cases x with
  | bl b => exact ⟨b, o1, Pst.ok p1 e1 rfl⟩
  | _ => exact p1.elim
theorem ft_cmp {e : Expr} {a : Rho → RX D} {t : TE} (h : PT X e (tTest t)) (ht : ∀ σ H Q, tX X.K cl W (rD X.K cl) a σ H Q → t σ H Q) : FT X cl W e (tB1 a) := PT_imp h fun σ H Q q => by
  obtain ⟨G, F, ρ, A, R, st, en, p⟩ := q
  refine ht σ H _ ⟨G, F, ρ, A, R, st, en, Pst.bind p fun x ρ1 v1 F1 H1 A1 B1 e1 o1 p1 => ?_⟩
  cases x with
  | bl b => exact ⟨b, o1, Pst.ok p1 e1 rfl⟩
  | _ => exact p1.elim
abbrev FW (X : Cx) (cl : Tb) (W : WX') (e : Expr) (m : Rho → RX Bool) : Prop := PW X e (tX X.K cl W rB m)
theorem PW_imp {X : Cx} {e : Expr} {t t' : TT} (h : PW X e t) (i : ∀ σ H Q, t' σ H Q → t σ H Q) : PW X e t' := ⟨fun w pins s σ H Q I q => h.run w pins s σ H Q I (i σ H Q q)⟩
theorem fw_and1 {a : Expr} {m : Rho → RX Bool} (h : FT X cl W a m) : FW X cl W (.BoolOp .And [a] pos) m := pw_and1 h
theorem fw_or1 {a : Expr} {m : Rho → RX Bool} (h : FT X cl W a m) : FW X cl W (.BoolOp .Or [a] pos) m := pw_or1 h
theorem fw_and {a b : Expr} {rest : List Expr} {m n : Rho → RX Bool} (ha : FT X cl W a m) (hb : FW X cl W (.BoolOp .And (b :: rest) pos) n) : FW X cl W (.BoolOp .And (a :: b :: rest) pos) (tAnd m n) := PW_imp (pw_and ha hb) fun σ H Q q => by
  obtain ⟨G, F, ρ, A, R, st, en, p⟩ := q
  refine ⟨G, F, ρ, A, R, st, en, Pst.bind p fun x ρ1 v1 F1 H1 A1 B1 e1 o1 p1 => ?_⟩
  have o1' : x = v1 := o1
  subst o1'
  cases x with
  | true => exact tX.run0 e1 p1
  | false => exact Pst.ok p1 e1 rfl
theorem fw_or {a b : Expr} {rest : List Expr} {m n : Rho → RX Bool} (ha : FT X cl W a m) (hb : FW X cl W (.BoolOp .Or (b :: rest) pos) n) : FW X cl W (.BoolOp .Or (a :: b :: rest) pos) (tOr m n) := PW_imp (pw_or ha hb) fun σ H Q q => by
  obtain ⟨G, F, ρ, A, R, st, en, p⟩ := q
  refine ⟨G, F, ρ, A, R, st, en, Pst.bind p fun x ρ1 v1 F1 H1 A1 B1 e1 o1 p1 => ?_⟩
  have o1' : x = v1 := o1
  subst o1'
  cases x with
  | true => exact Pst.ok p1 e1 rfl
  | false => exact tX.run0 e1 p1
theorem ft_not {a : Expr} {m : Rho → RX Bool} (h : FT X cl W a m) : FT X cl W (.UnaryOp .Not a pos) (tNot m) := PT_imp (pt_not h) fun σ H Q q => by
  obtain ⟨G, F, ρ, A, R, st, en, p⟩ := q
  refine ⟨G, F, ρ, A, R, st, en, Pst.bind p fun x ρ1 v1 F1 H1 A1 B1 e1 o1 p1 => ?_⟩
  have o1' : x = v1 := o1
  subst o1'
  exact Pst.ok p1 e1 rfl
theorem fe_and {a b : Expr} {rest : List Expr} {m n : Rho → RX D} (ha : FE X cl W a m) (hb : FE X cl W (.BoolOp .And (b :: rest) pos) n) : FE X cl W (.BoolOp .And (a :: b :: rest) pos) (eAnd m n) := PE_imp (pe_and ha hb) fun σ H Q q => by
  obtain ⟨G, F, ρ, A, R, st, en, p⟩ := q
  refine ⟨G, F, ρ, A, R, st, en, Pst.bind p fun x ρ1 v1 F1 H1 A1 B1 e1 o1 p1 => ?_⟩
  cases x with
  | bl b =>
    refine ⟨b, o1, ?_⟩
    cases b with
    | true => exact tX.run0 e1 p1
    | false => exact Pst.ok p1 e1 rfl
  | _ => exact p1.elim
theorem fe_or {a b : Expr} {rest : List Expr} {m n : Rho → RX D} (ha : FE X cl W a m) (hb : FE X cl W (.BoolOp .Or (b :: rest) pos) n) : FE X cl W (.BoolOp .Or (a :: b :: rest) pos) (eOr m n) := PE_imp (pe_or ha hb) fun σ H Q q => by
  obtain ⟨G, F, ρ, A, R, st, en, p⟩ := q
  refine ⟨G, F, ρ, A, R, st, en, Pst.bind p fun x ρ1 v1 F1 H1 A1 B1 e1 o1 p1 => ?_⟩
  cases x with
  | bl b =>
    refine ⟨b, o1, ?_⟩
    cases b with
    | true => exact Pst.ok p1 e1 rfl
    | false => exact tX.run0 e1 p1
  | _ => exact p1.elim
theorem fe_not {a : Expr} {m : Rho → RX D} (h : FE X cl W a m) : FE X cl W (.UnaryOp .Not a pos) (eNot m) := PE_imp (pe_not h) fun σ H Q q => by
  obtain ⟨G, F, ρ, A, R, st, en, p⟩ := q
  refine ⟨G, F, ρ, A, R, st, en, Pst.bind p fun x ρ1 v1 F1 H1 A1 B1 e1 o1 p1 => ?_⟩
  cases x with
  | bl b => exact ⟨b, o1, Pst.ok p1 e1 rfl⟩
  | _ => exact p1.elim
theorem fe_one {op} {a : Expr} {m : Rho → RX D} (h : FE X cl W a m) : FE X cl W (.BoolOp op [a] pos) m := pe_one h
theorem fe_if {c a b : Expr} {t : Rho → RX Bool} {m n : Rho → RX D} (hc : FT X cl W c t) (ha : FE X cl W a m) (hb : FE X cl W b n) : FE X cl W (.IfExp c a b pos) (eIf t m n) := PE_imp (pe_ifExp hc ha hb) fun σ H Q q => by
  obtain ⟨G, F, ρ, A, R, st, en, p⟩ := q
  refine ⟨G, F, ρ, A, R, st, en, Pst.bind p fun x ρ1 v1 F1 H1 A1 B1 e1 o1 p1 => ?_⟩
  have o1' : x = v1 := o1
  subst o1'
  cases x with
  | true => exact tX.run0 e1 p1
  | false => exact tX.run0 e1 p1

/-- a op b op' c -/
def eChain (f g : D → D → Option D) (a b c : Rho → RX D) : Rho → RX D := fun ρ => (a ρ).bind fun x ρ1 => (b ρ1).bind fun y ρ2 =>
  if y.pure then (match f x y with | some (.bl true) => (c ρ2).bind fun z ρ3 => opt (g y z) ρ3 | some (.bl false) => .ok (.bl false) ρ2 | _ => .bad) else .bad
theorem chain_imp {f g : D → D → Option D} {r r' : R2} {a b c : Rho → RX D} (hf : Does2 X cl f r) (hg : Does2 X cl g r') {σ : St} {H : Hp} {Q : VK} (q : tX X.K cl W (rD X.K cl) (eChain f g a b c) σ H Q) :
    tChain r r' (tX X.K cl W (rD X.K cl) a) (tX X.K cl W (rD X.K cl) b) (tX X.K cl W (rD X.K cl) c) σ H Q := by
  obtain ⟨G, F, ρ, A, R, st, en, p⟩ := q
  refine ⟨G, F, ρ, A, R, st, en, Pst.bind p fun x ρ1 v1 F1 H1 A1 B1 e1 o1 p1 => ?_⟩
  refine tX.run e1 (Pst.bindC p1 fun y ρ2 v2 F2 H2 A2 B2 e2 o2 p2 => ?_)
  by_cases hp : y.pure = true
  · rw [if_pos hp] at p2
    have o2' : Own X.K cl F2 H2 y v2 zf := o2.of_pure hp
    cases hd : f x y with
    | none => rw [hd] at p2; exact p2.elim
    | some d =>
      rw [hd] at p2
      cases d with
      | bl k =>
        refine hf x y _ hd G F2 H2 (fun z => A2 z + R z) B2 B1 v1 v2 _ (e2.st.less fun z => ?_) (e2.keep o1) o2 fun v F' H' B' le ag st' o => ?_
        · show B2 z + (B1 z + (A2 z + R z)) ≤ A2 z + (B2 z + (B1 z + R z)); omega
        · refine ⟨k, o, ?_⟩
          have e3 : Ev X.K cl G F2 H2 R F' H' σ ρ2 A2 B' := ⟨le, fun a ha => ag a (by show 0 < A2 a + R a; omega), st'.less fun z => by show A2 z + (B' z + R z) ≤ B' z + (A2 z + R z); omega,
            e2.en.mono le (fun a ha => ⟨ag a (by show 0 < A2 a + R a; omega), (st'.own a (by show 0 < B' a + (A2 a + R a); omega)).1⟩) fun _ => Nat.le_refl _⟩
          cases k with
          | true =>
            have p3 : Pst X.K cl W (rD X.K cl) G F2 H2 σ R ((c ρ2).bind fun z ρ3 => opt (g y z) ρ3) Q := p2
            refine tX.run0 e3 (Pst.bind (Pst.next p3 e3) fun z ρ3 v3 F3 H3 A3 B3 e4 o3 p4 => ?_)
            cases hd2 : g y z with
            | none => rw [hd2] at p4; exact p4.elim
            | some d =>
              rw [hd2] at p4
              refine hg y z d hd2 G F3 H3 (fun z => A3 z + R z) B3 zf v2 v3 Q (e4.st.less fun z => ?_) ((o2'.mono (e3.le.trans e4.le) (fun a ha => absurd ha (Nat.lt_irrefl _)) fun _ => Nat.le_refl _)) o3 (Pst.does p4 (e4.st.less fun z => ?_) e4.en)
              · show B3 z + (zf z + (A3 z + R z)) ≤ A3 z + (B3 z + R z); unfold zf; omega
              · show A3 z + R z ≤ A3 z + (B3 z + R z); omega
          | false => exact Pst.ok (K := X.K) (cl := cl) (W := W) (rep := rD X.K cl) (a := .bl false) (v := .bl false) (Q := Q) (Pst.next p2 e3) (e3.lessB (B' := zf) fun _ => Nat.zero_le _) rfl
      | _ => exact p2.elim
  · rw [if_neg hp] at p2; exact p2.elim

/-! ### statements -/
def sNx : Rho → RS := fun ρ => .nx ρ
def sSeq (a b : Rho → RS) : Rho → RS := fun ρ => (a ρ).seq b
def sIf (t : Rho → RX Bool) (a b : Rho → RS) : Rho → RS := fun ρ => (t ρ).stmt fun x ρ1 => if x then a ρ1 else b ρ1
def sRet (a : Rho → RX D) : Rho → RS := fun ρ => (a ρ).stmt fun d _ => .rt d
def sSet (i : Nat) (a : Rho → RX D) : Rho → RS := fun ρ => (a ρ).stmt fun d ρ1 => .nx (ρ1.set i (some d))
def sEx (a : Rho → RX D) : Rho → RS := fun ρ => (a ρ).stmt fun _ ρ1 => .nx ρ1
def sBk : Rho → RS := fun ρ => .bk ρ
def sCt : Rho → RS := fun ρ => .ct ρ
/-- the slots of l are forgotten -/
def fgt : List Nat → Rho → Rho
  | [], ρ => ρ
  | v :: vs, ρ => (fgt vs ρ).set v none
def RS.fgt (l : List Nat) (r : RS) : RS :=
  match r with
  | .nx ρ => .nx (FL.fgt l ρ)
  | .bk ρ => .bk (FL.fgt l ρ)
  | .ct ρ => .ct (FL.fgt l ρ)
  | r => r
def sFgt (l : List Nat) (a : Rho → RS) : Rho → RS := fun ρ => (a ρ).fgt l
theorem EnvR.fgt {K : PySem.W.Frag} {cl : Tb} {F H : Hp} {σ : St} {A : Fp} : ∀ (l : List Nat) {ρ : Rho}, EnvR K cl F H ρ σ A → EnvR K cl F H (FL.fgt l ρ) σ A
  | [], _, h => h
  | i :: l, _, h => (EnvR.fgt l h).drop i

theorem SPst.nx {E : Ends} (p : SPst K cl W G F' H' R (.nx ρ') E) (e : Ev K cl G F H R F' H' σ ρ' A' B) : E.nx σ H' :=
  p σ F' H' A' (Ev.self (e.st.less fun x => by show A' x + R x ≤ A' x + (B x + R x); omega) e.en)
theorem fss_nil : FSs X cl W [] sNx := PSs_imp pss_nil fun D σ H q => by
  obtain ⟨G, F, ρ, A, R, st, en, p⟩ := q
  exact p σ F H A (Ev.self st en)
theorem SPst.seq {r : RS} {k : Rho → RS} {E : Ends} {N : St → Hp → Prop} (h : SPst K cl W G F H R (r.seq k) E)
    (hk : ∀ ρ' σ F' H' A', Ev K cl G F H R F' H' σ ρ' A' zf → SPst K cl W G F' H' R (k ρ') E → N σ H') : SPst K cl W G F H R r { E with nx := N } := by
  cases r with
  | nx ρ => exact fun s F2 H2 A2 e2 => hk ρ s F2 H2 A2 e2 (SPst.next (r := k ρ) h e2)
  | bk ρ => exact h
  | ct ρ => exact h
  | rt d => exact h
  | ex c ds ρ => exact h
  | bad => exact h
theorem fss_cons {s : Stmt} {ss : List Stmt} {m n : Rho → RS} (h1 : FS X cl W s m) (h2 : FSs X cl W ss n) : FSs X cl W (s :: ss) (sSeq m n) := PSs_imp (pss_cons h1 h2) fun D σ H q => by
  obtain ⟨G, F, ρ, A, R, st, en, p⟩ := q
  exact ⟨G, F, ρ, A, R, st, en, SPst.seq p fun ρ' σ' F' H' A' e1 p1 => tS.run0 e1 p1⟩
theorem fss_one {s : Stmt} {m : Rho → RS} (h1 : FS X cl W s m) : FSs X cl W [s] m := pss_one h1
theorem fs_pass : FS X cl W (.Pass pos) sNx := PS_imp ps_pass fun D σ H q => by
  obtain ⟨G, F, ρ, A, R, st, en, p⟩ := q
  exact p σ F H A (Ev.self st en)
theorem fs_break : FS X cl W (.Break pos) sBk := PS_imp ps_break fun D σ H q => by
  obtain ⟨G, F, ρ, A, R, st, en, p⟩ := q
  exact p σ F H A (Ev.self st en)
theorem fs_continue : FS X cl W (.Continue pos) sCt := PS_imp ps_continue fun D σ H q => by
  obtain ⟨G, F, ρ, A, R, st, en, p⟩ := q
  exact p σ F H A (Ev.self st en)
theorem fs_if {c : Expr} {a b : List Stmt} {t : Rho → RX Bool} {m n : Rho → RS} (hc : FT X cl W c t) (ha : FSs X cl W a m) (hb : FSs X cl W b n) : FS X cl W (.If c a b pos) (sIf t m n) := PS_imp (ps_if hc ha hb) fun D σ H q => by
  obtain ⟨G, F, ρ, A, R, st, en, p⟩ := q
  refine ⟨G, F, ρ, A, R, st, en, Pst.stmt p fun x ρ1 v1 F1 H1 A1 B1 e1 o1 p1 => ?_⟩
  have o1' : x = v1 := o1
  subst o1'
  cases x with
  | true => exact tS.run0 e1 p1
  | false => exact tS.run0 e1 p1
theorem fs_ret {e : Expr} {m : Rho → RX D} (h : FE X cl W e m) : FS X cl W (.Return (some e) pos) (sRet m) := PS_imp (ps_ret h) fun D σ H q => by
  obtain ⟨G, F, ρ, A, R, st, en, p⟩ := q
  refine ⟨G, F, ρ, A, R, st, en, Pst.stmt p fun x ρ1 v1 F1 H1 A1 B1 e1 o1 p1 => ?_⟩
  exact p1 v1 F1 H1 B1 ⟨Le.refl, fun _ _ => rfl, e1.st.less fun z => by show zf z + (B1 z + R z) ≤ A1 z + (B1 z + R z); unfold zf; omega, rfl⟩ o1
theorem fs_retN : FS X cl W (.Return none pos) (sRet (eC .non)) := PS_imp ps_retN fun D σ H q => by
  obtain ⟨G, F, ρ, A, R, st, en, p⟩ := q
  exact p .non F H zf ⟨Le.refl, fun _ _ => rfl, st.less fun z => by show zf z + (zf z + R z) ≤ A z + R z; unfold zf; omega, rfl⟩ rfl
theorem fs_expr {e : Expr} {m : Rho → RX D} (h : FE X cl W e m) (hs : swapsWith e none pos.line X.env = pure false := by rfl) : FS X cl W (.Expr e pos) (sEx m) := PS_imp (ps_expr h hs) fun D σ H q => by
  obtain ⟨G, F, ρ, A, R, st, en, p⟩ := q
  exact ⟨G, F, ρ, A, R, st, en, Pst.stmt p fun x ρ1 v1 F1 H1 A1 B1 e1 o1 p1 => SPst.nx p1 e1⟩
theorem Ev.put {d : D} {v : V} (e : Ev K cl G F H R F' H' σ ρ A' B) (o : Own K cl F' H' d v B) (i : Nat) : Ev K cl G F H R F' H' (σ.set i (some v)) (ρ.set i (some d)) (fun x => B x + A' x) zf :=
  ⟨e.le, e.ag, e.st.less fun x => by show B x + A' x + (zf x + R x) ≤ A' x + (B x + R x); unfold zf; omega, e.en.put o⟩
theorem set_imp {te : TE} {m : Rho → RX D} {i : Nat} (ht : ∀ σ H Q, tX X.K cl W (rD X.K cl) m σ H Q → te σ H Q) (D : Ends) (σ : St) (H : Hp) (q : tS X.K cl W (sSet i m) D σ H) : tAsg te (gName i) D σ H := by
  obtain ⟨G, F, ρ, A, R, st, en, p⟩ := q
  refine ht _ _ _ ⟨G, F, ρ, A, R, st, en, Pst.stmt p fun x ρ1 v1 F1 H1 A1 B1 e1 o1 p1 => ?_⟩
  have e2 := e1.put o1 i
  exact p1 _ F1 H1 _ ⟨Le.refl, fun _ _ => rfl, e2.st, e2.en⟩
theorem fs_set {i : Nat} {x : Str} {e : Expr} {m : Rho → RX D} {pos' : Pos} (hN : X.N.Nodup) (hi : X.N[i]? = some x) (hx : Loc X.env.scope x) (he : FE X cl W e m) (hs : swapsWith e (some (.Name x pos')) pos.line X.env = pure false := by rfl)
    (hf : X.fn x = true ∨ X.env.scope.names.lookup x = some .local := by first | exact .inl rfl | exact .inr rfl | assumption) : FS X cl W (.Assign [.Name x pos'] e pos) (sSet i m) :=
  PS_imp (ps_set hN hi hx he hs hf) (set_imp fun _ _ _ q => q)
theorem fs_fgt {s : Stmt} {m : Rho → RS} (l : List Nat) (h : FS X cl W s m) : FS X cl W s (sFgt l m) := PS_imp h fun D σ H q => by
  obtain ⟨G, F, ρ, A, R, st, en, p⟩ := q
  refine ⟨G, F, ρ, A, R, st, en, ?_⟩
  unfold sFgt at p
  cases hm : m ρ with
  | nx ρ1 => rw [hm] at p; exact fun s F2 H2 A2 e2 => p s F2 H2 A2 ⟨e2.le, e2.ag, e2.st, e2.en.fgt l⟩
  | bk ρ1 => rw [hm] at p; exact fun s F2 H2 A2 e2 => p s F2 H2 A2 ⟨e2.le, e2.ag, e2.st, e2.en.fgt l⟩
  | ct ρ1 => rw [hm] at p; exact fun s F2 H2 A2 e2 => p s F2 H2 A2 ⟨e2.le, e2.ag, e2.st, e2.en.fgt l⟩
  | rt d => rw [hm] at p; exact p
  | ex c ds ρ1 => rw [hm] at p; exact p
  | bad => rw [hm] at p; exact p
theorem fss_fgt {s : List Stmt} {m : Rho → RS} (l : List Nat) (h : FSs X cl W s m) : FSs X cl W s (sFgt l m) := PSs_imp h fun D σ H q => by
  obtain ⟨G, F, ρ, A, R, st, en, p⟩ := q
  refine ⟨G, F, ρ, A, R, st, en, ?_⟩
  unfold sFgt at p
  cases hm : m ρ with
  | nx ρ1 => rw [hm] at p; exact fun s F2 H2 A2 e2 => p s F2 H2 A2 ⟨e2.le, e2.ag, e2.st, e2.en.fgt l⟩
  | bk ρ1 => rw [hm] at p; exact fun s F2 H2 A2 e2 => p s F2 H2 A2 ⟨e2.le, e2.ag, e2.st, e2.en.fgt l⟩
  | ct ρ1 => rw [hm] at p; exact fun s F2 H2 A2 e2 => p s F2 H2 A2 ⟨e2.le, e2.ag, e2.st, e2.en.fgt l⟩
  | rt d => rw [hm] at p; exact p
  | ex c ds ρ1 => rw [hm] at p; exact p
  | bad => rw [hm] at p; exact p
end
end FL

set_option Elab.async false
set_option linter.all false
set_option maxRecDepth 100000
namespace FL
open PySem L2

/-! ### loops -/
def loop (g : D → Rho → Option Rho) (b : Rho → RS) : List D → Rho → RS
  | [], ρ => .nx ρ
  | d :: ds, ρ =>
    match g d ρ with
    | none => .bad
    | some ρ1 =>
      match b ρ1 with
      | .nx ρ2 => loop g b ds ρ2
      | .ct ρ2 => loop g b ds ρ2
      | .bk ρ2 => .nx ρ2
      | .rt d => .rt d
      | .ex c xs ρ2 => .ex c xs ρ2
      | .bad => .bad
def sFor (it : Rho → RX (List D)) (g : D → Rho → Option Rho) (b : Rho → RS) : Rho → RS := fun ρ => (it ρ).stmt fun ds ρ1 => loop g b ds ρ1
def gN (i : Nat) : D → Rho → Option Rho := fun d ρ => some (ρ.set i (some d))

/-- the iterator J yields ds -/
def ItOk (K : PySem.W.Frag) (cl : Tb) (F : Hp) (J : It) (ds : List D) : Prop :=
  ∀ (G : Gh) (F1 H : Hp) (S : Fp), Le F F1 → Sta G F1 H S →
    (∀ (i : Nat) (d : D), ds[i]? = some d → J.go i H ∧ ∀ x H', J.yld i H x H' → ∃ F2, Le F1 F2 ∧ (∀ a, 0 < S a → H' a = H a) ∧ Sta G F2 H' S ∧ Own K cl F2 H' d x zf) ∧ J.stop ds.length H
def rIt (K : PySem.W.Frag) (cl : Tb) : Hp → Hp → List D → It → Fp → Prop := fun F _ ds J _ => ItOk K cl F J ds
abbrev FI (X : Cx) (cl : Tb) (W : WX') (tg e : Expr) (m : Rho → RX (List D)) : Prop := PI X tg e (tX X.K cl W (rIt X.K cl) m)
/-- a target: its slots are vs -/
def tG (K : PySem.W.Frag) (cl : Tb) (vs : List Nat) (m : D → Rho → Option Rho) : TG := fun v σ H Q =>
  ∃ G F ρ A B R d, Sta G F H (fun x => A x + (B x + R x)) ∧ EnvR K cl F H ρ σ A ∧ Own K cl F H d v B ∧
    match m d ρ with
    | some ρ1 => ∀ σ' F' H' A', wipe σ' vs = wipe σ vs → Ev K cl G F H R F' H' σ' ρ1 A' zf → Q σ' H'
    | none => False
abbrev FG (X : Cx) (cl : Tb) (tg : Expr) (vs : List Nat) (m : D → Rho → Option Rho) : Prop := PG X tg (tG X.K cl vs m)

section
variable {X : Cx} {cl : Tb} {W : WX'} {K : PySem.W.Frag}
variable {G : Gh} {F H F' H' : Hp} {R B A A' : Fp} {σ : St} {ρ ρ' : Rho} {pos : Pos}

theorem PG_imp {X : Cx} {e : Expr} {t t' : TG} (h : PG X e t) (i : ∀ v σ H Q, t' v σ H Q → t v σ H Q) : PG X e t' := ⟨fun pins s σ H v u Q I r q => h.run pins s σ H v u Q I r (i v σ H Q q)⟩
theorem wipe_set1 (σ : St) (i : Nat) (o : Option V) : wipe (σ.set i o) [i] = wipe σ [i] := by
  show (σ.set i o).set i none = σ.set i none
  rw [List.set_set]
theorem fg_name {i : Nat} {x : Str} (hN : X.N.Nodup) (hi : X.N[i]? = some x) (hx : Loc X.env.scope x) (hf : X.fn x = true ∨ X.env.scope.names.lookup x = some .local := by first | exact .inl rfl | exact .inr rfl | assumption) : FG X cl (.Name x pos) [i] (gN i) :=
  PG_imp (pg_name hN hi hx hf) fun v σ H Q q => by
    obtain ⟨G, F, ρ, A, B, R, d, st, en, o, q⟩ := q
    exact q (σ.set i (some v)) F H (fun x => B x + A x) (wipe_set1 σ i _) ⟨Le.refl, fun _ _ => rfl, st.less fun x => by show B x + A x + (zf x + R x) ≤ A x + (B x + R x); unfold zf; omega, en.put o⟩

theorem fs_for {tg iter : Expr} {body : List Stmt} {it : Rho → RX (List D)} {g : D → Rho → Option Rho} {b : Rho → RS} {vs : List Nat} (hp : PassesOwn (model X.prog X.w) X.A X.env X.xe) (hc : X.calm = true) (hi : FI X cl W tg iter it) (hg : FG X cl tg vs g) (hb : FSs X cl W body b)
    (hs : ∀ x, foldedSetIterable iter X.env x = pure x := by intro _; rfl) : FS X cl W (.For tg iter body [] pos) (sFor it g b) := PS_imp (ps_for hp hc hi hg hb hs) fun E σ H q => by
  obtain ⟨G, F, ρ, A, R, st, en, p⟩ := q
  refine ⟨G, F, ρ, A, R, st, en, Pst.stmt p fun ds ρ1 J F1 H1 A1 B1 e1 o1 p1 => ?_⟩
  refine ⟨fun i m σ H => m = ds.length - i ∧ i ≤ ds.length ∧ ∃ F ρ A, Le F1 F ∧ Sta G F H (fun x => A x + R x) ∧ EnvR X.K cl F H ρ σ A ∧ SPst X.K cl W G F H R (loop g b (ds.drop i) ρ) E, ⟨ds.length, rfl, Nat.zero_le _, F1, ρ1, A1, Le.refl, e1.st.less fun x => by show A1 x + R x ≤ A1 x + (B1 x + R x); omega, e1.en, p1⟩, ?_⟩
  rintro i m σ2 H2 ⟨rfl, hi2, F2, ρ2, A2, le2, st2, en2, p2⟩
  obtain ⟨go, stop⟩ := o1 G F2 H2 _ le2 st2
  by_cases hlt : i < ds.length
  · refine .inr ?_
    have hd : ds[i]? = some ds[i] := List.getElem?_eq_getElem hlt
    obtain ⟨g1, g2⟩ := go i _ hd
    refine ⟨g1, fun σ' H' => ∃ F ρ A, Le F1 F ∧ Sta G F H' (fun x => A x + R x) ∧ EnvR X.K cl F H' ρ σ' A ∧ SPst X.K cl W G F H' R (loop g b (ds.drop (i + 1)) ρ) E, fun σ' H' n => ⟨ds.length - (i + 1), by omega, rfl, hlt, n⟩, fun x H' y => ?_⟩
    obtain ⟨F3, le3, ag3, st3, o3⟩ := g2 x H' y
    have en3 : EnvR X.K cl F3 H' ρ2 σ2 A2 := en2.mono le3 (fun a ha => ⟨ag3 a (by show 0 < A2 a + R a; omega), (st3.own a (by show 0 < A2 a + R a; omega)).1⟩) fun _ => Nat.le_refl _
    have e3 : Ev X.K cl G F2 H2 R F3 H' σ2 ρ2 A2 zf := ⟨le3, fun a ha => ag3 a (by show 0 < A2 a + R a; omega), st3.less fun x => by show A2 x + (zf x + R x) ≤ A2 x + R x; unfold zf; omega, en3⟩
    have hdrop : ds.drop i = ds[i] :: ds.drop (i + 1) := List.drop_eq_getElem_cons hlt
    rw [hdrop] at p2
    have p3 := SPst.next p2 e3
    refine ⟨G, F3, ρ2, A2, zf, R, ds[i], e3.st, en3, o3, ?_⟩
    unfold loop at p3
    cases hgd : g ds[i] ρ2 with
    | none => rw [hgd] at p3; exact p3.elim
    | some ρ3 =>
      rw [hgd] at p3
      refine fun σ4 F4 H4 A4 hw e4 => tS.run0 e4 ?_
      have p4 := SPst.next p3 e4
      cases hbr : b ρ3 with
      | nx ρ5 =>
        simp only [hbr] at p4
        exact fun σ5 F5 H5 A5 e5 => ⟨F5, ρ5, A5, le2.trans (le3.trans (e4.le.trans e5.le)), e5.st.less fun x => by show A5 x + R x ≤ A5 x + (zf x + R x); omega, e5.en, SPst.next p4 e5⟩
      | ct ρ5 =>
        simp only [hbr] at p4
        exact fun σ5 F5 H5 A5 e5 => ⟨F5, ρ5, A5, le2.trans (le3.trans (e4.le.trans e5.le)), e5.st.less fun x => by show A5 x + R x ≤ A5 x + (zf x + R x); omega, e5.en, SPst.next p4 e5⟩
      | bk ρ5 => simp only [hbr] at p4; exact p4
      | rt d => simp only [hbr] at p4; exact p4
      | ex c xs ρ5 => simp only [hbr] at p4; exact p4
      | bad => simp only [hbr] at p4; exact p4.elim
  · have e : i = ds.length := by omega
    subst e
    refine .inl ⟨stop, ?_⟩
    rw [List.drop_length] at p2
    exact p2 σ2 F2 H2 A2 (Ev.self st2 en2)

/-! ### freezing -/
/-- the frozen part, with B's objects -/
def fz (F H : Hp) (B : Fp) : Hp := fun a => if 0 < B a then H a else F a
theorem fz_st {C : Fp} (st : Sta G F H (fun x => C x + (B x + R x))) : Le F (fz F H B) ∧ Sta G (fz F H B) H (fun x => C x + R x) := by
  have hown : ∀ a, 0 < B a → F a = none ∧ G.E a = none ∧ ∃ o, H a = some o := fun a ha => st.own a (by show 0 < C a + (B a + R a); omega)
  have hnd : ∀ a, C a + (B a + R a) ≤ 1 := st.nd
  refine ⟨fun a o e => ?_, ⟨fun a o e => ?_, st.ent, fun a o e => ?_, fun a o e => ?_, fun a ha => ?_, fun a => by have := hnd a; show C a + R a ≤ 1; omega, fun a xs ha => st.nt a xs (by have ha' : 0 < C a + R a := ha; show 0 < C a + (B a + R a); omega)⟩⟩
  · show (if 0 < B a then H a else F a) = some o
    split
    · rename_i hb; rw [(hown a hb).1] at e; cases e
    · exact e
  · have e' : (if 0 < B a then H a else F a) = some o := e
    split at e'
    · exact e'
    · exact st.sub a o e'
  · show (if 0 < B a then H a else F a) = some o
    split
    · rename_i hb
      have := st.low a o e
      rw [(hown a hb).1] at this; cases this
    · exact st.low a o e
  · have e' : (if 0 < B a then H a else F a) = some o := e
    split at e'
    · rename_i hb; exact .inr (.inl (hown a hb).2.1)
    · exact st.fr a o e'
  · have ha' : 0 < C a + R a := ha
    have h1 := st.own a (by show 0 < C a + (B a + R a); omega)
    refine ⟨?_, h1.2⟩
    show (if 0 < B a then H a else F a) = none
    rw [if_neg (by have := hnd a; omega)]
    exact h1.1
theorem fz_at {a : Addr} (h : 0 < B a) : fz F H B a = H a := if_pos h

/-- what lies by hand is frozen -/
theorem Ev.fz (e : Ev K cl G F H R F' H' σ ρ' A' B) : Ev K cl G F H R (FL.fz F' H' B) H' σ ρ' A' zf ∧ Le F' (FL.fz F' H' B) := by
  obtain ⟨le, st⟩ := fz_st e.st
  refine ⟨⟨e.le.trans le, e.ag, st.less fun x => by show A' x + (zf x + R x) ≤ A' x + R x; unfold zf; omega, e.en.mono le (fun a ha => ⟨rfl, (st.own a (by show 0 < A' a + R a; omega)).1⟩) fun _ => Nat.le_refl _⟩, le⟩

/-! ### what is walked -/
def iSeq (K : PySem.W.Frag) (tl : TE) : TI := fun σ H R => tl σ H fun x H1 => ∃ a, x = .ref a ∧ (((∃ xs, SqL K H1 a xs) ∧ R (Itl K a) H1) ∨ ((∃ xs, SqT K H1 a xs) ∧ R (Itt K a) H1))
theorem pi_seq {tg l : Expr} {tl : TE} (hl : PE X l tl) : PI X tg l (iSeq X.K tl) := by
  refine ⟨fun pins s σ H R I h => ?_⟩
  refine thn (hl.run pins s σ H _ I h) fun v s1 ⟨x, H1, I1, r1, q1⟩ => ?_
  obtain ⟨a, e, q⟩ := q1
  subst e
  cases r1
  rcases q with ⟨⟨xs, hq⟩, q⟩ | ⟨⟨xs, hq⟩, q⟩
  · obtain ⟨its, rv, p, hz⟩ := I1.list hq
    refine wpAny_pyIter_list p.isList ?_
    refine ⟨s1.heap.objs.size, [s1.heap.objs.size], _, _, H1, rfl, I1.kept (t' := s1.toks) fun b o e => Heap.get?_push_of_some _ e, turn_list a _, ⟨_, Heap.get?_push_size _ rfl, rfl, rfl⟩, fun b hb => ?_, q⟩
    have e : b = s1.heap.objs.size := by simpa using hb
    subst e
    exact I1.fpOk (Nat.le_refl _) (I1.hok.fresh (Nat.le_refl _))
  · obtain ⟨its, rv, p, hz⟩ := I1.tuple hq
    refine wpAny_pyIter_tuple (show s1.heap.IsTuple a its.toArray from p) ?_
    refine ⟨s1.heap.objs.size, [s1.heap.objs.size], _, _, H1, rfl, I1.kept (t' := s1.toks) fun b o e => Heap.get?_push_of_some _ e, turn_tuple a _, ⟨_, Heap.get?_push_size _ rfl, rfl, rfl⟩, fun b hb => ?_, q⟩
    have e : b = s1.heap.objs.size := by simpa using hb
    subst e
    exact I1.fpOk (Nat.le_refl _) (I1.hok.fresh (Nat.le_refl _))
/-- the items of a list or tuple, all frozen -/
def itms : D → Option (List D)
  | .lst ds => some ds
  | .tup ds => some ds
  | _ => none
def optL (o : Option (List D)) (ρ : Rho) : RX (List D) := match o with | some d => .ok d ρ | none => .bad
def iSq (a : Rho → RX D) : Rho → RX (List D) := fun ρ => (a ρ).bind fun d ρ1 => optL (itms d.frz) ρ1
theorem Owns.get {K : PySem.W.Frag} {cl : Tb} {F H : Hp} : ∀ {ds : List D} {vs : List V} {A : Fp} {i : Nat} {d : D}, Owns K cl F H ds vs A → ds[i]? = some d → ∃ v, vs[i]? = some v ∧ Own K cl F H d v A
  | [], _, _, _, _, _, e => by simp at e
  | d' :: ds, vs, A, 0, d, h, e => by
    obtain ⟨v, r, B, C, es, p, q, s⟩ := h
    have e' : d' = d := by simpa using e
    subst e' es
    exact ⟨v, rfl, p.up fun x => by have := s x; omega⟩
  | d' :: ds, vs, A, i + 1, d, h, e => by
    obtain ⟨v, r, B, C, es, p, q, s⟩ := h
    subst es
    obtain ⟨v', h1, h2⟩ := Owns.get (i := i) q (by simpa using e)
    exact ⟨v', by simpa using h1, h2.up fun x => by have := s x; omega⟩
theorem Owns.snoc {K : PySem.W.Frag} {cl : Tb} {F H : Hp} : ∀ {ds : List D} {vs : List V} {A B : Fp} {d : D} {v : V}, Owns K cl F H ds vs A → Own K cl F H d v B → Owns K cl F H (ds ++ [d]) (vs ++ [v]) (fun x => A x + B x)
  | [], vs, A, B, d, v, h, o => by
    have e : vs = [] := h
    subst e
    exact ⟨v, [], B, A, rfl, o, rfl, fun x => by show B x + A x ≤ A x + B x; omega⟩
  | d' :: ds, vs, A, B, d, v, h, o => by
    obtain ⟨v', r, B', C', es, p, q, s⟩ := h
    subst es
    exact ⟨v', _, B', fun x => C' x + B x, rfl, p, Owns.snoc q o, fun x => by have := s x; show B' x + (C' x + B x) ≤ A x + B x; omega⟩
theorem sub_sqL {K : PySem.W.Frag} {a : Addr} {xs ys : List V} (le : Le F H) (h : SqL K F a xs) (h' : SqL K H a ys) (inj : SqL K H a xs → SqL K H a ys → xs = ys) : xs = ys := inj (le.sqL h) h'
/-- what stands at an address, as a list, in the abstract heap: one answer (H holds it at most once; what stands in K is not tracked) -/
theorem zero_own {d : D} {v : V} (o : Own K cl F H d v zf) (le : Le F F') : Own K cl F' H' d v zf := o.mono le (fun a ha => absurd ha (Nat.lt_irrefl _)) fun _ => Nat.le_refl _
theorem zero_owns {d : List D} {v : List V} (o : Owns K cl F H d v zf) (le : Le F F') : Owns K cl F' H' d v zf := o.mono le (fun a ha => absurd ha (Nat.lt_irrefl _)) fun _ => Nat.le_refl _
end
end FL

set_option Elab.async false
set_option linter.all false
set_option maxRecDepth 100000
namespace FL
open PySem L2
section
variable {X : Cx} {cl : Tb} {W : WX'} {K : PySem.W.Frag}
variable {G : Gh} {F H F' H' : Hp} {R B A A' : Fp} {σ : St} {ρ ρ' : Rho} {pos : Pos}

theorem fi_seq {tg l : Expr} {m : Rho → RX D} (h : FE X cl W l m) : FI X cl W tg l (iSq m) := ⟨fun pins s σ H R' I q => (pi_seq (tg := tg) h).run pins s σ H R' I (by
  obtain ⟨G, F, ρ, A, R, st, en, p⟩ := q
  refine ⟨G, F, ρ, A, R, st, en, Pst.bind p fun x ρ1 v1 F1 H1 A1 B1 e1 o1 p1 => ?_⟩
  obtain ⟨e2, le2⟩ := e1.fz
  have o2 : Own X.K cl (fz F1 H1 B1) H1 x.frz v1 zf := o1.freeze le2 fun a ha => fz_at ha
  have e3 : Ev X.K cl G F1 H1 R (fz F1 H1 B1) H1 σ ρ1 A1 zf := ⟨le2, fun _ _ => rfl, e2.st, e2.en⟩
  cases hx : x.frz with
  | lst ds =>
    rw [hx] at o2 p1
    obtain ⟨a, xs, ev, q, os⟩ := o2
    subst ev
    have q1 : SqL X.K H1 a xs := (show Le _ H1 from e2.st.sub).sqL q
    refine ⟨a, rfl, .inl ⟨⟨xs, q1⟩, p1 _ _ _ _ _ e3 fun G' F3 H3 S le3 st3 => ⟨fun i d hd => ?_, ⟨xs, (le3.trans st3.sub).sqL q, by rw [Owns.length os]; exact Nat.le_refl _⟩⟩⟩⟩
    obtain ⟨v, hv, ov⟩ := os.get hd
    refine ⟨⟨xs, v, (le3.trans st3.sub).sqL q, hv⟩, fun y H' hy => ?_⟩
    obtain ⟨rfl, hy⟩ := hy
    have := hy xs ((le3.trans st3.sub).sqL q)
    rw [hv] at this
    cases this
    exact ⟨F3, Le.refl, fun _ _ => rfl, st3, zero_own ov le3⟩
  | tup ds =>
    rw [hx] at o2 p1
    obtain ⟨a, xs, ev, q, os⟩ := o2
    subst ev
    have q1 : SqT X.K H1 a xs := (show Le _ H1 from e2.st.sub).sqT q.1
    refine ⟨a, rfl, .inr ⟨⟨xs, q1⟩, p1 _ _ _ _ _ e3 fun G' F3 H3 S le3 st3 => ⟨fun i d hd => ?_, ⟨xs, (le3.trans st3.sub).sqT q.1, by rw [Owns.length os]; exact Nat.le_refl _⟩⟩⟩⟩
    obtain ⟨v, hv, ov⟩ := os.get hd
    refine ⟨⟨xs, v, (le3.trans st3.sub).sqT q.1, hv⟩, fun y H' hy => ?_⟩
    obtain ⟨rfl, hy⟩ := hy
    have := hy xs ((le3.trans st3.sub).sqT q.1)
    rw [hv] at this
    cases this
    exact ⟨F3, Le.refl, fun _ _ => rfl, st3, zero_own ov le3⟩
  | _ => rw [hx] at p1; exact p1.elim)⟩

/-- lo, lo + 1, .. -/
def rng (lo : Int) (n : Nat) : List D := (List.range n).map fun (k : Nat) => D.int (lo + k)
noncomputable def bnd (i : Int) : Bool := yes (-(2 ^ 62) ≤ i ∧ i < 2 ^ 62)
noncomputable def iRg1 (a : Rho → RX (List D)) : Rho → RX (List D) := fun ρ => (a ρ).bind fun ds ρ1 => match ds with | [.int j] => if bnd j then .ok (rng 0 j.toNat) ρ1 else .bad | _ => .bad
noncomputable def iRg2 (a : Rho → RX (List D)) : Rho → RX (List D) := fun ρ => (a ρ).bind fun ds ρ1 => match ds with | [.int i, .int j] => if bnd i && bnd j then .ok (rng i (j - i).toNat) ρ1 else .bad | _ => .bad
theorem itOk_rng {F : Hp} {lo : Int} {n : Nat} : ItOk K cl F (Itr lo n) (rng lo n) := fun G F1 H S le st => by
  have hl : (rng lo n).length = n := by unfold rng; rw [List.length_map, List.length_range]
  refine ⟨fun i d hd => ?_, by rw [hl]; exact Nat.le_refl _⟩
  have hi : i < n := by have := (List.getElem?_eq_some_iff.mp hd).1; omega
  refine ⟨hi, fun x H' y => ?_⟩
  obtain ⟨rfl, rfl⟩ := y
  have e : d = .int (lo + i) := by
    unfold rng at hd
    rw [List.getElem?_map, List.getElem?_range hi] at hd
    exact (Option.some.inj hd).symm
  subst e
  exact ⟨F1, Le.refl, fun _ _ => rfl, st, rfl⟩
theorem fi_range1 {tg a : Expr} {p : Pos} {m : Rho → RX (List D)} (hg : Gl X "range") (hm : X.mg "range" = none) (ha : FA X cl W [a] m) (hs : starEach [a] X.env = [(false, eval a X.env)] := by rfl) : FI X cl W tg (.Call (.Name "range" p) [a] [] pos) (iRg1 m) :=
  ⟨fun pins s σ H R' I q => (pi_range1 (tg := tg) hg hm ha hs).run pins s σ H R' I (by
  obtain ⟨G, F, ρ, A, R, st, en, p⟩ := q
  refine ⟨G, F, ρ, A, R, st, en, Pst.bind p fun x ρ1 v1 F1 H1 A1 B1 e1 o1 p1 => ?_⟩
  have hx : ∃ j, x = [.int j] ∧ bnd j = true := by
    split at p1
    · rename_i j
      refine ⟨j, rfl, ?_⟩
      by_cases hb : bnd j = true
      · exact hb
      · rw [if_neg hb] at p1; exact p1.elim
    · exact p1.elim
  obtain ⟨j, rfl, hb⟩ := hx
  obtain ⟨v, r, B, C, rfl, ov, os, _⟩ := o1
  have e1' : v = .int j := ov
  have e2' : r = [] := os
  subst e1' e2'
  simp only [hb, if_true] at p1
  obtain ⟨h1, h2⟩ := of_yes hb
  exact ⟨j, rfl, h1, h2, p1 _ F1 H1 A1 zf (Ev.self (e1.st.less fun x => by show A1 x + R x ≤ A1 x + (B1 x + R x); omega) e1.en) itOk_rng⟩)⟩
theorem fi_range2 {tg a b : Expr} {p : Pos} {m : Rho → RX (List D)} (hg : Gl X "range") (hm : X.mg "range" = none) (ha : FA X cl W [a, b] m) (hs : starEach [a, b] X.env = [(false, eval a X.env), (false, eval b X.env)] := by rfl) (hs2 : starEach [b] X.env = [(false, eval b X.env)] := by rfl) : FI X cl W tg (.Call (.Name "range" p) [a, b] [] pos) (iRg2 m) :=
  ⟨fun pins s σ H R' I q => (pi_range2 (tg := tg) hg hm ha hs hs2).run pins s σ H R' I (by
  obtain ⟨G, F, ρ, A, R, st, en, p⟩ := q
  refine ⟨G, F, ρ, A, R, st, en, Pst.bind p fun x ρ1 v1 F1 H1 A1 B1 e1 o1 p1 => ?_⟩
  have hx : ∃ i j, x = [.int i, .int j] ∧ bnd i = true ∧ bnd j = true := by
    split at p1
    · rename_i i j
      refine ⟨i, j, rfl, ?_⟩
      by_cases hb : (bnd i && bnd j) = true
      · simpa using hb
      · rw [if_neg hb] at p1; exact p1.elim
    · exact p1.elim
  obtain ⟨i, j, rfl, hbi, hbj⟩ := hx
  simp only [hbi, hbj, Bool.and_self, if_true] at p1
  obtain ⟨v, r, B, C, rfl, ov, os, _⟩ := o1
  obtain ⟨v', r', B', C', rfl, ov', os', _⟩ := os
  have e1' : v = .int i := ov
  have e2' : v' = .int j := ov'
  have e3' : r' = [] := os'
  subst e1' e2' e3'
  obtain ⟨h1, h2⟩ := of_yes hbi
  obtain ⟨h3, h4⟩ := of_yes hbj
  exact ⟨i, j, rfl, ⟨h1, h2, h3, h4⟩, p1 _ F1 H1 A1 zf (Ev.self (e1.st.less fun x => by show A1 x + R x ≤ A1 x + (B1 x + R x); omega) e1.en) itOk_rng⟩)⟩

/-! ### comprehensions -/
def RX.noex {α : Type} (r : RX α) : RX α := match r with | .ok a ρ => .ok a ρ | _ => .bad
noncomputable def lcl (vs : List Nat) (g : D → Rho → Option Rho) (t : Rho → RX Bool) (e : Rho → RX D) : List D → List D → Rho → RX (List D)
  | [], acc, ρ => .ok acc ρ
  | d :: ds, acc, ρ =>
    match g d ρ with
    | none => .bad
    | some ρ1 =>
      match t ρ1 with
      | .ok true ρ2 =>
        match e ρ2 with
        | .ok y ρ3 => if cap acc.length then lcl vs g t e ds (acc ++ [y]) (fgt vs ρ3) else .bad
        | _ => .bad
      | .ok false ρ2 => lcl vs g t e ds acc (fgt vs ρ2)
      | _ => .bad
def rst (ρ1 : Rho) : List Nat → Rho → Rho
  | [], ρ2 => ρ2
  | i :: vs, ρ2 => match ρ1[i]? with | some (some d) => if d.pure then (rst ρ1 vs ρ2).set i (some d) else rst ρ1 vs ρ2 | _ => rst ρ1 vs ρ2
noncomputable def eLc (vs : List Nat) (it : Rho → RX (List D)) (g : D → Rho → Option Rho) (t : Rho → RX Bool) (e : Rho → RX D) : Rho → RX D := fun ρ =>
  (it ρ).bind fun ds ρ1 => (lcl vs g t e ds [] (fgt vs ρ1)).bind fun acc ρ2 => .ok (.vec acc) (rst ρ1 vs ρ2)
def tT : Rho → RX Bool := fun ρ => .ok true ρ

theorem EnvR.set2 : ∀ {ρ : Rho} {σ : St} {A : Fp} (i : Nat), EnvR K cl F H ρ σ A → EnvR K cl F H (ρ.set i none) (σ.set i none) A
  | [], σ, _, i, h => by
    have e : σ = [] := h
    subst e; exact rfl
  | none :: ρ, σ, A, 0, h => by
    obtain ⟨s, r, e, h⟩ := h
    subst e; exact ⟨none, r, rfl, h⟩
  | none :: ρ, σ, A, i + 1, h => by
    obtain ⟨s, r, e, h⟩ := h
    subst e; exact ⟨s, _, rfl, EnvR.set2 i h⟩
  | some d :: ρ, σ, A, 0, h => by
    obtain ⟨v, r, B, C, e, p, q, s⟩ := h
    subst e; exact ⟨none, r, rfl, q.up fun x => by have := s x; omega⟩
  | some d :: ρ, σ, A, i + 1, h => by
    obtain ⟨v, r, B, C, e, p, q, s⟩ := h
    subst e; exact ⟨v, _, B, C, rfl, p, EnvR.set2 i q, s⟩
theorem EnvR.wipe : ∀ (vs : List Nat) {ρ : Rho} {σ : St} {A : Fp}, EnvR K cl F H ρ σ A → EnvR K cl F H (FL.fgt vs ρ) (L2.wipe σ vs) A
  | [], _, _, _, h => h
  | v :: vs, _, _, _, h => (EnvR.wipe vs h).set2 v
theorem EnvR.other : ∀ {ρ : Rho} {σ σ' : St} {A : Fp}, EnvR K cl F H ρ σ A → σ'.length = σ.length → (∀ (i : Nat) v, σ[i]? = some (some v) → σ'[i]? = some (some v)) → EnvR K cl F H ρ σ' A
  | [], σ, σ', _, h, l, _ => by
    have e : σ = [] := h
    subst e
    exact List.length_eq_zero_iff.mp l
  | none :: ρ, σ, σ', A, h, l, w => by
    obtain ⟨s, r, e, h⟩ := h
    subst e
    cases σ' with
    | nil => simp at l
    | cons s' r' => exact ⟨s', r', rfl, EnvR.other h (by simpa using l) fun i v q => by simpa using w (i + 1) v (by simpa using q)⟩
  | some d :: ρ, σ, σ', A, h, l, w => by
    obtain ⟨v, r, B, C, e, p, q, s⟩ := h
    subst e
    cases σ' with
    | nil => simp at l
    | cons s' r' =>
      have e' : s' = some v := by simpa using w 0 v (by simp)
      subst e'
      exact ⟨v, r', B, C, rfl, p, EnvR.other q (by simpa using l) fun i v q => by simpa using w (i + 1) v (by simpa using q), s⟩
theorem EnvR.unwipe {vs : List Nat} (h : EnvR K cl F H ρ (L2.wipe σ vs) A) : EnvR K cl F H ρ σ A := h.other (wipe_length σ vs).symm fun i v q => (wipe_some q).1
theorem wipe_setv (v : Nat) : ∀ (vs : List Nat) (σ : St) (o : Option V), (L2.wipe (σ.set v o) vs).set v none = (L2.wipe σ vs).set v none
  | [], σ, o => by show (σ.set v o).set v none = σ.set v none; rw [List.set_set]
  | u :: vs, σ, o => by
    show ((L2.wipe (σ.set v o) vs).set u none).set v none = ((L2.wipe σ vs).set u none).set v none
    by_cases h : u = v
    · subst h; rw [List.set_set, List.set_set, wipe_setv u vs]
    · rw [List.set_comm _ _ h, wipe_setv v vs, List.set_comm _ _ (Ne.symm h)]
theorem wipe_idem : ∀ (vs : List Nat) (σ : St), L2.wipe (L2.wipe σ vs) vs = L2.wipe σ vs
  | [], σ => rfl
  | v :: vs, σ => by
    show (L2.wipe ((L2.wipe σ vs).set v none) vs).set v none = (L2.wipe σ vs).set v none
    rw [wipe_setv, wipe_idem]
/-- the old values of the block's names, where they are pure -/
theorem EnvR.rst {ρ1 : Rho} {A1 : Fp} {F1 H1 : Hp} (e1 : EnvR K cl F1 H1 ρ1 σ A1) (le : Le F1 F) : ∀ (vs : List Nat) {ρ2 : Rho} {A : Fp}, EnvR K cl F H ρ2 σ A → EnvR K cl F H (FL.rst ρ1 vs ρ2) σ A
  | [], _, _, h => h
  | i :: vs, ρ2, A, h => by
    have ih := EnvR.rst e1 le vs h
    unfold FL.rst
    split
    · rename_i d hd
      split
      · rename_i hp
        obtain ⟨v, B, C, hv, o, _, _⟩ := e1.get hd
        have o' : Own K cl F H d v zf := (o.of_pure (H' := H) hp).mono le (fun a ha => absurd ha (Nat.lt_irrefl _)) fun _ => Nat.le_refl _
        have := ih.put (i := i) o'
        have hσ : σ.set i (some v) = σ := by
          obtain ⟨hl, hg⟩ := List.getElem?_eq_some_iff.mp hv
          rw [← hg]
          exact List.set_getElem_self hl
        rw [hσ] at this
        exact this.up fun x => by show zf x + A x ≤ A x; unfold zf; omega
      · exact ih
    · exact ih

/-- an owned object is rewritten -/
theorem upd_own {p : Addr} {o : HO} {S : Fp} (st : Sta G F H S) (hp : 0 < S p) (ho : ∀ xs, o ≠ .tup xs := by intro _ h; cases h) : Sta G F (upd H p o) S := by
  obtain ⟨h1, h2, u, h3⟩ := st.own p hp
  refine ⟨fun a w e => ?_, fun a w e => ?_, st.low, st.fr, fun a ha => ?_, st.nd, fun a xs ha => ?_⟩
  · rw [upd_ne (ne_of_none e h1)]; exact st.sub a w e
  · rw [upd_ne (ne_of_none e h2)]; exact st.ent a w e
  · obtain ⟨g1, g2, w, g3⟩ := st.own a ha
    refine ⟨g1, g2, ?_⟩
    by_cases h : a = p
    · subst h; exact ⟨o, upd_same⟩
    · exact ⟨w, by rw [upd_ne h]; exact g3⟩
  · by_cases h : a = p
    · subst h; rw [upd_same]; intro e; exact ho xs (Option.some.inj e)
    · rw [upd_ne h]; exact st.nt a xs ha

theorem lc_imp {wi : TI} {g : TG} {tt : TT} {te : TE} {it : Rho → RX (List D)} {gm : D → Rho → Option Rho} {t : Rho → RX Bool} {m : Rho → RX D} {vs : List Nat}
    (hwi : ∀ σ H Q, tX X.K cl W (rIt X.K cl) it σ H Q → wi σ H Q) (hg : ∀ v σ H Q, tG X.K cl vs gm v σ H Q → g v σ H Q)
    (ht : ∀ σ H Q, tX X.K cl (fun _ _ _ _ => False) rB t σ H Q → tt σ H Q) (he : ∀ σ H Q, tX X.K cl (fun _ _ _ _ => False) (rD X.K cl) m σ H Q → te σ H Q)
    (σ : St) (H : Hp) (Q : VK) (q : tX X.K cl W (rD X.K cl) (eLc vs it gm t m) σ H Q) : tLc wi g tt te vs σ H Q := by
  obtain ⟨G, F, ρ, A, R, st, en, p⟩ := q
  refine hwi _ _ _ ⟨G, F, ρ, A, R, st, en, Pst.bind p fun ds ρ1 J F1 H1 A1 B1 e1 o1 p1 => ?_⟩
  intro Dd nD
  -- the turn's word
  let Wd : Nat → Hp → Prop := fun i H => ∃ F ρ2 A C acc accV, Le F1 F ∧ F Dd = none ∧ H Dd = some (.lst accV) ∧ Sta G F H (fun x => A x + (one Dd x + (C x + R x))) ∧ (∀ a, 0 < R a → H a = H1 a) ∧ EnvR X.K cl F H ρ2 (wipe σ vs) A ∧ Owns X.K cl F H acc accV C ∧
    Pst X.K cl W (rD X.K cl) G F1 H1 σ R ((lcl vs gm t m (ds.drop i) acc ρ2).bind fun acc ρ2 => .ok (.vec acc) (rst ρ1 vs ρ2)) Q
  have st1 : Sta G F1 H1 (fun x => A1 x + R x) := e1.st.less fun x => by show A1 x + R x ≤ A1 x + (B1 x + R x); omega
  obtain ⟨fD, sD, stD⟩ := lay_owned (o := .lst []) st1 nD
  have start : Wd 0 (upd H1 Dd (.lst [])) := by
    refine ⟨F1, fgt vs ρ1, A1, zf, [], [], Le.refl, fD, upd_same, stD.less fun x => ?_, fun a ha => ?_, ?_, rfl, p1⟩
    · show A1 x + (one Dd x + (zf x + R x)) ≤ one Dd x + (A1 x + R x); unfold zf; omega
    · have hne : a ≠ Dd := fun e => by subst e; have : A1 a + R a = 0 := sD; omega
      exact upd_ne hne
    · refine (EnvR.wipe vs e1.en).mono Le.refl (fun a ha => ?_) fun _ => Nat.le_refl _
      have hne : a ≠ Dd := fun e => by subst e; have : A1 a + R a = 0 := sD; omega
      exact ⟨upd_ne hne, (st1.own a (by show 0 < A1 a + R a; omega)).1⟩
  refine ⟨fun i m H => m = ds.length - i ∧ i ≤ ds.length ∧ Wd i H, ⟨ds.length, rfl, Nat.zero_le _, start⟩, ?_⟩
  rintro i mm H2 ⟨rfl, hi, F2, ρ2, A2, C, acc, accV, le2, fD2, hD2, st2, ag2, en2, oa2, p2⟩
  obtain ⟨go, stop⟩ := o1 G F2 H2 _ le2 st2
  by_cases hlt : i < ds.length
  · refine .inr ?_
    have hd : ds[i]? = some ds[i] := List.getElem?_eq_getElem hlt
    obtain ⟨g1, g2⟩ := go i _ hd
    refine ⟨g1, Wd (i + 1), fun H' n => ⟨ds.length - (i + 1), by omega, rfl, hlt, n⟩, fun x H' y => ?_⟩
    obtain ⟨F3, le3, ag3, st3, o3⟩ := g2 x H' y
    have hdrop : ds.drop i = ds[i] :: ds.drop (i + 1) := List.drop_eq_getElem_cons hlt
    rw [hdrop] at p2
    unfold lcl at p2
    -- R with the list and its items held
    have en3 : EnvR X.K cl F3 H' ρ2 (wipe σ vs) A2 := en2.mono le3 (fun a ha => ⟨ag3 a (by show 0 < A2 a + _; omega), (st3.own a (by show 0 < A2 a + _; omega)).1⟩) fun _ => Nat.le_refl _
    refine hg _ _ _ _ ⟨G, F3, ρ2, A2, zf, fun x => one Dd x + (C x + R x), ds[i], st3.less fun x => by show A2 x + (zf x + (one Dd x + (C x + R x))) ≤ A2 x + (one Dd x + (C x + R x)); unfold zf; omega, en3, o3, ?_⟩
    cases hgd : gm ds[i] ρ2 with
    | none => simp only [hgd] at p2; exact p2.elim
    | some ρ3 =>
      simp only [hgd] at p2
      intro σ4 F4 H4 A4 hw e4
      rw [wipe_idem] at hw
      refine ⟨hw, ?_⟩
      refine ht _ _ _ ⟨G, F4, ρ3, A4, fun x => one Dd x + (C x + R x), e4.st.less fun x => by show A4 x + (one Dd x + (C x + R x)) ≤ A4 x + (zf x + (one Dd x + (C x + R x))); omega, e4.en, ?_⟩
      cases htr : t ρ3 with
      | ex c xs ρ4 => simp only [htr] at p2; exact p2.elim
      | bad => simp only [htr] at p2; exact p2.elim
      | ok b ρ4 =>
        intro b' F5 H5 A5 B5 e5 ob
        have ob' : b = b' := ob
        subst ob'
        have ag5 : ∀ a, 0 < one Dd a + (C a + R a) → H5 a = H2 a := fun a ha => (e5.ag a ha).trans ((e4.ag a ha).trans (ag3 a (by show 0 < A2 a + (one Dd a + (C a + R a)); omega)))
        have le5 : Le F2 F5 := le3.trans (e4.le.trans e5.le)
        have fre5 : ∀ a, 0 < one Dd a + (C a + R a) → F5 a = none := fun a ha => (e5.st.own a (by show 0 < A5 a + (B5 a + (one Dd a + (C a + R a))); omega)).1
        have oneD : 0 < one Dd Dd := by rw [one_self]; exact Nat.one_pos
        cases b with
        | false =>
          simp only [htr] at p2
          rw [if_neg Bool.false_ne_true]
          refine ⟨F5, fgt vs ρ4, A5, C, acc, accV, le2.trans le5, fre5 Dd (by omega), (ag5 Dd (by omega)).trans hD2, e5.st.less fun x => ?_, fun a ha => (ag5 a (by omega)).trans (ag2 a ha), ?_, oa2.mono le5 (fun a ha => ⟨ag5 a (by omega), fre5 a (by omega)⟩) (fun _ => Nat.le_refl _), p2⟩
          · show A5 x + (one Dd x + (C x + R x)) ≤ A5 x + (B5 x + (one Dd x + (C x + R x))); omega
          · rw [← hw]; exact EnvR.wipe vs e5.en
        | true =>
          simp only [htr] at p2
          rw [if_pos rfl]
          refine he _ _ _ ⟨G, F5, ρ4, A5, fun x => one Dd x + (C x + R x), e5.st.less fun x => by show A5 x + (one Dd x + (C x + R x)) ≤ A5 x + (B5 x + (one Dd x + (C x + R x))); omega, e5.en, ?_⟩
          cases hmr : m ρ4 with
          | ex c xs ρ5 => simp only [hmr] at p2; exact p2.elim
          | bad => simp only [hmr] at p2; exact p2.elim
          | ok d ρ5 =>
            simp only [hmr] at p2
            intro v6 F6 H6 A6 B6 e6 o6
            have ag6 : ∀ a, 0 < one Dd a + (C a + R a) → H6 a = H2 a := fun a ha => (e6.ag a ha).trans (ag5 a ha)
            have le6 : Le F2 F6 := le5.trans e6.le
            have fre6 : ∀ a, 0 < one Dd a + (C a + R a) → F6 a = none := fun a ha => (e6.st.own a (by show 0 < A6 a + (B6 a + (one Dd a + (C a + R a))); omega)).1
            by_cases hc : cap acc.length = true
            · rw [if_pos hc] at p2
              have hal : acc.length = accV.length := Owns.length oa2
              refine ⟨accV, (ag6 Dd (by omega)).trans hD2, by rw [← hal]; exact cap_line hc, ?_⟩
              have st6 := upd_own (o := .lst (accV ++ [v6])) e6.st (show 0 < A6 Dd + (B6 Dd + (one Dd Dd + (C Dd + R Dd))) by omega)
              have ndD : ∀ a, 0 < A6 a + (B6 a + (C a + R a)) → a ≠ Dd := fun a ha e => by
                subst e
                have h1 : A6 a + (B6 a + (one a a + (C a + R a))) ≤ 1 := e6.st.nd a
                rw [one_self] at h1
                omega
              refine ⟨F6, fgt vs ρ5, A6, fun x => C x + B6 x, acc ++ [d], accV ++ [v6], le2.trans le6, fre6 Dd (by omega), upd_same, st6.less fun x => ?_, fun a ha => ?_, ?_, ?_, p2⟩
              · show A6 x + (one Dd x + (C x + B6 x + R x)) ≤ A6 x + (B6 x + (one Dd x + (C x + R x))); omega
              · rw [upd_ne (ndD a (by omega))]; exact (ag6 a (by omega)).trans (ag2 a ha)
              · rw [← hw]
                refine (EnvR.wipe vs e6.en).mono Le.refl (fun a ha => ⟨upd_ne (ndD a (by omega)), (e6.st.own a (by show 0 < A6 a + _; omega)).1⟩) fun _ => Nat.le_refl _
              · have oa6 : Owns X.K cl F6 (upd H6 Dd (.lst (accV ++ [v6]))) acc accV C := oa2.mono le6 (fun a ha => ⟨by rw [upd_ne (ndD a (by omega))]; exact ag6 a (by omega), fre6 a (by omega)⟩) fun _ => Nat.le_refl _
                have ov6 : Own X.K cl F6 (upd H6 Dd (.lst (accV ++ [v6]))) d v6 B6 := o6.mono Le.refl (fun a ha => ⟨upd_ne (ndD a (by omega)), (e6.st.own a (by show 0 < A6 a + (B6 a + _); omega)).1⟩) fun _ => Nat.le_refl _
                exact oa6.snoc ov6
            · rw [if_neg hc] at p2; exact p2.elim
  · have e : i = ds.length := by omega
    subst e
    refine .inl ⟨stop, ?_⟩
    rw [List.drop_length] at p2
    refine p2 (.ref Dd) F2 H2 A2 (fun x => one Dd x + C x) ⟨le2, ag2, st2.less fun x => by show A2 x + (one Dd x + C x + R x) ≤ A2 x + (one Dd x + (C x + R x)); omega, EnvR.rst e1.en le2 vs en2.unwipe⟩ ⟨Dd, accV, C, rfl, fD2, hD2, oa2, fun _ => Nat.le_refl _⟩
end
end FL

set_option Elab.async false
set_option linter.all false
set_option maxRecDepth 100000
namespace FL
open PySem L2
open PyProof.Rows (envOfC)
abbrev W0 : WX' := fun _ _ _ _ => False
section
variable {X : Cx} {cl : Tb} {W : WX'} {K : PySem.W.Frag}
variable {G : Gh} {F H F' H' : Hp} {R B A A' : Fp} {σ : St} {ρ ρ' : Rho} {pos : Pos}

theorem PTs_imp {X : Cx} {es : List Expr} {t t' : TT} (h : PTs X es t) (i : ∀ σ H Q, t' σ H Q → t σ H Q) : PTs X es t' := ⟨fun pins s σ H Q I q => h.run pins s σ H Q I (i σ H Q q)⟩
theorem ft_nil : PTs X [] (tX X.K cl W rB tT) := PTs_imp pts_nil fun σ H Q q => by
  obtain ⟨G, F, ρ, A, R, st, en, p⟩ := q
  exact p true F H A zf (Ev.self st en) rfl
theorem ft_one {c : Expr} {t : Rho → RX Bool} (h : FT X cl W c t) : PTs X [c] (tX X.K cl W rB t) := pts_one h

theorem fe_lc {elt tg iter : Expr} {ifs : List Expr} {scope : Scope} {own : List (Str × Nat)} {it : Rho → RX (List D)} {g : D → Rho → Option Rho} {t : Rho → RX Bool} {m : Rho → RX D} (hc : X.calm = true) (hN : X.N.Nodup) (hi : FI X cl W tg iter it) (ok : BlkOk X.N X.env.scope scope own)
    (hg : ∀ (s : Shared) (H : Hp) (C : Addr) (clo : List (Str × Addr)) (fp : List Addr), FG (X.blk s H scope (compEnvC scope clo C X.env) fp) cl tg (own.map (·.2)) g)
    (ht : ∀ (s : Shared) (H : Hp) (C : Addr) (clo : List (Str × Addr)) (fp : List Addr), PTs (X.blk s H scope (compEnvC scope clo C X.env) fp) ifs (tX X.K cl W0 rB t))
    (he : ∀ (s : Shared) (H : Hp) (C : Addr) (clo : List (Str × Addr)) (fp : List Addr), FE (X.blk s H scope (compEnvC scope clo C X.env) fp) cl W0 elt m) (hs : ∀ x, foldedSetIterable iter X.env x = pure x := by intro _; rfl) :
    FE X cl W (.ListComp elt [⟨tg, iter, ifs, 0⟩] scope pos) (eLc (own.map (·.2)) it g t m) :=
  PE_imp (pe_lc hc hN hi ok hg ht he hs) fun σ H Q q => lc_imp (fun _ _ _ q => q) (fun _ _ _ _ q => q) (fun _ _ _ q => q) (fun _ _ _ q => q) σ H Q q
theorem fs_setLc {i : Nat} {y : Str} {py : Pos} {spos : Pos} {elt tg iter : Expr} {ifs : List Expr} {scope : Scope} {own : List (Str × Nat)} {it : Rho → RX (List D)} {g : D → Rho → Option Rho} {t : Rho → RX Bool} {m : Rho → RX D} (hc : X.calm = true) (hN : X.N.Nodup)
    (hy : X.N[i]? = some y) (hyl : X.env.scope.names.lookup y = some .local) (hsw : swapsWith (.ListComp elt [⟨tg, iter, ifs, 0⟩] scope pos) (some (.Name y py)) spos.line X.env = pure true) (hi : FI X cl W tg iter it) (ok : BlkOk X.N X.env.scope scope own)
    (hg : ∀ (s : Shared) (H : Hp) (C : Addr) (clo : List (Str × Addr)) (fp : List Addr), FG (X.blk s H scope (compEnvC scope clo C X.env) fp) cl tg (own.map (·.2)) g)
    (ht : ∀ (s : Shared) (H : Hp) (C : Addr) (clo : List (Str × Addr)) (fp : List Addr), PTs (X.blk s H scope (compEnvC scope clo C X.env) fp) ifs (tX X.K cl W0 rB t))
    (he : ∀ (s : Shared) (H : Hp) (C : Addr) (clo : List (Str × Addr)) (fp : List Addr), FE (X.blk s H scope (compEnvC scope clo C X.env) fp) cl W0 elt m) (hs : ∀ x, foldedSetIterable iter X.env x = pure x := by intro _; rfl) :
    FS X cl W (.Assign [.Name y py] (.ListComp elt [⟨tg, iter, ifs, 0⟩] scope pos) spos) (sSet i (eLc (own.map (·.2)) it g t m)) :=
  PS_imp (ps_setLc hc hN hy hyl hsw hi ok hg ht he hs) (set_imp fun σ H Q q => lc_imp (fun _ _ _ q => q) (fun _ _ _ _ q => q) (fun _ _ _ q => q) (fun _ _ _ q => q) σ H Q q)

/-! ### defs -/
inductive RF where
  | rt (d : D) | ex (c : Nat) (ds : List D) | bad
def RS.out (r : RS) : RF := match r with | .nx _ => .rt .non | .rt d => .rt d | .ex c ds _ => .ex c ds | _ => .bad
/-- a def's body, run: n slots -/
def runF (np n : Nat) (b : Rho → RS) (ds : List D) : RF := if ds.length = np then (b (ds.map some ++ List.replicate (n - np) none)).out else .bad
theorem runF_len {np n : Nat} {b : Rho → RS} : ∀ l, runF np n b l ≠ .bad → l.length = np := fun l h => by
  unfold runF at h
  split at h
  · assumption
  · exact absurd rfl h
/-- the promise of a def: m is what it does with data -/
def spF (K : PySem.W.Frag) (cl : Tb) (n : Nat) (m : List D → RF) : Sp := fun vs H Q E => vs.length = n ∧ ∃ F ds, Le F H ∧ Owns K cl F H ds vs zf ∧
  match m ds with
  | .rt d => ∀ v F' H' B, Le F F' → Le H H' → Sta ⟨H, F⟩ F' H' B → Own K cl F' H' d v B → Q v H'
  | .ex c xs => ∀ u d F' H', Le F F' → Le H H' → Sta ⟨H, F⟩ F' H' zf → ExR K cl F' c xs u d → E u d H'
  | .bad => False
theorem EnvR.none_all : ∀ (n : Nat), EnvR K cl F H (List.replicate n none) (List.replicate n none) zf
  | 0 => rfl
  | n + 1 => by
    show EnvR K cl F H (none :: List.replicate n none) (none :: List.replicate n none) zf
    exact ⟨none, _, rfl, EnvR.none_all n⟩
theorem EnvR.args : ∀ {ds : List D} {vs : List V} {ρ : Rho} {σ : St}, Owns K cl F H ds vs zf → EnvR K cl F H ρ σ zf → EnvR K cl F H (ds.map some ++ ρ) (vs.map some ++ σ) zf
  | [], vs, ρ, σ, h, e => by
    have ev : vs = [] := h
    subst ev
    exact e
  | d :: ds, vs, ρ, σ, h, e => by
    obtain ⟨v, r, B, C, es, p, q, s⟩ := h
    subst es
    have zB : ∀ x, B x ≤ zf x := fun x => by have := s x; omega
    have zC : ∀ x, C x ≤ zf x := fun x => by have := s x; omega
    exact ⟨v, _, zf, zf, rfl, p.up zB, EnvR.args (q.up zC) e, fun x => Nat.le_refl _⟩
theorem fn_F {P : Program} {w : World} {K : PySem.W.Frag} {mg : Str → Option Value} {base : Heap} {x qual : Str} {st : Stmt} {f : Addr} {fd : FuncData} {N ps : List Str} {k n nN : Nat} {b : Rho → RS}
    (Fn : Fun K x qual st f fd) (S : FnScope N ps (defScope st)) (hn : n = ps.length) (hN : nN = N.length)
    (hb : ∀ (cdv : Value) (A : Around) (outer : List Env) (s : Shared) (H : Hp) (E : XK), Room k (A.deeper (envOfC qual (defScope st) s.heap.objs.size f cdv)) →
      FSs (cxOf (L2.CX P w) P w K mg base N qual (defScope st) f cdv A outer s H E) cl (fun c d _ H => E c d H) (defBody st) b) :
    FnOk P w K mg base (L2.CX P w) (k + 1) f fd ps (spF K cl n (runF n nN b)) := by
  refine Fn.okX S (fun vs H Q E h => h.1.trans hn) fun cdv A outer s H vs Q E hr h => ?_
  refine ⟨_, hb cdv A outer s H E hr, ?_⟩
  obtain ⟨hl, F, ds, le, os, p⟩ := h
  have hds : ds.length = vs.length := Owns.length os
  refine ⟨⟨H, F⟩, F, ds.map some ++ List.replicate (nN - ds.length) none, zf, zf, ⟨le, Le.refl, Le.refl, fun a o e => .inl e, fun a ha => absurd ha (Nat.lt_irrefl _), fun a => Nat.zero_le _, fun a _ ha => absurd ha (Nat.lt_irrefl _)⟩, ?_, ?_⟩
  · show EnvR K cl F H (ds.map some ++ List.replicate (nN - ds.length) none) (vs.map some ++ List.replicate (N.length - vs.length) none) zf
    rw [hN, hds]
    exact EnvR.args os (EnvR.none_all _)
  · unfold runF at p
    have hdn : ds.length = n := hds.trans hl
    rw [if_pos hdn, ← hdn] at p
    cases hr : b (ds.map some ++ List.replicate (nN - ds.length) none) with
    | nx ρ => rw [hr] at p; exact fun σ F' H' A' e => p .non F' H' zf e.le e.st.ent (e.st.less fun x => by show zf x ≤ _; exact Nat.zero_le _) rfl
    | rt d => rw [hr] at p; exact fun v F' H' B e o => p v F' H' B e.le e.st.ent (e.st.less fun x => by show B x ≤ zf x + (B x + zf x); omega) o
    | ex c xs ρ => rw [hr] at p; exact fun u d σ F' H' A' e o => p u d F' H' e.le e.st.ent (e.st.less fun x => by show zf x ≤ _; exact Nat.zero_le _) o
    | bk ρ => rw [hr] at p; exact p.elim
    | ct ρ => rw [hr] at p; exact p.elim
    | bad => rw [hr] at p; exact p.elim

/-- a call: the arguments are frozen -/
def eCall (m : List D → RF) (dd : List D) (a : Rho → RX (List D)) : Rho → RX D := fun ρ => (a ρ).bind fun ds ρ1 =>
  match m (D.frzs ds ++ dd) with
  | .rt d => .ok d ρ1
  | .ex c xs => .ex c xs ρ1
  | .bad => .bad
theorem Owns.append : ∀ {ds es : List D} {vs us : List V}, Owns K cl F H ds vs zf → Owns K cl F H es us zf → Owns K cl F H (ds ++ es) (vs ++ us) zf
  | [], es, vs, us, h, e => by
    have ev : vs = [] := h
    subst ev
    exact e
  | d :: ds, es, vs, us, h, e => by
    obtain ⟨v, r, B, C, ev, p, q, s⟩ := h
    subst ev
    have zB : ∀ x, B x ≤ zf x := fun x => by have := s x; omega
    have zC : ∀ x, C x ≤ zf x := fun x => by have := s x; omega
    exact ⟨v, _, zf, zf, rfl, p.up zB, Owns.append (q.up zC) e, fun x => Nat.le_refl _⟩
/-- behind a call -/
theorem Ev.call {F2 H2 : Hp} {B2 : Fp} (e : Ev K cl G F H R F' H' σ ρ' A' zf) (le : Le F' F2) (lh : Le H' H2) (st : Sta ⟨H', F'⟩ F2 H2 B2) : Ev K cl G F H R F2 H2 σ ρ' A' B2 := by
  have old : ∀ a, 0 < A' a + R a → F' a = none ∧ G.E a = none ∧ ∃ o, H' a = some o := fun a ha => e.st.own a (by show 0 < A' a + (zf a + R a); unfold zf; omega)
  have keepF : ∀ a, 0 < A' a + R a → F2 a = none := fun a ha => by
    obtain ⟨h1, h2, o, h3⟩ := old a ha
    cases q : F2 a with
    | none => rfl
    | some w =>
      rcases st.fr a w q with z | z | ⟨ys, z⟩
      · rw [show F' a = some w from z] at h1; cases h1
      · rw [show H' a = none from z] at h3; cases h3
      · subst z
        have h4 := st.sub a _ q
        have h5 := lh a o h3
        rw [h4] at h5
        cases h5
        exact absurd h3 (e.st.nt a ys (by show 0 < A' a + (zf a + R a); unfold zf; omega))
  refine ⟨e.le.trans le, fun a ha => ?_, ⟨st.sub, fun a o z => lh a o (e.st.ent a o z), fun a o z => le a o (e.st.low a o z), fun a o z => ?_, fun a ha => ?_, fun a => ?_, fun a xs ha => ?_⟩, e.en.mono le (fun a ha => ?_) fun _ => Nat.le_refl _⟩
  · obtain ⟨_, _, o, h3⟩ := old a (by omega)
    rw [lh a o h3]
    rw [← e.ag a ha]
    exact h3.symm
  · rcases st.fr a o z with q | q | q
    · exact e.st.fr a o q
    rotate_left
    · exact .inr (.inr q)
    · right; left
      cases w : G.E a with
      | none => rfl
      | some u =>
        have := e.st.ent a u w
        rw [show H' a = none from q] at this; cases this
  · have ha' : 0 < A' a + (B2 a + R a) := ha
    by_cases hb : 0 < B2 a
    · obtain ⟨h1, h2, o, h3⟩ := st.own a hb
      refine ⟨h1, ?_, o, h3⟩
      cases w : G.E a with
      | none => rfl
      | some u =>
        have := e.st.ent a u w
        rw [show H' a = none from h2] at this; cases this
    · obtain ⟨h1, h2, o, h3⟩ := old a (by omega)
      exact ⟨keepF a (by omega), h2, o, lh a o h3⟩
  · show A' a + (B2 a + R a) ≤ 1
    have h1 : A' a + (zf a + R a) ≤ 1 := e.st.nd a
    have h2 : B2 a ≤ 1 := st.nd a
    unfold zf at h1
    by_cases hb : 0 < B2 a
    · by_cases ha : 0 < A' a + R a
      · obtain ⟨_, _, o, h3⟩ := old a ha
        obtain ⟨_, h2, _⟩ := st.own a hb
        rw [show H' a = none from h2] at h3; cases h3
      · omega
    · omega
  · have ha' : 0 < A' a + (B2 a + R a) := ha
    by_cases hb : 0 < B2 a
    · exact st.nt a xs hb
    · obtain ⟨h1, h2, o, h3⟩ := old a (by omega)
      rw [lh a o h3, ← h3]
      exact e.st.nt a xs (by show 0 < A' a + (zf a + R a); unfold zf; omega)
  · obtain ⟨_, _, o, h3⟩ := old a (by omega)
    exact ⟨(lh a o h3).trans h3.symm, keepF a (by omega)⟩
theorem call_imp {n : Nat} {m : List D → RF} {dd : List D} {dv : List V} {a : Rho → RX (List D)} (hdd : ∀ F H, Owns X.K cl F H dd dv zf) (hlen : ∀ l, m l ≠ .bad → l.length = n) (σ : St) (H : Hp) (Q : VK) (q : tX X.K cl W (rD X.K cl) (eCall m dd a) σ H Q) :
    tCallSD (spF X.K cl n m) dv (WE W) (tX X.K cl W (rL X.K cl) a) σ H Q := by
  obtain ⟨G, F, ρ, A, R, st, en, p⟩ := q
  refine ⟨G, F, ρ, A, R, st, en, Pst.bind p fun x ρ1 v1 F1 H1 A1 B1 e1 o1 p1 => ?_⟩
  obtain ⟨e2, le2⟩ := e1.fz
  have o2 : Owns X.K cl (fz F1 H1 B1) H1 (D.frzs x) v1 zf := Owns.freeze o1 le2 fun a ha => fz_at ha
  have o3 := Owns.append o2 (hdd (fz F1 H1 B1) H1)
  refine ⟨?_, fz F1 H1 B1, D.frzs x ++ dd, e2.st.sub, o3, ?_⟩
  · rw [← Owns.length o3]
    refine hlen _ fun z => ?_
    simp only [z] at p1
    exact p1
  · have e3 : Ev X.K cl G F1 H1 R (fz F1 H1 B1) H1 σ ρ1 A1 zf := ⟨le2, fun _ _ => rfl, e2.st, e2.en⟩
    cases hm : m (D.frzs x ++ dd) with
    | rt d =>
      simp only [hm] at p1
      exact fun v F' H' B le lh st' o => p1 v F' H' A1 B (e3.call le lh st') o
    | ex c xs =>
      simp only [hm] at p1
      exact fun u d F' H' le lh st' o => p1 u d F' H' A1 (e3.call le lh st') o
    | bad => simp only [hm] at p1; exact p1.elim
end
end FL

set_option Elab.async false
set_option linter.all false
set_option maxRecDepth 100000
namespace FL
open PySem L2
section
variable {X : Cx} {cl : Tb} {W : WX'} {K : PySem.W.Frag}
variable {G : Gh} {F H F' H' : Hp} {R B A A' : Fp} {σ : St} {ρ ρ' : Rho} {pos : Pos}

/-! ### operators upon ints -/
def iOp (C : Int → Int → Bool) (g : Int → Int → D) (x y : D) : Option D :=
  match x, y with
  | .int i, .int j => if C i j then some (g i j) else none
  | _, _ => none
theorem iOp_some {C : Int → Int → Bool} {g : Int → Int → D} {x y d : D} (h : iOp C g x y = some d) : ∃ i j, x = .int i ∧ y = .int j ∧ C i j = true ∧ d = g i j := by
  unfold iOp at h
  split at h
  · rename_i i j
    split at h
    · rename_i hc; exact ⟨i, j, rfl, rfl, hc, (Option.some.inj h).symm⟩
    · cases h
  · cases h
def yes2 : Int → Int → Bool := fun _ _ => true
noncomputable def mulOk (i j : Int) : Bool := yes ((-(2 ^ 64) < i ∧ i < 2 ^ 64) ∨ (-(2 ^ 64) < j ∧ j < 2 ^ 64))
noncomputable def divOk (_ j : Int) : Bool := yes (0 < j ∧ j < 1073741824)
noncomputable def modOk (_ j : Int) : Bool := yes (0 < j)
theorem does_iOp {C : Int → Int → Bool} {g : Int → Int → D} {C' : Int → Int → Prop} {g' : Int → Int → V} (hC : ∀ i j, C i j = true → C' i j) (hg : ∀ i j F H, Own X.K cl F H (g i j) (g' i j) zf) : Does2 X cl (iOp C g) (rI C' g') := fun x y d hd G F H S B C vx vy Q st ox oy k => by
  obtain ⟨i, j, rfl, rfl, hc, rfl⟩ := iOp_some hd
  have e1 : vx = .int i := ox
  have e2 : vy = .int j := oy
  exact ⟨i, j, e1, e2, hC i j hc, k _ F H zf Le.refl (fun _ _ => rfl) (st.less fun z => by show zf z + S z ≤ _; unfold zf; omega) (hg i j F H)⟩
theorem does_iOp0 {g : Int → Int → D} {g' : Int → Int → V} (hg : ∀ i j F H, Own X.K cl F H (g i j) (g' i j) zf) : Does2 X cl (iOp yes2 g) (rI0 g') := fun x y d hd G F H S B C vx vy Q st ox oy k => by
  obtain ⟨i, j, rfl, rfl, hc, rfl⟩ := iOp_some hd
  have e1 : vx = .int i := ox
  have e2 : vy = .int j := oy
  exact ⟨i, j, e1, e2, k _ F H zf Le.refl (fun _ _ => rfl) (st.less fun z => by show zf z + S z ≤ _; unfold zf; omega) (hg i j F H)⟩
def subD : D → D → Option D := iOp yes2 fun i j => .int (i - j)
noncomputable def mulD : D → D → Option D := iOp mulOk fun i j => .int (i * j)
noncomputable def modD : D → D → Option D := iOp modOk fun i j => .int (i % j)
noncomputable def divD : D → D → Option D := iOp divOk fun i j => .int (i / j)
def ltD : D → D → Option D := iOp yes2 fun i j => .bl (decide (i < j))
def leD : D → D → Option D := iOp yes2 fun i j => .bl (decide (i ≤ j))
def gtD : D → D → Option D := iOp yes2 fun i j => .bl (decide (j < i))
def geD : D → D → Option D := iOp yes2 fun i j => .bl (decide (j ≤ i))
def addI : D → D → Option D := iOp yes2 fun i j => .int (i + j)
abbrev rSub' : R2 := rI0 fun i j => .int (i - j)
theorem d_sub : Does2 X cl subD (rI0 fun i j => .int (i - j)) := does_iOp0 fun _ _ _ _ => rfl
theorem d_addI : Does2 X cl addI (rI0 fun i j => .int (i + j)) := does_iOp0 fun _ _ _ _ => rfl
theorem d_mul : Does2 X cl mulD (rI CMul fun i j => .int (i * j)) := does_iOp (fun i j h => by unfold mulOk at h; have h' := of_yes h; exact h') fun _ _ _ _ => rfl
theorem d_mod : Does2 X cl modD (rI (fun _ j => 0 < j) fun i j => .int (i % j)) := does_iOp (fun _ _ h => of_yes h) fun _ _ _ _ => rfl
theorem d_div : Does2 X cl divD (rI CDiv fun i j => .int (i / j)) := does_iOp (fun i j h => by unfold divOk at h; have h' := of_yes h; exact h') fun _ _ _ _ => rfl
theorem d_lt : Does2 X cl ltD (rI0 fun i j => .bl (decide (i < j))) := does_iOp0 fun _ _ _ _ => rfl
theorem d_le : Does2 X cl leD (rI0 fun i j => .bl (decide (i ≤ j))) := does_iOp0 fun _ _ _ _ => rfl
theorem d_gt : Does2 X cl gtD (rI0 fun i j => .bl (decide (j < i))) := does_iOp0 fun _ _ _ _ => rfl
theorem d_ge : Does2 X cl geD (rI0 fun i j => .bl (decide (j ≤ i))) := does_iOp0 fun _ _ _ _ => rfl
def negD : D → Option D := fun x => match x with | .int i => some (.int (-i)) | _ => none
theorem d_neg : Does1 X cl negD (rU fun i => .int (-i)) := fun x d hd G F H S C vx Q st ox k => by
  cases x with
  | int i =>
    have e : d = .int (-i) := (Option.some.inj hd).symm
    subst e
    exact ⟨i, ox, k _ F H zf Le.refl (fun _ _ => rfl) (st.less fun z => by show zf z + S z ≤ _; unfold zf; omega) rfl⟩
  | _ => cases hd

/-! ### scalars -/
def scl : D → Option V
  | .non => some .non | .bl b => some (.bl b) | .int i => some (.int i) | .str s => some (.str s)
  | _ => none
theorem scl_own {d : D} {v w : V} {A : Fp} (h : scl d = some w) (o : Own K cl F H d v A) : v = w := by
  cases d with
  | non => cases h; exact o
  | bl b => cases h; exact o
  | int i => cases h; exact o
  | str s => cases h; exact o
  | _ => cases h
def eqS (x y : D) : Option D := match scl x, scl y with | some v, some w => if scal v w then some (.bl (decide (v = w))) else none | _, _ => none
def neS (x y : D) : Option D := match scl x, scl y with | some v, some w => if scal v w then some (.bl (!decide (v = w))) else none | _, _ => none
theorem d_eqS : Does2 X cl eqS rEq := fun x y d hd G F H S B C vx vy Q st ox oy k => by
  unfold eqS at hd
  cases hx : scl x with
  | none => rw [hx] at hd; cases hd
  | some v =>
    cases hy : scl y with
    | none => rw [hx, hy] at hd; cases hd
    | some w =>
      rw [hx, hy] at hd
      simp only at hd
      split at hd
      · rename_i hs
        have e1 := scl_own hx ox
        have e2 := scl_own hy oy
        subst e1 e2
        have e3 := (Option.some.inj hd).symm
        subst e3
        exact ⟨hs, k _ F H zf Le.refl (fun _ _ => rfl) (st.less fun z => by show zf z + S z ≤ _; unfold zf; omega) rfl⟩
      · cases hd
theorem d_neS : Does2 X cl neS rNe := fun x y d hd G F H S B C vx vy Q st ox oy k => by
  unfold neS at hd
  cases hx : scl x with
  | none => rw [hx] at hd; cases hd
  | some v =>
    cases hy : scl y with
    | none => rw [hx, hy] at hd; cases hd
    | some w =>
      rw [hx, hy] at hd
      simp only at hd
      split at hd
      · rename_i hs
        have e1 := scl_own hx ox
        have e2 := scl_own hy oy
        subst e1 e2
        have e3 := (Option.some.inj hd).symm
        subst e3
        exact ⟨hs, k _ F H zf Le.refl (fun _ _ => rfl) (st.less fun z => by show zf z + S z ≤ _; unfold zf; omega) rfl⟩
      · cases hd
def isB (x y : D) : Option D := match x, y with | .bl a, .bl b => some (.bl (decide (a = b))) | _, _ => none
theorem d_isB : Does2 X cl isB rIsB := fun x y d hd G F H S B C vx vy Q st ox oy k => by
  unfold isB at hd
  split at hd
  · rename_i a b
    have e := (Option.some.inj hd).symm
    subst e
    exact ⟨a, b, ox, oy, k _ F H zf Le.refl (fun _ _ => rfl) (st.less fun z => by show zf z + S z ≤ _; unfold zf; omega) rfl⟩
  · cases hd
/-- is None -/
def D.isNon : D → Bool
  | .non => true
  | .val w => decide (w = .non)
  | _ => false
def isN (x y : D) : Option D := if y.isNon then some (.bl x.isNon) else none
def notN (x y : D) : Option D := if y.isNon then some (.bl (!x.isNon)) else none
theorem isNon_own {d : D} {v : V} {A : Fp} (h : d.isNon = true) (o : Own K cl F H d v A) : v = .non := by
  cases d with
  | non => exact o
  | val w => have e : v = w := o; subst e; exact of_decide_eq_true h
  | _ => cases h
theorem own_non {d : D} {v : V} {A : Fp} (o : Own K cl F H d v A) : decide (v = .non) = d.isNon := by
  cases d with
  | non => have e : v = .non := o; subst e; rfl
  | bl b => have e : v = .bl b := o; subst e; rfl
  | int b => have e : v = .int b := o; subst e; rfl
  | str b => have e : v = .str b := o; subst e; rfl
  | tup ds => obtain ⟨a, xs, e, _⟩ := o; subst e; rfl
  | lst ds => obtain ⟨a, xs, e, _⟩ := o; subst e; rfl
  | vec ds => obtain ⟨a, xs, B, e, _⟩ := o; subst e; rfl
  | obj c ds => obtain ⟨a, xs, B, e, _⟩ := o; subst e; rfl
  | mobj c ds => obtain ⟨a, xs, B, C, ⟨e, _⟩, _⟩ := o; subst e; rfl
  | exc c ds => obtain ⟨xs, ⟨e, _⟩, _⟩ := o; subst e; rfl
  | dT ks ds => obtain ⟨a, xs, e, _⟩ := o; subst e; rfl
  | vT ks ds => obtain ⟨a, xs, B, e, _⟩ := o; subst e; rfl
  | dK ks ds => obtain ⟨a, xs, e, _⟩ := o; subst e; rfl
  | vK ks ds => obtain ⟨a, xs, B, e, _⟩ := o; subst e; rfl
  | val w => have e : v = w := o; subst e; rfl
theorem d_isN : Does2 X cl isN (fun x y H Q => y = .non ∧ Q (.bl (decide (x = .non))) H) := fun x y d hd G F H S B C vx vy Q st ox oy k => by
  unfold isN at hd
  split at hd
  · rename_i hy
    have e := (Option.some.inj hd).symm
    subst e
    refine ⟨isNon_own hy oy, ?_⟩
    rw [own_non ox]
    exact k _ F H zf Le.refl (fun _ _ => rfl) (st.less fun z => by show zf z + S z ≤ _; unfold zf; omega) rfl
  · cases hd
theorem d_notN : Does2 X cl notN (fun x y H Q => y = .non ∧ Q (.bl (!decide (x = .non))) H) := fun x y d hd G F H S B C vx vy Q st ox oy k => by
  unfold notN at hd
  split at hd
  · rename_i hy
    have e := (Option.some.inj hd).symm
    subst e
    refine ⟨isNon_own hy oy, ?_⟩
    rw [own_non ox]
    exact k _ F H zf Le.refl (fun _ _ => rfl) (st.less fun z => by show zf z + S z ≤ _; unfold zf; omega) rfl
  · cases hd

/-! ### lists and tuples -/
/-- the items of any list or tuple -/
def sq : D → Option (List D)
  | .lst ds => some ds | .vec ds => some ds | .tup ds => some ds
  | _ => none
theorem own_sq {d : D} {ds : List D} {v : V} {A : Fp} (h : sq d = some ds) (o : Own K cl F H d v A) (sub : Le F H) : ∃ a xs, v = .ref a ∧ (SqL K H a xs ∨ SqT K H a xs) ∧ Owns K cl F H ds xs A := by
  cases d with
  | lst es => cases h; obtain ⟨a, xs, e, q, r⟩ := o; exact ⟨a, xs, e, .inl (sub.sqL q), r⟩
  | vec es => cases h; obtain ⟨a, xs, B, e, n, q, r, s⟩ := o; exact ⟨a, xs, e, .inl (SqL.of q), r.up fun x => by have := s x; omega⟩
  | tup es => cases h; obtain ⟨a, xs, e, q, r⟩ := o; exact ⟨a, xs, e, .inr (sub.sqT q.1), r⟩
  | _ => cases h
noncomputable def lenL (xs : List D) : Option D := match xs with | [d] => (match sq d with | some ds => some (.int ds.length) | none => (match d with | .str s => if yes (s.length ≤ 16777216) then some (.int s.length) else none | _ => none)) | _ => none
theorem d_len : DoesL X cl lenL (fun xs H Q => ∃ x n, xs = [x] ∧ LenV X.K x H n ∧ Q (.int n) H) := fun x d hd G F H S C vx Q st ox k => by
  unfold lenL at hd
  split at hd
  · rename_i d0
    obtain ⟨v, r, B, C', rfl, ov, os, hs⟩ := ox
    have er : r = [] := os
    subst er
    cases hq : sq d0 with
    | some ds =>
      rw [hq] at hd
      have e := (Option.some.inj hd).symm
      subst e
      obtain ⟨a, xs, rfl, q, r⟩ := own_sq hq ov st.sub
      have hl := Owns.length r
      refine ⟨.ref a, ds.length, rfl, ?_, k _ F H zf Le.refl (fun _ _ => rfl) (st.less fun z => by show zf z + S z ≤ _; unfold zf; omega) rfl⟩
      rcases q with q | q
      · exact .inl ⟨xs, q, hl⟩
      · exact .inr ⟨xs, q, hl⟩
    | none =>
      rw [hq] at hd
      cases d0 with
      | str s =>
        simp only at hd
        split at hd
        · rename_i hc
          have e := (Option.some.inj hd).symm
          subst e
          have ev : v = .str s := ov
          subst ev
          refine ⟨_, s.length, rfl, ⟨by have h1 := of_yes hc; rw [sizeLine_eq]; exact h1, rfl⟩, k _ F H zf Le.refl (fun _ _ => rfl) (st.less fun z => by show zf z + S z ≤ _; unfold zf; omega) rfl⟩
        · cases hd
      | _ => cases hd
  · cases hd
def maxL (xs : List D) : Option D := match xs with | [.int i, .int j] => some (.int (if j > i then j else i)) | _ => none
def minL (xs : List D) : Option D := match xs with | [.int i, .int j] => some (.int (if j < i then j else i)) | _ => none
theorem owns2 {x y : D} {vs : List V} {A : Fp} (o : Owns K cl F H [x, y] vs A) : ∃ v w, vs = [v, w] ∧ Own K cl F H x v A ∧ Own K cl F H y w A := by
  obtain ⟨v, r, B, C, rfl, o1, os, hs⟩ := o
  obtain ⟨w, r', B', C', rfl, o2, os', hs'⟩ := os
  have er : r' = [] := os'
  subst er
  exact ⟨v, w, rfl, o1.up fun x => by have := hs x; omega, o2.up fun x => by have := hs x; have := hs' x; omega⟩
theorem owns1 {x : D} {vs : List V} {A : Fp} (o : Owns K cl F H [x] vs A) : ∃ v, vs = [v] ∧ Own K cl F H x v A := by
  obtain ⟨v, r, B, C, rfl, o1, os, hs⟩ := o
  have er : r = [] := os
  subst er
  exact ⟨v, rfl, o1.up fun x => by have := hs x; omega⟩
theorem d_max : DoesL X cl maxL (fun xs H Q => ∃ i j, xs = [.int i, .int j] ∧ Q (.int (if j > i then j else i)) H) := fun x d hd G F H S C vx Q st ox k => by
  unfold maxL at hd
  split at hd
  · rename_i i j
    obtain ⟨v, w, rfl, o1, o2⟩ := owns2 ox
    have e := (Option.some.inj hd).symm
    subst e
    have e1 : v = .int i := o1
    have e2 : w = .int j := o2
    subst e1 e2
    exact ⟨i, j, rfl, k _ F H zf Le.refl (fun _ _ => rfl) (st.less fun z => by show zf z + S z ≤ _; unfold zf; omega) rfl⟩
  · cases hd
theorem d_min : DoesL X cl minL (fun xs H Q => ∃ i j, xs = [.int i, .int j] ∧ Q (.int (if j < i then j else i)) H) := fun x d hd G F H S C vx Q st ox k => by
  unfold minL at hd
  split at hd
  · rename_i i j
    obtain ⟨v, w, rfl, o1, o2⟩ := owns2 ox
    have e := (Option.some.inj hd).symm
    subst e
    have e1 : v = .int i := o1
    have e2 : w = .int j := o2
    subst e1 e2
    exact ⟨i, j, rfl, k _ F H zf Le.refl (fun _ _ => rfl) (st.less fun z => by show zf z + S z ≤ _; unfold zf; omega) rfl⟩
  · cases hd
def intL (xs : List D) : Option D := match xs with | [.int i] => some (.int i) | [.bl b] => some (.int (if b then 1 else 0)) | _ => none
theorem d_int : DoesL X cl intL (fun xs H Q => (∃ i, xs = [.int i] ∧ Q (.int i) H) ∨ ∃ k, xs = [.bl k] ∧ Q (.int (if k then 1 else 0)) H) := fun x d hd G F H S C vx Q st ox k => by
  unfold intL at hd
  split at hd
  · rename_i i
    obtain ⟨v, rfl, o1⟩ := owns1 ox
    have e := (Option.some.inj hd).symm
    subst e
    have e1 : v = .int i := o1
    subst e1
    exact .inl ⟨i, rfl, k _ F H zf Le.refl (fun _ _ => rfl) (st.less fun z => by show zf z + S z ≤ _; unfold zf; omega) rfl⟩
  · rename_i b
    obtain ⟨v, rfl, o1⟩ := owns1 ox
    have e := (Option.some.inj hd).symm
    subst e
    have e1 : v = .bl b := o1
    subst e1
    exact .inr ⟨b, rfl, k _ F H zf Le.refl (fun _ _ => rfl) (st.less fun z => by show zf z + S z ≤ _; unfold zf; omega) rfl⟩
  · cases hd
/-- tuple(xs) -/
def tupL (xs : List D) : Option D := match xs with | [d] => (match sq d with | some ds => some (.tup ds) | none => none) | _ => none
theorem d_tuple : DoesL X cl tupL (fun xs H Q => ∃ p ys, xs = [.ref p] ∧ ((SqL X.K H p ys ∧ ∀ l, H l = none → Q (.ref l) (upd H l (.tup ys))) ∨ (SqT X.K H p ys ∧ Q (.ref p) H))) := fun x d hd G F H S C vx Q st ox k => by
  unfold tupL at hd
  split at hd
  · rename_i d0
    obtain ⟨v, rfl, ov⟩ := owns1 ox
    have new : ∀ (ds : List D) (a : Addr) (xs : List V), SqL X.K H a xs → Owns X.K cl F H ds xs C → d = .tup ds → ∃ p ys, [V.ref a] = [.ref p] ∧ ((SqL X.K H p ys ∧ ∀ l, H l = none → Q (.ref l) (upd H l (.tup ys))) ∨ (SqT X.K H p ys ∧ Q (.ref p) H)) := fun ds a xs q r ed => by
      subst ed
      refine ⟨a, xs, rfl, .inl ⟨q, fun l hl => ?_⟩⟩
      obtain ⟨le, st2⟩ := lay_frozen (o := .tup xs) st hl
      refine k (.ref l) _ _ C le (fun b hb => ?_) st2 ⟨l, xs, rfl, ⟨SqT.of upd_same, fun _ => upd_same⟩, r.laid st hl le fun b hb => (st2.own b (by show 0 < C b + S b; omega)).1⟩
      obtain ⟨_, _, u, h3⟩ := st.own b (by show 0 < C b + S b; omega)
      exact upd_ne (ne_of_none h3 hl)
    cases d0 with
    | lst ds =>
      obtain ⟨a, xs, rfl, q, r⟩ := ov
      exact new ds a xs (st.sub.sqL q) r (Option.some.inj hd).symm
    | vec ds =>
      obtain ⟨a, xs, B, rfl, n, q, r, s⟩ := ov
      exact new ds a xs (SqL.of q) (r.up fun x => by have := s x; omega) (Option.some.inj hd).symm
    | tup ds =>
      obtain ⟨a, xs, rfl, q, r⟩ := ov
      have e := (Option.some.inj hd).symm
      subst e
      exact ⟨a, xs, rfl, .inr ⟨st.sub.sqT q.1, k _ F H C Le.refl (fun _ _ => rfl) st ⟨a, xs, rfl, q, r⟩⟩⟩
    | _ => cases hd
  · cases hd
/-- list(xs) -/
def lisL (xs : List D) : Option D := match xs with | [d] => (match sq d with | some ds => some (.vec ds) | none => none) | _ => none
theorem d_list : DoesL X cl lisL (fun xs H Q => ∃ p ys, xs = [.ref p] ∧ (SqL X.K H p ys ∨ SqT X.K H p ys) ∧ ∀ l, H l = none → Q (.ref l) (upd H l (.lst ys))) := fun x d hd G F H S C vx Q st ox k => by
  unfold lisL at hd
  split at hd
  · rename_i d0
    obtain ⟨v, rfl, ov⟩ := owns1 ox
    cases hq : sq d0 with
    | none => rw [hq] at hd; cases hd
    | some ds =>
      rw [hq] at hd
      have e := (Option.some.inj hd).symm
      subst e
      obtain ⟨a, xs, rfl, q, r⟩ := own_sq hq ov st.sub
      refine ⟨a, xs, rfl, q, fun l hl => ?_⟩
      obtain ⟨fl, sl, st2⟩ := lay_owned (o := .lst xs) st hl
      refine k (.ref l) F _ (fun z => one l z + C z) Le.refl (fun b hb => ?_) (st2.less fun z => by show one l z + C z + S z ≤ one l z + (C z + S z); omega) ⟨l, xs, C, rfl, fl, upd_same, r.laid st hl Le.refl (fun b hb => (st.own b (by show 0 < C b + S b; omega)).1), fun _ => Nat.le_refl _⟩
      obtain ⟨_, _, u, h3⟩ := st.own b (by show 0 < C b + S b; omega)
      exact upd_ne (ne_of_none h3 hl)
  · cases hd
/-- x in xs, flat items -/
def flatD (d : D) : Bool := (scl d).isSome
def eqvD (x y : D) : Bool := match scl x, scl y with | some v, some w => eqV v w | _, _ => false
def inD (x y : D) : Option D := match sq y with | some ds => if flatD x && ds.all flatD then some (.bl (ds.any fun d => eqvD d x)) else none | none => none
def ninD (x y : D) : Option D := match sq y with | some ds => if flatD x && ds.all flatD then some (.bl (!ds.any fun d => eqvD d x)) else none | none => none
theorem flat_own {d : D} {v : V} {A : Fp} (h : flatD d = true) (o : Own K cl F H d v A) : scl d = some v ∧ flatV v = true := by
  cases d with
  | non => have e : v = .non := o; subst e; exact ⟨rfl, rfl⟩
  | bl b => have e : v = .bl b := o; subst e; exact ⟨rfl, rfl⟩
  | int b => have e : v = .int b := o; subst e; exact ⟨rfl, rfl⟩
  | str b => have e : v = .str b := o; subst e; exact ⟨rfl, rfl⟩
  | _ => cases h
theorem any_own {x : D} {v : V} (hx : scl x = some v) : ∀ {ds : List D} {vs : List V} {A : Fp}, ds.all flatD = true → Owns K cl F H ds vs A → vs.all flatV = true ∧ (vs.any fun y => eqV y v) = ds.any fun d => eqvD d x
  | [], vs, _, _, o => by have e : vs = [] := o; subst e; exact ⟨rfl, rfl⟩
  | d :: ds, vs, A, h, o => by
    obtain ⟨w, r, B, C, rfl, p, q, s⟩ := o
    rw [List.all_cons, Bool.and_eq_true] at h
    obtain ⟨h1, h2⟩ := flat_own h.1 p
    obtain ⟨h3, h4⟩ := any_own hx h.2 q
    refine ⟨by rw [List.all_cons, h2, h3]; rfl, ?_⟩
    rw [List.any_cons, List.any_cons, h4]
    have : eqvD d x = eqV w v := by unfold eqvD; rw [h1, hx]
    rw [this]
theorem d_in : Does2 X cl inD (rIn X.K false) := fun x y d hd G F H S B C vx vy Q st ox oy k => by
  unfold inD at hd
  cases hq : sq y with
  | none => rw [hq] at hd; cases hd
  | some ds =>
    rw [hq] at hd
    simp only at hd
    split at hd
    · rename_i hf
      rw [Bool.and_eq_true] at hf
      have e := (Option.some.inj hd).symm
      subst e
      obtain ⟨a, xs, rfl, q, r⟩ := own_sq hq oy st.sub
      obtain ⟨h1, h2⟩ := flat_own hf.1 ox
      obtain ⟨h3, h4⟩ := any_own h1 hf.2 r
      refine ⟨a, xs, rfl, q, h2, h3, ?_⟩
      rw [if_neg Bool.false_ne_true]
      unfold inV
      rw [h4]
      exact k _ F H zf Le.refl (fun _ _ => rfl) (st.less fun z => by show zf z + S z ≤ _; unfold zf; omega) rfl
    · cases hd
theorem d_nin : Does2 X cl ninD (rIn X.K true) := fun x y d hd G F H S B C vx vy Q st ox oy k => by
  unfold ninD at hd
  cases hq : sq y with
  | none => rw [hq] at hd; cases hd
  | some ds =>
    rw [hq] at hd
    simp only at hd
    split at hd
    · rename_i hf
      rw [Bool.and_eq_true] at hf
      have e := (Option.some.inj hd).symm
      subst e
      obtain ⟨a, xs, rfl, q, r⟩ := own_sq hq oy st.sub
      obtain ⟨h1, h2⟩ := flat_own hf.1 ox
      obtain ⟨h3, h4⟩ := any_own h1 hf.2 r
      refine ⟨a, xs, rfl, q, h2, h3, ?_⟩
      rw [if_pos rfl]
      unfold inV
      rw [h4]
      exact k _ F H zf Le.refl (fun _ _ => rfl) (st.less fun z => by show zf z + S z ≤ _; unfold zf; omega) rfl
    · cases hd
/-- xs[i], of what is no name -/
def ixD (x y : D) : Option D := match sq x, y with | some ds, .int i => atI ds i | _, _ => none
theorem atI_own {ds : List D} {vs : List V} {A : Fp} {i : Int} {d : D} (o : Owns K cl F H ds vs A) (h : atI ds i = some d) : ∃ v, atI vs i = some v ∧ Own K cl F H d v A := by
  have hl := Owns.length o
  unfold atI at h ⊢
  rw [← hl]
  cases hq : ixN ds.length i with
  | none => rw [hq] at h; cases h
  | some j =>
    rw [hq] at h
    exact o.get h
theorem d_ix : Does2 X cl ixD (rIx X.K) := fun x y d hd G F H S B C vx vy Q st ox oy k => by
  unfold ixD at hd
  split at hd
  · rename_i ds i hq
    obtain ⟨a, xs, rfl, q, r⟩ := own_sq hq ox st.sub
    obtain ⟨v, hv, ov⟩ := atI_own r hd
    have ei : vy = .int i := oy
    have kk := k v F H C Le.refl (fun _ _ => rfl) (st.less fun z => by show C z + S z ≤ B z + (C z + S z); omega) ov
    rcases q with q | q
    · exact .inl ⟨a, xs, i, v, rfl, ei, q, hv, kk⟩
    · exact .inr (.inl ⟨a, xs, i, v, rfl, ei, q, hv, kk⟩)
  · cases hd
end
end FL

set_option Elab.async false
set_option linter.all false
set_option maxRecDepth 100000
namespace FL
open PySem L2
section
variable {X : Cx} {cl : Tb} {W : WX'} {K : PySem.W.Frag}
variable {G : Gh} {F H F' H' : Hp} {R B A A' : Fp} {σ : St} {ρ ρ' : Rho} {pos : Pos}

/-! ### operators, as written -/
theorem bin_imp {a b : Rho → RX D} {f : D → D → Option D} {r : R2} (hf : Does2 X cl f r) {σ : St} {H : Hp} {Q : VK} (q : tX X.K cl W (rD X.K cl) (eBin f a b) σ H Q) : tOp r (tX X.K cl W (rD X.K cl) a) (tX X.K cl W (rD X.K cl) b) σ H Q := by
  obtain ⟨G, F, ρ, A, R, st, en, p⟩ := q
  refine ⟨G, F, ρ, A, R, st, en, Pst.bind p fun x ρ1 v1 F1 H1 A1 B1 e1 o1 p1 => ?_⟩
  refine tX.run e1 (Pst.bindC p1 fun y ρ2 v2 F2 H2 A2 B2 e2 o2 p2 => ?_)
  cases hd : f x y with
  | none => rw [hd] at p2; exact p2.elim
  | some d =>
    rw [hd] at p2
    refine hf x y d hd G F2 H2 (fun z => A2 z + R z) B2 B1 v1 v2 Q (e2.st.less fun z => ?_) (e2.keep o1) o2 (Pst.does p2 (e2.st.less fun z => ?_) e2.en)
    · show B2 z + (B1 z + (A2 z + R z)) ≤ A2 z + (B2 z + (B1 z + R z)); omega
    · show A2 z + R z ≤ A2 z + (B2 z + (B1 z + R z)); omega
/-- two ways to read an operator -/
def orO (f g : D → D → Option D) (x y : D) : Option D := match f x y with | some d => some d | none => g x y
theorem Does2.or {f g : D → D → Option D} {r r' : R2} (h : Does2 X cl f r) (h' : Does2 X cl g r') : Does2 X cl (orO f g) (fun x y H Q => r x y H Q ∨ r' x y H Q) := fun x y d hd G F H S B C vx vy Q st ox oy k => by
  unfold orO at hd
  cases hf : f x y with
  | some w =>
    rw [hf] at hd
    have e := Option.some.inj hd
    subst e
    exact .inl (h x y _ hf G F H S B C vx vy Q st ox oy k)
  | none =>
    rw [hf] at hd
    exact .inr (h' x y d hd G F H S B C vx vy Q st ox oy k)
section
variable {a b c : Expr} {ma mb mc : Rho → RX D}
theorem fe_op {op : Operator} {f : D → D → Option D} {r : R2} (hf : Does2 X cl f r) (ho : OpR X (binaryOp op) r) (ha : FE X cl W a ma) (hb : FE X cl W b mb) : FE X cl W (.BinOp a op b pos) (eBin f ma mb) := fe_bin hf (pe_op ho ha hb)
theorem fe_neg (ha : FE X cl W a ma) : FE X cl W (.UnaryOp .USub a pos) (eUn negD ma) := fe_un d_neg (pe_un un_neg ha)
theorem fe_cmp {op : CmpOp} {f : D → D → Option D} {r : R2} (hf : Does2 X cl f r) (ho : OpR X (compareOp op) r) (ha : FE X cl W a ma) (hb : FE X cl W b mb) (hm : behindInMarks op b = false) : FE X cl W (.Compare a [op] [b] pos) (eBin f ma mb) := fe_bin hf (pe_cmpR ho ha hb hm)
theorem ft_cmpR {op : CmpOp} {f : D → D → Option D} {r : R2} (hf : Does2 X cl f r) (ho : OpR X (compareOp op) r) (ha : FE X cl W a ma) (hb : FE X cl W b mb) (hm : behindInMarks op b = false) : FT X cl W (.Compare a [op] [b] pos) (tB1 (eBin f ma mb)) := ft_cmp (pt_cmpR ho ha hb hm) fun _ _ _ q => bin_imp hf q
theorem fe_chain {op op' : CmpOp} {f g : D → D → Option D} {r r' : R2} (hf : Does2 X cl f r) (hg : Does2 X cl g r') (ho : OpR X (compareOp op) r) (ho' : OpR X (compareOp op') r') (ha : FE X cl W a ma) (hb : FE X cl W b mb) (hc : FE X cl W c mc)
    (hm : lastMarks [op, op'] [b, c] = false) : FE X cl W (.Compare a [op, op'] [b, c] pos) (eChain f g ma mb mc) := PE_imp (pe_chain ho ho' ha hb hc hm) fun _ _ _ q => chain_imp hf hg q
theorem ft_chain {op op' : CmpOp} {f g : D → D → Option D} {r r' : R2} (hf : Does2 X cl f r) (hg : Does2 X cl g r') (ho : OpR X (compareOp op) r) (ho' : OpR X (compareOp op') r') (ha : FE X cl W a ma) (hb : FE X cl W b mb) (hc : FE X cl W c mc)
    (hm : lastMarks [op, op'] [b, c] = false) : FT X cl W (.Compare a [op, op'] [b, c] pos) (tB1 (eChain f g ma mb mc)) := PT_imp (pt_chain ho ho' ha hb hc hm) fun σ H Q q => by
  have q' : tX X.K cl W (rD X.K cl) (eChain f g ma mb mc) σ H (fun x H' => ∃ k, x = .bl k ∧ Q k H') := by
    obtain ⟨G, F, ρ, A, R, st, en, p⟩ := q
    refine ⟨G, F, ρ, A, R, st, en, Pst.bind p fun x ρ1 v1 F1 H1 A1 B1 e1 o1 p1 => ?_⟩
    cases x with
    | bl k => exact ⟨k, o1, Pst.ok p1 e1 rfl⟩
    | _ => exact p1.elim
  exact chain_imp hf hg q'
theorem fe_ix (ha : FE X cl W a ma) (hb : FE X cl W b mb) (hs : PlainIx b) : FE X cl W (.Subscript a b pos) (eBin ixD ma mb) := fe_bin d_ix (pe_ix ix_seq ha hb hs)
end

/-! ### the names' rules -/
theorem fe_v (i : Nat) {x : Str} {pos : Pos} (hN : X.N[i]? = some x := by rfl) (hv : Vis X.env.scope x := by first | exact Or.inl rfl | exact Or.inr (Or.inl rfl) | exact Or.inr (Or.inr rfl)) (hd : (x == ("__debug__" : Str)) = false := by decide)
    (hcd : (x == ("__classdict__" : Str)) = false := by decide) : FE X cl W (.Name x pos) (eV i) := fe_var (pv i hN hv hd hcd)
theorem fe_m (i : Nat) {x : Str} {pos : Pos} (hN : X.N[i]? = some x := by rfl) (hv : Vis X.env.scope x := by first | exact Or.inl rfl | exact Or.inr (Or.inl rfl) | exact Or.inr (Or.inr rfl)) (hd : (x == ("__debug__" : Str)) = false := by decide)
    (hcd : (x == ("__classdict__" : Str)) = false := by decide) : FE X cl W (.Name x pos) (eM i) := fe_move (pv i hN hv hd hcd)

/-! ### quiet parts: nothing is made, nothing changes; what it comes to may stay in the frame -/
def tQ (K : PySem.W.Frag) (cl : Tb) (m : Rho → Option D) (σ : St) (H : Hp) (Q : V → Hp → Prop) : Prop :=
  ∃ (G : Gh) (F : Hp) (ρ : Rho) (A R : Fp), Sta G F H (fun x => A x + R x) ∧ EnvR K cl F H ρ σ A ∧ match m ρ with | some d => ∀ v, Own K cl F H d v A → Q v H | none => False
def tQT (K : PySem.W.Frag) (cl : Tb) (m : Rho → Option Bool) (σ : St) (H : Hp) (Q : Bool → Hp → Prop) : Prop :=
  ∃ (G : Gh) (F : Hp) (ρ : Rho) (A R : Fp), Sta G F H (fun x => A x + R x) ∧ EnvR K cl F H ρ σ A ∧ match m ρ with | some b => Q b H | none => False
abbrev FQ (X : Cx) (cl : Tb) (e : Expr) (m : Rho → Option D) : Prop := PE X e (tQ X.K cl m)
abbrev FQT (X : Cx) (cl : Tb) (e : Expr) (m : Rho → Option Bool) : Prop := PT X e (tQT X.K cl m)
def qV (i : Nat) : Rho → Option D := fun ρ => match ρ[i]? with | some (some d) => some d | _ => none
def qC (d : D) : Rho → Option D := fun _ => some d
def qBin (f : D → D → Option D) (a b : Rho → Option D) : Rho → Option D := fun ρ => (a ρ).bind fun x => (b ρ).bind fun y => f x y
def qUn (f : D → Option D) (a : Rho → Option D) : Rho → Option D := fun ρ => (a ρ).bind f
def qB (a : Rho → Option D) : Rho → Option Bool := fun ρ => (a ρ).bind fun x => match x with | .bl b => some b | _ => none
def andB : D → Option D → Option D
  | .bl true, k => k
  | .bl false, _ => some (.bl false)
  | _, _ => none
def orB : D → Option D → Option D
  | .bl true, _ => some (.bl true)
  | .bl false, k => k
  | _, _ => none
def qAnd (a b : Rho → Option D) : Rho → Option D := fun ρ => (a ρ).bind fun x => andB x (b ρ)
def qOr (a b : Rho → Option D) : Rho → Option D := fun ρ => (a ρ).bind fun x => orB x (b ρ)
def qNot (a : Rho → Option D) : Rho → Option D := fun ρ => (a ρ).bind fun x => match x with | .bl b => some (.bl (!b)) | _ => none
def qIf (t : Rho → Option Bool) (a b : Rho → Option D) : Rho → Option D := fun ρ => (t ρ).bind fun x => if x then a ρ else b ρ
def qAndT (a b : Rho → Option Bool) : Rho → Option Bool := fun ρ => (a ρ).bind fun x => if x then b ρ else some false
def qOrT (a b : Rho → Option Bool) : Rho → Option Bool := fun ρ => (a ρ).bind fun x => if x then some true else b ρ
def qNotT (a : Rho → Option Bool) : Rho → Option Bool := fun ρ => (a ρ).bind fun x => some (!x)
def qChain (f g : D → D → Option D) (a b c : Rho → Option D) : Rho → Option D := fun ρ => (a ρ).bind fun x => (b ρ).bind fun y => (f x y).bind fun r => andB r ((c ρ).bind fun z => g y z)

/-- a rule that changes nothing -/
def Quiet2 (X : Cx) (cl : Tb) (f : D → D → Option D) (r : R2) : Prop :=
  ∀ (x y d : D), f x y = some d → ∀ (F H : Hp) (A : Fp) (vx vy : V) (Q : VK), Le F H → Own X.K cl F H x vx A → Own X.K cl F H y vy A → (∀ v, Own X.K cl F H d v A → Q v H) → r vx vy H Q
def QuietL (X : Cx) (cl : Tb) (f : List D → Option D) (r : List V → Hp → VK → Prop) : Prop :=
  ∀ (x : List D) (d : D), f x = some d → ∀ (F H : Hp) (A : Fp) (vx : List V) (Q : VK), Le F H → Owns X.K cl F H x vx (fun z => A z + A z) → (∀ v, Own X.K cl F H d v A → Q v H) → r vx H Q
theorem q_iOp {C : Int → Int → Bool} {g : Int → Int → D} {C' : Int → Int → Prop} {g' : Int → Int → V} (hC : ∀ i j, C i j = true → C' i j) (hg : ∀ i j F H A, Own X.K cl F H (g i j) (g' i j) A) : Quiet2 X cl (iOp C g) (rI C' g') := fun x y d hd F H A vx vy Q sub ox oy k => by
  obtain ⟨i, j, rfl, rfl, hc, rfl⟩ := iOp_some hd
  exact ⟨i, j, ox, oy, hC i j hc, k _ (hg i j F H A)⟩
theorem q_iOp0 {g : Int → Int → D} {g' : Int → Int → V} (hg : ∀ i j F H A, Own X.K cl F H (g i j) (g' i j) A) : Quiet2 X cl (iOp yes2 g) (rI0 g') := fun x y d hd F H A vx vy Q sub ox oy k => by
  obtain ⟨i, j, rfl, rfl, hc, rfl⟩ := iOp_some hd
  exact ⟨i, j, ox, oy, k _ (hg i j F H A)⟩
theorem q_sub : Quiet2 X cl subD (rI0 fun i j => .int (i - j)) := q_iOp0 fun _ _ _ _ _ => rfl
theorem q_addI : Quiet2 X cl addI (rI0 fun i j => .int (i + j)) := q_iOp0 fun _ _ _ _ _ => rfl
theorem q_mul : Quiet2 X cl mulD (rI CMul fun i j => .int (i * j)) := q_iOp (fun i j h => by unfold mulOk at h; have h' := of_yes h; exact h') fun _ _ _ _ _ => rfl
theorem q_mod : Quiet2 X cl modD (rI (fun _ j => 0 < j) fun i j => .int (i % j)) := q_iOp (fun _ _ h => of_yes h) fun _ _ _ _ _ => rfl
theorem q_div : Quiet2 X cl divD (rI CDiv fun i j => .int (i / j)) := q_iOp (fun i j h => by unfold divOk at h; have h' := of_yes h; exact h') fun _ _ _ _ _ => rfl
theorem q_lt : Quiet2 X cl ltD (rI0 fun i j => .bl (decide (i < j))) := q_iOp0 fun _ _ _ _ _ => rfl
theorem q_le : Quiet2 X cl leD (rI0 fun i j => .bl (decide (i ≤ j))) := q_iOp0 fun _ _ _ _ _ => rfl
theorem q_gt : Quiet2 X cl gtD (rI0 fun i j => .bl (decide (j < i))) := q_iOp0 fun _ _ _ _ _ => rfl
theorem q_ge : Quiet2 X cl geD (rI0 fun i j => .bl (decide (j ≤ i))) := q_iOp0 fun _ _ _ _ _ => rfl
theorem q_eqS : Quiet2 X cl eqS rEq := fun x y d hd F H A vx vy Q sub ox oy k => by
  unfold eqS at hd
  cases hx : scl x with
  | none => rw [hx] at hd; cases hd
  | some v =>
    cases hy : scl y with
    | none => rw [hx, hy] at hd; cases hd
    | some w =>
      rw [hx, hy] at hd
      simp only at hd
      split at hd
      · rename_i hs
        have e1 := scl_own hx ox
        have e2 := scl_own hy oy
        subst e1 e2
        have e3 := (Option.some.inj hd).symm
        subst e3
        exact ⟨hs, k _ rfl⟩
      · cases hd
theorem q_neS : Quiet2 X cl neS rNe := fun x y d hd F H A vx vy Q sub ox oy k => by
  unfold neS at hd
  cases hx : scl x with
  | none => rw [hx] at hd; cases hd
  | some v =>
    cases hy : scl y with
    | none => rw [hx, hy] at hd; cases hd
    | some w =>
      rw [hx, hy] at hd
      simp only at hd
      split at hd
      · rename_i hs
        have e1 := scl_own hx ox
        have e2 := scl_own hy oy
        subst e1 e2
        have e3 := (Option.some.inj hd).symm
        subst e3
        exact ⟨hs, k _ rfl⟩
      · cases hd
theorem q_isB : Quiet2 X cl isB rIsB := fun x y d hd F H A vx vy Q sub ox oy k => by
  unfold isB at hd
  split at hd
  · rename_i a b
    have e := (Option.some.inj hd).symm
    subst e
    exact ⟨a, b, ox, oy, k _ rfl⟩
  · cases hd
theorem q_isN : Quiet2 X cl isN (fun x y H Q => y = .non ∧ Q (.bl (decide (x = .non))) H) := fun x y d hd F H A vx vy Q sub ox oy k => by
  unfold isN at hd
  split at hd
  · rename_i hy
    have e := (Option.some.inj hd).symm
    subst e
    refine ⟨isNon_own hy oy, ?_⟩
    rw [own_non ox]
    exact k _ rfl
  · cases hd
theorem q_notN : Quiet2 X cl notN (fun x y H Q => y = .non ∧ Q (.bl (!decide (x = .non))) H) := fun x y d hd F H A vx vy Q sub ox oy k => by
  unfold notN at hd
  split at hd
  · rename_i hy
    have e := (Option.some.inj hd).symm
    subst e
    refine ⟨isNon_own hy oy, ?_⟩
    rw [own_non ox]
    exact k _ rfl
  · cases hd
theorem q_in : Quiet2 X cl inD (rIn X.K false) := fun x y d hd F H A vx vy Q sub ox oy k => by
  unfold inD at hd
  cases hq : sq y with
  | none => rw [hq] at hd; cases hd
  | some ds =>
    rw [hq] at hd
    simp only at hd
    split at hd
    · rename_i hf
      rw [Bool.and_eq_true] at hf
      have e := (Option.some.inj hd).symm
      subst e
      obtain ⟨a, xs, rfl, q, r⟩ := own_sq hq oy sub
      obtain ⟨h1, h2⟩ := flat_own hf.1 ox
      obtain ⟨h3, h4⟩ := any_own h1 hf.2 r
      refine ⟨a, xs, rfl, q, h2, h3, ?_⟩
      rw [if_neg Bool.false_ne_true]
      unfold inV
      rw [h4]
      exact k _ rfl
    · cases hd
theorem q_nin : Quiet2 X cl ninD (rIn X.K true) := fun x y d hd F H A vx vy Q sub ox oy k => by
  unfold ninD at hd
  cases hq : sq y with
  | none => rw [hq] at hd; cases hd
  | some ds =>
    rw [hq] at hd
    simp only at hd
    split at hd
    · rename_i hf
      rw [Bool.and_eq_true] at hf
      have e := (Option.some.inj hd).symm
      subst e
      obtain ⟨a, xs, rfl, q, r⟩ := own_sq hq oy sub
      obtain ⟨h1, h2⟩ := flat_own hf.1 ox
      obtain ⟨h3, h4⟩ := any_own h1 hf.2 r
      refine ⟨a, xs, rfl, q, h2, h3, ?_⟩
      rw [if_pos rfl]
      unfold inV
      rw [h4]
      exact k _ rfl
    · cases hd
theorem q_ix : Quiet2 X cl ixD (rIx X.K) := fun x y d hd F H A vx vy Q sub ox oy k => by
  unfold ixD at hd
  split at hd
  · rename_i ds i hq
    obtain ⟨a, xs, rfl, q, r⟩ := own_sq hq ox sub
    obtain ⟨v, hv, ov⟩ := atI_own r hd
    have ei : vy = .int i := oy
    rcases q with q | q
    · exact .inl ⟨a, xs, i, v, rfl, ei, q, hv, k v ov⟩
    · exact .inr (.inl ⟨a, xs, i, v, rfl, ei, q, hv, k v ov⟩)
  · cases hd
theorem Quiet2.or {f g : D → D → Option D} {r r' : R2} (h : Quiet2 X cl f r) (h' : Quiet2 X cl g r') : Quiet2 X cl (orO f g) (fun x y H Q => r x y H Q ∨ r' x y H Q) := fun x y d hd F H A vx vy Q sub ox oy k => by
  unfold orO at hd
  cases hf : f x y with
  | some w =>
    rw [hf] at hd
    have e := Option.some.inj hd
    subst e
    exact .inl (h x y _ hf F H A vx vy Q sub ox oy k)
  | none =>
    rw [hf] at hd
    exact .inr (h' x y d hd F H A vx vy Q sub ox oy k)

theorem fq_const {e : Expr} {d : D} {v : V} (h : PE X e (tC v)) (hd : ∀ F H A w, Own X.K cl F H d w A ↔ w = v) : FQ X cl e (qC d) := PE_imp h fun σ H Q q => by
  obtain ⟨G, F, ρ, A, R, st, en, p⟩ := q
  exact p v ((hd _ _ _ _).mpr rfl)
theorem fq_int {i j pos} : FQ X cl (.Constant (.int i) j pos) (qC (.int i)) := fq_const pe_int fun _ _ _ _ => Iff.rfl
theorem fq_bl {b j pos} : FQ X cl (.Constant (.bool b) j pos) (qC (.bl b)) := fq_const pe_bl fun _ _ _ _ => Iff.rfl
theorem fq_non {j pos} : FQ X cl (.Constant .none j pos) (qC .non) := fq_const pe_non fun _ _ _ _ => Iff.rfl
theorem fq_str {x j pos} : FQ X cl (.Constant (.str x) j pos) (qC (.str x)) := fq_const pe_str fun _ _ _ _ => Iff.rfl
theorem fq_var {i : Nat} {x : Str} {pos : Pos} (h : PE X (.Name x pos) (tVar i)) : FQ X cl (.Name x pos) (qV i) := PE_imp h fun σ H Q q => by
  obtain ⟨G, F, ρ, A, R, st, en, p⟩ := q
  unfold qV at p
  cases e : ρ[i]? with
  | none => rw [e] at p; exact p.elim
  | some o =>
    cases o with
    | none => rw [e] at p; exact p.elim
    | some d =>
      rw [e] at p
      obtain ⟨v, B, C, hv, o, en', hs⟩ := en.get e
      exact ⟨v, hv, p v (o.up fun x => by have := hs x; omega)⟩
theorem fq_v (i : Nat) {x : Str} {pos : Pos} (hN : X.N[i]? = some x := by rfl) (hv : Vis X.env.scope x := by first | exact Or.inl rfl | exact Or.inr (Or.inl rfl) | exact Or.inr (Or.inr rfl)) (hd : (x == ("__debug__" : Str)) = false := by decide)
    (hcd : (x == ("__classdict__" : Str)) = false := by decide) : FQ X cl (.Name x pos) (qV i) := fq_var (pv i hN hv hd hcd)
/-- a quiet part as a value: it must be pure, or its frame's thing is taken by hand -/
def eQ (m : Rho → Option D) : Rho → RX D := fun ρ => match m ρ with | some d => if d.pure then .ok d ρ else .bad | none => .bad
theorem fe_q {e : Expr} {m : Rho → Option D} (h : FQ X cl e m) : FE X cl W e (eQ m) := PE_imp h fun σ H Q q => by
  obtain ⟨G, F, ρ, A, R, st, en, p⟩ := q
  refine ⟨G, F, ρ, A, R, st, en, ?_⟩
  unfold eQ at p
  cases hm : m ρ with
  | none => rw [hm] at p; exact p.elim
  | some d =>
    rw [hm] at p
    by_cases hp : d.pure = true
    · simp only [hp, if_true] at p
      exact fun v o => p v F H A zf (Ev.self st en) (o.of_pure hp)
    · simp only [hp] at p; exact p.elim
def tQ1 (m : Rho → Option Bool) : Rho → RX Bool := fun ρ => match m ρ with | some b => .ok b ρ | none => .bad
theorem ft_q {e : Expr} {m : Rho → Option Bool} (h : FQT X cl e m) : FT X cl W e (tQ1 m) := PT_imp h fun σ H Q q => by
  obtain ⟨G, F, ρ, A, R, st, en, p⟩ := q
  refine ⟨G, F, ρ, A, R, st, en, ?_⟩
  unfold tQ1 at p
  cases hm : m ρ with
  | none => rw [hm] at p; exact p.elim
  | some b => rw [hm] at p; exact p b F H A zf (Ev.self st en) rfl
theorem qbin_imp {a b : Rho → Option D} {f : D → D → Option D} {r : R2} (hf : Quiet2 X cl f r) {σ : St} {H : Hp} {Q : VK} (q : tQ X.K cl (qBin f a b) σ H Q) : tOp r (tQ X.K cl a) (tQ X.K cl b) σ H Q := by
  obtain ⟨G, F, ρ, A, R, st, en, p⟩ := q
  refine ⟨G, F, ρ, A, R, st, en, ?_⟩
  unfold qBin at p
  cases ha : a ρ with
  | none => rw [ha] at p; exact p.elim
  | some x =>
    rw [ha] at p
    intro v1 o1
    refine ⟨G, F, ρ, A, R, st, en, ?_⟩
    cases hb : b ρ with
    | none => simp only [Option.bind_some, hb] at p; exact p.elim
    | some y =>
      simp only [Option.bind_some, hb] at p
      intro v2 o2
      cases hd : f x y with
      | none => rw [hd] at p; exact p.elim
      | some d =>
        rw [hd] at p
        exact hf x y d hd F H A v1 v2 Q st.sub o1 o2 p
theorem fq_bin {e : Expr} {a b : Rho → Option D} {f : D → D → Option D} {r : R2} (hf : Quiet2 X cl f r) (h : PE X e (tOp r (tQ X.K cl a) (tQ X.K cl b))) : FQ X cl e (qBin f a b) := PE_imp h fun _ _ _ q => qbin_imp hf q
section
variable {a b c : Expr} {ma mb mc : Rho → Option D} {rest : List Expr}
theorem fq_op {op : Operator} {f : D → D → Option D} {r : R2} (hf : Quiet2 X cl f r) (ho : OpR X (binaryOp op) r) (ha : FQ X cl a ma) (hb : FQ X cl b mb) : FQ X cl (.BinOp a op b pos) (qBin f ma mb) := fq_bin hf (pe_op ho ha hb)
theorem fq_cmp {op : CmpOp} {f : D → D → Option D} {r : R2} (hf : Quiet2 X cl f r) (ho : OpR X (compareOp op) r) (ha : FQ X cl a ma) (hb : FQ X cl b mb) (hm : behindInMarks op b = false) : FQ X cl (.Compare a [op] [b] pos) (qBin f ma mb) := fq_bin hf (pe_cmpR ho ha hb hm)
theorem fq_ix (ha : FQ X cl a ma) (hb : FQ X cl b mb) (hs : PlainIx b) : FQ X cl (.Subscript a b pos) (qBin ixD ma mb) := fq_bin q_ix (pe_ix ix_seq ha hb hs)
theorem fq_neg (ha : FQ X cl a ma) : FQ X cl (.UnaryOp .USub a pos) (qUn negD ma) := PE_imp (pe_un un_neg ha) fun σ H Q q => by
  obtain ⟨G, F, ρ, A, R, st, en, p⟩ := q
  refine ⟨G, F, ρ, A, R, st, en, ?_⟩
  unfold qUn at p
  cases ha : ma ρ with
  | none => rw [ha] at p; exact p.elim
  | some x =>
    rw [ha] at p
    intro v1 o1
    cases x with
    | int i => exact ⟨i, o1, p _ rfl⟩
    | _ => exact p.elim
theorem fqt_val {e : Expr} {m : Rho → Option D} (h : FQ X cl e m) (he : ∀ whole, isTrue e X.env whole = (do let v ← whole; standAt e.pos; holding [v] (truthy v)) := by intro _; rfl) : FQT X cl e (qB m) := PT_imp (pt_val h he) fun σ H Q q => by
  obtain ⟨G, F, ρ, A, R, st, en, p⟩ := q
  refine ⟨G, F, ρ, A, R, st, en, ?_⟩
  unfold qB at p
  cases ha : m ρ with
  | none => rw [ha] at p; exact p.elim
  | some x =>
    rw [ha] at p
    intro v1 o1
    cases x with
    | bl b => exact ⟨b, o1, p⟩
    | _ => exact p.elim
theorem fqt_cmp {op : CmpOp} {f : D → D → Option D} {r : R2} (hf : Quiet2 X cl f r) (ho : OpR X (compareOp op) r) (ha : FQ X cl a ma) (hb : FQ X cl b mb) (hm : behindInMarks op b = false) : FQT X cl (.Compare a [op] [b] pos) (qB (qBin f ma mb)) := PT_imp (pt_cmpR ho ha hb hm) fun σ H Q q => by
  refine qbin_imp hf ?_
  obtain ⟨G, F, ρ, A, R, st, en, p⟩ := q
  refine ⟨G, F, ρ, A, R, st, en, ?_⟩
  unfold qB at p
  cases ha : qBin f ma mb ρ with
  | none => rw [ha] at p; exact p.elim
  | some x =>
    rw [ha] at p
    intro v1 o1
    cases x with
    | bl b => exact ⟨b, o1, p⟩
    | _ => exact p.elim
theorem qchain_imp {f g : D → D → Option D} {r r' : R2} (hf : Quiet2 X cl f r) (hg : Quiet2 X cl g r') {σ : St} {H : Hp} {Q : VK} (q : tQ X.K cl (qChain f g ma mb mc) σ H Q) : tChain r r' (tQ X.K cl ma) (tQ X.K cl mb) (tQ X.K cl mc) σ H Q := by
  obtain ⟨G, F, ρ, A, R, st, en, p⟩ := q
  refine ⟨G, F, ρ, A, R, st, en, ?_⟩
  unfold qChain at p
  cases ha : ma ρ with
  | none => rw [ha] at p; exact p.elim
  | some x =>
    rw [ha] at p
    intro v1 o1
    refine ⟨G, F, ρ, A, R, st, en, ?_⟩
    cases hb : mb ρ with
    | none => simp only [Option.bind_some, hb] at p; exact p.elim
    | some y =>
      simp only [Option.bind_some, hb] at p
      intro v2 o2
      cases hd : f x y with
      | none => rw [hd] at p; exact p.elim
      | some d =>
        simp only [Option.bind_some, hd] at p
        cases d with
        | bl k =>
          refine hf x y _ hd F H A v1 v2 _ st.sub o1 o2 fun w ow => ⟨k, ow, ?_⟩
          cases k with
          | true =>
            rw [if_pos rfl]
            refine ⟨G, F, ρ, A, R, st, en, ?_⟩
            have p : match (mc ρ).bind fun z => g y z with | some d => ∀ v, Own X.K cl F H d v A → Q v H | none => False := p
            cases hc : mc ρ with
            | none => simp only [hc] at p; exact p.elim
            | some z =>
              simp only [hc, Option.bind_some] at p
              intro v3 o3
              cases hd2 : g y z with
              | none => rw [hd2] at p; exact p.elim
              | some d =>
                rw [hd2] at p
                exact hg y z d hd2 F H A v2 v3 Q st.sub o2 o3 p
          | false => rw [if_neg Bool.false_ne_true]; exact p _ rfl
        | _ => exact p.elim
theorem fq_chain {op op' : CmpOp} {f g : D → D → Option D} {r r' : R2} (hf : Quiet2 X cl f r) (hg : Quiet2 X cl g r') (ho : OpR X (compareOp op) r) (ho' : OpR X (compareOp op') r') (ha : FQ X cl a ma) (hb : FQ X cl b mb) (hc : FQ X cl c mc)
    (hm : lastMarks [op, op'] [b, c] = false) : FQ X cl (.Compare a [op, op'] [b, c] pos) (qChain f g ma mb mc) := PE_imp (pe_chain ho ho' ha hb hc hm) fun _ _ _ q => qchain_imp hf hg q
theorem fqt_chain {op op' : CmpOp} {f g : D → D → Option D} {r r' : R2} (hf : Quiet2 X cl f r) (hg : Quiet2 X cl g r') (ho : OpR X (compareOp op) r) (ho' : OpR X (compareOp op') r') (ha : FQ X cl a ma) (hb : FQ X cl b mb) (hc : FQ X cl c mc)
    (hm : lastMarks [op, op'] [b, c] = false) : FQT X cl (.Compare a [op, op'] [b, c] pos) (qB (qChain f g ma mb mc)) := PT_imp (pt_chain ho ho' ha hb hc hm) fun σ H Q q => by
  have q' : tQ X.K cl (qChain f g ma mb mc) σ H (fun x H' => ∃ k, x = .bl k ∧ Q k H') := by
    obtain ⟨G, F, ρ, A, R, st, en, p⟩ := q
    refine ⟨G, F, ρ, A, R, st, en, ?_⟩
    unfold qB at p
    cases ha : qChain f g ma mb mc ρ with
    | none => rw [ha] at p; exact p.elim
    | some x =>
      rw [ha] at p
      intro v1 o1
      cases x with
      | bl b => exact ⟨b, o1, p⟩
      | _ => exact p.elim
  exact qchain_imp hf hg q'
theorem fq_and (ha : FQ X cl a ma) (hb : FQ X cl (.BoolOp .And (b :: rest) pos) mb) : FQ X cl (.BoolOp .And (a :: b :: rest) pos) (qAnd ma mb) := PE_imp (pe_and ha hb) fun σ H Q q => by
  obtain ⟨G, F, ρ, A, R, st, en, p⟩ := q
  refine ⟨G, F, ρ, A, R, st, en, ?_⟩
  unfold qAnd at p
  cases ha : ma ρ with
  | none => rw [ha] at p; exact p.elim
  | some x =>
    rw [ha] at p
    intro v1 o1
    cases x with
    | bl k =>
      refine ⟨k, o1, ?_⟩
      cases k with
      | true => exact ⟨G, F, ρ, A, R, st, en, p⟩
      | false => exact p _ rfl
    | _ => exact p.elim
theorem fq_or (ha : FQ X cl a ma) (hb : FQ X cl (.BoolOp .Or (b :: rest) pos) mb) : FQ X cl (.BoolOp .Or (a :: b :: rest) pos) (qOr ma mb) := PE_imp (pe_or ha hb) fun σ H Q q => by
  obtain ⟨G, F, ρ, A, R, st, en, p⟩ := q
  refine ⟨G, F, ρ, A, R, st, en, ?_⟩
  unfold qOr at p
  cases ha : ma ρ with
  | none => rw [ha] at p; exact p.elim
  | some x =>
    rw [ha] at p
    intro v1 o1
    cases x with
    | bl k =>
      refine ⟨k, o1, ?_⟩
      cases k with
      | true => exact p _ rfl
      | false => exact ⟨G, F, ρ, A, R, st, en, p⟩
    | _ => exact p.elim
theorem fq_one {op} (ha : FQ X cl a ma) : FQ X cl (.BoolOp op [a] pos) ma := pe_one ha
theorem fq_not (ha : FQ X cl a ma) : FQ X cl (.UnaryOp .Not a pos) (qNot ma) := PE_imp (pe_not ha) fun σ H Q q => by
  obtain ⟨G, F, ρ, A, R, st, en, p⟩ := q
  refine ⟨G, F, ρ, A, R, st, en, ?_⟩
  unfold qNot at p
  cases ha : ma ρ with
  | none => rw [ha] at p; exact p.elim
  | some x =>
    rw [ha] at p
    intro v1 o1
    cases x with
    | bl k => exact ⟨k, o1, p _ rfl⟩
    | _ => exact p.elim
abbrev FQW (X : Cx) (cl : Tb) (e : Expr) (m : Rho → Option Bool) : Prop := PW X e (tQT X.K cl m)
theorem fqw_and1 {m : Rho → Option Bool} (h : FQT X cl a m) : FQW X cl (.BoolOp .And [a] pos) m := pw_and1 h
theorem fqw_or1 {m : Rho → Option Bool} (h : FQT X cl a m) : FQW X cl (.BoolOp .Or [a] pos) m := pw_or1 h
theorem fqw_and {m n : Rho → Option Bool} (ha : FQT X cl a m) (hb : FQW X cl (.BoolOp .And (b :: rest) pos) n) : FQW X cl (.BoolOp .And (a :: b :: rest) pos) (qAndT m n) := PW_imp (pw_and ha hb) fun σ H Q q => by
  obtain ⟨G, F, ρ, A, R, st, en, p⟩ := q
  refine ⟨G, F, ρ, A, R, st, en, ?_⟩
  unfold qAndT at p
  cases ha : m ρ with
  | none => rw [ha] at p; exact p.elim
  | some x =>
    rw [ha] at p
    cases x with
    | true => exact ⟨G, F, ρ, A, R, st, en, p⟩
    | false => exact p
theorem fqw_or {m n : Rho → Option Bool} (ha : FQT X cl a m) (hb : FQW X cl (.BoolOp .Or (b :: rest) pos) n) : FQW X cl (.BoolOp .Or (a :: b :: rest) pos) (qOrT m n) := PW_imp (pw_or ha hb) fun σ H Q q => by
  obtain ⟨G, F, ρ, A, R, st, en, p⟩ := q
  refine ⟨G, F, ρ, A, R, st, en, ?_⟩
  unfold qOrT at p
  cases ha : m ρ with
  | none => rw [ha] at p; exact p.elim
  | some x =>
    rw [ha] at p
    cases x with
    | true => exact p
    | false => exact ⟨G, F, ρ, A, R, st, en, p⟩
theorem fqt_not {m : Rho → Option Bool} (h : FQT X cl a m) : FQT X cl (.UnaryOp .Not a pos) (qNotT m) := PT_imp (pt_not h) fun σ H Q q => by
  obtain ⟨G, F, ρ, A, R, st, en, p⟩ := q
  refine ⟨G, F, ρ, A, R, st, en, ?_⟩
  unfold qNotT at p
  cases ha : m ρ with
  | none => rw [ha] at p; exact p.elim
  | some x => rw [ha] at p; exact p
theorem fq_if {t : Rho → Option Bool} (hc : FQT X cl c t) (ha : FQ X cl a ma) (hb : FQ X cl b mb) : FQ X cl (.IfExp c a b pos) (qIf t ma mb) := PE_imp (pe_ifExp hc ha hb) fun σ H Q q => by
  obtain ⟨G, F, ρ, A, R, st, en, p⟩ := q
  refine ⟨G, F, ρ, A, R, st, en, ?_⟩
  unfold qIf at p
  cases ht : t ρ with
  | none => rw [ht] at p; exact p.elim
  | some x =>
    rw [ht] at p
    cases x with
    | true => exact ⟨G, F, ρ, A, R, st, en, p⟩
    | false => exact ⟨G, F, ρ, A, R, st, en, p⟩
end
end
end FL

set_option Elab.async false
set_option linter.all false
set_option maxRecDepth 100000
namespace FL
open PySem L2
/-! ### calls -/
/-- a def at hand: x its name, n its parameters, m what it does, dd the defaults that fill up -/
structure Fnc (P : Program) (w : World) (K : PySem.W.Frag) (mg : Str → Option Value) (base : Heap) (cl : Tb) (x : Str) (k n : Nat) (m : List D → RF) (dd : List D) : Prop where
  ex : ∃ (f : Addr) (fd : FuncData) (ps : List Str) (ds : List Value) (dv : List V), FnOk P w K mg base (L2.CX P w) k f fd ps (spF K cl n m) ∧ mg x = some (.ref f) ∧ PySem.W.keepIn K (.ref f) = true ∧ Binds K fd ps ds ∧ Vals dv ds ∧ ∀ F H, Owns K cl F H dd dv zf
  len : ∀ l, m l ≠ .bad → l.length = n
def pick {α : Type} (idx : List Nat) (l : List α) : List α := idx.filterMap fun i => l[i]?
/-- .. called with nu positional values and the keywords ks -/
structure FncK (P : Program) (w : World) (K : PySem.W.Frag) (mg : Str → Option Value) (base : Heap) (cl : Tb) (x : Str) (k n : Nat) (m : List D → RF) (nu : Nat) (ks : List Str) (idx : List Nat) (dd : List D) : Prop where
  ex : ∃ (f : Addr) (fd : FuncData) (ps : List Str) (ds : List Value) (dv : List V), FnOk P w K mg base (L2.CX P w) k f fd ps (spF K cl n m) ∧ mg x = some (.ref f) ∧ PySem.W.keepIn K (.ref f) = true ∧ Vals dv ds ∧ (∀ F H, Owns K cl F H dd dv zf) ∧
    ∀ (s : Shared) (us ws : List Value), K.In s.heap → us.length = nu → ws.length = ks.length → BindsTo s fd ⟨us, ks.zip ws⟩ (ps.zip (pick idx (us ++ ws ++ ds)))
  len : ∀ l, m l ≠ .bad → l.length = n
def eCallK (m : List D → RF) (nu nk : Nat) (idx : List Nat) (dd : List D) (a b : Rho → RX (List D)) : Rho → RX D := fun ρ => (a ρ).bind fun xs ρ1 => (b ρ1).bind fun ys ρ2 =>
  if xs.length = nu ∧ ys.length = nk then
    match m (pick idx (D.frzs xs ++ D.frzs ys ++ dd)) with
    | .rt d => .ok d ρ2
    | .ex c zs => .ex c zs ρ2
    | .bad => .bad
  else .bad
section
variable {X : Cx} {cl : Tb} {W : WX'} {K : PySem.W.Frag}
variable {G : Gh} {F H F' H' : Hp} {R B A A' : Fp} {σ : St} {ρ ρ' : Rho} {pos : Pos}
theorem fe_call {x : Str} {k n : Nat} {m : List D → RF} {dd : List D} {p : Pos} {e : Expr} {es : List Expr} {a : Rho → RX (List D)} (Fc : Fnc X.prog X.w X.K X.mg X.base cl x k n m dd) (hr : Room k X.A) (hg : Gl X x) (tk : Takes X W) (ha : FA X cl W (e :: es) a)
    (hdb : (x == ("__debug__" : Str)) = false := by decide) (he : starEach (e :: es) X.env = (false, eval e X.env) :: starEach es X.env := by rfl) (hpl : (backTo pos (starEach es X.env)).any (·.1) = false := by rfl) : FE X cl W (.Call (.Name x p) (e :: es) [] pos) (eCall m dd a) := by
  obtain ⟨⟨f, fd, ps, ds, dv, h1, h2, h3, h4, h5, h6⟩, hl⟩ := Fc
  exact PE_imp (pe_callSD h1 hr hg h2 h3 h4 h5 (passAt tk) ha hdb he hpl) fun σ H Q q => call_imp h6 hl σ H Q q
theorem Vals.pick : ∀ (idx : List Nat) {vs : List V} {us : List Value}, Vals vs us → Vals (FL.pick idx vs) (FL.pick idx us)
  | [], _, _, _ => .nil
  | i :: idx, vs, us, r => by
    have ih := Vals.pick idx r
    unfold FL.pick at ih ⊢
    rw [List.filterMap_cons, List.filterMap_cons]
    cases h : vs[i]? with
    | none => rw [Vals.none_of r h]; exact ih
    | some v =>
      obtain ⟨u, hu, ru⟩ := r.get h
      rw [hu]
      exact .cons ru ih
theorem Owns.pick : ∀ (idx : List Nat) {ds : List D} {vs : List V}, Owns K cl F H ds vs zf → Owns K cl F H (FL.pick idx ds) (FL.pick idx vs) zf
  | [], _, _, _ => rfl
  | i :: idx, ds, vs, o => by
    have ih := Owns.pick idx o
    unfold FL.pick at ih ⊢
    rw [List.filterMap_cons, List.filterMap_cons]
    cases h : ds[i]? with
    | none =>
      have : vs[i]? = none := List.getElem?_eq_none_iff.mpr (by rw [← Owns.length o]; exact List.getElem?_eq_none_iff.mp h)
      rw [this]; exact ih
    | some d =>
      obtain ⟨v, hv, ov⟩ := o.get h
      rw [hv]
      exact ⟨v, _, zf, zf, rfl, ov, ih, fun _ => Nat.le_refl _⟩
abbrev FK (X : Cx) (cl : Tb) (W : WX') (ks : List Keyword) (m : Rho → RX (List D)) : Prop := PK X ks (tX X.K cl W (rL X.K cl) m)
theorem PK_imp {X : Cx} {ks : List Keyword} {t t' : TA} (h : PK X ks t) (i : ∀ σ H Q, t' σ H Q → t σ H Q) : PK X ks t' := ⟨fun pos pins s σ H Q I q => h.run pos pins s σ H Q I (i σ H Q q)⟩
theorem fk_nil : FK X cl W [] aNil := PK_imp pk_nil fun σ H Q q => by
  obtain ⟨G, F, ρ, A, R, st, en, p⟩ := q
  exact p [] F H A zf (Ev.self st en) rfl
theorem fk_cons {e : Expr} {nm : Option Str} {kpos : Pos} {ks : List Keyword} {a : Rho → RX D} {b : Rho → RX (List D)} (ha : FE X cl W e a) (hb : FK X cl W ks b) : FK X cl W (⟨nm, e, kpos⟩ :: ks) (aCons a b) := PK_imp (pk_cons ha hb) fun σ H Q q => by
  obtain ⟨G, F, ρ, A, R, st, en, p⟩ := q
  refine ⟨G, F, ρ, A, R, st, en, Pst.bind p fun x ρ1 v1 F1 H1 A1 B1 e1 o1 p1 => ?_⟩
  refine tX.run e1 (Pst.bindC p1 fun y ρ2 v2 F2 H2 A2 B2 e2 o2 p2 => ?_)
  exact Pst.okB (B := fun z => B1 z + B2 z) p2 (e2.st.less fun z => by show A2 z + (B1 z + B2 z + R z) ≤ A2 z + (B2 z + (B1 z + R z)); omega) e2.en ⟨v1, v2, B1, B2, rfl, e2.keep o1, o2, fun _ => Nat.le_refl _⟩
/-- the reading of a call with keywords, at the caller's slots -/
def tCallNS (n m : Nat) (sp : Sp) (gV : List V → List V → List V) (E : St → XK) (t tk : TA) : TE := fun σ H Q => t σ H fun vs H1 => tk σ H1 fun zs H2 => vs.length = n ∧ zs.length = m ∧ sp (gV vs zs) H2 Q (E σ)
theorem run_fnNS {CX : CXT} {k n : Nat} {f : Addr} {fd : FuncData} {ps ks : List Str} {sp : Sp} {E : St → XK} {g : List Value → List Value → List Value} {gV : List V → List V → List V} {pins : List (Addr × Obj)} {σ : St} {H : Hp} {s : Shared} {Q : VK} {us ws : List Value} {vs zs : List V}
    (F : FnOk X.prog X.w X.K X.mg X.base CX k f fd ps sp) (hr : Room k X.A) (hb : KBn X.K fd ps n ks g gV) (hx : PassesAt CX X σ (E σ))
    (I : Inv X pins σ H s) (r : Vals vs us) (rz : Vals zs ws) (l1 : vs.length = n) (l2 : zs.length = ks.length) (h : sp (gV vs zs) H Q (E σ)) : wpAny (model X.prog X.w) X.A (call (.ref f) us (ks.zip ws)) (EP X pins σ Q) X.xe s := by
  have r2 := hb.rel r rz
  refine wpAny_call (codeAny_mono (F.run X.A X.stack s H ⟨us, ks.zip ws⟩ (g us ws) (gV vs zs) Q (E σ) hr I.env0 (hb.to s us ws I.kIn (r.length.symm.trans l1) (rz.length.symm.trans l2)) r2 h) fun r s' hq => ?_)
  cases r with
  | error e => exact hx pins H s e s' I hq
  | ok fl =>
    cases fl with
    | ret u => exact I.after hq
    | next => exact False.elim hq
    | brk => exact False.elim hq
    | cont => exact False.elim hq
theorem callK_imp {n nu nk : Nat} {m : List D → RF} {idx : List Nat} {dd : List D} {dv : List V} {a b : Rho → RX (List D)} (hdd : ∀ F H, Owns X.K cl F H dd dv zf) (hlen : ∀ l, m l ≠ .bad → l.length = n) (σ : St) (H : Hp) (Q : VK) (q : tX X.K cl W (rD X.K cl) (eCallK m nu nk idx dd a b) σ H Q) :
    tCallNS nu nk (spF X.K cl n m) (fun vs zs => pick idx (vs ++ zs ++ dv)) (WE W) (tX X.K cl W (rL X.K cl) a) (tX X.K cl W (rL X.K cl) b) σ H Q := by
  obtain ⟨G, F, ρ, A, R, st, en, p⟩ := q
  refine ⟨G, F, ρ, A, R, st, en, Pst.bind p fun x ρ1 v1 F1 H1 A1 B1 e1 o1 p1 => ?_⟩
  refine tX.run e1 (Pst.bindC p1 fun y ρ2 v2 F2 H2 A2 B2 e2 o2 p2 => ?_)
  by_cases hl : x.length = nu ∧ y.length = nk
  · rw [if_pos hl] at p2
    refine ⟨(Owns.length o1).symm.trans hl.1, (Owns.length o2).symm.trans hl.2, ?_⟩
    -- all that is held is frozen
    have e3 : Ev X.K cl G F2 H2 R F2 H2 σ ρ2 A2 (fun z => B2 z + B1 z) := ⟨Le.refl, fun _ _ => rfl, e2.st.less fun z => by show A2 z + (B2 z + B1 z + R z) ≤ A2 z + (B2 z + (B1 z + R z)); omega, e2.en⟩
    obtain ⟨e4, le4⟩ := e3.fz
    have ox : Owns X.K cl (fz F2 H2 fun z => B2 z + B1 z) H2 (D.frzs x) v1 zf := Owns.freeze (e2.keeps o1) le4 fun a ha => fz_at (by show 0 < B2 a + B1 a; omega)
    have oy : Owns X.K cl (fz F2 H2 fun z => B2 z + B1 z) H2 (D.frzs y) v2 zf := Owns.freeze o2 le4 fun a ha => fz_at (by show 0 < B2 a + B1 a; omega)
    have oo := Owns.pick idx (Owns.append (Owns.append ox oy) (hdd (fz F2 H2 fun z => B2 z + B1 z) H2))
    refine ⟨?_, fz F2 H2 (fun z => B2 z + B1 z), _, e4.st.sub, oo, ?_⟩
    · rw [← Owns.length oo]
      refine hlen _ fun z => ?_
      simp only [z] at p2
      exact p2
    · cases hm : m (pick idx (D.frzs x ++ D.frzs y ++ dd)) with
      | rt d =>
        simp only [hm] at p2
        exact fun v F' H' B le lh st' o => p2 v F' H' A2 B (e4.call le lh st') o
      | ex c xs =>
        simp only [hm] at p2
        exact fun u d F' H' le lh st' o => p2 u d F' H' A2 (e4.call le lh st') o
      | bad => simp only [hm] at p2; exact p2.elim
  · rw [if_neg hl] at p2; exact p2.elim
theorem fe_callK {x : Str} {k n nu : Nat} {ks : List Str} {idx : List Nat} {m : List D → RF} {dd : List D} {p : Pos} {e : Expr} {es : List Expr} {kws : List Keyword} {a b : Rho → RX (List D)} (Fc : FncK X.prog X.w X.K X.mg X.base cl x k n m nu ks idx dd) (hr : Room k X.A) (hg : Gl X x) (tk : Takes X W)
    (ha : FA X cl W (e :: es) a) (hkw : FK X cl W kws b) (hall : (backToKw pos (keywordEach kws X.env)).all (·.1.isSome) = true := by rfl) (hks : (backToKw pos (keywordEach kws X.env)).filterMap (·.1) = ks := by rfl)
    (hdb : (x == ("__debug__" : Str)) = false := by decide) (he : starEach (e :: es) X.env = (false, eval e X.env) :: starEach es X.env := by rfl)
    (hpl : ((backTo pos (starEach (e :: es) X.env)).any (·.1) || (backToKw pos (keywordEach kws X.env)).any (·.1.isNone)) = false := by rfl) : FE X cl W (.Call (.Name x p) (e :: es) kws pos) (eCallK m nu ks.length idx dd a b) := by
  obtain ⟨⟨f, fd, ps, ds, dv, h1, h2, h3, h4, h5, h6⟩, hl⟩ := Fc
  have kb : KBn X.K fd ps nu ks (fun us ws => pick idx (us ++ ws ++ ds)) (fun vs zs => pick idx (vs ++ zs ++ dv)) := ⟨h6, fun r1 r2 => Vals.pick idx ((r1.append r2).append h4)⟩
  refine PE_imp (t := tCallNS nu ks.length (spF X.K cl n m) (fun vs zs => pick idx (vs ++ zs ++ dv)) (WE W) (tX X.K cl W (rL X.K cl) a) (tX X.K cl W (rL X.K cl) b)) ⟨fun pins s σ H Q I h => ?_⟩ fun σ H Q q => callK_imp h5 hl σ H Q q
  refine wpAny_Call_Name_kw (ld_glob I hg h2 ?_ hdb)
  refine PySem.W.callWith_KW (h₀ := X.base) I.ok.mod.kin h3 hall (thn (ha.run pos pins s σ H _ I h) fun us s1 ⟨vs, H1, I1, r, q⟩ => ?_) hpl he
  refine thn (hkw.run pos pins s1 σ H1 _ I1 q) fun ws s2 ⟨zs, H2, I2, rz, l1, l2, q2⟩ => ⟨I2.kIn, ?_⟩
  rw [hks]
  exact run_fnNS h1 hr kb (passAt tk σ) I2 r rz l1 l2 q2
theorem fe_callK0 {x : Str} {k n : Nat} {ks : List Str} {idx : List Nat} {m : List D → RF} {dd : List D} {p : Pos} {kws : List Keyword} {b : Rho → RX (List D)} (Fc : FncK X.prog X.w X.K X.mg X.base cl x k n m 0 ks idx dd) (hr : Room k X.A) (hg : Gl X x) (tk : Takes X W)
    (hkw : FK X cl W kws b) (hall : (backToKw pos (keywordEach kws X.env)).all (·.1.isSome) = true := by rfl) (hks : (backToKw pos (keywordEach kws X.env)).filterMap (·.1) = ks := by rfl)
    (hdb : (x == ("__debug__" : Str)) = false := by decide) (hpl : ((backTo pos (starEach [] X.env)).any (·.1) || (backToKw pos (keywordEach kws X.env)).any (·.1.isNone)) = false := by rfl) : FE X cl W (.Call (.Name x p) [] kws pos) (eCallK m 0 ks.length idx dd aNil b) := by
  obtain ⟨⟨f, fd, ps, ds, dv, h1, h2, h3, h4, h5, h6⟩, hl⟩ := Fc
  have kb : KBn X.K fd ps 0 ks (fun us ws => pick idx (us ++ ws ++ ds)) (fun vs zs => pick idx (vs ++ zs ++ dv)) := ⟨h6, fun r1 r2 => Vals.pick idx ((r1.append r2).append h4)⟩
  refine PE_imp (t := fun σ H Q => tX X.K cl W (rL X.K cl) aNil σ H fun vs H1 => tX X.K cl W (rL X.K cl) b σ H1 fun zs H2 => vs.length = 0 ∧ zs.length = ks.length ∧ spF X.K cl n m (pick idx (vs ++ zs ++ dv)) H2 Q (WE W σ)) ⟨fun pins s σ H Q I h => ?_⟩ fun σ H Q q => callK_imp h5 hl σ H Q q
  refine wpAny_Call_Name_kw (ld_glob I hg h2 ?_ hdb)
  refine PySem.W.callWith_KW0 (h₀ := X.base) I.ok.mod.kin h3 hall ?_ hpl
  have h' : tX X.K cl W (rL X.K cl) b σ H fun zs H2 => zs.length = ks.length ∧ spF X.K cl n m (pick idx (zs ++ dv)) H2 Q (WE W σ) := by
    obtain ⟨G, F, ρ, A, R, st, en, p⟩ := h
    have p' := p [] F H A zf (Ev.self st en) rfl
    obtain ⟨G', F', ρ', A', R', st', en', p''⟩ := p'
    refine ⟨G', F', ρ', A', R', st', en', ?_⟩
    unfold Pst at p'' ⊢
    split at p''
    · exact fun v F2 H2 A2 B2 e2 o2 => (p'' v F2 H2 A2 B2 e2 o2).2
    · exact p''
    · exact p''
  refine thn (hkw.run pos pins s σ H _ I h') fun ws s2 ⟨zs, H2, I2, rz, l2, q2⟩ => ⟨I2.kIn, ?_⟩
  rw [hks]
  exact run_fnNS (us := []) (vs := []) h1 hr kb (passAt tk σ) I2 .nil rz rfl l2 q2

/-! ### built-ins called -/
theorem fe_callB {x : Str} {p : Pos} {e : Expr} {es : List Expr} {a : Rho → RX (List D)} {f : List D → Option D} {r : List V → Hp → VK → Prop} {id : String} (hf : DoesL X cl f r) (hc : CallR X (.builtin id) r) (hg : Gl X x) (hm : X.mg x = none) (hv : bootBuiltins x = some (.builtin id)) (ha : FA X cl W (e :: es) a) (hn : x ≠ "__name__" := by decide) (hdb : (x == ("__debug__" : Str)) = false := by decide)
    (he : starEach (e :: es) X.env = (false, eval e X.env) :: starEach es X.env := by rfl) (hpl : (backTo pos (starEach es X.env)).any (·.1) = false := by rfl) : FE X cl W (.Call (.Name x p) (e :: es) [] pos) (eFn f a) := fe_fn hf (pe_callB hc hg hm hv ha hn hdb he hpl)
theorem fe_callTy {x : Str} {p : Pos} {e : Expr} {es : List Expr} {a : Rho → RX (List D)} {f : List D → Option D} {r : List V → Hp → VK → Prop} {T : String} (hf : DoesL X cl f r) (hc : CallR X (.type T) r) (hg : Gl X x) (hm : X.mg x = none) (hv : bootBuiltins x = some (.type T)) (ha : FA X cl W (e :: es) a) (hn : x ≠ "__name__" := by decide) (hdb : (x == ("__debug__" : Str)) = false := by decide)
    (he : starEach (e :: es) X.env = (false, eval e X.env) :: starEach es X.env := by rfl) (hpl : (backTo pos (starEach es X.env)).any (·.1) = false := by rfl) : FE X cl W (.Call (.Name x p) (e :: es) [] pos) (eFn f a) := fe_fn hf (pe_callTy hc hg hm hv ha hn hdb he hpl)
/-- .. of quiet arguments, nothing made -/
def Quiet1 (X : Cx) (cl : Tb) (f : D → Option D) (r : List V → Hp → VK → Prop) : Prop :=
  ∀ (x d : D), f x = some d → ∀ (F H : Hp) (A : Fp) (vx : V) (Q : VK), Le F H → Own X.K cl F H x vx A → (∀ v, Own X.K cl F H d v A → Q v H) → r [vx] H Q
def Quiet12 (X : Cx) (cl : Tb) (f : D → D → Option D) (r : List V → Hp → VK → Prop) : Prop :=
  ∀ (x y d : D), f x y = some d → ∀ (F H : Hp) (A : Fp) (vx vy : V) (Q : VK), Le F H → Own X.K cl F H x vx A → Own X.K cl F H y vy A → (∀ v, Own X.K cl F H d v A → Q v H) → r [vx, vy] H Q
theorem fq_1 {e a : Expr} {m : Rho → Option D} {f : D → Option D} {r : List V → Hp → VK → Prop} (hf : Quiet1 X cl f r) (h : PE X e (tCB r (tCons (tQ X.K cl m) tNil))) : FQ X cl e (qUn f m) := PE_imp h fun σ H Q q => by
  obtain ⟨G, F, ρ, A, R, st, en, p⟩ := q
  refine ⟨G, F, ρ, A, R, st, en, ?_⟩
  unfold qUn at p
  cases ha : m ρ with
  | none => rw [ha] at p; exact p.elim
  | some x =>
    rw [ha] at p
    intro v1 o1
    cases hd : f x with
    | none => rw [Option.bind_some, hd] at p; exact p.elim
    | some d =>
      rw [Option.bind_some, hd] at p
      exact hf x d hd F H A v1 Q st.sub o1 p
theorem fq_2 {e : Expr} {m n : Rho → Option D} {f : D → D → Option D} {r : List V → Hp → VK → Prop} (hf : Quiet12 X cl f r) (h : PE X e (tCB r (tCons (tQ X.K cl m) (tCons (tQ X.K cl n) tNil)))) : FQ X cl e (qBin f m n) := PE_imp h fun σ H Q q => by
  obtain ⟨G, F, ρ, A, R, st, en, p⟩ := q
  refine ⟨G, F, ρ, A, R, st, en, ?_⟩
  unfold qBin at p
  cases ha : m ρ with
  | none => rw [ha] at p; exact p.elim
  | some x =>
    rw [ha] at p
    intro v1 o1
    refine ⟨G, F, ρ, A, R, st, en, ?_⟩
    cases hb : n ρ with
    | none => simp only [Option.bind_some, hb] at p; exact p.elim
    | some y =>
      simp only [Option.bind_some, hb] at p
      intro v2 o2
      cases hd : f x y with
      | none => rw [hd] at p; exact p.elim
      | some d =>
        rw [hd] at p
        exact hf x y d hd F H A v1 v2 Q st.sub o1 o2 p
noncomputable def len1 (d : D) : Option D := lenL [d]
def max2 (x y : D) : Option D := maxL [x, y]
def min2 (x y : D) : Option D := minL [x, y]
def int1 (d : D) : Option D := intL [d]
theorem q_len : Quiet1 X cl len1 (fun xs H Q => ∃ x n, xs = [x] ∧ LenV X.K x H n ∧ Q (.int n) H) := fun x d hd F H A v Q sub o k => by
  unfold len1 lenL at hd
  simp only at hd
  cases hq : sq x with
  | some ds =>
    rw [hq] at hd
    have e := (Option.some.inj hd).symm
    subst e
    obtain ⟨a, xs, rfl, q, r⟩ := own_sq hq o sub
    have hl := Owns.length r
    refine ⟨.ref a, ds.length, rfl, ?_, k _ rfl⟩
    rcases q with q | q
    · exact .inl ⟨xs, q, hl⟩
    · exact .inr ⟨xs, q, hl⟩
  | none =>
    rw [hq] at hd
    cases x with
    | str s =>
      simp only at hd
      split at hd
      · rename_i hc
        have e := (Option.some.inj hd).symm
        subst e
        have ev : v = .str s := o
        subst ev
        exact ⟨_, s.length, rfl, ⟨by have h1 := of_yes hc; rw [sizeLine_eq]; exact h1, rfl⟩, k _ rfl⟩
      · cases hd
    | _ => cases hd
theorem q_max : Quiet12 X cl max2 (fun xs H Q => ∃ i j, xs = [.int i, .int j] ∧ Q (.int (if j > i then j else i)) H) := fun x y d hd F H A v w Q sub o o' k => by
  unfold max2 maxL at hd
  split at hd
  · rename_i i j he
    cases he
    have e := (Option.some.inj hd).symm
    subst e
    have e1 : v = .int i := o
    have e2 : w = .int j := o'
    subst e1 e2
    exact ⟨i, j, rfl, k _ rfl⟩
  · cases hd
theorem q_min : Quiet12 X cl min2 (fun xs H Q => ∃ i j, xs = [.int i, .int j] ∧ Q (.int (if j < i then j else i)) H) := fun x y d hd F H A v w Q sub o o' k => by
  unfold min2 minL at hd
  split at hd
  · rename_i i j he
    cases he
    have e := (Option.some.inj hd).symm
    subst e
    have e1 : v = .int i := o
    have e2 : w = .int j := o'
    subst e1 e2
    exact ⟨i, j, rfl, k _ rfl⟩
  · cases hd
theorem q_int : Quiet1 X cl int1 (fun xs H Q => (∃ i, xs = [.int i] ∧ Q (.int i) H) ∨ ∃ k, xs = [.bl k] ∧ Q (.int (if k then 1 else 0)) H) := fun x d hd F H A v Q sub o k => by
  unfold int1 intL at hd
  split at hd
  · rename_i i he
    cases he
    have e := (Option.some.inj hd).symm
    subst e
    have e1 : v = .int i := o
    subst e1
    exact .inl ⟨i, rfl, k _ rfl⟩
  · rename_i b he
    cases he
    have e := (Option.some.inj hd).symm
    subst e
    have e1 : v = .bl b := o
    subst e1
    exact .inr ⟨b, rfl, k _ rfl⟩
  · cases hd
theorem fq_callB1 {x : Str} {p : Pos} {e : Expr} {m : Rho → Option D} {f : D → Option D} {r : List V → Hp → VK → Prop} {id : String} (hf : Quiet1 X cl f r) (hc : CallR X (.builtin id) r) (hg : Gl X x) (hm : X.mg x = none) (hv : bootBuiltins x = some (.builtin id)) (ha : FQ X cl e m) (hn : x ≠ "__name__" := by decide) (hdb : (x == ("__debug__" : Str)) = false := by decide)
    (he : starEach [e] X.env = [(false, eval e X.env)] := by rfl) : FQ X cl (.Call (.Name x p) [e] [] pos) (qUn f m) := fq_1 (a := e) hf (pe_callB hc hg hm hv (pa_cons ha pa_nil he) hn hdb he rfl)
theorem fq_callB2 {x : Str} {p : Pos} {e e' : Expr} {m n : Rho → Option D} {f : D → D → Option D} {r : List V → Hp → VK → Prop} {id : String} (hf : Quiet12 X cl f r) (hc : CallR X (.builtin id) r) (hg : Gl X x) (hm : X.mg x = none) (hv : bootBuiltins x = some (.builtin id)) (ha : FQ X cl e m) (hb : FQ X cl e' n) (hn : x ≠ "__name__" := by decide) (hdb : (x == ("__debug__" : Str)) = false := by decide)
    (he : starEach [e, e'] X.env = (false, eval e X.env) :: starEach [e'] X.env := by rfl) (he' : starEach [e'] X.env = [(false, eval e' X.env)] := by rfl) (hpl : (backTo pos (starEach [e'] X.env)).any (·.1) = false := by rfl) : FQ X cl (.Call (.Name x p) [e, e'] [] pos) (qBin f m n) := fq_2 hf (pe_callB hc hg hm hv (pa_cons ha (pa_cons hb pa_nil he') he) hn hdb he hpl)
theorem fq_callTy1 {x : Str} {p : Pos} {e : Expr} {m : Rho → Option D} {f : D → Option D} {r : List V → Hp → VK → Prop} {T : String} (hf : Quiet1 X cl f r) (hc : CallR X (.type T) r) (hg : Gl X x) (hm : X.mg x = none) (hv : bootBuiltins x = some (.type T)) (ha : FQ X cl e m) (hn : x ≠ "__name__" := by decide) (hdb : (x == ("__debug__" : Str)) = false := by decide)
    (he : starEach [e] X.env = [(false, eval e X.env)] := by rfl) : FQ X cl (.Call (.Name x p) [e] [] pos) (qUn f m) := fq_1 (a := e) hf (pe_callTy hc hg hm hv (pa_cons ha pa_nil he) hn hdb he rfl)

/-! ### isinstance -/
/-- what an own class must have to be asked for -/
structure InsTy (K : PySem.W.Frag) (C : Addr) : Prop where
  cls : Cls K C
  ha : PySem.W.findIn K (.ref C) "__class__" = some (some (.builtin "object.__class__"))
  hn : PySem.W.specialIn K (.builtin "object.__class__") "__get__" = some (some (.builtin "getset_descriptor.__get__"))
  ht : PySem.W.takesIn K (.builtin "object.__class__") = some true
  hm : PySem.W.mroIn K C (.type "object") = some true
/-- the kind: a built-in type's name, or an own class -/
def kindD : D → Option (String ⊕ Nat)
  | .non => some (.inl "NoneType") | .bl _ => some (.inl "bool") | .int _ => some (.inl "int") | .str _ => some (.inl "str")
  | .tup _ => some (.inl "tuple") | .lst _ => some (.inl "list") | .vec _ => some (.inl "list") | .obj c _ => some (.inr c) | .mobj c _ => some (.inr c)
  | .dT _ _ => some (.inl "dict") | .vT _ _ => some (.inl "dict") | .dK _ _ => some (.inl "dict") | .vK _ _ => some (.inl "dict") | _ => none
def isiD (tab : String ⊕ Nat → Option Bool) (d : D) : Option D := (kindD d).bind fun k => (tab k).map D.bl
def Tab (K : PySem.W.Frag) (cl : Tb) (u : Value) (tab : String ⊕ Nat → Option Bool) : Prop :=
  (∀ n b, tab (.inl n) = some b → PySem.W.kitOne K (.type n) u = some b) ∧ ∀ c b, tab (.inr c) = some b → InsTy K (cl c).at_ ∧ PySem.W.kitOne K (.ref (cl c).at_) u = some b
theorem ty_list {a : Addr} {xs : List V} (h : SqL K H a xs) : TyX K H (.ref a) (.type "list") := by
  rcases h with (h | ⟨o, h⟩) | ⟨o, its, n, h, c, _⟩
  · exact .base (.lst h)
  · exact .base (.frz h)
  · exact .kList h c
theorem ty_tup {a : Addr} {xs : List V} (h : SqT K H a xs) : TyX K H (.ref a) (.type "tuple") := by
  rcases h with (h | ⟨o, h⟩) | ⟨o, its, n, h, c, _⟩
  · exact .base (.tup h)
  · exact .fTuple h
  · exact .kTuple h c
theorem fq_isi {e c : Expr} {m : Rho → Option D} {vc : V} {u : Value} {tab : String ⊕ Nat → Option Bool} {p : Pos} (ht : Tab X.K cl u tab) (hu : ClsV vc u) (hg : Gl X "isinstance") (hm : X.mg "isinstance" = none) (ha : FQ X cl e m) (hc : PE X c (tC vc))
    (he : starEach [e, c] X.env = (false, eval e X.env) :: starEach [c] X.env := by rfl) (he' : starEach [c] X.env = [(false, eval c X.env)] := by rfl) (hpl : (backTo pos (starEach [c] X.env)).any (·.1) = false := by rfl) : FQ X cl (.Call (.Name "isinstance" p) [e, c] [] pos) (qUn (isiD tab) m) :=
  PE_imp (pe_callB call_isi hg hm (by decide +kernel) (pa_cons ha (pa_cons hc pa_nil he') he) (by decide) (by decide) he hpl) fun σ H Q q => by
  obtain ⟨G, F, ρ, A, R, st, en, p⟩ := q
  refine ⟨G, F, ρ, A, R, st, en, ?_⟩
  unfold qUn at p
  cases hx : m ρ with
  | none => rw [hx] at p; exact p.elim
  | some x =>
    rw [hx] at p
    intro v o
    have p' : match isiD tab x with | some d => ∀ v, Own X.K cl F H d v A → Q v H | none => False := p
    unfold isiD at p'
    cases hk : kindD x with
    | none => rw [hk] at p'; exact p'.elim
    | some k =>
      rw [hk] at p'
      cases hb : tab k with
      | none => simp only [Option.bind_some, hb] at p'; exact p'.elim
      | some b =>
        simp only [Option.bind_some, hb, Option.map_some] at p'
        have fin : ∀ t, TyX X.K H v t → PySem.W.kitOne X.K t u = some b → rIsi X.K [v, vc] H Q := fun t ty e => ⟨v, vc, t, u, b, rfl, hu, ty, e, p' _ rfl⟩
        cases x with
        | non => cases hk; have e : v = .non := o; subst e; exact fin _ (.base .non) (ht.1 _ _ hb)
        | bl k => cases hk; have e : v = .bl k := o; subst e; exact fin _ (.base (.bl k)) (ht.1 _ _ hb)
        | int k => cases hk; have e : v = .int k := o; subst e; exact fin _ (.base (.int k)) (ht.1 _ _ hb)
        | str k => cases hk; have e : v = .str k := o; subst e; exact fin _ (.base (.str k)) (ht.1 _ _ hb)
        | tup ds => cases hk; obtain ⟨a, xs, rfl, q, r⟩ := o; exact fin _ (ty_tup (st.sub.sqT q.1)) (ht.1 _ _ hb)
        | lst ds => cases hk; obtain ⟨a, xs, rfl, q, r⟩ := o; exact fin _ (ty_list (st.sub.sqL q)) (ht.1 _ _ hb)
        | vec ds => cases hk; obtain ⟨a, xs, B, rfl, n, q, r, s⟩ := o; exact fin _ (ty_list (SqL.of q)) (ht.1 _ _ hb)
        | obj c ds =>
          cases hk
          obtain ⟨a, dx, xs, rfl, q, z, r⟩ := o
          obtain ⟨i, e⟩ := ht.2 _ _ hb
          exact fin _ (.base (.ins (st.sub _ _ q) i.cls i.ha i.hn i.ht i.hm)) e
        | mobj c ds =>
          cases hk
          obtain ⟨a, dx, xs, B, ⟨rfl, _⟩, n, q, z, r, s⟩ := o
          obtain ⟨i, e⟩ := ht.2 _ _ hb
          exact fin _ (.base (.ins q i.cls i.ha i.hn i.ht i.hm)) e
        | exc c ds => cases hk
        | dT ks ds => cases hk; obtain ⟨a, xs, rfl, q, r⟩ := o; exact fin _ (.base (.dT (st.sub _ _ q))) (ht.1 _ _ hb)
        | vT ks ds => cases hk; obtain ⟨a, xs, B, rfl, n, q, r⟩ := o; exact fin _ (.base (.dT q)) (ht.1 _ _ hb)
        | dK ks ds => cases hk; obtain ⟨a, xs, rfl, q, r⟩ := o; exact fin _ (.base (.dK (st.sub _ _ q))) (ht.1 _ _ hb)
        | vK ks ds => cases hk; obtain ⟨a, xs, B, rfl, n, q, r⟩ := o; exact fin _ (.base (.dK q)) (ht.1 _ _ hb)
        | val w => cases hk
/-- a built-in type asked for, own classes left out -/
def tabTy (T : String) : String ⊕ Nat → Option Bool
  | .inl n => kitB n T
  | .inr _ => none
theorem tab_ty {T : String} : Tab K cl (.type T) (tabTy T) := ⟨fun n b h => kit_ty h, fun c b h => by cases h⟩

/-! ### xs.append(e), xs a name -/
noncomputable def eApp (i : Nat) (m : Rho → RX D) : Rho → RX D := fun ρ => match ρ[i]? with
  | some (some (.vec _)) => (m ρ).bind fun d ρ1 => match ρ1[i]? with
    | some (some (.vec ds)) => if cap ds.length then .ok .non (ρ1.set i (some (.vec (ds ++ [d])))) else .bad
    | _ => .bad
  | _ => .bad
theorem fe_app {i : Nat} {x : Str} {p apos : Pos} {e : Expr} {m : Rho → RX D} (hx : PE X (.Name x p) (tVar i)) (ha : FE X cl W e m) (hN : i < X.N.length ∨ True := .inr trivial)
    (hbase : attributeBase (.Name x p) "append" X.env (eval (.Name x p) X.env) = eval (.Name x p) X.env := by rfl)
    (hfew : ((backTo pos (starEach [e] X.env)).all (fun x => !x.1) && (backToKw pos (keywordEach [] X.env)).all (fun x => x.1.isSome)
      && decide ([e].length + ([] : List Keyword).length + (if ([] : List Keyword).isEmpty then 0 else 1) < 30)) = true := by rfl)
    (hline : (apos.endLine == pos.line) = true := by rfl) (hs : starEach [e] X.env = [(false, eval e X.env)] := by rfl) :
    FE X cl W (.Call (.Attribute (.Name x p) "append" apos) [e] [] pos) (eApp i m) :=
  PE_imp (pe_bm PySem.F.plainAttrs_list PySem.F.slot_list_append PySem.F.type_list_append mt_append hx (pa_cons ha pa_nil hs) hbase hfew hline hs rfl) fun σ H Q q => by
  obtain ⟨G, F, ρ, A, R, st, en, p⟩ := q
  unfold eApp at p
  split at p
  · rename_i es hρ
    obtain ⟨v, B, C, hv, o, en', hs⟩ := en.get hρ
    obtain ⟨a, xs, B', rfl, fa, hH, os, hs'⟩ := o
    refine ⟨.ref a, hv, .inl ⟨rfl, xs, SqL.of hH⟩, ?_⟩
    refine ⟨G, F, ρ, A, R, st, en, Pst.bind p fun d ρ1 v1 F1 H1 A1 B1 e1 o1 p1 => ?_⟩
    split at p1
    · rename_i ds hρ1
      split at p1
      · rename_i hc
        obtain ⟨w, B2, C2, hw, o2, en2, hs2⟩ := e1.en.get hρ1
        rw [hv] at hw
        cases hw
        obtain ⟨a2, ys, B3, ev, fa2, hH2, os2, hs3⟩ := o2
        cases ev
        have hB2 : 0 < B2 a := by have := hs3 a; rw [one_self] at this; omega
        have hl : ds.length = ys.length := Owns.length os2
        refine ⟨a, ys, v1, rfl, rfl, hH2, by rw [← hl]; exact cap_line hc, ?_⟩
        have hA1 : 0 < A1 a := by have := hs2 a; omega
        have nd := e1.st.nd
        have st2 := upd_own (o := .lst (ys ++ [v1])) e1.st (show 0 < A1 a + (B1 a + R a) by omega)
        -- nothing else lies at a
        have off : ∀ b, 0 < C2 b + (B3 b + (B1 b + R b)) → b ≠ a := fun b hb e => by
          subst e
          have h1 : A1 b + (B1 b + R b) ≤ 1 := nd b
          have h2 := hs2 b
          have h3 := hs3 b
          rw [one_self] at h3
          omega
        have own1 : ∀ b, 0 < A1 b + (B1 b + R b) → F1 b = none := fun b hb => (e1.st.own b hb).1
        have en3 : EnvR X.K cl F1 (upd H1 a (.lst (ys ++ [v1]))) (ρ1.set i none) σ C2 := en2.mono Le.refl (fun b hb => ⟨upd_ne (off b (by omega)), own1 b (by have := hs2 b; omega)⟩) fun _ => Nat.le_refl _
        have os3 : Owns X.K cl F1 (upd H1 a (.lst (ys ++ [v1]))) ds ys B3 := os2.mono Le.refl (fun b hb => ⟨upd_ne (off b (by omega)), own1 b (by have := hs2 b; have := hs3 b; omega)⟩) fun _ => Nat.le_refl _
        have o3 : Own X.K cl F1 (upd H1 a (.lst (ys ++ [v1]))) d v1 B1 := o1.mono Le.refl (fun b hb => ⟨upd_ne (off b (by omega)), own1 b (by omega)⟩) fun _ => Nat.le_refl _
        have ov : Own X.K cl F1 (upd H1 a (.lst (ys ++ [v1]))) (.vec (ds ++ [d])) (.ref a) (fun z => one a z + (B3 z + B1 z)) := ⟨a, _, fun z => B3 z + B1 z, rfl, fa2, upd_same, os3.snoc o3, fun _ => Nat.le_refl _⟩
        have en4 := en3.put (i := i) ov
        rw [List.set_set] at en4
        have hσ : σ.set i (some (.ref a)) = σ := by
          obtain ⟨hl, hg⟩ := List.getElem?_eq_some_iff.mp hv
          rw [← hg]
          exact List.set_getElem_self hl
        rw [hσ] at en4
        refine p1 .non F1 _ _ zf ⟨Le.refl, fun b hb => upd_ne (off b (by omega)), st2.less fun z => ?_, en4⟩ rfl
        have h2 := hs2 z
        have h3 := hs3 z
        show one a z + (B3 z + B1 z) + C2 z + (zf z + R z) ≤ A1 z + (B1 z + R z)
        unfold zf
        omega
      · exact p1.elim
    · exact p1.elim
  · exact p.elim
end
end FL

set_option Elab.async false
set_option linter.all false
set_option maxRecDepth 100000
namespace FL
open PySem L2
open PyProof.Rows (envOfC)
/-! ### what a def's body hands to the rules -/
section
variable {P : Program} {w : World} {K : PySem.W.Frag} {mg : Str → Option Value} {base : Heap} {N : List Str} {qual : Str} {scope : Scope} {f : Addr} {cd : Value} {A : Around} {outer : List Env} {s : Shared} {H : Hp} {E : XK}
theorem tk_of : Takes (cxOf (L2.CX P w) P w K mg base N qual scope f cd A outer s H E) (fun c d _ H => E c d H) := takes_of rfl rfl rfl rfl
theorem pw_of : PassesOwn (model (cxOf (L2.CX P w) P w K mg base N qual scope f cd A outer s H E).prog (cxOf (L2.CX P w) P w K mg base N qual scope f cd A outer s H E).w) (cxOf (L2.CX P w) P w K mg base N qual scope f cd A outer s H E).A (cxOf (L2.CX P w) P w K mg base N qual scope f cd A outer s H E).env (cxOf (L2.CX P w) P w K mg base N qual scope f cd A outer s H E).xe := passes_of rfl
end
/-- a def that stands at hand -/
theorem fnc_mk {P : Program} {w : World} {K : PySem.W.Frag} {mg : Str → Option Value} {base : Heap} {cl : Tb} {x : Str} {k n : Nat} {m : List D → RF} {f : Addr} {fd : FuncData} {ps : List Str} (F : FnOk P w K mg base (L2.CX P w) k f fd ps (spF K cl n m)) (hm : mg x = some (.ref f)) (hk : PySem.W.keepIn K (.ref f) = true) (hb : Binds K fd ps []) (hl : ∀ l, m l ≠ .bad → l.length = n) : Fnc P w K mg base cl x k n m [] :=
  ⟨⟨f, fd, ps, [], [], F, hm, hk, hb, .nil, fun _ _ => rfl⟩, hl⟩
theorem fncK_mk {P : Program} {w : World} {K : PySem.W.Frag} {mg : Str → Option Value} {base : Heap} {cl : Tb} {x : Str} {k n nu : Nat} {ks : List Str} {idx : List Nat} {m : List D → RF} {f : Addr} {fd : FuncData} {ps : List Str} (F : FnOk P w K mg base (L2.CX P w) k f fd ps (spF K cl n m)) (hm : mg x = some (.ref f)) (hk : PySem.W.keepIn K (.ref f) = true) (hl : ∀ l, m l ≠ .bad → l.length = n)
    (hb : ∀ (us ws : List Value), us.length = nu → ws.length = ks.length → bindArgs fd ⟨us, ks.zip ws⟩ = pure (ps.zip (pick idx (us ++ ws ++ [])))) : FncK P w K mg base cl x k n m nu ks idx [] :=
  ⟨⟨f, fd, ps, [], [], F, hm, hk, .nil, fun _ _ => rfl, fun s us ws _ h1 h2 => .of_eq (hb us ws h1 h2)⟩, hl⟩
/-- the law's end -/
theorem walk_FL {l : PySem.W.OpenLaw} {k : Nat} {q : Program} {loose : List Str} {XP : (Str → Option Value) → Heap → Prop} {YP : World → Heap → Prop} {d : DefRec} {K : Params → PySem.W.Frag} {x : Str} {cl : World → Tb} {m : World → List D → RF}
    (hn : l.most = some 63) (hdf : d.params.defaults = []) (hr : Room k callerA) (hY : ∀ (w : World) (h : Heap), YP w h → (K w.params).In h)
    (F : ∀ (w : World) (mg : Str → Option Value) (fa : Addr) (h : Heap), (K w.params).In h → h.Ns mainGlobals mg → mg d.name = some (.ref fa) →
      ∃ fd : FuncData, (∀ (s : Shared) (u : Value), BindsTo s fd ⟨[u], []⟩ [(x, u)]) ∧
        ∀ base : Heap, (K w.params).In base → base.Ns mainGlobals mg → FnOk l.prog w (K w.params) mg base (L2.CX l.prog w) k fa fd [x] (spF (K w.params) (cl w) 1 (m w)))
    (hm : ∀ (w : World) (ns : List Int), ns.length ≤ 63 → m w [.lst (ns.map D.int)] = .rt (.bl true)) :
    PySem.W.WalkO q loose XP YP l.row.toRowW d [] (fun f vs => PySem.call f vs) :=
  L2.walk_of (n := 63) (k := k) (x := x) (CX := fun w => L2.CX l.prog w) (sp := fun w => spF (K w.params) (cl w) 1 (m w)) hn (by decide) hdf hr hY F (fun w H a ns hl _ hS => by
    have own : ∀ (ns : List Int) , Owns (K w.params) (cl w) H H (ns.map D.int) (ns.map V.int) zf := fun ns => by
      induction ns with
      | nil => rfl
      | cons i r ih => exact ⟨.int i, _, zf, zf, rfl, rfl, ih, fun _ => Nat.le_refl _⟩
    refine ⟨rfl, H, [.lst (ns.map D.int)], Le.refl, ⟨.ref a, [], zf, zf, rfl, ⟨a, _, rfl, hS, own ns⟩, rfl, fun _ => Nat.le_refl _⟩, ?_⟩
    rw [hm w ns hl]
    exact fun v F' H' B _ _ _ o => o) fun w H s e s' z => by
      obtain ⟨_, _, _, _, _, _, _, _, _, _, _, _, z⟩ := z
      exact z
end FL

set_option Elab.async false
set_option linter.all false
set_option maxRecDepth 100000
namespace FL
open PySem L2
/-! ### reckoning with the functions -/
theorem loop_ind {α : Type} {g : D → Rho → Option Rho} {b : Rho → RS} (f : α → D) (P : List α → Rho → Prop) (Q : RS → Prop) (h0 : ∀ ρ, P [] ρ → Q (.nx ρ))
    (hs : ∀ x xs ρ, P (x :: xs) ρ → ∃ ρ1, g (f x) ρ = some ρ1 ∧ ((∃ ρ2, (b ρ1 = .nx ρ2 ∨ b ρ1 = .ct ρ2) ∧ P xs ρ2) ∨ (∃ ρ2, b ρ1 = .bk ρ2 ∧ Q (.nx ρ2)) ∨ (∃ d, b ρ1 = .rt d ∧ Q (.rt d)) ∨ (∃ c ds ρ2, b ρ1 = .ex c ds ρ2 ∧ Q (.ex c ds ρ2)))) :
    ∀ (xs : List α) (ρ : Rho), P xs ρ → Q (loop g b (xs.map f) ρ)
  | [], ρ, h => h0 ρ h
  | x :: xs, ρ, h => by
    obtain ⟨ρ1, hg, h⟩ := hs x xs ρ h
    rw [List.map_cons]
    unfold loop
    rw [hg]
    rcases h with ⟨ρ2, h1, h2⟩ | ⟨ρ2, h1, h2⟩ | ⟨d, h1, h2⟩ | ⟨c, ds, ρ2, h1, h2⟩
    · have ih := loop_ind f P Q h0 hs xs ρ2 h2
      rcases h1 with h1 | h1 <;> (simp only [h1]; exact ih)
    · simp only [h1]; exact h2
    · simp only [h1]; exact h2
    · simp only [h1]; exact h2
theorem loop_fold {α S : Type} {g : D → Rho → Option Rho} {b : Rho → RS} (f : α → D) (env : S → Rho) (step : S → α → S) (I : S → Prop) (xs : List α) (hI : ∀ s, ∀ x ∈ xs, I s → I (step s x))
    (hs : ∀ s, ∀ x ∈ xs, I s → ∃ ρ1, g (f x) (env s) = some ρ1 ∧ b ρ1 = .nx (env (step s x))) : ∀ s, I s → loop g b (xs.map f) (env s) = .nx (env (xs.foldl step s)) ∧ I (xs.foldl step s) := by
  induction xs with
  | nil => exact fun s h => ⟨rfl, h⟩
  | cons x xs ih =>
    intro s h
    obtain ⟨ρ1, h1, h2⟩ := hs s x List.mem_cons_self h
    rw [List.map_cons, List.foldl_cons]
    unfold loop
    simp only [h1, h2]
    exact ih (fun s y hy => hI s y (List.mem_cons_of_mem _ hy)) (fun s y hy => hs s y (List.mem_cons_of_mem _ hy)) _ (hI s x List.mem_cons_self h)
/-- a loop whose turns leave the frame as it is -/
theorem loop_same {α : Type} {g : D → Rho → Option Rho} {b : Rho → RS} (f : α → D) (xs : List α) (ρ : Rho) (hs : ∀ x ∈ xs, ∃ ρ1, g (f x) ρ = some ρ1 ∧ b ρ1 = .nx ρ) : loop g b (xs.map f) ρ = .nx ρ := by
  induction xs with
  | nil => rfl
  | cons x xs ih =>
    obtain ⟨ρ1, h1, h2⟩ := hs x List.mem_cons_self
    rw [List.map_cons]
    unfold loop
    simp only [h1, h2]
    exact ih fun y hy => hs y (List.mem_cons_of_mem _ hy)
theorem lcl_map {α : Type} {vs : List Nat} {g : D → Rho → Option Rho} {t : Rho → RX Bool} {e : Rho → RX D} {ρ : Rho} (f : α → D) (p : α → Bool) (h : α → D) : ∀ (xs : List α) (acc : List D), acc.length + xs.length < 16777216 →
    (∀ x ∈ xs, ∃ ρ1 ρ2, g (f x) ρ = some ρ1 ∧ t ρ1 = .ok (p x) ρ2 ∧ (p x = true → ∃ ρ3, e ρ2 = .ok (h x) ρ3 ∧ fgt vs ρ3 = ρ) ∧ (p x = false → fgt vs ρ2 = ρ)) → lcl vs g t e (xs.map f) acc ρ = .ok (acc ++ (xs.filter p).map h) ρ
  | [], acc, _, _ => by simp [lcl]
  | x :: xs, acc, hl, H => by
    obtain ⟨ρ1, ρ2, h1, h2, h3, h4⟩ := H x List.mem_cons_self
    have H' := fun y hy => H y (List.mem_cons_of_mem x hy)
    rw [List.map_cons]
    unfold lcl
    rw [List.length_cons] at hl
    cases hp : p x with
    | true =>
      obtain ⟨ρ3, h5, h6⟩ := h3 hp
      rw [hp] at h2
      have hc : cap acc.length = true := yes_of (by omega)
      simp only [h1, h2, h5, hc, if_true, h6]
      rw [lcl_map f p h xs (acc ++ [h x]) (by simp only [List.length_append, List.length_cons, List.length_nil]; omega) H']
      simp [hp]
    | false =>
      rw [hp] at h2
      simp only [h1, h2, h4 hp]
      rw [lcl_map f p h xs acc (by omega) H']
      simp [hp]
/-- .. without a test -/
theorem lcl_all {α : Type} {vs : List Nat} {g : D → Rho → Option Rho} {e : Rho → RX D} {ρ : Rho} (f : α → D) (h : α → D) (xs : List α) (hl : xs.length < 16777216)
    (H : ∀ x ∈ xs, ∃ ρ1 ρ3, g (f x) ρ = some ρ1 ∧ e ρ1 = .ok (h x) ρ3 ∧ fgt vs ρ3 = ρ) : lcl vs g tT e (xs.map f) [] ρ = .ok (xs.map h) ρ := by
  rw [lcl_map f (fun _ => true) h xs [] (by simpa using hl) fun x hx => by
    obtain ⟨ρ1, ρ3, h1, h2, h3⟩ := H x hx
    exact ⟨ρ1, ρ1, h1, rfl, fun _ => ⟨ρ3, h2, h3⟩, fun z => by cases z⟩]
  rw [List.nil_append]
  congr 2
  exact List.filter_eq_self.mpr fun _ _ => rfl
theorem cap_of {n : Nat} (h : n < 16777216) : cap n = true := yes_of h
theorem cap_0 : cap 0 = true := cap_of (by decide)
theorem cap_1 : cap 1 = true := cap_of (by decide)
theorem cap_2 : cap 2 = true := cap_of (by decide)
theorem cap_3 : cap 3 = true := cap_of (by decide)
theorem cap_4 : cap 4 = true := cap_of (by decide)
theorem cap_5 : cap 5 = true := cap_of (by decide)
theorem cap_6 : cap 6 = true := cap_of (by decide)
theorem cap_7 : cap 7 = true := cap_of (by decide)
theorem cap_8 : cap 8 = true := cap_of (by decide)
theorem cap_9 : cap 9 = true := cap_of (by decide)
theorem cap_10 : cap 10 = true := cap_of (by decide)
theorem cap_11 : cap 11 = true := cap_of (by decide)
theorem cap_12 : cap 12 = true := cap_of (by decide)
theorem cap_13 : cap 13 = true := cap_of (by decide)
theorem cap_14 : cap 14 = true := cap_of (by decide)
theorem cap_15 : cap 15 = true := cap_of (by decide)
theorem cap_16 : cap 16 = true := cap_of (by decide)
theorem cap_17 : cap 17 = true := cap_of (by decide)
theorem cap_18 : cap 18 = true := cap_of (by decide)
theorem cap_19 : cap 19 = true := cap_of (by decide)
theorem cap_20 : cap 20 = true := cap_of (by decide)
theorem cap_21 : cap 21 = true := cap_of (by decide)
theorem cap_22 : cap 22 = true := cap_of (by decide)
theorem cap_23 : cap 23 = true := cap_of (by decide)
theorem cap_24 : cap 24 = true := cap_of (by decide)
theorem cap_25 : cap 25 = true := cap_of (by decide)
theorem cap_26 : cap 26 = true := cap_of (by decide)
theorem cap_27 : cap 27 = true := cap_of (by decide)
theorem cap_28 : cap 28 = true := cap_of (by decide)
theorem cap_29 : cap 29 = true := cap_of (by decide)
theorem cap_30 : cap 30 = true := cap_of (by decide)
theorem cap_31 : cap 31 = true := cap_of (by decide)
theorem cap_32 : cap 32 = true := cap_of (by decide)
theorem cap_33 : cap 33 = true := cap_of (by decide)
theorem cap_34 : cap 34 = true := cap_of (by decide)
theorem cap_35 : cap 35 = true := cap_of (by decide)
theorem cap_36 : cap 36 = true := cap_of (by decide)
theorem cap_37 : cap 37 = true := cap_of (by decide)
theorem cap_38 : cap 38 = true := cap_of (by decide)
theorem cap_39 : cap 39 = true := cap_of (by decide)
theorem cap_40 : cap 40 = true := cap_of (by decide)
theorem bnd_of {i : Int} (h : -(2 ^ 62) ≤ i ∧ i < 2 ^ 62) : bnd i = true := yes_of h
theorem D.pures_map {α : Type} {f : α → D} (h : ∀ x, (f x).pure = true) : ∀ (l : List α), D.pures (l.map f) = true
  | [] => rfl
  | x :: l => by rw [List.map_cons, D.pures, h x, D.pures_map h l]; rfl
theorem D.pures_int (l : List Int) : D.pures (l.map D.int) = true := D.pures_map (fun _ => rfl) l
theorem D.frzs_map {α : Type} {f : α → D} (h : ∀ x, (f x).pure = true) (l : List α) : D.frzs (l.map f) = l.map f := D.frzs_of_pure (D.pures_map h l)
theorem D.frzs_int (l : List Int) : D.frzs (l.map D.int) = l.map D.int := D.frzs_map (fun _ => rfl) l
theorem rng_eq (lo : Int) (n : Nat) : rng lo n = ((List.range n).map fun (k : Nat) => lo + k).map D.int := by unfold rng; rw [List.map_map]; rfl
theorem atI_lt {α : Type} {xs : List α} {i : Int} (h0 : 0 ≤ i) (h : i.toNat < xs.length) : atI xs i = some (xs[i.toNat]) := by
  have q := atI_nat (List.getElem?_eq_getElem h)
  rw [Int.toNat_of_nonneg h0] at q
  exact q
theorem flat_all (l : List Int) : (l.map D.int).all flatD = true := by
  rw [List.all_eq_true]
  intro d hd
  obtain ⟨i, _, rfl⟩ := List.mem_map.mp hd
  rfl
theorem eqv_int (i j : Int) : eqvD (.int i) (.int j) = decide (i = j) := by
  show eqV (.int i) (.int j) = _
  unfold eqV
  by_cases h : i = j <;> simp [h]
theorem any_int (l : List Int) (x : Int) : ((l.map D.int).any fun d => eqvD d (.int x)) = decide (x ∈ l) := by
  rw [List.any_map, Bool.eq_iff_iff, List.any_eq_true, decide_eq_true_iff]
  constructor
  · rintro ⟨y, hy, h⟩
    have h' : eqvD (.int y) (.int x) = true := h
    rw [eqv_int, decide_eq_true_iff] at h'
    exact h' ▸ hy
  · exact fun h => ⟨x, h, by show eqvD (.int x) (.int x) = true; rw [eqv_int]; simp⟩
theorem inD_ints {d : D} {l : List Int} (h : sq d = some (l.map D.int)) (x : Int) : inD (.int x) d = some (.bl (decide (x ∈ l))) := by
  unfold inD
  rw [h]
  simp only [flat_all, any_int]
  rfl
theorem ninD_ints {d : D} {l : List Int} (h : sq d = some (l.map D.int)) (x : Int) : ninD (.int x) d = some (.bl (!decide (x ∈ l))) := by
  unfold ninD
  rw [h]
  simp only [flat_all, any_int]
  rfl
theorem eqS_int (i j : Int) : eqS (.int i) (.int j) = some (.bl (decide (i = j))) := by
  unfold eqS scl scal; simp
theorem neS_int (i j : Int) : neS (.int i) (.int j) = some (.bl (!decide (i = j))) := by
  unfold neS scl scal; simp
theorem eqS_bl (i j : Bool) : eqS (.bl i) (.bl j) = some (.bl (decide (i = j))) := by
  unfold eqS scl scal; simp
theorem neS_bl (i j : Bool) : neS (.bl i) (.bl j) = some (.bl (!decide (i = j))) := by
  unfold neS scl scal; simp
theorem addI_i (i j : Int) : addI (.int i) (.int j) = some (.int (i + j)) := rfl
theorem subD_i (i j : Int) : subD (.int i) (.int j) = some (.int (i - j)) := rfl
theorem ltD_i (i j : Int) : ltD (.int i) (.int j) = some (.bl (decide (i < j))) := rfl
theorem leD_i (i j : Int) : leD (.int i) (.int j) = some (.bl (decide (i ≤ j))) := rfl
theorem gtD_i (i j : Int) : gtD (.int i) (.int j) = some (.bl (decide (j < i))) := rfl
theorem geD_i (i j : Int) : geD (.int i) (.int j) = some (.bl (decide (j ≤ i))) := rfl
theorem modD_i {i j : Int} (h : 0 < j) : modD (.int i) (.int j) = some (.int (i % j)) := by
  show (if modOk i j then some (D.int (i % j)) else none) = _
  exact if_pos (yes_of h)
theorem divD_i {i j : Int} (h : 0 < j ∧ j < 1073741824) : divD (.int i) (.int j) = some (.int (i / j)) := by
  show (if divOk i j then some (D.int (i / j)) else none) = _
  exact if_pos (yes_of h)
theorem mulD_i {i j : Int} (h : (-(2 ^ 64) < i ∧ i < 2 ^ 64) ∨ (-(2 ^ 64) < j ∧ j < 2 ^ 64)) : mulD (.int i) (.int j) = some (.int (i * j)) := by
  show (if mulOk i j then some (D.int (i * j)) else none) = _
  exact if_pos (yes_of h)
theorem max2_i (i j : Int) : max2 (.int i) (.int j) = some (.int (max i j)) := by
  show some (D.int (if j > i then j else i)) = _
  rw [Int.max_def]
  congr 2
  split <;> split <;> omega
theorem min2_i (i j : Int) : min2 (.int i) (.int j) = some (.int (min i j)) := by
  show some (D.int (if j < i then j else i)) = _
  rw [Int.min_def]
  congr 2
  split <;> split <;> omega
theorem maxL_i (i j : Int) : maxL [.int i, .int j] = some (.int (max i j)) := max2_i i j
theorem minL_i (i j : Int) : minL [.int i, .int j] = some (.int (min i j)) := min2_i i j
theorem int1_i (i : Int) : int1 (.int i) = some (.int i) := rfl
theorem intL_i (i : Int) : intL [.int i] = some (.int i) := rfl
theorem len1_sq {d : D} {ds : List D} (h : sq d = some ds) : len1 d = some (.int ds.length) := by
  show (match sq d with | some ds => some (D.int ds.length) | none => _) = _
  rw [h]
theorem lenL_sq {d : D} {ds : List D} (h : sq d = some ds) : lenL [d] = some (.int ds.length) := len1_sq h
theorem tupL_sq {d : D} {ds : List D} (h : sq d = some ds) : tupL [d] = some (.tup ds) := by
  show (match sq d with | some ds => some (D.tup ds) | none => none) = _
  rw [h]
theorem ixD_sq {d e : D} {ds : List D} {i : Int} (h : sq d = some ds) (h2 : atI ds i = some e) : ixD d (.int i) = some e := by
  unfold ixD
  rw [h]
  exact h2
theorem isi_ty {T : String} {d : D} {n : String} {b : Bool} (h : kindD d = some (.inl n)) (h2 : kitB n T = some b) : isiD (tabTy T) d = some (.bl b) := by
  unfold isiD
  rw [h]
  show (kitB n T).map D.bl = _
  rw [h2]
  rfl
theorem isi_int_int (i : Int) : isiD (tabTy "int") (.int i) = some (.bl true) := isi_ty rfl (by decide +kernel)
theorem isi_bool_int (i : Int) : isiD (tabTy "bool") (.int i) = some (.bl false) := isi_ty rfl (by decide +kernel)
theorem isi_tuple_tup (l : List D) : isiD (tabTy "tuple") (.tup l) = some (.bl true) := isi_ty rfl (by decide +kernel)
end FL
namespace FL
open PySem L2
section
variable {α β : Type} {a : α} {ρ : Rho} {c : Nat} {ds : List D} {d : D}
theorem bind_ok {k : α → Rho → RX β} : (RX.ok a ρ).bind k = k a ρ := rfl
theorem bind_ex {k : α → Rho → RX β} : (RX.ex c ds ρ : RX α).bind k = .ex c ds ρ := rfl
theorem stmt_ok {k : α → Rho → RS} : (RX.ok a ρ).stmt k = k a ρ := rfl
theorem stmt_ex {k : α → Rho → RS} : (RX.ex c ds ρ : RX α).stmt k = .ex c ds ρ := rfl
theorem seq_nx {k : Rho → RS} : (RS.nx ρ).seq k = k ρ := rfl
theorem seq_rt {k : Rho → RS} : (RS.rt d).seq k = .rt d := rfl
theorem seq_ex {k : Rho → RS} : (RS.ex c ds ρ).seq k = .ex c ds ρ := rfl
theorem seq_bk {k : Rho → RS} : (RS.bk ρ).seq k = .bk ρ := rfl
theorem seq_ct {k : Rho → RS} : (RS.ct ρ).seq k = .ct ρ := rfl
theorem fgt_nx {l : List Nat} : (RS.nx ρ).fgt l = .nx (fgt l ρ) := rfl
theorem fgt_bk {l : List Nat} : (RS.bk ρ).fgt l = .bk (fgt l ρ) := rfl
theorem fgt_ct {l : List Nat} : (RS.ct ρ).fgt l = .ct (fgt l ρ) := rfl
theorem fgt_rt {l : List Nat} : (RS.rt d).fgt l = .rt d := rfl
theorem fgt_ex {l : List Nat} : (RS.ex c ds ρ).fgt l = .ex c ds ρ := rfl
theorem out_nx : (RS.nx ρ).out = .rt .non := rfl
theorem out_rt : (RS.rt d).out = .rt d := rfl
theorem out_ex : (RS.ex c ds ρ).out = .ex c ds := rfl
theorem andB_tt {k : Option D} : andB (.bl true) k = k := rfl
theorem andB_ff {k : Option D} : andB (.bl false) k = some (.bl false) := rfl
theorem andB_some {p q : Bool} : andB (.bl p) (some (.bl q)) = some (.bl (p && q)) := by cases p <;> rfl
theorem orB_tt {k : Option D} : orB (.bl true) k = some (.bl true) := rfl
theorem orB_ff {k : Option D} : orB (.bl false) k = k := rfl
theorem orB_some {p q : Bool} : orB (.bl p) (some (.bl q)) = some (.bl (p || q)) := by cases p <;> rfl
theorem andX_tt {k : RX D} : andX (.bl true) k ρ = k := rfl
theorem andX_ff {k : RX D} : andX (.bl false) k ρ = .ok (.bl false) ρ := rfl
theorem andX_some {p q : Bool} : andX (.bl p) (.ok (.bl q) ρ) ρ = .ok (.bl (p && q)) ρ := by cases p <;> rfl
theorem orX_tt {k : RX D} : orX (.bl true) k ρ = .ok (.bl true) ρ := rfl
theorem orX_ff {k : RX D} : orX (.bl false) k ρ = k := rfl
theorem orX_some {p q : Bool} : orX (.bl p) (.ok (.bl q) ρ) ρ = .ok (.bl (p || q)) ρ := by cases p <;> rfl
theorem itAnd {p q : Bool} : (if p = true then some q else some false) = some (p && q) := by cases p <;> rfl
theorem itOr {p q : Bool} : (if p = true then some true else some q) = some (p || q) := by cases p <;> rfl
theorem itAndX {p q : Bool} : (if p = true then RX.ok q ρ else RX.ok false ρ) = RX.ok (p && q) ρ := by cases p <;> rfl
theorem itOrX {p q : Bool} : (if p = true then RX.ok true ρ else RX.ok q ρ) = RX.ok (p || q) ρ := by cases p <;> rfl
theorem opt_some : opt (some d) ρ = .ok d ρ := rfl
theorem optL_some : optL (some ds) ρ = .ok ds ρ := rfl
end
end FL

set_option Elab.async false
set_option linter.all false
set_option maxRecDepth 100000
namespace FL
open PySem L2
open PyProof.Rows (envOfC)
noncomputable section
/-! ### own classes -/
/-- what a class of the program has: its name, its fields in the order in which __init__ stores them -/
structure ClsT (K : PySem.W.Frag) (mg : Str → Option Value) (cl : Tb) (c : Nat) (nm : Str) (fl : List Str) : Prop where
  mgC : mg nm = some (.ref (cl c).at_)
  fse : (cl c).fs = fl
  cls : Cls K (cl c).at_
  no : ∀ f ∈ fl, NoAttr K (cl c).at_ f
  ins : InsTy K (cl c).at_
  fst : PySem.W.selfFirst K (cl c).at_ = true
  kit : PySem.W.kitOne K (.ref (cl c).at_) (.ref (cl c).at_) = some true
structure FldOk (K : PySem.W.Frag) (cl : Tb) (c i : Nat) (f : Str) : Prop where
  cls : Cls K (cl c).at_
  no : NoAttr K (cl c).at_ f
  at_ : (cl c).fs[i]? = some f
  fst : ∀ j, j < i → (cl c).fs[j]? ≠ some f
theorem ClsT.fld {K : PySem.W.Frag} {mg : Str → Option Value} {cl : Tb} {c : Nat} {nm f : Str} {fs : List Str} {i : Nat} (T : ClsT K mg cl c nm fs) (h : fs[i]? = some f) (h2 : (fs.take i).contains f = false) : FldOk K cl c i f := by
  refine ⟨T.cls, T.no f (List.mem_of_getElem? h), by rw [T.fse]; exact h, fun j hj e => ?_⟩
  rw [T.fse] at e
  have : f ∈ fs.take i := List.mem_of_getElem? (i := j) (by rw [List.getElem?_take]; rw [if_pos hj]; exact e)
  rw [List.contains_iff_mem.mpr this] at h2
  cases h2
theorem zip_lookup : ∀ {fs : List Str} {i : Nat} {f : Str} (xs : List V), fs[i]? = some f → (∀ j, j < i → fs[j]? ≠ some f) → (fs.zip xs).lookup f = xs[i]?
  | [], _, _, _, h, _ => by simp at h
  | g :: fs, i, f, [], h, _ => by simp
  | g :: fs, 0, f, x :: xs, h, _ => by
    have e : g = f := by simpa using h
    subst e
    simp
  | g :: fs, i + 1, f, x :: xs, h, h2 => by
    have ne : ¬ f = g := fun e => h2 0 (Nat.succ_pos _) (by simp [e])
    have hb : (f == g) = false := by simpa using ne
    rw [List.zip_cons_cons, List.lookup_cons, hb]
    simpa using zip_lookup xs (i := i) (by simpa using h) fun j hj e => h2 (j + 1) (by omega) (by simpa using e)
theorem zip_none : ∀ {fs : List Str} {f : Str} (xs : List V), f ∉ fs → (fs.zip xs).lookup f = none
  | [], f, xs, _ => by simp
  | g :: fs, f, [], _ => by simp
  | g :: fs, f, x :: xs, h => by
    have hb : (f == g) = false := by
      have : ¬ f = g := fun e => h (by rw [e]; exact List.mem_cons_self)
      simpa using this
    rw [List.zip_cons_cons, List.lookup_cons, hb]
    exact zip_none xs fun m => h (List.mem_cons_of_mem _ m)
/-- a field stored: a new one, an old one -/
theorem putF_zip : ∀ {fs : List Str} {i : Nat} {f : Str} {y : V} {xs : List V}, fs[i]? = some f → (∀ j, j < i → fs[j]? ≠ some f) → i ≤ xs.length → putF f y (fs.zip xs) = fs.zip (if i < xs.length then xs.set i y else xs ++ [y]) ∨ xs.length > fs.length
  | [], _, _, _, _, h, _, _ => by simp at h
  | g :: fs, 0, f, y, [], h, _, _ => by
    have e : g = f := by simpa using h
    subst e
    left; simp [putF]
  | g :: fs, i + 1, f, y, [], h, _, hl => by simp at hl
  | g :: fs, 0, f, y, x :: xs, h, _, _ => by
    have e : g = f := by simpa using h
    subst e
    left; simp [putF]
  | g :: fs, i + 1, f, y, x :: xs, h, h2, hl => by
    have ne : ¬ g = f := fun e => h2 0 (Nat.succ_pos _) (by simp [e])
    rcases putF_zip (fs := fs) (i := i) (f := f) (y := y) (xs := xs) (by simpa using h) (fun j hj e => h2 (j + 1) (by omega) (by simpa using e)) (by simpa using hl) with q | q
    · left
      rw [List.zip_cons_cons]
      show (if g = f then _ else (g, x) :: putF f y (fs.zip xs)) = _
      rw [if_neg ne, q]
      by_cases hi : i < xs.length
      · rw [if_pos hi, if_pos (by simpa using hi)]; simp
      · rw [if_neg hi, if_neg (by simpa using hi)]; simp
    · right; simp; omega

section
variable {X : Cx} {cl : Tb} {W : WX'} {K : PySem.W.Frag}
variable {G : Gh} {F H F' H' : Hp} {R B A A' : Fp} {σ : St} {ρ ρ' : Rho} {pos : Pos}

/-- a field's value -/
def qFld (c i : Nat) (a : Rho → Option D) : Rho → Option D := fun ρ => (a ρ).bind fun x => match x with
  | .obj c' ds => if c' = c then ds[i]? else none
  | .mobj c' ds => if c' = c then ds[i]? else none
  | _ => none
theorem fq_fld {e : Expr} {f : Str} {m : Rho → Option D} (c i : Nat) (ok : FldOk X.K cl c i f) (h : FQ X cl e m) (hb : attributeBase e f X.env (eval e X.env) = eval e X.env) : FQ X cl (.Attribute e f pos) (qFld c i m) := PE_imp (pe_fld h hb) fun σ H Q q => by
  obtain ⟨G, F, ρ, A, R, st, en, p⟩ := q
  refine ⟨G, F, ρ, A, R, st, en, ?_⟩
  unfold qFld at p
  cases hm : m ρ with
  | none => rw [hm] at p; exact p.elim
  | some x =>
    rw [hm, Option.bind_some] at p
    intro v o
    cases x with
    | obj c' ds =>
      by_cases hc : c' = c
      · subst hc
        simp only [if_true] at p
        obtain ⟨a, dx, xs, rfl, q, z, r⟩ := o
        cases hd : ds[i]? with
        | none => rw [hd] at p; exact p.elim
        | some d =>
          rw [hd] at p
          obtain ⟨w, hw, ow⟩ := r.get hd
          exact ⟨a, _, dx, _, w, rfl, st.sub _ _ q, ok.cls, ok.no, (zip_lookup xs ok.at_ ok.fst).trans hw, p w ow⟩
      · simp only [hc, if_false] at p
    | mobj c' ds =>
      by_cases hc : c' = c
      · subst hc
        simp only [if_true] at p
        obtain ⟨a, dx, xs, B, ⟨rfl, _⟩, n, q, z, r, s⟩ := o
        cases hd : ds[i]? with
        | none => rw [hd] at p; exact p.elim
        | some d =>
          rw [hd] at p
          obtain ⟨w, hw, ow⟩ := r.get hd
          exact ⟨a, _, dx, _, w, rfl, q, ok.cls, ok.no, (zip_lookup xs ok.at_ ok.fst).trans hw, p w (ow.up fun x => by have := s x; omega)⟩
      · simp only [hc, if_false] at p
    | _ => exact p.elim

/-- self.f = e, in __init__: slot i holds self, j is f's place -/
def sFld (i c j : Nat) (m : Rho → RX D) : Rho → RS := fun ρ => (m ρ).stmt fun d ρ1 => match ρ1[i]? with
  | some (some (.mobj c' ds)) => if c' = c ∧ j ≤ ds.length then .nx (ρ1.set i (some (.mobj c (if j < ds.length then ds.set j d else ds ++ [d])))) else .bad
  | _ => .bad
theorem Owns.set {K : PySem.W.Frag} {cl : Tb} {F H : Hp} : ∀ {ds : List D} {vs : List V} {A B : Fp} {d : D} {v : V} (i : Nat), Owns K cl F H ds vs A → Own K cl F H d v B → Owns K cl F H (ds.set i d) (vs.set i v) (fun x => A x + B x)
  | [], vs, A, B, d, v, i, h, o => by
    have e : vs = [] := h
    subst e; exact rfl
  | d' :: ds, vs, A, B, d, v, 0, h, o => by
    obtain ⟨v', r, B', C', es, p, q, s⟩ := h
    subst es
    exact ⟨v, r, B, C', rfl, o, q, fun x => by have := s x; show B x + C' x ≤ A x + B x; omega⟩
  | d' :: ds, vs, A, B, d, v, i + 1, h, o => by
    obtain ⟨v', r, B', C', es, p, q, s⟩ := h
    subst es
    exact ⟨v', _, B', fun x => C' x + B x, rfl, p, Owns.set i q o, fun x => by have := s x; show B' x + (C' x + B x) ≤ A x + B x; omega⟩
theorem sn_set {K : PySem.W.Frag} {cl : Tb} {F H : Hp} {ds : List D} {vs : List V} {A B : Fp} {d : D} {v : V} {j : Nat} (h : Owns K cl F H ds vs A) (o : Own K cl F H d v B) : Owns K cl F H (if j < vs.length then ds.set j d else ds ++ [d]) (if j < vs.length then vs.set j v else vs ++ [v]) (fun x => A x + B x) := by
  split
  · exact h.set j o
  · exact h.snoc o
theorem fs_fld {i c j : Nat} {x f : Str} {p : Pos} {pos' : Pos} {e : Expr} {m : Rho → RX D} (ok : FldOk X.K cl c j f) (hl : (cl c).fs.length < 1000) (hx : PE X (.Name x p) (tVar i)) (h : FE X cl W e m)
    (hs : swapsWith e (some (.Attribute (.Name x p) f pos')) pos.line X.env = pure false := by rfl) : FS X cl W (.Assign [.Attribute (.Name x p) f pos'] e pos) (sFld i c j m) := PS_imp (ps_fld hx h hs) fun E σ H q => by
  obtain ⟨G, F, ρ, A, R, st, en, p⟩ := q
  refine ⟨G, F, ρ, A, R, st, en, Pst.stmt p fun d ρ1 v1 F1 H1 A1 B1 e1 o1 p1 => ?_⟩
  split at p1
  · rename_i c' ds hρ
    by_cases hc : c' = c ∧ j ≤ ds.length
    · rw [if_pos hc] at p1
      obtain ⟨rfl, hj⟩ := hc
      obtain ⟨w, B2, C2, hw, o2, en2, hs2⟩ := e1.en.get hρ
      obtain ⟨a, dx, xs, B3, ⟨rfl, ea⟩, fa, hH, hz, os, hs3⟩ := o2
      have hds : ds.length = xs.length := Owns.length os
      refine ⟨.ref a, hw, a, _, dx, _, rfl, hH, ok.cls, ok.no, by rw [List.length_zip]; omega, ?_⟩
      have hput : putF f v1 ((cl c').fs.zip xs) = (cl c').fs.zip (if j < xs.length then xs.set j v1 else xs ++ [v1]) := by
        rcases putF_zip (y := v1) (xs := xs) ok.at_ ok.fst (by omega) with q | q
        · exact q
        · omega
      rw [hput]
      have hB2 : 0 < B2 a := by have := hs3 a; rw [one_self] at this; omega
      have hA1 : 0 < A1 a := by have := hs2 a; omega
      have nd := e1.st.nd
      have st2 := upd_own (o := .ins (cl c').at_ dx ((cl c').fs.zip (if j < xs.length then xs.set j v1 else xs ++ [v1]))) e1.st (show 0 < A1 a + (B1 a + R a) by omega)
      have off : ∀ b, 0 < C2 b + (B3 b + (B1 b + R b)) → b ≠ a := fun b hb e => by
        subst e
        have h1 : A1 b + (B1 b + R b) ≤ 1 := nd b
        have h2 := hs2 b
        have h3 := hs3 b
        rw [one_self] at h3
        omega
      have own1 : ∀ b, 0 < A1 b + (B1 b + R b) → F1 b = none := fun b hb => (e1.st.own b hb).1
      have en3 : EnvR X.K cl F1 (upd H1 a (.ins (cl c').at_ dx ((cl c').fs.zip (if j < xs.length then xs.set j v1 else xs ++ [v1])))) (ρ1.set i none) σ C2 := en2.mono Le.refl (fun b hb => ⟨upd_ne (off b (by omega)), own1 b (by have := hs2 b; omega)⟩) fun _ => Nat.le_refl _
      have os3 : Owns X.K cl F1 (upd H1 a (.ins (cl c').at_ dx ((cl c').fs.zip (if j < xs.length then xs.set j v1 else xs ++ [v1])))) ds xs B3 := os.mono Le.refl (fun b hb => ⟨upd_ne (off b (by omega)), own1 b (by have := hs2 b; have := hs3 b; omega)⟩) fun _ => Nat.le_refl _
      have o3 : Own X.K cl F1 (upd H1 a (.ins (cl c').at_ dx ((cl c').fs.zip (if j < xs.length then xs.set j v1 else xs ++ [v1])))) d v1 B1 := o1.mono Le.refl (fun b hb => ⟨upd_ne (off b (by omega)), own1 b (by omega)⟩) fun _ => Nat.le_refl _
      have hjf : j < (cl c').fs.length := (List.getElem?_eq_some_iff.mp ok.at_).1
      have ov : Own X.K cl F1 (upd H1 a (.ins (cl c').at_ dx ((cl c').fs.zip (if j < xs.length then xs.set j v1 else xs ++ [v1])))) (.mobj c' (if j < ds.length then ds.set j d else ds ++ [d])) (.ref a) (fun z => one a z + (B3 z + B1 z)) := by
        refine ⟨a, dx, _, fun z => B3 z + B1 z, ⟨rfl, ea⟩, fa, upd_same, ?_, ?_, fun _ => Nat.le_refl _⟩
        · split
          · rw [List.length_set]; exact hz
          · rw [List.length_append, List.length_singleton]; omega
        · rw [hds]
          exact sn_set os3 o3
      have en4 := en3.put (i := i) ov
      rw [List.set_set] at en4
      have hσ : σ.set i (some (.ref a)) = σ := by
        obtain ⟨hl, hg⟩ := List.getElem?_eq_some_iff.mp hw
        rw [← hg]
        exact List.set_getElem_self hl
      rw [hσ] at en4
      refine p1 σ F1 _ _ ⟨Le.refl, fun b hb => upd_ne (off b (by omega)), st2.less fun z => ?_, en4⟩
      have h2 := hs2 z
      have h3 := hs3 z
      show one a z + (B3 z + B1 z) + C2 z + (zf z + R z) ≤ A1 z + (B1 z + R z)
      unfold zf
      omega
    · rw [if_neg hc] at p1; exact p1.elim
  · exact p1.elim

/-! ### another place of self -/
def Tb.at' (cl : Tb) (x : Addr) : Tb := { cl with sf := x }
mutual
theorem Own.tb {x : Addr} : ∀ {d : D} {v : V}, Own K cl F H d v zf → Own K (cl.at' x) F H d v zf
  | .non, _, h => h
  | .bl _, _, h => h
  | .int _, _, h => h
  | .str _, _, h => h
  | .tup ds, v, h => by obtain ⟨a, xs, e, q, r⟩ := h; exact ⟨a, xs, e, q, Owns.tb r⟩
  | .lst ds, v, h => by obtain ⟨a, xs, e, q, r⟩ := h; exact ⟨a, xs, e, q, Owns.tb r⟩
  | .vec ds, v, h => by
    obtain ⟨a, xs, B, e, n, q, r, s⟩ := h
    have := s a; rw [one_self] at this; unfold zf at this; omega
  | .obj c ds, v, h => by obtain ⟨a, dx, xs, e, q, z, r⟩ := h; exact ⟨a, dx, xs, e, q, z, Owns.tb r⟩
  | .mobj c ds, v, h => by
    obtain ⟨a, dx, xs, B, e, n, q, z, r, s⟩ := h
    have := s a; rw [one_self] at this; unfold zf at this; omega
  | .exc c ds, v, h => by obtain ⟨xs, e, q, z, r⟩ := h; exact ⟨xs, e, q, z, Owns.tb r⟩
  | .dT ks ds, v, h => by obtain ⟨a, xs, e, q, z, r⟩ := h; exact ⟨a, xs, e, q, z, Owns.tb r⟩
  | .dK ks ds, v, h => by obtain ⟨a, xs, e, q, z, r⟩ := h; exact ⟨a, xs, e, q, z, Owns.tb r⟩
  | .vT ks ds, v, h => by
    obtain ⟨a, xs, B, e, n, q, z, r, s⟩ := h
    have := s a; rw [one_self] at this; unfold zf at this; omega
  | .vK ks ds, v, h => by
    obtain ⟨a, xs, B, e, n, q, z, r, s⟩ := h
    have := s a; rw [one_self] at this; unfold zf at this; omega
  | .val _, _, h => h
theorem Owns.tb {x : Addr} : ∀ {ds : List D} {vs : List V}, Owns K cl F H ds vs zf → Owns K (cl.at' x) F H ds vs zf
  | [], _, h => h
  | d :: ds, vs, h => by
    obtain ⟨v, r, B, C, e, p, q, s⟩ := h
    exact ⟨v, r, zf, zf, e, Own.tb (p.up fun x => by have := s x; omega), Owns.tb (q.up fun x => by have := s x; omega), fun _ => Nat.le_refl _⟩
end
theorem Own.untb {x : Addr} {d : D} {v : V} (h : Own K (cl.at' x) F H d v zf) : Own K cl F H d v zf := Own.tb (cl := cl.at' x) (x := cl.sf) h
theorem Owns.untb {x : Addr} {d : List D} {v : List V} (h : Owns K (cl.at' x) F H d v zf) : Owns K cl F H d v zf := Owns.tb (cl := cl.at' x) (x := cl.sf) h

/-! ### an instance is made -/
/-- what __init__ makes of data: the fields -/
def runI (c np nN : Nat) (b : Rho → RS) (ds : List D) : RF := if ds.length = np then
    match b (some (.mobj c []) :: (ds.map some ++ List.replicate (nN - 1 - np) none)) with
    | .nx ρ => (match (ρ[0]? : Option (Option D)) with | some (some (D.mobj c' es)) => if c' = c then .rt (.obj c (D.frzs es)) else .bad | _ => .bad)
    | .ex c' es _ => .ex c' es
    | _ => .bad
  else .bad
def del' (H : Hp) (x : Addr) : Hp := fun a => if a = x then none else H a
/-- the promise of an __init__ -/
def spI (K : PySem.W.Frag) (cl : Tb) (c n : Nat) (m : List D → RF) : Sp := fun vs H Q E => vs.length = n + 1 ∧ ∃ x dx vs' F ds, vs = .ref x :: vs' ∧ H x = some (.ins (cl c).at_ dx []) ∧ F x = none ∧ Le F H ∧ Owns K cl F H ds vs' zf ∧
  match m ds with
  | .rt d => ∀ F' H', Le F F' → (∀ a o, a ≠ x → H a = some o → H' a = some o) → Sta ⟨del' H x, F⟩ F' H' zf → Own K cl F' H' d (.ref x) zf → Q .non H'
  | .ex c' es => ∀ u d F' H', Le F F' → (∀ a o, a ≠ x → H a = some o → H' a = some o) → Sta ⟨del' H x, F⟩ F' H' zf → ExR K cl F' c' es u d → E u d H'
  | .bad => False
theorem ExR.untb {x : Addr} {c : Nat} {ds : List D} {v : Value} {d : Option Addr} (h : ExR K (cl.at' x) F c ds v d) : ExR K cl F c ds v d := by
  obtain ⟨e, dd, xs, e2, e3, o⟩ := h
  exact ⟨e, dd, xs, e2, e3, o.untb⟩
theorem fn_I {P : Program} {w : World} {K : PySem.W.Frag} {mg : Str → Option Value} {base : Heap} {x qual : Str} {st : Stmt} {f : Addr} {fd : FuncData} {N ps : List Str} {k n nN c : Nat} {b : Rho → RS}
    (Fn : Fun K x qual st f fd) (S : FnScope N ps (defScope st)) (hn : n + 1 = ps.length) (hN : nN = N.length)
    (hb : ∀ (sf : Addr) (cdv : Value) (A : Around) (outer : List Env) (s : Shared) (H : Hp) (E : XK), Room k (A.deeper (envOfC qual (defScope st) s.heap.objs.size f cdv)) →
      FSs (cxOf (L2.CX P w) P w K mg base N qual (defScope st) f cdv A outer s H E) (cl.at' sf) (fun c d _ H => E c d H) (defBody st) b) :
    FnOk P w K mg base (L2.CX P w) (k + 1) f fd ps (spI K cl c n (runI c n nN b)) := by
  refine Fn.okX S (fun vs H Q E h => h.1.trans hn) fun cdv A outer s H vs Q E hr h => ?_
  obtain ⟨hl, x, dx, vs', F, ds, rfl, hx, fx, le, os, p⟩ := h
  refine ⟨_, hb x cdv A outer s H E hr, ?_⟩
  have hds : ds.length = vs'.length := Owns.length os
  have hl' : vs'.length = n := by simpa using hl
  have st0 : Sta ⟨del' H x, F⟩ F H (one x) := by
    refine ⟨le, fun a o e => ?_, Le.refl, fun a o e => .inl e, fun a ha => ?_, fun a => ?_, fun a xs ha => ?_⟩
    · have e' : (if a = x then none else H a) = some o := e
      split at e'
      · cases e'
      · exact e'
    · unfold one at ha
      by_cases h : a = x
      · subst h; exact ⟨fx, by show (if a = a then none else H a) = none; simp, _, hx⟩
      · rw [if_neg h] at ha; omega
    · unfold one; split <;> omega
    · unfold one at ha
      by_cases h : a = x
      · subst h; rw [hx]; intro e; cases e
      · rw [if_neg h] at ha; omega
  have slots : EnvR K (cl.at' x) F H (some (.mobj c []) :: (ds.map some ++ List.replicate (nN - 1 - n) none)) (L2.start N (.ref x :: vs')) (one x) := by
    have e1 : L2.start N (V.ref x :: vs') = some (.ref x) :: (vs'.map some ++ List.replicate (nN - 1 - n) none) := by
      unfold L2.start
      rw [List.map_cons, List.cons_append, List.length_cons, hl', hN]
      congr 3
      omega
    rw [e1]
    refine ⟨.ref x, _, one x, zf, rfl, ⟨x, dx, [], zf, ⟨rfl, rfl⟩, fx, by simpa [Tb.at'] using hx, by simp, rfl, fun z => by show one x z + zf z ≤ one x z; unfold zf; omega⟩, EnvR.args os.tb (EnvR.none_all _), fun z => by show one x z + zf z ≤ one x z; unfold zf; omega⟩
  refine ⟨⟨del' H x, F⟩, F, _, one x, zf, st0.less fun z => by show one x z + zf z ≤ one x z; unfold zf; omega, slots, ?_⟩
  have keepH : ∀ {F' H' : Hp} {S : Fp}, Sta ⟨del' H x, F⟩ F' H' S → ∀ a o, a ≠ x → H a = some o → H' a = some o := fun {F' H' S} s a o ne e => s.ent a o (by show (if a = x then none else H a) = some o; rw [if_neg ne]; exact e)
  unfold runI at p
  rw [if_pos (hds.trans hl')] at p
  split at p
  · rename_i d heq
    split at heq
    · rename_i ρ hb2
      rw [hb2]
      split at heq
      · rename_i c' es hρ
        by_cases hc : c' = c
        · rw [if_pos hc] at heq
          cases heq
          subst hc
          intro σ F' H' A' e
          obtain ⟨v, B, C, hv, o, _, hs⟩ := e.en.get hρ
          obtain ⟨a, dx', xs, B', ⟨rfl, ea⟩, fa, hH, hz, oo, hs'⟩ := o
          have ea' : a = x := ea
          subst ea'
          -- self is frozen
          have st1 : Sta ⟨del' H a, F⟩ F' H' (fun z => zf z + (B z + zf z)) := e.st.less fun z => by have := hs z; show zf z + (B z + zf z) ≤ A' z + (zf z + zf z); unfold zf; omega
          obtain ⟨le2, st2⟩ := fz_st (B := B) st1
          have ov : Own K (cl.at' a) (fz F' H' B) H' (.obj c' (D.frzs es)) (.ref a) zf := by
            have o1 : Own K (cl.at' a) F' H' (.mobj c' es) (.ref a) B := ⟨a, dx', xs, B', ⟨rfl, rfl⟩, fa, hH, hz, oo, hs'⟩
            exact o1.freeze le2 fun b hb => fz_at hb
          exact p _ H' (e.le.trans le2) (keepH e.st) (st2.less fun z => by show zf z ≤ _; exact Nat.zero_le _) ov.untb
        · rw [if_neg hc] at heq; cases heq
      · cases heq
    · cases heq
    · cases heq
  · rename_i c' es heq
    split at heq
    · split at heq
      · split at heq <;> cases heq
      · cases heq
    · rename_i hb2
      rw [hb2]
      cases heq
      exact fun u d σ F' H' A' e o => p u d F' H' e.le (keepH e.st) (e.st.less fun z => by show zf z ≤ _; exact Nat.zero_le _) o.untb
    · cases heq
  · exact p.elim

/-- a class that can be called: its __init__ is at hand -/
structure MakC (P : Program) (w : World) (K : PySem.W.Frag) (mg : Str → Option Value) (base : Heap) (cl : Tb) (c : Nat) (x : Str) (k n : Nat) (m : List D → RF) (dd : List D) : Prop where
  ex : ∃ (f : Addr) (fd : FuncData) (ps : List Str) (ds : List Value) (dv : List V), FnOk P w K mg base (L2.CX P w) k f fd ps (spI K cl c n m) ∧ mg x = some (.ref (cl c).at_) ∧ Mk K (cl c).at_ f ∧ Binds K fd ps ds ∧ Vals dv ds ∧ ∀ F H, Owns K cl F H dd dv zf
  len : ∀ l, m l ≠ .bad → l.length = n
/-- the reading of C(..) at the caller's slots -/
def tMakeS (C : Addr) (sp : Sp) (dvs : List V) (E : St → XK) (t : TA) : TE := fun σ H Q => t σ H fun vs H1 => ∀ x dx, H1 x = none → H1 dx = none → dx ≠ x →
  sp (.ref x :: (vs ++ dvs)) (upd (upd H1 dx (.own x)) x (.ins C dx [])) (fun v H2 => v = .non ∧ Q (.ref x) H2) (E σ)
theorem run_makeS {CX : CXT} {k : Nat} {f C : Addr} {fd : FuncData} {ps : List Str} {sp : Sp} {dvs : List V} {ds : List Value} {E : St → XK} {pins : List (Addr × Obj)} {σ : St} {H : Hp} {s : Shared} {Q : VK} {us : List Value} {vs : List V} (M : Mk X.K C f) (F : FnOk X.prog X.w X.K X.mg X.base CX k f fd ps sp) (hr : Room (k + 1) X.A) (hb : Binds X.K fd ps ds) (hd : Vals dvs ds)
    (hx : PassesAt CX X σ (E σ)) (I : Inv X pins σ H s) (r : Vals vs us)
    (h : ∀ x dx, H x = none → H dx = none → dx ≠ x → sp (.ref x :: (vs ++ dvs)) (upd (upd H dx (.own x)) x (.ins C dx [])) (fun v H2 => v = .non ∧ Q (.ref x) H2) (E σ)) :
    wpAny (model X.prog X.w) X.A (call (.ref C) us) (EP X pins σ Q) X.xe s := by
  have hq := h (s.heap.objs.size + 1) s.heap.objs.size (I.hok.fresh (Nat.le_succ _)) (I.hok.fresh (Nat.le_refl _)) (Nat.ne_of_lt (Nat.lt_succ_self _))
  have I2 := Inv.made (C := C) I
  have r2 : Vals (V.ref (s.heap.objs.size + 1) :: (vs ++ dvs)) (Value.ref (s.heap.objs.size + 1) :: (us ++ ds)) := .cons rfl (r.append hd)
  have hl : (Value.ref (s.heap.objs.size + 1) :: us ++ ds).length = ps.length := by
    have e := r2.length
    rw [F.len _ _ _ _ hq] at e
    exact e.symm
  refine wpAny_call (make_map (f := f) I.kIn M.makes M.init (beq_iff_eq.mp M.fn) (codeAny_mono (F.run _ X.stack _ _ ⟨Value.ref (s.heap.objs.size + 1) :: us, []⟩ (Value.ref (s.heap.objs.size + 1) :: (us ++ ds)) _ _ (E σ) (hr.make C us [])
    (I2.env0.make C us []) (hb _ (Value.ref (s.heap.objs.size + 1) :: us) I2.kIn hl) r2 hq) fun r s' hq' => ?_))
  cases r with
  | error e => exact hx pins _ _ e s' I2 hq'
  | ok fl =>
    cases fl with
    | ret u =>
      obtain ⟨v, H', I3, rv, ev, q3⟩ := I2.after hq'
      subst ev
      exact ⟨rv, ⟨V.ref (s.heap.objs.size + 1), H', I3, rfl, q3⟩⟩
    | next => exact False.elim hq'
    | brk => exact False.elim hq'
    | cont => exact False.elim hq'
theorem make_imp {c n : Nat} {m : List D → RF} {dd : List D} {dv : List V} {a : Rho → RX (List D)} (hdd : ∀ F H, Owns X.K cl F H dd dv zf) (hlen : ∀ l, m l ≠ .bad → l.length = n) (σ : St) (H : Hp) (Q : VK) (q : tX X.K cl W (rD X.K cl) (eCall m dd a) σ H Q) :
    tMakeS (cl c).at_ (spI X.K cl c n m) dv (WE W) (tX X.K cl W (rL X.K cl) a) σ H Q := by
  obtain ⟨G, F, ρ, A, R, st, en, p⟩ := q
  refine ⟨G, F, ρ, A, R, st, en, Pst.bind p fun xs ρ1 v1 F1 H1 A1 B1 e1 o1 p1 => ?_⟩
  intro x dx nx ndx hne
  obtain ⟨e2, le2⟩ := e1.fz
  have o2 : Owns X.K cl (fz F1 H1 B1) H1 (D.frzs xs) v1 zf := Owns.freeze o1 le2 fun a ha => fz_at ha
  have o3 := Owns.append o2 (hdd (fz F1 H1 B1) H1)
  have e3 : Ev X.K cl G F1 H1 R (fz F1 H1 B1) H1 σ ρ1 A1 zf := ⟨le2, fun _ _ => rfl, e2.st, e2.en⟩
  have fx : fz F1 H1 B1 x = none := by
    cases q : fz F1 H1 B1 x with
    | none => rfl
    | some w => rw [e2.st.sub x w q] at nx; cases nx
  have leU : Le H1 (upd (upd H1 dx (.own x)) x (.ins (cl c).at_ dx [])) := fun a o e => by rw [upd_ne (ne_of_none e nx), upd_ne (ne_of_none e ndx)]; exact e
  -- what __init__ leaves is behind a call
  have after : ∀ {F' H' : Hp}, Le (fz F1 H1 B1) F' → (∀ a o, a ≠ x → upd (upd H1 dx (.own x)) x (.ins (cl c).at_ dx []) a = some o → H' a = some o) → Sta ⟨del' (upd (upd H1 dx (.own x)) x (.ins (cl c).at_ dx [])) x, fz F1 H1 B1⟩ F' H' zf → Ev X.K cl G F1 H1 R F' H' σ ρ1 A1 zf := fun {F' H'} le lh st' => by
    refine e3.call le (fun a o e => lh a o (ne_of_none e nx) (leU a o e)) ⟨st'.sub, fun a o e => lh a o (ne_of_none e nx) (leU a o e), le, fun a o e => ?_, fun a ha => absurd ha (Nat.lt_irrefl _), fun a => Nat.zero_le _, fun a _ ha => absurd ha (Nat.lt_irrefl _)⟩
    rcases st'.fr a o e with z | z | z
    · exact .inl z
    rotate_left
    · exact .inr (.inr z)
    · right; left
      show H1 a = none
      have z' : (if a = x then none else upd (upd H1 dx (.own x)) x (.ins (cl c).at_ dx []) a) = none := z
      split at z'
      · rename_i h; rw [h]; exact nx
      · cases q : H1 a with
        | none => rfl
        | some w => rw [leU a w q] at z'; cases z'
  refine ⟨?_, x, dx, v1 ++ dv, fz F1 H1 B1, D.frzs xs ++ dd, rfl, upd_same, fx, fun a o e => leU a o (e2.st.sub a o e), zero_owns o3 Le.refl, ?_⟩
  · rw [List.length_cons, ← Owns.length o3]
    congr 1
    refine hlen _ fun z => ?_
    simp only [z] at p1
    exact p1
  · cases hm : m (D.frzs xs ++ dd) with
    | rt d =>
      simp only [hm] at p1
      exact fun F' H' le lh st' o => ⟨rfl, p1 (.ref x) F' H' A1 zf (after le lh st') o⟩
    | ex c' es =>
      simp only [hm] at p1
      exact fun u d F' H' le lh st' o => p1 u d F' H' A1 (after le lh st') o
    | bad => simp only [hm] at p1; exact p1.elim
theorem fe_make {c : Nat} {x : Str} {k n : Nat} {m : List D → RF} {dd : List D} {p : Pos} {e : Expr} {es : List Expr} {a : Rho → RX (List D)} (Mc : MakC X.prog X.w X.K X.mg X.base cl c x k n m dd) (hr : Room (k + 1) X.A) (hg : Gl X x) (tk : Takes X W) (ha : FA X cl W (e :: es) a)
    (hdb : (x == ("__debug__" : Str)) = false := by decide) (he : starEach (e :: es) X.env = (false, eval e X.env) :: starEach es X.env := by rfl) (hpl : (backTo pos (starEach es X.env)).any (·.1) = false := by rfl) : FE X cl W (.Call (.Name x p) (e :: es) [] pos) (eCall m dd a) := by
  obtain ⟨⟨f, fd, ps, ds, dv, h1, h2, h3, h4, h5, h6⟩, hl⟩ := Mc
  refine PE_imp (t := tMakeS (cl c).at_ (spI X.K cl c n m) dv (WE W) (tX X.K cl W (rL X.K cl) a)) ⟨fun pins s σ H Q I h => ?_⟩ fun σ H Q q => make_imp h6 hl σ H Q q
  refine wpAny_Call_Name_kw (ld_glob I hg h2 ?_ hdb)
  refine PySem.W.callWith_K (h₀ := X.base) I.ok.mod.kin h3.kp (thn (ha.run pos pins s σ H _ I h) fun us s1 ⟨vs, H1, I1, r, q⟩ => ⟨I1.kIn, ?_⟩) he hpl
  exact run_makeS h3 h1 hr h4 h5 (passAt tk σ) I1 r q

/-! ### methods -/
/-- a method at hand: of the class c, by the name x -/
structure MthC (P : Program) (w : World) (K : PySem.W.Frag) (mg : Str → Option Value) (base : Heap) (cl : Tb) (c : Nat) (x : Str) (k n : Nat) (m : List D → RF) (dd : List D) : Prop where
  ex : ∃ (f : Addr) (fd : FuncData) (ps : List Str) (ds : List Value) (dv : List V), FnOk P w K mg base (L2.CX P w) k f fd ps (spF K cl n m) ∧ Cls K (cl c).at_ ∧ Meth K (cl c).at_ x f ∧ x ∉ (cl c).fs ∧ Binds K fd ps ds ∧ Vals dv ds ∧ ∀ F H, Owns K cl F H dd dv zf
  len : ∀ l, m l ≠ .bad → l.length = n
def isObj' (c : Nat) : D → Bool
  | .obj c' _ => c' == c
  | _ => false
/-- o.m(..): o is quiet -/
def eMth (c : Nat) (m : List D → RF) (dd : List D) (o : Rho → Option D) (a : Rho → RX (List D)) : Rho → RX D := fun ρ => match o ρ with
  | some d => if isObj' c d && d.pure then (a ρ).bind fun ds ρ1 => (match m (d :: (D.frzs ds ++ dd)) with
    | .rt r => .ok r ρ1
    | .ex c' xs => .ex c' xs ρ1
    | .bad => .bad) else .bad
  | none => .bad
def tMethS (C : Addr) (x : Str) (sp : Sp) (dvs : List V) (E : St → XK) (ta : TE) (t : TA) : TE := fun σ H Q => ta σ H fun v H1 => ∃ a dx fs, v = .ref a ∧ H1 a = some (.ins C dx fs) ∧ fs.lookup x = none ∧
  t σ H1 fun vs H2 => sp (v :: (vs ++ dvs)) H2 Q (E σ)
theorem meth_imp {c n : Nat} {x : Str} {m : List D → RF} {dd : List D} {dv : List V} {o : Rho → Option D} {a : Rho → RX (List D)} (hdd : ∀ F H, Owns X.K cl F H dd dv zf) (hlen : ∀ l, m l ≠ .bad → l.length = n) (hx : x ∉ (cl c).fs) (σ : St) (H : Hp) (Q : VK) (q : tX X.K cl W (rD X.K cl) (eMth c m dd o a) σ H Q) :
    tMethS (cl c).at_ x (spF X.K cl n m) dv (WE W) (tQ X.K cl o) (tX X.K cl W (rL X.K cl) a) σ H Q := by
  obtain ⟨G, F, ρ, A, R, st, en, p⟩ := q
  refine ⟨G, F, ρ, A, R, st, en, ?_⟩
  unfold eMth at p
  cases ho : o ρ with
  | none => rw [ho] at p; exact p.elim
  | some d =>
    rw [ho] at p
    intro v ov
    by_cases hc : (isObj' c d && d.pure) = true
    · simp only [hc, if_true] at p
      rw [Bool.and_eq_true] at hc
      obtain ⟨hc1, hp⟩ := hc
      cases d with
      | obj c' ds =>
        have ec : c' = c := by simpa [isObj'] using hc1
        subst ec
        have oz := ov.of_pure (H' := H) hp
        obtain ⟨b, dx, xs, rfl, hb, hz, os⟩ := oz
        refine ⟨b, dx, _, rfl, st.sub _ _ hb, zip_none xs hx, G, F, ρ, A, R, st, en, Pst.bind p fun es ρ1 v1 F1 H1 A1 B1 e1 o1 p1 => ?_⟩
        obtain ⟨e2, le2⟩ := e1.fz
        have o2 : Owns X.K cl (fz F1 H1 B1) H1 (D.frzs es) v1 zf := Owns.freeze o1 le2 fun a ha => fz_at ha
        have o3 := Owns.append o2 (hdd (fz F1 H1 B1) H1)
        have oself : Own X.K cl (fz F1 H1 B1) H1 (.obj c' ds) (.ref b) zf := zero_own ⟨b, dx, xs, rfl, hb, hz, os⟩ (e1.le.trans le2)
        have o4 : Owns X.K cl (fz F1 H1 B1) H1 (.obj c' ds :: (D.frzs es ++ dd)) (.ref b :: (v1 ++ dv)) zf := ⟨.ref b, _, zf, zf, rfl, oself, o3, fun _ => Nat.le_refl _⟩
        have e3 : Ev X.K cl G F1 H1 R (fz F1 H1 B1) H1 σ ρ1 A1 zf := ⟨le2, fun _ _ => rfl, e2.st, e2.en⟩
        refine ⟨?_, fz F1 H1 B1, _, e2.st.sub, o4, ?_⟩
        · rw [← Owns.length o4]
          refine hlen _ fun z => ?_
          simp only [z] at p1
          exact p1
        · cases hm : m (.obj c' ds :: (D.frzs es ++ dd)) with
          | rt d =>
            simp only [hm] at p1
            exact fun v F' H' B le lh st' o => p1 v F' H' A1 B (e3.call le lh st') o
          | ex c xs =>
            simp only [hm] at p1
            exact fun u d F' H' le lh st' o => p1 u d F' H' A1 (e3.call le lh st') o
          | bad => simp only [hm] at p1; exact p1.elim
      | _ => cases hc1
    · simp only [hc] at p; exact p.elim
theorem fe_meth {pl : Sem Bool} {c : Nat} {x : Str} {k n : Nat} {m : List D → RF} {dd : List D} {apos : Pos} {oe e : Expr} {es : List Expr} {o : Rho → Option D} {a : Rho → RX (List D)} (Mc : MthC X.prog X.w X.K X.mg X.base cl c x k n m dd) (hr : Room k X.A) (tk : Takes X W) (ho : FQ X cl oe o) (ha : FA X cl W (e :: es) a)
    (hst : starEach (e :: es) X.env = (false, eval e X.env) :: starEach es X.env := by rfl) (hpl : (backTo pos (starEach es X.env)).any (·.1) = false := by rfl)
    (ht : eval (.Call (.Attribute oe x apos) (e :: es) [] pos) X.env = (do
      let ov ← eval oe X.env
      standAt apos.atName
      let (f, first) ← holding [ov] (getMethod ov x pl)
      callWith pos f first (backTo pos (starEach (e :: es) X.env)) (backToKw pos (keywordEach [] X.env))) := by rfl) : FE X cl W (.Call (.Attribute oe x apos) (e :: es) [] pos) (eMth c m dd o a) := by
  obtain ⟨⟨f, fd, ps, ds, dv, h1, h2, h3, hx, h4, h5, h6⟩, hl⟩ := Mc
  refine PE_imp (t := tMethS (cl c).at_ x (spF X.K cl n m) dv (WE W) (tQ X.K cl o) (tX X.K cl W (rL X.K cl) a)) ⟨fun pins s σ H Q I h => ?_⟩ fun σ H Q q => meth_imp h6 hl hx σ H Q q
  refine PySem.W.methodCall_KW (pl := pl) (thn (ho.run pins s σ H _ I h) fun u s1 ⟨v, H1, I1, rx, b, dx, fs, ex, eb, l, q⟩ => ?_) ht
  subst ex
  obtain rfl : u = Value.ref b := rx
  refine getmeth_ok I1 eb h2 h3 l ?_
  refine PySem.W.callWith_K (first := [.ref b]) (h₀ := X.base) I.ok.mod.kin h3.kp (thn (ha.run pos pins s1 σ H1 _ I1 q) fun us s2 ⟨vs, H2, I2, r, q2⟩ => ⟨I2.kIn, ?_⟩) hst hpl
  exact run_fnSD (us := .ref b :: us) (vs := .ref b :: vs) h1 hr h4 h5 (passAt tk σ) I2 (.cons rfl r) q2
theorem fe_meth0 {pl : Sem Bool} {c : Nat} {x : Str} {k n : Nat} {m : List D → RF} {dd : List D} {apos : Pos} {oe : Expr} {o : Rho → Option D} (Mc : MthC X.prog X.w X.K X.mg X.base cl c x k n m dd) (hr : Room k X.A) (tk : Takes X W) (ho : FQ X cl oe o)
    (ht : eval (.Call (.Attribute oe x apos) [] [] pos) X.env = (do
      let ov ← eval oe X.env
      standAt apos.atName
      let (f, first) ← holding [ov] (getMethod ov x pl)
      callWith pos f first (backTo pos (starEach [] X.env)) (backToKw pos (keywordEach [] X.env))) := by rfl) : FE X cl W (.Call (.Attribute oe x apos) [] [] pos) (eMth c m dd o aNil) := by
  obtain ⟨⟨f, fd, ps, ds, dv, h1, h2, h3, hx, h4, h5, h6⟩, hl⟩ := Mc
  refine PE_imp (t := fun σ H Q => tQ X.K cl o σ H fun v H1 => ∃ a dx fs, v = .ref a ∧ H1 a = some (.ins (cl c).at_ dx fs) ∧ fs.lookup x = none ∧ spF X.K cl n m (v :: dv) H1 Q (WE W σ)) ⟨fun pins s σ H Q I h => ?_⟩ fun σ H Q q => ?_
  · refine PySem.W.methodCall_KW (pl := pl) (thn (ho.run pins s σ H _ I h) fun u s1 ⟨v, H1, I1, rx, b, dx, fs, ex, eb, l, q⟩ => ?_) ht
    subst ex
    obtain rfl : u = Value.ref b := rx
    refine getmeth_ok I1 eb h2 h3 l ?_
    exact PySem.W.callWith_K0 (first := [.ref b]) I1.kIn h3.kp (run_fnSD (us := [.ref b]) (vs := [.ref b]) (E := WE W) h1 hr h4 h5 (passAt tk σ) I1 (.cons rfl .nil) q)
  · have q' := meth_imp h6 hl hx σ H Q q
    obtain ⟨G, F, ρ, A, R, st, en, p⟩ := q'
    refine ⟨G, F, ρ, A, R, st, en, ?_⟩
    split at p
    · intro v ov
      obtain ⟨b, dx, fs, e1, e2, e3, G', F', ρ', A', R', st', en', p'⟩ := p v ov
      exact ⟨b, dx, fs, e1, e2, e3, p' [] F' H A' zf (Ev.self st' en') rfl⟩
    · exact p
end
end
end FL

set_option Elab.async false
set_option linter.all false
set_option maxRecDepth 100000
namespace FL
open PySem L2
noncomputable section
/-! ### ints, pairs -/
def intsD : List D → Option (List Int)
  | [] => some []
  | .int i :: ds => (intsD ds).map (i :: ·)
  | _ => none
theorem intsD_is : ∀ {ds : List D} {ns : List Int}, intsD ds = some ns → ds = ns.map D.int
  | [], ns, h => by cases h; rfl
  | .int i :: ds, ns, h => by
    unfold intsD at h
    cases e : intsD ds with
    | none => rw [e] at h; cases h
    | some l => rw [e] at h; cases h; rw [intsD_is e]; rfl
  | .non :: _, _, h => by cases h
  | .bl _ :: _, _, h => by cases h
  | .str _ :: _, _, h => by cases h
  | .tup _ :: _, _, h => by cases h
  | .lst _ :: _, _, h => by cases h
  | .vec _ :: _, _, h => by cases h
  | .obj _ _ :: _, _, h => by cases h
  | .mobj _ _ :: _, _, h => by cases h
  | .exc _ _ :: _, _, h => by cases h
  | .dT _ _ :: _, _, h => by cases h
  | .vT _ _ :: _, _, h => by cases h
  | .dK _ _ :: _, _, h => by cases h
  | .vK _ _ :: _, _, h => by cases h
  | .val _ :: _, _, h => by cases h
theorem intsD_map : ∀ ns : List Int, intsD (ns.map D.int) = some ns
  | [] => rfl
  | n :: ns => by rw [List.map_cons, intsD, intsD_map ns]; rfl
theorem owns_ints {K : PySem.W.Frag} {cl : Tb} {F H : Hp} : ∀ {ns : List Int} {vs : List V} {A : Fp}, Owns K cl F H (ns.map D.int) vs A → vs = ns.map V.int
  | [], vs, _, o => o
  | n :: ns, vs, A, o => by
    obtain ⟨v, r, B, C, rfl, p, q, s⟩ := o
    have e : v = .int n := p
    rw [e, owns_ints q]; rfl
theorem owns_ints' {K : PySem.W.Frag} {cl : Tb} {F H : Hp} {A : Fp} : ∀ ns : List Int, Owns K cl F H (ns.map D.int) (ns.map V.int) A
  | [] => rfl
  | n :: ns => ⟨.int n, _, zf, A, rfl, rfl, owns_ints' ns, fun _ => by show 0 + _ ≤ _; omega⟩

def mkP (p : Int × Int) : D := .tup [.int p.1, .int p.2]
def pairO : D → Option (Int × Int)
  | .tup [.int i, .int j] => some (i, j)
  | _ => none
theorem pairO_is {d : D} {p : Int × Int} (h : pairO d = some p) : d = mkP p := by
  unfold pairO at h
  split at h
  · cases h; rfl
  · cases h
def pairsD : List D → Option (List (Int × Int))
  | [] => some []
  | d :: ds => (pairO d).bind fun p => (pairsD ds).map (p :: ·)
theorem pairsD_is : ∀ {ds : List D} {ns : List (Int × Int)}, pairsD ds = some ns → ds = ns.map mkP
  | [], ns, h => by cases h; rfl
  | d :: ds, ns, h => by
    unfold pairsD at h
    cases e1 : pairO d with
    | none => rw [e1] at h; cases h
    | some p =>
      rw [e1, Option.bind_some] at h
      cases e : pairsD ds with
      | none => rw [e] at h; cases h
      | some l => rw [e] at h; cases h; rw [pairsD_is e, pairO_is e1]; rfl
theorem pairsD_map : ∀ ns : List (Int × Int), pairsD (ns.map mkP) = some ns
  | [] => rfl
  | n :: ns => by
    rw [List.map_cons, pairsD]
    show (some (n.1, n.2)).bind _ = _
    rw [Option.bind_some, pairsD_map ns]; rfl
def leP (p q : Int × Int) : Bool := decide (p.1 < q.1 ∨ (p.1 = q.1 ∧ p.2 ≤ q.2))
def sortP (ps : List (Int × Int)) : List (Int × Int) := ps.mergeSort leP
theorem leP_trans (a b c : Int × Int) (h1 : leP a b = true) (h2 : leP b c = true) : leP a c = true := by
  unfold leP at *
  rw [decide_eq_true_eq] at *
  omega
theorem leP_total (a b : Int × Int) : (leP a b || leP b a) = true := by
  unfold leP
  rw [Bool.or_eq_true, decide_eq_true_eq, decide_eq_true_eq]
  omega
theorem leP_anti (a b : Int × Int) (h1 : leP a b = true) (h2 : leP b a = true) : a = b := by
  unfold leP at *
  rw [decide_eq_true_eq] at *
  exact Prod.ext (by omega) (by omega)
theorem sortP_pw (ps : List (Int × Int)) : (sortP ps).Pairwise fun a b => leP a b = true := List.pairwise_mergeSort leP_trans leP_total ps
theorem sortP_perm (ps : List (Int × Int)) : (sortP ps).Perm ps := List.mergeSort_perm ps leP
/-- two sorted lists of the same pairs -/
theorem sort_uniq : ∀ {l m : List (Int × Int)}, l.Perm m → l.Pairwise (fun a b => leP a b = true) → m.Pairwise (fun a b => leP a b = true) → l = m := fun p h1 h2 => List.Perm.eq_of_pairwise (fun a b _ _ => leP_anti a b) h1 h2 p

section
variable {X : Cx} {cl : Tb} {W : WX'}
variable {G : Gh} {F H F' H' : Hp} {R B A A' : Fp} {σ : St} {ρ ρ' : Rho} {pos : Pos}

/-! ### sum(xs) -/
def sumL (xs : List D) : Option D := match xs with | [.vec ds] => (intsD ds).map fun ns => .int ns.sum | [.lst ds] => (intsD ds).map fun ns => .int ns.sum | _ => none
theorem d_sum : DoesL X cl sumL (rSum X.K) := fun x d hd G F H S C vx Q st ox k => by
  unfold sumL at hd
  split at hd
  · rename_i ds
    obtain ⟨v, rfl, ov⟩ := owns1 ox
    obtain ⟨a, xs, B, rfl, n, q, r, s⟩ := ov
    cases e : intsD ds with
    | none => rw [e] at hd; cases hd
    | some ns =>
      rw [e] at hd
      cases hd
      rw [intsD_is e] at r
      rw [owns_ints r] at q
      exact ⟨a, ns, rfl, SqL.of q, k _ F H zf Le.refl (fun _ _ => rfl) (st.less fun z => by show zf z + S z ≤ _; unfold zf; omega) rfl⟩
  · rename_i ds
    obtain ⟨v, rfl, ov⟩ := owns1 ox
    obtain ⟨a, xs, rfl, q, r⟩ := ov
    cases e : intsD ds with
    | none => rw [e] at hd; cases hd
    | some ns =>
      rw [e] at hd
      cases hd
      rw [intsD_is e] at r
      rw [owns_ints r] at q
      exact ⟨a, ns, rfl, st.sub.sqL q, k _ F H zf Le.refl (fun _ _ => rfl) (st.less fun z => by show zf z + S z ≤ _; unfold zf; omega) rfl⟩
  · cases hd

/-! ### sorted(..) of pairs: of a list, of a dict's keys -/
theorem pr_own {p : Int × Int} {v : V} {A : Fp} (o : Own X.K cl F H (mkP p) v A) : ∃ t, v = V.ref t ∧ F t = some (.tup [.int p.1, .int p.2]) := by
  obtain ⟨a, xs, rfl, q, r⟩ := o
  have e := owns_ints (ns := [p.1, p.2]) r
  subst e
  exact ⟨a, rfl, q.2 rfl⟩
/-- the tuples of the heap are frozen -/
def ft (F H : Hp) : Hp := fun a => match H a with | some (.tup xs) => some (.tup xs) | _ => F a
theorem ft_at {a : Addr} {xs : List V} (h : H a = some (.tup xs)) : ft F H a = some (.tup xs) := by unfold ft; rw [h]
theorem ft_cases {a : Addr} {o : HO} (e : ft F H a = some o) : (∃ xs, o = .tup xs ∧ H a = some (.tup xs)) ∨ F a = some o := by
  unfold ft at e
  split at e
  · rename_i xs h
    cases e
    exact .inl ⟨xs, rfl, h⟩
  · exact .inr e
theorem ft_st {S : Fp} (st : Sta G F H S) : Le F (ft F H) ∧ Sta G (ft F H) H S := by
  have le : Le F (ft F H) := fun a o e => by
    have h := st.sub a o e
    unfold ft
    split
    · rename_i xs h2
      rw [h] at h2
      exact h2 ▸ rfl
    · exact e
  refine ⟨le, fun a o e => ?_, st.ent, fun a o e => le a o (st.low a o e), fun a o e => ?_, fun a ha => ?_, st.nd, st.nt⟩
  · rcases ft_cases e with ⟨xs, rfl, h⟩ | h
    · exact h
    · exact st.sub a o h
  · rcases ft_cases e with ⟨xs, rfl, h⟩ | h
    · exact .inr (.inr ⟨xs, rfl⟩)
    · exact st.fr a o h
  · obtain ⟨h1, h2, u, h3⟩ := st.own a ha
    refine ⟨?_, h2, u, h3⟩
    cases e : ft F H a with
    | none => rfl
    | some o =>
      rcases ft_cases e with ⟨xs, rfl, h⟩ | h
      · exact absurd h (st.nt a xs ha)
      · rw [h1] at h; cases h

end
/-! the sort itself -/
section
open PySem.Spec PyProof.Rows
variable {X : Cx} {H : Hp} {σ : L2.St}
theorem isPair_uniq {h : Heap} {v : Value} {x y x' y' : Int} (p : Srt.IsPair h v x y) (q : Srt.IsPair h v x' y') : x = x' ∧ y = y' := by
  obtain ⟨a, o, t, u, n, e, ho, hc, hd⟩ := p
  obtain ⟨a', o', t', u', n', e', ho', hc', hd'⟩ := q
  rw [e] at e'; cases e'
  rw [ho] at ho'; cases ho'
  rw [hd] at hd'
  have z : (#[Value.int x t, .int y u] : Array Value) = #[Value.int x' t', .int y' u'] := by injection hd'
  have z2 := congrArg Array.toList z
  simp at z2
  exact ⟨z2.1.1, z2.2.1⟩
/-- which ints a pair holds -/
def kOf (h : Heap) (v : Value) : Int × Int := @dite _ (∃ p : Int × Int, Srt.IsPair h v p.1 p.2) (Classical.propDecidable _) (fun e => Classical.choose e) (fun _ => (0, 0))
theorem kOf_is {h : Heap} {v : Value} {p : Int × Int} (q : Srt.IsPair h v p.1 p.2) : kOf h v = p := by
  have e : ∃ p : Int × Int, Srt.IsPair h v p.1 p.2 := ⟨p, q⟩
  have r : kOf h v = Classical.choose e := dif_pos e
  have s := Classical.choose_spec e
  rw [← r] at s
  obtain ⟨a, b⟩ := isPair_uniq s q
  exact Prod.ext a b
def PairV (K : PySem.W.Frag) (H : Hp) (v : V) (p : Int × Int) : Prop := ∃ t, v = .ref t ∧ H t = some (.tup [.int p.1, .int p.2])
theorem pairV_is {pins : List (Addr × Obj)} {s : Shared} (I : L2.Inv X pins σ H s) {v : V} {u : Value} {p : Int × Int} (h : PairV X.K H v p) (r : RelV v u) : Srt.IsPair s.heap u p.1 p.2 := by
  obtain ⟨t, rfl, q⟩ := h
  cases r
  obtain ⟨its, rv, ⟨o, e, hc, n, hd⟩, _⟩ := I.tuple (SqT.of q)
  obtain ⟨u1, u2, rfl, ri, rj⟩ := rv.two
  obtain ⟨t1, rfl⟩ := ri
  obtain ⟨t2, rfl⟩ := rj
  exact ⟨t, o, t1, t2, n, rfl, e, hc, hd⟩
theorem paired_mem {α β : Type} {P : α → β → Prop} : ∀ {l : List α} {m : List β}, Paired P l m → ∀ x ∈ l, ∃ y ∈ m, P x y
  | _, _, .nil, x, h => by cases h
  | _, _, .cons p t, x, h => by
    rcases List.mem_cons.mp h with e | h
    · subst e; exact ⟨_, List.mem_cons_self, p⟩
    · obtain ⟨y, m, q⟩ := paired_mem t x h
      exact ⟨y, List.mem_cons_of_mem _ m, q⟩
theorem paired_map {α β γ : Type} {P : α → β → Prop} {f : γ → α} {g : γ → β} : ∀ {l : List γ}, (∀ x ∈ l, P (f x) (g x)) → Paired P (l.map f) (l.map g)
  | [], _ => .nil
  | x :: l, h => .cons (h x List.mem_cons_self) (paired_map fun y m => h y (List.mem_cons_of_mem _ m))
theorem paired_eq {α β : Type} {P : α → β → Prop} {f : α → β} : ∀ {l : List α} {m : List β}, Paired P l m → (∀ x ∈ l, ∀ y, P x y → y = f x) → m = l.map f
  | _, _, .nil, _ => rfl
  | _, _, .cons p t, h => by rw [List.map_cons, h _ List.mem_cons_self _ p, ← paired_eq t fun x m => h x (List.mem_cons_of_mem _ m)]
/-- what the sort leaves -/
theorem sort_out {pins : List (Addr × Obj)} {s : Shared} (I : L2.Inv X pins σ H s) {P : V → Int × Int → Prop} (hP : ∀ v p, P v p → PairV X.K H v p) {xs : List V} {us out : List Value} {ps : List (Int × Int)} (rv : Vals xs us) (hx : Paired P xs ps)
    (h1 : SrtO.Srtd (fun v u => SrtO.lexB (kOf s.heap v) (kOf s.heap u)) out) (h2 : out.Perm us) : Vals (out.map backV) out ∧ Paired P (out.map backV) (sortP ps) := by
  obtain ⟨e1, e2⟩ := refs_back rv fun x m => by
    obtain ⟨p, _, q⟩ := paired_mem hx x m
    obtain ⟨t, e, _⟩ := hP _ _ q
    exact ⟨t, e⟩
  have e3 : ∀ u ∈ out, ∃ a, u = Value.ref a := fun u hu => e2 u (h2.mem_iff.mp hu)
  refine ⟨vals_back e3, ?_⟩
  have key : ∀ u ∈ us, P (backV u) (kOf s.heap u) := fun u hu => by
    obtain ⟨a, rfl⟩ := e2 u hu
    have hm : V.ref a ∈ xs := by rw [e1]; exact List.mem_map.mpr ⟨_, hu, rfl⟩
    obtain ⟨p, _, q⟩ := paired_mem hx _ hm
    have ip := pairV_is I (hP _ _ q) (show RelV (V.ref a) (Value.ref a) from rfl)
    rw [kOf_is ip]
    exact q
  have hps : ps = us.map (kOf s.heap) := by
    rw [e1] at hx
    have : ∀ {us : List Value} {ps : List (Int × Int)}, (∀ u ∈ us, ∃ a, u = Value.ref a) → Paired P (us.map backV) ps → ps = us.map (kOf s.heap) := by
      intro us
      induction us with
      | nil => intro ps _ h; cases h; rfl
      | cons u us ih =>
        intro ps hr h
        cases h with
        | cons p t =>
          obtain ⟨a, rfl⟩ := hr u List.mem_cons_self
          rw [List.map_cons, kOf_is (pairV_is I (hP _ _ p) (show RelV (V.ref a) (Value.ref a) from rfl)), ← ih (fun u m => hr u (List.mem_cons_of_mem _ m)) t]
    exact this e2 hx
  have hs : sortP ps = out.map (kOf s.heap) := by
    refine sort_uniq ((sortP_perm ps).trans ?_) (sortP_pw ps) ?_
    · rw [hps]; exact (h2.map _).symm
    · refine List.pairwise_map.mpr (h1.imp fun {x y} z => ?_)
      have z2 := SrtO.lexB_no.mp z
      unfold leP
      rw [decide_eq_true_eq]
      omega
  rw [hs]
  exact paired_map fun u hu => key u (h2.mem_iff.mp hu)
/-- sorted(xs), xs a list of pairs of ints -/
def rSoL (K : PySem.W.Frag) : List V → Hp → VK → Prop := fun vs H Q => ∃ (a : Addr) (xs : List V) (P : V → Int × Int → Prop) (ps : List (Int × Int)), vs = [V.ref a] ∧ SqL K H a xs ∧ (∀ v p, P v p → PairV K H v p) ∧ Paired P xs ps ∧
  ∀ ys p, Paired P ys (sortP ps) → H p = none → Q (.ref p) (upd H p (.lst ys))
theorem cr_soL : CallR X (.builtin "sorted") (rSoL X.K) := by
  intro pins s σ H vs us Q I r h
  obtain ⟨a, xs, P, ps, rfl, hs, hP, hx, q⟩ := h
  obtain ⟨its, rv, hl, hz⟩ := I.list hs
  obtain ⟨u, rfl, ru⟩ := r.one
  obtain rfl : u = Value.ref a := ru
  refine SrtO.sorted_pairsO (k := kOf s.heap) hl.isList (by rw [← rv.length]; exact hz) (fun v hv => ?_) fun h' d out h1 h2 kp hd hn => ?_
  · obtain ⟨e1, e2⟩ := refs_back rv fun x m => by
      obtain ⟨p, _, q⟩ := paired_mem hx x m
      obtain ⟨t, e, _⟩ := hP _ _ q
      exact ⟨t, e⟩
    obtain ⟨t, rfl⟩ := e2 v hv
    have hm : V.ref t ∈ xs := by rw [e1]; exact List.mem_map.mpr ⟨_, hv, rfl⟩
    obtain ⟨p, _, q⟩ := paired_mem hx _ hm
    have ip := pairV_is I (hP _ _ q) (show RelV (V.ref t) (Value.ref t) from rfl)
    rw [kOf_is ip]
    exact ip
  · obtain ⟨n, hn⟩ := hn
    obtain ⟨rv2, hx2⟩ := sort_out I hP rv hx h1 h2.perm
    refine ⟨.ref d, upd H d (.lst (out.map backV)), I.laid (t' := s.toks) kp hd ⟨?_, out, n, rv2, hn⟩, rfl, q _ d hx2 (I.hok.fresh hd)⟩
    have := h2.len
    rw [List.length_map, this, ← rv.length]
    exact hz
/-- sorted(d) of a dict whose keys are pairs of ints -/
def rSoD (K : PySem.W.Frag) : List V → Hp → VK → Prop := fun vs H Q => ∃ (a : Addr) (kvs : List (List Key × V)) (ps : List (Int × Int)), vs = [V.ref a] ∧ Rd H a (.dT kvs) ∧ kvs.map (·.1) = ps.map (fun p => [Sum.inl p.1, Sum.inl p.2]) ∧
  ∀ ys p, Paired (fun v p => ∃ t, v = V.ref t ∧ H t = some (.tup [.int p.1, .int p.2])) ys (sortP ps) → H p = none → Q (.ref p) (upd H p (.lst ys))
theorem keys_pairs {H : Hp} : ∀ {kvs : List (List Key × V)} {xs : List (List Key × Addr × Value)} {ps : List (Int × Int)}, KT H kvs xs → kvs.map (·.1) = ps.map (fun p => [Sum.inl p.1, Sum.inl p.2]) →
    Paired (fun v p => ∃ t, v = V.ref t ∧ H t = some (.tup [.int p.1, .int p.2])) (xs.map fun x => V.ref x.2.1) ps
  | _, _, [], .nil, _ => .nil
  | _, _, p :: ps, .nil, h => by cases h
  | _, _, [], .cons _ _, h => by cases h
  | _, _, p :: ps, .cons (a := kv) (b := x) r t, h => by
    rw [List.map_cons, List.map_cons] at h
    injection h with h1 h2
    refine .cons ⟨x.2.1, rfl, ?_⟩ (keys_pairs t h2)
    have := r.2.1
    rw [h1] at this
    exact this
theorem cr_soD (hc : X.calm = true) : CallR X (.builtin "sorted") (rSoD X.K) := by
  intro pins s σ H xs us Q I r h
  obtain ⟨d, kvs, ps, rfl, hd, hk, q⟩ := h
  obtain ⟨u, rfl, rx⟩ := r.one
  cases rx
  obtain ⟨z, hs, ks, pr, o, es, ep, ho, hx, hdt, he, hn⟩ := (show ObjOk X.prog X.w H s.heap d (.dT kvs) from hd.ok I.hok)
  have l1 : es.size = ks.length := size_of_entries he
  have l2 : kvs.length = ks.length := Paired.length pr
  refine PySem.Calls.call_function_entry PyProof.Rows.kind_sorted PyProof.Rows.plain_sorted PyProof.Rows.entry_sorted (PyProof.Rows.args_sorted1 _) ?_
  unfold Builtin.«sorted»
  refine wpAny_bind (m := checkCount "sorted" 1 1 _) (wpAny_pure ?_)
  refine wpAny_bind (PySem.W.kdu_collect (A := X.A.in1) (kdl_raw hs hx hdt) (I.ok.hd hc) ho (by omega) fun h' tk acc' kp it => ?_)
  have ea : acc'.toList = ks.map fun x => Value.ref x.2.1 := by
    have hl : acc'.toList.length = ks.length := by rw [Array.length_toList, it.1]; exact l1
    apply List.ext_getElem?
    intro j
    rw [List.getElem?_map]
    cases hj : acc'.toList[j]? with
    | none =>
      have h1 := List.getElem?_eq_none_iff.mp hj
      rw [List.getElem?_eq_none (by omega)]
      all_goals rfl
    | some v =>
      obtain ⟨en, hen, hv⟩ := it.2 j v (by rw [← Array.getElem?_toList]; exact hj)
      have qe := entry_at he j
      rw [hen] at qe
      cases hb : ks[j]? with
      | none =>
        rw [hb] at qe
        exact nomatch (show some en = none from qe)
      | some b =>
        rw [hb] at qe
        have e2 : en = entryOfKey (tupleKind (mixKind X.prog X.w)) b := Option.some.inj qe
        rw [hv, e2]
        all_goals rfl
  have I1 : L2.Inv X pins σ H { s with heap := h', toks := tk } := I.kept kp
  have hpr := keys_pairs pr hk
  have rv : Vals (ks.map fun x => V.ref x.2.1) acc'.toList := by
    rw [ea]
    have : ∀ ks : List (List Key × Addr × Value), Vals (ks.map fun x => V.ref x.2.1) (ks.map fun x => Value.ref x.2.1) := fun ks => by
      induction ks with
      | nil => exact .nil
      | cons k ks ih => exact .cons rfl ih
    exact this ks
  have hlen : acc'.toList.length ≤ sizeLine := by rw [ea, List.length_map]; omega
  have hP : ∀ (v : V) (p : Int × Int), (∃ t, v = V.ref t ∧ H t = some (.tup [.int p.1, .int p.2])) → PairV X.K H v p := fun v p h => h
  refine wpAny_bind (wpAny_newList ?_ hlen)
  have hoL : (h'.push (seqObj "list" acc'.toList.toArray 0)).get? h'.objs.size = some (seqObj "list" acc'.toList.toArray 0) := Heap.get?_push_size _ rfl
  show wpAny _ _ _ _ _ { s with heap := h'.push (seqObj "list" acc'.toList.toArray 0), toks := tk }
  refine wpAny_bind (wpAny_holding (wpAny_call_entry PyProof.Rows.slot_list_sort ⟨_, hoL, rfl⟩ PyProof.Rows.entry_list_sort
    (SrtO.list_sort_ord (s := { s with heap := h'.push (seqObj "list" acc'.toList.toArray 0), toks := tk }) (SrtO.swo_lex (kOf h')) hoL hlen (fun h2 => SrtO.pairs_sortableO (by omega) (fun v hv => ?_) fun o' e => ?_) fun out g1 g2 => ⟨_, rfl, ?_⟩) (PyProof.Rows.args_list_sort _)))
  · have hv' : v ∈ ks.map fun x => Value.ref x.2.1 := by rw [← ea]; exact hv
    obtain ⟨x, hx', rfl⟩ := List.mem_map.mp hv'
    obtain ⟨p, _, q⟩ := paired_mem hpr (V.ref x.2.1) (List.mem_map.mpr ⟨x, hx', rfl⟩)
    have ip := pairV_is I1 (hP _ _ q) (show RelV (V.ref x.2.1) (Value.ref x.2.1) from rfl)
    rw [kOf_is ip]
    exact ip.keeps fun b o e _ => Heap.get?_push_of_some _ e
  · have e' : some o' = some (seqObj "list" acc'.toList.toArray 0) := e.symm.trans hoL
    cases e'
    intro c
    exact absurd (Value.type.inj c) (by decide)
  · obtain ⟨rv2, hx2⟩ := sort_out (s := { s with heap := h', toks := tk }) I1 hP rv hpr g1 g2.perm
    obtain ⟨e', he'⟩ := PyProof.Rows.sortedHeap_at (vs := acc'.toList) (out := out.toArray) hoL
    refine wpAny_pure ⟨_, rfl, .ref h'.objs.size, upd H h'.objs.size (.lst (out.map backV)), I1.laid (t' := tk) (fun b u e => ?_) (Nat.le_refl _)
      (show ObjOk X.prog X.w _ _ _ (.lst (out.map backV)) from ⟨by rw [List.length_map, g2.len]; exact hlen, out, e', rv2, he'⟩), rfl, q _ _ hx2 (I1.hok.fresh (Nat.le_refl _))⟩
    have hb : b < h'.objs.size := Heap.lt_size e
    rw [PyProof.Rows.sortedHeap_old (Nat.ne_of_lt hb) (by rw [PyProof.Rows.size_push']; exact Nat.lt_succ_of_lt hb)]
    exact Heap.get?_push_of_some _ e
end

section
variable {X : Cx} {cl : Tb} {W : WX'}
variable {G : Gh} {F H F' H' : Hp} {R B A A' : Fp} {σ : St} {ρ ρ' : Rho} {pos : Pos}
def keyPair : List Key → Option (Int × Int)
  | [Sum.inl i, Sum.inl j] => some (i, j)
  | _ => none
theorem keyPair_is {k : List Key} {p : Int × Int} (h : keyPair k = some p) : k = [Sum.inl p.1, Sum.inl p.2] := by
  unfold keyPair at h
  split at h
  · cases h; rfl
  · cases h
def keyPairs : List (List Key) → Option (List (Int × Int))
  | [] => some []
  | d :: ds => (keyPair d).bind fun p => (keyPairs ds).map (p :: ·)
theorem keyPairs_is : ∀ {ds : List (List Key)} {ns : List (Int × Int)}, keyPairs ds = some ns → ds = ns.map fun p => [Sum.inl p.1, Sum.inl p.2]
  | [], ns, h => by cases h; rfl
  | d :: ds, ns, h => by
    unfold keyPairs at h
    cases e1 : keyPair d with
    | none => rw [e1] at h; cases h
    | some p =>
      rw [e1, Option.bind_some] at h
      cases e : keyPairs ds with
      | none => rw [e] at h; cases h
      | some l => rw [e] at h; cases h; rw [List.map_cons, ← keyPairs_is e, keyPair_is e1]
theorem keyPairs_map : ∀ ns : List (Int × Int), keyPairs (ns.map fun p => [Sum.inl p.1, Sum.inl p.2]) = some ns
  | [] => rfl
  | n :: ns => by
    rw [List.map_cons, keyPairs]
    show (some (n.1, n.2)).bind _ = _
    rw [Option.bind_some, keyPairs_map ns]; rfl
def soL (xs : List D) : Option D := match xs with
  | [.lst ds] => (pairsD ds).map fun ps => .vec ((sortP ps).map mkP)
  | [.vec ds] => (pairsD ds).map fun ps => .vec ((sortP ps).map mkP)
  | [.dT ks _] => (keyPairs ks).map fun ps => .vec ((sortP ps).map mkP)
  | [.vT ks _] => (keyPairs ks).map fun ps => .vec ((sortP ps).map mkP)
  | _ => none
def rSo (K : PySem.W.Frag) : List V → Hp → VK → Prop := fun vs H Q => rSoL K vs H Q ∨ rSoD K vs H Q
theorem cr_so (hc : X.calm = true) : CallR X (.builtin "sorted") (rSo X.K) := by
  intro pins s σ H vs us Q I r h
  rcases h with h | h
  · exact cr_soL pins s σ H vs us Q I r h
  · exact cr_soD hc pins s σ H vs us Q I r h
theorem owns_pairs {ps : List (Int × Int)} : ∀ {vs : List V}, Paired (fun v p => PairV X.K F v p) vs ps → Owns X.K cl F H (ps.map mkP) vs zf := by
  induction ps with
  | nil => intro vs h; cases h; rfl
  | cons p ps ih =>
    intro vs h
    cases h with
    | cons q t =>
      obtain ⟨t', rfl, q⟩ := q
      exact ⟨_, _, zf, zf, rfl, ⟨t', _, rfl, ⟨SqT.of q, fun _ => q⟩, owns_ints' [p.1, p.2]⟩, ih t, fun _ => Nat.le_refl _⟩
theorem pairs_own {ps : List (Int × Int)} : ∀ {vs : List V} {A : Fp}, Owns X.K cl F H (ps.map mkP) vs A → Paired (fun v p => PairV X.K F v p) vs ps := by
  induction ps with
  | nil => intro vs A h; have e : vs = [] := h; subst e; exact .nil
  | cons p ps ih =>
    intro vs A h
    obtain ⟨v, r, B, C, rfl, o, q, s⟩ := h
    obtain ⟨t, e, z⟩ := pr_own o
    exact .cons ⟨t, e, z⟩ (ih q)
theorem paired_imp {α β : Type} {P P' : α → β → Prop} (h : ∀ x y, P x y → P' x y) : ∀ {l : List α} {m : List β}, Paired P l m → Paired P' l m
  | _, _, .nil => .nil
  | _, _, .cons p t => .cons (h _ _ p) (paired_imp h t)
theorem d_so : DoesL X cl soL (rSo X.K) := fun x d hd G F H S C vx Q st ox k => by
  -- a new list of frozen pairs
  have new : ∀ (ps : List (Int × Int)) (F' : Hp), Le F F' → Sta G F' H (fun z => C z + S z) → d = .vec ((sortP ps).map mkP) → ∀ ys p, Paired (fun v q => PairV X.K F' v q) ys (sortP ps) → H p = none → Q (.ref p) (upd H p (.lst ys)) := by
    rintro ps F' le st' rfl ys p hy hp
    obtain ⟨fl, sl, st2⟩ := lay_owned (o := .lst ys) st' hp
    refine k (.ref p) F' _ (one p) le (fun b hb => ?_) (st2.less fun z => by show one p z + S z ≤ one p z + (C z + S z); omega) ⟨p, ys, zf, rfl, fl, upd_same, owns_pairs hy, fun _ => Nat.le_refl _⟩
    obtain ⟨_, _, u, h3⟩ := st.own b (by show 0 < C b + S b; omega)
    exact upd_ne (ne_of_none h3 hp)
  unfold soL at hd
  split at hd
  · rename_i ds
    obtain ⟨v, rfl, ov⟩ := owns1 ox
    obtain ⟨a, xs, rfl, q, r⟩ := ov
    cases e : pairsD ds with
    | none => rw [e] at hd; cases hd
    | some ps =>
      rw [e] at hd
      rw [pairsD_is e] at r
      exact .inl ⟨a, xs, fun v p => PairV X.K F v p, ps, rfl, st.sub.sqL q, fun v p ⟨t, h1, h2⟩ => ⟨t, h1, st.sub _ _ h2⟩, pairs_own r, new ps F Le.refl st (Option.some.inj hd).symm⟩
  · rename_i ds
    obtain ⟨v, rfl, ov⟩ := owns1 ox
    obtain ⟨a, xs, B, rfl, n, q, r, s⟩ := ov
    cases e : pairsD ds with
    | none => rw [e] at hd; cases hd
    | some ps =>
      rw [e] at hd
      rw [pairsD_is e] at r
      exact .inl ⟨a, xs, fun v p => PairV X.K F v p, ps, rfl, SqL.of q, fun v p ⟨t, h1, h2⟩ => ⟨t, h1, st.sub _ _ h2⟩, pairs_own r, new ps F Le.refl st (Option.some.inj hd).symm⟩
  · rename_i ks ds
    obtain ⟨v, rfl, ov⟩ := owns1 ox
    obtain ⟨a, xs, rfl, q, hl, r⟩ := ov
    cases e : keyPairs ks with
    | none => rw [e] at hd; cases hd
    | some ps =>
      rw [e] at hd
      obtain ⟨le, st'⟩ := ft_st st
      refine .inr ⟨a, _, ps, rfl, .inl (st.sub _ _ q), ?_, fun ys p hy hp => new ps _ le st' (Option.some.inj hd).symm ys p (paired_imp (fun v q ⟨t, h1, h2⟩ => ⟨t, h1, ft_at h2⟩) hy) hp⟩
      rw [List.map_fst_zip (Nat.le_of_eq hl), keyPairs_is e]
  · rename_i ks ds
    obtain ⟨v, rfl, ov⟩ := owns1 ox
    obtain ⟨a, xs, B, rfl, n, q, hl, r, s⟩ := ov
    cases e : keyPairs ks with
    | none => rw [e] at hd; cases hd
    | some ps =>
      rw [e] at hd
      obtain ⟨le, st'⟩ := ft_st st
      refine .inr ⟨a, _, ps, rfl, .inl q, ?_, fun ys p hy hp => new ps _ le st' (Option.some.inj hd).symm ys p (paired_imp (fun v q ⟨t, h1, h2⟩ => ⟨t, h1, ft_at h2⟩) hy) hp⟩
      rw [List.map_fst_zip (Nat.le_of_eq hl), keyPairs_is e]
  · cases hd
end
end
end FL

set_option Elab.async false
set_option linter.all false
set_option maxRecDepth 100000
namespace FL
open PySem L2
noncomputable section
/-! ### dicts whose keys are tuples of ints -/
def getT : List (List Key) → List D → List Key → Option D
  | k' :: ks, d :: ds, k => if k' = k then some d else getT ks ds k
  | _, _, _ => none
def hasT (ks : List (List Key)) (k : List Key) : Bool := ks.any fun k' => decide (k' = k)
def putTk (ks : List (List Key)) (k : List Key) : List (List Key) := if hasT ks k = true then ks else ks ++ [k]
def putTz : List (List Key) → List D → List Key → D → List D
  | k' :: ks, d' :: ds, k, d => (if k' = k then d else d') :: putTz ks ds k d
  | _, _, _, _ => []
def putTd (ks : List (List Key)) (ds : List D) (k : List Key) (d : D) : List D := if hasT ks k = true then putTz ks ds k d else ds ++ [d]
def keyD : D → Option Key
  | .int i => some (Sum.inl i)
  | _ => none
def keysD : List D → Option (List Key)
  | [] => some []
  | d :: ds => (keyD d).bind fun k => (keysD ds).map (k :: ·)
/-- the key that a tuple of ints is -/
def keyT : D → Option (List Key)
  | .tup ds => if keyI ds then keysD ds else none
  | _ => none
section
variable {X : Cx} {cl : Tb} {W : WX'}
variable {G : Gh} {F H F' H' : Hp} {R B A A' : Fp} {σ : St} {ρ ρ' : Rho} {pos : Pos}
theorem keysD_own {K : PySem.W.Frag} : ∀ {ds : List D} {k : List Key} {vs : List V} {A : Fp}, keysD ds = some k → Owns K cl F H ds vs A → vs = k.map kV
  | [], k, vs, A, h, o => by cases h; exact o
  | d :: ds, k, vs, A, h, o => by
    obtain ⟨v, r, B, C, rfl, p, q, s⟩ := o
    unfold keysD at h
    cases d with
    | int i =>
      rw [show keyD (.int i) = some (Sum.inl i) from rfl, Option.bind_some] at h
      cases e : keysD ds with
      | none => rw [e] at h; cases h
      | some k' =>
        rw [e] at h
        cases h
        have ev : v = .int i := p
        rw [ev, keysD_own e q]
        rfl
    | _ => cases h
theorem keyT_own {K : PySem.W.Frag} {d : D} {k : List Key} {v : V} {A : Fp} (h : keyT d = some k) (o : Own K cl F H d v A) : ∃ b, v = .ref b ∧ F b = some (.tup (k.map kV)) := by
  unfold keyT at h
  split at h
  · rename_i ds
    split at h
    · rename_i hk
      obtain ⟨a, xs, rfl, q, r⟩ := o
      have e := keysD_own h r
      subst e
      exact ⟨a, rfl, q.2 hk⟩
    · cases h
  · cases h
theorem getT_own {K : PySem.W.Frag} : ∀ {ks : List (List Key)} {ds : List D} {vs : List V} {A : Fp} (k : List Key), Owns K cl F H ds vs A → ks.length = vs.length →
    (∀ d, getT ks ds k = some d → ∃ v, valV (ks.zip vs) k = some v ∧ Own K cl F H d v A) ∧ (getT ks ds k = none → valV (ks.zip vs) k = none)
  | [], ds, vs, A, k, o, h => ⟨fun d e => by simp [getT] at e, fun _ => rfl⟩
  | k' :: ks, [], vs, A, k, o, h => by
    have e : vs = [] := o
    subst e
    cases h
  | k' :: ks, d' :: ds, vs, A, k, o, h => by
    obtain ⟨v, r, B, C, rfl, p, q, s⟩ := o
    unfold getT
    rw [List.zip_cons_cons]
    by_cases e : k' = k
    · rw [if_pos e, valV_pos e]
      exact ⟨fun d hd => by cases hd; exact ⟨v, rfl, p.up fun x => by have := s x; omega⟩, fun z => by cases z⟩
    · rw [if_neg e, valV_neg e]
      obtain ⟨g1, g2⟩ := getT_own (ks := ks) (A := C) k q (by simpa using h)
      exact ⟨fun d hd => by obtain ⟨w, h1, h2⟩ := g1 d hd; exact ⟨w, h1, h2.up fun x => by have := s x; omega⟩, g2⟩
theorem any_mem : ∀ (ks : List (List Key)) (vs : List V) (k : List Key) (h : ks.length = vs.length), ((ks.zip vs).any fun kv => decide (kv.1 = k)) = hasT ks k
  | [], vs, k, _ => rfl
  | k' :: ks, [], k, h => by cases h
  | k' :: ks, v :: vs, k, h => by
    unfold hasT
    rw [List.zip_cons_cons, List.any_cons, List.any_cons, any_mem ks vs k (by simpa using h)]
    rfl
def putTv : List (List Key) → List V → List Key → V → List V
  | k' :: ks, d' :: ds, k, d => (if k' = k then d else d') :: putTv ks ds k d
  | _, _, _, _ => []
theorem putTv_map : ∀ {ks : List (List Key)} {vs : List V} (k : List Key) (v : V), ks.length = vs.length → (ks.zip vs).map (fun kv => if kv.1 = k then (kv.1, v) else kv) = ks.zip (putTv ks vs k v) ∧ (putTv ks vs k v).length = ks.length
  | [], vs, k, v, _ => ⟨rfl, rfl⟩
  | k' :: ks, [], k, v, h => by cases h
  | k' :: ks, w :: vs, k, v, h => by
    obtain ⟨e1, e2⟩ := putTv_map (ks := ks) (vs := vs) k v (by simpa using h)
    unfold putTv
    rw [List.zip_cons_cons, List.map_cons, e1, List.zip_cons_cons]
    refine ⟨?_, by simp [e2]⟩
    by_cases e : k' = k
    · simp only [e, if_true]
    · simp only [e, if_false]
theorem putTz_own {K : PySem.W.Frag} : ∀ {ks : List (List Key)} {ds : List D} {vs : List V} {A : Fp} (k : List Key) {d : D} {v : V}, Owns K cl F H ds vs A → ks.length = vs.length → Own K cl F H d v zf → Owns K cl F H (putTz ks ds k d) (putTv ks vs k v) A
  | [], ds, vs, A, k, d, v, o, h, p => by unfold putTz putTv; exact rfl
  | k' :: ks, [], vs, A, k, d, v, o, h, p => by
    have e : vs = [] := o
    subst e
    cases h
  | k' :: ks, d' :: ds, vs, A, k, d, v, o, h, p => by
    obtain ⟨w, r, B, C, rfl, q, t, s⟩ := o
    unfold putTz putTv
    have ih := putTz_own (ks := ks) k t (by simpa using h) p
    by_cases e : k' = k
    · rw [if_pos e, if_pos e]
      exact ⟨v, _, zf, C, rfl, p, ih, fun x => by have := s x; unfold zf; omega⟩
    · rw [if_neg e, if_neg e]
      exact ⟨w, _, B, C, rfl, q, ih, s⟩
theorem put_own {K : PySem.W.Frag} {ks : List (List Key)} {ds : List D} {vs : List V} {A : Fp} (k : List Key) {d : D} {v : V} (o : Owns K cl F H ds vs A) (h : ks.length = vs.length) (p : Own K cl F H d v zf) :
    ∃ vs', putK (ks.zip vs) k v = (putTk ks k).zip vs' ∧ (putTk ks k).length = vs'.length ∧ Owns K cl F H (putTd ks ds k d) vs' A := by
  unfold putK putTk putTd
  rw [any_mem ks vs k h]
  by_cases e : hasT ks k = true
  · rw [if_pos e, if_pos e, if_pos e]
    obtain ⟨e1, e2⟩ := putTv_map k v h
    exact ⟨_, e1, e2.symm, putTz_own k o h p⟩
  · rw [if_neg e, if_neg e, if_neg e]
    refine ⟨vs ++ [v], ?_, by simp [h], ?_⟩
    · rw [List.zip_append h]; rfl
    · exact (o.snoc p).up fun x => by show A x + zf x ≤ A x; unfold zf; omega

/-- {} -/
theorem fe_dnew : FE X cl W (.Dict [] [] pos) (eC (.vT [] [])) := PE_imp pe_dnewT fun σ H Q q => by
  obtain ⟨G, F, ρ, A, R, st, en, p⟩ := q
  intro a na
  obtain ⟨fa, sa, st2⟩ := lay_owned (o := .dT []) st na
  refine Pst.does p st en (.ref a) F _ (one a) Le.refl (fun b hb => ?_) (st2.less fun z => by show one a z + (A z + R z) ≤ _; exact Nat.le_refl _) ⟨a, [], zf, rfl, fa, upd_same, rfl, rfl, fun _ => Nat.le_refl _⟩
  obtain ⟨_, _, u, h3⟩ := st.own b hb
  exact upd_ne (ne_of_none h3 na)
/-- what a dict's slot holds -/
def dicO : Option (Option D) → Option (List (List Key) × List D)
  | some (some (.vT ks ds)) => some (ks, ds)
  | some (some (.dT ks ds)) => some (ks, ds)
  | _ => none
theorem dic_own {ρ : Rho} {σ : St} {A : Fp} {i : Nat} {ks : List (List Key)} {ds : List D} {S : Fp} (st : Sta G F H (fun x => A x + S x)) (en : EnvR X.K cl F H ρ σ A) (h : dicO ρ[i]? = some (ks, ds)) :
    ∃ a xs B, σ[i]? = some (some (.ref a)) ∧ H a = some (.dT (ks.zip xs)) ∧ ks.length = xs.length ∧ Owns X.K cl F H ds xs B ∧ ∀ x, B x ≤ A x := by
  unfold dicO at h
  split at h
  · rename_i ks' ds' hρ
    cases h
    obtain ⟨v, B, C, hv, o, en', hs⟩ := en.get hρ
    obtain ⟨a, xs, B', rfl, fa, hH, hl, os, hs'⟩ := o
    exact ⟨a, xs, B', hv, hH, hl, os, fun x => by have := hs x; have := hs' x; omega⟩
  · rename_i ks' ds' hρ
    cases h
    obtain ⟨v, B, C, hv, o, en', hs⟩ := en.get hρ
    obtain ⟨a, xs, rfl, fa, hl, os⟩ := o
    exact ⟨a, xs, B, hv, st.sub _ _ fa, hl, os, fun x => by have := hs x; omega⟩
  · cases h
/-- d[k], of a variable; what it holds is plain -/
def eDget (i : Nat) (key : Rho → RX D) : Rho → RX D := fun ρ => match dicO ρ[i]? with
  | some _ => (key ρ).bind fun kd ρ1 => (match dicO ρ1[i]?, keyT kd with
    | some p, some k => (match getT p.1 p.2 k with | some d => if d.pure then .ok d ρ1 else .bad | none => .bad)
    | _, _ => .bad)
  | none => .bad
theorem fe_dget {i k : Nat} {x : Str} {p : Pos} {ie : Expr} {key : Rho → RX D} (hr : Room k X.A) (hx : PE X (.Name x p) (tVar i)) (hk : FE X cl W ie key) (hs : NoSl ie) : FE X cl W (.Subscript (.Name x p) ie pos) (eDget i key) :=
  PE_imp (pe_dget (by have := hr.units; omega) hx hk hs) fun σ H Q q => by
  obtain ⟨G, F, ρ, A, R, st, en, p⟩ := q
  unfold eDget at p
  cases hd : dicO ρ[i]? with
  | none => rw [hd] at p; exact p.elim
  | some kd0 =>
    rw [hd] at p
    obtain ⟨a0, xs0, B0, hσ0, _⟩ := dic_own st en hd
    refine ⟨_, hσ0, G, F, ρ, A, R, st, en, Pst.bind p fun kd ρ1 v1 F1 H1 A1 B1 e1 o1 p1 => ?_⟩
    split at p1
    · rename_i pr kk h1 h2
      obtain ⟨ks, ds⟩ := pr
      obtain ⟨a, xs, B2, hσ, hH, hl, os, hs2⟩ := dic_own (e1.st.less fun x => by show A1 x + R x ≤ A1 x + (B1 x + R x); omega) e1.en h1
      rw [hσ0] at hσ
      cases hσ
      obtain ⟨b, rfl, hb⟩ := keyT_own h2 o1
      obtain ⟨g1, _⟩ := getT_own kk os hl
      cases hg : getT ks ds kk with
      | none => simp only [hg] at p1; exact p1.elim
      | some d =>
        simp only [hg] at p1
        split at p1
        · rename_i hp
          obtain ⟨w, hw, ow⟩ := g1 d hg
          exact ⟨a0, w, rfl, hw ▸ DGet.t hH (e1.st.sub _ _ hb), Pst.ok p1 e1 (ow.of_pure hp)⟩
        · exact p1.elim
    · exact p1.elim
/-- d.get(k, x) -/
def eDget2 (i : Nat) (key : Rho → RX D) (x : Rho → Option D) : Rho → RX D := fun ρ => match dicO ρ[i]? with
  | some _ => (key ρ).bind fun kd ρ1 => (match dicO ρ1[i]?, keyT kd, x ρ1 with
    | some p, some k, some dx => (match getT p.1 p.2 k with | some d => if d.pure then .ok d ρ1 else .bad | none => if dx.pure then .ok dx ρ1 else .bad)
    | _, _, _ => .bad)
  | none => .bad
theorem fe_dget2 {i k : Nat} {x : Str} {p apos : Pos} {ie xe : Expr} {key : Rho → RX D} {xm : Rho → Option D} (hr : Room k X.A) (hx : PE X (.Name x p) (tVar i)) (hk : FE X cl W ie key) (hm : FQ X cl xe xm) (m : M2 X (.Name x p) "get" apos ie xe pos) :
    FE X cl W (.Call (.Attribute (.Name x p) "get" apos) [ie, xe] [] pos) (eDget2 i key xm) :=
  PE_imp (pe_dget2 (by have := hr.units; omega) hx hk hm m) fun σ H Q q => by
  obtain ⟨G, F, ρ, A, R, st, en, p⟩ := q
  unfold eDget2 at p
  cases hd : dicO ρ[i]? with
  | none => rw [hd] at p; exact p.elim
  | some kd0 =>
    rw [hd] at p
    obtain ⟨ks0, ds0⟩ := kd0
    obtain ⟨a0, xs0, B0, hσ0, hH0, _⟩ := dic_own st en hd
    refine ⟨_, hσ0, a0, rfl, .inr ⟨_, .inl hH0⟩, G, F, ρ, A, R, st, en, Pst.bind p fun kd ρ1 v1 F1 H1 A1 B1 e1 o1 p1 => ?_⟩
    have st1 : Sta G F1 H1 (fun x => A1 x + R x) := e1.st.less fun x => by show A1 x + R x ≤ A1 x + (B1 x + R x); omega
    refine ⟨G, F1, ρ1, A1, R, st1, e1.en, ?_⟩
    split at p1
    · rename_i pr kk dx h1 h2 h3
      rw [h3]
      intro vx ox
      obtain ⟨ks, ds⟩ := pr
      obtain ⟨a, xs, B2, hσ, hH, hl, os, hs2⟩ := dic_own st1 e1.en h1
      rw [hσ0] at hσ
      cases hσ
      obtain ⟨b, rfl, hb⟩ := keyT_own h2 o1
      obtain ⟨g1, g2⟩ := getT_own kk os hl
      refine ⟨_, DGet.t hH (e1.st.sub _ _ hb), ?_⟩
      cases hg : getT ks ds kk with
      | none =>
        simp only [hg] at p1
        rw [g2 hg]
        split at p1
        · rename_i hp
          exact Pst.ok p1 e1 (ox.of_pure hp)
        · exact p1.elim
      | some d =>
        simp only [hg] at p1
        obtain ⟨w, hw, ow⟩ := g1 d hg
        rw [hw]
        split at p1
        · rename_i hp
          exact Pst.ok p1 e1 (ow.of_pure hp)
        · exact p1.elim
    · exact p1.elim
/-- d[k] = v: v is frozen -/
def sDput (i : Nat) (key : Rho → RX D) (m : Rho → RX D) : Rho → RS := fun ρ => (m ρ).stmt fun d ρ1 => match dicO ρ1[i]? with
  | some _ => (key ρ1).stmt fun kd ρ2 => (match ρ2[i]?, keyT kd with
    | some (some (.vT ks ds)), some k => if cap ks.length then .nx (ρ2.set i (some (.vT (putTk ks k) (putTd ks ds k d.frz)))) else .bad
    | _, _ => .bad)
  | none => .bad
theorem fs_dput {i k : Nat} {x : Str} {p pos' : Pos} {ie e : Expr} {key m : Rho → RX D} (hr : Room k X.A) (hx : PE X (.Name x p) (tVar i)) (hk : FE X cl W ie key) (h : FE X cl W e m)
    (hs : swapsWith e (some (.Subscript (.Name x p) ie pos')) pos.line X.env = pure false := by rfl) : FS X cl W (.Assign [.Subscript (.Name x p) ie pos'] e pos) (sDput i key m) :=
  PS_imp (ps_dput (by have := hr.units; omega) hx hk h hs) fun E σ H q => by
  obtain ⟨G, F, ρ, A, R, st, en, p⟩ := q
  refine ⟨G, F, ρ, A, R, st, en, Pst.stmt p fun d ρ1 v1 F1 H1 A1 B1 e1 o1 p1 => ?_⟩
  obtain ⟨e2, le2⟩ := e1.fz
  have ov : Own X.K cl (fz F1 H1 B1) H1 d.frz v1 zf := o1.freeze le2 fun a ha => fz_at ha
  have e3 : Ev X.K cl G F1 H1 R (fz F1 H1 B1) H1 σ ρ1 A1 zf := ⟨le2, fun _ _ => rfl, e2.st, e2.en⟩
  cases hd : dicO ρ1[i]? with
  | none => rw [hd] at p1; exact p1.elim
  | some kd0 =>
    rw [hd] at p1
    obtain ⟨a0, xs0, B0, hσ0, _⟩ := dic_own (e3.st.less fun x => by show A1 x + R x ≤ A1 x + (zf x + R x); omega) e3.en hd
    refine ⟨_, hσ0, tX.run0 e3 (Pst.stmt (SPst.next p1 e3) fun kd ρ2 v2 F2 H2 A2 B2 e4 o4 p2 => ?_)⟩
    split at p2
    · rename_i ks ds kk hρ hkk
      split at p2
      · rename_i hc
        obtain ⟨w, B5, C5, hw, o5, en5, hs5⟩ := e4.en.get hρ
        rw [hσ0] at hw
        cases hw
        obtain ⟨a, xs, B3, ev, fa, hH, hl, os, hs3⟩ := o5
        cases ev
        obtain ⟨b, rfl, hb⟩ := keyT_own hkk o4
        have ov2 : Own X.K cl F2 H2 d.frz v1 zf := zero_own ov e4.le
        have hzl : (ks.zip xs).length < sizeLine := by rw [List.length_zip, ← hl, Nat.min_self]; exact cap_line hc
        refine ⟨a0, _, rfl, DPut.t hH (e4.st.sub _ _ hb) hzl, ?_⟩
        obtain ⟨xs', hput, hl', os'⟩ := put_own kk os hl ov2
        rw [hput]
        have hB5 : 0 < B5 a0 := by have := hs3 a0; rw [one_self] at this; omega
        have hA2 : 0 < A2 a0 := by have := hs5 a0; omega
        have nd := e4.st.nd
        have st2 := upd_own (o := .dT ((putTk ks kk).zip xs')) e4.st (show 0 < A2 a0 + (B2 a0 + R a0) by omega)
        have off : ∀ b, 0 < C5 b + (B3 b + (B2 b + R b)) → b ≠ a0 := fun b hb e => by
          subst e
          have h1 : A2 b + (B2 b + R b) ≤ 1 := nd b
          have h2 := hs5 b
          have h3 := hs3 b
          rw [one_self] at h3
          omega
        have own1 : ∀ b, 0 < A2 b + (B2 b + R b) → F2 b = none := fun b hb => (e4.st.own b hb).1
        have en6 : EnvR X.K cl F2 (upd H2 a0 (.dT ((putTk ks kk).zip xs'))) (ρ2.set i none) σ C5 := en5.mono Le.refl (fun b hb => ⟨upd_ne (off b (by omega)), own1 b (by have := hs5 b; omega)⟩) fun _ => Nat.le_refl _
        have os6 : Owns X.K cl F2 (upd H2 a0 (.dT ((putTk ks kk).zip xs'))) (putTd ks ds kk d.frz) xs' B3 := os'.mono Le.refl (fun b hb => ⟨upd_ne (off b (by omega)), own1 b (by have := hs5 b; have := hs3 b; omega)⟩) fun _ => Nat.le_refl _
        have ov3 : Own X.K cl F2 (upd H2 a0 (.dT ((putTk ks kk).zip xs'))) (.vT (putTk ks kk) (putTd ks ds kk d.frz)) (.ref a0) (fun z => one a0 z + B3 z) :=
          ⟨a0, xs', B3, rfl, fa, upd_same, hl', os6, fun _ => Nat.le_refl _⟩
        have en7 := en6.put (i := i) ov3
        rw [List.set_set] at en7
        have hσ : σ.set i (some (.ref a0)) = σ := by
          obtain ⟨hl, hg⟩ := List.getElem?_eq_some_iff.mp hσ0
          rw [← hg]
          exact List.set_getElem_self hl
        rw [hσ] at en7
        refine p2 σ F2 _ _ ⟨Le.refl, fun b hb => upd_ne (off b (by omega)), st2.less fun z => ?_, en7⟩
        have h2 := hs5 z
        have h3 := hs3 z
        show one a0 z + B3 z + C5 z + (zf z + R z) ≤ A2 z + (B2 z + R z)
        unfold zf
        omega
      · exact p2.elim
    · exact p2.elim
end
end
end FL

set_option Elab.async false
set_option linter.all false
set_option maxRecDepth 100000
namespace FL
open PySem L2
noncomputable section
section
variable {X : Cx} {cl : Tb} {W : WX'}
variable {G : Gh} {F H F' H' : Hp} {R B A A' : Fp} {σ : St} {ρ ρ' : Rho} {pos : Pos}
/-- what is not reached -/
def sBad : Rho → RS := fun _ => .bad
theorem fs_bad {s : Stmt} : FS X cl W s sBad := ⟨fun pins s σ H D I h => by
  obtain ⟨G, F, ρ, A, R, st, en, p⟩ := h
  exact p.elim⟩
def eBad : Rho → RX D := fun _ => .bad
theorem fe_bad {e : Expr} : FE X cl W e eBad := ⟨fun pins s σ H Q I h => by
  obtain ⟨G, F, ρ, A, R, st, en, p⟩ := h
  exact p.elim⟩

/-! ### xs[i] = v -/
theorem Owns.split {K : PySem.W.Frag} : ∀ {ds : List D} {vs : List V} {A : Fp} {j : Nat} {d : D}, Owns K cl F H ds vs A → ds[j]? = some d → ∃ v B C, vs[j]? = some v ∧ Own K cl F H d v B ∧ Owns K cl F H (ds.set j .non) (vs.set j .non) C ∧ ∀ x, B x + C x ≤ A x
  | [], vs, A, j, d, o, h => by simp at h
  | d' :: ds, vs, A, 0, d, o, h => by
    obtain ⟨v, r, B, C, rfl, p, q, s⟩ := o
    have e : d' = d := by simpa using h
    subst e
    exact ⟨v, B, C, rfl, p, ⟨.non, r, zf, C, rfl, rfl, q, fun x => by show 0 + C x ≤ C x; omega⟩, s⟩
  | d' :: ds, vs, A, j + 1, d, o, h => by
    obtain ⟨v, r, B, C, rfl, p, q, s⟩ := o
    obtain ⟨w, B', C', h1, h2, h3, h4⟩ := Owns.split (j := j) q (by simpa using h)
    exact ⟨w, B', fun x => B x + C' x, by simpa using h1, h2, ⟨v, _, B, C', rfl, p, h3, fun x => Nat.le_refl _⟩, fun x => by have := s x; have := h4 x; show B' x + (B x + C' x) ≤ A x; omega⟩
/-- the frame behind a store at an owned list -/
def sPut (i : Nat) (k : Rho → Option D) (m : Rho → RX D) : Rho → RS := fun ρ => (m ρ).stmt fun d ρ1 => match ρ1[i]?, k ρ1 with
  | some (some (.vec ds)), some (.int n) => (match ixN ds.length n with | some j => .nx (ρ1.set i (some (.vec (ds.set j d)))) | none => .bad)
  | _, _ => .bad
theorem fs_put {i : Nat} {x : Str} {p pos' : Pos} {ie e : Expr} {k : Rho → Option D} {m : Rho → RX D} (hx : PE X (.Name x p) (tVar i)) (hk : FQ X cl ie k) (h : FE X cl W e m)
    (ha : ∀ v, assign (.Subscript (.Name x p) ie pos') X.env v = (do
      let ov ← holding [v] (eval (.Name x p) X.env)
      let iv ← holding [v, ov] (eval ie X.env)
      standAt pos'
      holding [v, ov, iv] (setItem ov iv v)
      release [v, ov, iv] []) := by intro _; rfl)
    (hs : swapsWithSole [.Subscript (.Name x p) ie pos'] e pos.line X.env = pure false := by rfl) (hw : swappedStores [.Subscript (.Name x p) ie pos'] e X.env = pure none := by rfl)
    (h1 : (assignEach [.Subscript (.Name x p) ie pos'] X.env).map (·.2) = [assign (.Subscript (.Name x p) ie pos') X.env] := by rfl) : FS X cl W (.Assign [.Subscript (.Name x p) ie pos'] e pos) (sPut i k m) :=
  PS_imp (ps_asg h (pg_sub hx hk set_list ha) hs hw h1) fun E σ H q => by
  obtain ⟨G, F, ρ, A, R, st, en, p⟩ := q
  refine ⟨G, F, ρ, A, R, st, en, Pst.stmt p fun d ρ1 v1 F1 H1 A1 B1 e1 o1 p1 => ?_⟩
  split at p1
  · rename_i ds n hρ hk
    cases hj : ixN ds.length n with
    | none => simp only [hj] at p1; exact p1.elim
    | some j =>
      simp only [hj] at p1
      obtain ⟨w, B2, C2, hw, o2, en2, hs2⟩ := e1.en.get hρ
      obtain ⟨a, ys, B3, rfl, fa, hH, os, hs3⟩ := o2
      refine ⟨.ref a, hw, G, F1, ρ1, A1, fun x => B1 x + R x, e1.st, e1.en, ?_⟩
      rw [hk]
      rintro v rfl
      refine ⟨a, ys, n, j, rfl, rfl, hH, by rw [← Owns.length os]; exact hj, ?_⟩
      have hB2 : 0 < B2 a := by have := hs3 a; rw [one_self] at this; omega
      have hA1 : 0 < A1 a := by have := hs2 a; omega
      have nd := e1.st.nd
      have st2 := upd_own (o := .lst (ys.set j v1)) e1.st (show 0 < A1 a + (B1 a + R a) by omega)
      have off : ∀ b, 0 < C2 b + (B3 b + (B1 b + R b)) → b ≠ a := fun b hb e => by
        subst e
        have h1 : A1 b + (B1 b + R b) ≤ 1 := nd b
        have h2 := hs2 b
        have h3 := hs3 b
        rw [one_self] at h3
        omega
      have own1 : ∀ b, 0 < A1 b + (B1 b + R b) → F1 b = none := fun b hb => (e1.st.own b hb).1
      have en3 : EnvR X.K cl F1 (upd H1 a (.lst (ys.set j v1))) (ρ1.set i none) σ C2 := en2.mono Le.refl (fun b hb => ⟨upd_ne (off b (by omega)), own1 b (by have := hs2 b; omega)⟩) fun _ => Nat.le_refl _
      have os3 : Owns X.K cl F1 (upd H1 a (.lst (ys.set j v1))) ds ys B3 := os.mono Le.refl (fun b hb => ⟨upd_ne (off b (by omega)), own1 b (by have := hs2 b; have := hs3 b; omega)⟩) fun _ => Nat.le_refl _
      have o3 : Own X.K cl F1 (upd H1 a (.lst (ys.set j v1))) d v1 B1 := o1.mono Le.refl (fun b hb => ⟨upd_ne (off b (by omega)), own1 b (by omega)⟩) fun _ => Nat.le_refl _
      have ov : Own X.K cl F1 (upd H1 a (.lst (ys.set j v1))) (.vec (ds.set j d)) (.ref a) (fun z => one a z + (B3 z + B1 z)) :=
        ⟨a, ys.set j v1, fun z => B3 z + B1 z, rfl, fa, upd_same, os3.set j o3, fun _ => Nat.le_refl _⟩
      have en4 := en3.put (i := i) ov
      rw [List.set_set] at en4
      have hσ : σ.set i (some (.ref a)) = σ := by
        obtain ⟨hl, hg⟩ := List.getElem?_eq_some_iff.mp hw
        rw [← hg]
        exact List.set_getElem_self hl
      rw [hσ] at en4
      refine p1 σ F1 _ _ ⟨Le.refl, fun b hb => upd_ne (off b (by omega)), st2.less fun z => ?_, en4⟩
      have h2 := hs2 z
      have h3 := hs3 z
      show one a z + (B3 z + B1 z) + C2 z + (zf z + R z) ≤ A1 z + (B1 z + R z)
      unfold zf
      omega
  · exact p1.elim
/-- xs[k][l] = v -/
def sPut2 (i : Nat) (k l : Rho → Option D) (m : Rho → RX D) : Rho → RS := fun ρ => (m ρ).stmt fun d ρ1 => match ρ1[i]?, k ρ1, l ρ1 with
  | some (some (.vec ds)), some (.int n), some (.int n2) => (match ixN ds.length n with
    | some j => (match ds[j]? with
      | some (.vec es) => (match ixN es.length n2 with | some j2 => .nx (ρ1.set i (some (.vec (ds.set j (.vec (es.set j2 d)))))) | none => .bad)
      | _ => .bad)
    | none => .bad)
  | _, _, _ => .bad
theorem fs_put2 {i : Nat} {x : Str} {p pos' pos2 : Pos} {ke le e : Expr} {k l : Rho → Option D} {m : Rho → RX D} (hx : PE X (.Name x p) (tVar i)) (hk : FQ X cl ke k) (hl : FQ X cl le l) (h : FE X cl W e m) (hp : PlainIx ke)
    (ha : ∀ v, assign (.Subscript (.Subscript (.Name x p) ke pos2) le pos') X.env v = (do
      let ov ← holding [v] (eval (.Subscript (.Name x p) ke pos2) X.env)
      let iv ← holding [v, ov] (eval le X.env)
      standAt pos'
      holding [v, ov, iv] (setItem ov iv v)
      release [v, ov, iv] []) := by intro _; rfl)
    (hs : swapsWithSole [.Subscript (.Subscript (.Name x p) ke pos2) le pos'] e pos.line X.env = pure false := by rfl) (hw : swappedStores [.Subscript (.Subscript (.Name x p) ke pos2) le pos'] e X.env = pure none := by rfl)
    (h1 : (assignEach [.Subscript (.Subscript (.Name x p) ke pos2) le pos'] X.env).map (·.2) = [assign (.Subscript (.Subscript (.Name x p) ke pos2) le pos') X.env] := by rfl) :
    FS X cl W (.Assign [.Subscript (.Subscript (.Name x p) ke pos2) le pos'] e pos) (sPut2 i k l m) :=
  PS_imp (ps_asg h (pg_sub (pe_ix ix_seq hx hk hp) hl set_list ha) hs hw h1) fun E σ H q => by
  obtain ⟨G, F, ρ, A, R, st, en, p⟩ := q
  refine ⟨G, F, ρ, A, R, st, en, Pst.stmt p fun d ρ1 v1 F1 H1 A1 B1 e1 o1 p1 => ?_⟩
  split at p1
  · rename_i ds n n2 hρ hk hl
    cases hj : ixN ds.length n with
    | none => simp only [hj] at p1; exact p1.elim
    | some j =>
      simp only [hj] at p1
      split at p1
      · rename_i es hes
        cases hj2 : ixN es.length n2 with
        | none => simp only [hj2] at p1; exact p1.elim
        | some j2 =>
          simp only [hj2] at p1
          obtain ⟨w, B2, C2, hw, o2, en2, hs2⟩ := e1.en.get hρ
          obtain ⟨a, ys, B3, rfl, fa, hH, os, hs3⟩ := o2
          obtain ⟨vi, B4, C4, hvi, oi, osr, hs4⟩ := os.split hes
          obtain ⟨a2, zs, B5, rfl, fa2, hH2, os5, hs5⟩ := oi
          refine ⟨.ref a, hw, G, F1, ρ1, A1, fun x => B1 x + R x, e1.st, e1.en, ?_⟩
          rw [hk]
          rintro v rfl
          refine .inl ⟨a, ys, n, .ref a2, rfl, rfl, SqL.of hH, ?_, G, F1, ρ1, A1, fun x => B1 x + R x, e1.st, e1.en, ?_⟩
          · unfold atI
            rw [← Owns.length os, hj]
            exact hvi
          rw [hl]
          rintro v rfl
          refine ⟨a2, zs, n2, j2, rfl, rfl, hH2, by rw [← Owns.length os5]; exact hj2, ?_⟩
          have nd := e1.st.nd
          have hB4 : 0 < B4 a2 := by have := hs5 a2; rw [one_self] at this; omega
          have hA1 : 0 < A1 a2 := by have := hs2 a2; have := hs3 a2; have := hs4 a2; omega
          have st2 := upd_own (o := .lst (zs.set j2 v1)) e1.st (show 0 < A1 a2 + (B1 a2 + R a2) by omega)
          have off : ∀ b, 0 < one a b + (C2 b + (C4 b + (B5 b + (B1 b + R b)))) → b ≠ a2 := fun b hb e => by
            subst e
            have h1 : A1 b + (B1 b + R b) ≤ 1 := nd b
            have h2 := hs2 b
            have h3 := hs3 b
            have h4 := hs4 b
            have h5 := hs5 b
            rw [one_self] at h5
            omega
          have own1 : ∀ b, 0 < A1 b + (B1 b + R b) → F1 b = none := fun b hb => (e1.st.own b hb).1
          have le : ∀ b, one a b + (C2 b + (C4 b + B5 b)) ≤ A1 b := fun b => by have := hs2 b; have := hs3 b; have := hs4 b; have := hs5 b; omega
          have en3 : EnvR X.K cl F1 (upd H1 a2 (.lst (zs.set j2 v1))) (ρ1.set i none) σ C2 := en2.mono Le.refl (fun b hb => ⟨upd_ne (off b (by omega)), own1 b (by have := le b; omega)⟩) fun _ => Nat.le_refl _
          have osr3 : Owns X.K cl F1 (upd H1 a2 (.lst (zs.set j2 v1))) (ds.set j .non) (ys.set j .non) C4 := osr.mono Le.refl (fun b hb => ⟨upd_ne (off b (by omega)), own1 b (by have := le b; omega)⟩) fun _ => Nat.le_refl _
          have os5' : Owns X.K cl F1 (upd H1 a2 (.lst (zs.set j2 v1))) es zs B5 := os5.mono Le.refl (fun b hb => ⟨upd_ne (off b (by omega)), own1 b (by have := le b; omega)⟩) fun _ => Nat.le_refl _
          have o3 : Own X.K cl F1 (upd H1 a2 (.lst (zs.set j2 v1))) d v1 B1 := o1.mono Le.refl (fun b hb => ⟨upd_ne (off b (by omega)), own1 b (by omega)⟩) fun _ => Nat.le_refl _
          have oi3 : Own X.K cl F1 (upd H1 a2 (.lst (zs.set j2 v1))) (.vec (es.set j2 d)) (.ref a2) (fun z => one a2 z + (B5 z + B1 z)) :=
            ⟨a2, zs.set j2 v1, fun z => B5 z + B1 z, rfl, fa2, upd_same, os5'.set j2 o3, fun _ => Nat.le_refl _⟩
          have osx := osr3.set j oi3
          rw [List.set_set, List.set_set] at osx
          have hys : ys.set j (.ref a2) = ys := by
            obtain ⟨h, g⟩ := List.getElem?_eq_some_iff.mp hvi
            rw [← g]
            exact List.set_getElem_self h
          rw [hys] at osx
          have hHa : upd H1 a2 (.lst (zs.set j2 v1)) a = some (.lst ys) := by rw [upd_ne (off a (by rw [one_self]; omega))]; exact hH
          have ov : Own X.K cl F1 (upd H1 a2 (.lst (zs.set j2 v1))) (.vec (ds.set j (.vec (es.set j2 d)))) (.ref a) (fun z => one a z + (C4 z + (one a2 z + (B5 z + B1 z)))) :=
            ⟨a, ys, fun z => C4 z + (one a2 z + (B5 z + B1 z)), rfl, fa, hHa, osx, fun _ => Nat.le_refl _⟩
          have en4 := en3.put (i := i) ov
          rw [List.set_set] at en4
          have hσ : σ.set i (some (.ref a)) = σ := by
            obtain ⟨hl, hg⟩ := List.getElem?_eq_some_iff.mp hw
            rw [← hg]
            exact List.set_getElem_self hl
          rw [hσ] at en4
          refine p1 σ F1 _ _ ⟨Le.refl, fun b hb => upd_ne (off b (by omega)), st2.less fun z => ?_, en4⟩
          have h2 := hs2 z
          have h3 := hs3 z
          have h4 := hs4 z
          have h5 := hs5 z
          show one a z + (C4 z + (one a2 z + (B5 z + B1 z))) + C2 z + (zf z + R z) ≤ A1 z + (B1 z + R z)
          unfold zf
          omega
      · exact p1.elim
  · exact p1.elim
end
end
end FL

set_option Elab.async false
set_option linter.all false
set_option maxRecDepth 100000
namespace FL
open PySem L2
noncomputable section
theorem wipe_in {σ : St} {i : Nat} : ∀ {vs : List Nat}, i ∈ vs → i < σ.length → (L2.wipe σ vs)[i]? = some none
  | v :: vs, h, hl => by
    unfold L2.wipe
    by_cases e : v = i
    · subst e
      rw [List.getElem?_set_self (by rw [wipe_length]; exact hl)]
    · rw [List.getElem?_set_ne e]
      exact wipe_in (by rcases List.mem_cons.mp h with z | z; exact absurd z.symm e; exact z) hl
theorem wipe_ext {σ σ' : St} {vs : List Nat} (hl : σ'.length = σ.length) (h : ∀ i, i ∉ vs → σ'[i]? = σ[i]?) : L2.wipe σ' vs = L2.wipe σ vs := by
  apply List.ext_getElem?
  intro i
  by_cases hi : i ∈ vs
  · by_cases hb : i < σ.length
    · rw [wipe_in hi hb, wipe_in hi (by omega)]
    · rw [List.getElem?_eq_none (by rw [wipe_length]; omega), List.getElem?_eq_none (by rw [wipe_length]; omega)]
  · rw [wipe_out hi, wipe_out hi, h i hi]
theorem wipe_len {σ σ' : St} {vs : List Nat} (h : L2.wipe σ' vs = L2.wipe σ vs) : σ'.length = σ.length := by
  have := congrArg List.length h
  rwa [wipe_length, wipe_length] at this
theorem wipe_at {σ σ' : St} {vs : List Nat} (h : L2.wipe σ' vs = L2.wipe σ vs) {i : Nat} (hi : i ∉ vs) : σ'[i]? = σ[i]? := by
  rw [← wipe_out (σ := σ') hi, h, wipe_out hi]
theorem wipe_comp {σ σ1 σ2 : St} {a b : List Nat} (h1 : L2.wipe σ1 a = L2.wipe σ a) (h2 : L2.wipe σ2 b = L2.wipe σ1 b) : L2.wipe σ2 (a ++ b) = L2.wipe σ (a ++ b) :=
  wipe_ext ((wipe_len h2).trans (wipe_len h1)) fun i hi => by
    rw [List.mem_append, not_or] at hi
    rw [wipe_at h2 hi.2, wipe_at h1 hi.1]
section
variable {X : Cx} {cl : Tb} {W : WX'}
variable {G : Gh} {F H F' H' : Hp} {R B A A' : Fp} {σ : St} {ρ ρ' : Rho} {pos : Pos}
def tGs (K : PySem.W.Frag) (cl : Tb) (vs : List Nat) (m : List D → Rho → Option Rho) : TGs := fun xs σ H Q =>
  ∃ G F ρ A B R ds, Sta G F H (fun x => A x + (B x + R x)) ∧ EnvR K cl F H ρ σ A ∧ Owns K cl F H ds xs B ∧
    match m ds ρ with
    | some ρ1 => ∀ σ' F' H' A', L2.wipe σ' vs = L2.wipe σ vs → Ev K cl G F H R F' H' σ' ρ1 A' zf → Q σ' H'
    | none => False
abbrev FGs (X : Cx) (cl : Tb) (tg : List Expr) (vs : List Nat) (m : List D → Rho → Option Rho) : Prop := PGs X tg (tGs X.K cl vs m)
theorem PGs_imp {X : Cx} {e : List Expr} {t t' : TGs} (h : PGs X e t) (i : ∀ v σ H Q, t' v σ H Q → t v σ H Q) : PGs X e t' := ⟨fun pins s σ H v u Q I r q => h.run pins s σ H v u Q I r (i v σ H Q q)⟩
def gNl : List D → Rho → Option Rho := fun ds ρ => match ds with | [] => some ρ | _ => none
def gCo (m : D → Rho → Option Rho) (n : List D → Rho → Option Rho) : List D → Rho → Option Rho := fun ds ρ => match ds with | d :: ds => (m d ρ).bind fun ρ1 => n ds ρ1 | [] => none
theorem fgs_nil : FGs X cl [] [] gNl := PGs_imp pgs_nil fun xs σ H Q q => by
  obtain ⟨G, F, ρ, A, B, R, ds, st, en, o, q⟩ := q
  unfold gNl at q
  cases ds with
  | nil => exact ⟨o, q σ F H A rfl ⟨Le.refl, fun _ _ => rfl, st.less fun x => by show A x + (zf x + R x) ≤ A x + (B x + R x); unfold zf; omega, en⟩⟩
  | cons d ds => exact q.elim
theorem fgs_cons {e : Expr} {es : List Expr} {v1 v2 : List Nat} {m : D → Rho → Option Rho} {n : List D → Rho → Option Rho} (h1 : FG X cl e v1 m) (h2 : FGs X cl es v2 n)
    (hs : (assignEach (e :: es) X.env).map (·.2) = assign e X.env :: (assignEach es X.env).map (·.2) := by rfl) : FGs X cl (e :: es) (v1 ++ v2) (gCo m n) := PGs_imp (pgs_cons h1 h2 hs) fun xs σ H Q q => by
  obtain ⟨G, F, ρ, A, B, R, ds, st, en, o, q⟩ := q
  unfold gCo at q
  cases ds with
  | nil => exact q.elim
  | cons d ds =>
    obtain ⟨v, r, B1, C1, rfl, o1, os, hs⟩ := o
    refine ⟨v, r, rfl, G, F, ρ, A, B1, fun x => C1 x + R x, d, st.less fun x => by have := hs x; show A x + (B1 x + (C1 x + R x)) ≤ A x + (B x + R x); omega, en, o1, ?_⟩
    cases hm : m d ρ with
    | none => simp only [hm] at q; exact q.elim
    | some ρ1 =>
      simp only [hm] at q
      intro σ1 F1 H1 A1 hw e1
      refine ⟨G, F1, ρ1, A1, C1, R, ds, e1.st.less fun x => by show A1 x + (C1 x + R x) ≤ A1 x + (zf x + (C1 x + R x)); omega, e1.en, e1.keeps os, ?_⟩
      rw [Option.bind_some] at q
      cases hn : n ds ρ1 with
      | none => rw [hn] at q; exact q.elim
      | some ρ2 =>
        rw [hn] at q
        intro σ2 F2 H2 A2 hw2 e2
        refine q σ2 F2 H2 A2 (wipe_comp hw hw2) ⟨e1.le.trans e2.le, fun a ha => ?_, e2.st, e2.en⟩
        exact (e2.ag a ha).trans (e1.ag a (by show 0 < C1 a + R a; omega))
/-- a tuple's, a list's items -/
def gT (n : Nat) (m : List D → Rho → Option Rho) : D → Rho → Option Rho := fun d ρ => match sq d with | some ds => if ds.length = n then m ds ρ else none | none => none
theorem fg_tup {es : List Expr} {k : Nat} {vs : List Nat} {m : List D → Rho → Option Rho} {n : Nat} (hc : X.calm = true) (h : FGs X cl es vs m)
    (hn : (assignEach es X.env).length = n := by rfl) (hst : (assignEach es X.env).findIdx? (·.1) = none := by rfl) : FG X cl (.Tuple es k pos) vs (gT n m) := by
  have key : ∀ (v : V) (σ : St) (H : Hp) (Q : St → Hp → Prop), tG X.K cl vs (gT n m) v σ H Q → gTup X.K n (tGs X.K cl vs m) v σ H Q ∨ gLst X.K n (tGs X.K cl vs m) v σ H Q := by
    intro v σ H Q q
    obtain ⟨G, F, ρ, A, B, R, d, st, en, o, q⟩ := q
    unfold gT at q
    cases hq : sq d with
    | none => simp only [hq] at q
    | some ds =>
      simp only [hq] at q
      obtain ⟨a, xs, rfl, z, os⟩ := own_sq hq o st.sub
      by_cases hl : ds.length = n
      · rw [if_pos hl] at q
        have hx : xs.length = n := by rw [← Owns.length os]; exact hl
        rcases z with z | z
        · exact .inr ⟨a, xs, rfl, z, hx, G, F, ρ, A, B, R, ds, st, en, os, q⟩
        · exact .inl ⟨a, xs, rfl, z, hx, G, F, ρ, A, B, R, ds, st, en, os, q⟩
      · rw [if_neg hl] at q; exact q.elim
  refine ⟨fun pins s σ H v u Q I r q => ?_⟩
  rcases key v σ H Q q with q | q
  · exact (pg_tup hc h hn hst).run pins s σ H v u Q I r q
  · exact (pg_lst hc h hn hst).run pins s σ H v u Q I r q
/-- target = e -/
def sAsg (m : Rho → RX D) (g : D → Rho → Option Rho) : Rho → RS := fun ρ => (m ρ).stmt fun d ρ1 => match g d ρ1 with | some ρ2 => .nx ρ2 | none => .bad
theorem fs_asg {tg e : Expr} {vs : List Nat} {m : Rho → RX D} {g : D → Rho → Option Rho} (he : FE X cl W e m) (hg : FG X cl tg vs g) (hs : swapsWithSole [tg] e pos.line X.env = pure false := by rfl) (hw : swappedStores [tg] e X.env = pure none := by rfl)
    (h1 : (assignEach [tg] X.env).map (·.2) = [assign tg X.env] := by rfl) : FS X cl W (.Assign [tg] e pos) (sAsg m g) := PS_imp (ps_asg he hg hs hw h1) fun E σ H q => by
  obtain ⟨G, F, ρ, A, R, st, en, p⟩ := q
  refine ⟨G, F, ρ, A, R, st, en, Pst.stmt p fun d ρ1 v1 F1 H1 A1 B1 e1 o1 p1 => ?_⟩
  refine ⟨G, F1, ρ1, A1, B1, R, d, e1.st, e1.en, o1, ?_⟩
  cases hg : g d ρ1 with
  | none => simp only [hg] at p1; exact p1.elim
  | some ρ2 =>
    simp only [hg] at p1
    exact fun σ2 F2 H2 A2 hw e2 => p1 σ2 F2 H2 A2 e2
end
end
end FL

set_option Elab.async false
set_option linter.all false
set_option maxRecDepth 100000
namespace FL
open PySem L2
noncomputable section
/-! ### data at any depth -/
mutual
def pdO : D → Option PyData
  | .non => some .none
  | .bl b => some (.bool b)
  | .int i => some (.int i)
  | .str s => some (.str s)
  | .tup ds => (pdsO ds).map .tuple
  | .lst ds => (pdsO ds).map .list
  | .vec ds => (pdsO ds).map .list
  | _ => none
def pdsO : List D → Option (List PyData)
  | [] => some []
  | d :: ds => (pdO d).bind fun p => (pdsO ds).map (p :: ·)
end
section
variable {X : Cx} {cl : Tb} {W : WX'}
variable {G : Gh} {F H F' H' : Hp} {R B A A' : Fp} {σ : St} {ρ ρ' : Rho} {pos : Pos}
mutual
theorem pd_own {K : PySem.W.Frag} (sub : Le F H) : ∀ {d : D} {v : V} {A : Fp} {p : PyData}, pdO d = some p → Own K cl F H d v A → Dp K H v p
  | .non, v, A, p, h, o => by cases h; have e : v = .non := o; subst e; exact .non
  | .bl b, v, A, p, h, o => by cases h; have e : v = .bl b := o; subst e; exact .bl b
  | .int i, v, A, p, h, o => by cases h; have e : v = .int i := o; subst e; exact .int i
  | .str s, v, A, p, h, o => by cases h; have e : v = .str s := o; subst e; exact .str s
  | .tup ds, v, A, p, h, o => by
    obtain ⟨a, xs, rfl, q, r⟩ := o
    unfold pdO at h
    cases e : pdsO ds with
    | none => rw [e] at h; cases h
    | some ps => rw [e] at h; cases h; exact .tup (sub.sqT q.1) (pds_own sub e r)
  | .lst ds, v, A, p, h, o => by
    obtain ⟨a, xs, rfl, q, r⟩ := o
    unfold pdO at h
    cases e : pdsO ds with
    | none => rw [e] at h; cases h
    | some ps => rw [e] at h; cases h; exact .lst (sub.sqL q) (pds_own sub e r)
  | .vec ds, v, A, p, h, o => by
    obtain ⟨a, xs, B, rfl, n, q, r, s⟩ := o
    unfold pdO at h
    cases e : pdsO ds with
    | none => rw [e] at h; cases h
    | some ps => rw [e] at h; cases h; exact .lst (SqL.of q) (pds_own sub e r)
  | .obj _ _, _, _, _, h, _ => by cases h
  | .mobj _ _, _, _, _, h, _ => by cases h
  | .exc _ _, _, _, _, h, _ => by cases h
  | .dT _ _, _, _, _, h, _ => by cases h
  | .vT _ _, _, _, _, h, _ => by cases h
  | .dK _ _, _, _, _, h, _ => by cases h
  | .vK _ _, _, _, _, h, _ => by cases h
  | .val _, _, _, _, h, _ => by cases h
theorem pds_own {K : PySem.W.Frag} (sub : Le F H) : ∀ {ds : List D} {vs : List V} {A : Fp} {ps : List PyData}, pdsO ds = some ps → Owns K cl F H ds vs A → DpAll K H vs ps
  | [], vs, A, ps, h, o => by cases h; have e : vs = [] := o; subst e; exact .nil
  | d :: ds, vs, A, ps, h, o => by
    obtain ⟨v, r, B, C, rfl, p, q, s⟩ := o
    unfold pdsO at h
    cases e1 : pdO d with
    | none => rw [e1] at h; cases h
    | some p1 =>
      rw [e1, Option.bind_some] at h
      cases e2 : pdsO ds with
      | none => rw [e2] at h; cases h
      | some ps' => rw [e2] at h; cases h; exact .cons (pd_own sub e1 p) (pds_own sub e2 q)
end
def deepOk (p q : PyData) : Bool := yes (SeqAt.shaped p = true ∧ SeqAt.shaped q = true)
def dEq (x y : D) : Option D := match pdO x, pdO y with | some p, some q => if deepOk p q then some (.bl (PyData.eqv p q)) else none | _, _ => none
def dNe (x y : D) : Option D := match pdO x, pdO y with | some p, some q => if deepOk p q then some (.bl (!PyData.eqv p q)) else none | _, _ => none
def dIn (x y : D) : Option D := match pdO x, pdO y with | some p, some (.list qs) => if deepOk p (.list qs) then some (.bl (qs.any fun z => PyData.eqv z p)) else none | _, _ => none
def dNin (x y : D) : Option D := match pdO x, pdO y with | some p, some (.list qs) => if deepOk p (.list qs) then some (.bl (!qs.any fun z => PyData.eqv z p)) else none | _, _ => none
theorem dEq_of {x y d : D} (h : dEq x y = some d) : ∃ p q, pdO x = some p ∧ pdO y = some q ∧ SeqAt.shaped p = true ∧ SeqAt.shaped q = true ∧ d = .bl (PyData.eqv p q) := by
  unfold dEq at h
  split at h
  · rename_i p q e1 e2
    split at h
    · rename_i ok
      obtain ⟨a, b⟩ := of_yes ok
      exact ⟨p, q, e1, e2, a, b, (Option.some.inj h).symm⟩
    · cases h
  · cases h
theorem dNe_of {x y d : D} (h : dNe x y = some d) : ∃ p q, pdO x = some p ∧ pdO y = some q ∧ SeqAt.shaped p = true ∧ SeqAt.shaped q = true ∧ d = .bl (!PyData.eqv p q) := by
  unfold dNe at h
  split at h
  · rename_i p q e1 e2
    split at h
    · rename_i ok
      obtain ⟨a, b⟩ := of_yes ok
      exact ⟨p, q, e1, e2, a, b, (Option.some.inj h).symm⟩
    · cases h
  · cases h
theorem dIn_of {x y d : D} (h : dIn x y = some d) : ∃ p q, pdO x = some p ∧ pdO y = some (.list q) ∧ SeqAt.shaped p = true ∧ SeqAt.shaped (.list q) = true ∧ d = .bl (q.any fun z => PyData.eqv z p) := by
  unfold dIn at h
  split at h
  · rename_i p q e1 e2
    split at h
    · rename_i ok
      obtain ⟨a, b⟩ := of_yes ok
      exact ⟨p, q, e1, e2, a, b, (Option.some.inj h).symm⟩
    · cases h
  · cases h
theorem dNin_of {x y d : D} (h : dNin x y = some d) : ∃ p q, pdO x = some p ∧ pdO y = some (.list q) ∧ SeqAt.shaped p = true ∧ SeqAt.shaped (.list q) = true ∧ d = .bl (!q.any fun z => PyData.eqv z p) := by
  unfold dNin at h
  split at h
  · rename_i p q e1 e2
    split at h
    · rename_i ok
      obtain ⟨a, b⟩ := of_yes ok
      exact ⟨p, q, e1, e2, a, b, (Option.some.inj h).symm⟩
    · cases h
  · cases h
theorem q_dEq : Quiet2 X cl dEq (rEqD X.K) := fun x y d hd F H A vx vy Q sub ox oy k => by
  obtain ⟨p, q, e1, e2, s1, s2, rfl⟩ := dEq_of hd
  exact ⟨p, q, pd_own sub e1 ox, pd_own sub e2 oy, s1, s2, k _ rfl⟩
theorem q_dNe : Quiet2 X cl dNe (rNeD X.K) := fun x y d hd F H A vx vy Q sub ox oy k => by
  obtain ⟨p, q, e1, e2, s1, s2, rfl⟩ := dNe_of hd
  exact ⟨p, q, pd_own sub e1 ox, pd_own sub e2 oy, s1, s2, k _ rfl⟩
theorem q_dIn : Quiet2 X cl dIn (rInD X.K) := fun x y d hd F H A vx vy Q sub ox oy k => by
  obtain ⟨p, q, e1, e2, s1, s2, rfl⟩ := dIn_of hd
  exact ⟨p, q, pd_own sub e1 ox, pd_own sub e2 oy, s1, s2, k _ rfl⟩
theorem q_dNin : Quiet2 X cl dNin (rNotInD X.K) := fun x y d hd F H A vx vy Q sub ox oy k => by
  obtain ⟨p, q, e1, e2, s1, s2, rfl⟩ := dNin_of hd
  exact ⟨p, q, pd_own sub e1 ox, pd_own sub e2 oy, s1, s2, k _ rfl⟩
theorem zst {S B C : Fp} (st : Sta G F H (fun z => B z + (C z + S z))) : Sta G F H (fun z => zf z + S z) := st.less fun z => by show zf z + S z ≤ _; unfold zf; omega
theorem d_dEq : Does2 X cl dEq (rEqD X.K) := fun x y d hd G F H S B C vx vy Q st ox oy k => by
  obtain ⟨p, q, e1, e2, s1, s2, rfl⟩ := dEq_of hd
  exact ⟨p, q, pd_own st.sub e1 ox, pd_own st.sub e2 oy, s1, s2, k _ F H zf Le.refl (fun _ _ => rfl) (zst st) rfl⟩
theorem d_dNe : Does2 X cl dNe (rNeD X.K) := fun x y d hd G F H S B C vx vy Q st ox oy k => by
  obtain ⟨p, q, e1, e2, s1, s2, rfl⟩ := dNe_of hd
  exact ⟨p, q, pd_own st.sub e1 ox, pd_own st.sub e2 oy, s1, s2, k _ F H zf Le.refl (fun _ _ => rfl) (zst st) rfl⟩
theorem d_dIn : Does2 X cl dIn (rInD X.K) := fun x y d hd G F H S B C vx vy Q st ox oy k => by
  obtain ⟨p, q, e1, e2, s1, s2, rfl⟩ := dIn_of hd
  exact ⟨p, q, pd_own st.sub e1 ox, pd_own st.sub e2 oy, s1, s2, k _ F H zf Le.refl (fun _ _ => rfl) (zst st) rfl⟩
theorem d_dNin : Does2 X cl dNin (rNotInD X.K) := fun x y d hd G F H S B C vx vy Q st ox oy k => by
  obtain ⟨p, q, e1, e2, s1, s2, rfl⟩ := dNin_of hd
  exact ⟨p, q, pd_own st.sub e1 ox, pd_own st.sub e2 oy, s1, s2, k _ F H zf Le.refl (fun _ _ => rfl) (zst st) rfl⟩
theorem o_dEq {k : Nat} (hr : Room k X.A) : OpR X (compareOp .Eq) (rEqD X.K) := op_eqD hr.units
theorem o_dNe {k : Nat} (hr : Room k X.A) : OpR X (compareOp .NotEq) (rNeD X.K) := op_neD hr.units
theorem o_dIn {k : Nat} (hr : Room k X.A) : OpR X (compareOp .In) (rInD X.K) := op_inD (by have := hr.un; omega)
theorem o_dNin {k : Nat} (hr : Room k X.A) : OpR X (compareOp .NotIn) (rNotInD X.K) := op_notInD (by have := hr.un; omega)

/-! ### a property of an own class -/
structure PrpC (P : Program) (w : World) (K : PySem.W.Frag) (mg : Str → Option Value) (base : Heap) (cl : Tb) (c : Nat) (x : Str) (k : Nat) (m : List D → RF) : Prop where
  ex : ∃ (f p : Addr) (fd : FuncData) (ps : List Str), FnOk P w K mg base (L2.CX P w) k f fd ps (spF K cl 1 m) ∧ Cls K (cl c).at_ ∧ PropOf K (cl c).at_ x p f ∧ Binds K fd ps []
/-- o.x: o is quiet, nothing is raised -/
def eProp (c : Nat) (m : List D → RF) (o : Rho → Option D) : Rho → RX D := fun ρ => match o ρ with
  | some d => if isObj' c d && d.pure then (match m [d] with | .rt r => .ok r ρ | _ => .bad) else .bad
  | none => .bad
theorem fe_prop {c : Nat} {x : Str} {k : Nat} {m : List D → RF} {oe : Expr} {o : Rho → Option D} (Pc : PrpC X.prog X.w X.K X.mg X.base cl c x k m) (hr : Room (k + 1) X.A) (ho : FQ X cl oe o)
    (hb : attributeBase oe x X.env (eval oe X.env) = eval oe X.env := by rfl) : FE X cl W (.Attribute oe x pos) (eProp c m o) := by
  obtain ⟨f, p, fd, ps, h1, h2, h3, h4⟩ := Pc.ex
  refine PE_imp (pe_prop (dvs := []) ho h2 h3 h1 hr h4 .nil (passL (X := X.nox)) hb) fun σ H Q q => ?_
  obtain ⟨G, F, ρ, A, R, st, en, p⟩ := q
  refine ⟨G, F, ρ, A, R, st, en, ?_⟩
  unfold eProp at p
  cases ho : o ρ with
  | none => rw [ho] at p; exact p.elim
  | some d =>
    rw [ho] at p
    intro v ov
    by_cases hc : (isObj' c d && d.pure) = true
    · simp only [hc, if_true] at p
      rw [Bool.and_eq_true] at hc
      obtain ⟨hc1, hp⟩ := hc
      cases d with
      | obj c' ds =>
        have ec : c' = c := by simpa [isObj'] using hc1
        subst ec
        have oz := ov.of_pure (H' := H) hp
        obtain ⟨b, dx, xs, rfl, hb, hz, os⟩ := oz
        have e1 : Ev X.K cl G F H R F H σ ρ A zf := Ev.self st en
        have oself : Own X.K cl F H (.obj c' ds) (.ref b) zf := ⟨b, dx, xs, rfl, hb, hz, os⟩
        refine ⟨b, dx, _, rfl, st.sub _ _ hb, rfl, F, [.obj c' ds], st.sub, ⟨.ref b, _, zf, zf, rfl, oself, rfl, fun _ => Nat.le_refl _⟩, ?_⟩
        cases hm : m [.obj c' ds] with
        | rt d =>
          simp only [hm] at p
          exact fun v F' H' B le lh st' o => p v F' H' A B (e1.call le lh st') o
        | ex c xs => simp only [hm] at p; exact p.elim
        | bad => simp only [hm] at p; exact p.elim
      | _ => cases hc1
    · simp only [hc] at p; exact p.elim
end
end
end FL

set_option Elab.async false
set_option linter.all false
set_option maxRecDepth 100000
namespace FL
open PySem L2
noncomputable section
/-- a method by its name, of two: self and another thing -/
structure OpC (P : Program) (w : World) (K : PySem.W.Frag) (mg : Str → Option Value) (base : Heap) (cl : Tb) (c : Nat) (x : Str) (n k : Nat) (m : List D → RF) : Prop where
  ex : ∃ (f : Addr) (fd : FuncData) (ps : List Str), FnOk P w K mg base (L2.CX P w) k f fd ps (spF K cl n m) ∧ PySem.W.findIn K (.ref (cl c).at_) x = some (some (.ref f)) ∧ PySem.W.isFn K (.ref f) = true ∧ Binds K fd ps []
def opO (c : Nat) (m : List D → RF) (x y : D) : Option D := if isObj' c x && x.pure && y.pure then (match m [x, y] with | .rt r => some r | _ => none) else none
def opOS (c : Nat) (m : List D → RF) (x y : D) : Option D := if isObj' c x && x.pure && isObj' c y && y.pure then (match m [x, y] with | .rt r => some r | _ => none) else none
def opOI (c : Nat) (m : List D → RF) (x y : D) : Option D := if isObj' c x && x.pure && y.isI then (match m [x, y] with | .rt r => some r | _ => none) else none
/-- the readings -/
def rOwnS (K : PySem.W.Frag) (cl : Tb) (c : Nat) (m : List D → RF) : R2 := fun x y H Q => ∃ a b dx dy fs gs, x = .ref a ∧ y = .ref b ∧ H a = some (.ins (cl c).at_ dx fs) ∧ H b = some (.ins (cl c).at_ dy gs) ∧ spF K cl 2 m [x, y] H Q E0
def rOwnI (K : PySem.W.Frag) (cl : Tb) (c : Nat) (m : List D → RF) : R2 := fun x y H Q => ∃ a i dx fs, x = .ref a ∧ y = .int i ∧ H a = some (.ins (cl c).at_ dx fs) ∧ spF K cl 2 m [x, y] H Q E0
section
variable {X : Cx} {cl : Tb} {W : WX'}
variable {G : Gh} {F H F' H' : Hp} {R B A A' : Fp} {σ : St} {ρ ρ' : Rho} {pos : Pos}
theorem obj_own {K : PySem.W.Frag} {c : Nat} {d : D} {v : V} {A : Fp} (h : isObj' c d = true) (o : Own K cl F H d v A) : ∃ a dx fs, v = .ref a ∧ F a = some (.ins (cl c).at_ dx fs) := by
  cases d with
  | obj c' ds =>
    have ec : c' = c := by simpa [isObj'] using h
    subst ec
    obtain ⟨a, dx, xs, e, q, _⟩ := o
    exact ⟨a, dx, _, e, q⟩
  | _ => cases h
theorem sp_does {K : PySem.W.Frag} {m : List D → RF} {x y d : D} {vx vy : V} {B C S : Fp} {Q : VK} (hm : m [x, y] = .rt d) (px : x.pure = true) (py : y.pure = true) (st : Sta G F H (fun z => B z + (C z + S z))) (ox : Own K cl F H x vx C) (oy : Own K cl F H y vy B)
    (k : ∀ v F' H' B', Le F F' → (∀ a, 0 < S a → H' a = H a) → Sta G F' H' (fun z => B' z + S z) → Own K cl F' H' d v B' → Q v H') : spF K cl 2 m [vx, vy] H Q E0 := by
  refine ⟨rfl, F, [x, y], st.sub, ⟨vx, _, zf, zf, rfl, ox.of_pure px, ⟨vy, _, zf, zf, rfl, oy.of_pure py, rfl, fun _ => Nat.le_refl _⟩, fun _ => Nat.le_refl _⟩, ?_⟩
  rw [hm]
  intro v F' H' B' le lh st' o
  have st1 : Sta G F H (fun z => zf z + S z) := st.less fun z => by show zf z + S z ≤ B z + (C z + S z); unfold zf; omega
  have e1 : Ev K cl G F H S F H [] [] zf zf := Ev.self st1 rfl
  have e2 := e1.call le lh st'
  exact k v F' H' B' le e2.ag (e2.st.less fun z => by show B' z + S z ≤ zf z + (B' z + S z); unfold zf; omega) o
theorem d_ownS {c : Nat} {m : List D → RF} : Does2 X cl (opOS c m) (rOwnS X.K cl c m) := fun x y d hd G F H S B C vx vy Q st ox oy k => by
  unfold opOS at hd
  split at hd
  · rename_i h
    rw [Bool.and_eq_true, Bool.and_eq_true, Bool.and_eq_true] at h
    obtain ⟨⟨⟨h1, h2⟩, h3⟩, h4⟩ := h
    cases hm : m [x, y] with
    | rt r =>
      rw [hm] at hd
      cases hd
      obtain ⟨a, dx, fs, rfl, ha⟩ := obj_own h1 ox
      obtain ⟨b, dy, gs, rfl, hb⟩ := obj_own h3 oy
      exact ⟨a, b, dx, dy, fs, gs, rfl, rfl, st.sub _ _ ha, st.sub _ _ hb, sp_does hm h2 h4 st ox oy k⟩
    | _ => rw [hm] at hd; cases hd
  · cases hd
theorem d_ownI {c : Nat} {m : List D → RF} : Does2 X cl (opOI c m) (rOwnI X.K cl c m) := fun x y d hd G F H S B C vx vy Q st ox oy k => by
  unfold opOI at hd
  split at hd
  · rename_i h
    rw [Bool.and_eq_true, Bool.and_eq_true] at h
    obtain ⟨⟨h1, h2⟩, h3⟩ := h
    cases hm : m [x, y] with
    | rt r =>
      rw [hm] at hd
      cases hd
      obtain ⟨a, dx, fs, rfl, ha⟩ := obj_own h1 ox
      cases y with
      | int i =>
        have e : vy = .int i := oy
        subst e
        exact ⟨a, i, dx, fs, rfl, rfl, st.sub _ _ ha, sp_does hm h2 rfl st ox oy k⟩
      | _ => cases h3
    | _ => rw [hm] at hd; cases hd
  · cases hd
end
section
variable {X : Cx} {cl : Tb}
open PySem.Spec PyProof.Rows
theorem own_call {n k : Nat} {m : List D → RF} {pins : List (Addr × Obj)} {σ : L2.St} {H : Hp} {s : Shared} {us : List Value} {vs : List V} {Q : VK} {A : Around} {f : Addr} {fd : FuncData} {ps : List Str} (F : FnOk X.prog X.w X.K X.mg X.base (L2.CX X.prog X.w) k f fd ps (spF X.K cl n m))
    (hb : Binds X.K fd ps []) (hr : Room k A) (e0 : Env0 X.prog X.w X.K X.mg X.base A X.stack s H) (I : L2.Inv X pins σ H s) (r : Vals vs us) (h : spF X.K cl n m vs H Q E0) : wpAny (model X.prog X.w) A (call (.ref f) us) (EP X pins σ Q) X.xe s := by
  have hl := F.len _ _ _ _ h
  refine wpAny_call (codeAny_mono (F.run A X.stack s H ⟨us, []⟩ us vs _ E0 hr e0 (by
    have := hb s us I.kIn (by rw [List.append_nil, ← r.length]; exact hl)
    simpa using this) r h) fun r s' hq => ?_)
  cases r with
  | error e => exact (passL (X := X)) pins σ H s e s' I hq
  | ok fl =>
    cases fl with
    | ret w => exact I.after hq
    | next => exact False.elim hq
    | brk => exact False.elim hq
    | cont => exact False.elim hq
/-- a + b, a - b of one own class -/
theorem op_ownS {c k : Nat} {m : List D → RF} {op : Operator} {nm : Str} (O : OpC X.prog X.w X.K X.mg X.base cl c nm 2 k m) (hn : PySem.dunder op.info.2 = nm) (hc : PySem.W.selfFirst X.K (cl c).at_ = true) (hr : Room k X.A) : OpR X (binaryOp op) (rOwnS X.K cl c m) := by
  obtain ⟨f, fd, ps, F, hs, hf, hb⟩ := O.ex
  intro pins s σ H x y v u Q I rx ry h
  obtain ⟨a, b, dx, dy, fs, gs, rfl, rfl, ha, hb', hsp⟩ := h
  cases rx
  cases ry
  obtain ⟨mA, J, _⟩ := ins_get I.hok ha
  obtain ⟨mB, J', _⟩ := ins_get I.hok hb'
  obtain ⟨od, J, _⟩ := J.look
  obtain ⟨od', J', _⟩ := J'.look
  obtain ⟨m', hF⟩ := I.fr
  refine PySem.W.binop_K hF I.ok.mod.kin J J'.type hc (by rw [hn]; exact hs) hf ?_
  have r2 : Vals [V.ref a, V.ref b] [Value.ref a, Value.ref b] := .cons rfl (.cons rfl .nil)
  refine wpAny_mono (own_call F hb hr I.env0 I r2 hsp) (fun v s' q => ?_) fun _ _ e => e
  obtain ⟨z, H', I', rz, q⟩ := q
  have : PySem.W.CmpBack (EP X pins σ Q) v s' := by
    have g : EP X pins σ Q v s' := ⟨z, H', I', rz, q⟩
    cases v <;> first | exact g | (cases z <;> first | (cases rz; done) | (obtain ⟨t, e⟩ := rz; cases e))
  exact this
theorem op_ownEq {c k : Nat} {m : List D → RF} (O : OpC X.prog X.w X.K X.mg X.base cl c "__eq__" 2 k m) (hr : Room k X.A) : OpR X (compareOp .Eq) (rOwnS X.K cl c m) := by
  obtain ⟨f, fd, ps, F, hs, hf, hb⟩ := O.ex
  intro pins s σ H x y v u Q I rx ry h
  obtain ⟨a, b, dx, dy, fs, gs, rfl, rfl, ha, hb', hsp⟩ := h
  cases rx
  cases ry
  obtain ⟨mA, J, _⟩ := ins_get I.hok ha
  obtain ⟨mB, J', _⟩ := ins_get I.hok hb'
  obtain ⟨od, J, _⟩ := J.look
  obtain ⟨od', J', _⟩ := J'.look
  obtain ⟨m', hF⟩ := I.fr
  refine PySem.W.cmp_K (op := .Eq) (tb := .ref (cl c).at_) hr.units0 hF I.ok.mod.kin J J'.type (by simp [PySem.W.notFirst]) hs hf ?_
  have r2 : Vals [V.ref a, V.ref b] [Value.ref a, Value.ref b] := .cons rfl (.cons rfl .nil)
  refine wpAny_mono (own_call F hb hr I.env0 I r2 hsp) (fun v s' q => ?_) fun _ _ e => e
  obtain ⟨z, H', I', rz, q⟩ := q
  have g : EP X pins σ Q v s' := ⟨z, H', I', rz, q⟩
  have : PySem.W.CmpBack (EP X pins σ Q) v s' := by
    cases v <;> first | exact g | (cases z <;> first | (cases rz; done) | (obtain ⟨t, e⟩ := rz; cases e))
  exact this
/-- a * n -/
theorem op_ownI {c k : Nat} {m : List D → RF} {op : Operator} {nm : Str} {fo ro rc : Option Value} (O : OpC X.prog X.w X.K X.mg X.base cl c nm 2 k m) (hn : PySem.dunder op.info.2 = nm) (hc : PySem.W.selfFirst X.K (cl c).at_ = true)
    (hR : PySem.W.findIn X.K (.ref (cl c).at_) (dunderR op.info.2) = some rc) (hp : rc = none ∨ ∃ g : Addr, rc = some (.ref g)) (h1 : PySem.W.findIn X.K (.type "int") (PySem.dunder op.info.2) = some fo) (h2 : PySem.W.findIn X.K (.type "int") (dunderR op.info.2) = some ro) (hsub : PySem.W.subIn X.K (.type "int") (.ref (cl c).at_) = some false)
    (hr : Room k X.A) : OpR X (binaryOp op) (rOwnI X.K cl c m) := by
  obtain ⟨f, fd, ps, F, hs, hf, hb⟩ := O.ex
  intro pins s σ H x y v u Q I rx ry h
  obtain ⟨a, i, dx, fs, rfl, rfl, ha, hsp⟩ := h
  cases rx
  obtain ⟨t, rfl⟩ := ry
  obtain ⟨mA, J, _⟩ := ins_get I.hok ha
  obtain ⟨od, J, _⟩ := J.look
  obtain ⟨m', hF⟩ := I.fr
  refine PySem.W.ksp_binT (T := "int") hF I.ok.mod.kin J rfl hc (by rw [hn]; exact hs) hf hR hp h1 h2 hsub ?_
  have r2 : Vals [V.ref a, V.int i] [Value.ref a, Value.int i t] := .cons rfl (.cons ⟨t, rfl⟩ .nil)
  refine wpAny_mono (own_call F hb hr I.env0 I r2 hsp) (fun v s' q => ?_) fun _ _ e => e
  obtain ⟨z, H', I', rz, q⟩ := q
  have g : EP X pins σ Q v s' := ⟨z, H', I', rz, q⟩
  have : PySem.W.CmpBack (EP X pins σ Q) v s' := by
    cases v <;> first | exact g | (cases z <;> first | (cases rz; done) | (obtain ⟨t, e⟩ := rz; cases e))
  exact this
/-- len(a) -/
def rLenO (K : PySem.W.Frag) (cl : Tb) (c : Nat) (m : List D → RF) : List V → Hp → VK → Prop := fun vs H Q => ∃ a dx fs, vs = [V.ref a] ∧ H a = some (.ins (cl c).at_ dx fs) ∧ spF K cl 1 m [V.ref a] H (fun v H' => ∃ n : Int, v = .int n ∧ 0 ≤ n ∧ n < 2 ^ 63 ∧ Q v H') E0
theorem cr_lenO {c k : Nat} {m : List D → RF} (O : OpC X.prog X.w X.K X.mg X.base cl c "__len__" 1 k m) (hr : Room (k + 1) X.A) : CallR X (.builtin "len") (rLenO X.K cl c m) := by
  obtain ⟨f, fd, ps, F, hs, hf, hb⟩ := O.ex
  intro pins s σ H vs us Q I r h
  obtain ⟨a, dx, fs, rfl, ha, hsp⟩ := h
  obtain ⟨u, rfl, ru⟩ := r.one
  obtain rfl : u = Value.ref a := ru
  obtain ⟨mA, J, _⟩ := ins_get I.hok ha
  obtain ⟨od, J, _⟩ := J.look
  obtain ⟨m', hF⟩ := I.fr
  refine PySem.W.len_K hF I.ok.mod.kin J hs hf ?_
  have e0 : Env0 X.prog X.w X.K X.mg X.base X.A.in1 X.stack s H := by
    have e := I.env0
    exact ⟨e.frames, e.mod, e.bs, e.bsz, e.funs, e.frf, e.hok, e.bare⟩
  have r2 : Vals [V.ref a] [Value.ref a] := .cons rfl .nil
  refine wpAny_mono (own_call F hb hr.in1 e0 I r2 hsp) (fun v s' q => ?_) fun _ _ e => e
  obtain ⟨z, H', I', rz, n, rfl, h0, h1, q⟩ := q
  obtain ⟨t, rfl⟩ := rz
  exact ⟨⟨h0, h1⟩, .int n, H', I'.tok _, ⟨_, rfl⟩, q⟩
end
section
variable {X : Cx} {cl : Tb} {W : WX'}
def lenO (c : Nat) (m : List D → RF) (xs : List D) : Option D := match xs with
  | [x] => if isObj' c x && x.pure then (match m [x] with | .rt (.int n) => if yes (0 ≤ n ∧ n < 2 ^ 63) then some (.int n) else none | _ => none) else none
  | _ => none
theorem d_lenO {c : Nat} {m : List D → RF} : DoesL X cl (lenO c m) (rLenO X.K cl c m) := fun x d hd G F H S C vx Q st ox k => by
  unfold lenO at hd
  split at hd
  · rename_i x
    split at hd
    · rename_i h
      rw [Bool.and_eq_true] at h
      obtain ⟨h1, h2⟩ := h
      split at hd
      · rename_i n hm
        split at hd
        · rename_i hn
          cases hd
          obtain ⟨v, rfl, o⟩ := owns1 ox
          obtain ⟨a, dx, fs, rfl, ha⟩ := obj_own h1 o
          obtain ⟨hn0, hn1⟩ := of_yes hn
          refine ⟨a, dx, fs, rfl, st.sub _ _ ha, rfl, F, [x], st.sub, ⟨.ref a, _, zf, zf, rfl, o.of_pure h2, rfl, fun _ => Nat.le_refl _⟩, ?_⟩
          rw [hm]
          intro v F' H' B' le lh st' ov
          have ev : v = .int n := ov
          subst ev
          have st1 : Sta G F H (fun z => zf z + S z) := st.less fun z => by show zf z + S z ≤ C z + S z; unfold zf; omega
          have e1 : Ev X.K cl G F H S F H [] [] zf zf := Ev.self st1 rfl
          have e2 := e1.call le lh st'
          exact ⟨n, rfl, hn0, hn1, k _ F' H' zf le e2.ag (e2.st.less fun z => by show zf z + S z ≤ zf z + (B' z + S z); unfold zf; omega) rfl⟩
        · cases hd
      · cases hd
    · cases hd
  · cases hd
end
end
end FL

set_option Elab.async false
set_option linter.all false
set_option maxRecDepth 100000
namespace FL
open PySem L2
open PyProof.Rows (envOfC)
noncomputable section
/-! ### o.m(), o an expression -/
def eMth0 (c : Nat) (m : List D → RF) (dd : List D) (o : Rho → RX D) : Rho → RX D := fun ρ => (o ρ).bind fun d ρ1 => if isObj' c d && d.pure then (match m (d :: dd) with
  | .rt r => .ok r ρ1
  | .ex c' xs => .ex c' xs ρ1
  | .bad => .bad) else .bad
section
variable {X : Cx} {cl : Tb} {W : WX'}
variable {G : Gh} {F H F' H' : Hp} {R B A A' : Fp} {σ : St} {ρ ρ' : Rho} {pos : Pos}
theorem fe_methE0 {pl : Sem Bool} {c : Nat} {x : Str} {k n : Nat} {m : List D → RF} {dd : List D} {apos : Pos} {oe : Expr} {o : Rho → RX D} (Mc : MthC X.prog X.w X.K X.mg X.base cl c x k n m dd) (hr : Room k X.A) (tk : Takes X W) (ho : FE X cl W oe o)
    (ht : eval (.Call (.Attribute oe x apos) [] [] pos) X.env = (do
      let ov ← eval oe X.env
      standAt apos.atName
      let (f, first) ← holding [ov] (getMethod ov x pl)
      callWith pos f first (backTo pos (starEach [] X.env)) (backToKw pos (keywordEach [] X.env))) := by rfl) : FE X cl W (.Call (.Attribute oe x apos) [] [] pos) (eMth0 c m dd o) := by
  obtain ⟨⟨f, fd, ps, ds, dv, h1, h2, h3, hx, h4, h5, h6⟩, hl⟩ := Mc
  refine PE_imp (t := fun σ H Q => tX X.K cl W (rD X.K cl) o σ H fun v H1 => ∃ a dx fs, v = .ref a ∧ H1 a = some (.ins (cl c).at_ dx fs) ∧ fs.lookup x = none ∧ spF X.K cl n m (v :: dv) H1 Q (WE W σ)) ⟨fun pins s σ H Q I h => ?_⟩ fun σ H Q q => ?_
  · refine PySem.W.methodCall_KW (pl := pl) (thn (ho.run pins s σ H _ I h) fun u s1 ⟨v, H1, I1, rx, b, dx, fs, ex, eb, l, q⟩ => ?_) ht
    subst ex
    obtain rfl : u = Value.ref b := rx
    refine getmeth_ok I1 eb h2 h3 l ?_
    exact PySem.W.callWith_K0 (first := [.ref b]) I1.kIn h3.kp (run_fnSD (us := [.ref b]) (vs := [.ref b]) (E := WE W) h1 hr h4 h5 (passAt tk σ) I1 (.cons rfl .nil) q)
  · obtain ⟨G, F, ρ, A, R, st, en, p⟩ := q
    refine ⟨G, F, ρ, A, R, st, en, Pst.bind p fun d ρ1 v1 F1 H1 A1 B1 e1 o1 p1 => ?_⟩
    by_cases hc : (isObj' c d && d.pure) = true
    · simp only [hc, if_true] at p1
      rw [Bool.and_eq_true] at hc
      obtain ⟨hc1, hp⟩ := hc
      cases d with
      | obj c' ds =>
        have ec : c' = c := by simpa [isObj'] using hc1
        subst ec
        have oz := o1.of_pure (H' := H1) hp
        obtain ⟨b, dx, xs, rfl, hb, hz, os⟩ := oz
        have e3 : Ev X.K cl G F1 H1 R F1 H1 σ ρ1 A1 zf := Ev.self (e1.st.less fun x => by show A1 x + R x ≤ A1 x + (B1 x + R x); omega) e1.en
        have oself : Own X.K cl F1 H1 (.obj c' ds) (.ref b) zf := ⟨b, dx, xs, rfl, hb, hz, os⟩
        have o4 : Owns X.K cl F1 H1 (.obj c' ds :: dd) (.ref b :: dv) zf := ⟨.ref b, _, zf, zf, rfl, oself, h6 _ _, fun _ => Nat.le_refl _⟩
        refine ⟨b, dx, _, rfl, e1.st.sub _ _ hb, zip_none xs hx, ?_, F1, _, e1.st.sub, o4, ?_⟩
        · rw [← Owns.length o4]
          refine hl _ fun z => ?_
          simp only [z] at p1
          exact p1
        · cases hm : m (.obj c' ds :: dd) with
          | rt d =>
            simp only [hm] at p1
            exact fun v F' H' B le lh st' o => p1 v F' H' A1 B (e3.call le lh st') o
          | ex c xs =>
            simp only [hm] at p1
            exact fun u d F' H' le lh st' o => p1 u d F' H' A1 (e3.call le lh st') o
          | bad => simp only [hm] at p1; exact p1.elim
      | _ => cases hc1
    · simp only [hc] at p1; exact p1.elim
end

/-! ### a def that calls itself: by fuel -/
def mBad : List D → RF := fun _ => .bad
theorem fn_bad {P : Program} {w : World} {K : PySem.W.Frag} {cl : Tb} {mg : Str → Option Value} {base : Heap} {x qual : Str} {st : Stmt} {f : Addr} {fd : FuncData} {N ps : List Str} {k n : Nat}
    (Fn : Fun K x qual st f fd) (S : FnScope N ps (defScope st)) : FnOk P w K mg base (L2.CX P w) (k + 1) f fd ps (spF K cl n mBad) := by
  refine Fn.okX S (fun vs H Q E h => ?_) fun cdv A outer s H vs Q E hr h => ?_
  · obtain ⟨hl, F, ds, le, os, p⟩ := h
    exact p.elim
  · obtain ⟨hl, F, ds, le, os, p⟩ := h
    exact p.elim
/-- the function, by fuel -/
def fuel (g : (List D → RF) → List D → RF) : Nat → List D → RF
  | 0 => mBad
  | n + 1 => g (fuel g n)
theorem fuel_len {g : (List D → RF) → List D → RF} {np : Nat} (h : ∀ f l, g f l ≠ .bad → l.length = np) : ∀ n l, fuel g n l ≠ .bad → l.length = np
  | 0, l, q => absurd rfl q
  | n + 1, l, q => h _ l q
theorem fn_fuel {P : Program} {w : World} {K : PySem.W.Frag} {cl : Tb} {mg : Str → Option Value} {base : Heap} {x qual : Str} {st : Stmt} {f : Addr} {fd : FuncData} {N ps : List Str} {k n : Nat} {g : (List D → RF) → List D → RF}
    (Fn : Fun K x qual st f fd) (S : FnScope N ps (defScope st)) (hg : ∀ j m, (∀ l, m l ≠ .bad → l.length = n) → FnOk P w K mg base (L2.CX P w) (k + 1 + j) f fd ps (spF K cl n m) → FnOk P w K mg base (L2.CX P w) (k + 1 + j + 1) f fd ps (spF K cl n (g m)))
    (hl : ∀ f l, g f l ≠ .bad → l.length = n) : ∀ j, FnOk P w K mg base (L2.CX P w) (k + 1 + j) f fd ps (spF K cl n (fuel g j))
  | 0 => fn_bad Fn S
  | j + 1 => hg j _ (fuel_len hl j) (fn_fuel Fn S hg hl j)

/-! ### own classes: isinstance -/
/-- is it one of the class c? -/
def tabC (c : Nat) : String ⊕ Nat → Option Bool
  | .inr c' => if c' = c then some true else none
  | _ => none
theorem tab_C {K : PySem.W.Frag} {cl : Tb} {c : Nat} (h : InsTy K (cl c).at_) (hk : PySem.W.kitOne K (.ref (cl c).at_) (.ref (cl c).at_) = some true) : Tab K cl (.ref (cl c).at_) (tabC c) := by
  refine ⟨(fun n b e => by cases e), (fun c' b e => ?_)⟩
  · have e' : (if c' = c then some true else none) = some b := e
    by_cases h2 : c' = c
    · subst h2
      rw [if_pos rfl] at e'
      cases e'
      exact ⟨h, hk⟩
    · rw [if_neg h2] at e'; cases e'
/-! ### the classes' facts -/
theorem mthC_mk {P : Program} {w : World} {K : PySem.W.Frag} {mg : Str → Option Value} {base : Heap} {cl : Tb} {c : Nat} {x : Str} {k n : Nat} {m : List D → RF} {f : Addr} {fd : FuncData} {ps : List Str} (F : FnOk P w K mg base (L2.CX P w) k f fd ps (spF K cl n m)) (hc : Cls K (cl c).at_)
    (ha : PySem.W.findIn K (.ref (cl c).at_) x = some (some (.ref f))) (hi : PySem.W.isFn K (.ref f) = true) (hk : PySem.W.keepIn K (.ref f) = true) (hx : x ∉ (cl c).fs) (hb : Binds K fd ps []) (hl : ∀ l, m l ≠ .bad → l.length = n) : MthC P w K mg base cl c x k n m [] :=
  ⟨⟨f, fd, ps, [], [], F, hc, ⟨ha, hi, hk⟩, hx, hb, .nil, fun _ _ => rfl⟩, hl⟩
theorem makC_mk {P : Program} {w : World} {K : PySem.W.Frag} {mg : Str → Option Value} {base : Heap} {cl : Tb} {c : Nat} {x : Str} {k n : Nat} {m : List D → RF} {f : Addr} {fd : FuncData} {ps : List Str} (F : FnOk P w K mg base (L2.CX P w) k f fd ps (spI K cl c n m)) (hm : mg x = some (.ref (cl c).at_))
    (mk : PySem.W.makesIn K (cl c).at_ = true) (ha : PySem.W.findIn K (.ref (cl c).at_) "__init__" = some (some (.ref f))) (hi : PySem.W.isFn K (.ref f) = true) (hk : PySem.W.keepIn K (.ref (cl c).at_) = true) (hb : Binds K fd ps []) (hl : ∀ l, m l ≠ .bad → l.length = n) : MakC P w K mg base cl c x k n m [] :=
  ⟨⟨f, fd, ps, [], [], F, hm, ⟨mk, ha, hi, hk⟩, hb, .nil, fun _ _ => rfl⟩, hl⟩
theorem prpC_mk {P : Program} {w : World} {K : PySem.W.Frag} {mg : Str → Option Value} {base : Heap} {cl : Tb} {c : Nat} {x : Str} {k : Nat} {m : List D → RF} {f p : Addr} {fd : FuncData} {ps : List Str} {rest : List Value} (F : FnOk P w K mg base (L2.CX P w) k f fd ps (spF K cl 1 m)) (hc : Cls K (cl c).at_)
    (ha : PySem.W.findIn K (.ref (cl c).at_) x = some (some (.ref p))) (hg : PySem.W.specialIn K (.ref p) "__get__" = some (some (.builtin "property.__get__"))) (ht : PySem.W.takesIn K (.ref p) = some true) (hr : PySem.W.recIn K p "property" = some (.ref f :: rest)) (hb : Binds K fd ps []) : PrpC P w K mg base cl c x k m :=
  ⟨f, p, fd, ps, F, hc, ⟨ha, hg, ht, rest, hr⟩, hb⟩
theorem opC_mk {P : Program} {w : World} {K : PySem.W.Frag} {mg : Str → Option Value} {base : Heap} {cl : Tb} {c : Nat} {x : Str} {k n : Nat} {m : List D → RF} {f : Addr} {fd : FuncData} {ps : List Str} (F : FnOk P w K mg base (L2.CX P w) k f fd ps (spF K cl n m))
    (ha : PySem.W.findIn K (.ref (cl c).at_) x = some (some (.ref f))) (hi : PySem.W.isFn K (.ref f) = true) (hb : Binds K fd ps []) : OpC P w K mg base cl c x n k m := ⟨f, fd, ps, F, ha, hi, hb⟩
/-! ### the law's end, whatever the classes are -/
def spTop (K : PySem.W.Frag) (m : List D → RF) : Sp := fun vs H Q _ => ∃ (a : Addr) (ns : List Int), vs = [V.ref a] ∧ SqL K H a (ns.map V.int) ∧ m [.lst (ns.map D.int)] = .rt (.bl true) ∧ ∀ H', Q (.bl true) H'
theorem fn_top {P : Program} {w : World} {K : PySem.W.Frag} {mg : Str → Option Value} {base : Heap} {cl : Tb} {k : Nat} {m : List D → RF} {f : Addr} {fd : FuncData} {ps : List Str} (F : FnOk P w K mg base (L2.CX P w) k f fd ps (spF K cl 1 m)) : FnOk P w K mg base (L2.CX P w) k f fd ps (spTop K m) :=
  F.imp fun vs H Q E ⟨a, ns, e, hS, hm, q⟩ => by
    subst e
    refine ⟨rfl, H, [.lst (ns.map D.int)], Le.refl, ⟨.ref a, [], zf, zf, rfl, ⟨a, _, rfl, hS, owns_ints' ns⟩, rfl, fun _ => Nat.le_refl _⟩, ?_⟩
    rw [hm]
    exact fun v F' H' B _ _ _ o => by
      have e : v = .bl true := o
      subst e
      exact q H'
theorem walk_top {l : PySem.W.OpenLaw} {k : Nat} {q : Program} {loose : List Str} {XP : (Str → Option Value) → Heap → Prop} {YP : World → Heap → Prop} {d : DefRec} {K : Params → PySem.W.Frag} {x : Str} {m : World → List D → RF}
    (hn : l.most = some 63) (hdf : d.params.defaults = []) (hr : Room k callerA) (hY : ∀ (w : World) (h : Heap), YP w h → (K w.params).In h)
    (F : ∀ (w : World) (mg : Str → Option Value) (fa : Addr) (h : Heap), (K w.params).In h → h.Ns mainGlobals mg → mg d.name = some (.ref fa) →
      ∃ fd : FuncData, (∀ (s : Shared) (u : Value), BindsTo s fd ⟨[u], []⟩ [(x, u)]) ∧
        ∀ base : Heap, (K w.params).In base → base.Ns mainGlobals mg → FnOk l.prog w (K w.params) mg base (L2.CX l.prog w) k fa fd [x] (spTop (K w.params) (m w)))
    (hm : ∀ (w : World) (ns : List Int), ns.length ≤ 63 → m w [.lst (ns.map D.int)] = .rt (.bl true)) :
    PySem.W.WalkO q loose XP YP l.row.toRowW d [] (fun f vs => PySem.call f vs) :=
  L2.walk_of (n := 63) (k := k) (x := x) (CX := fun w => L2.CX l.prog w) (sp := fun w => spTop (K w.params) (m w)) hn (by decide) hdf hr hY F (fun w H a ns hl _ hS => ⟨a, ns, rfl, hS, hm w ns hl, fun _ => rfl⟩) fun w H s e s' z => by
      obtain ⟨_, _, _, _, _, _, _, _, _, _, _, _, z⟩ := z
      exact z
/-- a def within a class -/
def inCls (s : Stmt) (i : Nat) : Stmt := match s with
  | .ClassDef _ _ _ b _ _ _ _ _ _ _ => b.getD i (.Pass ⟨0, 0, 0, 0⟩)
  | _ => .Pass ⟨0, 0, 0, 0⟩
end
end FL

set_option Elab.async false
set_option linter.all false
set_option maxRecDepth 100000
namespace FL
open PySem L2
noncomputable section
theorem ClsT.at' {K : PySem.W.Frag} {mg : Str → Option Value} {cl : Tb} {c : Nat} {nm : Str} {fl : List Str} (T : ClsT K mg cl c nm fl) (sf : Addr) : ClsT K mg (cl.at' sf) c nm fl := ⟨T.mgC, T.fse, T.cls, T.no, T.ins, T.fst, T.kit⟩
section
variable {X : Cx} {cl : Tb} {W : WX'} {pos : Pos}
/-- a power of two constants -/
theorem fq_pow {a b c : Int} {j1 j2 p1 p2} (hc : CPow a b) (e : a ^ b.toNat = c) : FQ X cl (.BinOp (.Constant (.int a) j1 p1) .Pow (.Constant (.int b) j2 p2) pos) (qC (.int c)) :=
  PE_imp (pe_op op_pow pe_int pe_int) fun σ H Q q => by
  obtain ⟨G, F, ρ, A, R, st, en, p⟩ := q
  have p' : Q (.int c) H := p (.int c) rfl
  exact ⟨a, b, rfl, rfl, hc, by show Q (.int (a ^ b.toNat)) H; rw [e]; exact p'⟩
theorem fg_sub {tg : Expr} {vs vs' : List Nat} {m : D → Rho → Option Rho} (h : FG X cl tg vs m) (hs : ∀ i ∈ vs, i ∈ vs') : FG X cl tg vs' m := PG_imp h fun v σ H Q q => by
  obtain ⟨G, F, ρ, A, B, R, d, st, en, o, q⟩ := q
  refine ⟨G, F, ρ, A, B, R, d, st, en, o, ?_⟩
  cases hm : m d ρ with
  | none => rw [hm] at q; exact q.elim
  | some ρ1 =>
    rw [hm] at q
    exact fun σ' F' H' A' hw e => q σ' F' H' A' (wipe_ext (wipe_len hw) fun i hi => wipe_at hw fun z => hi (hs i z)) e
/-- isinstance(x, C) of an own class -/
theorem fq_isC {e : Expr} {m : Rho → Option D} {c : Nat} {nm : Str} {fl : List Str} {p p2 : Pos} (T : ClsT X.K X.mg cl c nm fl) (hg : Gl X "isinstance") (hm : X.mg "isinstance" = none) (hn : Gl X nm) (ha : FQ X cl e m)
    (hd : (nm == ("__debug__" : Str)) = false := by decide)
    (he : starEach [e, .Name nm p2] X.env = (false, eval e X.env) :: starEach [.Name nm p2] X.env := by rfl) (he' : starEach [.Name nm p2] X.env = [(false, eval (.Name nm p2) X.env)] := by rfl) (hpl : (backTo pos (starEach [.Name nm p2] X.env)).any (·.1) = false := by rfl) :
    FQ X cl (.Call (.Name "isinstance" p) [e, .Name nm p2] [] pos) (qUn (isiD (tabC c)) m) :=
  fq_isi (tab_C T.ins T.kit) (.own _) hg hm ha (pe_glob hn T.mgC rfl hd) he he' hpl
end
section
open PyProof.Rows (envOfC)
variable {cl : Tb} {F H F' H' : Hp}
theorem fn_ID {P : Program} {w : World} {K : PySem.W.Frag} {mg : Str → Option Value} {base : Heap} {x qual : Str} {st : Stmt} {f : Addr} {fd : FuncData} {N ps : List Str} {k n nN c : Nat} {b : Rho → RS}
    {dvs : List V} {kws : List (Str × V)} (Fn : FunD K x qual (defArgs st) (defBody st) (defScope st) dvs kws f fd) (S : FnScope N ps (defScope st)) (hn : n + 1 = ps.length) (hN : nN = N.length)
    (hb : ∀ (sf : Addr) (cdv : Value) (A : Around) (outer : List Env) (s : Shared) (H : Hp) (E : XK), Room k (A.deeper (envOfC qual (defScope st) s.heap.objs.size f cdv)) →
      FSs (cxOf (L2.CX P w) P w K mg base N qual (defScope st) f cdv A outer s H E) (cl.at' sf) (fun c d _ H => E c d H) (defBody st) b) :
    FnOk P w K mg base (L2.CX P w) (k + 1) f fd ps (spI K cl c n (runI c n nN b)) := by
  refine Fn.ok S (fun vs H Q E h => h.1.trans hn) fun cdv A outer s H vs Q E hr h => ?_
  obtain ⟨hl, x, dx, vs', F, ds, rfl, hx, fx, le, os, p⟩ := h
  refine ⟨_, hb x cdv A outer s H E hr, ?_⟩
  have hds : ds.length = vs'.length := Owns.length os
  have hl' : vs'.length = n := by simpa using hl
  have st0 : Sta ⟨del' H x, F⟩ F H (one x) := by
    refine ⟨le, fun a o e => ?_, Le.refl, fun a o e => .inl e, fun a ha => ?_, fun a => ?_, fun a xs ha => ?_⟩
    · have e' : (if a = x then none else H a) = some o := e
      split at e'
      · cases e'
      · exact e'
    · unfold one at ha
      by_cases h : a = x
      · subst h; exact ⟨fx, by show (if a = a then none else H a) = none; simp, _, hx⟩
      · rw [if_neg h] at ha; omega
    · unfold one; split <;> omega
    · unfold one at ha
      by_cases h : a = x
      · subst h; rw [hx]; intro e; cases e
      · rw [if_neg h] at ha; omega
  have slots : EnvR K (cl.at' x) F H (some (.mobj c []) :: (ds.map some ++ List.replicate (nN - 1 - n) none)) (L2.start N (.ref x :: vs')) (one x) := by
    have e1 : L2.start N (V.ref x :: vs') = some (.ref x) :: (vs'.map some ++ List.replicate (nN - 1 - n) none) := by
      unfold L2.start
      rw [List.map_cons, List.cons_append, List.length_cons, hl', hN]
      congr 3
      omega
    rw [e1]
    refine ⟨.ref x, _, one x, zf, rfl, ⟨x, dx, [], zf, ⟨rfl, rfl⟩, fx, by simpa [Tb.at'] using hx, by simp, rfl, fun z => by show one x z + zf z ≤ one x z; unfold zf; omega⟩, EnvR.args os.tb (EnvR.none_all _), fun z => by show one x z + zf z ≤ one x z; unfold zf; omega⟩
  refine ⟨⟨del' H x, F⟩, F, _, one x, zf, st0.less fun z => by show one x z + zf z ≤ one x z; unfold zf; omega, slots, ?_⟩
  have keepH : ∀ {F' H' : Hp} {S : Fp}, Sta ⟨del' H x, F⟩ F' H' S → ∀ a o, a ≠ x → H a = some o → H' a = some o := fun {F' H' S} s a o ne e => s.ent a o (by show (if a = x then none else H a) = some o; rw [if_neg ne]; exact e)
  unfold runI at p
  rw [if_pos (hds.trans hl')] at p
  split at p
  · rename_i d heq
    split at heq
    · rename_i ρ hb2
      rw [hb2]
      split at heq
      · rename_i c' es hρ
        by_cases hc : c' = c
        · rw [if_pos hc] at heq
          cases heq
          subst hc
          intro σ F' H' A' e
          obtain ⟨v, B, C, hv, o, _, hs⟩ := e.en.get hρ
          obtain ⟨a, dx', xs, B', ⟨rfl, ea⟩, fa, hH, hz, oo, hs'⟩ := o
          have ea' : a = x := ea
          subst ea'
          -- self is frozen
          have st1 : Sta ⟨del' H a, F⟩ F' H' (fun z => zf z + (B z + zf z)) := e.st.less fun z => by have := hs z; show zf z + (B z + zf z) ≤ A' z + (zf z + zf z); unfold zf; omega
          obtain ⟨le2, st2⟩ := fz_st (B := B) st1
          have ov : Own K (cl.at' a) (fz F' H' B) H' (.obj c' (D.frzs es)) (.ref a) zf := by
            have o1 : Own K (cl.at' a) F' H' (.mobj c' es) (.ref a) B := ⟨a, dx', xs, B', ⟨rfl, rfl⟩, fa, hH, hz, oo, hs'⟩
            exact o1.freeze le2 fun b hb => fz_at hb
          exact p _ H' (e.le.trans le2) (keepH e.st) (st2.less fun z => by show zf z ≤ _; exact Nat.zero_le _) ov.untb
        · rw [if_neg hc] at heq; cases heq
      · cases heq
    · cases heq
    · cases heq
  · rename_i c' es heq
    split at heq
    · split at heq
      · split at heq <;> cases heq
      · cases heq
    · rename_i hb2
      rw [hb2]
      cases heq
      exact fun u d σ F' H' A' e o => p u d F' H' e.le (keepH e.st) (e.st.less fun z => by show zf z ≤ _; exact Nat.zero_le _) o.untb
    · cases heq
  · exact p.elim

theorem runI_len {c np n : Nat} {b : Rho → RS} : ∀ l, runI c np n b l ≠ .bad → l.length = np := fun l h => by
  unfold runI at h
  split at h
  · assumption
  · exact absurd rfl h
end
/-! ### o.m(k=e) -/
structure MthK (P : Program) (w : World) (K : PySem.W.Frag) (mg : Str → Option Value) (base : Heap) (cl : Tb) (c : Nat) (x : Str) (k n : Nat) (m : List D → RF) (ks : List Str) : Prop where
  ex : ∃ (f : Addr) (fd : FuncData) (ps : List Str), FnOk P w K mg base (L2.CX P w) k f fd ps (spF K cl n m) ∧ Cls K (cl c).at_ ∧ Meth K (cl c).at_ x f ∧ x ∉ (cl c).fs ∧ n = 1 + ks.length ∧
    ∀ (us ws : List Value), us.length = 1 → ws.length = ks.length → bindArgs fd ⟨us, ks.zip ws⟩ = pure (ps.zip (us ++ ws))
  len : ∀ l, m l ≠ .bad → l.length = n
theorem mthK_mk {P : Program} {w : World} {K : PySem.W.Frag} {mg : Str → Option Value} {base : Heap} {cl : Tb} {c : Nat} {x : Str} {k n : Nat} {m : List D → RF} {f : Addr} {fd : FuncData} {ps ks : List Str} (F : FnOk P w K mg base (L2.CX P w) k f fd ps (spF K cl n m)) (hc : Cls K (cl c).at_)
    (ha : PySem.W.findIn K (.ref (cl c).at_) x = some (some (.ref f))) (hi : PySem.W.isFn K (.ref f) = true) (hk : PySem.W.keepIn K (.ref f) = true) (hx : x ∉ (cl c).fs) (hn : n = 1 + ks.length)
    (hb : ∀ (us ws : List Value), us.length = 1 → ws.length = ks.length → bindArgs fd ⟨us, ks.zip ws⟩ = pure (ps.zip (us ++ ws))) (hl : ∀ l, m l ≠ .bad → l.length = n) : MthK P w K mg base cl c x k n m ks := ⟨⟨f, fd, ps, F, hc, ⟨ha, hi, hk⟩, hx, hn, hb⟩, hl⟩
section
variable {X : Cx} {cl : Tb} {W : WX'} {pos : Pos}
theorem fe_methK0 {pl : Sem Bool} {c : Nat} {x : Str} {k n : Nat} {m : List D → RF} {ks : List Str} {apos : Pos} {oe : Expr} {kws : List Keyword} {o : Rho → Option D} {b : Rho → RX (List D)} (Mc : MthK X.prog X.w X.K X.mg X.base cl c x k n m ks) (hr : Room k X.A) (tk : Takes X W) (ho : FQ X cl oe o) (hkw : FK X cl W kws b)
    (hall : (backToKw pos (keywordEach kws X.env)).all (·.1.isSome) = true := by rfl) (hks : (backToKw pos (keywordEach kws X.env)).filterMap (·.1) = ks := by rfl)
    (hpl : ((backTo pos (starEach [] X.env)).any (·.1) || (backToKw pos (keywordEach kws X.env)).any (·.1.isNone)) = false := by rfl)
    (ht : eval (.Call (.Attribute oe x apos) [] kws pos) X.env = (do
      let ov ← eval oe X.env
      standAt apos.atName
      let (f, first) ← holding [ov] (getMethod ov x pl)
      callWith pos f first (backTo pos (starEach [] X.env)) (backToKw pos (keywordEach kws X.env))) := by rfl) : FE X cl W (.Call (.Attribute oe x apos) [] kws pos) (eMth c m [] o b) := by
  obtain ⟨⟨f, fd, ps, h1, h2, h3, hx, hn, hb⟩, hl⟩ := Mc
  have kb : KBn X.K fd ps 1 ks (fun us ws => us ++ ws) (fun vs zs => vs ++ zs) := ⟨fun s us ws _ l1 l2 => .of_eq (hb us ws l1 l2), fun r1 r2 => r1.append r2⟩
  refine PE_imp (t := tMethS (cl c).at_ x (spF X.K cl n m) [] (WE W) (tQ X.K cl o) (tX X.K cl W (rL X.K cl) b)) ⟨fun pins s σ H Q I h => ?_⟩ fun σ H Q q => meth_imp (dd := []) (dv := []) (fun _ _ => rfl) hl hx σ H Q q
  refine PySem.W.methodCall_KW (pl := pl) (thn (ho.run pins s σ H _ I h) fun u s1 ⟨v, H1, I1, rx, b', dx, fs, ex, eb, l, q⟩ => ?_) ht
  subst ex
  obtain rfl : u = Value.ref b' := rx
  refine getmeth_ok I1 eb h2 h3 l ?_
  refine PySem.W.callWith_KW0 (first := [.ref b']) (h₀ := X.base) I.ok.mod.kin h3.kp hall ?_ hpl
  refine thn (hkw.run pos pins s1 σ H1 _ I1 q) fun ws s2 ⟨zs, H2, I2, rz, q2⟩ => ⟨I2.kIn, ?_⟩
  rw [hks]
  have q3 : spF X.K cl n m ([V.ref b'] ++ zs) H2 Q (WE W σ) := by
    have : (V.ref b' :: (zs ++ [])) = [V.ref b'] ++ zs := by rw [List.append_nil]; rfl
    rw [← this]
    exact q2
  have l2 : zs.length = ks.length := by
    have := q3.1
    rw [List.length_append, List.length_singleton] at this
    omega
  exact run_fnNS (us := [.ref b']) (vs := [.ref b']) h1 hr kb (passAt tk σ) I2 (.cons rfl .nil) rz rfl l2 q3
end
/-! ### isinstance(x, (list, tuple)) -/
def tabLT (n : String) : Option Bool := if n = "list" then some true else if n = "tuple" then some true else if n = "int" then some false else if n = "bool" then some false else if n = "str" then some false else if n = "NoneType" then some false else if n = "dict" then some false else none
theorem tabLT_is {K : PySem.W.Frag} {n : String} {b : Bool} (h : tabLT n = some b) : PySem.W.kitAny K (.type n) [.type "list", .type "tuple"] = some b := by
  unfold tabLT at h
  have tt : ∀ m : String, PySem.W.kitOne K (.type m) (.type "list") = some true → PySem.W.kitAny K (.type m) [.type "list", .type "tuple"] = some true := fun m h => kitAny_cons (b := true) h (fun z => nomatch z) fun _ => rfl
  have ft : ∀ (m : String) (r : Bool), PySem.W.kitOne K (.type m) (.type "list") = some false → PySem.W.kitOne K (.type m) (.type "tuple") = some r → PySem.W.kitAny K (.type m) [.type "list", .type "tuple"] = some r := fun m r h h2 =>
    kitAny_cons (b := false) h (fun _ => kitAny_cons (b := r) h2 (fun e => by subst e; rfl) fun e => by subst e; rfl) fun z => nomatch z
  split at h
  · rename_i e; subst e; cases h; exact tt _ (kit_ty (by decide +kernel))
  split at h
  · rename_i e; subst e; cases h; exact ft _ _ (kit_ty (by decide +kernel)) (kit_ty (by decide +kernel))
  split at h
  · rename_i e; subst e; cases h; exact ft _ _ (kit_ty (by decide +kernel)) (kit_ty (by decide +kernel))
  split at h
  · rename_i e; subst e; cases h; exact ft _ _ (kit_ty (by decide +kernel)) (kit_ty (by decide +kernel))
  split at h
  · rename_i e; subst e; cases h; exact ft _ _ (kit_ty (by decide +kernel)) (kit_ty (by decide +kernel))
  split at h
  · rename_i e; subst e; cases h; exact ft _ _ (kit_ty (by decide +kernel)) (kit_ty (by decide +kernel))
  split at h
  · rename_i e; subst e; cases h; exact ft _ _ (kit_ty (by decide +kernel)) (kit_ty (by decide +kernel))
  · cases h
def ltV : List D := [.val (.ty "list"), .val (.ty "tuple")]
def isLT : D → Option D
  | .tup _ => some (.bl true) | .lst _ => some (.bl true) | .vec _ => some (.bl true)
  | .int _ => some (.bl false) | .bl _ => some (.bl false) | .str _ => some (.bl false) | .non => some (.bl false)
  | .dT _ _ => some (.bl false) | .vT _ _ => some (.bl false) | .dK _ _ => some (.bl false) | .vK _ _ => some (.bl false)
  | _ => none
def isiLT (xs : List D) : Option D := match xs with
  | [d, .tup [.val (.ty a), .val (.ty b)]] => if a = "list" ∧ b = "tuple" then isLT d else none
  | _ => none
section
variable {X : Cx} {cl : Tb} {W : WX'} {pos : Pos}
theorem isLT_ty {K : PySem.W.Frag} {F H : Hp} {d r : D} {v : V} {A : Fp} (h : isLT d = some r) (sub : Le F H) (o : Own K cl F H d v A) : ∃ n b, r = .bl b ∧ TyX K H v (.type n) ∧ tabLT n = some b := by
  cases d with
  | non => cases h; have e : v = .non := o; subst e; exact ⟨_, _, rfl, .base .non, rfl⟩
  | bl k => cases h; have e : v = .bl k := o; subst e; exact ⟨_, _, rfl, .base (.bl k), rfl⟩
  | int k => cases h; have e : v = .int k := o; subst e; exact ⟨_, _, rfl, .base (.int k), rfl⟩
  | str k => cases h; have e : v = .str k := o; subst e; exact ⟨_, _, rfl, .base (.str k), rfl⟩
  | tup ds => cases h; obtain ⟨a, xs, rfl, q, r⟩ := o; exact ⟨_, _, rfl, ty_tup (sub.sqT q.1), rfl⟩
  | lst ds => cases h; obtain ⟨a, xs, rfl, q, r⟩ := o; exact ⟨_, _, rfl, ty_list (sub.sqL q), rfl⟩
  | vec ds => cases h; obtain ⟨a, xs, B, rfl, n, q, r, s⟩ := o; exact ⟨_, _, rfl, ty_list (SqL.of q), rfl⟩
  | obj c ds => cases h
  | mobj c ds => cases h
  | exc c ds => cases h
  | dT ks ds => cases h; obtain ⟨a, xs, rfl, q, r⟩ := o; exact ⟨_, _, rfl, .base (.dT (sub _ _ q)), rfl⟩
  | vT ks ds => cases h; obtain ⟨a, xs, B, rfl, n, q, r⟩ := o; exact ⟨_, _, rfl, .base (.dT q), rfl⟩
  | dK ks ds => cases h; obtain ⟨a, xs, rfl, q, r⟩ := o; exact ⟨_, _, rfl, .base (.dK (sub _ _ q)), rfl⟩
  | vK ks ds => cases h; obtain ⟨a, xs, B, rfl, n, q, r⟩ := o; exact ⟨_, _, rfl, .base (.dK q), rfl⟩
  | val w => cases h
theorem d_isiLT : DoesL X cl isiLT (rIsiT X.K) := fun x d hd G F H S C vx Q st ox k => by
  unfold isiLT at hd
  split at hd
  · rename_i d0 a b
    split at hd
    · rename_i hab
      obtain ⟨rfl, rfl⟩ := hab
      obtain ⟨v, r, B1, C1, rfl, o1, o2, hs⟩ := ox
      obtain ⟨v2, er, o3⟩ := owns1 o2
      obtain ⟨t, xs, ev, q, os⟩ := o3
      subst er ev
      obtain ⟨w1, r1, _, _, ex, h1, h2, _⟩ := os
      obtain ⟨w2, er, h3⟩ := owns1 h2
      have e1 : w1 = .ty "list" := h1
      have e2 : w2 = .ty "tuple" := h3
      subst ex er e1 e2
      obtain ⟨n, b, rfl, ty, ht⟩ := isLT_ty hd st.sub o1
      refine ⟨v, t, [.ty "list", .ty "tuple"], .type n, [.type "list", .type "tuple"], b, rfl, st.sub _ _ (q.2 rfl), .cons (.ty _) (.cons (.ty _) .nil), ty, tabLT_is ht, ?_⟩
      exact k _ F H zf Le.refl (fun _ _ => rfl) (st.less fun z => by show zf z + S z ≤ _; unfold zf; omega) rfl
    · cases hd
  · cases hd
theorem fe_val {e : Expr} {v : V} (h : PE X e (tC v)) : FE X cl W e (eC (.val v)) := fe_const h fun _ _ => rfl
end
theorem ref_inj {a b : Addr} (h : some (Value.ref a) = some (Value.ref b)) : a = b := by cases h; rfl
/-! ### the right side is quiet: it stays as it is -/
def eBinR (f : D → D → Option D) (a : Rho → RX D) (b : Rho → Option D) : Rho → RX D := fun ρ => (a ρ).bind fun x ρ1 => match b ρ1 with
  | some y => (match f x y with | some d => if d.pure then .ok d ρ1 else .bad | none => .bad)
  | none => .bad
section
variable {X : Cx} {cl : Tb} {W : WX'} {pos : Pos} {a b : Expr} {ma : Rho → RX D} {mb : Rho → Option D}
theorem binR_imp {f : D → D → Option D} {r : R2} (hf : Quiet2 X cl f r) {σ : St} {H : Hp} {Q : VK} (q : tX X.K cl W (rD X.K cl) (eBinR f ma mb) σ H Q) : tOp r (tX X.K cl W (rD X.K cl) ma) (tQ X.K cl mb) σ H Q := by
  obtain ⟨G, F, ρ, A, R, st, en, p⟩ := q
  refine ⟨G, F, ρ, A, R, st, en, Pst.bind p fun x ρ1 v1 F1 H1 A1 B1 e1 o1 p1 => ?_⟩
  refine ⟨G, F1, ρ1, A1, fun z => B1 z + R z, e1.st, e1.en, ?_⟩
  cases hb : mb ρ1 with
  | none => simp only [hb] at p1; exact p1.elim
  | some y =>
    simp only [hb] at p1
    intro v2 o2
    cases hd : f x y with
    | none => simp only [hd] at p1; exact p1.elim
    | some d =>
      simp only [hd] at p1
      split at p1
      · rename_i hp
        exact hf x y d hd F1 H1 (fun z => A1 z + B1 z) v1 v2 Q e1.st.sub (o1.up fun z => by show B1 z ≤ A1 z + B1 z; omega) (o2.up fun z => by show A1 z ≤ A1 z + B1 z; omega) fun v o => Pst.ok p1 e1 (o.of_pure hp)
      · exact p1.elim
theorem fe_cmpR {op : CmpOp} {f : D → D → Option D} {r : R2} (hf : Quiet2 X cl f r) (ho : OpR X (compareOp op) r) (ha : FE X cl W a ma) (hb : FQ X cl b mb) (hm : behindInMarks op b = false) : FE X cl W (.Compare a [op] [b] pos) (eBinR f ma mb) := PE_imp (pe_cmpR ho ha hb hm) fun _ _ _ q => binR_imp hf q
theorem ft_cmpRQ {op : CmpOp} {f : D → D → Option D} {r : R2} (hf : Quiet2 X cl f r) (ho : OpR X (compareOp op) r) (ha : FE X cl W a ma) (hb : FQ X cl b mb) (hm : behindInMarks op b = false) : FT X cl W (.Compare a [op] [b] pos) (tB1 (eBinR f ma mb)) := ft_cmp (pt_cmpR ho ha hb hm) fun _ _ _ q => binR_imp hf q
end
theorem kit_self (K : PySem.W.Frag) (C : Addr) : PySem.W.kitOne K (.ref C) (.ref C) = some true := by
  unfold PySem.W.kitOne
  simp
end
end FL

set_option Elab.async false
set_option linter.all false
set_option maxRecDepth 100000
set_option maxHeartbeats 4000000
/-! the program of rimcords_k03_lots_turned: its defs as functions, and their walks -/
namespace Prg
open PySem L2 FL
open PyProof.Rows (envOfC)
def topS (i : Nat) : Stmt := PySem.Challenge.pw_rimcords_k03_lots_turned.main.body.getD i (.Pass ⟨0, 0, 0, 0⟩)
abbrev s_d_law_digits : Stmt := (topS 29)
abbrev N_d_law_digits : List Str := ["_law_cell_here", "_law_sizes", "_law_row", "_law_rest", "_law_size", "_law_seed", "_law_k", "_law_twice"]
noncomputable def b_d_law_digits : Rho → RS := (sSeq (sSet 2 (eLst aNil)) (sSeq (sSet 3 (eQ (qUn int1 (qV 0)))) (sSeq (sFgt [4] (sIf (tQ1 (qB (qBin geD (qV 3) (qC (.int 1000000000000000000))))) (sSeq (sSet 3 (eQ (qBin subD (qV 3) (qC (.int 1000000000000000000))))) (sSeq (sFgt [3, 4] (sFor (iSq (eV 1)) (gN 4) (sFgt [4] (sSeq (sEx (eApp 2 (eQ (qBin modD (qUn int1 (qV 3)) (qV 4))))) (sSet 3 (eQ (qBin divD (qUn int1 (qV 3)) (qV 4)))))))) (sRet (eM 2)))) sNx)) (sSeq (sSet 5 (eQ (qBin modD (qUn int1 (qV 3)) (qC (.int 2147483629))))) (sSeq (sFgt [6, 5, 7] (sFor (iRg1 (aCons (eQ (qUn len1 (qV 1))) aNil)) (gN 6) (sFgt [6, 7] (sSeq (sSet 5 (eQ (qBin modD (qUn int1 (qBin addI (qBin addI (qBin mulD (qV 5) (qC (.int 48271))) (qBin mulD (qC (.int 974711)) (qV 6))) (qC (.int 12345)))) (qC (.int 2147483647))))) (sSeq (sSet 7 (eQ (qBin modD (qUn int1 (qBin mulD (qV 5) (qBin addI (qBin divD (qV 5) (qC (.int 65537))) (qC (.int 3))))) (qC (.int 2147483629))))) (sEx (eApp 2 (eQ (qBin modD (qBin divD (qV 7) (qC (.int 19))) (qBin ixD (qV 1) (qV 6))))))))))) (sRet (eM 2)))))))
noncomputable def d_law_digits : List D → RF := runF 2 8 b_d_law_digits
abbrev s_d_law_pins : Stmt := (topS 32)
abbrev N_d_law_pins : List Str := ["_law_cell_here", "_law_row"]
noncomputable def b_d_law_pins : Rho → RS := (sSeq (sSet 1 (eCall d_law_digits [] (aCons (eV 0) (aCons (eLst (aCons (eQ (qC (.int 8))) (aCons (eQ (qC (.int 30))) (aCons (eQ (qC (.int 41))) aNil)))) aNil)))) (sSeq (sIf (tQ1 (qB (qBin ltD (qBin ixD (qV 1) (qC (.int 0))) (qC (.int 5))))) (sRet (eQ (qBin addI (qC (.int 2)) (qBin modD (qUn int1 (qBin ixD (qV 1) (qC (.int 1)))) (qC (.int 5)))))) sNx) (sSeq (sIf (tQ1 (qB (qBin eqS (qBin ixD (qV 1) (qC (.int 0))) (qC (.int 5))))) (sRet (eQ (qBin addI (qC (.int 7)) (qBin modD (qUn int1 (qBin ixD (qV 1) (qC (.int 1)))) (qC (.int 6)))))) sNx) (sSeq (sIf (tQ1 (qB (qBin eqS (qBin ixD (qV 1) (qC (.int 0))) (qC (.int 6))))) (sRet (eQ (qBin modD (qUn int1 (qBin ixD (qV 1) (qC (.int 1)))) (qC (.int 2))))) sNx) (sRet (eQ (qBin ixD (qV 1) (qC (.int 2)))))))))
noncomputable def d_law_pins : List D → RF := runF 1 2 b_d_law_pins
abbrev s_d_law_cell : Stmt := (topS 28)
abbrev N_d_law_cell : List Str := ["_law_script", "_law_k", "_law_seed", "_law_cell_here"]
noncomputable def b_d_law_cell : Rho → RS := (sSeq (sIf (tQ1 (qB (qBin ltD (qV 1) (qUn len1 (qV 0))))) (sRet (eQ (qBin ixD (qV 0) (qV 1)))) sNx) (sSeq (sSet 2 (eQ (qC (.int 17)))) (sSeq (sFgt [3] (sFor (iSq (eV 0)) (gN 3) (sFgt [3] (sSet 2 (eQ (qBin modD (qUn int1 (qBin addI (qBin mulD (qV 2) (qC (.int 31))) (qBin modD (qUn int1 (qV 3)) (qC (.int 1000003))))) (qC (.int 1000003)))))))) (sRet (eQ (qBin modD (qUn int1 (qBin mulD (qBin mulD (qBin addI (qV 2) (qC (.int 7))) (qBin addI (qV 1) (qC (.int 3)))) (qC (.int 69621)))) (qC (.int 2147483647))))))))
noncomputable def d_law_cell : List D → RF := runF 2 4 b_d_law_cell
abbrev s_d_law_norm : Stmt := (topS 31)
abbrev N_d_law_norm : List Str := ["_law_triples", "_law_pairs", "_law_entry", "_law_low", "_law_high", "_law_row", "_law_pair", "_law_many"]
noncomputable def b_d_law_norm : Rho → RS := (sSeq (sSet 1 (eLst aNil)) (sSeq (sFgt [2, 4, 3] (sFor (iSq (eV 0)) (gN 2) (sFgt [2, 4, 3] (sSeq (sSet 3 (eQ (qBin min2 (qBin ixD (qV 2) (qC (.int 0))) (qBin ixD (qV 2) (qC (.int 1)))))) (sSeq (sSet 4 (eQ (qBin max2 (qBin ixD (qV 2) (qC (.int 0))) (qBin ixD (qV 2) (qC (.int 1)))))) (sIf (tAnd (tQ1 (qB (qBin gtD (qBin ixD (qV 2) (qC (.int 2))) (qC (.int 0))))) (tB1 (eBinR dNin (eTup (aCons (eV 3) (aCons (eV 4) aNil))) (qV 1)))) (sEx (eApp 1 (eTup (aCons (eV 3) (aCons (eV 4) aNil))))) sNx)))))) (sSeq (sSet 5 (eLst aNil)) (sSeq (sFgt [2, 7, 6] (sFor (iSq (eFn soL (aCons (eV 1) aNil))) (gN 6) (sFgt [2, 7, 6] (sSeq (sSet 7 (eQ (qC (.int 0)))) (sSeq (sFgt [2] (sFor (iSq (eV 0)) (gN 2) (sFgt [2] (sIf (tQ1 (qAndT (qB (qBin eqS (qBin min2 (qBin ixD (qV 2) (qC (.int 0))) (qBin ixD (qV 2) (qC (.int 1)))) (qBin ixD (qV 6) (qC (.int 0))))) (qB (qBin eqS (qBin max2 (qBin ixD (qV 2) (qC (.int 0))) (qBin ixD (qV 2) (qC (.int 1)))) (qBin ixD (qV 6) (qC (.int 1))))))) (sSet 7 (eQ (qBin addI (qV 7) (qBin ixD (qV 2) (qC (.int 2)))))) sNx)))) (sEx (eApp 5 (eTup (aCons (eQ (qBin ixD (qV 6) (qC (.int 0)))) (aCons (eQ (qBin ixD (qV 6) (qC (.int 1)))) (aCons (eV 7) aNil))))))))))) (sRet (eFn tupL (aCons (eV 5) aNil)))))))
noncomputable def d_law_norm : List D → RF := runF 1 8 b_d_law_norm
abbrev s_d_law_lot : Stmt := (topS 37)
abbrev N_d_law_lot : List Str := ["_law_script", "_law_pins_here", "_law_row", "_law_k", "_law_draw", "_law_other"]
noncomputable def b_d_law_lot : Rho → RS := (sSeq (sSet 2 (eLst aNil)) (sSeq (sFgt [4, 3, 5] (sFor (iRg1 (aCons (eBin ixD (eCall d_law_digits [] (aCons (eCall d_law_cell [] (aCons (eV 0) (aCons (eQ (qC (.int 1))) aNil))) (aCons (eLst (aCons (eQ (qC (.int 11))) aNil)) aNil))) (eQ (qC (.int 0)))) aNil)) (gN 3) (sFgt [4, 3, 5] (sFgt [4, 5] (sIf (tQ1 (qB (qBin geD (qV 1) (qC (.int 2))))) (sSeq (sSet 4 (eCall d_law_digits [] (aCons (eCall d_law_cell [] (aCons (eV 0) (aCons (eQ (qBin addI (qC (.int 4)) (qV 3))) aNil))) (aCons (eLst (aCons (eV 1) (aCons (eQ (qBin subD (qV 1) (qC (.int 1)))) (aCons (eQ (qC (.int 6))) (aCons (eQ (qC (.int 90000000))) aNil))))) aNil)))) (sSeq (sSet 5 (eQ (qBin modD (qUn int1 (qBin addI (qBin addI (qBin ixD (qV 4) (qC (.int 0))) (qC (.int 1))) (qBin ixD (qV 4) (qC (.int 1))))) (qV 1)))) (sEx (eApp 2 (eTup (aCons (eQ (qBin ixD (qV 4) (qC (.int 0)))) (aCons (eV 5) (aCons (eBin addI (eQ (qC (.int 1))) (eBin modD (eQ (qUn int1 (qBin ixD (qV 4) (qC (.int 3))))) (eBin ixD (eLst (aCons (eQ (qC (.int 3))) (aCons (eQ (qC (.int 3))) (aCons (eQ (qC (.int 3))) (aCons (eQ (qC (.int 3))) (aCons (eQ (qC (.int 1000))) (aCons (eQ (qC (.int 90000000))) aNil))))))) (eQ (qBin ixD (qV 4) (qC (.int 2))))))) aNil)))))))) sNx))))) (sRet (eCall d_law_norm [] (aCons (eV 2) aNil)))))
noncomputable def d_law_lot : List D → RF := runF 2 6 b_d_law_lot
abbrev s_d_law_steps : Stmt := (topS 36)
abbrev N_d_law_steps : List Str := ["_law_cell_here"]
noncomputable def b_d_law_steps : Rho → RS := (sRet (eQ (qBin subD (qBin modD (qUn int1 (qBin addI (qUn int1 (qV 0)) (qC (.int 1000000000000000000)))) (qBin addI (qBin mulD (qC (.int 2)) (qC (.int 1000000000000000000))) (qC (.int 1)))) (qC (.int 1000000000000000000)))))
noncomputable def d_law_steps : List D → RF := runF 1 1 b_d_law_steps
abbrev s_d_law_table : Stmt := (topS 33)
abbrev N_d_law_table : List Str := ["_law_pins_here", "_law_bunch", "_law_size", "_law_i", "_law_j", "_law_table_here", "_law_met", "_law_step", "_law_row", "_law_entry"]
noncomputable def b_d_law_table : Rho → RS := (sSeq (sSet 2 (eQ (qBin max2 (qV 0) (qC (.int 1))))) (sSeq (sSet 5 (eLc [3] (iRg1 (aCons (eV 2) aNil)) (gN 3) tT (eLc [4] (iRg1 (aCons (eV 2) aNil)) (gN 4) tT (eQ (qC (.int 0)))))) (sSeq (sFgt [9, 3, 4, 6, 7] (sFor (iRg1 (aCons (eV 2) aNil)) (gN 3) (sFgt [9, 3, 4, 6, 7] (sSeq (sSet 6 (eLc [4] (iRg1 (aCons (eV 2) aNil)) (gN 4) tT (eQ (qC (.bl false))))) (sFgt [9, 4, 7] (sFor (iRg2 (aCons (eQ (qC (.int 1))) (aCons (eV 2) aNil))) (gN 7) (sFgt [9, 4, 7] (sSeq (sSet 4 (eQ (qBin modD (qUn int1 (qBin addI (qV 3) (qV 7))) (qV 2)))) (sSeq (sPut 6 (qV 4) (eQ (qC (.bl true)))) (sPut2 5 (qV 3) (qV 4) (eFn sumL (aCons (eLc [9] (iSq (eV 1)) (gN 9) (tQ1 (qB (qBin neS (qBin ixD (qV 6) (qBin ixD (qV 9) (qC (.int 0)))) (qBin ixD (qV 6) (qBin ixD (qV 9) (qC (.int 1))))))) (eQ (qBin ixD (qV 9) (qC (.int 2))))) aNil)))))))))))) (sRet (eFn tupL (aCons (eLc [8] (iSq (eV 5)) (gN 8) tT (eFn tupL (aCons (eV 8) aNil))) aNil))))))
noncomputable def d_law_table : List D → RF := runF 2 10 b_d_law_table
abbrev s_d_law_whole : Stmt := (topS 27)
abbrev N_d_law_whole : List Str := ["_law_value"]
noncomputable def b_d_law_whole : Rho → RS := (sRet (eQ (qAnd (qUn (isiD (tabTy "int")) (qV 0)) (qNot (qUn (isiD (tabTy "bool")) (qV 0))))))
noncomputable def d_law_whole : List D → RF := runF 1 1 b_d_law_whole
abbrev s_d_law_same : Stmt := (topS 30)
abbrev N_d_law_same : List Str := ["_law_value", "_law_due", "_law_k"]
noncomputable def b_d_law_same (fself : List D → RF) : Rho → RS := (sSeq (sIf (tQ1 (qB (qBin isN (qV 1) (qC .non)))) (sRet (eQ (qBin isN (qV 0) (qC .non)))) sNx) (sSeq (sIf (tQ1 (qB (qUn (isiD (tabTy "bool")) (qV 1)))) (sRet (eQ (qAnd (qUn (isiD (tabTy "bool")) (qV 0)) (qBin eqS (qV 0) (qV 1))))) sNx) (sSeq (sIf (tQ1 (qB (qUn (isiD (tabTy "int")) (qV 1)))) (sRet (eAnd (eCall d_law_whole [] (aCons (eV 0) aNil)) (eQ (qBin eqS (qV 0) (qV 1))))) sNx) (sSeq (sIf (tQ1 (qB (qUn (isiD (tabTy "str")) (qV 1)))) (sRet (eQ (qAnd (qUn (isiD (tabTy "str")) (qV 0)) (qBin eqS (qV 0) (qV 1))))) sNx) (sSeq (sIf (tQ1 (qAndT (qB (qUn (isiD (tabTy "list")) (qV 1))) (qNotT (qB (qUn (isiD (tabTy "list")) (qV 0)))))) (sRet (eQ (qC (.bl false)))) sNx) (sSeq (sIf (tQ1 (qAndT (qB (qUn (isiD (tabTy "tuple")) (qV 1))) (qNotT (qB (qUn (isiD (tabTy "tuple")) (qV 0)))))) (sRet (eQ (qC (.bl false)))) sNx) (sSeq (sIf (tQ1 (qB (qBin neS (qUn len1 (qV 0)) (qUn len1 (qV 1))))) (sRet (eQ (qC (.bl false)))) sNx) (sSeq (sFgt [2] (sFor (iRg1 (aCons (eQ (qUn len1 (qV 1))) aNil)) (gN 2) (sFgt [2] (sIf (tNot (tB1 (eCall fself [] (aCons (eQ (qBin ixD (qV 0) (qV 2))) (aCons (eQ (qBin ixD (qV 1) (qV 2))) aNil))))) (sRet (eQ (qC (.bl false)))) sNx)))) (sRet (eQ (qC (.bl true))))))))))))
noncomputable def g_d_law_same (fself : List D → RF) : List D → RF := runF 2 3 (b_d_law_same fself)
noncomputable def d_law_same : List D → RF := fuel g_d_law_same 4
abbrev s_d_is_whole : Stmt := (topS 12)
abbrev N_d_is_whole : List Str := ["value"]
noncomputable def b_d_is_whole : Rho → RS := (sRet (eQ (qAnd (qUn (isiD (tabTy "int")) (qV 0)) (qNot (qUn (isiD (tabTy "bool")) (qV 0))))))
noncomputable def d_is_whole : List D → RF := runF 1 1 b_d_is_whole
abbrev s_d_is_pin : Stmt := (topS 22)
abbrev N_d_is_pin : List Str := ["pins", "value"]
noncomputable def b_d_is_pin : Rho → RS := (sRet (eAnd (eCall d_is_whole [] (aCons (eV 1) aNil)) (eQ (qChain leD ltD (qC (.int 0)) (qV 1) (qV 0)))))
noncomputable def d_is_pin : List D → RF := runF 2 2 b_d_is_pin
abbrev s_d_check_pin : Stmt := (topS 24)
abbrev N_d_check_pin : List Str := ["pins", "value"]
noncomputable def b_d_check_pin : Rho → RS := (sIf (tNot (tB1 (eCall d_is_pin [] (aCons (eV 0) (aCons (eV 1) aNil))))) sBad sNx)
noncomputable def d_check_pin : List D → RF := runF 2 2 b_d_check_pin
abbrev s_d_raw_ends : Stmt := (topS 17)
abbrev N_d_raw_ends : List Str := ["cords", "pin", "a", "b", "n"]
noncomputable def b_d_raw_ends : Rho → RS := (sRet (eFn sumL (aCons (eLc [2, 3, 4] (iSq (eV 0)) (gT 3 (gCo (gN 2) (gCo (gN 3) (gCo (gN 4) gNl)))) (tB1 (eBin inD (eV 1) (eTup (aCons (eV 2) (aCons (eV 3) aNil))))) (eV 4)) aNil)))
noncomputable def d_raw_ends : List D → RF := runF 2 5 b_d_raw_ends
abbrev s_d_Lot_ends : Stmt := (inCls (topS 25) 10)
abbrev N_d_Lot_ends : List Str := ["self", "pin"]
noncomputable def b_d_Lot_ends : Rho → RS := (sSeq (sEx (eCall d_check_pin [] (aCons (eQ (qFld 0 0 (qV 0))) (aCons (eV 1) aNil)))) (sRet (eCall d_raw_ends [] (aCons (eQ (qFld 0 1 (qV 0))) (aCons (eV 1) aNil)))))
noncomputable def d_Lot_ends : List D → RF := runF 2 2 b_d_Lot_ends
abbrev s_d_Lot_total : Stmt := (inCls (topS 25) 11)
abbrev N_d_Lot_total : List Str := ["self", "a", "b", "n"]
noncomputable def b_d_Lot_total : Rho → RS := (sRet (eFn sumL (aCons (eLc [1, 2, 3] (iSq (eQ (qFld 0 1 (qV 0)))) (gT 3 (gCo (gN 1) (gCo (gN 2) (gCo (gN 3) gNl)))) tT (eV 3)) aNil)))
noncomputable def d_Lot_total : List D → RF := runF 1 4 b_d_Lot_total
abbrev s_d_Lot___len__ : Stmt := (inCls (topS 25) 1)
abbrev N_d_Lot___len__ : List Str := ["self"]
noncomputable def b_d_Lot___len__ : Rho → RS := (sRet (eQ (qUn len1 (qFld 0 1 (qV 0)))))
noncomputable def d_Lot___len__ : List D → RF := runF 1 1 b_d_Lot___len__
abbrev s_d_law_counts : Stmt := (topS 35)
abbrev N_d_law_counts : List Str := ["_law_lot_here", "_law_pins_here", "_law_bunch", "_law_spot", "_law_entry"]
noncomputable def b_d_law_counts : Rho → RS := (sSeq (sFgt [4, 3] (sFor (iRg1 (aCons (eV 1) aNil)) (gN 3) (sFgt [4, 3] (sIf (tNot (tB1 (eCall d_law_same [] (aCons (eMth 0 d_Lot_ends [] (qV 0) (aCons (eV 3) aNil)) (aCons (eFn sumL (aCons (eLc [4] (iSq (eV 2)) (gN 4) (tB1 (eBin inD (eV 3) (eLst (aCons (eQ (qBin ixD (qV 4) (qC (.int 0)))) (aCons (eQ (qBin ixD (qV 4) (qC (.int 1)))) aNil))))) (eQ (qBin ixD (qV 4) (qC (.int 2))))) aNil)) aNil))))) (sRet (eQ (qC (.bl false)))) sNx)))) (sRet (eAnd (eCall d_law_same [] (aCons (eMth 0 d_Lot_total [] (qV 0) aNil) (aCons (eFn sumL (aCons (eLc [4] (iSq (eV 2)) (gN 4) tT (eQ (qBin ixD (qV 4) (qC (.int 2))))) aNil)) aNil))) (eBinR eqS (eFn (lenO 0 d_Lot___len__) (aCons (eV 0) aNil)) (qUn len1 (qV 2))))))
noncomputable def d_law_counts : List D → RF := runF 3 5 b_d_law_counts
abbrev s_d_law_moved_table : Stmt := (topS 40)
abbrev N_d_law_moved_table : List Str := ["_law_told", "_law_table_here", "_law_places", "_law_size", "_law_row", "_law_i", "_law_j"]
noncomputable def b_d_law_moved_table : Rho → RS := (sSeq (sSet 3 (eQ (qUn len1 (qV 1)))) (sSeq (sIf (tQ1 (qOrT (qNotT (qB (qUn (isiD (tabTy "tuple")) (qV 0)))) (qB (qBin neS (qUn len1 (qV 0)) (qV 3))))) (sRet (eQ (qC (.bl false)))) sNx) (sSeq (sFgt [4] (sFor (iSq (eV 0)) (gN 4) (sFgt [4] (sIf (tQ1 (qOrT (qNotT (qB (qUn (isiD (tabTy "tuple")) (qV 4)))) (qB (qBin neS (qUn len1 (qV 4)) (qV 3))))) (sRet (eQ (qC (.bl false)))) sNx)))) (sSeq (sFgt [5, 6] (sFor (iRg1 (aCons (eV 3) aNil)) (gN 5) (sFgt [5, 6] (sFgt [6] (sFor (iRg1 (aCons (eV 3) aNil)) (gN 6) (sFgt [6] (sIf (tNot (tB1 (eCall d_law_same [] (aCons (eQ (qBin ixD (qBin ixD (qV 0) (qBin ixD (qV 2) (qV 5))) (qBin ixD (qV 2) (qV 6)))) (aCons (eQ (qBin ixD (qBin ixD (qV 1) (qV 5)) (qV 6))) aNil))))) (sRet (eQ (qC (.bl false)))) sNx))))))) (sRet (eQ (qC (.bl true))))))))
noncomputable def d_law_moved_table : List D → RF := runF 3 7 b_d_law_moved_table
abbrev s_d_law_turned : Stmt := (topS 38)
abbrev N_d_law_turned : List Str := ["_law_pins_here", "_law_bunch", "_law_by", "_law_c"]
noncomputable def b_d_law_turned : Rho → RS := (sRet (eCall d_law_norm [] (aCons (eLc [3] (iSq (eV 1)) (gN 3) tT (eTup (aCons (eQ (qBin modD (qUn int1 (qBin addI (qBin ixD (qV 3) (qC (.int 0))) (qV 2))) (qV 0))) (aCons (eQ (qBin modD (qUn int1 (qBin addI (qBin ixD (qV 3) (qC (.int 1))) (qV 2))) (qV 0))) (aCons (eQ (qBin ixD (qV 3) (qC (.int 2)))) aNil))))) aNil)))
noncomputable def d_law_turned : List D → RF := runF 3 4 b_d_law_turned
abbrev s_d_law_lot_is : Stmt := (topS 34)
abbrev N_d_law_lot_is : List Str := ["_law_lot_here", "_law_pins_here", "_law_bunch"]
noncomputable def b_d_law_lot_is : Rho → RS := (sRet (eAnd (eQ (qUn (isiD (tabC 0)) (qV 0))) (eAnd (eCall d_law_same [] (aCons (eQ (qFld 0 0 (qV 0))) (aCons (eV 1) aNil))) (eCall d_law_same [] (aCons (eQ (qFld 0 1 (qV 0))) (aCons (eV 2) aNil))))))
noncomputable def d_law_lot_is : List D → RF := runF 3 3 b_d_law_lot_is
abbrev s_d_law_mirrored : Stmt := (topS 39)
abbrev N_d_law_mirrored : List Str := ["_law_pins_here", "_law_bunch", "_law_c"]
noncomputable def b_d_law_mirrored : Rho → RS := (sRet (eCall d_law_norm [] (aCons (eLc [2] (iSq (eV 1)) (gN 2) tT (eTup (aCons (eQ (qBin subD (qBin subD (qV 0) (qC (.int 1))) (qBin ixD (qV 2) (qC (.int 0))))) (aCons (eQ (qBin subD (qBin subD (qV 0) (qC (.int 1))) (qBin ixD (qV 2) (qC (.int 1))))) (aCons (eQ (qBin ixD (qV 2) (qC (.int 2)))) aNil))))) aNil)))
noncomputable def d_law_mirrored : List D → RF := runF 2 3 b_d_law_mirrored
abbrev s_d_is_entry : Stmt := (topS 23)
abbrev N_d_is_entry : List Str := ["pins", "entry", "a", "b", "n"]
noncomputable def b_d_is_entry : Rho → RS := (sSeq (sIf (tOr (tNot (tB1 (eFn isiLT (aCons (eV 1) (aCons (eTup (aCons (eC (.val (.ty "list"))) (aCons (eC (.val (.ty "tuple"))) aNil))) aNil))))) (tQ1 (qB (qBin neS (qUn len1 (qV 1)) (qC (.int 3)))))) (sRet (eQ (qC (.bl false)))) sNx) (sSeq (sAsg (eV 1) (gT 3 (gCo (gN 2) (gCo (gN 3) (gCo (gN 4) gNl))))) (sRet (eAnd (eCall d_is_pin [] (aCons (eV 0) (aCons (eV 2) aNil))) (eAnd (eCall d_is_pin [] (aCons (eV 0) (aCons (eV 3) aNil))) (eAnd (eQ (qBin neS (qV 2) (qV 3))) (eAnd (eCall d_is_whole [] (aCons (eV 4) aNil)) (eQ (qBin geD (qV 4) (qC (.int 1)))))))))))
noncomputable def d_is_entry : List D → RF := runF 2 5 b_d_is_entry
abbrev s_d_combined : Stmt := (topS 13)
abbrev N_d_combined : List Str := ["triples", "many", "a", "b", "n", "pair"]
noncomputable def b_d_combined : Rho → RS := (sSeq (sSet 1 (eC (.vT [] []))) (sSeq (sFgt [2, 3, 4, 5] (sFor (iSq (eV 0)) (gT 3 (gCo (gN 2) (gCo (gN 3) (gCo (gN 4) gNl)))) (sFgt [2, 3, 4, 5] (sFgt [5] (sIf (tQ1 (qAndT (qB (qBin neS (qV 2) (qV 3))) (qB (qBin gtD (qV 4) (qC (.int 0)))))) (sSeq (sSet 5 (eTup (aCons (eQ (qBin min2 (qV 2) (qV 3))) (aCons (eQ (qBin max2 (qV 2) (qV 3))) aNil)))) (sDput 1 (eV 5) (eBin addI (eDget2 1 (eV 5) (qC (.int 0))) (eV 4)))) sNx))))) (sRet (eFn tupL (aCons (eLc [2, 3] (iSq (eFn soL (aCons (eV 1) aNil))) (gT 2 (gCo (gN 2) (gCo (gN 3) gNl))) tT (eTup (aCons (eV 2) (aCons (eV 3) (aCons (eDget 1 (eTup (aCons (eV 2) (aCons (eV 3) aNil)))) aNil))))) aNil)))))
noncomputable def d_combined : List D → RF := runF 1 6 b_d_combined
abbrev s_d_Lot___init__ : Stmt := (inCls (topS 25) 0)
abbrev N_d_Lot___init__ : List Str := ["self", "pins", "cords", "entry"]
noncomputable def b_d_Lot___init__ : Rho → RS := (sSeq (sIf (tOr (tNot (tB1 (eCall d_is_whole [] (aCons (eV 1) aNil)))) (tQ1 (qB (qBin ltD (qV 1) (qC (.int 0)))))) sBad sNx) (sSeq (sFgt [3] (sFor (iSq (eV 2)) (gN 3) (sFgt [3] (sIf (tNot (tB1 (eCall d_is_entry [] (aCons (eV 1) (aCons (eV 3) aNil))))) sBad sNx)))) (sSeq (sFld 0 0 0 (eV 1)) (sFld 0 0 1 (eCall d_combined [] (aCons (eV 2) aNil))))))
noncomputable def d_Lot___init__ : List D → RF := runI 0 2 4 b_d_Lot___init__
abbrev s_d_gaps : Stmt := (topS 10)
abbrev N_d_gaps : List Str := ["pins"]
noncomputable def b_d_gaps : Rho → RS := (sRet (eQ (qBin max2 (qV 0) (qC (.int 1)))))
noncomputable def d_gaps : List D → RF := runF 1 1 b_d_gaps
abbrev s_d_raw_passing : Stmt := (topS 14)
abbrev N_d_raw_passing : List Str := ["cords", "i", "j", "a", "b", "n"]
noncomputable def b_d_raw_passing : Rho → RS := (sRet (eFn sumL (aCons (eLc [3, 4, 5] (iSq (eV 0)) (gT 3 (gCo (gN 3) (gCo (gN 4) (gCo (gN 5) gNl)))) (tQ1 (qB (qBin neS (qChain leD ltD (qV 3) (qV 1) (qV 4)) (qChain leD ltD (qV 3) (qV 2) (qV 4))))) (eV 5)) aNil)))
noncomputable def d_raw_passing : List D → RF := runF 3 6 b_d_raw_passing
abbrev s_d_raw_table : Stmt := (topS 15)
abbrev N_d_raw_table : List Str := ["pins", "cords", "size", "i", "j"]
noncomputable def b_d_raw_table : Rho → RS := (sSeq (sSet 2 (eCall d_gaps [] (aCons (eV 0) aNil))) (sRet (eFn tupL (aCons (eLc [3] (iRg1 (aCons (eV 2) aNil)) (gN 3) tT (eFn tupL (aCons (eLc [4] (iRg1 (aCons (eV 2) aNil)) (gN 4) tT (eCall d_raw_passing [] (aCons (eV 1) (aCons (eV 3) (aCons (eV 4) aNil))))) aNil))) aNil))))
noncomputable def d_raw_table : List D → RF := runF 2 5 b_d_raw_table
abbrev s_d_Lot_table : Stmt := (inCls (topS 25) 8)
abbrev N_d_Lot_table : List Str := ["self"]
noncomputable def b_d_Lot_table : Rho → RS := (sRet (eCall d_raw_table [] (aCons (eQ (qFld 0 0 (qV 0))) (aCons (eQ (qFld 0 1 (qV 0))) aNil))))
noncomputable def d_Lot_table : List D → RF := runF 1 1 b_d_Lot_table
abbrev s_d_raw_turned : Stmt := (topS 19)
abbrev N_d_raw_turned : List Str := ["pins", "cords", "steps", "a", "b", "n"]
noncomputable def b_d_raw_turned : Rho → RS := (sRet (eTup (aCons (eV 0) (aCons (eCall d_combined [] (aCons (eLc [3, 4, 5] (iSq (eV 1)) (gT 3 (gCo (gN 3) (gCo (gN 4) (gCo (gN 5) gNl)))) tT (eTup (aCons (eQ (qBin modD (qBin addI (qV 3) (qV 2)) (qV 0))) (aCons (eQ (qBin modD (qBin addI (qV 4) (qV 2)) (qV 0))) (aCons (eV 5) aNil))))) aNil)) aNil))))
noncomputable def d_raw_turned : List D → RF := runF 3 6 b_d_raw_turned
abbrev s_d_Lot_turned : Stmt := (inCls (topS 25) 12)
abbrev N_d_Lot_turned : List Str := ["self", "steps", "pins", "cords"]
noncomputable def b_d_Lot_turned : Rho → RS := (sSeq (sAsg (eCall d_raw_turned [] (aCons (eQ (qFld 0 0 (qV 0))) (aCons (eQ (qFld 0 1 (qV 0))) (aCons (eV 1) aNil)))) (gT 2 (gCo (gN 2) (gCo (gN 3) gNl)))) (sRet (eCall d_Lot___init__ [] (aCons (eV 2) (aCons (eV 3) aNil)))))
noncomputable def d_Lot_turned : List D → RF := runF 2 4 b_d_Lot_turned
abbrev s_d_raw_mirrored : Stmt := (topS 20)
abbrev N_d_raw_mirrored : List Str := ["pins", "cords", "a", "b", "n"]
noncomputable def b_d_raw_mirrored : Rho → RS := (sRet (eTup (aCons (eV 0) (aCons (eCall d_combined [] (aCons (eLc [2, 3, 4] (iSq (eV 1)) (gT 3 (gCo (gN 2) (gCo (gN 3) (gCo (gN 4) gNl)))) tT (eTup (aCons (eQ (qBin subD (qBin subD (qV 0) (qC (.int 1))) (qV 2))) (aCons (eQ (qBin subD (qBin subD (qV 0) (qC (.int 1))) (qV 3))) (aCons (eV 4) aNil))))) aNil)) aNil))))
noncomputable def d_raw_mirrored : List D → RF := runF 2 5 b_d_raw_mirrored
abbrev s_d_Lot_mirrored : Stmt := (inCls (topS 25) 13)
abbrev N_d_Lot_mirrored : List Str := ["self", "pins", "cords"]
noncomputable def b_d_Lot_mirrored : Rho → RS := (sSeq (sAsg (eCall d_raw_mirrored [] (aCons (eQ (qFld 0 0 (qV 0))) (aCons (eQ (qFld 0 1 (qV 0))) aNil))) (gT 2 (gCo (gN 1) (gCo (gN 2) gNl)))) (sRet (eCall d_Lot___init__ [] (aCons (eV 1) (aCons (eV 2) aNil)))))
noncomputable def d_Lot_mirrored : List D → RF := runF 1 3 b_d_Lot_mirrored
abbrev s_d_law : Stmt := (topS 41)
abbrev N_d_law : List Str := ["_law_script", "_law_pins_here", "_law_bunch", "_law_by", "_law_more", "_law_lot_here", "_law_size", "_law_table_here", "_law_places", "_law_turned_here", "_law_mirrored_here", "_law_turned_cords", "_law_both", "_law_due", "_law_i"]
noncomputable def b_d_law : Rho → RS := (sSeq (sSet 1 (eCall d_law_pins [] (aCons (eCall d_law_cell [] (aCons (eV 0) (aCons (eQ (qC (.int 0))) aNil))) aNil))) (sSeq (sSet 2 (eCall d_law_lot [] (aCons (eV 0) (aCons (eV 1) aNil)))) (sSeq (sSet 3 (eCall d_law_steps [] (aCons (eCall d_law_cell [] (aCons (eV 0) (aCons (eQ (qC (.int 2))) aNil))) aNil))) (sSeq (sSet 4 (eCall d_law_steps [] (aCons (eCall d_law_cell [] (aCons (eV 0) (aCons (eQ (qC (.int 3))) aNil))) aNil))) (sSeq (sIf (tQ1 (qNotT (qB (qChain leD leD (qUn negD (qC (.int 1000000000000000000))) (qBin addI (qV 3) (qV 4)) (qC (.int 1000000000000000000)))))) (sSet 4 (eQ (qUn negD (qV 4)))) sNx) (sSeq (sSet 5 (eCall d_Lot___init__ [] (aCons (eV 1) (aCons (eV 2) aNil)))) (sSeq (sSet 6 (eQ (qBin max2 (qV 1) (qC (.int 1))))) (sSeq (sSet 7 (eCall d_law_table [] (aCons (eV 1) (aCons (eV 2) aNil)))) (sSeq (sSet 8 (eLc [14] (iRg1 (aCons (eV 6) aNil)) (gN 14) tT (eV 14))) (sSeq (sIf (tOr (tNot (tB1 (eCall d_law_counts [] (aCons (eV 5) (aCons (eV 1) (aCons (eV 2) aNil)))))) (tNot (tB1 (eCall d_law_moved_table [] (aCons (eProp 0 d_Lot_table (qV 5)) (aCons (eV 7) (aCons (eV 8) aNil))))))) (sRet (eQ (qC (.bl false)))) sNx) (sSeq (sSet 9 (eMth 0 d_Lot_turned [] (qV 5) (aCons (eV 3) aNil))) (sSeq (sSet 10 (eMth 0 d_Lot_mirrored [] (qV 5) aNil)) (sSeq (sSet 11 (eCall d_law_turned [] (aCons (eV 1) (aCons (eV 2) (aCons (eV 3) aNil))))) (sSeq (sIf (tNot (tB1 (eCall d_law_lot_is [] (aCons (eV 9) (aCons (eV 1) (aCons (eV 11) aNil)))))) (sRet (eQ (qC (.bl false)))) sNx) (sSeq (sIf (tNot (tB1 (eCall d_law_lot_is [] (aCons (eV 10) (aCons (eV 1) (aCons (eCall d_law_mirrored [] (aCons (eV 1) (aCons (eV 2) aNil))) aNil)))))) (sRet (eQ (qC (.bl false)))) sNx) (sSeq (sIf (tOr (tNot (tB1 (eCall d_law_counts [] (aCons (eV 9) (aCons (eV 1) (aCons (eV 11) aNil)))))) (tNot (tB1 (eCall d_law_counts [] (aCons (eV 10) (aCons (eV 1) (aCons (eCall d_law_mirrored [] (aCons (eV 1) (aCons (eV 2) aNil))) aNil))))))) (sRet (eQ (qC (.bl false)))) sNx) (sSeq (sIf (tNot (tB1 (eCall d_law_moved_table [] (aCons (eProp 0 d_Lot_table (qV 9)) (aCons (eV 7) (aCons (eLc [14] (iRg1 (aCons (eV 6) aNil)) (gN 14) tT (eQ (qBin modD (qUn int1 (qBin addI (qV 14) (qV 3))) (qV 6)))) aNil)))))) (sRet (eQ (qC (.bl false)))) sNx) (sSeq (sIf (tNot (tB1 (eCall d_law_moved_table [] (aCons (eProp 0 d_Lot_table (qV 10)) (aCons (eV 7) (aCons (eLc [14] (iRg1 (aCons (eV 6) aNil)) (gN 14) tT (eQ (qBin modD (qUn int1 (qBin subD (qBin subD (qV 1) (qC (.int 2))) (qV 14))) (qV 6)))) aNil)))))) (sRet (eQ (qC (.bl false)))) sNx) (sSeq (sIf (tOr (tNot (tB1 (eCall d_law_lot_is [] (aCons (eMth 0 d_Lot_turned [] (qV 9) (aCons (eQ (qUn negD (qV 3))) aNil)) (aCons (eV 1) (aCons (eV 2) aNil)))))) (tNot (tB1 (eCall d_law_lot_is [] (aCons (eMth 0 d_Lot_mirrored [] (qV 10) aNil) (aCons (eV 1) (aCons (eV 2) aNil))))))) (sRet (eQ (qC (.bl false)))) sNx) (sSeq (sIf (tOr (tNot (tB1 (eCall d_law_counts [] (aCons (eMth 0 d_Lot_turned [] (qV 9) (aCons (eQ (qUn negD (qV 3))) aNil)) (aCons (eV 1) (aCons (eV 2) aNil)))))) (tNot (tB1 (eCall d_law_counts [] (aCons (eMth 0 d_Lot_mirrored [] (qV 10) aNil) (aCons (eV 1) (aCons (eV 2) aNil))))))) (sRet (eQ (qC (.bl false)))) sNx) (sSeq (sSet 12 (eCall d_law_turned [] (aCons (eV 1) (aCons (eV 2) (aCons (eQ (qBin addI (qV 3) (qV 4))) aNil))))) (sSeq (sIf (tOr (tNot (tB1 (eCall d_law_lot_is [] (aCons (eMth 0 d_Lot_turned [] (qV 9) (aCons (eV 4) aNil)) (aCons (eV 1) (aCons (eV 12) aNil)))))) (tNot (tB1 (eCall d_law_lot_is [] (aCons (eMth 0 d_Lot_turned [] (qV 5) (aCons (eQ (qBin addI (qV 3) (qV 4))) aNil)) (aCons (eV 1) (aCons (eV 12) aNil))))))) (sRet (eQ (qC (.bl false)))) sNx) (sSeq (sIf (tOr (tNot (tB1 (eCall d_law_lot_is [] (aCons (eMth 0 d_Lot_turned [] (qV 5) (aCons (eV 1) aNil)) (aCons (eV 1) (aCons (eV 2) aNil)))))) (tNot (tB1 (eCall d_law_lot_is [] (aCons (eMth 0 d_Lot_turned [] (qV 5) (aCons (eQ (qC (.int 0))) aNil)) (aCons (eV 1) (aCons (eV 2) aNil))))))) (sRet (eQ (qC (.bl false)))) sNx) (sSeq (sSet 13 (eCall d_law_turned [] (aCons (eV 1) (aCons (eCall d_law_mirrored [] (aCons (eV 1) (aCons (eV 2) aNil))) (aCons (eV 3) aNil))))) (sSeq (sIf (tOr (tNot (tB1 (eCall d_law_lot_is [] (aCons (eMth 0 d_Lot_turned [] (qV 10) (aCons (eV 3) aNil)) (aCons (eV 1) (aCons (eV 13) aNil)))))) (tNot (tB1 (eCall d_law_lot_is [] (aCons (eMth0 0 d_Lot_mirrored [] (eMth 0 d_Lot_turned [] (qV 5) (aCons (eQ (qUn negD (qV 3))) aNil))) (aCons (eV 1) (aCons (eV 13) aNil))))))) (sRet (eQ (qC (.bl false)))) sNx) (sSeq (sIf (tOr (tNot (tB1 (eCall d_law_lot_is [] (aCons (eV 5) (aCons (eV 1) (aCons (eV 2) aNil)))))) (tNot (tB1 (eCall d_law_lot_is [] (aCons (eV 9) (aCons (eV 1) (aCons (eV 11) aNil))))))) (sRet (eQ (qC (.bl false)))) sNx) (sSeq (sIf (tNot (tB1 (eCall d_law_lot_is [] (aCons (eMth 0 d_Lot_mirrored [] (qV 5) aNil) (aCons (eV 1) (aCons (eCall d_law_mirrored [] (aCons (eV 1) (aCons (eV 2) aNil))) aNil)))))) (sRet (eQ (qC (.bl false)))) sNx) (sRet (eCall d_law_lot_is [] (aCons (eMth 0 d_Lot_turned [] (qV 5) (aCons (eV 3) aNil)) (aCons (eV 1) (aCons (eV 11) aNil))))))))))))))))))))))))))))))))
noncomputable def d_law : List D → RF := runF 1 15 b_d_law
structure Txt (mg : Str → Option Value) : Prop where
  n_bool : mg "bool" = none
  n_int : mg "int" = none
  n_isinstance : mg "isinstance" = none
  n_len : mg "len" = none
  n_list : mg "list" = none
  n_max : mg "max" = none
  n_min : mg "min" = none
  n_range : mg "range" = none
  n_sorted : mg "sorted" = none
  n_str : mg "str" = none
  n_sum : mg "sum" = none
  n_tuple : mg "tuple" = none
theorem sc_d_law_digits : FnScope N_d_law_digits ["_law_cell_here", "_law_sizes"] (defScope s_d_law_digits) := ⟨rfl, rfl, rfl, by decide +kernel, rfl, by decide +kernel, by decide +kernel⟩
theorem sc_d_law_pins : FnScope N_d_law_pins ["_law_cell_here"] (defScope s_d_law_pins) := ⟨rfl, rfl, rfl, by decide +kernel, rfl, by decide +kernel, by decide +kernel⟩
theorem sc_d_law_cell : FnScope N_d_law_cell ["_law_script", "_law_k"] (defScope s_d_law_cell) := ⟨rfl, rfl, rfl, by decide +kernel, rfl, by decide +kernel, by decide +kernel⟩
theorem sc_d_law_norm : FnScope N_d_law_norm ["_law_triples"] (defScope s_d_law_norm) := ⟨rfl, rfl, rfl, by decide +kernel, rfl, by decide +kernel, by decide +kernel⟩
theorem sc_d_law_lot : FnScope N_d_law_lot ["_law_script", "_law_pins_here"] (defScope s_d_law_lot) := ⟨rfl, rfl, rfl, by decide +kernel, rfl, by decide +kernel, by decide +kernel⟩
theorem sc_d_law_steps : FnScope N_d_law_steps ["_law_cell_here"] (defScope s_d_law_steps) := ⟨rfl, rfl, rfl, by decide +kernel, rfl, by decide +kernel, by decide +kernel⟩
theorem sc_d_law_table : FnScope N_d_law_table ["_law_pins_here", "_law_bunch"] (defScope s_d_law_table) := ⟨rfl, rfl, rfl, by decide +kernel, rfl, by decide +kernel, by decide +kernel⟩
abbrev lit_d_law_table_231_22 : Scope := { kind := .function, names := [(".0", .local), ("_law_i", .local), ("range", .globalImplicit), ("_law_size", .free)], isGenerator := false, isCoroutine := false, more := [] }
abbrev lit_d_law_table_231_23 : Scope := { kind := .function, names := [(".0", .local), ("_law_j", .local)], isGenerator := false, isCoroutine := false, more := [] }
abbrev lit_d_law_table_233_19 : Scope := { kind := .function, names := [(".0", .local), ("_law_j", .local)], isGenerator := false, isCoroutine := false, more := [] }
abbrev lit_d_law_table_237_50 : Scope := { kind := .function, names := [(".0", .local), ("_law_entry", .local), ("_law_met", .free)], isGenerator := false, isCoroutine := false, more := [] }
abbrev lit_d_law_table_238_17 : Scope := { kind := .function, names := [(".0", .local), ("_law_row", .local), ("tuple", .globalImplicit)], isGenerator := false, isCoroutine := false, more := [] }
theorem sc_d_law_whole : FnScope N_d_law_whole ["_law_value"] (defScope s_d_law_whole) := ⟨rfl, rfl, rfl, by decide +kernel, rfl, by decide +kernel, by decide +kernel⟩
theorem sc_d_law_same : FnScope N_d_law_same ["_law_value", "_law_due"] (defScope s_d_law_same) := ⟨rfl, rfl, rfl, by decide +kernel, rfl, by decide +kernel, by decide +kernel⟩
theorem sc_d_is_whole : FnScope N_d_is_whole ["value"] (defScope s_d_is_whole) := ⟨rfl, rfl, rfl, by decide +kernel, rfl, by decide +kernel, by decide +kernel⟩
theorem sc_d_is_pin : FnScope N_d_is_pin ["pins", "value"] (defScope s_d_is_pin) := ⟨rfl, rfl, rfl, by decide +kernel, rfl, by decide +kernel, by decide +kernel⟩
theorem sc_d_check_pin : FnScope N_d_check_pin ["pins", "value"] (defScope s_d_check_pin) := ⟨rfl, rfl, rfl, by decide +kernel, rfl, by decide +kernel, by decide +kernel⟩
theorem sc_d_raw_ends : FnScope N_d_raw_ends ["cords", "pin"] (defScope s_d_raw_ends) := ⟨rfl, rfl, rfl, by decide +kernel, rfl, by decide +kernel, by decide +kernel⟩
abbrev lit_d_raw_ends_58_15 : Scope := { kind := .function, names := [(".0", .local), ("a", .local), ("b", .local), ("n", .local), ("pin", .free)], isGenerator := false, isCoroutine := false, more := [] }
theorem sc_d_Lot_ends : FnScope N_d_Lot_ends ["self", "pin"] (defScope s_d_Lot_ends) := ⟨rfl, rfl, rfl, by decide +kernel, rfl, by decide +kernel, by decide +kernel⟩
theorem sc_d_Lot_total : FnScope N_d_Lot_total ["self"] (defScope s_d_Lot_total) := ⟨rfl, rfl, rfl, by decide +kernel, rfl, by decide +kernel, by decide +kernel⟩
abbrev lit_d_Lot_total_137_19 : Scope := { kind := .function, names := [(".0", .local), ("a", .local), ("b", .local), ("n", .local)], isGenerator := false, isCoroutine := false, more := [] }
theorem sc_d_Lot___len__ : FnScope N_d_Lot___len__ ["self"] (defScope s_d_Lot___len__) := ⟨rfl, rfl, rfl, by decide +kernel, rfl, by decide +kernel, by decide +kernel⟩
theorem sc_d_law_counts : FnScope N_d_law_counts ["_law_lot_here", "_law_pins_here", "_law_bunch"] (defScope s_d_law_counts) := ⟨rfl, rfl, rfl, by decide +kernel, rfl, by decide +kernel, by decide +kernel⟩
abbrev lit_d_law_counts_243_60 : Scope := { kind := .function, names := [(".0", .local), ("_law_entry", .local), ("_law_spot", .free)], isGenerator := false, isCoroutine := false, more := [] }
abbrev lit_d_law_counts_245_48 : Scope := { kind := .function, names := [(".0", .local), ("_law_entry", .local)], isGenerator := false, isCoroutine := false, more := [] }
theorem sc_d_law_moved_table : FnScope N_d_law_moved_table ["_law_told", "_law_table_here", "_law_places"] (defScope s_d_law_moved_table) := ⟨rfl, rfl, rfl, by decide +kernel, rfl, by decide +kernel, by decide +kernel⟩
theorem sc_d_law_turned : FnScope N_d_law_turned ["_law_pins_here", "_law_bunch", "_law_by"] (defScope s_d_law_turned) := ⟨rfl, rfl, rfl, by decide +kernel, rfl, by decide +kernel, by decide +kernel⟩
abbrev lit_d_law_turned_257_21 : Scope := { kind := .function, names := [(".0", .local), ("_law_c", .local), ("int", .globalImplicit), ("_law_by", .free), ("_law_pins_here", .free)], isGenerator := false, isCoroutine := false, more := [] }
theorem sc_d_law_lot_is : FnScope N_d_law_lot_is ["_law_lot_here", "_law_pins_here", "_law_bunch"] (defScope s_d_law_lot_is) := ⟨rfl, rfl, rfl, by decide +kernel, rfl, by decide +kernel, by decide +kernel⟩
theorem sc_d_law_mirrored : FnScope N_d_law_mirrored ["_law_pins_here", "_law_bunch"] (defScope s_d_law_mirrored) := ⟨rfl, rfl, rfl, by decide +kernel, rfl, by decide +kernel, by decide +kernel⟩
abbrev lit_d_law_mirrored_259_21 : Scope := { kind := .function, names := [(".0", .local), ("_law_c", .local), ("_law_pins_here", .free)], isGenerator := false, isCoroutine := false, more := [] }
theorem sc_d_is_entry : FnScope N_d_is_entry ["pins", "entry"] (defScope s_d_is_entry) := ⟨rfl, rfl, rfl, by decide +kernel, rfl, by decide +kernel, by decide +kernel⟩
theorem sc_d_combined : FnScope N_d_combined ["triples"] (defScope s_d_combined) := ⟨rfl, rfl, rfl, by decide +kernel, rfl, by decide +kernel, by decide +kernel⟩
abbrev lit_d_combined_45_17 : Scope := { kind := .function, names := [(".0", .local), ("a", .local), ("b", .local), ("many", .free)], isGenerator := false, isCoroutine := false, more := [] }
theorem sc_d_Lot___init__ : FnScope N_d_Lot___init__ ["self", "pins", "cords"] (defScope s_d_Lot___init__) := ⟨rfl, rfl, rfl, by decide +kernel, rfl, by decide +kernel, by decide +kernel⟩
theorem sc_d_gaps : FnScope N_d_gaps ["pins"] (defScope s_d_gaps) := ⟨rfl, rfl, rfl, by decide +kernel, rfl, by decide +kernel, by decide +kernel⟩
theorem sc_d_raw_passing : FnScope N_d_raw_passing ["cords", "i", "j"] (defScope s_d_raw_passing) := ⟨rfl, rfl, rfl, by decide +kernel, rfl, by decide +kernel, by decide +kernel⟩
abbrev lit_d_raw_passing_47_15 : Scope := { kind := .function, names := [(".0", .local), ("a", .local), ("b", .local), ("n", .local), ("i", .free), ("j", .free)], isGenerator := false, isCoroutine := false, more := [] }
theorem sc_d_raw_table : FnScope N_d_raw_table ["pins", "cords"] (defScope s_d_raw_table) := ⟨rfl, rfl, rfl, by decide +kernel, rfl, by decide +kernel, by decide +kernel⟩
abbrev lit_d_raw_table_50_17 : Scope := { kind := .function, names := [(".0", .local), ("i", .cell), ("tuple", .globalImplicit), ("range", .globalImplicit), ("cords", .free), ("size", .free)], isGenerator := false, isCoroutine := false, more := [] }
abbrev lit_d_raw_table_50_24 : Scope := { kind := .function, names := [(".0", .local), ("j", .local), ("raw_passing", .globalImplicit), ("cords", .free), ("i", .free)], isGenerator := false, isCoroutine := false, more := [] }
theorem sc_d_Lot_table : FnScope N_d_Lot_table ["self"] (defScope s_d_Lot_table) := ⟨rfl, rfl, rfl, by decide +kernel, rfl, by decide +kernel, by decide +kernel⟩
theorem sc_d_raw_turned : FnScope N_d_raw_turned ["pins", "cords", "steps"] (defScope s_d_raw_turned) := ⟨rfl, rfl, rfl, by decide +kernel, rfl, by decide +kernel, by decide +kernel⟩
abbrev lit_d_raw_turned_62_27 : Scope := { kind := .function, names := [(".0", .local), ("a", .local), ("b", .local), ("n", .local), ("pins", .free), ("steps", .free)], isGenerator := false, isCoroutine := false, more := [] }
theorem sc_d_Lot_turned : FnScope N_d_Lot_turned ["self", "steps"] (defScope s_d_Lot_turned) := ⟨rfl, rfl, rfl, by decide +kernel, rfl, by decide +kernel, by decide +kernel⟩
theorem sc_d_raw_mirrored : FnScope N_d_raw_mirrored ["pins", "cords"] (defScope s_d_raw_mirrored) := ⟨rfl, rfl, rfl, by decide +kernel, rfl, by decide +kernel, by decide +kernel⟩
abbrev lit_d_raw_mirrored_64_27 : Scope := { kind := .function, names := [(".0", .local), ("a", .local), ("b", .local), ("n", .local), ("pins", .free)], isGenerator := false, isCoroutine := false, more := [] }
theorem sc_d_Lot_mirrored : FnScope N_d_Lot_mirrored ["self"] (defScope s_d_Lot_mirrored) := ⟨rfl, rfl, rfl, by decide +kernel, rfl, by decide +kernel, by decide +kernel⟩
theorem sc_d_law : FnScope N_d_law ["_law_script"] (defScope s_d_law) := ⟨rfl, rfl, rfl, by decide +kernel, rfl, by decide +kernel, by decide +kernel⟩
abbrev lit_d_law_282_18 : Scope := { kind := .function, names := [(".0", .local), ("_law_i", .local)], isGenerator := false, isCoroutine := false, more := [] }
abbrev lit_d_law_294_69 : Scope := { kind := .function, names := [(".0", .local), ("_law_i", .local), ("int", .globalImplicit), ("_law_by", .free), ("_law_size", .free)], isGenerator := false, isCoroutine := false, more := [] }
abbrev lit_d_law_296_71 : Scope := { kind := .function, names := [(".0", .local), ("_law_i", .local), ("int", .globalImplicit), ("_law_pins_here", .free), ("_law_size", .free)], isGenerator := false, isCoroutine := false, more := [] }
section
variable {P : Program} {w : World} {K : PySem.W.Frag} {mg : Str → Option Value} {base : Heap} {cl : Tb}
theorem ok_d_law_digits {fa : Addr} {fd : FuncData} (Fn : Fun K "_law_digits" "_law_digits" s_d_law_digits fa fd) (T : Txt mg) (C0 : ClsT K mg cl 0 "Lot" ["pins", "cords"]) : FnOk P w K mg base (L2.CX P w) 1 fa fd ["_law_cell_here", "_law_sizes"] (spF K cl 2 d_law_digits) :=
  fn_F Fn sc_d_law_digits rfl rfl fun cdv A outer s H E hr => (fss_cons (fs_set (i := 2) sc_d_law_digits.nd rfl (by first | exact .inl rfl | exact .inr rfl) (fe_lst fa_nil)) (fss_cons (fs_set (i := 3) sc_d_law_digits.nd rfl (by first | exact .inl rfl | exact .inr rfl) (fe_q (fq_callTy1 q_int call_int1 (by rfl) T.n_int (by decide +kernel) (fq_v 0)))) (fss_cons (fs_fgt [4] (fs_if (ft_q (fqt_cmp q_ge op_ge (fq_v 3) (fq_pow ⟨by decide, by decide, by decide⟩ (by decide +kernel)) (nomark _))) (fss_cons (fs_set (i := 3) sc_d_law_digits.nd rfl (by first | exact .inl rfl | exact .inr rfl) (fe_q (fq_op q_sub op_sub (fq_v 3) (fq_pow ⟨by decide, by decide, by decide⟩ (by decide +kernel))))) (fss_cons (fs_fgt [3, 4] (fs_for pw_of rfl (fi_seq (fe_v 1)) (fg_name (i := 4) sc_d_law_digits.nd rfl (by first | exact .inl rfl | exact .inr rfl)) (fss_fgt [4] (fss_cons (fs_expr (fe_app (pv 2) (fe_q (fq_op q_mod op_mod (fq_callTy1 q_int call_int1 (by rfl) T.n_int (by decide +kernel) (fq_v 3)) (fq_v 4))))) (fss_one (fs_set (i := 3) sc_d_law_digits.nd rfl (by first | exact .inl rfl | exact .inr rfl) (fe_q (fq_op q_div op_fdiv (fq_callTy1 q_int call_int1 (by rfl) T.n_int (by decide +kernel) (fq_v 3)) (fq_v 4))))))))) (fss_one (fs_ret (fe_m 2))))) fss_nil)) (fss_cons (fs_set (i := 5) sc_d_law_digits.nd rfl (by first | exact .inl rfl | exact .inr rfl) (fe_q (fq_op q_mod op_mod (fq_callTy1 q_int call_int1 (by rfl) T.n_int (by decide +kernel) (fq_v 3)) fq_int))) (fss_cons (fs_fgt [6, 5, 7] (fs_for pw_of rfl (fi_range1 (by rfl) T.n_range (fa_cons (fe_q (fq_callB1 q_len call_len (by rfl) T.n_len (by decide +kernel) (fq_v 1))) fa_nil)) (fg_name (i := 6) sc_d_law_digits.nd rfl (by first | exact .inl rfl | exact .inr rfl)) (fss_fgt [6, 7] (fss_cons (fs_set (i := 5) sc_d_law_digits.nd rfl (by first | exact .inl rfl | exact .inr rfl) (fe_q (fq_op q_mod op_mod (fq_callTy1 q_int call_int1 (by rfl) T.n_int (by decide +kernel) (fq_op q_addI op_add (fq_op q_addI op_add (fq_op q_mul op_mul (fq_v 5) fq_int) (fq_op q_mul op_mul fq_int (fq_v 6))) fq_int)) fq_int))) (fss_cons (fs_set (i := 7) sc_d_law_digits.nd rfl (by first | exact .inl rfl | exact .inr rfl) (fe_q (fq_op q_mod op_mod (fq_callTy1 q_int call_int1 (by rfl) T.n_int (by decide +kernel) (fq_op q_mul op_mul (fq_v 5) (fq_op q_addI op_add (fq_op q_div op_fdiv (fq_v 5) fq_int) fq_int))) fq_int))) (fss_one (fs_expr (fe_app (pv 2) (fe_q (fq_op q_mod op_mod (fq_op q_div op_fdiv (fq_v 7) fq_int) (fq_ix (fq_v 1) (fq_v 6) (fun _ _ => rfl)))))))))))) (fss_one (fs_ret (fe_m 2))))))))
theorem ok_d_law_pins {fa : Addr} {fd : FuncData} (Fn : Fun K "_law_pins" "_law_pins" s_d_law_pins fa fd) (T : Txt mg) (C0 : ClsT K mg cl 0 "Lot" ["pins", "cords"]) (h_d_law_digits : Fnc P w K mg base cl "_law_digits" 1 2 d_law_digits []) : FnOk P w K mg base (L2.CX P w) 2 fa fd ["_law_cell_here"] (spF K cl 1 d_law_pins) :=
  fn_F Fn sc_d_law_pins rfl rfl fun cdv A outer s H E hr => (fss_cons (fs_set (i := 1) sc_d_law_pins.nd rfl (by first | exact .inl rfl | exact .inr rfl) (fe_call h_d_law_digits (hr.mono (by decide)) (by rfl) tk_of (fa_cons (fe_v 0) (fa_cons (fe_lst (fa_cons (fe_q fq_int) (fa_cons (fe_q fq_int) (fa_cons (fe_q fq_int) fa_nil)))) fa_nil)))) (fss_cons (fs_if (ft_q (fqt_cmp q_lt op_lt (fq_ix (fq_v 1) fq_int (fun _ _ => rfl)) fq_int (nomark _))) (fss_one (fs_ret (fe_q (fq_op q_addI op_add fq_int (fq_op q_mod op_mod (fq_callTy1 q_int call_int1 (by rfl) T.n_int (by decide +kernel) (fq_ix (fq_v 1) fq_int (fun _ _ => rfl))) fq_int))))) fss_nil) (fss_cons (fs_if (ft_q (fqt_cmp q_eqS op_eq (fq_ix (fq_v 1) fq_int (fun _ _ => rfl)) fq_int (nomark _))) (fss_one (fs_ret (fe_q (fq_op q_addI op_add fq_int (fq_op q_mod op_mod (fq_callTy1 q_int call_int1 (by rfl) T.n_int (by decide +kernel) (fq_ix (fq_v 1) fq_int (fun _ _ => rfl))) fq_int))))) fss_nil) (fss_cons (fs_if (ft_q (fqt_cmp q_eqS op_eq (fq_ix (fq_v 1) fq_int (fun _ _ => rfl)) fq_int (nomark _))) (fss_one (fs_ret (fe_q (fq_op q_mod op_mod (fq_callTy1 q_int call_int1 (by rfl) T.n_int (by decide +kernel) (fq_ix (fq_v 1) fq_int (fun _ _ => rfl))) fq_int)))) fss_nil) (fss_one (fs_ret (fe_q (fq_ix (fq_v 1) fq_int (fun _ _ => rfl)))))))))
theorem ok_d_law_cell {fa : Addr} {fd : FuncData} (Fn : Fun K "_law_cell" "_law_cell" s_d_law_cell fa fd) (T : Txt mg) (C0 : ClsT K mg cl 0 "Lot" ["pins", "cords"]) : FnOk P w K mg base (L2.CX P w) 1 fa fd ["_law_script", "_law_k"] (spF K cl 2 d_law_cell) :=
  fn_F Fn sc_d_law_cell rfl rfl fun cdv A outer s H E hr => (fss_cons (fs_if (ft_q (fqt_cmp q_lt op_lt (fq_v 1) (fq_callB1 q_len call_len (by rfl) T.n_len (by decide +kernel) (fq_v 0)) (nomark _))) (fss_one (fs_ret (fe_q (fq_ix (fq_v 0) (fq_v 1) (fun _ _ => rfl))))) fss_nil) (fss_cons (fs_set (i := 2) sc_d_law_cell.nd rfl (by first | exact .inl rfl | exact .inr rfl) (fe_q fq_int)) (fss_cons (fs_fgt [3] (fs_for pw_of rfl (fi_seq (fe_v 0)) (fg_name (i := 3) sc_d_law_cell.nd rfl (by first | exact .inl rfl | exact .inr rfl)) (fss_fgt [3] (fss_one (fs_set (i := 2) sc_d_law_cell.nd rfl (by first | exact .inl rfl | exact .inr rfl) (fe_q (fq_op q_mod op_mod (fq_callTy1 q_int call_int1 (by rfl) T.n_int (by decide +kernel) (fq_op q_addI op_add (fq_op q_mul op_mul (fq_v 2) fq_int) (fq_op q_mod op_mod (fq_callTy1 q_int call_int1 (by rfl) T.n_int (by decide +kernel) (fq_v 3)) fq_int))) fq_int))))))) (fss_one (fs_ret (fe_q (fq_op q_mod op_mod (fq_callTy1 q_int call_int1 (by rfl) T.n_int (by decide +kernel) (fq_op q_mul op_mul (fq_op q_mul op_mul (fq_op q_addI op_add (fq_v 2) fq_int) (fq_op q_addI op_add (fq_v 1) fq_int)) fq_int)) fq_int)))))))
theorem ok_d_law_norm {fa : Addr} {fd : FuncData} (Fn : Fun K "_law_norm" "_law_norm" s_d_law_norm fa fd) (T : Txt mg) (C0 : ClsT K mg cl 0 "Lot" ["pins", "cords"]) : FnOk P w K mg base (L2.CX P w) 1 fa fd ["_law_triples"] (spF K cl 1 d_law_norm) :=
  fn_F Fn sc_d_law_norm rfl rfl fun cdv A outer s H E hr => (fss_cons (fs_set (i := 1) sc_d_law_norm.nd rfl (by first | exact .inl rfl | exact .inr rfl) (fe_lst fa_nil)) (fss_cons (fs_fgt [2, 4, 3] (fs_for pw_of rfl (fi_seq (fe_v 0)) (fg_name (i := 2) sc_d_law_norm.nd rfl (by first | exact .inl rfl | exact .inr rfl)) (fss_fgt [2, 4, 3] (fss_cons (fs_set (i := 3) sc_d_law_norm.nd rfl (by first | exact .inl rfl | exact .inr rfl) (fe_q (fq_callB2 q_min (call_min2 rfl) (by rfl) T.n_min (by decide +kernel) (fq_ix (fq_v 2) fq_int (fun _ _ => rfl)) (fq_ix (fq_v 2) fq_int (fun _ _ => rfl))))) (fss_cons (fs_set (i := 4) sc_d_law_norm.nd rfl (by first | exact .inl rfl | exact .inr rfl) (fe_q (fq_callB2 q_max (call_max2 rfl) (by rfl) T.n_max (by decide +kernel) (fq_ix (fq_v 2) fq_int (fun _ _ => rfl)) (fq_ix (fq_v 2) fq_int (fun _ _ => rfl))))) (fss_one (fs_if (PW.pt (fw_and (ft_q (fqt_cmp q_gt op_gt (fq_ix (fq_v 2) fq_int (fun _ _ => rfl)) fq_int (nomark _))) (fw_and1 (ft_cmpRQ q_dNin (o_dNin hr) (fe_tup (fa_cons (fe_v 3) (fa_cons (fe_v 4) fa_nil))) (fq_v 1) (by rfl))))) (fss_one (fs_expr (fe_app (pv 1) (fe_tup (fa_cons (fe_v 3) (fa_cons (fe_v 4) fa_nil)))))) fss_nil))))))) (fss_cons (fs_set (i := 5) sc_d_law_norm.nd rfl (by first | exact .inl rfl | exact .inr rfl) (fe_lst fa_nil)) (fss_cons (fs_fgt [2, 7, 6] (fs_for pw_of rfl (fi_seq (fe_callB d_so (cr_so rfl) (by rfl) T.n_sorted (by decide +kernel) (fa_cons (fe_v 1) fa_nil))) (fg_name (i := 6) sc_d_law_norm.nd rfl (by first | exact .inl rfl | exact .inr rfl)) (fss_fgt [2, 7, 6] (fss_cons (fs_set (i := 7) sc_d_law_norm.nd rfl (by first | exact .inl rfl | exact .inr rfl) (fe_q fq_int)) (fss_cons (fs_fgt [2] (fs_for pw_of rfl (fi_seq (fe_v 0)) (fg_name (i := 2) sc_d_law_norm.nd rfl (by first | exact .inl rfl | exact .inr rfl)) (fss_fgt [2] (fss_one (fs_if (ft_q (PW.pt (fqw_and (fqt_cmp q_eqS op_eq (fq_callB2 q_min (call_min2 rfl) (by rfl) T.n_min (by decide +kernel) (fq_ix (fq_v 2) fq_int (fun _ _ => rfl)) (fq_ix (fq_v 2) fq_int (fun _ _ => rfl))) (fq_ix (fq_v 6) fq_int (fun _ _ => rfl)) (nomark _)) (fqw_and1 (fqt_cmp q_eqS op_eq (fq_callB2 q_max (call_max2 rfl) (by rfl) T.n_max (by decide +kernel) (fq_ix (fq_v 2) fq_int (fun _ _ => rfl)) (fq_ix (fq_v 2) fq_int (fun _ _ => rfl))) (fq_ix (fq_v 6) fq_int (fun _ _ => rfl)) (nomark _)))))) (fss_one (fs_set (i := 7) sc_d_law_norm.nd rfl (by first | exact .inl rfl | exact .inr rfl) (fe_q (fq_op q_addI op_add (fq_v 7) (fq_ix (fq_v 2) fq_int (fun _ _ => rfl)))))) fss_nil))))) (fss_one (fs_expr (fe_app (pv 5) (fe_tup (fa_cons (fe_q (fq_ix (fq_v 6) fq_int (fun _ _ => rfl))) (fa_cons (fe_q (fq_ix (fq_v 6) fq_int (fun _ _ => rfl))) (fa_cons (fe_v 7) fa_nil)))))))))))) (fss_one (fs_ret (fe_callTy d_tuple call_tuple_of (by rfl) T.n_tuple (by decide +kernel) (fa_cons (fe_v 5) fa_nil))))))))
theorem ok_d_law_lot {fa : Addr} {fd : FuncData} (Fn : Fun K "_law_lot" "_law_lot" s_d_law_lot fa fd) (T : Txt mg) (C0 : ClsT K mg cl 0 "Lot" ["pins", "cords"]) (h_d_law_digits : Fnc P w K mg base cl "_law_digits" 1 2 d_law_digits []) (h_d_law_cell : Fnc P w K mg base cl "_law_cell" 1 2 d_law_cell []) (h_d_law_norm : Fnc P w K mg base cl "_law_norm" 1 1 d_law_norm []) : FnOk P w K mg base (L2.CX P w) 2 fa fd ["_law_script", "_law_pins_here"] (spF K cl 2 d_law_lot) :=
  fn_F Fn sc_d_law_lot rfl rfl fun cdv A outer s H E hr => (fss_cons (fs_set (i := 2) sc_d_law_lot.nd rfl (by first | exact .inl rfl | exact .inr rfl) (fe_lst fa_nil)) (fss_cons (fs_fgt [4, 3, 5] (fs_for pw_of rfl (fi_range1 (by rfl) T.n_range (fa_cons (fe_ix (fe_call h_d_law_digits (hr.mono (by decide)) (by rfl) tk_of (fa_cons (fe_call h_d_law_cell (hr.mono (by decide)) (by rfl) tk_of (fa_cons (fe_v 0) (fa_cons (fe_q fq_int) fa_nil))) (fa_cons (fe_lst (fa_cons (fe_q fq_int) fa_nil)) fa_nil))) (fe_q fq_int) (fun _ _ => rfl)) fa_nil)) (fg_name (i := 3) sc_d_law_lot.nd rfl (by first | exact .inl rfl | exact .inr rfl)) (fss_fgt [4, 3, 5] (fss_one (fs_fgt [4, 5] (fs_if (ft_q (fqt_cmp q_ge op_ge (fq_v 1) fq_int (nomark _))) (fss_cons (fs_set (i := 4) sc_d_law_lot.nd rfl (by first | exact .inl rfl | exact .inr rfl) (fe_call h_d_law_digits (hr.mono (by decide)) (by rfl) tk_of (fa_cons (fe_call h_d_law_cell (hr.mono (by decide)) (by rfl) tk_of (fa_cons (fe_v 0) (fa_cons (fe_q (fq_op q_addI op_add fq_int (fq_v 3))) fa_nil))) (fa_cons (fe_lst (fa_cons (fe_v 1) (fa_cons (fe_q (fq_op q_sub op_sub (fq_v 1) fq_int)) (fa_cons (fe_q fq_int) (fa_cons (fe_q fq_int) fa_nil))))) fa_nil)))) (fss_cons (fs_set (i := 5) sc_d_law_lot.nd rfl (by first | exact .inl rfl | exact .inr rfl) (fe_q (fq_op q_mod op_mod (fq_callTy1 q_int call_int1 (by rfl) T.n_int (by decide +kernel) (fq_op q_addI op_add (fq_op q_addI op_add (fq_ix (fq_v 4) fq_int (fun _ _ => rfl)) fq_int) (fq_ix (fq_v 4) fq_int (fun _ _ => rfl)))) (fq_v 1)))) (fss_one (fs_expr (fe_app (pv 2) (fe_tup (fa_cons (fe_q (fq_ix (fq_v 4) fq_int (fun _ _ => rfl))) (fa_cons (fe_v 5) (fa_cons (fe_op d_addI op_add (fe_q fq_int) (fe_op d_mod op_mod (fe_q (fq_callTy1 q_int call_int1 (by rfl) T.n_int (by decide +kernel) (fq_ix (fq_v 4) fq_int (fun _ _ => rfl)))) (fe_ix (fe_lst (fa_cons (fe_q fq_int) (fa_cons (fe_q fq_int) (fa_cons (fe_q fq_int) (fa_cons (fe_q fq_int) (fa_cons (fe_q fq_int) (fa_cons (fe_q fq_int) fa_nil))))))) (fe_q (fq_ix (fq_v 4) fq_int (fun _ _ => rfl))) (fun _ _ => rfl)))) fa_nil))))))))) fss_nil)))))) (fss_one (fs_ret (fe_call h_d_law_norm (hr.mono (by decide)) (by rfl) tk_of (fa_cons (fe_v 2) fa_nil))))))
theorem ok_d_law_steps {fa : Addr} {fd : FuncData} (Fn : Fun K "_law_steps" "_law_steps" s_d_law_steps fa fd) (T : Txt mg) (C0 : ClsT K mg cl 0 "Lot" ["pins", "cords"]) : FnOk P w K mg base (L2.CX P w) 1 fa fd ["_law_cell_here"] (spF K cl 1 d_law_steps) :=
  fn_F Fn sc_d_law_steps rfl rfl fun cdv A outer s H E hr => (fss_one (fs_ret (fe_q (fq_op q_sub op_sub (fq_op q_mod op_mod (fq_callTy1 q_int call_int1 (by rfl) T.n_int (by decide +kernel) (fq_op q_addI op_add (fq_callTy1 q_int call_int1 (by rfl) T.n_int (by decide +kernel) (fq_v 0)) (fq_pow ⟨by decide, by decide, by decide⟩ (by decide +kernel)))) (fq_op q_addI op_add (fq_op q_mul op_mul fq_int (fq_pow ⟨by decide, by decide, by decide⟩ (by decide +kernel))) fq_int)) (fq_pow ⟨by decide, by decide, by decide⟩ (by decide +kernel))))))
theorem ok_d_law_table {fa : Addr} {fd : FuncData} (Fn : Fun K "_law_table" "_law_table" s_d_law_table fa fd) (T : Txt mg) (C0 : ClsT K mg cl 0 "Lot" ["pins", "cords"]) : FnOk P w K mg base (L2.CX P w) 1 fa fd ["_law_pins_here", "_law_bunch"] (spF K cl 2 d_law_table) :=
  fn_F Fn sc_d_law_table rfl rfl fun cdv A outer s H E hr => (fss_cons (fs_set (i := 2) sc_d_law_table.nd rfl (by first | exact .inl rfl | exact .inr rfl) (fe_q (fq_callB2 q_max (call_max2 rfl) (by rfl) T.n_max (by decide +kernel) (fq_v 0) fq_int))) (fss_cons (fs_setLc (i := 5) (own := [("_law_i", 3)]) rfl sc_d_law_table.nd rfl rfl (sw_true rfl rfl rfl (by decide +kernel)) (fi_range1 (by rfl) T.n_range (fa_cons (fe_v 2) fa_nil)) (blkOk_by (own := [("_law_i", 3)]) (N := N_d_law_table) (sc := (defScope s_d_law_table)) (by decide +kernel)) (fun _ _ _ _ _ => (fg_name (i := 3) sc_d_law_table.nd rfl (by first | exact .inl rfl | exact .inr rfl))) (fun _ _ _ _ _ => ft_nil) (fun _ _ _ _ _ => (fe_lc (own := [("_law_j", 4)]) rfl sc_d_law_table.nd (fi_range1 (by rfl) T.n_range (fa_cons (fe_v 2) fa_nil)) (blkOk_by (own := [("_law_j", 4)]) (N := N_d_law_table) (sc := (relS lit_d_law_table_231_22 (defScope s_d_law_table))) (by decide +kernel)) (fun _ _ _ _ _ => (fg_name (i := 4) sc_d_law_table.nd rfl (by first | exact .inl rfl | exact .inr rfl))) (fun _ _ _ _ _ => ft_nil) (fun _ _ _ _ _ => (fe_q fq_int))))) (fss_cons (fs_fgt [9, 3, 4, 6, 7] (fs_for pw_of rfl (fi_range1 (by rfl) T.n_range (fa_cons (fe_v 2) fa_nil)) (fg_name (i := 3) sc_d_law_table.nd rfl (by first | exact .inl rfl | exact .inr rfl)) (fss_fgt [9, 3, 4, 6, 7] (fss_cons (fs_set (i := 6) sc_d_law_table.nd rfl (by first | exact .inl rfl | exact .inr rfl) (fe_lc (own := [("_law_j", 4)]) rfl sc_d_law_table.nd (fi_range1 (by rfl) T.n_range (fa_cons (fe_v 2) fa_nil)) (blkOk_by (own := [("_law_j", 4)]) (N := N_d_law_table) (sc := (defScope s_d_law_table)) (by decide +kernel)) (fun _ _ _ _ _ => (fg_name (i := 4) sc_d_law_table.nd rfl (by first | exact .inl rfl | exact .inr rfl))) (fun _ _ _ _ _ => ft_nil) (fun _ _ _ _ _ => (fe_q fq_bl)))) (fss_one (fs_fgt [9, 4, 7] (fs_for pw_of rfl (fi_range2 (by rfl) T.n_range (fa_cons (fe_q fq_int) (fa_cons (fe_v 2) fa_nil))) (fg_name (i := 7) sc_d_law_table.nd rfl (by first | exact .inl rfl | exact .inr rfl)) (fss_fgt [9, 4, 7] (fss_cons (fs_set (i := 4) sc_d_law_table.nd rfl (by first | exact .inl rfl | exact .inr rfl) (fe_q (fq_op q_mod op_mod (fq_callTy1 q_int call_int1 (by rfl) T.n_int (by decide +kernel) (fq_op q_addI op_add (fq_v 3) (fq_v 7))) (fq_v 2)))) (fss_cons (fs_put (pv 6) (fq_v 4) (fe_q fq_bl)) (fss_one (fs_put2 (pv 5) (fq_v 3) (fq_v 4) (fe_callB d_sum (cr_sum rfl) (by rfl) T.n_sum (by decide +kernel) (fa_cons (fe_lc (own := [("_law_entry", 9)]) rfl sc_d_law_table.nd (fi_seq (fe_v 1)) (blkOk_by (own := [("_law_entry", 9)]) (N := N_d_law_table) (sc := (defScope s_d_law_table)) (by decide +kernel)) (fun _ _ _ _ _ => (fg_name (i := 9) sc_d_law_table.nd rfl (by first | exact .inl rfl | exact .inr rfl))) (fun _ _ _ _ _ => (ft_one (ft_q (fqt_cmp q_neS op_ne (fq_ix (fq_v 6) (fq_ix (fq_v 9) fq_int (fun _ _ => rfl)) (fun _ _ => rfl)) (fq_ix (fq_v 6) (fq_ix (fq_v 9) fq_int (fun _ _ => rfl)) (fun _ _ => rfl)) (nomark _))))) (fun _ _ _ _ _ => (fe_q (fq_ix (fq_v 9) fq_int (fun _ _ => rfl))))) fa_nil)) (fun _ _ => rfl))))))))))))) (fss_one (fs_ret (fe_callTy d_tuple call_tuple_of (by rfl) T.n_tuple (by decide +kernel) (fa_cons (fe_lc (own := [("_law_row", 8)]) rfl sc_d_law_table.nd (fi_seq (fe_v 5)) (blkOk_by (own := [("_law_row", 8)]) (N := N_d_law_table) (sc := (defScope s_d_law_table)) (by decide +kernel)) (fun _ _ _ _ _ => (fg_name (i := 8) sc_d_law_table.nd rfl (by first | exact .inl rfl | exact .inr rfl))) (fun _ _ _ _ _ => ft_nil) (fun _ _ _ _ _ => (fe_callTy d_tuple call_tuple_of (by rfl) T.n_tuple (by decide +kernel) (fa_cons (fe_v 8) fa_nil)))) fa_nil)))))))
theorem ok_d_law_whole {fa : Addr} {fd : FuncData} (Fn : Fun K "_law_whole" "_law_whole" s_d_law_whole fa fd) (T : Txt mg) (C0 : ClsT K mg cl 0 "Lot" ["pins", "cords"]) : FnOk P w K mg base (L2.CX P w) 1 fa fd ["_law_value"] (spF K cl 1 d_law_whole) :=
  fn_F Fn sc_d_law_whole rfl rfl fun cdv A outer s H E hr => (fss_one (fs_ret (fe_q (fq_and (fq_isi tab_ty (.ty "int") (by rfl) T.n_isinstance (fq_v 0) (pe_bltn (v := .ty "int") (by rfl) T.n_int (by decide +kernel) rfl)) (fq_one (fq_not (fq_isi tab_ty (.ty "bool") (by rfl) T.n_isinstance (fq_v 0) (pe_bltn (v := .ty "bool") (by rfl) T.n_bool (by decide +kernel) rfl))))))))
theorem ok_d_law_same {fa : Addr} {fd : FuncData} (Fn : Fun K "_law_same" "_law_same" s_d_law_same fa fd) (T : Txt mg) (C0 : ClsT K mg cl 0 "Lot" ["pins", "cords"]) (h_d_law_whole : Fnc P w K mg base cl "_law_whole" 1 1 d_law_whole []) (hself : ∀ (k : Nat) (m : List D → RF), (∀ l, m l ≠ .bad → l.length = 2) → FnOk P w K mg base (L2.CX P w) k fa fd ["_law_value", "_law_due"] (spF K cl 2 m) → Fnc P w K mg base cl "_law_same" k 2 m []) : FnOk P w K mg base (L2.CX P w) 6 fa fd ["_law_value", "_law_due"] (spF K cl 2 d_law_same) :=
  fn_fuel (k := 1) Fn sc_d_law_same (fun j fself hm F0 => by
    have h_self := hself _ fself hm F0
    exact fn_F (b := b_d_law_same fself) Fn sc_d_law_same rfl rfl fun cdv A outer s H E hr => (fss_cons (fs_if (ft_q (fqt_cmp q_isN op_isN (fq_v 1) fq_non (nomark _))) (fss_one (fs_ret (fe_q (fq_cmp q_isN op_isN (fq_v 0) fq_non (nomark _))))) fss_nil) (fss_cons (fs_if (ft_q (fqt_val (fq_isi tab_ty (.ty "bool") (by rfl) T.n_isinstance (fq_v 1) (pe_bltn (v := .ty "bool") (by rfl) T.n_bool (by decide +kernel) rfl)))) (fss_one (fs_ret (fe_q (fq_and (fq_isi tab_ty (.ty "bool") (by rfl) T.n_isinstance (fq_v 0) (pe_bltn (v := .ty "bool") (by rfl) T.n_bool (by decide +kernel) rfl)) (fq_one (fq_cmp q_eqS op_eq (fq_v 0) (fq_v 1) (nomark _))))))) fss_nil) (fss_cons (fs_if (ft_q (fqt_val (fq_isi tab_ty (.ty "int") (by rfl) T.n_isinstance (fq_v 1) (pe_bltn (v := .ty "int") (by rfl) T.n_int (by decide +kernel) rfl)))) (fss_one (fs_ret (fe_and (fe_call h_d_law_whole (hr.mono (by omega)) (by rfl) tk_of (fa_cons (fe_v 0) fa_nil)) (fe_one (fe_q (fq_cmp q_eqS op_eq (fq_v 0) (fq_v 1) (nomark _))))))) fss_nil) (fss_cons (fs_if (ft_q (fqt_val (fq_isi tab_ty (.ty "str") (by rfl) T.n_isinstance (fq_v 1) (pe_bltn (v := .ty "str") (by rfl) T.n_str (by decide +kernel) rfl)))) (fss_one (fs_ret (fe_q (fq_and (fq_isi tab_ty (.ty "str") (by rfl) T.n_isinstance (fq_v 0) (pe_bltn (v := .ty "str") (by rfl) T.n_str (by decide +kernel) rfl)) (fq_one (fq_cmp q_eqS op_eq (fq_v 0) (fq_v 1) (nomark _))))))) fss_nil) (fss_cons (fs_if (ft_q (PW.pt (fqw_and (fqt_val (fq_isi tab_ty (.ty "list") (by rfl) T.n_isinstance (fq_v 1) (pe_bltn (v := .ty "list") (by rfl) T.n_list (by decide +kernel) rfl))) (fqw_and1 (fqt_not (fqt_val (fq_isi tab_ty (.ty "list") (by rfl) T.n_isinstance (fq_v 0) (pe_bltn (v := .ty "list") (by rfl) T.n_list (by decide +kernel) rfl)))))))) (fss_one (fs_ret (fe_q fq_bl))) fss_nil) (fss_cons (fs_if (ft_q (PW.pt (fqw_and (fqt_val (fq_isi tab_ty (.ty "tuple") (by rfl) T.n_isinstance (fq_v 1) (pe_bltn (v := .ty "tuple") (by rfl) T.n_tuple (by decide +kernel) rfl))) (fqw_and1 (fqt_not (fqt_val (fq_isi tab_ty (.ty "tuple") (by rfl) T.n_isinstance (fq_v 0) (pe_bltn (v := .ty "tuple") (by rfl) T.n_tuple (by decide +kernel) rfl)))))))) (fss_one (fs_ret (fe_q fq_bl))) fss_nil) (fss_cons (fs_if (ft_q (fqt_cmp q_neS op_ne (fq_callB1 q_len call_len (by rfl) T.n_len (by decide +kernel) (fq_v 0)) (fq_callB1 q_len call_len (by rfl) T.n_len (by decide +kernel) (fq_v 1)) (nomark _))) (fss_one (fs_ret (fe_q fq_bl))) fss_nil) (fss_cons (fs_fgt [2] (fs_for pw_of rfl (fi_range1 (by rfl) T.n_range (fa_cons (fe_q (fq_callB1 q_len call_len (by rfl) T.n_len (by decide +kernel) (fq_v 1))) fa_nil)) (fg_name (i := 2) sc_d_law_same.nd rfl (by first | exact .inl rfl | exact .inr rfl)) (fss_fgt [2] (fss_one (fs_if (ft_not (ft_val (fe_call h_self hr (by rfl) tk_of (fa_cons (fe_q (fq_ix (fq_v 0) (fq_v 2) (fun _ _ => rfl))) (fa_cons (fe_q (fq_ix (fq_v 1) (fq_v 2) (fun _ _ => rfl))) fa_nil))))) (fss_one (fs_ret (fe_q fq_bl))) fss_nil))))) (fss_one (fs_ret (fe_q fq_bl)))))))))))) (fun _ => runF_len) 4
theorem ok_d_is_whole {fa : Addr} {fd : FuncData} (Fn : Fun K "is_whole" "is_whole" s_d_is_whole fa fd) (T : Txt mg) (C0 : ClsT K mg cl 0 "Lot" ["pins", "cords"]) : FnOk P w K mg base (L2.CX P w) 1 fa fd ["value"] (spF K cl 1 d_is_whole) :=
  fn_F Fn sc_d_is_whole rfl rfl fun cdv A outer s H E hr => (fss_one (fs_ret (fe_q (fq_and (fq_isi tab_ty (.ty "int") (by rfl) T.n_isinstance (fq_v 0) (pe_bltn (v := .ty "int") (by rfl) T.n_int (by decide +kernel) rfl)) (fq_one (fq_not (fq_isi tab_ty (.ty "bool") (by rfl) T.n_isinstance (fq_v 0) (pe_bltn (v := .ty "bool") (by rfl) T.n_bool (by decide +kernel) rfl))))))))
theorem ok_d_is_pin {fa : Addr} {fd : FuncData} (Fn : Fun K "is_pin" "is_pin" s_d_is_pin fa fd) (T : Txt mg) (C0 : ClsT K mg cl 0 "Lot" ["pins", "cords"]) (h_d_is_whole : Fnc P w K mg base cl "is_whole" 1 1 d_is_whole []) : FnOk P w K mg base (L2.CX P w) 2 fa fd ["pins", "value"] (spF K cl 2 d_is_pin) :=
  fn_F Fn sc_d_is_pin rfl rfl fun cdv A outer s H E hr => (fss_one (fs_ret (fe_and (fe_call h_d_is_whole (hr.mono (by decide)) (by rfl) tk_of (fa_cons (fe_v 1) fa_nil)) (fe_one (fe_q (fq_chain q_le q_lt op_le op_lt fq_int (fq_v 1) (fq_v 0) (by rfl)))))))
theorem ok_d_check_pin {fa : Addr} {fd : FuncData} (Fn : Fun K "check_pin" "check_pin" s_d_check_pin fa fd) (T : Txt mg) (C0 : ClsT K mg cl 0 "Lot" ["pins", "cords"]) (h_d_is_pin : Fnc P w K mg base cl "is_pin" 2 2 d_is_pin []) : FnOk P w K mg base (L2.CX P w) 3 fa fd ["pins", "value"] (spF K cl 2 d_check_pin) :=
  fn_F Fn sc_d_check_pin rfl rfl fun cdv A outer s H E hr => (fss_one (fs_if (ft_not (ft_val (fe_call h_d_is_pin (hr.mono (by decide)) (by rfl) tk_of (fa_cons (fe_v 0) (fa_cons (fe_v 1) fa_nil))))) (fss_one fs_bad) fss_nil))
theorem ok_d_raw_ends {fa : Addr} {fd : FuncData} (Fn : Fun K "raw_ends" "raw_ends" s_d_raw_ends fa fd) (T : Txt mg) (C0 : ClsT K mg cl 0 "Lot" ["pins", "cords"]) : FnOk P w K mg base (L2.CX P w) 1 fa fd ["cords", "pin"] (spF K cl 2 d_raw_ends) :=
  fn_F Fn sc_d_raw_ends rfl rfl fun cdv A outer s H E hr => (fss_one (fs_ret (fe_callB d_sum (cr_sum rfl) (by rfl) T.n_sum (by decide +kernel) (fa_cons (fe_lc (own := [("a", 2), ("b", 3), ("n", 4)]) rfl sc_d_raw_ends.nd (fi_seq (fe_v 0)) (blkOk_by (own := [("a", 2), ("b", 3), ("n", 4)]) (N := N_d_raw_ends) (sc := (defScope s_d_raw_ends)) (by decide +kernel)) (fun _ _ _ _ _ => (fg_sub (vs := [2, 3, 4]) (fg_tup rfl (fgs_cons (fg_name (i := 2) sc_d_raw_ends.nd rfl (by first | exact .inl rfl | exact .inr rfl)) (fgs_cons (fg_name (i := 3) sc_d_raw_ends.nd rfl (by first | exact .inl rfl | exact .inr rfl)) (fgs_cons (fg_name (i := 4) sc_d_raw_ends.nd rfl (by first | exact .inl rfl | exact .inr rfl)) fgs_nil)))) (by decide))) (fun _ _ _ _ _ => (ft_one (ft_cmpR d_in op_in_seq (fe_v 1) (fe_tup (fa_cons (fe_v 2) (fa_cons (fe_v 3) fa_nil))) (by rfl)))) (fun _ _ _ _ _ => (fe_v 4))) fa_nil))))
theorem ok_d_Lot_ends {fa : Addr} {fd : FuncData} (Fn : Fun K "ends" "Lot.ends" s_d_Lot_ends fa fd) (T : Txt mg) (C0 : ClsT K mg cl 0 "Lot" ["pins", "cords"]) (h_d_check_pin : Fnc P w K mg base cl "check_pin" 3 2 d_check_pin []) (h_d_raw_ends : Fnc P w K mg base cl "raw_ends" 1 2 d_raw_ends []) : FnOk P w K mg base (L2.CX P w) 4 fa fd ["self", "pin"] (spF K cl 2 d_Lot_ends) :=
  fn_F Fn sc_d_Lot_ends rfl rfl fun cdv A outer s H E hr => (fss_cons (fs_expr (fe_call h_d_check_pin (hr.mono (by decide)) (by rfl) tk_of (fa_cons (fe_q (fq_fld 0 0 (C0.fld (by rfl) (by decide +kernel)) (fq_v 0) rfl)) (fa_cons (fe_v 1) fa_nil)))) (fss_one (fs_ret (fe_call h_d_raw_ends (hr.mono (by decide)) (by rfl) tk_of (fa_cons (fe_q (fq_fld 0 1 (C0.fld (by rfl) (by decide +kernel)) (fq_v 0) rfl)) (fa_cons (fe_v 1) fa_nil))))))
theorem ok_d_Lot_total {fa : Addr} {fd : FuncData} (Fn : Fun K "total" "Lot.total" s_d_Lot_total fa fd) (T : Txt mg) (C0 : ClsT K mg cl 0 "Lot" ["pins", "cords"]) : FnOk P w K mg base (L2.CX P w) 1 fa fd ["self"] (spF K cl 1 d_Lot_total) :=
  fn_F Fn sc_d_Lot_total rfl rfl fun cdv A outer s H E hr => (fss_one (fs_ret (fe_callB d_sum (cr_sum rfl) (by rfl) T.n_sum (by decide +kernel) (fa_cons (fe_lc (own := [("a", 1), ("b", 2), ("n", 3)]) rfl sc_d_Lot_total.nd (fi_seq (fe_q (fq_fld 0 1 (C0.fld (by rfl) (by decide +kernel)) (fq_v 0) rfl))) (blkOk_by (own := [("a", 1), ("b", 2), ("n", 3)]) (N := N_d_Lot_total) (sc := (defScope s_d_Lot_total)) (by decide +kernel)) (fun _ _ _ _ _ => (fg_sub (vs := [1, 2, 3]) (fg_tup rfl (fgs_cons (fg_name (i := 1) sc_d_Lot_total.nd rfl (by first | exact .inl rfl | exact .inr rfl)) (fgs_cons (fg_name (i := 2) sc_d_Lot_total.nd rfl (by first | exact .inl rfl | exact .inr rfl)) (fgs_cons (fg_name (i := 3) sc_d_Lot_total.nd rfl (by first | exact .inl rfl | exact .inr rfl)) fgs_nil)))) (by decide))) (fun _ _ _ _ _ => ft_nil) (fun _ _ _ _ _ => (fe_v 3))) fa_nil))))
theorem ok_d_Lot___len__ {fa : Addr} {fd : FuncData} (Fn : Fun K "__len__" "Lot.__len__" s_d_Lot___len__ fa fd) (T : Txt mg) (C0 : ClsT K mg cl 0 "Lot" ["pins", "cords"]) : FnOk P w K mg base (L2.CX P w) 1 fa fd ["self"] (spF K cl 1 d_Lot___len__) :=
  fn_F Fn sc_d_Lot___len__ rfl rfl fun cdv A outer s H E hr => (fss_one (fs_ret (fe_q (fq_callB1 q_len call_len (by rfl) T.n_len (by decide +kernel) (fq_fld 0 1 (C0.fld (by rfl) (by decide +kernel)) (fq_v 0) rfl)))))
theorem ok_d_law_counts {fa : Addr} {fd : FuncData} (Fn : Fun K "_law_counts" "_law_counts" s_d_law_counts fa fd) (T : Txt mg) (C0 : ClsT K mg cl 0 "Lot" ["pins", "cords"]) (h_d_law_same : Fnc P w K mg base cl "_law_same" 6 2 d_law_same []) (M_d_Lot_ends : MthC P w K mg base cl 0 "ends" 4 2 d_Lot_ends []) (M_d_Lot_total : MthC P w K mg base cl 0 "total" 1 1 d_Lot_total []) (O_d_Lot___len__ : OpC P w K mg base cl 0 "__len__" 1 1 d_Lot___len__) : FnOk P w K mg base (L2.CX P w) 7 fa fd ["_law_lot_here", "_law_pins_here", "_law_bunch"] (spF K cl 3 d_law_counts) :=
  fn_F Fn sc_d_law_counts rfl rfl fun cdv A outer s H E hr => (fss_cons (fs_fgt [4, 3] (fs_for pw_of rfl (fi_range1 (by rfl) T.n_range (fa_cons (fe_v 1) fa_nil)) (fg_name (i := 3) sc_d_law_counts.nd rfl (by first | exact .inl rfl | exact .inr rfl)) (fss_fgt [4, 3] (fss_one (fs_if (ft_not (ft_val (fe_call h_d_law_same (hr.mono (by decide)) (by rfl) tk_of (fa_cons (fe_meth M_d_Lot_ends (hr.mono (by decide)) tk_of (fq_v 0) (fa_cons (fe_v 3) fa_nil)) (fa_cons (fe_callB d_sum (cr_sum rfl) (by rfl) T.n_sum (by decide +kernel) (fa_cons (fe_lc (own := [("_law_entry", 4)]) rfl sc_d_law_counts.nd (fi_seq (fe_v 2)) (blkOk_by (own := [("_law_entry", 4)]) (N := N_d_law_counts) (sc := (defScope s_d_law_counts)) (by decide +kernel)) (fun _ _ _ _ _ => (fg_name (i := 4) sc_d_law_counts.nd rfl (by first | exact .inl rfl | exact .inr rfl))) (fun _ _ _ _ _ => (ft_one (ft_cmpR d_in op_in_seq (fe_v 3) (fe_lst (fa_cons (fe_q (fq_ix (fq_v 4) fq_int (fun _ _ => rfl))) (fa_cons (fe_q (fq_ix (fq_v 4) fq_int (fun _ _ => rfl))) fa_nil))) (by rfl)))) (fun _ _ _ _ _ => (fe_q (fq_ix (fq_v 4) fq_int (fun _ _ => rfl))))) fa_nil)) fa_nil))))) (fss_one (fs_ret (fe_q fq_bl))) fss_nil))))) (fss_one (fs_ret (fe_and (fe_call h_d_law_same (hr.mono (by decide)) (by rfl) tk_of (fa_cons (fe_meth0 M_d_Lot_total (hr.mono (by decide)) tk_of (fq_v 0)) (fa_cons (fe_callB d_sum (cr_sum rfl) (by rfl) T.n_sum (by decide +kernel) (fa_cons (fe_lc (own := [("_law_entry", 4)]) rfl sc_d_law_counts.nd (fi_seq (fe_v 2)) (blkOk_by (own := [("_law_entry", 4)]) (N := N_d_law_counts) (sc := (defScope s_d_law_counts)) (by decide +kernel)) (fun _ _ _ _ _ => (fg_name (i := 4) sc_d_law_counts.nd rfl (by first | exact .inl rfl | exact .inr rfl))) (fun _ _ _ _ _ => ft_nil) (fun _ _ _ _ _ => (fe_q (fq_ix (fq_v 4) fq_int (fun _ _ => rfl))))) fa_nil)) fa_nil))) (fe_one (fe_cmpR q_eqS op_eq (fe_callB d_lenO (cr_lenO O_d_Lot___len__ (hr.mono (by decide))) (by rfl) T.n_len (by decide +kernel) (fa_cons (fe_v 0) fa_nil)) (fq_callB1 q_len call_len (by rfl) T.n_len (by decide +kernel) (fq_v 2)) (nomark _)))))))
theorem ok_d_law_moved_table {fa : Addr} {fd : FuncData} (Fn : Fun K "_law_moved_table" "_law_moved_table" s_d_law_moved_table fa fd) (T : Txt mg) (C0 : ClsT K mg cl 0 "Lot" ["pins", "cords"]) (h_d_law_same : Fnc P w K mg base cl "_law_same" 6 2 d_law_same []) : FnOk P w K mg base (L2.CX P w) 7 fa fd ["_law_told", "_law_table_here", "_law_places"] (spF K cl 3 d_law_moved_table) :=
  fn_F Fn sc_d_law_moved_table rfl rfl fun cdv A outer s H E hr => (fss_cons (fs_set (i := 3) sc_d_law_moved_table.nd rfl (by first | exact .inl rfl | exact .inr rfl) (fe_q (fq_callB1 q_len call_len (by rfl) T.n_len (by decide +kernel) (fq_v 1)))) (fss_cons (fs_if (ft_q (PW.pt (fqw_or (fqt_not (fqt_val (fq_isi tab_ty (.ty "tuple") (by rfl) T.n_isinstance (fq_v 0) (pe_bltn (v := .ty "tuple") (by rfl) T.n_tuple (by decide +kernel) rfl)))) (fqw_or1 (fqt_cmp q_neS op_ne (fq_callB1 q_len call_len (by rfl) T.n_len (by decide +kernel) (fq_v 0)) (fq_v 3) (nomark _)))))) (fss_one (fs_ret (fe_q fq_bl))) fss_nil) (fss_cons (fs_fgt [4] (fs_for pw_of rfl (fi_seq (fe_v 0)) (fg_name (i := 4) sc_d_law_moved_table.nd rfl (by first | exact .inl rfl | exact .inr rfl)) (fss_fgt [4] (fss_one (fs_if (ft_q (PW.pt (fqw_or (fqt_not (fqt_val (fq_isi tab_ty (.ty "tuple") (by rfl) T.n_isinstance (fq_v 4) (pe_bltn (v := .ty "tuple") (by rfl) T.n_tuple (by decide +kernel) rfl)))) (fqw_or1 (fqt_cmp q_neS op_ne (fq_callB1 q_len call_len (by rfl) T.n_len (by decide +kernel) (fq_v 4)) (fq_v 3) (nomark _)))))) (fss_one (fs_ret (fe_q fq_bl))) fss_nil))))) (fss_cons (fs_fgt [5, 6] (fs_for pw_of rfl (fi_range1 (by rfl) T.n_range (fa_cons (fe_v 3) fa_nil)) (fg_name (i := 5) sc_d_law_moved_table.nd rfl (by first | exact .inl rfl | exact .inr rfl)) (fss_fgt [5, 6] (fss_one (fs_fgt [6] (fs_for pw_of rfl (fi_range1 (by rfl) T.n_range (fa_cons (fe_v 3) fa_nil)) (fg_name (i := 6) sc_d_law_moved_table.nd rfl (by first | exact .inl rfl | exact .inr rfl)) (fss_fgt [6] (fss_one (fs_if (ft_not (ft_val (fe_call h_d_law_same (hr.mono (by decide)) (by rfl) tk_of (fa_cons (fe_q (fq_ix (fq_ix (fq_v 0) (fq_ix (fq_v 2) (fq_v 5) (fun _ _ => rfl)) (fun _ _ => rfl)) (fq_ix (fq_v 2) (fq_v 6) (fun _ _ => rfl)) (fun _ _ => rfl))) (fa_cons (fe_q (fq_ix (fq_ix (fq_v 1) (fq_v 5) (fun _ _ => rfl)) (fq_v 6) (fun _ _ => rfl))) fa_nil))))) (fss_one (fs_ret (fe_q fq_bl))) fss_nil))))))))) (fss_one (fs_ret (fe_q fq_bl)))))))
theorem ok_d_law_turned {fa : Addr} {fd : FuncData} (Fn : Fun K "_law_turned" "_law_turned" s_d_law_turned fa fd) (T : Txt mg) (C0 : ClsT K mg cl 0 "Lot" ["pins", "cords"]) (h_d_law_norm : Fnc P w K mg base cl "_law_norm" 1 1 d_law_norm []) : FnOk P w K mg base (L2.CX P w) 2 fa fd ["_law_pins_here", "_law_bunch", "_law_by"] (spF K cl 3 d_law_turned) :=
  fn_F Fn sc_d_law_turned rfl rfl fun cdv A outer s H E hr => (fss_one (fs_ret (fe_call h_d_law_norm (hr.mono (by decide)) (by rfl) tk_of (fa_cons (fe_lc (own := [("_law_c", 3)]) rfl sc_d_law_turned.nd (fi_seq (fe_v 1)) (blkOk_by (own := [("_law_c", 3)]) (N := N_d_law_turned) (sc := (defScope s_d_law_turned)) (by decide +kernel)) (fun _ _ _ _ _ => (fg_name (i := 3) sc_d_law_turned.nd rfl (by first | exact .inl rfl | exact .inr rfl))) (fun _ _ _ _ _ => ft_nil) (fun _ _ _ _ _ => (fe_tup (fa_cons (fe_q (fq_op q_mod op_mod (fq_callTy1 q_int call_int1 (by rfl) T.n_int (by decide +kernel) (fq_op q_addI op_add (fq_ix (fq_v 3) fq_int (fun _ _ => rfl)) (fq_v 2))) (fq_v 0))) (fa_cons (fe_q (fq_op q_mod op_mod (fq_callTy1 q_int call_int1 (by rfl) T.n_int (by decide +kernel) (fq_op q_addI op_add (fq_ix (fq_v 3) fq_int (fun _ _ => rfl)) (fq_v 2))) (fq_v 0))) (fa_cons (fe_q (fq_ix (fq_v 3) fq_int (fun _ _ => rfl))) fa_nil)))))) fa_nil))))
theorem ok_d_law_lot_is {fa : Addr} {fd : FuncData} (Fn : Fun K "_law_lot_is" "_law_lot_is" s_d_law_lot_is fa fd) (T : Txt mg) (C0 : ClsT K mg cl 0 "Lot" ["pins", "cords"]) (h_d_law_same : Fnc P w K mg base cl "_law_same" 6 2 d_law_same []) : FnOk P w K mg base (L2.CX P w) 7 fa fd ["_law_lot_here", "_law_pins_here", "_law_bunch"] (spF K cl 3 d_law_lot_is) :=
  fn_F Fn sc_d_law_lot_is rfl rfl fun cdv A outer s H E hr => (fss_one (fs_ret (fe_and (fe_q (fq_isC C0 (by rfl) T.n_isinstance (by rfl) (fq_v 0))) (fe_and (fe_call h_d_law_same (hr.mono (by decide)) (by rfl) tk_of (fa_cons (fe_q (fq_fld 0 0 (C0.fld (by rfl) (by decide +kernel)) (fq_v 0) rfl)) (fa_cons (fe_v 1) fa_nil))) (fe_one (fe_call h_d_law_same (hr.mono (by decide)) (by rfl) tk_of (fa_cons (fe_q (fq_fld 0 1 (C0.fld (by rfl) (by decide +kernel)) (fq_v 0) rfl)) (fa_cons (fe_v 2) fa_nil))))))))
theorem ok_d_law_mirrored {fa : Addr} {fd : FuncData} (Fn : Fun K "_law_mirrored" "_law_mirrored" s_d_law_mirrored fa fd) (T : Txt mg) (C0 : ClsT K mg cl 0 "Lot" ["pins", "cords"]) (h_d_law_norm : Fnc P w K mg base cl "_law_norm" 1 1 d_law_norm []) : FnOk P w K mg base (L2.CX P w) 2 fa fd ["_law_pins_here", "_law_bunch"] (spF K cl 2 d_law_mirrored) :=
  fn_F Fn sc_d_law_mirrored rfl rfl fun cdv A outer s H E hr => (fss_one (fs_ret (fe_call h_d_law_norm (hr.mono (by decide)) (by rfl) tk_of (fa_cons (fe_lc (own := [("_law_c", 2)]) rfl sc_d_law_mirrored.nd (fi_seq (fe_v 1)) (blkOk_by (own := [("_law_c", 2)]) (N := N_d_law_mirrored) (sc := (defScope s_d_law_mirrored)) (by decide +kernel)) (fun _ _ _ _ _ => (fg_name (i := 2) sc_d_law_mirrored.nd rfl (by first | exact .inl rfl | exact .inr rfl))) (fun _ _ _ _ _ => ft_nil) (fun _ _ _ _ _ => (fe_tup (fa_cons (fe_q (fq_op q_sub op_sub (fq_op q_sub op_sub (fq_v 0) fq_int) (fq_ix (fq_v 2) fq_int (fun _ _ => rfl)))) (fa_cons (fe_q (fq_op q_sub op_sub (fq_op q_sub op_sub (fq_v 0) fq_int) (fq_ix (fq_v 2) fq_int (fun _ _ => rfl)))) (fa_cons (fe_q (fq_ix (fq_v 2) fq_int (fun _ _ => rfl))) fa_nil)))))) fa_nil))))
theorem ok_d_is_entry {fa : Addr} {fd : FuncData} (Fn : Fun K "is_entry" "is_entry" s_d_is_entry fa fd) (T : Txt mg) (C0 : ClsT K mg cl 0 "Lot" ["pins", "cords"]) (h_d_is_pin : Fnc P w K mg base cl "is_pin" 2 2 d_is_pin []) (h_d_is_whole : Fnc P w K mg base cl "is_whole" 1 1 d_is_whole []) : FnOk P w K mg base (L2.CX P w) 3 fa fd ["pins", "entry"] (spF K cl 2 d_is_entry) :=
  fn_F Fn sc_d_is_entry rfl rfl fun cdv A outer s H E hr => (fss_cons (fs_if (PW.pt (fw_or (ft_not (ft_val (fe_callB d_isiLT call_isiT (by rfl) T.n_isinstance (by decide +kernel) (fa_cons (fe_v 1) (fa_cons (fe_tup (fa_cons (fe_val (pe_bltn (v := .ty "list") (by rfl) T.n_list (by decide +kernel) rfl)) (fa_cons (fe_val (pe_bltn (v := .ty "tuple") (by rfl) T.n_tuple (by decide +kernel) rfl)) fa_nil))) fa_nil))))) (fw_or1 (ft_q (fqt_cmp q_neS op_ne (fq_callB1 q_len call_len (by rfl) T.n_len (by decide +kernel) (fq_v 1)) fq_int (nomark _)))))) (fss_one (fs_ret (fe_q fq_bl))) fss_nil) (fss_cons (fs_asg (fe_v 1) (fg_tup rfl (fgs_cons (fg_name (i := 2) sc_d_is_entry.nd rfl (by first | exact .inl rfl | exact .inr rfl)) (fgs_cons (fg_name (i := 3) sc_d_is_entry.nd rfl (by first | exact .inl rfl | exact .inr rfl)) (fgs_cons (fg_name (i := 4) sc_d_is_entry.nd rfl (by first | exact .inl rfl | exact .inr rfl)) fgs_nil))))) (fss_one (fs_ret (fe_and (fe_call h_d_is_pin (hr.mono (by decide)) (by rfl) tk_of (fa_cons (fe_v 0) (fa_cons (fe_v 2) fa_nil))) (fe_and (fe_call h_d_is_pin (hr.mono (by decide)) (by rfl) tk_of (fa_cons (fe_v 0) (fa_cons (fe_v 3) fa_nil))) (fe_and (fe_q (fq_cmp q_neS op_ne (fq_v 2) (fq_v 3) (nomark _))) (fe_and (fe_call h_d_is_whole (hr.mono (by decide)) (by rfl) tk_of (fa_cons (fe_v 4) fa_nil)) (fe_one (fe_q (fq_cmp q_ge op_ge (fq_v 4) fq_int (nomark _))))))))))))
theorem ok_d_combined {fa : Addr} {fd : FuncData} (Fn : Fun K "combined" "combined" s_d_combined fa fd) (T : Txt mg) (C0 : ClsT K mg cl 0 "Lot" ["pins", "cords"]) : FnOk P w K mg base (L2.CX P w) 1 fa fd ["triples"] (spF K cl 1 d_combined) :=
  fn_F Fn sc_d_combined rfl rfl fun cdv A outer s H E hr => (fss_cons (fs_set (i := 1) sc_d_combined.nd rfl (by first | exact .inl rfl | exact .inr rfl) fe_dnew) (fss_cons (fs_fgt [2, 3, 4, 5] (fs_for pw_of rfl (fi_seq (fe_v 0)) (fg_tup rfl (fgs_cons (fg_name (i := 2) sc_d_combined.nd rfl (by first | exact .inl rfl | exact .inr rfl)) (fgs_cons (fg_name (i := 3) sc_d_combined.nd rfl (by first | exact .inl rfl | exact .inr rfl)) (fgs_cons (fg_name (i := 4) sc_d_combined.nd rfl (by first | exact .inl rfl | exact .inr rfl)) fgs_nil)))) (fss_fgt [2, 3, 4, 5] (fss_one (fs_fgt [5] (fs_if (ft_q (PW.pt (fqw_and (fqt_cmp q_neS op_ne (fq_v 2) (fq_v 3) (nomark _)) (fqw_and1 (fqt_cmp q_gt op_gt (fq_v 4) fq_int (nomark _)))))) (fss_cons (fs_set (i := 5) sc_d_combined.nd rfl (by first | exact .inl rfl | exact .inr rfl) (fe_tup (fa_cons (fe_q (fq_callB2 q_min (call_min2 rfl) (by rfl) T.n_min (by decide +kernel) (fq_v 2) (fq_v 3))) (fa_cons (fe_q (fq_callB2 q_max (call_max2 rfl) (by rfl) T.n_max (by decide +kernel) (fq_v 2) (fq_v 3))) fa_nil)))) (fss_one (fs_dput hr (pv 1) (fe_v 5) (fe_op d_addI op_add (fe_dget2 hr (pv 1) (fe_v 5) fq_int ⟨rfl, rfl, rfl, rfl⟩) (fe_v 4))))) fss_nil)))))) (fss_one (fs_ret (fe_callTy d_tuple call_tuple_of (by rfl) T.n_tuple (by decide +kernel) (fa_cons (fe_lc (own := [("a", 2), ("b", 3)]) rfl sc_d_combined.nd (fi_seq (fe_callB d_so (cr_so rfl) (by rfl) T.n_sorted (by decide +kernel) (fa_cons (fe_v 1) fa_nil))) (blkOk_by (own := [("a", 2), ("b", 3)]) (N := N_d_combined) (sc := (defScope s_d_combined)) (by decide +kernel)) (fun _ _ _ _ _ => (fg_sub (vs := [2, 3]) (fg_tup rfl (fgs_cons (fg_name (i := 2) sc_d_combined.nd rfl (by first | exact .inl rfl | exact .inr rfl)) (fgs_cons (fg_name (i := 3) sc_d_combined.nd rfl (by first | exact .inl rfl | exact .inr rfl)) fgs_nil))) (by decide))) (fun _ _ _ _ _ => ft_nil) (fun _ _ _ _ _ => (fe_tup (fa_cons (fe_v 2) (fa_cons (fe_v 3) (fa_cons (fe_dget hr (pv 1) (fe_tup (fa_cons (fe_v 2) (fa_cons (fe_v 3) fa_nil))) (fun _ _ => rfl)) fa_nil)))))) fa_nil))))))
theorem ok_d_Lot___init__ {fa : Addr} {fd : FuncData} {dvs : List V} (Fn : FunD K "__init__" "Lot.__init__" (defArgs s_d_Lot___init__) (defBody s_d_Lot___init__) (defScope s_d_Lot___init__) dvs [] fa fd) (T : Txt mg) (C0 : ClsT K mg cl 0 "Lot" ["pins", "cords"]) (h_d_is_whole : ∀ cl : Tb, ClsT K mg cl 0 "Lot" ["pins", "cords"] → Fnc P w K mg base cl "is_whole" 1 1 d_is_whole []) (h_d_is_entry : ∀ cl : Tb, ClsT K mg cl 0 "Lot" ["pins", "cords"] → Fnc P w K mg base cl "is_entry" 3 2 d_is_entry []) (h_d_combined : ∀ cl : Tb, ClsT K mg cl 0 "Lot" ["pins", "cords"] → Fnc P w K mg base cl "combined" 1 1 d_combined []) : FnOk P w K mg base (L2.CX P w) 4 fa fd ["self", "pins", "cords"] (spI K cl 0 2 d_Lot___init__) :=
  fn_ID Fn sc_d_Lot___init__ rfl rfl fun sf cdv A outer s H E hr => by
    have C0 := C0.at' sf
    have h_d_is_whole := h_d_is_whole (cl.at' sf) C0
    have h_d_is_entry := h_d_is_entry (cl.at' sf) C0
    have h_d_combined := h_d_combined (cl.at' sf) C0
    exact (fss_cons (fs_if (PW.pt (fw_or (ft_not (ft_val (fe_call h_d_is_whole (hr.mono (by decide)) (by rfl) tk_of (fa_cons (fe_v 1) fa_nil)))) (fw_or1 (ft_q (fqt_cmp q_lt op_lt (fq_v 1) fq_int (nomark _)))))) (fss_one fs_bad) fss_nil) (fss_cons (fs_fgt [3] (fs_for pw_of rfl (fi_seq (fe_v 2)) (fg_name (i := 3) sc_d_Lot___init__.nd rfl (by first | exact .inl rfl | exact .inr rfl)) (fss_fgt [3] (fss_one (fs_if (ft_not (ft_val (fe_call h_d_is_entry (hr.mono (by decide)) (by rfl) tk_of (fa_cons (fe_v 1) (fa_cons (fe_v 3) fa_nil))))) (fss_one fs_bad) fss_nil))))) (fss_cons (fs_fld (C0.fld (by rfl) (by decide +kernel)) (by rw [C0.fse]; decide) (pv 0) (fe_v 1)) (fss_one (fs_fld (C0.fld (by rfl) (by decide +kernel)) (by rw [C0.fse]; decide) (pv 0) (fe_call h_d_combined (hr.mono (by decide)) (by rfl) tk_of (fa_cons (fe_v 2) fa_nil)))))))
theorem ok_d_gaps {fa : Addr} {fd : FuncData} (Fn : Fun K "gaps" "gaps" s_d_gaps fa fd) (T : Txt mg) (C0 : ClsT K mg cl 0 "Lot" ["pins", "cords"]) : FnOk P w K mg base (L2.CX P w) 1 fa fd ["pins"] (spF K cl 1 d_gaps) :=
  fn_F Fn sc_d_gaps rfl rfl fun cdv A outer s H E hr => (fss_one (fs_ret (fe_q (fq_callB2 q_max (call_max2 rfl) (by rfl) T.n_max (by decide +kernel) (fq_v 0) fq_int))))
theorem ok_d_raw_passing {fa : Addr} {fd : FuncData} (Fn : Fun K "raw_passing" "raw_passing" s_d_raw_passing fa fd) (T : Txt mg) (C0 : ClsT K mg cl 0 "Lot" ["pins", "cords"]) : FnOk P w K mg base (L2.CX P w) 1 fa fd ["cords", "i", "j"] (spF K cl 3 d_raw_passing) :=
  fn_F Fn sc_d_raw_passing rfl rfl fun cdv A outer s H E hr => (fss_one (fs_ret (fe_callB d_sum (cr_sum rfl) (by rfl) T.n_sum (by decide +kernel) (fa_cons (fe_lc (own := [("a", 3), ("b", 4), ("n", 5)]) rfl sc_d_raw_passing.nd (fi_seq (fe_v 0)) (blkOk_by (own := [("a", 3), ("b", 4), ("n", 5)]) (N := N_d_raw_passing) (sc := (defScope s_d_raw_passing)) (by decide +kernel)) (fun _ _ _ _ _ => (fg_sub (vs := [3, 4, 5]) (fg_tup rfl (fgs_cons (fg_name (i := 3) sc_d_raw_passing.nd rfl (by first | exact .inl rfl | exact .inr rfl)) (fgs_cons (fg_name (i := 4) sc_d_raw_passing.nd rfl (by first | exact .inl rfl | exact .inr rfl)) (fgs_cons (fg_name (i := 5) sc_d_raw_passing.nd rfl (by first | exact .inl rfl | exact .inr rfl)) fgs_nil)))) (by decide))) (fun _ _ _ _ _ => (ft_one (ft_q (fqt_cmp q_neS op_ne (fq_chain q_le q_lt op_le op_lt (fq_v 3) (fq_v 1) (fq_v 4) (by rfl)) (fq_chain q_le q_lt op_le op_lt (fq_v 3) (fq_v 2) (fq_v 4) (by rfl)) (nomark _))))) (fun _ _ _ _ _ => (fe_v 5))) fa_nil))))
theorem ok_d_raw_table {fa : Addr} {fd : FuncData} (Fn : Fun K "raw_table" "raw_table" s_d_raw_table fa fd) (T : Txt mg) (C0 : ClsT K mg cl 0 "Lot" ["pins", "cords"]) (h_d_gaps : Fnc P w K mg base cl "gaps" 1 1 d_gaps []) (h_d_raw_passing : Fnc P w K mg base cl "raw_passing" 1 3 d_raw_passing []) : FnOk P w K mg base (L2.CX P w) 2 fa fd ["pins", "cords"] (spF K cl 2 d_raw_table) :=
  fn_F Fn sc_d_raw_table rfl rfl fun cdv A outer s H E hr => (fss_cons (fs_set (i := 2) sc_d_raw_table.nd rfl (by first | exact .inl rfl | exact .inr rfl) (fe_call h_d_gaps (hr.mono (by decide)) (by rfl) tk_of (fa_cons (fe_v 0) fa_nil))) (fss_one (fs_ret (fe_callTy d_tuple call_tuple_of (by rfl) T.n_tuple (by decide +kernel) (fa_cons (fe_lc (own := [("i", 3)]) rfl sc_d_raw_table.nd (fi_range1 (by rfl) T.n_range (fa_cons (fe_v 2) fa_nil)) (blkOk_by (own := [("i", 3)]) (N := N_d_raw_table) (sc := (defScope s_d_raw_table)) (by decide +kernel)) (fun _ _ _ _ _ => (fg_name (i := 3) sc_d_raw_table.nd rfl (by first | exact .inl rfl | exact .inr rfl))) (fun _ _ _ _ _ => ft_nil) (fun _ _ _ _ _ => (fe_callTy d_tuple call_tuple_of (by rfl) T.n_tuple (by decide +kernel) (fa_cons (fe_lc (own := [("j", 4)]) rfl sc_d_raw_table.nd (fi_range1 (by rfl) T.n_range (fa_cons (fe_v 2) fa_nil)) (blkOk_by (own := [("j", 4)]) (N := N_d_raw_table) (sc := (relS lit_d_raw_table_50_17 (defScope s_d_raw_table))) (by decide +kernel)) (fun _ _ _ _ _ => (fg_name (i := 4) sc_d_raw_table.nd rfl (by first | exact .inl rfl | exact .inr rfl))) (fun _ _ _ _ _ => ft_nil) (fun _ _ _ _ _ => (fe_call h_d_raw_passing (hr.mono (by decide)) (by rfl) takes0 (fa_cons (fe_v 1) (fa_cons (fe_v 3) (fa_cons (fe_v 4) fa_nil)))))) fa_nil)))) fa_nil)))))
theorem ok_d_Lot_table {fa : Addr} {fd : FuncData} (Fn : Fun K "table" "Lot.table" s_d_Lot_table fa fd) (T : Txt mg) (C0 : ClsT K mg cl 0 "Lot" ["pins", "cords"]) (h_d_raw_table : Fnc P w K mg base cl "raw_table" 2 2 d_raw_table []) : FnOk P w K mg base (L2.CX P w) 3 fa fd ["self"] (spF K cl 1 d_Lot_table) :=
  fn_F Fn sc_d_Lot_table rfl rfl fun cdv A outer s H E hr => (fss_one (fs_ret (fe_call h_d_raw_table (hr.mono (by decide)) (by rfl) tk_of (fa_cons (fe_q (fq_fld 0 0 (C0.fld (by rfl) (by decide +kernel)) (fq_v 0) rfl)) (fa_cons (fe_q (fq_fld 0 1 (C0.fld (by rfl) (by decide +kernel)) (fq_v 0) rfl)) fa_nil)))))
theorem ok_d_raw_turned {fa : Addr} {fd : FuncData} (Fn : Fun K "raw_turned" "raw_turned" s_d_raw_turned fa fd) (T : Txt mg) (C0 : ClsT K mg cl 0 "Lot" ["pins", "cords"]) (h_d_combined : Fnc P w K mg base cl "combined" 1 1 d_combined []) : FnOk P w K mg base (L2.CX P w) 2 fa fd ["pins", "cords", "steps"] (spF K cl 3 d_raw_turned) :=
  fn_F Fn sc_d_raw_turned rfl rfl fun cdv A outer s H E hr => (fss_one (fs_ret (fe_tup (fa_cons (fe_v 0) (fa_cons (fe_call h_d_combined (hr.mono (by decide)) (by rfl) tk_of (fa_cons (fe_lc (own := [("a", 3), ("b", 4), ("n", 5)]) rfl sc_d_raw_turned.nd (fi_seq (fe_v 1)) (blkOk_by (own := [("a", 3), ("b", 4), ("n", 5)]) (N := N_d_raw_turned) (sc := (defScope s_d_raw_turned)) (by decide +kernel)) (fun _ _ _ _ _ => (fg_sub (vs := [3, 4, 5]) (fg_tup rfl (fgs_cons (fg_name (i := 3) sc_d_raw_turned.nd rfl (by first | exact .inl rfl | exact .inr rfl)) (fgs_cons (fg_name (i := 4) sc_d_raw_turned.nd rfl (by first | exact .inl rfl | exact .inr rfl)) (fgs_cons (fg_name (i := 5) sc_d_raw_turned.nd rfl (by first | exact .inl rfl | exact .inr rfl)) fgs_nil)))) (by decide))) (fun _ _ _ _ _ => ft_nil) (fun _ _ _ _ _ => (fe_tup (fa_cons (fe_q (fq_op q_mod op_mod (fq_op q_addI op_add (fq_v 3) (fq_v 2)) (fq_v 0))) (fa_cons (fe_q (fq_op q_mod op_mod (fq_op q_addI op_add (fq_v 4) (fq_v 2)) (fq_v 0))) (fa_cons (fe_v 5) fa_nil)))))) fa_nil)) fa_nil)))))
theorem ok_d_Lot_turned {fa : Addr} {fd : FuncData} (Fn : Fun K "turned" "Lot.turned" s_d_Lot_turned fa fd) (T : Txt mg) (C0 : ClsT K mg cl 0 "Lot" ["pins", "cords"]) (h_d_raw_turned : Fnc P w K mg base cl "raw_turned" 2 3 d_raw_turned []) (M_d_Lot___init__ : MakC P w K mg base cl 0 "Lot" 4 2 d_Lot___init__ []) : FnOk P w K mg base (L2.CX P w) 6 fa fd ["self", "steps"] (spF K cl 2 d_Lot_turned) :=
  fn_F Fn sc_d_Lot_turned rfl rfl fun cdv A outer s H E hr => (fss_cons (fs_asg (fe_call h_d_raw_turned (hr.mono (by decide)) (by rfl) tk_of (fa_cons (fe_q (fq_fld 0 0 (C0.fld (by rfl) (by decide +kernel)) (fq_v 0) rfl)) (fa_cons (fe_q (fq_fld 0 1 (C0.fld (by rfl) (by decide +kernel)) (fq_v 0) rfl)) (fa_cons (fe_v 1) fa_nil)))) (fg_tup rfl (fgs_cons (fg_name (i := 2) sc_d_Lot_turned.nd rfl (by first | exact .inl rfl | exact .inr rfl)) (fgs_cons (fg_name (i := 3) sc_d_Lot_turned.nd rfl (by first | exact .inl rfl | exact .inr rfl)) fgs_nil)))) (fss_one (fs_ret (fe_make M_d_Lot___init__ (hr.mono (by decide)) (by rfl) tk_of (fa_cons (fe_v 2) (fa_cons (fe_v 3) fa_nil))))))
theorem ok_d_raw_mirrored {fa : Addr} {fd : FuncData} (Fn : Fun K "raw_mirrored" "raw_mirrored" s_d_raw_mirrored fa fd) (T : Txt mg) (C0 : ClsT K mg cl 0 "Lot" ["pins", "cords"]) (h_d_combined : Fnc P w K mg base cl "combined" 1 1 d_combined []) : FnOk P w K mg base (L2.CX P w) 2 fa fd ["pins", "cords"] (spF K cl 2 d_raw_mirrored) :=
  fn_F Fn sc_d_raw_mirrored rfl rfl fun cdv A outer s H E hr => (fss_one (fs_ret (fe_tup (fa_cons (fe_v 0) (fa_cons (fe_call h_d_combined (hr.mono (by decide)) (by rfl) tk_of (fa_cons (fe_lc (own := [("a", 2), ("b", 3), ("n", 4)]) rfl sc_d_raw_mirrored.nd (fi_seq (fe_v 1)) (blkOk_by (own := [("a", 2), ("b", 3), ("n", 4)]) (N := N_d_raw_mirrored) (sc := (defScope s_d_raw_mirrored)) (by decide +kernel)) (fun _ _ _ _ _ => (fg_sub (vs := [2, 3, 4]) (fg_tup rfl (fgs_cons (fg_name (i := 2) sc_d_raw_mirrored.nd rfl (by first | exact .inl rfl | exact .inr rfl)) (fgs_cons (fg_name (i := 3) sc_d_raw_mirrored.nd rfl (by first | exact .inl rfl | exact .inr rfl)) (fgs_cons (fg_name (i := 4) sc_d_raw_mirrored.nd rfl (by first | exact .inl rfl | exact .inr rfl)) fgs_nil)))) (by decide))) (fun _ _ _ _ _ => ft_nil) (fun _ _ _ _ _ => (fe_tup (fa_cons (fe_q (fq_op q_sub op_sub (fq_op q_sub op_sub (fq_v 0) fq_int) (fq_v 2))) (fa_cons (fe_q (fq_op q_sub op_sub (fq_op q_sub op_sub (fq_v 0) fq_int) (fq_v 3))) (fa_cons (fe_v 4) fa_nil)))))) fa_nil)) fa_nil)))))
theorem ok_d_Lot_mirrored {fa : Addr} {fd : FuncData} (Fn : Fun K "mirrored" "Lot.mirrored" s_d_Lot_mirrored fa fd) (T : Txt mg) (C0 : ClsT K mg cl 0 "Lot" ["pins", "cords"]) (h_d_raw_mirrored : Fnc P w K mg base cl "raw_mirrored" 2 2 d_raw_mirrored []) (M_d_Lot___init__ : MakC P w K mg base cl 0 "Lot" 4 2 d_Lot___init__ []) : FnOk P w K mg base (L2.CX P w) 6 fa fd ["self"] (spF K cl 1 d_Lot_mirrored) :=
  fn_F Fn sc_d_Lot_mirrored rfl rfl fun cdv A outer s H E hr => (fss_cons (fs_asg (fe_call h_d_raw_mirrored (hr.mono (by decide)) (by rfl) tk_of (fa_cons (fe_q (fq_fld 0 0 (C0.fld (by rfl) (by decide +kernel)) (fq_v 0) rfl)) (fa_cons (fe_q (fq_fld 0 1 (C0.fld (by rfl) (by decide +kernel)) (fq_v 0) rfl)) fa_nil))) (fg_tup rfl (fgs_cons (fg_name (i := 1) sc_d_Lot_mirrored.nd rfl (by first | exact .inl rfl | exact .inr rfl)) (fgs_cons (fg_name (i := 2) sc_d_Lot_mirrored.nd rfl (by first | exact .inl rfl | exact .inr rfl)) fgs_nil)))) (fss_one (fs_ret (fe_make M_d_Lot___init__ (hr.mono (by decide)) (by rfl) tk_of (fa_cons (fe_v 1) (fa_cons (fe_v 2) fa_nil))))))
theorem ok_d_law {fa : Addr} {fd : FuncData} (Fn : Fun K "law" "law" s_d_law fa fd) (T : Txt mg) (C0 : ClsT K mg cl 0 "Lot" ["pins", "cords"]) (h_d_law_pins : Fnc P w K mg base cl "_law_pins" 2 1 d_law_pins []) (h_d_law_cell : Fnc P w K mg base cl "_law_cell" 1 2 d_law_cell []) (h_d_law_lot : Fnc P w K mg base cl "_law_lot" 2 2 d_law_lot []) (h_d_law_steps : Fnc P w K mg base cl "_law_steps" 1 1 d_law_steps []) (h_d_law_table : Fnc P w K mg base cl "_law_table" 1 2 d_law_table []) (h_d_law_counts : Fnc P w K mg base cl "_law_counts" 7 3 d_law_counts []) (h_d_law_moved_table : Fnc P w K mg base cl "_law_moved_table" 7 3 d_law_moved_table []) (h_d_law_turned : Fnc P w K mg base cl "_law_turned" 2 3 d_law_turned []) (h_d_law_lot_is : Fnc P w K mg base cl "_law_lot_is" 7 3 d_law_lot_is []) (h_d_law_mirrored : Fnc P w K mg base cl "_law_mirrored" 2 2 d_law_mirrored []) (M_d_Lot___init__ : MakC P w K mg base cl 0 "Lot" 4 2 d_Lot___init__ []) (P_d_Lot_table : PrpC P w K mg base cl 0 "table" 3 d_Lot_table) (M_d_Lot_turned : MthC P w K mg base cl 0 "turned" 6 2 d_Lot_turned []) (M_d_Lot_mirrored : MthC P w K mg base cl 0 "mirrored" 6 1 d_Lot_mirrored []) (K_d_Lot_turned : MthK P w K mg base cl 0 "turned" 6 2 d_Lot_turned ["steps"]) : FnOk P w K mg base (L2.CX P w) 8 fa fd ["_law_script"] (spF K cl 1 d_law) :=
  fn_F Fn sc_d_law rfl rfl fun cdv A outer s H E hr => (fss_cons (fs_set (i := 1) sc_d_law.nd rfl (by first | exact .inl rfl | exact .inr rfl) (fe_call h_d_law_pins (hr.mono (by decide)) (by rfl) tk_of (fa_cons (fe_call h_d_law_cell (hr.mono (by decide)) (by rfl) tk_of (fa_cons (fe_v 0) (fa_cons (fe_q fq_int) fa_nil))) fa_nil))) (fss_cons (fs_set (i := 2) sc_d_law.nd rfl (by first | exact .inl rfl | exact .inr rfl) (fe_call h_d_law_lot (hr.mono (by decide)) (by rfl) tk_of (fa_cons (fe_v 0) (fa_cons (fe_v 1) fa_nil)))) (fss_cons (fs_set (i := 3) sc_d_law.nd rfl (by first | exact .inl rfl | exact .inr rfl) (fe_call h_d_law_steps (hr.mono (by decide)) (by rfl) tk_of (fa_cons (fe_call h_d_law_cell (hr.mono (by decide)) (by rfl) tk_of (fa_cons (fe_v 0) (fa_cons (fe_q fq_int) fa_nil))) fa_nil))) (fss_cons (fs_set (i := 4) sc_d_law.nd rfl (by first | exact .inl rfl | exact .inr rfl) (fe_call h_d_law_steps (hr.mono (by decide)) (by rfl) tk_of (fa_cons (fe_call h_d_law_cell (hr.mono (by decide)) (by rfl) tk_of (fa_cons (fe_v 0) (fa_cons (fe_q fq_int) fa_nil))) fa_nil))) (fss_cons (fs_if (ft_q (fqt_not (fqt_chain q_le q_le op_le op_le (fq_neg (fq_pow ⟨by decide, by decide, by decide⟩ (by decide +kernel))) (fq_op q_addI op_add (fq_v 3) (fq_v 4)) (fq_pow ⟨by decide, by decide, by decide⟩ (by decide +kernel)) (by rfl)))) (fss_one (fs_set (i := 4) sc_d_law.nd rfl (by first | exact .inl rfl | exact .inr rfl) (fe_q (fq_neg (fq_v 4))))) fss_nil) (fss_cons (fs_set (i := 5) sc_d_law.nd rfl (by first | exact .inl rfl | exact .inr rfl) (fe_make M_d_Lot___init__ (hr.mono (by decide)) (by rfl) tk_of (fa_cons (fe_v 1) (fa_cons (fe_v 2) fa_nil)))) (fss_cons (fs_set (i := 6) sc_d_law.nd rfl (by first | exact .inl rfl | exact .inr rfl) (fe_q (fq_callB2 q_max (call_max2 rfl) (by rfl) T.n_max (by decide +kernel) (fq_v 1) fq_int))) (fss_cons (fs_set (i := 7) sc_d_law.nd rfl (by first | exact .inl rfl | exact .inr rfl) (fe_call h_d_law_table (hr.mono (by decide)) (by rfl) tk_of (fa_cons (fe_v 1) (fa_cons (fe_v 2) fa_nil)))) (fss_cons (fs_setLc (i := 8) (own := [("_law_i", 14)]) rfl sc_d_law.nd rfl rfl (sw_true rfl rfl rfl (by decide +kernel)) (fi_range1 (by rfl) T.n_range (fa_cons (fe_v 6) fa_nil)) (blkOk_by (own := [("_law_i", 14)]) (N := N_d_law) (sc := (defScope s_d_law)) (by decide +kernel)) (fun _ _ _ _ _ => (fg_name (i := 14) sc_d_law.nd rfl (by first | exact .inl rfl | exact .inr rfl))) (fun _ _ _ _ _ => ft_nil) (fun _ _ _ _ _ => (fe_v 14))) (fss_cons (fs_if (PW.pt (fw_or (ft_not (ft_val (fe_call h_d_law_counts (hr.mono (by decide)) (by rfl) tk_of (fa_cons (fe_v 5) (fa_cons (fe_v 1) (fa_cons (fe_v 2) fa_nil)))))) (fw_or1 (ft_not (ft_val (fe_call h_d_law_moved_table (hr.mono (by decide)) (by rfl) tk_of (fa_cons (fe_prop P_d_Lot_table (hr.mono (by decide)) (fq_v 5)) (fa_cons (fe_v 7) (fa_cons (fe_v 8) fa_nil))))))))) (fss_one (fs_ret (fe_q fq_bl))) fss_nil) (fss_cons (fs_set (i := 9) sc_d_law.nd rfl (by first | exact .inl rfl | exact .inr rfl) (fe_meth M_d_Lot_turned (hr.mono (by decide)) tk_of (fq_v 5) (fa_cons (fe_v 3) fa_nil))) (fss_cons (fs_set (i := 10) sc_d_law.nd rfl (by first | exact .inl rfl | exact .inr rfl) (fe_meth0 M_d_Lot_mirrored (hr.mono (by decide)) tk_of (fq_v 5))) (fss_cons (fs_set (i := 11) sc_d_law.nd rfl (by first | exact .inl rfl | exact .inr rfl) (fe_call h_d_law_turned (hr.mono (by decide)) (by rfl) tk_of (fa_cons (fe_v 1) (fa_cons (fe_v 2) (fa_cons (fe_v 3) fa_nil))))) (fss_cons (fs_if (ft_not (ft_val (fe_call h_d_law_lot_is (hr.mono (by decide)) (by rfl) tk_of (fa_cons (fe_v 9) (fa_cons (fe_v 1) (fa_cons (fe_v 11) fa_nil)))))) (fss_one (fs_ret (fe_q fq_bl))) fss_nil) (fss_cons (fs_if (ft_not (ft_val (fe_call h_d_law_lot_is (hr.mono (by decide)) (by rfl) tk_of (fa_cons (fe_v 10) (fa_cons (fe_v 1) (fa_cons (fe_call h_d_law_mirrored (hr.mono (by decide)) (by rfl) tk_of (fa_cons (fe_v 1) (fa_cons (fe_v 2) fa_nil))) fa_nil)))))) (fss_one (fs_ret (fe_q fq_bl))) fss_nil) (fss_cons (fs_if (PW.pt (fw_or (ft_not (ft_val (fe_call h_d_law_counts (hr.mono (by decide)) (by rfl) tk_of (fa_cons (fe_v 9) (fa_cons (fe_v 1) (fa_cons (fe_v 11) fa_nil)))))) (fw_or1 (ft_not (ft_val (fe_call h_d_law_counts (hr.mono (by decide)) (by rfl) tk_of (fa_cons (fe_v 10) (fa_cons (fe_v 1) (fa_cons (fe_call h_d_law_mirrored (hr.mono (by decide)) (by rfl) tk_of (fa_cons (fe_v 1) (fa_cons (fe_v 2) fa_nil))) fa_nil))))))))) (fss_one (fs_ret (fe_q fq_bl))) fss_nil) (fss_cons (fs_if (ft_not (ft_val (fe_call h_d_law_moved_table (hr.mono (by decide)) (by rfl) tk_of (fa_cons (fe_prop P_d_Lot_table (hr.mono (by decide)) (fq_v 9)) (fa_cons (fe_v 7) (fa_cons (fe_lc (own := [("_law_i", 14)]) rfl sc_d_law.nd (fi_range1 (by rfl) T.n_range (fa_cons (fe_v 6) fa_nil)) (blkOk_by (own := [("_law_i", 14)]) (N := N_d_law) (sc := (defScope s_d_law)) (by decide +kernel)) (fun _ _ _ _ _ => (fg_name (i := 14) sc_d_law.nd rfl (by first | exact .inl rfl | exact .inr rfl))) (fun _ _ _ _ _ => ft_nil) (fun _ _ _ _ _ => (fe_q (fq_op q_mod op_mod (fq_callTy1 q_int call_int1 (by rfl) T.n_int (by decide +kernel) (fq_op q_addI op_add (fq_v 14) (fq_v 3))) (fq_v 6))))) fa_nil)))))) (fss_one (fs_ret (fe_q fq_bl))) fss_nil) (fss_cons (fs_if (ft_not (ft_val (fe_call h_d_law_moved_table (hr.mono (by decide)) (by rfl) tk_of (fa_cons (fe_prop P_d_Lot_table (hr.mono (by decide)) (fq_v 10)) (fa_cons (fe_v 7) (fa_cons (fe_lc (own := [("_law_i", 14)]) rfl sc_d_law.nd (fi_range1 (by rfl) T.n_range (fa_cons (fe_v 6) fa_nil)) (blkOk_by (own := [("_law_i", 14)]) (N := N_d_law) (sc := (defScope s_d_law)) (by decide +kernel)) (fun _ _ _ _ _ => (fg_name (i := 14) sc_d_law.nd rfl (by first | exact .inl rfl | exact .inr rfl))) (fun _ _ _ _ _ => ft_nil) (fun _ _ _ _ _ => (fe_q (fq_op q_mod op_mod (fq_callTy1 q_int call_int1 (by rfl) T.n_int (by decide +kernel) (fq_op q_sub op_sub (fq_op q_sub op_sub (fq_v 1) fq_int) (fq_v 14))) (fq_v 6))))) fa_nil)))))) (fss_one (fs_ret (fe_q fq_bl))) fss_nil) (fss_cons (fs_if (PW.pt (fw_or (ft_not (ft_val (fe_call h_d_law_lot_is (hr.mono (by decide)) (by rfl) tk_of (fa_cons (fe_meth M_d_Lot_turned (hr.mono (by decide)) tk_of (fq_v 9) (fa_cons (fe_q (fq_neg (fq_v 3))) fa_nil)) (fa_cons (fe_v 1) (fa_cons (fe_v 2) fa_nil)))))) (fw_or1 (ft_not (ft_val (fe_call h_d_law_lot_is (hr.mono (by decide)) (by rfl) tk_of (fa_cons (fe_meth0 M_d_Lot_mirrored (hr.mono (by decide)) tk_of (fq_v 10)) (fa_cons (fe_v 1) (fa_cons (fe_v 2) fa_nil))))))))) (fss_one (fs_ret (fe_q fq_bl))) fss_nil) (fss_cons (fs_if (PW.pt (fw_or (ft_not (ft_val (fe_call h_d_law_counts (hr.mono (by decide)) (by rfl) tk_of (fa_cons (fe_meth M_d_Lot_turned (hr.mono (by decide)) tk_of (fq_v 9) (fa_cons (fe_q (fq_neg (fq_v 3))) fa_nil)) (fa_cons (fe_v 1) (fa_cons (fe_v 2) fa_nil)))))) (fw_or1 (ft_not (ft_val (fe_call h_d_law_counts (hr.mono (by decide)) (by rfl) tk_of (fa_cons (fe_meth0 M_d_Lot_mirrored (hr.mono (by decide)) tk_of (fq_v 10)) (fa_cons (fe_v 1) (fa_cons (fe_v 2) fa_nil))))))))) (fss_one (fs_ret (fe_q fq_bl))) fss_nil) (fss_cons (fs_set (i := 12) sc_d_law.nd rfl (by first | exact .inl rfl | exact .inr rfl) (fe_call h_d_law_turned (hr.mono (by decide)) (by rfl) tk_of (fa_cons (fe_v 1) (fa_cons (fe_v 2) (fa_cons (fe_q (fq_op q_addI op_add (fq_v 3) (fq_v 4))) fa_nil))))) (fss_cons (fs_if (PW.pt (fw_or (ft_not (ft_val (fe_call h_d_law_lot_is (hr.mono (by decide)) (by rfl) tk_of (fa_cons (fe_meth M_d_Lot_turned (hr.mono (by decide)) tk_of (fq_v 9) (fa_cons (fe_v 4) fa_nil)) (fa_cons (fe_v 1) (fa_cons (fe_v 12) fa_nil)))))) (fw_or1 (ft_not (ft_val (fe_call h_d_law_lot_is (hr.mono (by decide)) (by rfl) tk_of (fa_cons (fe_meth M_d_Lot_turned (hr.mono (by decide)) tk_of (fq_v 5) (fa_cons (fe_q (fq_op q_addI op_add (fq_v 3) (fq_v 4))) fa_nil)) (fa_cons (fe_v 1) (fa_cons (fe_v 12) fa_nil))))))))) (fss_one (fs_ret (fe_q fq_bl))) fss_nil) (fss_cons (fs_if (PW.pt (fw_or (ft_not (ft_val (fe_call h_d_law_lot_is (hr.mono (by decide)) (by rfl) tk_of (fa_cons (fe_meth M_d_Lot_turned (hr.mono (by decide)) tk_of (fq_v 5) (fa_cons (fe_v 1) fa_nil)) (fa_cons (fe_v 1) (fa_cons (fe_v 2) fa_nil)))))) (fw_or1 (ft_not (ft_val (fe_call h_d_law_lot_is (hr.mono (by decide)) (by rfl) tk_of (fa_cons (fe_meth M_d_Lot_turned (hr.mono (by decide)) tk_of (fq_v 5) (fa_cons (fe_q fq_int) fa_nil)) (fa_cons (fe_v 1) (fa_cons (fe_v 2) fa_nil))))))))) (fss_one (fs_ret (fe_q fq_bl))) fss_nil) (fss_cons (fs_set (i := 13) sc_d_law.nd rfl (by first | exact .inl rfl | exact .inr rfl) (fe_call h_d_law_turned (hr.mono (by decide)) (by rfl) tk_of (fa_cons (fe_v 1) (fa_cons (fe_call h_d_law_mirrored (hr.mono (by decide)) (by rfl) tk_of (fa_cons (fe_v 1) (fa_cons (fe_v 2) fa_nil))) (fa_cons (fe_v 3) fa_nil))))) (fss_cons (fs_if (PW.pt (fw_or (ft_not (ft_val (fe_call h_d_law_lot_is (hr.mono (by decide)) (by rfl) tk_of (fa_cons (fe_meth M_d_Lot_turned (hr.mono (by decide)) tk_of (fq_v 10) (fa_cons (fe_v 3) fa_nil)) (fa_cons (fe_v 1) (fa_cons (fe_v 13) fa_nil)))))) (fw_or1 (ft_not (ft_val (fe_call h_d_law_lot_is (hr.mono (by decide)) (by rfl) tk_of (fa_cons (fe_methE0 M_d_Lot_mirrored (hr.mono (by decide)) tk_of (fe_meth M_d_Lot_turned (hr.mono (by decide)) tk_of (fq_v 5) (fa_cons (fe_q (fq_neg (fq_v 3))) fa_nil))) (fa_cons (fe_v 1) (fa_cons (fe_v 13) fa_nil))))))))) (fss_one (fs_ret (fe_q fq_bl))) fss_nil) (fss_cons (fs_if (PW.pt (fw_or (ft_not (ft_val (fe_call h_d_law_lot_is (hr.mono (by decide)) (by rfl) tk_of (fa_cons (fe_v 5) (fa_cons (fe_v 1) (fa_cons (fe_v 2) fa_nil)))))) (fw_or1 (ft_not (ft_val (fe_call h_d_law_lot_is (hr.mono (by decide)) (by rfl) tk_of (fa_cons (fe_v 9) (fa_cons (fe_v 1) (fa_cons (fe_v 11) fa_nil))))))))) (fss_one (fs_ret (fe_q fq_bl))) fss_nil) (fss_cons (fs_if (ft_not (ft_val (fe_call h_d_law_lot_is (hr.mono (by decide)) (by rfl) tk_of (fa_cons (fe_meth0 M_d_Lot_mirrored (hr.mono (by decide)) tk_of (fq_v 5)) (fa_cons (fe_v 1) (fa_cons (fe_call h_d_law_mirrored (hr.mono (by decide)) (by rfl) tk_of (fa_cons (fe_v 1) (fa_cons (fe_v 2) fa_nil))) fa_nil)))))) (fss_one (fs_ret (fe_q fq_bl))) fss_nil) (fss_one (fs_ret (fe_call h_d_law_lot_is (hr.mono (by decide)) (by rfl) tk_of (fa_cons (fe_methK0 K_d_Lot_turned (hr.mono (by decide)) tk_of (fq_v 5) (fk_cons (fe_v 3) fk_nil)) (fa_cons (fe_v 1) (fa_cons (fe_v 11) fa_nil)))))))))))))))))))))))))))))))))
end
end Prg

set_option Elab.async false
set_option linter.all false
set_option maxRecDepth 100000
namespace FL
open PySem
open L2 (Key)
/-! ### entries of cords, in plain Lean -/
abbrev T3 := Int × Int × Int
def tD (t : T3) : D := .tup [.int t.1, .int t.2.1, .int t.2.2]
def kk (p : Int × Int) : List Key := [Sum.inl p.1, Sum.inl p.2]
theorem kk_inj {p q : Int × Int} : kk p = kk q ↔ p = q := by
  constructor
  · intro h
    unfold kk at h
    injection h with h1 h2
    injection h2 with h3 h4
    exact Prod.ext (Sum.inl.inj h1) (Sum.inl.inj h3)
  · intro h; rw [h]
def good (t : T3) : Bool := !decide (t.1 = t.2.1) && decide (0 < t.2.2)
def prT (t : T3) : Int × Int := (min t.1 t.2.1, max t.1 t.2.1)
def wt (t : T3) (p : Int × Int) : Int := if good t = true ∧ prT t = p then t.2.2 else 0
def tot (ts : List T3) (p : Int × Int) : Int := (ts.map fun t => wt t p).sum
def addK (ks : List (Int × Int)) (p : Int × Int) : List (Int × Int) := if p ∈ ks then ks else ks ++ [p]
def met (ts : List T3) : List (Int × Int) := ts.foldl (fun ks t => if good t then addK ks (prT t) else ks) []
def comb (ts : List T3) : List T3 := (sortP (met ts)).map fun p => (p.1, p.2, tot ts p)
theorem met_snoc (ts : List T3) (t : T3) : met (ts ++ [t]) = if good t then addK (met ts) (prT t) else met ts := by
  unfold met
  rw [List.foldl_append]
  rfl
theorem tot_snoc (ts : List T3) (t : T3) (p : Int × Int) : tot (ts ++ [t]) p = tot ts p + wt t p := by
  unfold tot
  rw [List.map_append, List.sum_append]
  simp
theorem mem_addK {ks : List (Int × Int)} {p q : Int × Int} : q ∈ addK ks p ↔ q ∈ ks ∨ q = p := by
  unfold addK
  split
  · constructor
    · exact .inl
    · rintro (h | h)
      · exact h
      · rw [h]; assumption
  · simp
theorem nd_addK {ks : List (Int × Int)} {p : Int × Int} (h : ks.Nodup) : (addK ks p).Nodup := by
  unfold addK
  split
  · exact h
  · rename_i hp
    rw [List.nodup_append]
    exact ⟨h, by simp, fun a ha b hb => by
      simp at hb
      subst hb
      exact fun e => hp (e ▸ ha)⟩
/-- by the last entry -/
theorem snoc_ind {α : Type} {P : List α → Prop} (h0 : P []) (hs : ∀ l a, P l → P (l ++ [a])) (l : List α) : P l := by
  rw [← List.reverse_reverse l]
  induction l.reverse with
  | nil => exact h0
  | cons a r ih => rw [List.reverse_cons]; exact hs _ _ ih
theorem mem_met (ts : List T3) : ∀ p, p ∈ met ts ↔ ∃ t ∈ ts, good t = true ∧ prT t = p := by
  refine snoc_ind (P := fun ts => ∀ p, p ∈ met ts ↔ ∃ t ∈ ts, good t = true ∧ prT t = p) (fun p => by simp [met]) (fun l a ih p => ?_) ts
  rw [met_snoc]
  by_cases h : good a = true
  · rw [if_pos h, mem_addK, ih p]
    constructor
    · rintro (⟨t, h1, h2⟩ | h1)
      · exact ⟨t, List.mem_append_left _ h1, h2⟩
      · exact ⟨a, by simp, h, h1.symm⟩
    · rintro ⟨t, h1, h2, h3⟩
      rw [List.mem_append] at h1
      rcases h1 with h1 | h1
      · exact .inl ⟨t, h1, h2, h3⟩
      · simp at h1
        subst h1
        exact .inr h3.symm
  · rw [if_neg h, ih p]
    constructor
    · rintro ⟨t, h1, h2⟩
      exact ⟨t, List.mem_append_left _ h1, h2⟩
    · rintro ⟨t, h1, h2, h3⟩
      rw [List.mem_append] at h1
      rcases h1 with h1 | h1
      · exact ⟨t, h1, h2, h3⟩
      · simp at h1
        subst h1
        exact absurd h2 h
theorem nd_met (ts : List T3) : (met ts).Nodup := by
  refine snoc_ind (P := fun ts => (met ts).Nodup) (by simp [met]) (fun l a ih => ?_) ts
  rw [met_snoc]
  split
  · exact nd_addK ih
  · exact ih
theorem len_met (ts : List T3) : (met ts).length ≤ ts.length := by
  refine snoc_ind (P := fun ts => (met ts).length ≤ ts.length) (by simp [met]) (fun l a ih => ?_) ts
  rw [met_snoc, List.length_append, List.length_singleton]
  split
  · unfold addK
    split
    · omega
    · rw [List.length_append, List.length_singleton]; omega
  · omega
theorem sum_zeros {α : Type} : ∀ ts : List α, (ts.map fun _ => (0 : Int)).sum = 0
  | [] => rfl
  | t :: ts => by rw [List.map_cons, List.sum_cons, sum_zeros ts]; rfl
theorem tot_zero {ts : List T3} {p : Int × Int} (h : p ∉ met ts) : tot ts p = 0 := by
  unfold tot
  have : (ts.map fun t => wt t p) = ts.map fun _ => 0 := List.map_congr_left fun t ht => by
    unfold wt
    rw [if_neg]
    intro z
    exact h ((mem_met ts p).mpr ⟨t, ht, z⟩)
  rw [this]
  exact sum_zeros ts
/-! the dict, as pairs -/
def vI (f : Int × Int → Int) (p : Int × Int) : D := .int (f p)
theorem getT_map (f : Int × Int → Int) (p : Int × Int) : ∀ ks : List (Int × Int), getT (ks.map kk) (ks.map (vI f)) (kk p) = if p ∈ ks then some (.int (f p)) else none
  | [] => rfl
  | q :: ks => by
    rw [List.map_cons, List.map_cons]
    unfold getT
    by_cases h : q = p
    · subst h
      simp [vI]
    · rw [if_neg (fun z => h (kk_inj.mp z)), getT_map f p ks]
      have : (p ∈ q :: ks) ↔ p ∈ ks := by simp [Ne.symm h]
      simp only [this]
theorem hasT_map (p : Int × Int) : ∀ ks : List (Int × Int), hasT (ks.map kk) (kk p) = decide (p ∈ ks)
  | [] => rfl
  | q :: ks => by
    have ih := hasT_map p ks
    unfold hasT at ih ⊢
    rw [List.map_cons, List.any_cons, ih]
    by_cases h : q = p
    · rw [decide_eq_true (show kk q = kk p by rw [h]), decide_eq_true (show p ∈ q :: ks by rw [h]; exact List.mem_cons_self)]; rfl
    · rw [decide_eq_false (fun z => h (kk_inj.mp z)), Bool.false_or]
      have e : (p ∈ q :: ks) ↔ p ∈ ks := by simp [Ne.symm h]
      by_cases h2 : p ∈ ks
      · rw [decide_eq_true h2, decide_eq_true (e.mpr h2)]
      · rw [decide_eq_false h2, decide_eq_false (fun z => h2 (e.mp z))]
theorem putTk_map (p : Int × Int) (ks : List (Int × Int)) : putTk (ks.map kk) (kk p) = (addK ks p).map kk := by
  unfold putTk addK
  rw [hasT_map]
  by_cases h : p ∈ ks <;> simp [h]
theorem putTz_map (f : Int × Int → Int) (p : Int × Int) (v : Int) : ∀ ks : List (Int × Int), putTz (ks.map kk) (ks.map (vI f)) (kk p) (.int v) = ks.map (vI fun q => if q = p then v else f q)
  | [] => rfl
  | q :: ks => by
    rw [List.map_cons, List.map_cons, List.map_cons]
    unfold putTz
    rw [putTz_map f p v ks]
    congr 1
    show _ = D.int (if q = p then v else f q)
    by_cases h : q = p
    · rw [if_pos (by rw [h]), if_pos h]
    · rw [if_neg (fun z => h (kk_inj.mp z)), if_neg h]; rfl
theorem putTd_map (f : Int × Int → Int) (p : Int × Int) (v : Int) (ks : List (Int × Int)) : putTd (ks.map kk) (ks.map (vI f)) (kk p) (.int v) = (addK ks p).map (vI fun q => if q = p then v else f q) := by
  unfold putTd addK
  rw [hasT_map]
  by_cases h : p ∈ ks
  · simp only [h, decide_true, if_true]
    exact putTz_map f p v ks
  · have e : ks.map (vI f) = ks.map (vI fun q => if q = p then v else f q) := List.map_congr_left fun q hq => by
      show D.int (f q) = D.int (if q = p then v else f q)
      rw [if_neg (show ¬ q = p from fun e => h (e ▸ hq))]
    simp only [h, decide_false, Bool.false_eq_true, if_false]
    rw [List.map_append, e]
    simp [vI]
theorem keyT_pair (i j : Int) : keyT (.tup [.int i, .int j]) = some (kk (i, j)) := rfl
theorem keyPairs_kk : ∀ ps : List (Int × Int), keyPairs (ps.map kk) = some ps := keyPairs_map
theorem soL_vT (ps : List (Int × Int)) (ds : List D) : soL [.vT (ps.map kk) ds] = some (.vec ((sortP ps).map mkP)) := by
  show (keyPairs (ps.map kk)).map _ = _
  rw [keyPairs_kk]; rfl
theorem soL_dT (ps : List (Int × Int)) (ds : List D) : soL [.dT (ps.map kk) ds] = some (.vec ((sortP ps).map mkP)) := by
  show (keyPairs (ps.map kk)).map _ = _
  rw [keyPairs_kk]; rfl
theorem soL_lst (ps : List (Int × Int)) : soL [.lst (ps.map mkP)] = some (.vec ((sortP ps).map mkP)) := by
  show (pairsD (ps.map mkP)).map _ = _
  rw [pairsD_map]; rfl
theorem sumL_vec (ns : List Int) : sumL [.vec (ns.map D.int)] = some (.int ns.sum) := by
  show (intsD (ns.map D.int)).map _ = _
  rw [intsD_map]; rfl
theorem sq_tup (ds : List D) : sq (.tup ds) = some ds := rfl
theorem sq_lst (ds : List D) : sq (.lst ds) = some ds := rfl
theorem sq_vec (ds : List D) : sq (.vec ds) = some ds := rfl
theorem tD_pure (t : T3) : (tD t).pure = true := rfl
theorem mkP_pure (t : Int × Int) : (mkP t).pure = true := rfl
theorem vI_pure (f : Int × Int → Int) (t : Int × Int) : (vI f t).pure = true := rfl
theorem frzs_vI (f : Int × Int → Int) (l : List (Int × Int)) : D.frzs (l.map (vI f)) = l.map (vI f) := D.frzs_map (vI_pure f) l
theorem frzs_tD (l : List T3) : D.frzs (l.map tD) = l.map tD := D.frzs_map tD_pure l
theorem pures_tD (l : List T3) : D.pures (l.map tD) = true := D.pures_map tD_pure l
theorem frzs_mkP (l : List (Int × Int)) : D.frzs (l.map mkP) = l.map mkP := D.frzs_map mkP_pure l
theorem pures_mkP (l : List (Int × Int)) : D.pures (l.map mkP) = true := D.pures_map mkP_pure l
theorem len_sortP (ps : List (Int × Int)) : (sortP ps).length = ps.length := (sortP_perm ps).length_eq
theorem len_comb (ts : List T3) : (comb ts).length ≤ ts.length := by
  unfold comb
  rw [List.length_map, len_sortP]
  exact len_met ts
theorem isObj_0 (ds : List D) : isObj' 0 (.obj 0 ds) = true := rfl
theorem pure_obj (c : Nat) (ds : List D) : (D.obj c ds).pure = D.pures ds := by rw [D.pure]
/-- a lot -/
def lotD (p : Int) (cs : List T3) : D := .obj 0 [.int p, .tup (cs.map tD)]
theorem lot_pure (p : Int) (cs : List T3) : (lotD p cs).pure = true := by
  unfold lotD
  rw [D.pure, D.pures, D.pures, D.pures, D.pure, D.pure, pures_tD]
  rfl
theorem lot_frz (p : Int) (cs : List T3) : (lotD p cs).frz = lotD p cs := D.frz_of_pure (lot_pure p cs)
theorem lot_isO (p : Int) (cs : List T3) : isObj' 0 (lotD p cs) = true := rfl
end FL

set_option Elab.async false
set_option linter.all false
set_option maxRecDepth 100000
namespace FL
open PySem
def sm {α : Type} (l : List α) (f : α → Int) : Int := (l.map f).sum
theorem sm_nil {α : Type} (f : α → Int) : sm [] f = 0 := rfl
theorem sm_cons {α : Type} (x : α) (l : List α) (f : α → Int) : sm (x :: l) f = f x + sm l f := by unfold sm; rw [List.map_cons, List.sum_cons]
theorem sm_append {α : Type} (l m : List α) (f : α → Int) : sm (l ++ m) f = sm l f + sm m f := by unfold sm; rw [List.map_append, List.sum_append]
theorem sm_congr {α : Type} {l : List α} {f g : α → Int} (h : ∀ x ∈ l, f x = g x) : sm l f = sm l g := by unfold sm; rw [List.map_congr_left h]
theorem sm_map {α β : Type} (l : List α) (g : α → β) (f : β → Int) : sm (l.map g) f = sm l fun x => f (g x) := by unfold sm; rw [List.map_map]; rfl
theorem sm_perm {α : Type} {l m : List α} (h : l.Perm m) (f : α → Int) : sm l f = sm m f := by
  unfold sm
  induction h with
  | nil => rfl
  | cons x _ ih => rw [List.map_cons, List.map_cons, List.sum_cons, List.sum_cons, ih]
  | swap x y l => simp only [List.map_cons, List.sum_cons]; omega
  | trans _ _ h1 h2 => rw [h1, h2]
theorem sm_add {α : Type} (f g : α → Int) : ∀ l : List α, sm l (fun x => f x + g x) = sm l f + sm l g
  | [] => rfl
  | x :: l => by rw [sm_cons, sm_cons, sm_cons, sm_add f g l]; omega
theorem sm_zero {α : Type} : ∀ l : List α, sm l (fun _ => 0) = 0
  | [] => rfl
  | x :: l => by rw [sm_cons, sm_zero l]; rfl
theorem sm_filter {α : Type} (p : α → Bool) (f : α → Int) : ∀ l : List α, sm (l.filter p) f = sm l fun x => if p x then f x else 0
  | [] => rfl
  | x :: l => by
    rw [sm_cons, List.filter_cons]
    by_cases h : p x = true
    · rw [if_pos h, if_pos h, sm_cons, sm_filter p f l]
    · rw [if_neg h, if_neg h, sm_filter p f l]; omega
theorem sm_nonneg {α : Type} {f : α → Int} : ∀ {l : List α}, (∀ x ∈ l, 0 ≤ f x) → 0 ≤ sm l f
  | [], _ => by rw [sm_nil]; omega
  | x :: l, h => by
    rw [sm_cons]
    have h1 := h x List.mem_cons_self
    have h2 := sm_nonneg (l := l) fun y hy => h y (List.mem_cons_of_mem _ hy)
    omega
theorem sm_ge {α : Type} {f : α → Int} : ∀ {l : List α}, (∀ x ∈ l, 0 ≤ f x) → ∀ x ∈ l, f x ≤ sm l f
  | [], _, x, h => by cases h
  | y :: l, h, x, hx => by
    rw [sm_cons]
    have h1 := h y List.mem_cons_self
    have h2 := sm_nonneg (l := l) fun z hz => h z (List.mem_cons_of_mem _ hz)
    rcases List.mem_cons.mp hx with e | hx
    · rw [e]; omega
    · have := sm_ge (l := l) (fun z hz => h z (List.mem_cons_of_mem _ hz)) x hx
      omega
/-- at one place alone -/
theorem sm_one {α : Type} [DecidableEq α] (p : α) (c : Int) : ∀ {l : List α}, l.Nodup → sm l (fun q => if q = p then c else 0) = if p ∈ l then c else 0
  | [], _ => by simp [sm_nil]
  | x :: l, h => by
    rw [List.nodup_cons] at h
    rw [sm_cons, sm_one p c h.2]
    by_cases e : x = p
    · subst e
      rw [if_pos rfl, if_neg h.1, if_pos List.mem_cons_self]; omega
    · rw [if_neg e]
      have e2 : (p ∈ x :: l) ↔ p ∈ l := by simp [Ne.symm e]
      simp only [e2]
      omega
/-! ### what is linear in the cords -/
def lin (ts : List T3) (φ : Int × Int → Int) : Int := sm ts fun t => if good t = true then t.2.2 * φ (prT t) else 0
theorem tot_lin (ts : List T3) (q : Int × Int) : tot ts q = lin ts fun p => if p = q then 1 else 0 := by
  unfold tot lin
  refine sm_congr (f := fun t => wt t q) fun t _ => ?_
  unfold wt
  by_cases h : good t = true
  · by_cases h2 : prT t = q
    · simp [h, h2]
    · simp [h, h2]
  · simp [h]
theorem met_lin (φ : Int × Int → Int) (ts : List T3) : sm (met ts) (fun p => tot ts p * φ p) = lin ts φ := by
  refine snoc_ind (P := fun ts => sm (met ts) (fun p => tot ts p * φ p) = lin ts φ) rfl (fun l a ih => ?_) ts
  have el : lin (l ++ [a]) φ = lin l φ + if good a = true then a.2.2 * φ (prT a) else 0 := by
    unfold lin
    rw [sm_append, sm_cons, sm_nil, Int.add_zero]
  rw [el, ← ih, met_snoc]
  have e1 : ∀ ks : List (Int × Int), sm ks (fun p => tot (l ++ [a]) p * φ p) = sm ks (fun p => tot l p * φ p) + sm ks (fun p => wt a p * φ p) := fun ks => by
    rw [← sm_add]
    exact sm_congr fun p _ => by rw [tot_snoc, Int.add_mul]
  by_cases h : good a = true
  · rw [if_pos h, if_pos h, e1]
    have e2 : sm (addK (met l) (prT a)) (fun p => tot l p * φ p) = sm (met l) (fun p => tot l p * φ p) := by
      unfold addK
      split
      · rfl
      · rename_i hp
        rw [sm_append, sm_cons, sm_nil, tot_zero hp]; omega
    have e3 : sm (addK (met l) (prT a)) (fun p => wt a p * φ p) = a.2.2 * φ (prT a) := by
      have : sm (addK (met l) (prT a)) (fun p => wt a p * φ p) = sm (addK (met l) (prT a)) (fun p => if p = prT a then a.2.2 * φ (prT a) else 0) := sm_congr fun p _ => by
        unfold wt
        by_cases e : p = prT a
        · subst e; rw [if_pos ⟨h, rfl⟩, if_pos rfl]
        · rw [if_neg (fun z => e z.2.symm), if_neg e, Int.zero_mul]
      rw [this, sm_one _ _ (nd_addK (nd_met l)), if_pos (mem_addK.mpr (.inr rfl))]
    rw [e2, e3]
  · rw [if_neg h, if_neg h, e1]
    have : sm (met l) (fun p => wt a p * φ p) = 0 := by
      rw [← sm_zero (met l)]
      exact sm_congr fun p _ => by unfold wt; rw [if_neg (fun z => h z.1), Int.zero_mul]
    rw [this]
theorem wt_nonneg (t : T3) (p : Int × Int) : 0 ≤ wt t p := by
  unfold wt
  split
  · rename_i h
    have := h.1
    unfold good at this
    rw [Bool.and_eq_true, decide_eq_true_eq] at this
    omega
  · omega
theorem met_pos {ts : List T3} {p : Int × Int} : p ∈ met ts ↔ 0 < tot ts p := by
  constructor
  · intro h
    obtain ⟨t, ht, hg, hp⟩ := (mem_met ts p).mp h
    have h1 : wt t p ≤ tot ts p := sm_ge (f := fun t => wt t p) (fun x _ => wt_nonneg x p) t ht
    have h2 : wt t p = t.2.2 := by unfold wt; rw [if_pos ⟨hg, hp⟩]
    have h3 : 0 < t.2.2 := by unfold good at hg; rw [Bool.and_eq_true, decide_eq_true_eq] at hg; exact hg.2
    omega
  · intro h
    by_cases hm : p ∈ met ts
    · exact hm
    · rw [tot_zero hm] at h; omega
/-- a normal form is told by its totals -/
theorem comb_ext {ts us : List T3} (h : ∀ p, tot ts p = tot us p) : comb ts = comb us := by
  have pm : (met ts).Perm (met us) := (List.perm_ext_iff_of_nodup (nd_met ts) (nd_met us)).mpr fun p => by rw [met_pos, met_pos, h]
  have e : sortP (met ts) = sortP (met us) := sort_uniq ((sortP_perm _).trans (pm.trans (sortP_perm _).symm)) (sortP_pw _) (sortP_pw _)
  unfold comb
  rw [e]
  exact List.map_congr_left fun p _ => by rw [h]
/-- the entries of a normal form -/
theorem comb_good {ts : List T3} {t : T3} (h : t ∈ comb ts) : t.1 < t.2.1 ∧ 0 < t.2.2 ∧ (t.1, t.2.1) ∈ met ts := by
  unfold comb at h
  obtain ⟨p, hp, rfl⟩ := List.mem_map.mp h
  have hm : p ∈ met ts := (sortP_perm _).mem_iff.mp hp
  obtain ⟨u, hu, hg, e⟩ := (mem_met ts p).mp hm
  refine ⟨?_, met_pos.mp hm, hm⟩
  have : u.1 ≠ u.2.1 := by unfold good at hg; rw [Bool.and_eq_true] at hg; have := hg.1; simpa using this
  rw [← e]
  show min u.1 u.2.1 < max u.1 u.2.1
  omega
theorem good_of {t : T3} (h : t.1 < t.2.1 ∧ 0 < t.2.2) : good t = true ∧ prT t = (t.1, t.2.1) := by
  unfold good prT
  refine ⟨?_, ?_⟩
  · rw [Bool.and_eq_true, decide_eq_true_eq]
    refine ⟨?_, h.2⟩
    have : ¬ t.1 = t.2.1 := by omega
    simp [this]
  · rw [Int.min_eq_left (by omega), Int.max_eq_right (by omega)]
theorem comb_lin (ts : List T3) (φ : Int × Int → Int) : lin (comb ts) φ = lin ts φ := by
  rw [← met_lin φ ts]
  have : lin (comb ts) φ = sm (comb ts) fun t => t.2.2 * φ (t.1, t.2.1) := sm_congr fun t ht => by
    have g := comb_good ht
    obtain ⟨h1, h2⟩ := good_of ⟨g.1, g.2.1⟩
    rw [if_pos h1, h2]
  rw [this]
  unfold comb
  rw [sm_map]
  exact sm_perm (sortP_perm _) _
theorem comb_tot (ts : List T3) (p : Int × Int) : tot (comb ts) p = tot ts p := by rw [tot_lin, tot_lin, comb_lin]
theorem comb_comb (ts : List T3) : comb (comb ts) = comb ts := comb_ext (comb_tot ts)
end FL

set_option Elab.async false
set_option linter.all false
set_option maxRecDepth 100000
set_option maxHeartbeats 1000000
namespace Math
open PySem FL Prg
open L2 (atI atI_nat)
theorem gaps_eq (p : Int) : d_gaps [.int p] = .rt (.int (max p 1)) := by
  simp -implicitDefEqProofs only [d_gaps, b_d_gaps, runF, eBinR, qFld, eMth, eMth0, eProp, lot_pure, lot_frz, lot_isO, eBad, sBad, gT, gCo, gNl, sAsg, sDput, eDget, eDget2, dicO, sPut, sPut2, sq_tup, sq_lst, sq_vec, sNx, sSeq, sIf, sRet, sSet, sEx, sBk, sCt, sFgt, fgt, eC, eV, eM, eBin, eUn, aNil, aCons, eTup, eLst, eFn, tB1, tAnd, tOr, tNot, eAnd, eOr, eNot, eIf, eCall, eCallK, pick, eQ, tQ1, qV, qC, qBin, qUn, qB, qAnd, qOr, qNot, qIf, qAndT, qOrT, qNotT, qChain, eChain, eLc, sFor, iSq, iRg1, iRg2, gN, itms, rst, eApp, D.frz, D.frzs, D.pure, D.pures, bind_ok, bind_ex, stmt_ok, stmt_ex, seq_nx, seq_rt, seq_ex, seq_bk, seq_ct, fgt_nx, fgt_bk, fgt_ct, fgt_rt, fgt_ex, out_nx, out_rt, out_ex, opt_some, optL_some, andB_tt, andB_ff, andB_some, orB_tt, orB_ff, orB_some, andX_tt, andX_ff, andX_some, orX_tt, orX_ff, orX_some, itAnd, itOr, itAndX, itOrX, Option.bind_some, List.map_cons, List.map_nil, List.length_cons, List.length_nil, List.cons_append, List.nil_append, List.getElem?_cons_zero, List.getElem?_cons_succ, List.getElem?_nil, List.set_cons_zero, List.set_cons_succ, List.replicate, addI_i, subD_i, ltD_i, leD_i, gtD_i, geD_i, eqS_int, neS_int, eqS_bl, neS_bl, max2_i, min2_i, maxL_i, minL_i, int1_i, intL_i, if_true, if_false, ite_true, ite_false, and_true, true_and, and_self, Bool.and_self, Bool.and_true, Bool.true_and, Bool.and_false, Bool.false_and, Bool.or_true, Bool.true_or, Bool.or_false, Bool.false_or, Bool.not_true, Bool.not_false, Nat.reduceAdd, Nat.reduceSub, Nat.reduceEqDiff, List.filterMap_cons, List.filterMap_nil, decide_true, decide_false, Bool.false_eq_true, reduceIte, Int.reduceAdd, Int.reduceSub, Int.reduceMul, Int.reduceNeg, Int.reduceLT, Int.reduceLE, Int.reduceEq, Int.reduceMod, Int.reduceDiv, Int.lt_irrefl, reduceCtorEq, D.frzs_int, D.pures_int, cap_0, cap_1, cap_2, cap_3, cap_4, cap_5, cap_6, cap_7, cap_8, cap_9, cap_10, cap_11, cap_12, cap_13, cap_14, cap_15, cap_16, cap_17, cap_18, cap_19, cap_20, cap_21, cap_22, cap_23, cap_24, cap_25, cap_26, cap_27, cap_28, cap_29, cap_30, cap_31, cap_32, cap_33, cap_34, cap_35, cap_36, cap_37, cap_38, cap_39, cap_40]
def envC (d : D) (ts : List T3) : Rho := [some d, some (.vT ((met ts).map kk) ((met ts).map (vI (tot ts)))), none, none, none, none]
theorem tot_step (ts : List T3) (t : T3) (hg : good t = true) : (addK (met ts) (prT t)).map (vI fun q => if q = prT t then tot ts (prT t) + t.2.2 else tot ts q) = (met (ts ++ [t])).map (vI (tot (ts ++ [t]))) := by
  rw [met_snoc, if_pos hg]
  refine List.map_congr_left fun q _ => ?_
  show D.int (if q = prT t then tot ts (prT t) + t.2.2 else tot ts q) = D.int (tot (ts ++ [t]) q)
  rw [tot_snoc]
  unfold wt
  by_cases h : q = prT t
  · subst h; rw [if_pos rfl, if_pos ⟨hg, rfl⟩]
  · rw [if_neg h, if_neg (fun z => h z.2.symm)]; rw [Int.add_zero]
theorem get_tot (ts : List T3) (p : Int × Int) : (match getT ((met ts).map kk) ((met ts).map (vI (tot ts))) (kk p) with | some d => (if d.pure then RX.ok d ([] : Rho) else .bad) | none => .ok (.int 0) []) = RX.ok (.int (tot ts p)) ([] : Rho) := by
  rw [getT_map]
  by_cases h : p ∈ met ts
  · rw [if_pos h]; rfl
  · rw [if_neg h, tot_zero h]
theorem comb_step (d : D) (ts : List T3) (t : T3) (hl : ts.length < 1000000) :
    (sFgt [2, 3, 4, 5] (sFgt [5] (sIf (tQ1 (qAndT (qB (qBin neS (qV 2) (qV 3))) (qB (qBin gtD (qV 4) (qC (.int 0)))))) (sSeq (sSet 5 (eTup (aCons (eQ (qBin min2 (qV 2) (qV 3))) (aCons (eQ (qBin max2 (qV 2) (qV 3))) aNil)))) (sDput 1 (eV 5) (eBin addI (eDget2 1 (eV 5) (qC (.int 0))) (eV 4)))) sNx)))
      [some d, some (.vT ((met ts).map kk) ((met ts).map (vI (tot ts)))), some (.int t.1), some (.int t.2.1), some (.int t.2.2), none] = .nx (envC d (ts ++ [t])) := by
  have hc : cap ((met ts).map kk).length = true := cap_of (by have := len_met ts; rw [List.length_map]; omega)
  have hp : keyT (.tup [.int (min t.1 t.2.1), .int (max t.1 t.2.1)]) = some (kk (prT t)) := rfl
  by_cases hg : good t = true
  · have h1 : (!decide (t.1 = t.2.1)) = true := by unfold good at hg; rw [Bool.and_eq_true] at hg; exact hg.1
    have h2 : decide (0 < t.2.2) = true := by unfold good at hg; rw [Bool.and_eq_true] at hg; exact hg.2
    have hs := tot_step ts t hg
    have hk : (addK (met ts) (prT t)).map kk = (met (ts ++ [t])).map kk := by rw [met_snoc, if_pos hg]
    by_cases hm : prT t ∈ met ts
    · simp -implicitDefEqProofs only [runF, eBinR, qFld, eMth, eMth0, eProp, lot_pure, lot_frz, lot_isO, eBad, sBad, gT, gCo, gNl, sAsg, sDput, eDget, eDget2, dicO, sPut, sPut2, sq_tup, sq_lst, sq_vec, sNx, sSeq, sIf, sRet, sSet, sEx, sBk, sCt, sFgt, fgt, eC, eV, eM, eBin, eUn, aNil, aCons, eTup, eLst, eFn, tB1, tAnd, tOr, tNot, eAnd, eOr, eNot, eIf, eCall, eCallK, pick, eQ, tQ1, qV, qC, qBin, qUn, qB, qAnd, qOr, qNot, qIf, qAndT, qOrT, qNotT, qChain, eChain, eLc, sFor, iSq, iRg1, iRg2, gN, itms, rst, eApp, D.frz, D.frzs, D.pure, D.pures, bind_ok, bind_ex, stmt_ok, stmt_ex, seq_nx, seq_rt, seq_ex, seq_bk, seq_ct, fgt_nx, fgt_bk, fgt_ct, fgt_rt, fgt_ex, out_nx, out_rt, out_ex, opt_some, optL_some, andB_tt, andB_ff, andB_some, orB_tt, orB_ff, orB_some, andX_tt, andX_ff, andX_some, orX_tt, orX_ff, orX_some, itAnd, itOr, itAndX, itOrX, Option.bind_some, List.map_cons, List.map_nil, List.length_cons, List.length_nil, List.cons_append, List.nil_append, List.getElem?_cons_zero, List.getElem?_cons_succ, List.getElem?_nil, List.set_cons_zero, List.set_cons_succ, List.replicate, addI_i, subD_i, ltD_i, leD_i, gtD_i, geD_i, eqS_int, neS_int, eqS_bl, neS_bl, max2_i, min2_i, maxL_i, minL_i, int1_i, intL_i, if_true, if_false, ite_true, ite_false, and_true, true_and, and_self, Bool.and_self, Bool.and_true, Bool.true_and, Bool.and_false, Bool.false_and, Bool.or_true, Bool.true_or, Bool.or_false, Bool.false_or, Bool.not_true, Bool.not_false, Nat.reduceAdd, Nat.reduceSub, Nat.reduceEqDiff, List.filterMap_cons, List.filterMap_nil, decide_true, decide_false, Bool.false_eq_true, reduceIte, Int.reduceAdd, Int.reduceSub, Int.reduceMul, Int.reduceNeg, Int.reduceLT, Int.reduceLE, Int.reduceEq, Int.reduceMod, Int.reduceDiv, Int.lt_irrefl, reduceCtorEq, D.frzs_int, D.pures_int, cap_0, cap_1, cap_2, cap_3, cap_4, cap_5, cap_6, cap_7, cap_8, cap_9, cap_10, cap_11, cap_12, cap_13, cap_14, cap_15, cap_16, cap_17, cap_18, cap_19, cap_20, cap_21, cap_22, cap_23, cap_24, cap_25, cap_26, cap_27, cap_28, cap_29, cap_30, cap_31, cap_32, cap_33, cap_34, cap_35, cap_36, cap_37, cap_38, cap_39, cap_40, h1, h2, hp, getT_map, hm, putTk_map, putTd_map, hc, hs, hk, envC]
    · rw [tot_zero hm] at hs
      simp -implicitDefEqProofs only [runF, eBinR, qFld, eMth, eMth0, eProp, lot_pure, lot_frz, lot_isO, eBad, sBad, gT, gCo, gNl, sAsg, sDput, eDget, eDget2, dicO, sPut, sPut2, sq_tup, sq_lst, sq_vec, sNx, sSeq, sIf, sRet, sSet, sEx, sBk, sCt, sFgt, fgt, eC, eV, eM, eBin, eUn, aNil, aCons, eTup, eLst, eFn, tB1, tAnd, tOr, tNot, eAnd, eOr, eNot, eIf, eCall, eCallK, pick, eQ, tQ1, qV, qC, qBin, qUn, qB, qAnd, qOr, qNot, qIf, qAndT, qOrT, qNotT, qChain, eChain, eLc, sFor, iSq, iRg1, iRg2, gN, itms, rst, eApp, D.frz, D.frzs, D.pure, D.pures, bind_ok, bind_ex, stmt_ok, stmt_ex, seq_nx, seq_rt, seq_ex, seq_bk, seq_ct, fgt_nx, fgt_bk, fgt_ct, fgt_rt, fgt_ex, out_nx, out_rt, out_ex, opt_some, optL_some, andB_tt, andB_ff, andB_some, orB_tt, orB_ff, orB_some, andX_tt, andX_ff, andX_some, orX_tt, orX_ff, orX_some, itAnd, itOr, itAndX, itOrX, Option.bind_some, List.map_cons, List.map_nil, List.length_cons, List.length_nil, List.cons_append, List.nil_append, List.getElem?_cons_zero, List.getElem?_cons_succ, List.getElem?_nil, List.set_cons_zero, List.set_cons_succ, List.replicate, addI_i, subD_i, ltD_i, leD_i, gtD_i, geD_i, eqS_int, neS_int, eqS_bl, neS_bl, max2_i, min2_i, maxL_i, minL_i, int1_i, intL_i, if_true, if_false, ite_true, ite_false, and_true, true_and, and_self, Bool.and_self, Bool.and_true, Bool.true_and, Bool.and_false, Bool.false_and, Bool.or_true, Bool.true_or, Bool.or_false, Bool.false_or, Bool.not_true, Bool.not_false, Nat.reduceAdd, Nat.reduceSub, Nat.reduceEqDiff, List.filterMap_cons, List.filterMap_nil, decide_true, decide_false, Bool.false_eq_true, reduceIte, Int.reduceAdd, Int.reduceSub, Int.reduceMul, Int.reduceNeg, Int.reduceLT, Int.reduceLE, Int.reduceEq, Int.reduceMod, Int.reduceDiv, Int.lt_irrefl, reduceCtorEq, D.frzs_int, D.pures_int, cap_0, cap_1, cap_2, cap_3, cap_4, cap_5, cap_6, cap_7, cap_8, cap_9, cap_10, cap_11, cap_12, cap_13, cap_14, cap_15, cap_16, cap_17, cap_18, cap_19, cap_20, cap_21, cap_22, cap_23, cap_24, cap_25, cap_26, cap_27, cap_28, cap_29, cap_30, cap_31, cap_32, cap_33, cap_34, cap_35, cap_36, cap_37, cap_38, cap_39, cap_40, h1, h2, hp, getT_map, hm, putTk_map, putTd_map, hc, hs, hk, envC]
  · have hb : (!decide (t.1 = t.2.1)) = false ∨ decide (0 < t.2.2) = false := by
      unfold good at hg
      rw [Bool.and_eq_true] at hg
      by_cases q : (!decide (t.1 = t.2.1)) = true
      · exact .inr (by cases z : decide (0 < t.2.2) with | false => rfl | true => exact absurd ⟨q, z⟩ hg)
      · exact .inl (by cases z : (!decide (t.1 = t.2.1)) with | false => rfl | true => exact absurd z q)
    have hk : met (ts ++ [t]) = met ts := by rw [met_snoc, if_neg hg]
    have hv : ((met ts).map (vI (tot ts))) = (met ts).map (vI (tot (ts ++ [t]))) := List.map_congr_left fun q _ => by
      show D.int (tot ts q) = D.int (tot (ts ++ [t]) q)
      rw [tot_snoc]
      unfold wt
      rw [if_neg (fun z => hg z.1), Int.add_zero]
    rcases hb with h1 | h1
    · simp -implicitDefEqProofs only [runF, eBinR, qFld, eMth, eMth0, eProp, lot_pure, lot_frz, lot_isO, eBad, sBad, gT, gCo, gNl, sAsg, sDput, eDget, eDget2, dicO, sPut, sPut2, sq_tup, sq_lst, sq_vec, sNx, sSeq, sIf, sRet, sSet, sEx, sBk, sCt, sFgt, fgt, eC, eV, eM, eBin, eUn, aNil, aCons, eTup, eLst, eFn, tB1, tAnd, tOr, tNot, eAnd, eOr, eNot, eIf, eCall, eCallK, pick, eQ, tQ1, qV, qC, qBin, qUn, qB, qAnd, qOr, qNot, qIf, qAndT, qOrT, qNotT, qChain, eChain, eLc, sFor, iSq, iRg1, iRg2, gN, itms, rst, eApp, D.frz, D.frzs, D.pure, D.pures, bind_ok, bind_ex, stmt_ok, stmt_ex, seq_nx, seq_rt, seq_ex, seq_bk, seq_ct, fgt_nx, fgt_bk, fgt_ct, fgt_rt, fgt_ex, out_nx, out_rt, out_ex, opt_some, optL_some, andB_tt, andB_ff, andB_some, orB_tt, orB_ff, orB_some, andX_tt, andX_ff, andX_some, orX_tt, orX_ff, orX_some, itAnd, itOr, itAndX, itOrX, Option.bind_some, List.map_cons, List.map_nil, List.length_cons, List.length_nil, List.cons_append, List.nil_append, List.getElem?_cons_zero, List.getElem?_cons_succ, List.getElem?_nil, List.set_cons_zero, List.set_cons_succ, List.replicate, addI_i, subD_i, ltD_i, leD_i, gtD_i, geD_i, eqS_int, neS_int, eqS_bl, neS_bl, max2_i, min2_i, maxL_i, minL_i, int1_i, intL_i, if_true, if_false, ite_true, ite_false, and_true, true_and, and_self, Bool.and_self, Bool.and_true, Bool.true_and, Bool.and_false, Bool.false_and, Bool.or_true, Bool.true_or, Bool.or_false, Bool.false_or, Bool.not_true, Bool.not_false, Nat.reduceAdd, Nat.reduceSub, Nat.reduceEqDiff, List.filterMap_cons, List.filterMap_nil, decide_true, decide_false, Bool.false_eq_true, reduceIte, Int.reduceAdd, Int.reduceSub, Int.reduceMul, Int.reduceNeg, Int.reduceLT, Int.reduceLE, Int.reduceEq, Int.reduceMod, Int.reduceDiv, Int.lt_irrefl, reduceCtorEq, D.frzs_int, D.pures_int, cap_0, cap_1, cap_2, cap_3, cap_4, cap_5, cap_6, cap_7, cap_8, cap_9, cap_10, cap_11, cap_12, cap_13, cap_14, cap_15, cap_16, cap_17, cap_18, cap_19, cap_20, cap_21, cap_22, cap_23, cap_24, cap_25, cap_26, cap_27, cap_28, cap_29, cap_30, cap_31, cap_32, cap_33, cap_34, cap_35, cap_36, cap_37, cap_38, cap_39, cap_40, h1, envC, hk, hv]
    · by_cases h2 : t.1 = t.2.1
      · simp -implicitDefEqProofs only [runF, eBinR, qFld, eMth, eMth0, eProp, lot_pure, lot_frz, lot_isO, eBad, sBad, gT, gCo, gNl, sAsg, sDput, eDget, eDget2, dicO, sPut, sPut2, sq_tup, sq_lst, sq_vec, sNx, sSeq, sIf, sRet, sSet, sEx, sBk, sCt, sFgt, fgt, eC, eV, eM, eBin, eUn, aNil, aCons, eTup, eLst, eFn, tB1, tAnd, tOr, tNot, eAnd, eOr, eNot, eIf, eCall, eCallK, pick, eQ, tQ1, qV, qC, qBin, qUn, qB, qAnd, qOr, qNot, qIf, qAndT, qOrT, qNotT, qChain, eChain, eLc, sFor, iSq, iRg1, iRg2, gN, itms, rst, eApp, D.frz, D.frzs, D.pure, D.pures, bind_ok, bind_ex, stmt_ok, stmt_ex, seq_nx, seq_rt, seq_ex, seq_bk, seq_ct, fgt_nx, fgt_bk, fgt_ct, fgt_rt, fgt_ex, out_nx, out_rt, out_ex, opt_some, optL_some, andB_tt, andB_ff, andB_some, orB_tt, orB_ff, orB_some, andX_tt, andX_ff, andX_some, orX_tt, orX_ff, orX_some, itAnd, itOr, itAndX, itOrX, Option.bind_some, List.map_cons, List.map_nil, List.length_cons, List.length_nil, List.cons_append, List.nil_append, List.getElem?_cons_zero, List.getElem?_cons_succ, List.getElem?_nil, List.set_cons_zero, List.set_cons_succ, List.replicate, addI_i, subD_i, ltD_i, leD_i, gtD_i, geD_i, eqS_int, neS_int, eqS_bl, neS_bl, max2_i, min2_i, maxL_i, minL_i, int1_i, intL_i, if_true, if_false, ite_true, ite_false, and_true, true_and, and_self, Bool.and_self, Bool.and_true, Bool.true_and, Bool.and_false, Bool.false_and, Bool.or_true, Bool.true_or, Bool.or_false, Bool.false_or, Bool.not_true, Bool.not_false, Nat.reduceAdd, Nat.reduceSub, Nat.reduceEqDiff, List.filterMap_cons, List.filterMap_nil, decide_true, decide_false, Bool.false_eq_true, reduceIte, Int.reduceAdd, Int.reduceSub, Int.reduceMul, Int.reduceNeg, Int.reduceLT, Int.reduceLE, Int.reduceEq, Int.reduceMod, Int.reduceDiv, Int.lt_irrefl, reduceCtorEq, D.frzs_int, D.pures_int, cap_0, cap_1, cap_2, cap_3, cap_4, cap_5, cap_6, cap_7, cap_8, cap_9, cap_10, cap_11, cap_12, cap_13, cap_14, cap_15, cap_16, cap_17, cap_18, cap_19, cap_20, cap_21, cap_22, cap_23, cap_24, cap_25, cap_26, cap_27, cap_28, cap_29, cap_30, cap_31, cap_32, cap_33, cap_34, cap_35, cap_36, cap_37, cap_38, cap_39, cap_40, h1, h2, envC, hk, hv]
      · simp -implicitDefEqProofs only [runF, eBinR, qFld, eMth, eMth0, eProp, lot_pure, lot_frz, lot_isO, eBad, sBad, gT, gCo, gNl, sAsg, sDput, eDget, eDget2, dicO, sPut, sPut2, sq_tup, sq_lst, sq_vec, sNx, sSeq, sIf, sRet, sSet, sEx, sBk, sCt, sFgt, fgt, eC, eV, eM, eBin, eUn, aNil, aCons, eTup, eLst, eFn, tB1, tAnd, tOr, tNot, eAnd, eOr, eNot, eIf, eCall, eCallK, pick, eQ, tQ1, qV, qC, qBin, qUn, qB, qAnd, qOr, qNot, qIf, qAndT, qOrT, qNotT, qChain, eChain, eLc, sFor, iSq, iRg1, iRg2, gN, itms, rst, eApp, D.frz, D.frzs, D.pure, D.pures, bind_ok, bind_ex, stmt_ok, stmt_ex, seq_nx, seq_rt, seq_ex, seq_bk, seq_ct, fgt_nx, fgt_bk, fgt_ct, fgt_rt, fgt_ex, out_nx, out_rt, out_ex, opt_some, optL_some, andB_tt, andB_ff, andB_some, orB_tt, orB_ff, orB_some, andX_tt, andX_ff, andX_some, orX_tt, orX_ff, orX_some, itAnd, itOr, itAndX, itOrX, Option.bind_some, List.map_cons, List.map_nil, List.length_cons, List.length_nil, List.cons_append, List.nil_append, List.getElem?_cons_zero, List.getElem?_cons_succ, List.getElem?_nil, List.set_cons_zero, List.set_cons_succ, List.replicate, addI_i, subD_i, ltD_i, leD_i, gtD_i, geD_i, eqS_int, neS_int, eqS_bl, neS_bl, max2_i, min2_i, maxL_i, minL_i, int1_i, intL_i, if_true, if_false, ite_true, ite_false, and_true, true_and, and_self, Bool.and_self, Bool.and_true, Bool.true_and, Bool.and_false, Bool.false_and, Bool.or_true, Bool.true_or, Bool.or_false, Bool.false_or, Bool.not_true, Bool.not_false, Nat.reduceAdd, Nat.reduceSub, Nat.reduceEqDiff, List.filterMap_cons, List.filterMap_nil, decide_true, decide_false, Bool.false_eq_true, reduceIte, Int.reduceAdd, Int.reduceSub, Int.reduceMul, Int.reduceNeg, Int.reduceLT, Int.reduceLE, Int.reduceEq, Int.reduceMod, Int.reduceDiv, Int.lt_irrefl, reduceCtorEq, D.frzs_int, D.pures_int, cap_0, cap_1, cap_2, cap_3, cap_4, cap_5, cap_6, cap_7, cap_8, cap_9, cap_10, cap_11, cap_12, cap_13, cap_14, cap_15, cap_16, cap_17, cap_18, cap_19, cap_20, cap_21, cap_22, cap_23, cap_24, cap_25, cap_26, cap_27, cap_28, cap_29, cap_30, cap_31, cap_32, cap_33, cap_34, cap_35, cap_36, cap_37, cap_38, cap_39, cap_40, h1, h2, envC, hk, hv]
def SeqD (d : D) (l : List D) : Prop := d = .tup l ∨ d = .lst l
theorem comb_loop (d : D) (ts : List T3) (hl : ts.length < 1000000) : loop (gT 3 (gCo (gN 2) (gCo (gN 3) (gCo (gN 4) gNl)))) (sFgt [2, 3, 4, 5] (sFgt [5] (sIf (tQ1 (qAndT (qB (qBin neS (qV 2) (qV 3))) (qB (qBin gtD (qV 4) (qC (.int 0)))))) (sSeq (sSet 5 (eTup (aCons (eQ (qBin min2 (qV 2) (qV 3))) (aCons (eQ (qBin max2 (qV 2) (qV 3))) aNil)))) (sDput 1 (eV 5) (eBin addI (eDget2 1 (eV 5) (qC (.int 0))) (eV 4)))) sNx))) (ts.map tD) [some d, some (.vT [] []), none, none, none, none] = .nx (envC d ts) := by
  refine loop_ind (f := tD) (fun xs ρ => ∃ pre, pre ++ xs = ts ∧ ρ = envC d pre) (fun r => r = .nx (envC d ts)) ?_ ?_ ts _ ⟨[], rfl, rfl⟩
  · rintro ρ ⟨pre, h1, rfl⟩
    rw [List.append_nil] at h1
    rw [h1]
  · rintro t xs ρ ⟨pre, h1, rfl⟩
    refine ⟨_, rfl, .inl ⟨_, .inl (comb_step d pre t ?_), pre ++ [t], by rw [List.append_assoc]; exact h1, rfl⟩⟩
    rw [← h1, List.length_append] at hl
    omega
theorem comb_item (d : D) (ts : List T3) (p : Int × Int) (hp : p ∈ met ts) : ∃ ρ1 ρ3, gT 2 (gCo (gN 2) (gCo (gN 3) gNl)) (mkP p) [some d, some (.dT ((met ts).map kk) ((met ts).map (vI (tot ts)))), none, none, none, none] = some ρ1 ∧
    eTup (aCons (eV 2) (aCons (eV 3) (aCons (eDget 1 (eTup (aCons (eV 2) (aCons (eV 3) aNil)))) aNil))) ρ1 = .ok (tD (p.1, p.2, tot ts p)) ρ3 ∧ FL.fgt [2, 3] ρ3 = [some d, some (.dT ((met ts).map kk) ((met ts).map (vI (tot ts)))), none, none, none, none] := by
  have hk : keyT (.tup [.int p.1, .int p.2]) = some (kk p) := rfl
  have hq : (vI (tot ts) p).pure = true := rfl
  refine ⟨_, [some d, some (.dT ((met ts).map kk) ((met ts).map (vI (tot ts)))), some (.int p.1), some (.int p.2), none, none], rfl, ?_, rfl⟩
  simp -implicitDefEqProofs only [runF, eBinR, qFld, eMth, eMth0, eProp, lot_pure, lot_frz, lot_isO, eBad, sBad, gT, gCo, gNl, sAsg, sDput, eDget, eDget2, dicO, sPut, sPut2, sq_tup, sq_lst, sq_vec, sNx, sSeq, sIf, sRet, sSet, sEx, sBk, sCt, sFgt, fgt, eC, eV, eM, eBin, eUn, aNil, aCons, eTup, eLst, eFn, tB1, tAnd, tOr, tNot, eAnd, eOr, eNot, eIf, eCall, eCallK, pick, eQ, tQ1, qV, qC, qBin, qUn, qB, qAnd, qOr, qNot, qIf, qAndT, qOrT, qNotT, qChain, eChain, eLc, sFor, iSq, iRg1, iRg2, gN, itms, rst, eApp, D.frz, D.frzs, D.pure, D.pures, bind_ok, bind_ex, stmt_ok, stmt_ex, seq_nx, seq_rt, seq_ex, seq_bk, seq_ct, fgt_nx, fgt_bk, fgt_ct, fgt_rt, fgt_ex, out_nx, out_rt, out_ex, opt_some, optL_some, andB_tt, andB_ff, andB_some, orB_tt, orB_ff, orB_some, andX_tt, andX_ff, andX_some, orX_tt, orX_ff, orX_some, itAnd, itOr, itAndX, itOrX, Option.bind_some, List.map_cons, List.map_nil, List.length_cons, List.length_nil, List.cons_append, List.nil_append, List.getElem?_cons_zero, List.getElem?_cons_succ, List.getElem?_nil, List.set_cons_zero, List.set_cons_succ, List.replicate, addI_i, subD_i, ltD_i, leD_i, gtD_i, geD_i, eqS_int, neS_int, eqS_bl, neS_bl, max2_i, min2_i, maxL_i, minL_i, int1_i, intL_i, if_true, if_false, ite_true, ite_false, and_true, true_and, and_self, Bool.and_self, Bool.and_true, Bool.true_and, Bool.and_false, Bool.false_and, Bool.or_true, Bool.true_or, Bool.or_false, Bool.false_or, Bool.not_true, Bool.not_false, Nat.reduceAdd, Nat.reduceSub, Nat.reduceEqDiff, List.filterMap_cons, List.filterMap_nil, decide_true, decide_false, Bool.false_eq_true, reduceIte, Int.reduceAdd, Int.reduceSub, Int.reduceMul, Int.reduceNeg, Int.reduceLT, Int.reduceLE, Int.reduceEq, Int.reduceMod, Int.reduceDiv, Int.lt_irrefl, reduceCtorEq, D.frzs_int, D.pures_int, cap_0, cap_1, cap_2, cap_3, cap_4, cap_5, cap_6, cap_7, cap_8, cap_9, cap_10, cap_11, cap_12, cap_13, cap_14, cap_15, cap_16, cap_17, cap_18, cap_19, cap_20, cap_21, cap_22, cap_23, cap_24, cap_25, cap_26, cap_27, cap_28, cap_29, cap_30, cap_31, cap_32, cap_33, cap_34, cap_35, cap_36, cap_37, cap_38, cap_39, cap_40, hk, getT_map, hp, tD]
theorem combined_eq (d : D) (ts : List T3) (h : SeqD d (ts.map tD)) (hl : ts.length < 1000000) : d_combined [d] = .rt (.tup ((comb ts).map tD)) := by
  have hl2 : (sortP (met ts)).length < 16777216 := by rw [len_sortP]; have := len_met ts; omega
  rcases h with rfl | rfl
  · simp -implicitDefEqProofs only [d_combined, b_d_combined, runF, eBinR, qFld, eMth, eMth0, eProp, lot_pure, lot_frz, lot_isO, eBad, sBad, gT, gCo, gNl, sAsg, sDput, eDget, eDget2, dicO, sPut, sPut2, sq_tup, sq_lst, sq_vec, sNx, sSeq, sIf, sRet, sSet, sEx, sBk, sCt, sFgt, fgt, eC, eV, eM, eBin, eUn, aNil, aCons, eTup, eLst, eFn, tB1, tAnd, tOr, tNot, eAnd, eOr, eNot, eIf, eCall, eCallK, pick, eQ, tQ1, qV, qC, qBin, qUn, qB, qAnd, qOr, qNot, qIf, qAndT, qOrT, qNotT, qChain, eChain, eLc, sFor, iSq, iRg1, iRg2, gN, itms, rst, eApp, D.frz, D.frzs, D.pure, D.pures, bind_ok, bind_ex, stmt_ok, stmt_ex, seq_nx, seq_rt, seq_ex, seq_bk, seq_ct, fgt_nx, fgt_bk, fgt_ct, fgt_rt, fgt_ex, out_nx, out_rt, out_ex, opt_some, optL_some, andB_tt, andB_ff, andB_some, orB_tt, orB_ff, orB_some, andX_tt, andX_ff, andX_some, orX_tt, orX_ff, orX_some, itAnd, itOr, itAndX, itOrX, Option.bind_some, List.map_cons, List.map_nil, List.length_cons, List.length_nil, List.cons_append, List.nil_append, List.getElem?_cons_zero, List.getElem?_cons_succ, List.getElem?_nil, List.set_cons_zero, List.set_cons_succ, List.replicate, addI_i, subD_i, ltD_i, leD_i, gtD_i, geD_i, eqS_int, neS_int, eqS_bl, neS_bl, max2_i, min2_i, maxL_i, minL_i, int1_i, intL_i, if_true, if_false, ite_true, ite_false, and_true, true_and, and_self, Bool.and_self, Bool.and_true, Bool.true_and, Bool.and_false, Bool.false_and, Bool.or_true, Bool.true_or, Bool.or_false, Bool.false_or, Bool.not_true, Bool.not_false, Nat.reduceAdd, Nat.reduceSub, Nat.reduceEqDiff, List.filterMap_cons, List.filterMap_nil, decide_true, decide_false, Bool.false_eq_true, reduceIte, Int.reduceAdd, Int.reduceSub, Int.reduceMul, Int.reduceNeg, Int.reduceLT, Int.reduceLE, Int.reduceEq, Int.reduceMod, Int.reduceDiv, Int.lt_irrefl, reduceCtorEq, D.frzs_int, D.pures_int, cap_0, cap_1, cap_2, cap_3, cap_4, cap_5, cap_6, cap_7, cap_8, cap_9, cap_10, cap_11, cap_12, cap_13, cap_14, cap_15, cap_16, cap_17, cap_18, cap_19, cap_20, cap_21, cap_22, cap_23, cap_24, cap_25, cap_26, cap_27, cap_28, cap_29, cap_30, cap_31, cap_32, cap_33, cap_34, cap_35, cap_36, cap_37, cap_38, cap_39, cap_40, frzs_tD, comb_loop _ ts hl, envC, frzs_vI, soL_dT, frzs_mkP]
    rw [lcl_all mkP (fun p => tD (p.1, p.2, tot ts p)) _ hl2 fun p hp => comb_item _ ts p ((sortP_perm (met ts)).mem_iff.mp hp)]
    simp -implicitDefEqProofs only [runF, eBinR, qFld, eMth, eMth0, eProp, lot_pure, lot_frz, lot_isO, eBad, sBad, gT, gCo, gNl, sAsg, sDput, eDget, eDget2, dicO, sPut, sPut2, sq_tup, sq_lst, sq_vec, sNx, sSeq, sIf, sRet, sSet, sEx, sBk, sCt, sFgt, fgt, eC, eV, eM, eBin, eUn, aNil, aCons, eTup, eLst, eFn, tB1, tAnd, tOr, tNot, eAnd, eOr, eNot, eIf, eCall, eCallK, pick, eQ, tQ1, qV, qC, qBin, qUn, qB, qAnd, qOr, qNot, qIf, qAndT, qOrT, qNotT, qChain, eChain, eLc, sFor, iSq, iRg1, iRg2, gN, itms, rst, eApp, D.frz, D.frzs, D.pure, D.pures, bind_ok, bind_ex, stmt_ok, stmt_ex, seq_nx, seq_rt, seq_ex, seq_bk, seq_ct, fgt_nx, fgt_bk, fgt_ct, fgt_rt, fgt_ex, out_nx, out_rt, out_ex, opt_some, optL_some, andB_tt, andB_ff, andB_some, orB_tt, orB_ff, orB_some, andX_tt, andX_ff, andX_some, orX_tt, orX_ff, orX_some, itAnd, itOr, itAndX, itOrX, Option.bind_some, List.map_cons, List.map_nil, List.length_cons, List.length_nil, List.cons_append, List.nil_append, List.getElem?_cons_zero, List.getElem?_cons_succ, List.getElem?_nil, List.set_cons_zero, List.set_cons_succ, List.replicate, addI_i, subD_i, ltD_i, leD_i, gtD_i, geD_i, eqS_int, neS_int, eqS_bl, neS_bl, max2_i, min2_i, maxL_i, minL_i, int1_i, intL_i, if_true, if_false, ite_true, ite_false, and_true, true_and, and_self, Bool.and_self, Bool.and_true, Bool.true_and, Bool.and_false, Bool.false_and, Bool.or_true, Bool.true_or, Bool.or_false, Bool.false_or, Bool.not_true, Bool.not_false, Nat.reduceAdd, Nat.reduceSub, Nat.reduceEqDiff, List.filterMap_cons, List.filterMap_nil, decide_true, decide_false, Bool.false_eq_true, reduceIte, Int.reduceAdd, Int.reduceSub, Int.reduceMul, Int.reduceNeg, Int.reduceLT, Int.reduceLE, Int.reduceEq, Int.reduceMod, Int.reduceDiv, Int.lt_irrefl, reduceCtorEq, D.frzs_int, D.pures_int, cap_0, cap_1, cap_2, cap_3, cap_4, cap_5, cap_6, cap_7, cap_8, cap_9, cap_10, cap_11, cap_12, cap_13, cap_14, cap_15, cap_16, cap_17, cap_18, cap_19, cap_20, cap_21, cap_22, cap_23, cap_24, cap_25, cap_26, cap_27, cap_28, cap_29, cap_30, cap_31, cap_32, cap_33, cap_34, cap_35, cap_36, cap_37, cap_38, cap_39, cap_40, tupL_sq (sq_vec _), comb, List.map_map]
    rfl
  · simp -implicitDefEqProofs only [d_combined, b_d_combined, runF, eBinR, qFld, eMth, eMth0, eProp, lot_pure, lot_frz, lot_isO, eBad, sBad, gT, gCo, gNl, sAsg, sDput, eDget, eDget2, dicO, sPut, sPut2, sq_tup, sq_lst, sq_vec, sNx, sSeq, sIf, sRet, sSet, sEx, sBk, sCt, sFgt, fgt, eC, eV, eM, eBin, eUn, aNil, aCons, eTup, eLst, eFn, tB1, tAnd, tOr, tNot, eAnd, eOr, eNot, eIf, eCall, eCallK, pick, eQ, tQ1, qV, qC, qBin, qUn, qB, qAnd, qOr, qNot, qIf, qAndT, qOrT, qNotT, qChain, eChain, eLc, sFor, iSq, iRg1, iRg2, gN, itms, rst, eApp, D.frz, D.frzs, D.pure, D.pures, bind_ok, bind_ex, stmt_ok, stmt_ex, seq_nx, seq_rt, seq_ex, seq_bk, seq_ct, fgt_nx, fgt_bk, fgt_ct, fgt_rt, fgt_ex, out_nx, out_rt, out_ex, opt_some, optL_some, andB_tt, andB_ff, andB_some, orB_tt, orB_ff, orB_some, andX_tt, andX_ff, andX_some, orX_tt, orX_ff, orX_some, itAnd, itOr, itAndX, itOrX, Option.bind_some, List.map_cons, List.map_nil, List.length_cons, List.length_nil, List.cons_append, List.nil_append, List.getElem?_cons_zero, List.getElem?_cons_succ, List.getElem?_nil, List.set_cons_zero, List.set_cons_succ, List.replicate, addI_i, subD_i, ltD_i, leD_i, gtD_i, geD_i, eqS_int, neS_int, eqS_bl, neS_bl, max2_i, min2_i, maxL_i, minL_i, int1_i, intL_i, if_true, if_false, ite_true, ite_false, and_true, true_and, and_self, Bool.and_self, Bool.and_true, Bool.true_and, Bool.and_false, Bool.false_and, Bool.or_true, Bool.true_or, Bool.or_false, Bool.false_or, Bool.not_true, Bool.not_false, Nat.reduceAdd, Nat.reduceSub, Nat.reduceEqDiff, List.filterMap_cons, List.filterMap_nil, decide_true, decide_false, Bool.false_eq_true, reduceIte, Int.reduceAdd, Int.reduceSub, Int.reduceMul, Int.reduceNeg, Int.reduceLT, Int.reduceLE, Int.reduceEq, Int.reduceMod, Int.reduceDiv, Int.lt_irrefl, reduceCtorEq, D.frzs_int, D.pures_int, cap_0, cap_1, cap_2, cap_3, cap_4, cap_5, cap_6, cap_7, cap_8, cap_9, cap_10, cap_11, cap_12, cap_13, cap_14, cap_15, cap_16, cap_17, cap_18, cap_19, cap_20, cap_21, cap_22, cap_23, cap_24, cap_25, cap_26, cap_27, cap_28, cap_29, cap_30, cap_31, cap_32, cap_33, cap_34, cap_35, cap_36, cap_37, cap_38, cap_39, cap_40, frzs_tD, comb_loop _ ts hl, envC, frzs_vI, soL_dT, frzs_mkP]
    rw [lcl_all mkP (fun p => tD (p.1, p.2, tot ts p)) _ hl2 fun p hp => comb_item _ ts p ((sortP_perm (met ts)).mem_iff.mp hp)]
    simp -implicitDefEqProofs only [runF, eBinR, qFld, eMth, eMth0, eProp, lot_pure, lot_frz, lot_isO, eBad, sBad, gT, gCo, gNl, sAsg, sDput, eDget, eDget2, dicO, sPut, sPut2, sq_tup, sq_lst, sq_vec, sNx, sSeq, sIf, sRet, sSet, sEx, sBk, sCt, sFgt, fgt, eC, eV, eM, eBin, eUn, aNil, aCons, eTup, eLst, eFn, tB1, tAnd, tOr, tNot, eAnd, eOr, eNot, eIf, eCall, eCallK, pick, eQ, tQ1, qV, qC, qBin, qUn, qB, qAnd, qOr, qNot, qIf, qAndT, qOrT, qNotT, qChain, eChain, eLc, sFor, iSq, iRg1, iRg2, gN, itms, rst, eApp, D.frz, D.frzs, D.pure, D.pures, bind_ok, bind_ex, stmt_ok, stmt_ex, seq_nx, seq_rt, seq_ex, seq_bk, seq_ct, fgt_nx, fgt_bk, fgt_ct, fgt_rt, fgt_ex, out_nx, out_rt, out_ex, opt_some, optL_some, andB_tt, andB_ff, andB_some, orB_tt, orB_ff, orB_some, andX_tt, andX_ff, andX_some, orX_tt, orX_ff, orX_some, itAnd, itOr, itAndX, itOrX, Option.bind_some, List.map_cons, List.map_nil, List.length_cons, List.length_nil, List.cons_append, List.nil_append, List.getElem?_cons_zero, List.getElem?_cons_succ, List.getElem?_nil, List.set_cons_zero, List.set_cons_succ, List.replicate, addI_i, subD_i, ltD_i, leD_i, gtD_i, geD_i, eqS_int, neS_int, eqS_bl, neS_bl, max2_i, min2_i, maxL_i, minL_i, int1_i, intL_i, if_true, if_false, ite_true, ite_false, and_true, true_and, and_self, Bool.and_self, Bool.and_true, Bool.true_and, Bool.and_false, Bool.false_and, Bool.or_true, Bool.true_or, Bool.or_false, Bool.false_or, Bool.not_true, Bool.not_false, Nat.reduceAdd, Nat.reduceSub, Nat.reduceEqDiff, List.filterMap_cons, List.filterMap_nil, decide_true, decide_false, Bool.false_eq_true, reduceIte, Int.reduceAdd, Int.reduceSub, Int.reduceMul, Int.reduceNeg, Int.reduceLT, Int.reduceLE, Int.reduceEq, Int.reduceMod, Int.reduceDiv, Int.lt_irrefl, reduceCtorEq, D.frzs_int, D.pures_int, cap_0, cap_1, cap_2, cap_3, cap_4, cap_5, cap_6, cap_7, cap_8, cap_9, cap_10, cap_11, cap_12, cap_13, cap_14, cap_15, cap_16, cap_17, cap_18, cap_19, cap_20, cap_21, cap_22, cap_23, cap_24, cap_25, cap_26, cap_27, cap_28, cap_29, cap_30, cap_31, cap_32, cap_33, cap_34, cap_35, cap_36, cap_37, cap_38, cap_39, cap_40, tupL_sq (sq_vec _), comb, List.map_map]
    rfl
end Math

set_option Elab.async false
set_option linter.all false
set_option maxRecDepth 100000
set_option maxHeartbeats 1000000
namespace Math
open PySem FL Prg
open L2 (atI atI_nat)
theorem whole_eq (i : Int) : d_is_whole [.int i] = .rt (.bl true) := by
  simp -implicitDefEqProofs only [d_is_whole, b_d_is_whole, runF, eBinR, qFld, eMth, eMth0, eProp, lot_pure, lot_frz, lot_isO, eBad, sBad, gT, gCo, gNl, sAsg, sDput, eDget, eDget2, dicO, sPut, sPut2, sq_tup, sq_lst, sq_vec, sNx, sSeq, sIf, sRet, sSet, sEx, sBk, sCt, sFgt, fgt, eC, eV, eM, eBin, eUn, aNil, aCons, eTup, eLst, eFn, tB1, tAnd, tOr, tNot, eAnd, eOr, eNot, eIf, eCall, eCallK, pick, eQ, tQ1, qV, qC, qBin, qUn, qB, qAnd, qOr, qNot, qIf, qAndT, qOrT, qNotT, qChain, eChain, eLc, sFor, iSq, iRg1, iRg2, gN, itms, rst, eApp, D.frz, D.frzs, D.pure, D.pures, bind_ok, bind_ex, stmt_ok, stmt_ex, seq_nx, seq_rt, seq_ex, seq_bk, seq_ct, fgt_nx, fgt_bk, fgt_ct, fgt_rt, fgt_ex, out_nx, out_rt, out_ex, opt_some, optL_some, andB_tt, andB_ff, andB_some, orB_tt, orB_ff, orB_some, andX_tt, andX_ff, andX_some, orX_tt, orX_ff, orX_some, itAnd, itOr, itAndX, itOrX, Option.bind_some, List.map_cons, List.map_nil, List.length_cons, List.length_nil, List.cons_append, List.nil_append, List.getElem?_cons_zero, List.getElem?_cons_succ, List.getElem?_nil, List.set_cons_zero, List.set_cons_succ, List.replicate, addI_i, subD_i, ltD_i, leD_i, gtD_i, geD_i, eqS_int, neS_int, eqS_bl, neS_bl, max2_i, min2_i, maxL_i, minL_i, int1_i, intL_i, if_true, if_false, ite_true, ite_false, and_true, true_and, and_self, Bool.and_self, Bool.and_true, Bool.true_and, Bool.and_false, Bool.false_and, Bool.or_true, Bool.true_or, Bool.or_false, Bool.false_or, Bool.not_true, Bool.not_false, Nat.reduceAdd, Nat.reduceSub, Nat.reduceEqDiff, List.filterMap_cons, List.filterMap_nil, decide_true, decide_false, Bool.false_eq_true, reduceIte, Int.reduceAdd, Int.reduceSub, Int.reduceMul, Int.reduceNeg, Int.reduceLT, Int.reduceLE, Int.reduceEq, Int.reduceMod, Int.reduceDiv, Int.lt_irrefl, reduceCtorEq, D.frzs_int, D.pures_int, cap_0, cap_1, cap_2, cap_3, cap_4, cap_5, cap_6, cap_7, cap_8, cap_9, cap_10, cap_11, cap_12, cap_13, cap_14, cap_15, cap_16, cap_17, cap_18, cap_19, cap_20, cap_21, cap_22, cap_23, cap_24, cap_25, cap_26, cap_27, cap_28, cap_29, cap_30, cap_31, cap_32, cap_33, cap_34, cap_35, cap_36, cap_37, cap_38, cap_39, cap_40, isi_int_int, isi_bool_int]
theorem lwhole_eq (i : Int) : d_law_whole [.int i] = .rt (.bl true) := by
  simp -implicitDefEqProofs only [d_law_whole, b_d_law_whole, runF, eBinR, qFld, eMth, eMth0, eProp, lot_pure, lot_frz, lot_isO, eBad, sBad, gT, gCo, gNl, sAsg, sDput, eDget, eDget2, dicO, sPut, sPut2, sq_tup, sq_lst, sq_vec, sNx, sSeq, sIf, sRet, sSet, sEx, sBk, sCt, sFgt, fgt, eC, eV, eM, eBin, eUn, aNil, aCons, eTup, eLst, eFn, tB1, tAnd, tOr, tNot, eAnd, eOr, eNot, eIf, eCall, eCallK, pick, eQ, tQ1, qV, qC, qBin, qUn, qB, qAnd, qOr, qNot, qIf, qAndT, qOrT, qNotT, qChain, eChain, eLc, sFor, iSq, iRg1, iRg2, gN, itms, rst, eApp, D.frz, D.frzs, D.pure, D.pures, bind_ok, bind_ex, stmt_ok, stmt_ex, seq_nx, seq_rt, seq_ex, seq_bk, seq_ct, fgt_nx, fgt_bk, fgt_ct, fgt_rt, fgt_ex, out_nx, out_rt, out_ex, opt_some, optL_some, andB_tt, andB_ff, andB_some, orB_tt, orB_ff, orB_some, andX_tt, andX_ff, andX_some, orX_tt, orX_ff, orX_some, itAnd, itOr, itAndX, itOrX, Option.bind_some, List.map_cons, List.map_nil, List.length_cons, List.length_nil, List.cons_append, List.nil_append, List.getElem?_cons_zero, List.getElem?_cons_succ, List.getElem?_nil, List.set_cons_zero, List.set_cons_succ, List.replicate, addI_i, subD_i, ltD_i, leD_i, gtD_i, geD_i, eqS_int, neS_int, eqS_bl, neS_bl, max2_i, min2_i, maxL_i, minL_i, int1_i, intL_i, if_true, if_false, ite_true, ite_false, and_true, true_and, and_self, Bool.and_self, Bool.and_true, Bool.true_and, Bool.and_false, Bool.false_and, Bool.or_true, Bool.true_or, Bool.or_false, Bool.false_or, Bool.not_true, Bool.not_false, Nat.reduceAdd, Nat.reduceSub, Nat.reduceEqDiff, List.filterMap_cons, List.filterMap_nil, decide_true, decide_false, Bool.false_eq_true, reduceIte, Int.reduceAdd, Int.reduceSub, Int.reduceMul, Int.reduceNeg, Int.reduceLT, Int.reduceLE, Int.reduceEq, Int.reduceMod, Int.reduceDiv, Int.lt_irrefl, reduceCtorEq, D.frzs_int, D.pures_int, cap_0, cap_1, cap_2, cap_3, cap_4, cap_5, cap_6, cap_7, cap_8, cap_9, cap_10, cap_11, cap_12, cap_13, cap_14, cap_15, cap_16, cap_17, cap_18, cap_19, cap_20, cap_21, cap_22, cap_23, cap_24, cap_25, cap_26, cap_27, cap_28, cap_29, cap_30, cap_31, cap_32, cap_33, cap_34, cap_35, cap_36, cap_37, cap_38, cap_39, cap_40, isi_int_int, isi_bool_int]
theorem pin_eq (p i : Int) (h : 0 ≤ i ∧ i < p) : d_is_pin [.int p, .int i] = .rt (.bl true) := by
  have h1 : decide (0 ≤ i) = true := decide_eq_true h.1
  have h2 : decide (i < p) = true := decide_eq_true h.2
  simp -implicitDefEqProofs only [d_is_pin, b_d_is_pin, runF, eBinR, qFld, eMth, eMth0, eProp, lot_pure, lot_frz, lot_isO, eBad, sBad, gT, gCo, gNl, sAsg, sDput, eDget, eDget2, dicO, sPut, sPut2, sq_tup, sq_lst, sq_vec, sNx, sSeq, sIf, sRet, sSet, sEx, sBk, sCt, sFgt, fgt, eC, eV, eM, eBin, eUn, aNil, aCons, eTup, eLst, eFn, tB1, tAnd, tOr, tNot, eAnd, eOr, eNot, eIf, eCall, eCallK, pick, eQ, tQ1, qV, qC, qBin, qUn, qB, qAnd, qOr, qNot, qIf, qAndT, qOrT, qNotT, qChain, eChain, eLc, sFor, iSq, iRg1, iRg2, gN, itms, rst, eApp, D.frz, D.frzs, D.pure, D.pures, bind_ok, bind_ex, stmt_ok, stmt_ex, seq_nx, seq_rt, seq_ex, seq_bk, seq_ct, fgt_nx, fgt_bk, fgt_ct, fgt_rt, fgt_ex, out_nx, out_rt, out_ex, opt_some, optL_some, andB_tt, andB_ff, andB_some, orB_tt, orB_ff, orB_some, andX_tt, andX_ff, andX_some, orX_tt, orX_ff, orX_some, itAnd, itOr, itAndX, itOrX, Option.bind_some, List.map_cons, List.map_nil, List.length_cons, List.length_nil, List.cons_append, List.nil_append, List.getElem?_cons_zero, List.getElem?_cons_succ, List.getElem?_nil, List.set_cons_zero, List.set_cons_succ, List.replicate, addI_i, subD_i, ltD_i, leD_i, gtD_i, geD_i, eqS_int, neS_int, eqS_bl, neS_bl, max2_i, min2_i, maxL_i, minL_i, int1_i, intL_i, if_true, if_false, ite_true, ite_false, and_true, true_and, and_self, Bool.and_self, Bool.and_true, Bool.true_and, Bool.and_false, Bool.false_and, Bool.or_true, Bool.true_or, Bool.or_false, Bool.false_or, Bool.not_true, Bool.not_false, Nat.reduceAdd, Nat.reduceSub, Nat.reduceEqDiff, List.filterMap_cons, List.filterMap_nil, decide_true, decide_false, Bool.false_eq_true, reduceIte, Int.reduceAdd, Int.reduceSub, Int.reduceMul, Int.reduceNeg, Int.reduceLT, Int.reduceLE, Int.reduceEq, Int.reduceMod, Int.reduceDiv, Int.lt_irrefl, reduceCtorEq, D.frzs_int, D.pures_int, cap_0, cap_1, cap_2, cap_3, cap_4, cap_5, cap_6, cap_7, cap_8, cap_9, cap_10, cap_11, cap_12, cap_13, cap_14, cap_15, cap_16, cap_17, cap_18, cap_19, cap_20, cap_21, cap_22, cap_23, cap_24, cap_25, cap_26, cap_27, cap_28, cap_29, cap_30, cap_31, cap_32, cap_33, cap_34, cap_35, cap_36, cap_37, cap_38, cap_39, cap_40, whole_eq, h1, h2]
theorem check_eq (p i : Int) (h : 0 ≤ i ∧ i < p) : d_check_pin [.int p, .int i] = .rt .non := by
  simp -implicitDefEqProofs only [d_check_pin, b_d_check_pin, runF, eBinR, qFld, eMth, eMth0, eProp, lot_pure, lot_frz, lot_isO, eBad, sBad, gT, gCo, gNl, sAsg, sDput, eDget, eDget2, dicO, sPut, sPut2, sq_tup, sq_lst, sq_vec, sNx, sSeq, sIf, sRet, sSet, sEx, sBk, sCt, sFgt, fgt, eC, eV, eM, eBin, eUn, aNil, aCons, eTup, eLst, eFn, tB1, tAnd, tOr, tNot, eAnd, eOr, eNot, eIf, eCall, eCallK, pick, eQ, tQ1, qV, qC, qBin, qUn, qB, qAnd, qOr, qNot, qIf, qAndT, qOrT, qNotT, qChain, eChain, eLc, sFor, iSq, iRg1, iRg2, gN, itms, rst, eApp, D.frz, D.frzs, D.pure, D.pures, bind_ok, bind_ex, stmt_ok, stmt_ex, seq_nx, seq_rt, seq_ex, seq_bk, seq_ct, fgt_nx, fgt_bk, fgt_ct, fgt_rt, fgt_ex, out_nx, out_rt, out_ex, opt_some, optL_some, andB_tt, andB_ff, andB_some, orB_tt, orB_ff, orB_some, andX_tt, andX_ff, andX_some, orX_tt, orX_ff, orX_some, itAnd, itOr, itAndX, itOrX, Option.bind_some, List.map_cons, List.map_nil, List.length_cons, List.length_nil, List.cons_append, List.nil_append, List.getElem?_cons_zero, List.getElem?_cons_succ, List.getElem?_nil, List.set_cons_zero, List.set_cons_succ, List.replicate, addI_i, subD_i, ltD_i, leD_i, gtD_i, geD_i, eqS_int, neS_int, eqS_bl, neS_bl, max2_i, min2_i, maxL_i, minL_i, int1_i, intL_i, if_true, if_false, ite_true, ite_false, and_true, true_and, and_self, Bool.and_self, Bool.and_true, Bool.true_and, Bool.and_false, Bool.false_and, Bool.or_true, Bool.true_or, Bool.or_false, Bool.false_or, Bool.not_true, Bool.not_false, Nat.reduceAdd, Nat.reduceSub, Nat.reduceEqDiff, List.filterMap_cons, List.filterMap_nil, decide_true, decide_false, Bool.false_eq_true, reduceIte, Int.reduceAdd, Int.reduceSub, Int.reduceMul, Int.reduceNeg, Int.reduceLT, Int.reduceLE, Int.reduceEq, Int.reduceMod, Int.reduceDiv, Int.lt_irrefl, reduceCtorEq, D.frzs_int, D.pures_int, cap_0, cap_1, cap_2, cap_3, cap_4, cap_5, cap_6, cap_7, cap_8, cap_9, cap_10, cap_11, cap_12, cap_13, cap_14, cap_15, cap_16, cap_17, cap_18, cap_19, cap_20, cap_21, cap_22, cap_23, cap_24, cap_25, cap_26, cap_27, cap_28, cap_29, cap_30, cap_31, cap_32, cap_33, cap_34, cap_35, cap_36, cap_37, cap_38, cap_39, cap_40, pin_eq p i h]
def okE (p : Int) (t : T3) : Prop := (0 ≤ t.1 ∧ t.1 < p) ∧ (0 ≤ t.2.1 ∧ t.2.1 < p) ∧ t.1 ≠ t.2.1 ∧ 1 ≤ t.2.2
theorem isiLT_tup (ds : List D) : isiLT [.tup ds, .tup [.val (.ty "list"), .val (.ty "tuple")]] = some (.bl true) := by
  show (if ("list" : String) = "list" ∧ ("tuple" : String) = "tuple" then isLT (.tup ds) else none) = _
  rw [if_pos ⟨rfl, rfl⟩]; rfl
theorem entry_eq (p : Int) (t : T3) (h : okE p t) : d_is_entry [.int p, tD t] = .rt (.bl true) := by
  obtain ⟨h1, h2, h3, h4⟩ := h
  have h5 : decide (1 ≤ t.2.2) = true := decide_eq_true h4
  have hl : len1 (.tup [.int t.1, .int t.2.1, .int t.2.2]) = some (.int 3) := rfl
  simp -implicitDefEqProofs only [d_is_entry, b_d_is_entry, tD, runF, eBinR, qFld, eMth, eMth0, eProp, lot_pure, lot_frz, lot_isO, eBad, sBad, gT, gCo, gNl, sAsg, sDput, eDget, eDget2, dicO, sPut, sPut2, sq_tup, sq_lst, sq_vec, sNx, sSeq, sIf, sRet, sSet, sEx, sBk, sCt, sFgt, fgt, eC, eV, eM, eBin, eUn, aNil, aCons, eTup, eLst, eFn, tB1, tAnd, tOr, tNot, eAnd, eOr, eNot, eIf, eCall, eCallK, pick, eQ, tQ1, qV, qC, qBin, qUn, qB, qAnd, qOr, qNot, qIf, qAndT, qOrT, qNotT, qChain, eChain, eLc, sFor, iSq, iRg1, iRg2, gN, itms, rst, eApp, D.frz, D.frzs, D.pure, D.pures, bind_ok, bind_ex, stmt_ok, stmt_ex, seq_nx, seq_rt, seq_ex, seq_bk, seq_ct, fgt_nx, fgt_bk, fgt_ct, fgt_rt, fgt_ex, out_nx, out_rt, out_ex, opt_some, optL_some, andB_tt, andB_ff, andB_some, orB_tt, orB_ff, orB_some, andX_tt, andX_ff, andX_some, orX_tt, orX_ff, orX_some, itAnd, itOr, itAndX, itOrX, Option.bind_some, List.map_cons, List.map_nil, List.length_cons, List.length_nil, List.cons_append, List.nil_append, List.getElem?_cons_zero, List.getElem?_cons_succ, List.getElem?_nil, List.set_cons_zero, List.set_cons_succ, List.replicate, addI_i, subD_i, ltD_i, leD_i, gtD_i, geD_i, eqS_int, neS_int, eqS_bl, neS_bl, max2_i, min2_i, maxL_i, minL_i, int1_i, intL_i, if_true, if_false, ite_true, ite_false, and_true, true_and, and_self, Bool.and_self, Bool.and_true, Bool.true_and, Bool.and_false, Bool.false_and, Bool.or_true, Bool.true_or, Bool.or_false, Bool.false_or, Bool.not_true, Bool.not_false, Nat.reduceAdd, Nat.reduceSub, Nat.reduceEqDiff, List.filterMap_cons, List.filterMap_nil, decide_true, decide_false, Bool.false_eq_true, reduceIte, Int.reduceAdd, Int.reduceSub, Int.reduceMul, Int.reduceNeg, Int.reduceLT, Int.reduceLE, Int.reduceEq, Int.reduceMod, Int.reduceDiv, Int.lt_irrefl, reduceCtorEq, D.frzs_int, D.pures_int, cap_0, cap_1, cap_2, cap_3, cap_4, cap_5, cap_6, cap_7, cap_8, cap_9, cap_10, cap_11, cap_12, cap_13, cap_14, cap_15, cap_16, cap_17, cap_18, cap_19, cap_20, cap_21, cap_22, cap_23, cap_24, cap_25, cap_26, cap_27, cap_28, cap_29, cap_30, cap_31, cap_32, cap_33, cap_34, cap_35, cap_36, cap_37, cap_38, cap_39, cap_40, isiLT_tup, hl, pin_eq p _ h1, pin_eq p _ h2, whole_eq, h3, h5]
theorem init_loop (p : Int) (d c : D) (ts : List T3) (h : ∀ t ∈ ts, okE p t) : loop (gN 3) (sFgt [3] (sIf (tNot (tB1 (eCall d_is_entry [] (aCons (eV 1) (aCons (eV 3) aNil))))) sBad sNx)) (ts.map tD) [some c, some (.int p), some d, none] = .nx [some c, some (.int p), some d, none] := by
  refine loop_same tD ts _ fun t ht => ⟨_, rfl, ?_⟩
  have e := entry_eq p t (h t ht)
  have e1 : (tD t).frz = tD t := rfl
  simp -implicitDefEqProofs only [runF, eBinR, qFld, eMth, eMth0, eProp, lot_pure, lot_frz, lot_isO, eBad, sBad, gT, gCo, gNl, sAsg, sDput, eDget, eDget2, dicO, sPut, sPut2, sq_tup, sq_lst, sq_vec, sNx, sSeq, sIf, sRet, sSet, sEx, sBk, sCt, sFgt, fgt, eC, eV, eM, eBin, eUn, aNil, aCons, eTup, eLst, eFn, tB1, tAnd, tOr, tNot, eAnd, eOr, eNot, eIf, eCall, eCallK, pick, eQ, tQ1, qV, qC, qBin, qUn, qB, qAnd, qOr, qNot, qIf, qAndT, qOrT, qNotT, qChain, eChain, eLc, sFor, iSq, iRg1, iRg2, gN, itms, rst, eApp, D.frz, D.frzs, D.pure, D.pures, bind_ok, bind_ex, stmt_ok, stmt_ex, seq_nx, seq_rt, seq_ex, seq_bk, seq_ct, fgt_nx, fgt_bk, fgt_ct, fgt_rt, fgt_ex, out_nx, out_rt, out_ex, opt_some, optL_some, andB_tt, andB_ff, andB_some, orB_tt, orB_ff, orB_some, andX_tt, andX_ff, andX_some, orX_tt, orX_ff, orX_some, itAnd, itOr, itAndX, itOrX, Option.bind_some, List.map_cons, List.map_nil, List.length_cons, List.length_nil, List.cons_append, List.nil_append, List.getElem?_cons_zero, List.getElem?_cons_succ, List.getElem?_nil, List.set_cons_zero, List.set_cons_succ, List.replicate, addI_i, subD_i, ltD_i, leD_i, gtD_i, geD_i, eqS_int, neS_int, eqS_bl, neS_bl, max2_i, min2_i, maxL_i, minL_i, int1_i, intL_i, if_true, if_false, ite_true, ite_false, and_true, true_and, and_self, Bool.and_self, Bool.and_true, Bool.true_and, Bool.and_false, Bool.false_and, Bool.or_true, Bool.true_or, Bool.or_false, Bool.false_or, Bool.not_true, Bool.not_false, Nat.reduceAdd, Nat.reduceSub, Nat.reduceEqDiff, List.filterMap_cons, List.filterMap_nil, decide_true, decide_false, Bool.false_eq_true, reduceIte, Int.reduceAdd, Int.reduceSub, Int.reduceMul, Int.reduceNeg, Int.reduceLT, Int.reduceLE, Int.reduceEq, Int.reduceMod, Int.reduceDiv, Int.lt_irrefl, reduceCtorEq, D.frzs_int, D.pures_int, cap_0, cap_1, cap_2, cap_3, cap_4, cap_5, cap_6, cap_7, cap_8, cap_9, cap_10, cap_11, cap_12, cap_13, cap_14, cap_15, cap_16, cap_17, cap_18, cap_19, cap_20, cap_21, cap_22, cap_23, cap_24, cap_25, cap_26, cap_27, cap_28, cap_29, cap_30, cap_31, cap_32, cap_33, cap_34, cap_35, cap_36, cap_37, cap_38, cap_39, cap_40, e1, e]
theorem make_eq (p : Int) (d : D) (ts : List T3) (hd : SeqD d (ts.map tD)) (hp : 0 ≤ p) (h : ∀ t ∈ ts, okE p t) (hl : ts.length < 1000000) : d_Lot___init__ [.int p, d] = .rt (.obj 0 [.int p, .tup ((comb ts).map tD)]) := by
  have h1 : decide (p < 0) = false := decide_eq_false (by omega)
  rcases hd with rfl | rfl
  · simp -implicitDefEqProofs only [d_Lot___init__, b_d_Lot___init__, runI, runF, eBinR, qFld, eMth, eMth0, eProp, lot_pure, lot_frz, lot_isO, eBad, sBad, gT, gCo, gNl, sAsg, sDput, eDget, eDget2, dicO, sPut, sPut2, sq_tup, sq_lst, sq_vec, sNx, sSeq, sIf, sRet, sSet, sEx, sBk, sCt, sFgt, fgt, eC, eV, eM, eBin, eUn, aNil, aCons, eTup, eLst, eFn, tB1, tAnd, tOr, tNot, eAnd, eOr, eNot, eIf, eCall, eCallK, pick, eQ, tQ1, qV, qC, qBin, qUn, qB, qAnd, qOr, qNot, qIf, qAndT, qOrT, qNotT, qChain, eChain, eLc, sFor, iSq, iRg1, iRg2, gN, itms, rst, eApp, D.frz, D.frzs, D.pure, D.pures, bind_ok, bind_ex, stmt_ok, stmt_ex, seq_nx, seq_rt, seq_ex, seq_bk, seq_ct, fgt_nx, fgt_bk, fgt_ct, fgt_rt, fgt_ex, out_nx, out_rt, out_ex, opt_some, optL_some, andB_tt, andB_ff, andB_some, orB_tt, orB_ff, orB_some, andX_tt, andX_ff, andX_some, orX_tt, orX_ff, orX_some, itAnd, itOr, itAndX, itOrX, Option.bind_some, List.map_cons, List.map_nil, List.length_cons, List.length_nil, List.cons_append, List.nil_append, List.getElem?_cons_zero, List.getElem?_cons_succ, List.getElem?_nil, List.set_cons_zero, List.set_cons_succ, List.replicate, addI_i, subD_i, ltD_i, leD_i, gtD_i, geD_i, eqS_int, neS_int, eqS_bl, neS_bl, max2_i, min2_i, maxL_i, minL_i, int1_i, intL_i, if_true, if_false, ite_true, ite_false, and_true, true_and, and_self, Bool.and_self, Bool.and_true, Bool.true_and, Bool.and_false, Bool.false_and, Bool.or_true, Bool.true_or, Bool.or_false, Bool.false_or, Bool.not_true, Bool.not_false, Nat.reduceAdd, Nat.reduceSub, Nat.reduceEqDiff, List.filterMap_cons, List.filterMap_nil, decide_true, decide_false, Bool.false_eq_true, reduceIte, Int.reduceAdd, Int.reduceSub, Int.reduceMul, Int.reduceNeg, Int.reduceLT, Int.reduceLE, Int.reduceEq, Int.reduceMod, Int.reduceDiv, Int.lt_irrefl, reduceCtorEq, D.frzs_int, D.pures_int, cap_0, cap_1, cap_2, cap_3, cap_4, cap_5, cap_6, cap_7, cap_8, cap_9, cap_10, cap_11, cap_12, cap_13, cap_14, cap_15, cap_16, cap_17, cap_18, cap_19, cap_20, cap_21, cap_22, cap_23, cap_24, cap_25, cap_26, cap_27, cap_28, cap_29, cap_30, cap_31, cap_32, cap_33, cap_34, cap_35, cap_36, cap_37, cap_38, cap_39, cap_40, whole_eq, h1, frzs_tD, init_loop p _ _ ts h, sFld, combined_eq _ ts (.inl rfl) hl, Nat.le_refl, Nat.lt_irrefl]
  · simp -implicitDefEqProofs only [d_Lot___init__, b_d_Lot___init__, runI, runF, eBinR, qFld, eMth, eMth0, eProp, lot_pure, lot_frz, lot_isO, eBad, sBad, gT, gCo, gNl, sAsg, sDput, eDget, eDget2, dicO, sPut, sPut2, sq_tup, sq_lst, sq_vec, sNx, sSeq, sIf, sRet, sSet, sEx, sBk, sCt, sFgt, fgt, eC, eV, eM, eBin, eUn, aNil, aCons, eTup, eLst, eFn, tB1, tAnd, tOr, tNot, eAnd, eOr, eNot, eIf, eCall, eCallK, pick, eQ, tQ1, qV, qC, qBin, qUn, qB, qAnd, qOr, qNot, qIf, qAndT, qOrT, qNotT, qChain, eChain, eLc, sFor, iSq, iRg1, iRg2, gN, itms, rst, eApp, D.frz, D.frzs, D.pure, D.pures, bind_ok, bind_ex, stmt_ok, stmt_ex, seq_nx, seq_rt, seq_ex, seq_bk, seq_ct, fgt_nx, fgt_bk, fgt_ct, fgt_rt, fgt_ex, out_nx, out_rt, out_ex, opt_some, optL_some, andB_tt, andB_ff, andB_some, orB_tt, orB_ff, orB_some, andX_tt, andX_ff, andX_some, orX_tt, orX_ff, orX_some, itAnd, itOr, itAndX, itOrX, Option.bind_some, List.map_cons, List.map_nil, List.length_cons, List.length_nil, List.cons_append, List.nil_append, List.getElem?_cons_zero, List.getElem?_cons_succ, List.getElem?_nil, List.set_cons_zero, List.set_cons_succ, List.replicate, addI_i, subD_i, ltD_i, leD_i, gtD_i, geD_i, eqS_int, neS_int, eqS_bl, neS_bl, max2_i, min2_i, maxL_i, minL_i, int1_i, intL_i, if_true, if_false, ite_true, ite_false, and_true, true_and, and_self, Bool.and_self, Bool.and_true, Bool.true_and, Bool.and_false, Bool.false_and, Bool.or_true, Bool.true_or, Bool.or_false, Bool.false_or, Bool.not_true, Bool.not_false, Nat.reduceAdd, Nat.reduceSub, Nat.reduceEqDiff, List.filterMap_cons, List.filterMap_nil, decide_true, decide_false, Bool.false_eq_true, reduceIte, Int.reduceAdd, Int.reduceSub, Int.reduceMul, Int.reduceNeg, Int.reduceLT, Int.reduceLE, Int.reduceEq, Int.reduceMod, Int.reduceDiv, Int.lt_irrefl, reduceCtorEq, D.frzs_int, D.pures_int, cap_0, cap_1, cap_2, cap_3, cap_4, cap_5, cap_6, cap_7, cap_8, cap_9, cap_10, cap_11, cap_12, cap_13, cap_14, cap_15, cap_16, cap_17, cap_18, cap_19, cap_20, cap_21, cap_22, cap_23, cap_24, cap_25, cap_26, cap_27, cap_28, cap_29, cap_30, cap_31, cap_32, cap_33, cap_34, cap_35, cap_36, cap_37, cap_38, cap_39, cap_40, whole_eq, h1, frzs_tD, init_loop p _ _ ts h, sFld, combined_eq _ ts (.inr rfl) hl, Nat.le_refl, Nat.lt_irrefl]
end Math

set_option Elab.async false
set_option linter.all false
set_option maxRecDepth 100000
set_option maxHeartbeats 1000000
namespace Math
open PySem FL Prg
open L2 (atI atI_nat)
/-- the ends at a pin -/
def endsM (ts : List T3) (p : Int) : Int := ((ts.filter fun t => decide (p = t.1 ∨ p = t.2.1)).map fun t => t.2.2).sum
theorem mem2 (a c d : Int) : a ∈ [c, d] ↔ a = c ∨ a = d := by simp
theorem ends_eq (d : D) (ts : List T3) (hd : SeqD d (ts.map tD)) (p : Int) (hl : ts.length < 1000000) : d_raw_ends [d, .int p] = .rt (.int (endsM ts p)) := by
  have key : ∀ x : D, lcl [2, 3, 4] (gT 3 (gCo (gN 2) (gCo (gN 3) (gCo (gN 4) gNl)))) (tB1 (eBin inD (eV 1) (eTup (aCons (eV 2) (aCons (eV 3) aNil))))) (eV 4) (ts.map tD) [] [some x, some (.int p), none, none, none] = .ok ([] ++ (ts.filter fun t => decide (p = t.1 ∨ p = t.2.1)).map fun t => .int t.2.2) [some x, some (.int p), none, none, none] := fun x =>
    lcl_map tD _ _ ts [] (by simp only [List.length_nil]; omega) fun t ht => by
      have e : sq (.tup [.int t.1, .int t.2.1]) = some ([t.1, t.2.1].map .int) := rfl
      refine ⟨_, [some x, some (.int p), some (.int t.1), some (.int t.2.1), some (.int t.2.2)], rfl, ?_, fun _ => ⟨[some x, some (.int p), some (.int t.1), some (.int t.2.1), some (.int t.2.2)], rfl, rfl⟩, fun _ => rfl⟩
      simp -implicitDefEqProofs only [runF, eBinR, qFld, eMth, eMth0, eProp, lot_pure, lot_frz, lot_isO, eBad, sBad, gT, gCo, gNl, sAsg, sDput, eDget, eDget2, dicO, sPut, sPut2, sq_tup, sq_lst, sq_vec, sNx, sSeq, sIf, sRet, sSet, sEx, sBk, sCt, sFgt, fgt, eC, eV, eM, eBin, eUn, aNil, aCons, eTup, eLst, eFn, tB1, tAnd, tOr, tNot, eAnd, eOr, eNot, eIf, eCall, eCallK, pick, eQ, tQ1, qV, qC, qBin, qUn, qB, qAnd, qOr, qNot, qIf, qAndT, qOrT, qNotT, qChain, eChain, eLc, sFor, iSq, iRg1, iRg2, gN, itms, rst, eApp, D.frz, D.frzs, D.pure, D.pures, bind_ok, bind_ex, stmt_ok, stmt_ex, seq_nx, seq_rt, seq_ex, seq_bk, seq_ct, fgt_nx, fgt_bk, fgt_ct, fgt_rt, fgt_ex, out_nx, out_rt, out_ex, opt_some, optL_some, andB_tt, andB_ff, andB_some, orB_tt, orB_ff, orB_some, andX_tt, andX_ff, andX_some, orX_tt, orX_ff, orX_some, itAnd, itOr, itAndX, itOrX, Option.bind_some, List.map_cons, List.map_nil, List.length_cons, List.length_nil, List.cons_append, List.nil_append, List.getElem?_cons_zero, List.getElem?_cons_succ, List.getElem?_nil, List.set_cons_zero, List.set_cons_succ, List.replicate, addI_i, subD_i, ltD_i, leD_i, gtD_i, geD_i, eqS_int, neS_int, eqS_bl, neS_bl, max2_i, min2_i, maxL_i, minL_i, int1_i, intL_i, if_true, if_false, ite_true, ite_false, and_true, true_and, and_self, Bool.and_self, Bool.and_true, Bool.true_and, Bool.and_false, Bool.false_and, Bool.or_true, Bool.true_or, Bool.or_false, Bool.false_or, Bool.not_true, Bool.not_false, Nat.reduceAdd, Nat.reduceSub, Nat.reduceEqDiff, List.filterMap_cons, List.filterMap_nil, decide_true, decide_false, Bool.false_eq_true, reduceIte, Int.reduceAdd, Int.reduceSub, Int.reduceMul, Int.reduceNeg, Int.reduceLT, Int.reduceLE, Int.reduceEq, Int.reduceMod, Int.reduceDiv, Int.lt_irrefl, reduceCtorEq, D.frzs_int, D.pures_int, cap_0, cap_1, cap_2, cap_3, cap_4, cap_5, cap_6, cap_7, cap_8, cap_9, cap_10, cap_11, cap_12, cap_13, cap_14, cap_15, cap_16, cap_17, cap_18, cap_19, cap_20, cap_21, cap_22, cap_23, cap_24, cap_25, cap_26, cap_27, cap_28, cap_29, cap_30, cap_31, cap_32, cap_33, cap_34, cap_35, cap_36, cap_37, cap_38, cap_39, cap_40, inD_ints e, mem2]
  have e2 : ((ts.filter fun t => decide (p = t.1 ∨ p = t.2.1)).map fun t => D.int t.2.2) = (((ts.filter fun t => decide (p = t.1 ∨ p = t.2.1)).map fun t => t.2.2)).map D.int := by rw [List.map_map]; rfl
  rcases hd with rfl | rfl
  · simp -implicitDefEqProofs only [d_raw_ends, b_d_raw_ends, runF, eBinR, qFld, eMth, eMth0, eProp, lot_pure, lot_frz, lot_isO, eBad, sBad, gT, gCo, gNl, sAsg, sDput, eDget, eDget2, dicO, sPut, sPut2, sq_tup, sq_lst, sq_vec, sNx, sSeq, sIf, sRet, sSet, sEx, sBk, sCt, sFgt, fgt, eC, eV, eM, eBin, eUn, aNil, aCons, eTup, eLst, eFn, tB1, tAnd, tOr, tNot, eAnd, eOr, eNot, eIf, eCall, eCallK, pick, eQ, tQ1, qV, qC, qBin, qUn, qB, qAnd, qOr, qNot, qIf, qAndT, qOrT, qNotT, qChain, eChain, eLc, sFor, iSq, iRg1, iRg2, gN, itms, rst, eApp, D.frz, D.frzs, D.pure, D.pures, bind_ok, bind_ex, stmt_ok, stmt_ex, seq_nx, seq_rt, seq_ex, seq_bk, seq_ct, fgt_nx, fgt_bk, fgt_ct, fgt_rt, fgt_ex, out_nx, out_rt, out_ex, opt_some, optL_some, andB_tt, andB_ff, andB_some, orB_tt, orB_ff, orB_some, andX_tt, andX_ff, andX_some, orX_tt, orX_ff, orX_some, itAnd, itOr, itAndX, itOrX, Option.bind_some, List.map_cons, List.map_nil, List.length_cons, List.length_nil, List.cons_append, List.nil_append, List.getElem?_cons_zero, List.getElem?_cons_succ, List.getElem?_nil, List.set_cons_zero, List.set_cons_succ, List.replicate, addI_i, subD_i, ltD_i, leD_i, gtD_i, geD_i, eqS_int, neS_int, eqS_bl, neS_bl, max2_i, min2_i, maxL_i, minL_i, int1_i, intL_i, if_true, if_false, ite_true, ite_false, and_true, true_and, and_self, Bool.and_self, Bool.and_true, Bool.true_and, Bool.and_false, Bool.false_and, Bool.or_true, Bool.true_or, Bool.or_false, Bool.false_or, Bool.not_true, Bool.not_false, Nat.reduceAdd, Nat.reduceSub, Nat.reduceEqDiff, List.filterMap_cons, List.filterMap_nil, decide_true, decide_false, Bool.false_eq_true, reduceIte, Int.reduceAdd, Int.reduceSub, Int.reduceMul, Int.reduceNeg, Int.reduceLT, Int.reduceLE, Int.reduceEq, Int.reduceMod, Int.reduceDiv, Int.lt_irrefl, reduceCtorEq, D.frzs_int, D.pures_int, cap_0, cap_1, cap_2, cap_3, cap_4, cap_5, cap_6, cap_7, cap_8, cap_9, cap_10, cap_11, cap_12, cap_13, cap_14, cap_15, cap_16, cap_17, cap_18, cap_19, cap_20, cap_21, cap_22, cap_23, cap_24, cap_25, cap_26, cap_27, cap_28, cap_29, cap_30, cap_31, cap_32, cap_33, cap_34, cap_35, cap_36, cap_37, cap_38, cap_39, cap_40, frzs_tD, key, e2, sumL_vec, endsM]
  · simp -implicitDefEqProofs only [d_raw_ends, b_d_raw_ends, runF, eBinR, qFld, eMth, eMth0, eProp, lot_pure, lot_frz, lot_isO, eBad, sBad, gT, gCo, gNl, sAsg, sDput, eDget, eDget2, dicO, sPut, sPut2, sq_tup, sq_lst, sq_vec, sNx, sSeq, sIf, sRet, sSet, sEx, sBk, sCt, sFgt, fgt, eC, eV, eM, eBin, eUn, aNil, aCons, eTup, eLst, eFn, tB1, tAnd, tOr, tNot, eAnd, eOr, eNot, eIf, eCall, eCallK, pick, eQ, tQ1, qV, qC, qBin, qUn, qB, qAnd, qOr, qNot, qIf, qAndT, qOrT, qNotT, qChain, eChain, eLc, sFor, iSq, iRg1, iRg2, gN, itms, rst, eApp, D.frz, D.frzs, D.pure, D.pures, bind_ok, bind_ex, stmt_ok, stmt_ex, seq_nx, seq_rt, seq_ex, seq_bk, seq_ct, fgt_nx, fgt_bk, fgt_ct, fgt_rt, fgt_ex, out_nx, out_rt, out_ex, opt_some, optL_some, andB_tt, andB_ff, andB_some, orB_tt, orB_ff, orB_some, andX_tt, andX_ff, andX_some, orX_tt, orX_ff, orX_some, itAnd, itOr, itAndX, itOrX, Option.bind_some, List.map_cons, List.map_nil, List.length_cons, List.length_nil, List.cons_append, List.nil_append, List.getElem?_cons_zero, List.getElem?_cons_succ, List.getElem?_nil, List.set_cons_zero, List.set_cons_succ, List.replicate, addI_i, subD_i, ltD_i, leD_i, gtD_i, geD_i, eqS_int, neS_int, eqS_bl, neS_bl, max2_i, min2_i, maxL_i, minL_i, int1_i, intL_i, if_true, if_false, ite_true, ite_false, and_true, true_and, and_self, Bool.and_self, Bool.and_true, Bool.true_and, Bool.and_false, Bool.false_and, Bool.or_true, Bool.true_or, Bool.or_false, Bool.false_or, Bool.not_true, Bool.not_false, Nat.reduceAdd, Nat.reduceSub, Nat.reduceEqDiff, List.filterMap_cons, List.filterMap_nil, decide_true, decide_false, Bool.false_eq_true, reduceIte, Int.reduceAdd, Int.reduceSub, Int.reduceMul, Int.reduceNeg, Int.reduceLT, Int.reduceLE, Int.reduceEq, Int.reduceMod, Int.reduceDiv, Int.lt_irrefl, reduceCtorEq, D.frzs_int, D.pures_int, cap_0, cap_1, cap_2, cap_3, cap_4, cap_5, cap_6, cap_7, cap_8, cap_9, cap_10, cap_11, cap_12, cap_13, cap_14, cap_15, cap_16, cap_17, cap_18, cap_19, cap_20, cap_21, cap_22, cap_23, cap_24, cap_25, cap_26, cap_27, cap_28, cap_29, cap_30, cap_31, cap_32, cap_33, cap_34, cap_35, cap_36, cap_37, cap_38, cap_39, cap_40, frzs_tD, key, e2, sumL_vec, endsM]
/-- the cords met on a walk from one gap to another -/
def sepM (i j : Int) (t : T3) : Bool := !decide (decide (t.1 ≤ i ∧ i < t.2.1) = decide (t.1 ≤ j ∧ j < t.2.1))
def passM (ts : List T3) (i j : Int) : Int := ((ts.filter (sepM i j)).map fun t => t.2.2).sum
theorem pass_eq (d : D) (ts : List T3) (hd : SeqD d (ts.map tD)) (i j : Int) (hl : ts.length < 1000000) : d_raw_passing [d, .int i, .int j] = .rt (.int (passM ts i j)) := by
  have key : ∀ x : D, lcl [3, 4, 5] (gT 3 (gCo (gN 3) (gCo (gN 4) (gCo (gN 5) gNl)))) (tQ1 (qB (qBin neS (qChain leD ltD (qV 3) (qV 1) (qV 4)) (qChain leD ltD (qV 3) (qV 2) (qV 4))))) (eV 5) (ts.map tD) [] [some x, some (.int i), some (.int j), none, none, none] = .ok ([] ++ (ts.filter (sepM i j)).map fun t => .int t.2.2) [some x, some (.int i), some (.int j), none, none, none] := fun x =>
    lcl_map tD _ _ ts [] (by simp only [List.length_nil]; omega) fun t ht => by
      refine ⟨_, [some x, some (.int i), some (.int j), some (.int t.1), some (.int t.2.1), some (.int t.2.2)], rfl, ?_, fun _ => ⟨[some x, some (.int i), some (.int j), some (.int t.1), some (.int t.2.1), some (.int t.2.2)], rfl, rfl⟩, fun _ => rfl⟩
      by_cases h1 : t.1 ≤ i <;> by_cases h2 : i < t.2.1 <;> by_cases h3 : t.1 ≤ j <;> by_cases h4 : j < t.2.1 <;> simp -implicitDefEqProofs only [runF, eBinR, qFld, eMth, eMth0, eProp, lot_pure, lot_frz, lot_isO, eBad, sBad, gT, gCo, gNl, sAsg, sDput, eDget, eDget2, dicO, sPut, sPut2, sq_tup, sq_lst, sq_vec, sNx, sSeq, sIf, sRet, sSet, sEx, sBk, sCt, sFgt, fgt, eC, eV, eM, eBin, eUn, aNil, aCons, eTup, eLst, eFn, tB1, tAnd, tOr, tNot, eAnd, eOr, eNot, eIf, eCall, eCallK, pick, eQ, tQ1, qV, qC, qBin, qUn, qB, qAnd, qOr, qNot, qIf, qAndT, qOrT, qNotT, qChain, eChain, eLc, sFor, iSq, iRg1, iRg2, gN, itms, rst, eApp, D.frz, D.frzs, D.pure, D.pures, bind_ok, bind_ex, stmt_ok, stmt_ex, seq_nx, seq_rt, seq_ex, seq_bk, seq_ct, fgt_nx, fgt_bk, fgt_ct, fgt_rt, fgt_ex, out_nx, out_rt, out_ex, opt_some, optL_some, andB_tt, andB_ff, andB_some, orB_tt, orB_ff, orB_some, andX_tt, andX_ff, andX_some, orX_tt, orX_ff, orX_some, itAnd, itOr, itAndX, itOrX, Option.bind_some, List.map_cons, List.map_nil, List.length_cons, List.length_nil, List.cons_append, List.nil_append, List.getElem?_cons_zero, List.getElem?_cons_succ, List.getElem?_nil, List.set_cons_zero, List.set_cons_succ, List.replicate, addI_i, subD_i, ltD_i, leD_i, gtD_i, geD_i, eqS_int, neS_int, eqS_bl, neS_bl, max2_i, min2_i, maxL_i, minL_i, int1_i, intL_i, if_true, if_false, ite_true, ite_false, and_true, true_and, and_self, Bool.and_self, Bool.and_true, Bool.true_and, Bool.and_false, Bool.false_and, Bool.or_true, Bool.true_or, Bool.or_false, Bool.false_or, Bool.not_true, Bool.not_false, Nat.reduceAdd, Nat.reduceSub, Nat.reduceEqDiff, List.filterMap_cons, List.filterMap_nil, decide_true, decide_false, Bool.false_eq_true, reduceIte, Int.reduceAdd, Int.reduceSub, Int.reduceMul, Int.reduceNeg, Int.reduceLT, Int.reduceLE, Int.reduceEq, Int.reduceMod, Int.reduceDiv, Int.lt_irrefl, reduceCtorEq, D.frzs_int, D.pures_int, cap_0, cap_1, cap_2, cap_3, cap_4, cap_5, cap_6, cap_7, cap_8, cap_9, cap_10, cap_11, cap_12, cap_13, cap_14, cap_15, cap_16, cap_17, cap_18, cap_19, cap_20, cap_21, cap_22, cap_23, cap_24, cap_25, cap_26, cap_27, cap_28, cap_29, cap_30, cap_31, cap_32, cap_33, cap_34, cap_35, cap_36, cap_37, cap_38, cap_39, cap_40, h1, h2, h3, h4, sepM]
  have e2 : ((ts.filter (sepM i j)).map fun t => D.int t.2.2) = (((ts.filter (sepM i j)).map fun t => t.2.2)).map D.int := by rw [List.map_map]; rfl
  rcases hd with rfl | rfl
  · simp -implicitDefEqProofs only [d_raw_passing, b_d_raw_passing, runF, eBinR, qFld, eMth, eMth0, eProp, lot_pure, lot_frz, lot_isO, eBad, sBad, gT, gCo, gNl, sAsg, sDput, eDget, eDget2, dicO, sPut, sPut2, sq_tup, sq_lst, sq_vec, sNx, sSeq, sIf, sRet, sSet, sEx, sBk, sCt, sFgt, fgt, eC, eV, eM, eBin, eUn, aNil, aCons, eTup, eLst, eFn, tB1, tAnd, tOr, tNot, eAnd, eOr, eNot, eIf, eCall, eCallK, pick, eQ, tQ1, qV, qC, qBin, qUn, qB, qAnd, qOr, qNot, qIf, qAndT, qOrT, qNotT, qChain, eChain, eLc, sFor, iSq, iRg1, iRg2, gN, itms, rst, eApp, D.frz, D.frzs, D.pure, D.pures, bind_ok, bind_ex, stmt_ok, stmt_ex, seq_nx, seq_rt, seq_ex, seq_bk, seq_ct, fgt_nx, fgt_bk, fgt_ct, fgt_rt, fgt_ex, out_nx, out_rt, out_ex, opt_some, optL_some, andB_tt, andB_ff, andB_some, orB_tt, orB_ff, orB_some, andX_tt, andX_ff, andX_some, orX_tt, orX_ff, orX_some, itAnd, itOr, itAndX, itOrX, Option.bind_some, List.map_cons, List.map_nil, List.length_cons, List.length_nil, List.cons_append, List.nil_append, List.getElem?_cons_zero, List.getElem?_cons_succ, List.getElem?_nil, List.set_cons_zero, List.set_cons_succ, List.replicate, addI_i, subD_i, ltD_i, leD_i, gtD_i, geD_i, eqS_int, neS_int, eqS_bl, neS_bl, max2_i, min2_i, maxL_i, minL_i, int1_i, intL_i, if_true, if_false, ite_true, ite_false, and_true, true_and, and_self, Bool.and_self, Bool.and_true, Bool.true_and, Bool.and_false, Bool.false_and, Bool.or_true, Bool.true_or, Bool.or_false, Bool.false_or, Bool.not_true, Bool.not_false, Nat.reduceAdd, Nat.reduceSub, Nat.reduceEqDiff, List.filterMap_cons, List.filterMap_nil, decide_true, decide_false, Bool.false_eq_true, reduceIte, Int.reduceAdd, Int.reduceSub, Int.reduceMul, Int.reduceNeg, Int.reduceLT, Int.reduceLE, Int.reduceEq, Int.reduceMod, Int.reduceDiv, Int.lt_irrefl, reduceCtorEq, D.frzs_int, D.pures_int, cap_0, cap_1, cap_2, cap_3, cap_4, cap_5, cap_6, cap_7, cap_8, cap_9, cap_10, cap_11, cap_12, cap_13, cap_14, cap_15, cap_16, cap_17, cap_18, cap_19, cap_20, cap_21, cap_22, cap_23, cap_24, cap_25, cap_26, cap_27, cap_28, cap_29, cap_30, cap_31, cap_32, cap_33, cap_34, cap_35, cap_36, cap_37, cap_38, cap_39, cap_40, frzs_tD, key, e2, sumL_vec, passM]
  · simp -implicitDefEqProofs only [d_raw_passing, b_d_raw_passing, runF, eBinR, qFld, eMth, eMth0, eProp, lot_pure, lot_frz, lot_isO, eBad, sBad, gT, gCo, gNl, sAsg, sDput, eDget, eDget2, dicO, sPut, sPut2, sq_tup, sq_lst, sq_vec, sNx, sSeq, sIf, sRet, sSet, sEx, sBk, sCt, sFgt, fgt, eC, eV, eM, eBin, eUn, aNil, aCons, eTup, eLst, eFn, tB1, tAnd, tOr, tNot, eAnd, eOr, eNot, eIf, eCall, eCallK, pick, eQ, tQ1, qV, qC, qBin, qUn, qB, qAnd, qOr, qNot, qIf, qAndT, qOrT, qNotT, qChain, eChain, eLc, sFor, iSq, iRg1, iRg2, gN, itms, rst, eApp, D.frz, D.frzs, D.pure, D.pures, bind_ok, bind_ex, stmt_ok, stmt_ex, seq_nx, seq_rt, seq_ex, seq_bk, seq_ct, fgt_nx, fgt_bk, fgt_ct, fgt_rt, fgt_ex, out_nx, out_rt, out_ex, opt_some, optL_some, andB_tt, andB_ff, andB_some, orB_tt, orB_ff, orB_some, andX_tt, andX_ff, andX_some, orX_tt, orX_ff, orX_some, itAnd, itOr, itAndX, itOrX, Option.bind_some, List.map_cons, List.map_nil, List.length_cons, List.length_nil, List.cons_append, List.nil_append, List.getElem?_cons_zero, List.getElem?_cons_succ, List.getElem?_nil, List.set_cons_zero, List.set_cons_succ, List.replicate, addI_i, subD_i, ltD_i, leD_i, gtD_i, geD_i, eqS_int, neS_int, eqS_bl, neS_bl, max2_i, min2_i, maxL_i, minL_i, int1_i, intL_i, if_true, if_false, ite_true, ite_false, and_true, true_and, and_self, Bool.and_self, Bool.and_true, Bool.true_and, Bool.and_false, Bool.false_and, Bool.or_true, Bool.true_or, Bool.or_false, Bool.false_or, Bool.not_true, Bool.not_false, Nat.reduceAdd, Nat.reduceSub, Nat.reduceEqDiff, List.filterMap_cons, List.filterMap_nil, decide_true, decide_false, Bool.false_eq_true, reduceIte, Int.reduceAdd, Int.reduceSub, Int.reduceMul, Int.reduceNeg, Int.reduceLT, Int.reduceLE, Int.reduceEq, Int.reduceMod, Int.reduceDiv, Int.lt_irrefl, reduceCtorEq, D.frzs_int, D.pures_int, cap_0, cap_1, cap_2, cap_3, cap_4, cap_5, cap_6, cap_7, cap_8, cap_9, cap_10, cap_11, cap_12, cap_13, cap_14, cap_15, cap_16, cap_17, cap_18, cap_19, cap_20, cap_21, cap_22, cap_23, cap_24, cap_25, cap_26, cap_27, cap_28, cap_29, cap_30, cap_31, cap_32, cap_33, cap_34, cap_35, cap_36, cap_37, cap_38, cap_39, cap_40, frzs_tD, key, e2, sumL_vec, passM]
/-- a table -/
def tabM (n : Nat) (f : Int → Int → Int) : List (List Int) := (List.range n).map fun (i : Nat) => (List.range n).map fun (j : Nat) => f i j
def tabD (t : List (List Int)) : D := .tup (t.map fun r => .tup (r.map .int))
theorem tab_eq (p : Int) (d : D) (ts : List T3) (hd : SeqD d (ts.map tD)) (hp : 0 ≤ p ∧ p ≤ 1000) (hl : ts.length < 1000000) : d_raw_table [.int p, d] = .rt (tabD (tabM (max p 1).toNat (passM ts))) := by
  have hb : bnd (max p 1) = true := bnd_of ⟨by omega, by omega⟩
  have hn : (max p 1).toNat ≤ 1000 := by omega
  have row : ∀ (x : D) (hx : SeqD x (ts.map tD)) (i : Int), lcl [4] (gN 4) tT (eCall d_raw_passing [] (aCons (eV 1) (aCons (eV 3) (aCons (eV 4) aNil)))) (((List.range (max p 1).toNat).map fun (k : Nat) => (0 : Int) + k).map D.int) [] [some (.int p), some x, some (.int (max p 1)), some (.int i), none] =
      .ok ((((List.range (max p 1).toNat).map fun (k : Nat) => (0 : Int) + k)).map fun j => .int (passM ts i j)) [some (.int p), some x, some (.int (max p 1)), some (.int i), none] := fun x hx i =>
    lcl_all D.int (fun j => .int (passM ts i j)) _ (by simp only [List.length_map, List.length_range]; omega) fun j hj => by
      have hf : x.frz = x := by rcases hx with rfl | rfl <;> simp only [D.frz, frzs_tD]
      refine ⟨_, [some (.int p), some x, some (.int (max p 1)), some (.int i), some (.int j)], rfl, ?_, rfl⟩
      simp -implicitDefEqProofs only [runF, eBinR, qFld, eMth, eMth0, eProp, lot_pure, lot_frz, lot_isO, eBad, sBad, gT, gCo, gNl, sAsg, sDput, eDget, eDget2, dicO, sPut, sPut2, sq_tup, sq_lst, sq_vec, sNx, sSeq, sIf, sRet, sSet, sEx, sBk, sCt, sFgt, fgt, eC, eV, eM, eBin, eUn, aNil, aCons, eTup, eLst, eFn, tB1, tAnd, tOr, tNot, eAnd, eOr, eNot, eIf, eCall, eCallK, pick, eQ, tQ1, qV, qC, qBin, qUn, qB, qAnd, qOr, qNot, qIf, qAndT, qOrT, qNotT, qChain, eChain, eLc, sFor, iSq, iRg1, iRg2, gN, itms, rst, eApp, D.frz, D.frzs, D.pure, D.pures, bind_ok, bind_ex, stmt_ok, stmt_ex, seq_nx, seq_rt, seq_ex, seq_bk, seq_ct, fgt_nx, fgt_bk, fgt_ct, fgt_rt, fgt_ex, out_nx, out_rt, out_ex, opt_some, optL_some, andB_tt, andB_ff, andB_some, orB_tt, orB_ff, orB_some, andX_tt, andX_ff, andX_some, orX_tt, orX_ff, orX_some, itAnd, itOr, itAndX, itOrX, Option.bind_some, List.map_cons, List.map_nil, List.length_cons, List.length_nil, List.cons_append, List.nil_append, List.getElem?_cons_zero, List.getElem?_cons_succ, List.getElem?_nil, List.set_cons_zero, List.set_cons_succ, List.replicate, addI_i, subD_i, ltD_i, leD_i, gtD_i, geD_i, eqS_int, neS_int, eqS_bl, neS_bl, max2_i, min2_i, maxL_i, minL_i, int1_i, intL_i, if_true, if_false, ite_true, ite_false, and_true, true_and, and_self, Bool.and_self, Bool.and_true, Bool.true_and, Bool.and_false, Bool.false_and, Bool.or_true, Bool.true_or, Bool.or_false, Bool.false_or, Bool.not_true, Bool.not_false, Nat.reduceAdd, Nat.reduceSub, Nat.reduceEqDiff, List.filterMap_cons, List.filterMap_nil, decide_true, decide_false, Bool.false_eq_true, reduceIte, Int.reduceAdd, Int.reduceSub, Int.reduceMul, Int.reduceNeg, Int.reduceLT, Int.reduceLE, Int.reduceEq, Int.reduceMod, Int.reduceDiv, Int.lt_irrefl, reduceCtorEq, D.frzs_int, D.pures_int, cap_0, cap_1, cap_2, cap_3, cap_4, cap_5, cap_6, cap_7, cap_8, cap_9, cap_10, cap_11, cap_12, cap_13, cap_14, cap_15, cap_16, cap_17, cap_18, cap_19, cap_20, cap_21, cap_22, cap_23, cap_24, cap_25, cap_26, cap_27, cap_28, cap_29, cap_30, cap_31, cap_32, cap_33, cap_34, cap_35, cap_36, cap_37, cap_38, cap_39, cap_40, hf, pass_eq x ts hx i j hl]
  have all : ∀ (x : D) (hx : SeqD x (ts.map tD)), lcl [3] (gN 3) tT (eFn tupL (aCons (eLc [4] (iRg1 (aCons (eV 2) aNil)) (gN 4) tT (eCall d_raw_passing [] (aCons (eV 1) (aCons (eV 3) (aCons (eV 4) aNil))))) aNil)) (((List.range (max p 1).toNat).map fun (k : Nat) => (0 : Int) + k).map D.int) [] [some (.int p), some x, some (.int (max p 1)), none, none] =
      .ok ((((List.range (max p 1).toNat).map fun (k : Nat) => (0 : Int) + k)).map fun i => .tup ((((List.range (max p 1).toNat).map fun (k : Nat) => (0 : Int) + k)).map fun j => .int (passM ts i j))) [some (.int p), some x, some (.int (max p 1)), none, none] := fun x hx =>
    lcl_all D.int (fun i => .tup ((((List.range (max p 1).toNat).map fun (k : Nat) => (0 : Int) + k)).map fun j => .int (passM ts i j))) _ (by simp only [List.length_map, List.length_range]; omega) fun i hi => by
      refine ⟨_, [some (.int p), some x, some (.int (max p 1)), some (.int i), none], rfl, ?_, rfl⟩
      have e0 : (max p 1 - 0).toNat = (max p 1).toNat := by rw [Int.sub_zero]
      simp -implicitDefEqProofs only [runF, eBinR, qFld, eMth, eMth0, eProp, lot_pure, lot_frz, lot_isO, eBad, sBad, gT, gCo, gNl, sAsg, sDput, eDget, eDget2, dicO, sPut, sPut2, sq_tup, sq_lst, sq_vec, sNx, sSeq, sIf, sRet, sSet, sEx, sBk, sCt, sFgt, fgt, eC, eV, eM, eBin, eUn, aNil, aCons, eTup, eLst, eFn, tB1, tAnd, tOr, tNot, eAnd, eOr, eNot, eIf, eCall, eCallK, pick, eQ, tQ1, qV, qC, qBin, qUn, qB, qAnd, qOr, qNot, qIf, qAndT, qOrT, qNotT, qChain, eChain, eLc, sFor, iSq, iRg1, iRg2, gN, itms, rst, eApp, D.frz, D.frzs, D.pure, D.pures, bind_ok, bind_ex, stmt_ok, stmt_ex, seq_nx, seq_rt, seq_ex, seq_bk, seq_ct, fgt_nx, fgt_bk, fgt_ct, fgt_rt, fgt_ex, out_nx, out_rt, out_ex, opt_some, optL_some, andB_tt, andB_ff, andB_some, orB_tt, orB_ff, orB_some, andX_tt, andX_ff, andX_some, orX_tt, orX_ff, orX_some, itAnd, itOr, itAndX, itOrX, Option.bind_some, List.map_cons, List.map_nil, List.length_cons, List.length_nil, List.cons_append, List.nil_append, List.getElem?_cons_zero, List.getElem?_cons_succ, List.getElem?_nil, List.set_cons_zero, List.set_cons_succ, List.replicate, addI_i, subD_i, ltD_i, leD_i, gtD_i, geD_i, eqS_int, neS_int, eqS_bl, neS_bl, max2_i, min2_i, maxL_i, minL_i, int1_i, intL_i, if_true, if_false, ite_true, ite_false, and_true, true_and, and_self, Bool.and_self, Bool.and_true, Bool.true_and, Bool.and_false, Bool.false_and, Bool.or_true, Bool.true_or, Bool.or_false, Bool.false_or, Bool.not_true, Bool.not_false, Nat.reduceAdd, Nat.reduceSub, Nat.reduceEqDiff, List.filterMap_cons, List.filterMap_nil, decide_true, decide_false, Bool.false_eq_true, reduceIte, Int.reduceAdd, Int.reduceSub, Int.reduceMul, Int.reduceNeg, Int.reduceLT, Int.reduceLE, Int.reduceEq, Int.reduceMod, Int.reduceDiv, Int.lt_irrefl, reduceCtorEq, D.frzs_int, D.pures_int, cap_0, cap_1, cap_2, cap_3, cap_4, cap_5, cap_6, cap_7, cap_8, cap_9, cap_10, cap_11, cap_12, cap_13, cap_14, cap_15, cap_16, cap_17, cap_18, cap_19, cap_20, cap_21, cap_22, cap_23, cap_24, cap_25, cap_26, cap_27, cap_28, cap_29, cap_30, cap_31, cap_32, cap_33, cap_34, cap_35, cap_36, cap_37, cap_38, cap_39, cap_40, hb, rng_eq, row x hx i, tupL_sq (sq_vec _)]
  have fin : ((((List.range (max p 1).toNat).map fun (k : Nat) => (0 : Int) + k)).map fun i => D.tup ((((List.range (max p 1).toNat).map fun (k : Nat) => (0 : Int) + k)).map fun j => .int (passM ts i j))) = (tabM (max p 1).toNat (passM ts)).map fun r => .tup (r.map .int) := by
    unfold tabM
    rw [List.map_map, List.map_map]
    refine List.map_congr_left fun i _ => ?_
    simp only [Function.comp, Int.zero_add, List.map_map]
    rfl
  have hx : ∀ x, SeqD x (ts.map tD) → D.frz x = x := fun x hx => by rcases hx with rfl | rfl <;> simp only [D.frz, frzs_tD]
  simp -implicitDefEqProofs only [d_raw_table, b_d_raw_table, runF, eBinR, qFld, eMth, eMth0, eProp, lot_pure, lot_frz, lot_isO, eBad, sBad, gT, gCo, gNl, sAsg, sDput, eDget, eDget2, dicO, sPut, sPut2, sq_tup, sq_lst, sq_vec, sNx, sSeq, sIf, sRet, sSet, sEx, sBk, sCt, sFgt, fgt, eC, eV, eM, eBin, eUn, aNil, aCons, eTup, eLst, eFn, tB1, tAnd, tOr, tNot, eAnd, eOr, eNot, eIf, eCall, eCallK, pick, eQ, tQ1, qV, qC, qBin, qUn, qB, qAnd, qOr, qNot, qIf, qAndT, qOrT, qNotT, qChain, eChain, eLc, sFor, iSq, iRg1, iRg2, gN, itms, rst, eApp, D.frz, D.frzs, D.pure, D.pures, bind_ok, bind_ex, stmt_ok, stmt_ex, seq_nx, seq_rt, seq_ex, seq_bk, seq_ct, fgt_nx, fgt_bk, fgt_ct, fgt_rt, fgt_ex, out_nx, out_rt, out_ex, opt_some, optL_some, andB_tt, andB_ff, andB_some, orB_tt, orB_ff, orB_some, andX_tt, andX_ff, andX_some, orX_tt, orX_ff, orX_some, itAnd, itOr, itAndX, itOrX, Option.bind_some, List.map_cons, List.map_nil, List.length_cons, List.length_nil, List.cons_append, List.nil_append, List.getElem?_cons_zero, List.getElem?_cons_succ, List.getElem?_nil, List.set_cons_zero, List.set_cons_succ, List.replicate, addI_i, subD_i, ltD_i, leD_i, gtD_i, geD_i, eqS_int, neS_int, eqS_bl, neS_bl, max2_i, min2_i, maxL_i, minL_i, int1_i, intL_i, if_true, if_false, ite_true, ite_false, and_true, true_and, and_self, Bool.and_self, Bool.and_true, Bool.true_and, Bool.and_false, Bool.false_and, Bool.or_true, Bool.true_or, Bool.or_false, Bool.false_or, Bool.not_true, Bool.not_false, Nat.reduceAdd, Nat.reduceSub, Nat.reduceEqDiff, List.filterMap_cons, List.filterMap_nil, decide_true, decide_false, Bool.false_eq_true, reduceIte, Int.reduceAdd, Int.reduceSub, Int.reduceMul, Int.reduceNeg, Int.reduceLT, Int.reduceLE, Int.reduceEq, Int.reduceMod, Int.reduceDiv, Int.lt_irrefl, reduceCtorEq, D.frzs_int, D.pures_int, cap_0, cap_1, cap_2, cap_3, cap_4, cap_5, cap_6, cap_7, cap_8, cap_9, cap_10, cap_11, cap_12, cap_13, cap_14, cap_15, cap_16, cap_17, cap_18, cap_19, cap_20, cap_21, cap_22, cap_23, cap_24, cap_25, cap_26, cap_27, cap_28, cap_29, cap_30, cap_31, cap_32, cap_33, cap_34, cap_35, cap_36, cap_37, cap_38, cap_39, cap_40, gaps_eq, hb, rng_eq, all d hd, tupL_sq (sq_vec _), fin, tabD]
theorem mends_eq (p : Int) (cs : List T3) (i : Int) (h : 0 ≤ i ∧ i < p) (hl : cs.length < 1000000) : d_Lot_ends [lotD p cs, .int i] = .rt (.int (endsM cs i)) := by
  simp -implicitDefEqProofs only [d_Lot_ends, b_d_Lot_ends, runF, eBinR, qFld, eMth, eMth0, eProp, lot_pure, lot_frz, lot_isO, eBad, sBad, gT, gCo, gNl, sAsg, sDput, eDget, eDget2, dicO, sPut, sPut2, sq_tup, sq_lst, sq_vec, sNx, sSeq, sIf, sRet, sSet, sEx, sBk, sCt, sFgt, fgt, eC, eV, eM, eBin, eUn, aNil, aCons, eTup, eLst, eFn, tB1, tAnd, tOr, tNot, eAnd, eOr, eNot, eIf, eCall, eCallK, pick, eQ, tQ1, qV, qC, qBin, qUn, qB, qAnd, qOr, qNot, qIf, qAndT, qOrT, qNotT, qChain, eChain, eLc, sFor, iSq, iRg1, iRg2, gN, itms, rst, eApp, D.frz, D.frzs, D.pure, D.pures, bind_ok, bind_ex, stmt_ok, stmt_ex, seq_nx, seq_rt, seq_ex, seq_bk, seq_ct, fgt_nx, fgt_bk, fgt_ct, fgt_rt, fgt_ex, out_nx, out_rt, out_ex, opt_some, optL_some, andB_tt, andB_ff, andB_some, orB_tt, orB_ff, orB_some, andX_tt, andX_ff, andX_some, orX_tt, orX_ff, orX_some, itAnd, itOr, itAndX, itOrX, Option.bind_some, List.map_cons, List.map_nil, List.length_cons, List.length_nil, List.cons_append, List.nil_append, List.getElem?_cons_zero, List.getElem?_cons_succ, List.getElem?_nil, List.set_cons_zero, List.set_cons_succ, List.replicate, addI_i, subD_i, ltD_i, leD_i, gtD_i, geD_i, eqS_int, neS_int, eqS_bl, neS_bl, max2_i, min2_i, maxL_i, minL_i, int1_i, intL_i, if_true, if_false, ite_true, ite_false, and_true, true_and, and_self, Bool.and_self, Bool.and_true, Bool.true_and, Bool.and_false, Bool.false_and, Bool.or_true, Bool.true_or, Bool.or_false, Bool.false_or, Bool.not_true, Bool.not_false, Nat.reduceAdd, Nat.reduceSub, Nat.reduceEqDiff, List.filterMap_cons, List.filterMap_nil, decide_true, decide_false, Bool.false_eq_true, reduceIte, Int.reduceAdd, Int.reduceSub, Int.reduceMul, Int.reduceNeg, Int.reduceLT, Int.reduceLE, Int.reduceEq, Int.reduceMod, Int.reduceDiv, Int.lt_irrefl, reduceCtorEq, D.frzs_int, D.pures_int, cap_0, cap_1, cap_2, cap_3, cap_4, cap_5, cap_6, cap_7, cap_8, cap_9, cap_10, cap_11, cap_12, cap_13, cap_14, cap_15, cap_16, cap_17, cap_18, cap_19, cap_20, cap_21, cap_22, cap_23, cap_24, cap_25, cap_26, cap_27, cap_28, cap_29, cap_30, cap_31, cap_32, cap_33, cap_34, cap_35, cap_36, cap_37, cap_38, cap_39, cap_40, lotD, check_eq p i h, pures_tD, frzs_tD, ends_eq _ cs (.inl rfl) i hl]
theorem mtab_eq (p : Int) (cs : List T3) (hp : 0 ≤ p ∧ p ≤ 1000) (hl : cs.length < 1000000) : d_Lot_table [lotD p cs] = .rt (tabD (tabM (max p 1).toNat (passM cs))) := by
  simp -implicitDefEqProofs only [d_Lot_table, b_d_Lot_table, runF, eBinR, qFld, eMth, eMth0, eProp, lot_pure, lot_frz, lot_isO, eBad, sBad, gT, gCo, gNl, sAsg, sDput, eDget, eDget2, dicO, sPut, sPut2, sq_tup, sq_lst, sq_vec, sNx, sSeq, sIf, sRet, sSet, sEx, sBk, sCt, sFgt, fgt, eC, eV, eM, eBin, eUn, aNil, aCons, eTup, eLst, eFn, tB1, tAnd, tOr, tNot, eAnd, eOr, eNot, eIf, eCall, eCallK, pick, eQ, tQ1, qV, qC, qBin, qUn, qB, qAnd, qOr, qNot, qIf, qAndT, qOrT, qNotT, qChain, eChain, eLc, sFor, iSq, iRg1, iRg2, gN, itms, rst, eApp, D.frz, D.frzs, D.pure, D.pures, bind_ok, bind_ex, stmt_ok, stmt_ex, seq_nx, seq_rt, seq_ex, seq_bk, seq_ct, fgt_nx, fgt_bk, fgt_ct, fgt_rt, fgt_ex, out_nx, out_rt, out_ex, opt_some, optL_some, andB_tt, andB_ff, andB_some, orB_tt, orB_ff, orB_some, andX_tt, andX_ff, andX_some, orX_tt, orX_ff, orX_some, itAnd, itOr, itAndX, itOrX, Option.bind_some, List.map_cons, List.map_nil, List.length_cons, List.length_nil, List.cons_append, List.nil_append, List.getElem?_cons_zero, List.getElem?_cons_succ, List.getElem?_nil, List.set_cons_zero, List.set_cons_succ, List.replicate, addI_i, subD_i, ltD_i, leD_i, gtD_i, geD_i, eqS_int, neS_int, eqS_bl, neS_bl, max2_i, min2_i, maxL_i, minL_i, int1_i, intL_i, if_true, if_false, ite_true, ite_false, and_true, true_and, and_self, Bool.and_self, Bool.and_true, Bool.true_and, Bool.and_false, Bool.false_and, Bool.or_true, Bool.true_or, Bool.or_false, Bool.false_or, Bool.not_true, Bool.not_false, Nat.reduceAdd, Nat.reduceSub, Nat.reduceEqDiff, List.filterMap_cons, List.filterMap_nil, decide_true, decide_false, Bool.false_eq_true, reduceIte, Int.reduceAdd, Int.reduceSub, Int.reduceMul, Int.reduceNeg, Int.reduceLT, Int.reduceLE, Int.reduceEq, Int.reduceMod, Int.reduceDiv, Int.lt_irrefl, reduceCtorEq, D.frzs_int, D.pures_int, cap_0, cap_1, cap_2, cap_3, cap_4, cap_5, cap_6, cap_7, cap_8, cap_9, cap_10, cap_11, cap_12, cap_13, cap_14, cap_15, cap_16, cap_17, cap_18, cap_19, cap_20, cap_21, cap_22, cap_23, cap_24, cap_25, cap_26, cap_27, cap_28, cap_29, cap_30, cap_31, cap_32, cap_33, cap_34, cap_35, cap_36, cap_37, cap_38, cap_39, cap_40, lotD, pures_tD, frzs_tD, tab_eq p _ cs (.inl rfl) hp hl]
theorem mlen_eq (p : Int) (cs : List T3) : d_Lot___len__ [lotD p cs] = .rt (.int cs.length) := by
  simp -implicitDefEqProofs only [d_Lot___len__, b_d_Lot___len__, runF, eBinR, qFld, eMth, eMth0, eProp, lot_pure, lot_frz, lot_isO, eBad, sBad, gT, gCo, gNl, sAsg, sDput, eDget, eDget2, dicO, sPut, sPut2, sq_tup, sq_lst, sq_vec, sNx, sSeq, sIf, sRet, sSet, sEx, sBk, sCt, sFgt, fgt, eC, eV, eM, eBin, eUn, aNil, aCons, eTup, eLst, eFn, tB1, tAnd, tOr, tNot, eAnd, eOr, eNot, eIf, eCall, eCallK, pick, eQ, tQ1, qV, qC, qBin, qUn, qB, qAnd, qOr, qNot, qIf, qAndT, qOrT, qNotT, qChain, eChain, eLc, sFor, iSq, iRg1, iRg2, gN, itms, rst, eApp, D.frz, D.frzs, D.pure, D.pures, bind_ok, bind_ex, stmt_ok, stmt_ex, seq_nx, seq_rt, seq_ex, seq_bk, seq_ct, fgt_nx, fgt_bk, fgt_ct, fgt_rt, fgt_ex, out_nx, out_rt, out_ex, opt_some, optL_some, andB_tt, andB_ff, andB_some, orB_tt, orB_ff, orB_some, andX_tt, andX_ff, andX_some, orX_tt, orX_ff, orX_some, itAnd, itOr, itAndX, itOrX, Option.bind_some, List.map_cons, List.map_nil, List.length_cons, List.length_nil, List.cons_append, List.nil_append, List.getElem?_cons_zero, List.getElem?_cons_succ, List.getElem?_nil, List.set_cons_zero, List.set_cons_succ, List.replicate, addI_i, subD_i, ltD_i, leD_i, gtD_i, geD_i, eqS_int, neS_int, eqS_bl, neS_bl, max2_i, min2_i, maxL_i, minL_i, int1_i, intL_i, if_true, if_false, ite_true, ite_false, and_true, true_and, and_self, Bool.and_self, Bool.and_true, Bool.true_and, Bool.and_false, Bool.false_and, Bool.or_true, Bool.true_or, Bool.or_false, Bool.false_or, Bool.not_true, Bool.not_false, Nat.reduceAdd, Nat.reduceSub, Nat.reduceEqDiff, List.filterMap_cons, List.filterMap_nil, decide_true, decide_false, Bool.false_eq_true, reduceIte, Int.reduceAdd, Int.reduceSub, Int.reduceMul, Int.reduceNeg, Int.reduceLT, Int.reduceLE, Int.reduceEq, Int.reduceMod, Int.reduceDiv, Int.lt_irrefl, reduceCtorEq, D.frzs_int, D.pures_int, cap_0, cap_1, cap_2, cap_3, cap_4, cap_5, cap_6, cap_7, cap_8, cap_9, cap_10, cap_11, cap_12, cap_13, cap_14, cap_15, cap_16, cap_17, cap_18, cap_19, cap_20, cap_21, cap_22, cap_23, cap_24, cap_25, cap_26, cap_27, cap_28, cap_29, cap_30, cap_31, cap_32, cap_33, cap_34, cap_35, cap_36, cap_37, cap_38, cap_39, cap_40, lotD, len1_sq (sq_tup _), List.length_map]
def sumM (ts : List T3) : Int := (ts.map fun t => t.2.2).sum
theorem mtotal_eq (p : Int) (cs : List T3) (hl : cs.length < 1000000) : d_Lot_total [lotD p cs] = .rt (.int (sumM cs)) := by
  have key : ∀ x : D, lcl [1, 2, 3] (gT 3 (gCo (gN 1) (gCo (gN 2) (gCo (gN 3) gNl)))) tT (eV 3) (cs.map tD) [] [some x, none, none, none] = .ok (cs.map fun t => .int t.2.2) [some x, none, none, none] := fun x =>
    lcl_all tD _ cs (by omega) fun t ht => ⟨_, [some x, some (.int t.1), some (.int t.2.1), some (.int t.2.2)], rfl, rfl, rfl⟩
  have e2 : (cs.map fun t => D.int t.2.2) = (cs.map fun t => t.2.2).map D.int := by rw [List.map_map]; rfl
  simp -implicitDefEqProofs only [d_Lot_total, b_d_Lot_total, runF, eBinR, qFld, eMth, eMth0, eProp, lot_pure, lot_frz, lot_isO, eBad, sBad, gT, gCo, gNl, sAsg, sDput, eDget, eDget2, dicO, sPut, sPut2, sq_tup, sq_lst, sq_vec, sNx, sSeq, sIf, sRet, sSet, sEx, sBk, sCt, sFgt, fgt, eC, eV, eM, eBin, eUn, aNil, aCons, eTup, eLst, eFn, tB1, tAnd, tOr, tNot, eAnd, eOr, eNot, eIf, eCall, eCallK, pick, eQ, tQ1, qV, qC, qBin, qUn, qB, qAnd, qOr, qNot, qIf, qAndT, qOrT, qNotT, qChain, eChain, eLc, sFor, iSq, iRg1, iRg2, gN, itms, rst, eApp, D.frz, D.frzs, D.pure, D.pures, bind_ok, bind_ex, stmt_ok, stmt_ex, seq_nx, seq_rt, seq_ex, seq_bk, seq_ct, fgt_nx, fgt_bk, fgt_ct, fgt_rt, fgt_ex, out_nx, out_rt, out_ex, opt_some, optL_some, andB_tt, andB_ff, andB_some, orB_tt, orB_ff, orB_some, andX_tt, andX_ff, andX_some, orX_tt, orX_ff, orX_some, itAnd, itOr, itAndX, itOrX, Option.bind_some, List.map_cons, List.map_nil, List.length_cons, List.length_nil, List.cons_append, List.nil_append, List.getElem?_cons_zero, List.getElem?_cons_succ, List.getElem?_nil, List.set_cons_zero, List.set_cons_succ, List.replicate, addI_i, subD_i, ltD_i, leD_i, gtD_i, geD_i, eqS_int, neS_int, eqS_bl, neS_bl, max2_i, min2_i, maxL_i, minL_i, int1_i, intL_i, if_true, if_false, ite_true, ite_false, and_true, true_and, and_self, Bool.and_self, Bool.and_true, Bool.true_and, Bool.and_false, Bool.false_and, Bool.or_true, Bool.true_or, Bool.or_false, Bool.false_or, Bool.not_true, Bool.not_false, Nat.reduceAdd, Nat.reduceSub, Nat.reduceEqDiff, List.filterMap_cons, List.filterMap_nil, decide_true, decide_false, Bool.false_eq_true, reduceIte, Int.reduceAdd, Int.reduceSub, Int.reduceMul, Int.reduceNeg, Int.reduceLT, Int.reduceLE, Int.reduceEq, Int.reduceMod, Int.reduceDiv, Int.lt_irrefl, reduceCtorEq, D.frzs_int, D.pures_int, cap_0, cap_1, cap_2, cap_3, cap_4, cap_5, cap_6, cap_7, cap_8, cap_9, cap_10, cap_11, cap_12, cap_13, cap_14, cap_15, cap_16, cap_17, cap_18, cap_19, cap_20, cap_21, cap_22, cap_23, cap_24, cap_25, cap_26, cap_27, cap_28, cap_29, cap_30, cap_31, cap_32, cap_33, cap_34, cap_35, cap_36, cap_37, cap_38, cap_39, cap_40, lotD, pures_tD, frzs_tD, key, e2, sumL_vec, sumM]
/-- pins renumbered -/
def renT (f : Int → Int) (t : T3) : T3 := (f t.1, f t.2.1, t.2.2)
theorem rturned_eq (p s : Int) (cs : List T3) (h : ∀ t ∈ cs, 0 < p) (hl : cs.length < 1000000) : d_raw_turned [.int p, .tup (cs.map tD), .int s] = .rt (.tup [.int p, .tup ((comb (cs.map (renT fun a => (a + s) % p))).map tD)]) := by
  have key : ∀ x : D, lcl [3, 4, 5] (gT 3 (gCo (gN 3) (gCo (gN 4) (gCo (gN 5) gNl)))) tT (eTup (aCons (eQ (qBin modD (qBin addI (qV 3) (qV 2)) (qV 0))) (aCons (eQ (qBin modD (qBin addI (qV 4) (qV 2)) (qV 0))) (aCons (eV 5) aNil)))) (cs.map tD) [] [some (.int p), some x, some (.int s), none, none, none] = .ok (cs.map fun t => tD (renT (fun a => (a + s) % p) t)) [some (.int p), some x, some (.int s), none, none, none] := fun x =>
    lcl_all tD _ cs (by omega) fun t ht => by
      refine ⟨_, [some (.int p), some x, some (.int s), some (.int t.1), some (.int t.2.1), some (.int t.2.2)], rfl, ?_, rfl⟩
      simp -implicitDefEqProofs only [runF, eBinR, qFld, eMth, eMth0, eProp, lot_pure, lot_frz, lot_isO, eBad, sBad, gT, gCo, gNl, sAsg, sDput, eDget, eDget2, dicO, sPut, sPut2, sq_tup, sq_lst, sq_vec, sNx, sSeq, sIf, sRet, sSet, sEx, sBk, sCt, sFgt, fgt, eC, eV, eM, eBin, eUn, aNil, aCons, eTup, eLst, eFn, tB1, tAnd, tOr, tNot, eAnd, eOr, eNot, eIf, eCall, eCallK, pick, eQ, tQ1, qV, qC, qBin, qUn, qB, qAnd, qOr, qNot, qIf, qAndT, qOrT, qNotT, qChain, eChain, eLc, sFor, iSq, iRg1, iRg2, gN, itms, rst, eApp, D.frz, D.frzs, D.pure, D.pures, bind_ok, bind_ex, stmt_ok, stmt_ex, seq_nx, seq_rt, seq_ex, seq_bk, seq_ct, fgt_nx, fgt_bk, fgt_ct, fgt_rt, fgt_ex, out_nx, out_rt, out_ex, opt_some, optL_some, andB_tt, andB_ff, andB_some, orB_tt, orB_ff, orB_some, andX_tt, andX_ff, andX_some, orX_tt, orX_ff, orX_some, itAnd, itOr, itAndX, itOrX, Option.bind_some, List.map_cons, List.map_nil, List.length_cons, List.length_nil, List.cons_append, List.nil_append, List.getElem?_cons_zero, List.getElem?_cons_succ, List.getElem?_nil, List.set_cons_zero, List.set_cons_succ, List.replicate, addI_i, subD_i, ltD_i, leD_i, gtD_i, geD_i, eqS_int, neS_int, eqS_bl, neS_bl, max2_i, min2_i, maxL_i, minL_i, int1_i, intL_i, if_true, if_false, ite_true, ite_false, and_true, true_and, and_self, Bool.and_self, Bool.and_true, Bool.true_and, Bool.and_false, Bool.false_and, Bool.or_true, Bool.true_or, Bool.or_false, Bool.false_or, Bool.not_true, Bool.not_false, Nat.reduceAdd, Nat.reduceSub, Nat.reduceEqDiff, List.filterMap_cons, List.filterMap_nil, decide_true, decide_false, Bool.false_eq_true, reduceIte, Int.reduceAdd, Int.reduceSub, Int.reduceMul, Int.reduceNeg, Int.reduceLT, Int.reduceLE, Int.reduceEq, Int.reduceMod, Int.reduceDiv, Int.lt_irrefl, reduceCtorEq, D.frzs_int, D.pures_int, cap_0, cap_1, cap_2, cap_3, cap_4, cap_5, cap_6, cap_7, cap_8, cap_9, cap_10, cap_11, cap_12, cap_13, cap_14, cap_15, cap_16, cap_17, cap_18, cap_19, cap_20, cap_21, cap_22, cap_23, cap_24, cap_25, cap_26, cap_27, cap_28, cap_29, cap_30, cap_31, cap_32, cap_33, cap_34, cap_35, cap_36, cap_37, cap_38, cap_39, cap_40, modD_i (h t ht), tD, renT]
  have e2 : (cs.map fun t => tD (renT (fun a => (a + s) % p) t)) = (cs.map (renT fun a => (a + s) % p)).map tD := by rw [List.map_map]; rfl
  simp -implicitDefEqProofs only [d_raw_turned, b_d_raw_turned, runF, eBinR, qFld, eMth, eMth0, eProp, lot_pure, lot_frz, lot_isO, eBad, sBad, gT, gCo, gNl, sAsg, sDput, eDget, eDget2, dicO, sPut, sPut2, sq_tup, sq_lst, sq_vec, sNx, sSeq, sIf, sRet, sSet, sEx, sBk, sCt, sFgt, fgt, eC, eV, eM, eBin, eUn, aNil, aCons, eTup, eLst, eFn, tB1, tAnd, tOr, tNot, eAnd, eOr, eNot, eIf, eCall, eCallK, pick, eQ, tQ1, qV, qC, qBin, qUn, qB, qAnd, qOr, qNot, qIf, qAndT, qOrT, qNotT, qChain, eChain, eLc, sFor, iSq, iRg1, iRg2, gN, itms, rst, eApp, D.frz, D.frzs, D.pure, D.pures, bind_ok, bind_ex, stmt_ok, stmt_ex, seq_nx, seq_rt, seq_ex, seq_bk, seq_ct, fgt_nx, fgt_bk, fgt_ct, fgt_rt, fgt_ex, out_nx, out_rt, out_ex, opt_some, optL_some, andB_tt, andB_ff, andB_some, orB_tt, orB_ff, orB_some, andX_tt, andX_ff, andX_some, orX_tt, orX_ff, orX_some, itAnd, itOr, itAndX, itOrX, Option.bind_some, List.map_cons, List.map_nil, List.length_cons, List.length_nil, List.cons_append, List.nil_append, List.getElem?_cons_zero, List.getElem?_cons_succ, List.getElem?_nil, List.set_cons_zero, List.set_cons_succ, List.replicate, addI_i, subD_i, ltD_i, leD_i, gtD_i, geD_i, eqS_int, neS_int, eqS_bl, neS_bl, max2_i, min2_i, maxL_i, minL_i, int1_i, intL_i, if_true, if_false, ite_true, ite_false, and_true, true_and, and_self, Bool.and_self, Bool.and_true, Bool.true_and, Bool.and_false, Bool.false_and, Bool.or_true, Bool.true_or, Bool.or_false, Bool.false_or, Bool.not_true, Bool.not_false, Nat.reduceAdd, Nat.reduceSub, Nat.reduceEqDiff, List.filterMap_cons, List.filterMap_nil, decide_true, decide_false, Bool.false_eq_true, reduceIte, Int.reduceAdd, Int.reduceSub, Int.reduceMul, Int.reduceNeg, Int.reduceLT, Int.reduceLE, Int.reduceEq, Int.reduceMod, Int.reduceDiv, Int.lt_irrefl, reduceCtorEq, D.frzs_int, D.pures_int, cap_0, cap_1, cap_2, cap_3, cap_4, cap_5, cap_6, cap_7, cap_8, cap_9, cap_10, cap_11, cap_12, cap_13, cap_14, cap_15, cap_16, cap_17, cap_18, cap_19, cap_20, cap_21, cap_22, cap_23, cap_24, cap_25, cap_26, cap_27, cap_28, cap_29, cap_30, cap_31, cap_32, cap_33, cap_34, cap_35, cap_36, cap_37, cap_38, cap_39, cap_40, frzs_tD, key, e2, combined_eq _ _ (.inr rfl) (show (cs.map (renT fun a => (a + s) % p)).length < 1000000 by rw [List.length_map]; exact hl)]
theorem rmirror_eq (p : Int) (cs : List T3) (hl : cs.length < 1000000) : d_raw_mirrored [.int p, .tup (cs.map tD)] = .rt (.tup [.int p, .tup ((comb (cs.map (renT fun a => p - 1 - a))).map tD)]) := by
  have key : ∀ x : D, lcl [2, 3, 4] (gT 3 (gCo (gN 2) (gCo (gN 3) (gCo (gN 4) gNl)))) tT (eTup (aCons (eQ (qBin subD (qBin subD (qV 0) (qC (.int 1))) (qV 2))) (aCons (eQ (qBin subD (qBin subD (qV 0) (qC (.int 1))) (qV 3))) (aCons (eV 4) aNil)))) (cs.map tD) [] [some (.int p), some x, none, none, none] = .ok (cs.map fun t => tD (renT (fun a => p - 1 - a) t)) [some (.int p), some x, none, none, none] := fun x =>
    lcl_all tD _ cs (by omega) fun t ht => by
      refine ⟨_, [some (.int p), some x, some (.int t.1), some (.int t.2.1), some (.int t.2.2)], rfl, ?_, rfl⟩
      simp -implicitDefEqProofs only [runF, eBinR, qFld, eMth, eMth0, eProp, lot_pure, lot_frz, lot_isO, eBad, sBad, gT, gCo, gNl, sAsg, sDput, eDget, eDget2, dicO, sPut, sPut2, sq_tup, sq_lst, sq_vec, sNx, sSeq, sIf, sRet, sSet, sEx, sBk, sCt, sFgt, fgt, eC, eV, eM, eBin, eUn, aNil, aCons, eTup, eLst, eFn, tB1, tAnd, tOr, tNot, eAnd, eOr, eNot, eIf, eCall, eCallK, pick, eQ, tQ1, qV, qC, qBin, qUn, qB, qAnd, qOr, qNot, qIf, qAndT, qOrT, qNotT, qChain, eChain, eLc, sFor, iSq, iRg1, iRg2, gN, itms, rst, eApp, D.frz, D.frzs, D.pure, D.pures, bind_ok, bind_ex, stmt_ok, stmt_ex, seq_nx, seq_rt, seq_ex, seq_bk, seq_ct, fgt_nx, fgt_bk, fgt_ct, fgt_rt, fgt_ex, out_nx, out_rt, out_ex, opt_some, optL_some, andB_tt, andB_ff, andB_some, orB_tt, orB_ff, orB_some, andX_tt, andX_ff, andX_some, orX_tt, orX_ff, orX_some, itAnd, itOr, itAndX, itOrX, Option.bind_some, List.map_cons, List.map_nil, List.length_cons, List.length_nil, List.cons_append, List.nil_append, List.getElem?_cons_zero, List.getElem?_cons_succ, List.getElem?_nil, List.set_cons_zero, List.set_cons_succ, List.replicate, addI_i, subD_i, ltD_i, leD_i, gtD_i, geD_i, eqS_int, neS_int, eqS_bl, neS_bl, max2_i, min2_i, maxL_i, minL_i, int1_i, intL_i, if_true, if_false, ite_true, ite_false, and_true, true_and, and_self, Bool.and_self, Bool.and_true, Bool.true_and, Bool.and_false, Bool.false_and, Bool.or_true, Bool.true_or, Bool.or_false, Bool.false_or, Bool.not_true, Bool.not_false, Nat.reduceAdd, Nat.reduceSub, Nat.reduceEqDiff, List.filterMap_cons, List.filterMap_nil, decide_true, decide_false, Bool.false_eq_true, reduceIte, Int.reduceAdd, Int.reduceSub, Int.reduceMul, Int.reduceNeg, Int.reduceLT, Int.reduceLE, Int.reduceEq, Int.reduceMod, Int.reduceDiv, Int.lt_irrefl, reduceCtorEq, D.frzs_int, D.pures_int, cap_0, cap_1, cap_2, cap_3, cap_4, cap_5, cap_6, cap_7, cap_8, cap_9, cap_10, cap_11, cap_12, cap_13, cap_14, cap_15, cap_16, cap_17, cap_18, cap_19, cap_20, cap_21, cap_22, cap_23, cap_24, cap_25, cap_26, cap_27, cap_28, cap_29, cap_30, cap_31, cap_32, cap_33, cap_34, cap_35, cap_36, cap_37, cap_38, cap_39, cap_40, tD, renT]
  have e2 : (cs.map fun t => tD (renT (fun a => p - 1 - a) t)) = (cs.map (renT fun a => p - 1 - a)).map tD := by rw [List.map_map]; rfl
  simp -implicitDefEqProofs only [d_raw_mirrored, b_d_raw_mirrored, runF, eBinR, qFld, eMth, eMth0, eProp, lot_pure, lot_frz, lot_isO, eBad, sBad, gT, gCo, gNl, sAsg, sDput, eDget, eDget2, dicO, sPut, sPut2, sq_tup, sq_lst, sq_vec, sNx, sSeq, sIf, sRet, sSet, sEx, sBk, sCt, sFgt, fgt, eC, eV, eM, eBin, eUn, aNil, aCons, eTup, eLst, eFn, tB1, tAnd, tOr, tNot, eAnd, eOr, eNot, eIf, eCall, eCallK, pick, eQ, tQ1, qV, qC, qBin, qUn, qB, qAnd, qOr, qNot, qIf, qAndT, qOrT, qNotT, qChain, eChain, eLc, sFor, iSq, iRg1, iRg2, gN, itms, rst, eApp, D.frz, D.frzs, D.pure, D.pures, bind_ok, bind_ex, stmt_ok, stmt_ex, seq_nx, seq_rt, seq_ex, seq_bk, seq_ct, fgt_nx, fgt_bk, fgt_ct, fgt_rt, fgt_ex, out_nx, out_rt, out_ex, opt_some, optL_some, andB_tt, andB_ff, andB_some, orB_tt, orB_ff, orB_some, andX_tt, andX_ff, andX_some, orX_tt, orX_ff, orX_some, itAnd, itOr, itAndX, itOrX, Option.bind_some, List.map_cons, List.map_nil, List.length_cons, List.length_nil, List.cons_append, List.nil_append, List.getElem?_cons_zero, List.getElem?_cons_succ, List.getElem?_nil, List.set_cons_zero, List.set_cons_succ, List.replicate, addI_i, subD_i, ltD_i, leD_i, gtD_i, geD_i, eqS_int, neS_int, eqS_bl, neS_bl, max2_i, min2_i, maxL_i, minL_i, int1_i, intL_i, if_true, if_false, ite_true, ite_false, and_true, true_and, and_self, Bool.and_self, Bool.and_true, Bool.true_and, Bool.and_false, Bool.false_and, Bool.or_true, Bool.true_or, Bool.or_false, Bool.false_or, Bool.not_true, Bool.not_false, Nat.reduceAdd, Nat.reduceSub, Nat.reduceEqDiff, List.filterMap_cons, List.filterMap_nil, decide_true, decide_false, Bool.false_eq_true, reduceIte, Int.reduceAdd, Int.reduceSub, Int.reduceMul, Int.reduceNeg, Int.reduceLT, Int.reduceLE, Int.reduceEq, Int.reduceMod, Int.reduceDiv, Int.lt_irrefl, reduceCtorEq, D.frzs_int, D.pures_int, cap_0, cap_1, cap_2, cap_3, cap_4, cap_5, cap_6, cap_7, cap_8, cap_9, cap_10, cap_11, cap_12, cap_13, cap_14, cap_15, cap_16, cap_17, cap_18, cap_19, cap_20, cap_21, cap_22, cap_23, cap_24, cap_25, cap_26, cap_27, cap_28, cap_29, cap_30, cap_31, cap_32, cap_33, cap_34, cap_35, cap_36, cap_37, cap_38, cap_39, cap_40, frzs_tD, key, e2, combined_eq _ _ (.inr rfl) (show (cs.map (renT fun a => p - 1 - a)).length < 1000000 by rw [List.length_map]; exact hl)]
end Math

set_option Elab.async false
set_option linter.all false
set_option maxRecDepth 100000
set_option maxHeartbeats 1000000
namespace Math
open PySem FL Prg
open L2 (atI atI_nat)
/-- cords of a rim with p pins -/
def okL (p : Int) (cs : List T3) : Prop := ∀ t ∈ cs, okE p t
theorem okE_good {p : Int} {t : T3} (h : okE p t) : good t = true := by
  unfold good
  rw [Bool.and_eq_true, decide_eq_true_eq]
  have := h.2.2.1
  exact ⟨by simp [this], by have := h.2.2.2; omega⟩
theorem ok_comb {p : Int} {cs : List T3} (h : okL p cs) : okL p (comb cs) := fun t ht => by
  obtain ⟨h1, h2, h3⟩ := comb_good ht
  obtain ⟨u, hu, hg, e⟩ := (mem_met cs _).mp h3
  obtain ⟨k1, k2, k3, k4⟩ := h u hu
  have e1 : min u.1 u.2.1 = t.1 := congrArg (·.1) e
  have e2 : max u.1 u.2.1 = t.2.1 := congrArg (·.2) e
  refine ⟨?_, ?_, ?_, ?_⟩ <;> omega
theorem ok_ren {p : Int} {cs : List T3} {f : Int → Int} (h : okL p cs) (hf : ∀ a, 0 ≤ a ∧ a < p → 0 ≤ f a ∧ f a < p) (hi : ∀ a b, (0 ≤ a ∧ a < p) → (0 ≤ b ∧ b < p) → f a = f b → a = b) : okL p (cs.map (renT f)) := fun t ht => by
  obtain ⟨u, hu, rfl⟩ := List.mem_map.mp ht
  obtain ⟨k1, k2, k3, k4⟩ := h u hu
  exact ⟨hf _ k1, hf _ k2, fun e => k3 (hi _ _ k1 k2 e), k4⟩
theorem len_ren (f : Int → Int) (cs : List T3) : (cs.map (renT f)).length = cs.length := List.length_map ..
/-- the normal form of renumbered cords -/
theorem lin_ren {p : Int} {cs : List T3} (h : okL p cs) (f : Int → Int) (hi : ∀ a b, (0 ≤ a ∧ a < p) → (0 ≤ b ∧ b < p) → f a = f b → a = b) (φ : Int × Int → Int) : lin (cs.map (renT f)) φ = lin cs fun q => φ (min (f q.1) (f q.2), max (f q.1) (f q.2)) := by
  unfold lin
  rw [sm_map]
  refine sm_congr fun t ht => ?_
  obtain ⟨k1, k2, k3, k4⟩ := h t ht
  have g1 : good t = true := okE_good (h t ht)
  have g2 : good (renT f t) = true := by
    unfold good
    rw [Bool.and_eq_true, decide_eq_true_eq]
    have : ¬ f t.1 = f t.2.1 := fun e => k3 (hi _ _ k1 k2 e)
    refine ⟨by show (!decide (f t.1 = f t.2.1)) = true; simp [this], ?_⟩
    show 0 < t.2.2
    omega
  rw [if_pos g1, if_pos g2]
  show t.2.2 * φ (min (f t.1) (f t.2.1), max (f t.1) (f t.2.1)) = t.2.2 * φ (min (f (min t.1 t.2.1)) (f (max t.1 t.2.1)), max (f (min t.1 t.2.1)) (f (max t.1 t.2.1)))
  congr 2
  rcases Int.le_total t.1 t.2.1 with h | h
  · rw [Int.min_eq_left h, Int.max_eq_right h]
  · rw [Int.min_eq_right h, Int.max_eq_left h, Int.min_comm, Int.max_comm]
theorem ren_comb {p : Int} {cs : List T3} (h : okL p cs) (f : Int → Int) (hi : ∀ a b, (0 ≤ a ∧ a < p) → (0 ≤ b ∧ b < p) → f a = f b → a = b) : comb ((comb cs).map (renT f)) = comb (cs.map (renT f)) := comb_ext fun q => by
  rw [tot_lin, tot_lin, lin_ren (ok_comb h) f hi, lin_ren h f hi, comb_lin]
theorem ren_ren {cs : List T3} (f g : Int → Int) : (cs.map (renT f)).map (renT g) = cs.map (renT fun a => g (f a)) := by rw [List.map_map]; rfl
theorem ren_congr {p : Int} {cs : List T3} (h : okL p cs) {f g : Int → Int} (e : ∀ a, 0 ≤ a ∧ a < p → f a = g a) : cs.map (renT f) = cs.map (renT g) := List.map_congr_left fun t ht => by
  obtain ⟨k1, k2, _⟩ := h t ht
  show (f t.1, f t.2.1, t.2.2) = (g t.1, g t.2.1, t.2.2)
  rw [e _ k1, e _ k2]
theorem ren_id {p : Int} {cs : List T3} (h : okL p cs) {f : Int → Int} (e : ∀ a, 0 ≤ a ∧ a < p → f a = a) : cs.map (renT f) = cs := by
  rw [ren_congr h (g := fun a => a) e]
  exact List.map_id cs
/-! turned, mirrored -/
def rot (p s a : Int) : Int := (a + s) % p
def mir (p a : Int) : Int := p - 1 - a
theorem rot_in {p : Int} (hp : 0 < p) (s a : Int) : 0 ≤ rot p s a ∧ rot p s a < p := ⟨Int.emod_nonneg _ (by omega), Int.emod_lt_of_pos _ hp⟩
theorem rot_rot (p s r a : Int) : rot p r (rot p s a) = rot p (s + r) a := by
  unfold rot
  rw [Int.emod_add_emod, Int.add_assoc]
theorem rot_0 {p a : Int} (h : 0 ≤ a ∧ a < p) : rot p 0 a = a := by
  unfold rot
  rw [Int.add_zero]
  exact Int.emod_eq_of_lt h.1 h.2
theorem rot_inj {p : Int} (s a b : Int) (ha : 0 ≤ a ∧ a < p) (hb : 0 ≤ b ∧ b < p) (e : rot p s a = rot p s b) : a = b := by
  have h1 := rot_rot p s (-s) a
  have h2 := rot_rot p s (-s) b
  rw [e, h2, show s + -s = 0 by omega, rot_0 ha, rot_0 hb] at h1
  exact h1.symm
theorem mir_in {p a : Int} (h : 0 ≤ a ∧ a < p) : 0 ≤ mir p a ∧ mir p a < p := by unfold mir; omega
theorem mir_inj {p : Int} (a b : Int) (ha : 0 ≤ a ∧ a < p) (hb : 0 ≤ b ∧ b < p) (e : mir p a = mir p b) : a = b := by unfold mir at e; omega
theorem okL_pos {p : Int} {cs : List T3} (h : okL p cs) : ∀ t ∈ cs, 0 < p := fun t ht => by have := (h t ht).1; omega
def turnM (p s : Int) (cs : List T3) : List T3 := comb (cs.map (renT (rot p s)))
def mirM (p : Int) (cs : List T3) : List T3 := comb (cs.map (renT (mir p)))
theorem ok_rot {p s : Int} {cs : List T3} (h : okL p cs) : okL p (cs.map (renT (rot p s))) := fun t ht => by
  obtain ⟨u, hu, rfl⟩ := List.mem_map.mp ht
  have hp := okL_pos h u hu
  obtain ⟨k1, k2, k3, k4⟩ := h u hu
  exact ⟨rot_in hp _ _, rot_in hp _ _, fun e => k3 (rot_inj s _ _ k1 k2 e), k4⟩
theorem ok_mir {p : Int} {cs : List T3} (h : okL p cs) : okL p (cs.map (renT (mir p))) := ok_ren h (fun a ha => mir_in ha) mir_inj
theorem ok_turnM {p s : Int} {cs : List T3} (h : okL p cs) : okL p (turnM p s cs) := ok_comb (ok_rot h)
theorem ok_mirM {p : Int} {cs : List T3} (h : okL p cs) : okL p (mirM p cs) := ok_comb (ok_mir h)
theorem len_turnM (p s : Int) (cs : List T3) : (turnM p s cs).length ≤ cs.length := by
  have := len_comb (cs.map (renT (rot p s)))
  rw [len_ren] at this
  exact this
theorem len_mirM (p : Int) (cs : List T3) : (mirM p cs).length ≤ cs.length := by
  have := len_comb (cs.map (renT (mir p)))
  rw [len_ren] at this
  exact this
theorem turn_turn {p : Int} {cs : List T3} (h : okL p cs) (s r : Int) : turnM p r (turnM p s cs) = turnM p (s + r) cs := by
  unfold turnM
  rw [ren_comb (ok_rot h) _ fun a b ha hb e => rot_inj r a b ha hb e, ren_ren]
  congr 1
  exact ren_congr h fun a _ => rot_rot p s r a
theorem turn_0 {p : Int} {cs : List T3} (h : okL p cs) : turnM p 0 cs = comb cs := by
  unfold turnM
  rw [ren_id h fun a ha => rot_0 ha]
theorem turn_p {p : Int} {cs : List T3} (h : okL p cs) : turnM p p cs = comb cs := by
  unfold turnM
  rw [ren_id h fun a ha => by unfold rot; rw [Int.add_emod_right]; exact Int.emod_eq_of_lt ha.1 ha.2]
theorem mir_mir {p : Int} {cs : List T3} (h : okL p cs) : mirM p (mirM p cs) = comb cs := by
  unfold mirM
  rw [ren_comb (ok_mir h) _ mir_inj, ren_ren, ren_id h fun a _ => by unfold mir; omega]
theorem mir_turn {p : Int} {cs : List T3} (h : okL p cs) (s : Int) : mirM p (turnM p (-s) cs) = turnM p s (mirM p cs) := by
  unfold mirM turnM
  rw [ren_comb (ok_rot h) _ mir_inj, ren_comb (ok_mir h) _ fun a b ha hb e => rot_inj s a b ha hb e, ren_ren, ren_ren]
  congr 1
  refine ren_congr h fun a ha => ?_
  have hp : 0 < p := by omega
  unfold mir rot
  -- p - 1 - (a - s) % p = (p - 1 - a + s) % p
  have h1 := Int.emod_add_mul_ediv (a + -s) p
  have h2 := Int.emod_nonneg (a + -s) (by omega : p ≠ 0)
  have h3 := Int.emod_lt_of_pos (a + -s) hp
  have e : p - 1 - a + s = (p - 1 - (a + -s) % p) + p * (-((a + -s) / p)) := by rw [Int.mul_neg]; omega
  rw [e, Int.add_mul_emod_self_left]
  exact (Int.emod_eq_of_lt (by omega) (by omega)).symm
end Math

set_option Elab.async false
set_option linter.all false
set_option maxRecDepth 100000
set_option maxHeartbeats 1000000
namespace Math
open PySem FL Prg
open L2 (atI atI_nat)
theorem mturned_eq (p s : Int) (cs : List T3) (hp : 0 ≤ p) (h : okL p cs) (hl : cs.length < 1000000) : d_Lot_turned [lotD p cs, .int s] = .rt (lotD p (turnM p s cs)) := by
  have e1 := rturned_eq p s cs (okL_pos h) hl
  have hl2 : (comb (cs.map (renT (rot p s)))).length < 1000000 := by have := len_turnM p s cs; unfold turnM at this; omega
  have e2 := make_eq p _ (comb (cs.map (renT (rot p s)))) (.inl rfl) hp (ok_comb (ok_rot h)) hl2
  have hr : (renT fun a => (a + s) % p) = renT (rot p s) := rfl
  rw [hr] at e1
  simp -implicitDefEqProofs only [d_Lot_turned, b_d_Lot_turned, runF, eBinR, qFld, eMth, eMth0, eProp, lot_pure, lot_frz, lot_isO, eBad, sBad, gT, gCo, gNl, sAsg, sDput, eDget, eDget2, dicO, sPut, sPut2, sq_tup, sq_lst, sq_vec, sNx, sSeq, sIf, sRet, sSet, sEx, sBk, sCt, sFgt, fgt, eC, eV, eM, eBin, eUn, aNil, aCons, eTup, eLst, eFn, tB1, tAnd, tOr, tNot, eAnd, eOr, eNot, eIf, eCall, eCallK, pick, eQ, tQ1, qV, qC, qBin, qUn, qB, qAnd, qOr, qNot, qIf, qAndT, qOrT, qNotT, qChain, eChain, eLc, sFor, iSq, iRg1, iRg2, gN, itms, rst, eApp, D.frz, D.frzs, D.pure, D.pures, bind_ok, bind_ex, stmt_ok, stmt_ex, seq_nx, seq_rt, seq_ex, seq_bk, seq_ct, fgt_nx, fgt_bk, fgt_ct, fgt_rt, fgt_ex, out_nx, out_rt, out_ex, opt_some, optL_some, andB_tt, andB_ff, andB_some, orB_tt, orB_ff, orB_some, andX_tt, andX_ff, andX_some, orX_tt, orX_ff, orX_some, itAnd, itOr, itAndX, itOrX, Option.bind_some, List.map_cons, List.map_nil, List.length_cons, List.length_nil, List.cons_append, List.nil_append, List.getElem?_cons_zero, List.getElem?_cons_succ, List.getElem?_nil, List.set_cons_zero, List.set_cons_succ, List.replicate, addI_i, subD_i, ltD_i, leD_i, gtD_i, geD_i, eqS_int, neS_int, eqS_bl, neS_bl, max2_i, min2_i, maxL_i, minL_i, int1_i, intL_i, if_true, if_false, ite_true, ite_false, and_true, true_and, and_self, Bool.and_self, Bool.and_true, Bool.true_and, Bool.and_false, Bool.false_and, Bool.or_true, Bool.true_or, Bool.or_false, Bool.false_or, Bool.not_true, Bool.not_false, Nat.reduceAdd, Nat.reduceSub, Nat.reduceEqDiff, List.filterMap_cons, List.filterMap_nil, decide_true, decide_false, Bool.false_eq_true, reduceIte, Int.reduceAdd, Int.reduceSub, Int.reduceMul, Int.reduceNeg, Int.reduceLT, Int.reduceLE, Int.reduceEq, Int.reduceMod, Int.reduceDiv, Int.lt_irrefl, reduceCtorEq, D.frzs_int, D.pures_int, cap_0, cap_1, cap_2, cap_3, cap_4, cap_5, cap_6, cap_7, cap_8, cap_9, cap_10, cap_11, cap_12, cap_13, cap_14, cap_15, cap_16, cap_17, cap_18, cap_19, cap_20, cap_21, cap_22, cap_23, cap_24, cap_25, cap_26, cap_27, cap_28, cap_29, cap_30, cap_31, cap_32, cap_33, cap_34, cap_35, cap_36, cap_37, cap_38, cap_39, cap_40, lotD, pures_tD, frzs_tD, e1, e2, comb_comb, turnM]
theorem mmirrored_eq (p : Int) (cs : List T3) (hp : 0 ≤ p) (h : okL p cs) (hl : cs.length < 1000000) : d_Lot_mirrored [lotD p cs] = .rt (lotD p (mirM p cs)) := by
  have e1 := rmirror_eq p cs hl
  have hl2 : (comb (cs.map (renT (mir p)))).length < 1000000 := by have := len_mirM p cs; unfold mirM at this; omega
  have e2 := make_eq p _ (comb (cs.map (renT (mir p)))) (.inl rfl) hp (ok_comb (ok_mir h)) hl2
  have hr : (renT fun a => p - 1 - a) = renT (mir p) := rfl
  rw [hr] at e1
  simp -implicitDefEqProofs only [d_Lot_mirrored, b_d_Lot_mirrored, runF, eBinR, qFld, eMth, eMth0, eProp, lot_pure, lot_frz, lot_isO, eBad, sBad, gT, gCo, gNl, sAsg, sDput, eDget, eDget2, dicO, sPut, sPut2, sq_tup, sq_lst, sq_vec, sNx, sSeq, sIf, sRet, sSet, sEx, sBk, sCt, sFgt, fgt, eC, eV, eM, eBin, eUn, aNil, aCons, eTup, eLst, eFn, tB1, tAnd, tOr, tNot, eAnd, eOr, eNot, eIf, eCall, eCallK, pick, eQ, tQ1, qV, qC, qBin, qUn, qB, qAnd, qOr, qNot, qIf, qAndT, qOrT, qNotT, qChain, eChain, eLc, sFor, iSq, iRg1, iRg2, gN, itms, rst, eApp, D.frz, D.frzs, D.pure, D.pures, bind_ok, bind_ex, stmt_ok, stmt_ex, seq_nx, seq_rt, seq_ex, seq_bk, seq_ct, fgt_nx, fgt_bk, fgt_ct, fgt_rt, fgt_ex, out_nx, out_rt, out_ex, opt_some, optL_some, andB_tt, andB_ff, andB_some, orB_tt, orB_ff, orB_some, andX_tt, andX_ff, andX_some, orX_tt, orX_ff, orX_some, itAnd, itOr, itAndX, itOrX, Option.bind_some, List.map_cons, List.map_nil, List.length_cons, List.length_nil, List.cons_append, List.nil_append, List.getElem?_cons_zero, List.getElem?_cons_succ, List.getElem?_nil, List.set_cons_zero, List.set_cons_succ, List.replicate, addI_i, subD_i, ltD_i, leD_i, gtD_i, geD_i, eqS_int, neS_int, eqS_bl, neS_bl, max2_i, min2_i, maxL_i, minL_i, int1_i, intL_i, if_true, if_false, ite_true, ite_false, and_true, true_and, and_self, Bool.and_self, Bool.and_true, Bool.true_and, Bool.and_false, Bool.false_and, Bool.or_true, Bool.true_or, Bool.or_false, Bool.false_or, Bool.not_true, Bool.not_false, Nat.reduceAdd, Nat.reduceSub, Nat.reduceEqDiff, List.filterMap_cons, List.filterMap_nil, decide_true, decide_false, Bool.false_eq_true, reduceIte, Int.reduceAdd, Int.reduceSub, Int.reduceMul, Int.reduceNeg, Int.reduceLT, Int.reduceLE, Int.reduceEq, Int.reduceMod, Int.reduceDiv, Int.lt_irrefl, reduceCtorEq, D.frzs_int, D.pures_int, cap_0, cap_1, cap_2, cap_3, cap_4, cap_5, cap_6, cap_7, cap_8, cap_9, cap_10, cap_11, cap_12, cap_13, cap_14, cap_15, cap_16, cap_17, cap_18, cap_19, cap_20, cap_21, cap_22, cap_23, cap_24, cap_25, cap_26, cap_27, cap_28, cap_29, cap_30, cap_31, cap_32, cap_33, cap_34, cap_35, cap_36, cap_37, cap_38, cap_39, cap_40, lotD, pures_tD, frzs_tD, e1, e2, comb_comb, mirM]
/-! ### the law's own normal form -/
def pdP (p : Int × Int) : PyData := .tuple [.int p.1, .int p.2]
theorem pd_pair (i j : Int) : pdO (.tup [.int i, .int j]) = some (.tuple [.int i, .int j]) := rfl
theorem pds_pairs : ∀ ks : List (Int × Int), pdsO (ks.map mkP) = some (ks.map pdP)
  | [] => rfl
  | k :: ks => by
    rw [List.map_cons]
    unfold pdsO
    rw [show pdO (mkP k) = some (pdP k) from rfl, Option.bind_some, pds_pairs ks]
    rfl
theorem eqv_pair (p q : Int × Int) : PyData.eqv (pdP p) (pdP q) = decide (p = q) := by
  show (p.1 == q.1 && (p.2 == q.2 && true)) = _
  rw [Bool.and_true, Bool.eq_iff_iff, Bool.and_eq_true, decide_eq_true_eq]
  simp [Prod.ext_iff]
theorem any_pairs (ks : List (Int × Int)) (p : Int × Int) : ((ks.map pdP).any fun z => PyData.eqv z (pdP p)) = decide (p ∈ ks) := by
  rw [List.any_map, Bool.eq_iff_iff, List.any_eq_true, decide_eq_true_eq]
  constructor
  · rintro ⟨q, hq, e⟩
    have e' : PyData.eqv (pdP q) (pdP p) = true := e
    rw [eqv_pair, decide_eq_true_eq] at e'
    exact e' ▸ hq
  · intro h
    exact ⟨p, h, by show PyData.eqv (pdP p) (pdP p) = true; rw [eqv_pair]; simp⟩
theorem shaped_pair (p : Int × Int) : SeqAt.shaped (pdP p) = true := rfl
theorem canAll_pairs : ∀ ks : List (Int × Int), PyData.canLayAll0 (ks.map pdP) = true
  | [] => rfl
  | k :: ks => by
    rw [List.map_cons, PyData.canLayAll0, canAll_pairs ks]
    rfl
theorem depth_pairs : ∀ ks : List (Int × Int), PyData.depthAll (ks.map pdP) ≤ 1
  | [] => by decide
  | k :: ks => by
    rw [List.map_cons, PyData.depthAll]
    have := depth_pairs ks
    have e : PyData.depth (pdP k) = 1 := rfl
    omega
theorem shaped_pairs (ks : List (Int × Int)) : SeqAt.shaped (.list (ks.map pdP)) = true := by
  unfold SeqAt.shaped
  rw [Bool.and_eq_true, decide_eq_true_eq]
  refine ⟨?_, ?_⟩
  · show PyData.canLay0 (.list _) = true
    rw [PyData.canLay0]
    exact canAll_pairs ks
  · rw [PyData.depth]
    have := depth_pairs ks
    omega
theorem nin_pairs (i j : Int) (ks : List (Int × Int)) : dNin (.tup [.int i, .int j]) (.vec (ks.map mkP)) = some (.bl (!decide ((i, j) ∈ ks))) := by
  have e2 : pdO (.vec (ks.map mkP)) = some (.list (ks.map pdP)) := by
    unfold pdO
    rw [pds_pairs]
    rfl
  unfold dNin
  rw [pd_pair, e2]
  show (if deepOk (pdP (i, j)) (.list (ks.map pdP)) then some (D.bl (!(ks.map pdP).any fun z => PyData.eqv z (pdP (i, j)))) else none) = _
  have hy : deepOk (pdP (i, j)) (.list (ks.map pdP)) = true := yes_of ⟨shaped_pair _, shaped_pairs ks⟩
  rw [if_pos hy, any_pairs]
end Math

set_option Elab.async false
set_option linter.all false
set_option maxRecDepth 100000
set_option maxHeartbeats 1000000
namespace Math
open PySem FL Prg
open L2 (atI atI_nat)
theorem atI_0 {α : Type} (a b c : α) : atI [a, b, c] 0 = some a := rfl
theorem atI_1 {α : Type} (a b c : α) : atI [a, b, c] 1 = some b := rfl
theorem atI_2 {α : Type} (a b c : α) : atI [a, b, c] 2 = some c := rfl
theorem ix_0 (t : T3) : ixD (tD t) (.int 0) = some (.int t.1) := rfl
theorem ix_1 (t : T3) : ixD (tD t) (.int 1) = some (.int t.2.1) := rfl
theorem ix_2 (t : T3) : ixD (tD t) (.int 2) = some (.int t.2.2) := rfl
theorem px_0 (t : Int × Int) : ixD (mkP t) (.int 0) = some (.int t.1) := rfl
theorem px_1 (t : Int × Int) : ixD (mkP t) (.int 1) = some (.int t.2) := rfl
def envN (d : D) (ks : List (Int × Int)) : Rho := [some d, some (.vec (ks.map mkP)), none, none, none, none, none, none]
theorem norm_step (d : D) (ks : List (Int × Int)) (t : T3) (hn : 0 < t.2.2) (hl : ks.length < 1000000) :
    (sFgt [2, 4, 3] (sSeq (sSet 3 (eQ (qBin min2 (qBin ixD (qV 2) (qC (.int 0))) (qBin ixD (qV 2) (qC (.int 1)))))) (sSeq (sSet 4 (eQ (qBin max2 (qBin ixD (qV 2) (qC (.int 0))) (qBin ixD (qV 2) (qC (.int 1)))))) (sIf (tAnd (tQ1 (qB (qBin gtD (qBin ixD (qV 2) (qC (.int 2))) (qC (.int 0))))) (tB1 (eBinR dNin (eTup (aCons (eV 3) (aCons (eV 4) aNil))) (qV 1)))) (sEx (eApp 1 (eTup (aCons (eV 3) (aCons (eV 4) aNil))))) sNx))))
      [some d, some (.vec (ks.map mkP)), some (tD t), none, none, none, none, none] = .nx (envN d (addK ks (prT t))) := by
  have h1 : decide (0 < t.2.2) = true := decide_eq_true hn
  have hc : cap (ks.map mkP).length = true := cap_of (by rw [List.length_map]; omega)
  by_cases h : prT t ∈ ks
  · have e : addK ks (prT t) = ks := if_pos h
    have h' : (min t.1 t.2.1, max t.1 t.2.1) ∈ ks := h
    simp -implicitDefEqProofs only [runF, eBinR, qFld, eMth, eMth0, eProp, lot_pure, lot_frz, lot_isO, eBad, sBad, gT, gCo, gNl, sAsg, sDput, eDget, eDget2, dicO, sPut, sPut2, sq_tup, sq_lst, sq_vec, sNx, sSeq, sIf, sRet, sSet, sEx, sBk, sCt, sFgt, fgt, eC, eV, eM, eBin, eUn, aNil, aCons, eTup, eLst, eFn, tB1, tAnd, tOr, tNot, eAnd, eOr, eNot, eIf, eCall, eCallK, pick, eQ, tQ1, qV, qC, qBin, qUn, qB, qAnd, qOr, qNot, qIf, qAndT, qOrT, qNotT, qChain, eChain, eLc, sFor, iSq, iRg1, iRg2, gN, itms, rst, eApp, D.frz, D.frzs, D.pure, D.pures, bind_ok, bind_ex, stmt_ok, stmt_ex, seq_nx, seq_rt, seq_ex, seq_bk, seq_ct, fgt_nx, fgt_bk, fgt_ct, fgt_rt, fgt_ex, out_nx, out_rt, out_ex, opt_some, optL_some, andB_tt, andB_ff, andB_some, orB_tt, orB_ff, orB_some, andX_tt, andX_ff, andX_some, orX_tt, orX_ff, orX_some, itAnd, itOr, itAndX, itOrX, Option.bind_some, List.map_cons, List.map_nil, List.length_cons, List.length_nil, List.cons_append, List.nil_append, List.getElem?_cons_zero, List.getElem?_cons_succ, List.getElem?_nil, List.set_cons_zero, List.set_cons_succ, List.replicate, addI_i, subD_i, ltD_i, leD_i, gtD_i, geD_i, eqS_int, neS_int, eqS_bl, neS_bl, max2_i, min2_i, maxL_i, minL_i, int1_i, intL_i, if_true, if_false, ite_true, ite_false, and_true, true_and, and_self, Bool.and_self, Bool.and_true, Bool.true_and, Bool.and_false, Bool.false_and, Bool.or_true, Bool.true_or, Bool.or_false, Bool.false_or, Bool.not_true, Bool.not_false, Nat.reduceAdd, Nat.reduceSub, Nat.reduceEqDiff, List.filterMap_cons, List.filterMap_nil, decide_true, decide_false, Bool.false_eq_true, reduceIte, Int.reduceAdd, Int.reduceSub, Int.reduceMul, Int.reduceNeg, Int.reduceLT, Int.reduceLE, Int.reduceEq, Int.reduceMod, Int.reduceDiv, Int.lt_irrefl, reduceCtorEq, D.frzs_int, D.pures_int, cap_0, cap_1, cap_2, cap_3, cap_4, cap_5, cap_6, cap_7, cap_8, cap_9, cap_10, cap_11, cap_12, cap_13, cap_14, cap_15, cap_16, cap_17, cap_18, cap_19, cap_20, cap_21, cap_22, cap_23, cap_24, cap_25, cap_26, cap_27, cap_28, cap_29, cap_30, cap_31, cap_32, cap_33, cap_34, cap_35, cap_36, cap_37, cap_38, cap_39, cap_40, ix_0, ix_1, ix_2, h1, nin_pairs, h', e, envN]
  · have e : addK ks (prT t) = ks ++ [prT t] := if_neg h
    have h' : ¬ (min t.1 t.2.1, max t.1 t.2.1) ∈ ks := h
    simp -implicitDefEqProofs only [runF, eBinR, qFld, eMth, eMth0, eProp, lot_pure, lot_frz, lot_isO, eBad, sBad, gT, gCo, gNl, sAsg, sDput, eDget, eDget2, dicO, sPut, sPut2, sq_tup, sq_lst, sq_vec, sNx, sSeq, sIf, sRet, sSet, sEx, sBk, sCt, sFgt, fgt, eC, eV, eM, eBin, eUn, aNil, aCons, eTup, eLst, eFn, tB1, tAnd, tOr, tNot, eAnd, eOr, eNot, eIf, eCall, eCallK, pick, eQ, tQ1, qV, qC, qBin, qUn, qB, qAnd, qOr, qNot, qIf, qAndT, qOrT, qNotT, qChain, eChain, eLc, sFor, iSq, iRg1, iRg2, gN, itms, rst, eApp, D.frz, D.frzs, D.pure, D.pures, bind_ok, bind_ex, stmt_ok, stmt_ex, seq_nx, seq_rt, seq_ex, seq_bk, seq_ct, fgt_nx, fgt_bk, fgt_ct, fgt_rt, fgt_ex, out_nx, out_rt, out_ex, opt_some, optL_some, andB_tt, andB_ff, andB_some, orB_tt, orB_ff, orB_some, andX_tt, andX_ff, andX_some, orX_tt, orX_ff, orX_some, itAnd, itOr, itAndX, itOrX, Option.bind_some, List.map_cons, List.map_nil, List.length_cons, List.length_nil, List.cons_append, List.nil_append, List.getElem?_cons_zero, List.getElem?_cons_succ, List.getElem?_nil, List.set_cons_zero, List.set_cons_succ, List.replicate, addI_i, subD_i, ltD_i, leD_i, gtD_i, geD_i, eqS_int, neS_int, eqS_bl, neS_bl, max2_i, min2_i, maxL_i, minL_i, int1_i, intL_i, if_true, if_false, ite_true, ite_false, and_true, true_and, and_self, Bool.and_self, Bool.and_true, Bool.true_and, Bool.and_false, Bool.false_and, Bool.or_true, Bool.true_or, Bool.or_false, Bool.false_or, Bool.not_true, Bool.not_false, Nat.reduceAdd, Nat.reduceSub, Nat.reduceEqDiff, List.filterMap_cons, List.filterMap_nil, decide_true, decide_false, Bool.false_eq_true, reduceIte, Int.reduceAdd, Int.reduceSub, Int.reduceMul, Int.reduceNeg, Int.reduceLT, Int.reduceLE, Int.reduceEq, Int.reduceMod, Int.reduceDiv, Int.lt_irrefl, reduceCtorEq, D.frzs_int, D.pures_int, cap_0, cap_1, cap_2, cap_3, cap_4, cap_5, cap_6, cap_7, cap_8, cap_9, cap_10, cap_11, cap_12, cap_13, cap_14, cap_15, cap_16, cap_17, cap_18, cap_19, cap_20, cap_21, cap_22, cap_23, cap_24, cap_25, cap_26, cap_27, cap_28, cap_29, cap_30, cap_31, cap_32, cap_33, cap_34, cap_35, cap_36, cap_37, cap_38, cap_39, cap_40, ix_0, ix_1, ix_2, h1, nin_pairs, h', e, envN, hc, List.map_append]
    rfl
theorem met_of_ok {p : Int} (pre : List T3) (t : T3) (h : okE p t) : met (pre ++ [t]) = addK (met pre) (prT t) := by
  rw [met_snoc, if_pos (okE_good h)]
theorem norm_loop1 (p : Int) (d : D) (ts : List T3) (h : okL p ts) (hl : ts.length < 1000000) : loop (gN 2) (sFgt [2, 4, 3] (sSeq (sSet 3 (eQ (qBin min2 (qBin ixD (qV 2) (qC (.int 0))) (qBin ixD (qV 2) (qC (.int 1)))))) (sSeq (sSet 4 (eQ (qBin max2 (qBin ixD (qV 2) (qC (.int 0))) (qBin ixD (qV 2) (qC (.int 1)))))) (sIf (tAnd (tQ1 (qB (qBin gtD (qBin ixD (qV 2) (qC (.int 2))) (qC (.int 0))))) (tB1 (eBinR dNin (eTup (aCons (eV 3) (aCons (eV 4) aNil))) (qV 1)))) (sEx (eApp 1 (eTup (aCons (eV 3) (aCons (eV 4) aNil))))) sNx))))
    (ts.map tD) [some d, some (.vec []), none, none, none, none, none, none] = .nx (envN d (met ts)) := by
  refine loop_ind (f := tD) (fun xs ρ => ∃ pre, pre ++ xs = ts ∧ ρ = envN d (met pre)) (fun r => r = .nx (envN d (met ts))) ?_ ?_ ts _ ⟨[], rfl, rfl⟩
  · rintro ρ ⟨pre, h1, rfl⟩
    rw [List.append_nil] at h1
    rw [h1]
  · rintro t xs ρ ⟨pre, h1, rfl⟩
    have ht : t ∈ ts := by rw [← h1]; simp
    have hm := len_met pre
    rw [← h1, List.length_append] at hl
    refine ⟨_, rfl, .inl ⟨_, .inl (norm_step d (met pre) t (by have := (h t ht).2.2.2; omega) (by omega)), pre ++ [t], by rw [List.append_assoc]; exact h1, by rw [met_of_ok pre t (h t ht)]⟩⟩
def envS (d v r : D) (p : Int × Int) (m : Int) : Rho := [some d, some v, none, none, none, some r, some (mkP p), some (.int m)]
theorem norm_in (d v r : D) (q : Int) (p : Int × Int) (ts : List T3) (h : okL q ts) : loop (gN 2) (sFgt [2] (sIf (tQ1 (qAndT (qB (qBin eqS (qBin min2 (qBin ixD (qV 2) (qC (.int 0))) (qBin ixD (qV 2) (qC (.int 1)))) (qBin ixD (qV 6) (qC (.int 0))))) (qB (qBin eqS (qBin max2 (qBin ixD (qV 2) (qC (.int 0))) (qBin ixD (qV 2) (qC (.int 1)))) (qBin ixD (qV 6) (qC (.int 1))))))) (sSet 7 (eQ (qBin addI (qV 7) (qBin ixD (qV 2) (qC (.int 2)))))) sNx))
    (ts.map tD) (envS d v r p 0) = .nx (envS d v r p (tot ts p)) := by
  refine loop_ind (f := tD) (fun xs ρ => ∃ pre, pre ++ xs = ts ∧ ρ = envS d v r p (tot pre p)) (fun z => z = .nx (envS d v r p (tot ts p))) ?_ ?_ ts _ ⟨[], rfl, rfl⟩
  · rintro ρ ⟨pre, h1, rfl⟩
    rw [List.append_nil] at h1
    rw [h1]
  · rintro t xs ρ ⟨pre, h1, rfl⟩
    have ht : t ∈ ts := by rw [← h1]; simp
    refine ⟨_, rfl, .inl ⟨envS d v r p (tot (pre ++ [t]) p), .inl ?_, pre ++ [t], by rw [List.append_assoc]; exact h1, rfl⟩⟩
    have hg := okE_good (h t ht)
    rw [tot_snoc]
    by_cases e1 : min t.1 t.2.1 = p.1
    · by_cases e2 : max t.1 t.2.1 = p.2
      · have e : wt t p = t.2.2 := by unfold wt; rw [if_pos ⟨hg, Prod.ext e1 e2⟩]
        simp -implicitDefEqProofs only [envS, runF, eBinR, qFld, eMth, eMth0, eProp, lot_pure, lot_frz, lot_isO, eBad, sBad, gT, gCo, gNl, sAsg, sDput, eDget, eDget2, dicO, sPut, sPut2, sq_tup, sq_lst, sq_vec, sNx, sSeq, sIf, sRet, sSet, sEx, sBk, sCt, sFgt, fgt, eC, eV, eM, eBin, eUn, aNil, aCons, eTup, eLst, eFn, tB1, tAnd, tOr, tNot, eAnd, eOr, eNot, eIf, eCall, eCallK, pick, eQ, tQ1, qV, qC, qBin, qUn, qB, qAnd, qOr, qNot, qIf, qAndT, qOrT, qNotT, qChain, eChain, eLc, sFor, iSq, iRg1, iRg2, gN, itms, rst, eApp, D.frz, D.frzs, D.pure, D.pures, bind_ok, bind_ex, stmt_ok, stmt_ex, seq_nx, seq_rt, seq_ex, seq_bk, seq_ct, fgt_nx, fgt_bk, fgt_ct, fgt_rt, fgt_ex, out_nx, out_rt, out_ex, opt_some, optL_some, andB_tt, andB_ff, andB_some, orB_tt, orB_ff, orB_some, andX_tt, andX_ff, andX_some, orX_tt, orX_ff, orX_some, itAnd, itOr, itAndX, itOrX, Option.bind_some, List.map_cons, List.map_nil, List.length_cons, List.length_nil, List.cons_append, List.nil_append, List.getElem?_cons_zero, List.getElem?_cons_succ, List.getElem?_nil, List.set_cons_zero, List.set_cons_succ, List.replicate, addI_i, subD_i, ltD_i, leD_i, gtD_i, geD_i, eqS_int, neS_int, eqS_bl, neS_bl, max2_i, min2_i, maxL_i, minL_i, int1_i, intL_i, if_true, if_false, ite_true, ite_false, and_true, true_and, and_self, Bool.and_self, Bool.and_true, Bool.true_and, Bool.and_false, Bool.false_and, Bool.or_true, Bool.true_or, Bool.or_false, Bool.false_or, Bool.not_true, Bool.not_false, Nat.reduceAdd, Nat.reduceSub, Nat.reduceEqDiff, List.filterMap_cons, List.filterMap_nil, decide_true, decide_false, Bool.false_eq_true, reduceIte, Int.reduceAdd, Int.reduceSub, Int.reduceMul, Int.reduceNeg, Int.reduceLT, Int.reduceLE, Int.reduceEq, Int.reduceMod, Int.reduceDiv, Int.lt_irrefl, reduceCtorEq, D.frzs_int, D.pures_int, cap_0, cap_1, cap_2, cap_3, cap_4, cap_5, cap_6, cap_7, cap_8, cap_9, cap_10, cap_11, cap_12, cap_13, cap_14, cap_15, cap_16, cap_17, cap_18, cap_19, cap_20, cap_21, cap_22, cap_23, cap_24, cap_25, cap_26, cap_27, cap_28, cap_29, cap_30, cap_31, cap_32, cap_33, cap_34, cap_35, cap_36, cap_37, cap_38, cap_39, cap_40, ix_0, ix_1, ix_2, px_0, px_1, e1, e2, e]
      · have e : wt t p = 0 := by unfold wt; rw [if_neg (fun z => e2 (congrArg (·.2) z.2))]
        simp -implicitDefEqProofs only [envS, runF, eBinR, qFld, eMth, eMth0, eProp, lot_pure, lot_frz, lot_isO, eBad, sBad, gT, gCo, gNl, sAsg, sDput, eDget, eDget2, dicO, sPut, sPut2, sq_tup, sq_lst, sq_vec, sNx, sSeq, sIf, sRet, sSet, sEx, sBk, sCt, sFgt, fgt, eC, eV, eM, eBin, eUn, aNil, aCons, eTup, eLst, eFn, tB1, tAnd, tOr, tNot, eAnd, eOr, eNot, eIf, eCall, eCallK, pick, eQ, tQ1, qV, qC, qBin, qUn, qB, qAnd, qOr, qNot, qIf, qAndT, qOrT, qNotT, qChain, eChain, eLc, sFor, iSq, iRg1, iRg2, gN, itms, rst, eApp, D.frz, D.frzs, D.pure, D.pures, bind_ok, bind_ex, stmt_ok, stmt_ex, seq_nx, seq_rt, seq_ex, seq_bk, seq_ct, fgt_nx, fgt_bk, fgt_ct, fgt_rt, fgt_ex, out_nx, out_rt, out_ex, opt_some, optL_some, andB_tt, andB_ff, andB_some, orB_tt, orB_ff, orB_some, andX_tt, andX_ff, andX_some, orX_tt, orX_ff, orX_some, itAnd, itOr, itAndX, itOrX, Option.bind_some, List.map_cons, List.map_nil, List.length_cons, List.length_nil, List.cons_append, List.nil_append, List.getElem?_cons_zero, List.getElem?_cons_succ, List.getElem?_nil, List.set_cons_zero, List.set_cons_succ, List.replicate, addI_i, subD_i, ltD_i, leD_i, gtD_i, geD_i, eqS_int, neS_int, eqS_bl, neS_bl, max2_i, min2_i, maxL_i, minL_i, int1_i, intL_i, if_true, if_false, ite_true, ite_false, and_true, true_and, and_self, Bool.and_self, Bool.and_true, Bool.true_and, Bool.and_false, Bool.false_and, Bool.or_true, Bool.true_or, Bool.or_false, Bool.false_or, Bool.not_true, Bool.not_false, Nat.reduceAdd, Nat.reduceSub, Nat.reduceEqDiff, List.filterMap_cons, List.filterMap_nil, decide_true, decide_false, Bool.false_eq_true, reduceIte, Int.reduceAdd, Int.reduceSub, Int.reduceMul, Int.reduceNeg, Int.reduceLT, Int.reduceLE, Int.reduceEq, Int.reduceMod, Int.reduceDiv, Int.lt_irrefl, reduceCtorEq, D.frzs_int, D.pures_int, cap_0, cap_1, cap_2, cap_3, cap_4, cap_5, cap_6, cap_7, cap_8, cap_9, cap_10, cap_11, cap_12, cap_13, cap_14, cap_15, cap_16, cap_17, cap_18, cap_19, cap_20, cap_21, cap_22, cap_23, cap_24, cap_25, cap_26, cap_27, cap_28, cap_29, cap_30, cap_31, cap_32, cap_33, cap_34, cap_35, cap_36, cap_37, cap_38, cap_39, cap_40, ix_0, ix_1, ix_2, px_0, px_1, e1, e2, e, Int.add_zero]
    · have e : wt t p = 0 := by unfold wt; rw [if_neg (fun z => e1 (congrArg (·.1) z.2))]
      simp -implicitDefEqProofs only [envS, runF, eBinR, qFld, eMth, eMth0, eProp, lot_pure, lot_frz, lot_isO, eBad, sBad, gT, gCo, gNl, sAsg, sDput, eDget, eDget2, dicO, sPut, sPut2, sq_tup, sq_lst, sq_vec, sNx, sSeq, sIf, sRet, sSet, sEx, sBk, sCt, sFgt, fgt, eC, eV, eM, eBin, eUn, aNil, aCons, eTup, eLst, eFn, tB1, tAnd, tOr, tNot, eAnd, eOr, eNot, eIf, eCall, eCallK, pick, eQ, tQ1, qV, qC, qBin, qUn, qB, qAnd, qOr, qNot, qIf, qAndT, qOrT, qNotT, qChain, eChain, eLc, sFor, iSq, iRg1, iRg2, gN, itms, rst, eApp, D.frz, D.frzs, D.pure, D.pures, bind_ok, bind_ex, stmt_ok, stmt_ex, seq_nx, seq_rt, seq_ex, seq_bk, seq_ct, fgt_nx, fgt_bk, fgt_ct, fgt_rt, fgt_ex, out_nx, out_rt, out_ex, opt_some, optL_some, andB_tt, andB_ff, andB_some, orB_tt, orB_ff, orB_some, andX_tt, andX_ff, andX_some, orX_tt, orX_ff, orX_some, itAnd, itOr, itAndX, itOrX, Option.bind_some, List.map_cons, List.map_nil, List.length_cons, List.length_nil, List.cons_append, List.nil_append, List.getElem?_cons_zero, List.getElem?_cons_succ, List.getElem?_nil, List.set_cons_zero, List.set_cons_succ, List.replicate, addI_i, subD_i, ltD_i, leD_i, gtD_i, geD_i, eqS_int, neS_int, eqS_bl, neS_bl, max2_i, min2_i, maxL_i, minL_i, int1_i, intL_i, if_true, if_false, ite_true, ite_false, and_true, true_and, and_self, Bool.and_self, Bool.and_true, Bool.true_and, Bool.and_false, Bool.false_and, Bool.or_true, Bool.true_or, Bool.or_false, Bool.false_or, Bool.not_true, Bool.not_false, Nat.reduceAdd, Nat.reduceSub, Nat.reduceEqDiff, List.filterMap_cons, List.filterMap_nil, decide_true, decide_false, Bool.false_eq_true, reduceIte, Int.reduceAdd, Int.reduceSub, Int.reduceMul, Int.reduceNeg, Int.reduceLT, Int.reduceLE, Int.reduceEq, Int.reduceMod, Int.reduceDiv, Int.lt_irrefl, reduceCtorEq, D.frzs_int, D.pures_int, cap_0, cap_1, cap_2, cap_3, cap_4, cap_5, cap_6, cap_7, cap_8, cap_9, cap_10, cap_11, cap_12, cap_13, cap_14, cap_15, cap_16, cap_17, cap_18, cap_19, cap_20, cap_21, cap_22, cap_23, cap_24, cap_25, cap_26, cap_27, cap_28, cap_29, cap_30, cap_31, cap_32, cap_33, cap_34, cap_35, cap_36, cap_37, cap_38, cap_39, cap_40, ix_0, ix_1, ix_2, px_0, px_1, e1, e, Int.add_zero]
end Math

set_option Elab.async false
set_option linter.all false
set_option maxRecDepth 100000
set_option maxHeartbeats 1000000
namespace Math
open PySem FL Prg
open L2 (atI atI_nat)
theorem seq_frz {d : D} {ts : List T3} (h : SeqD d (ts.map tD)) : d.frz = d := by rcases h with rfl | rfl <;> simp only [D.frz, frzs_tD]
theorem seq_itms {d : D} {ts : List T3} (h : SeqD d (ts.map tD)) : itms d = some (ts.map tD) := by rcases h with rfl | rfl <;> rfl
def envR (d v : D) (acc : List T3) : Rho := [some d, some v, none, none, none, some (.vec (acc.map tD)), none, none]
theorem norm_step2 (d v : D) (q : Int) (ts acc : List T3) (p : Int × Int) (hd : SeqD d (ts.map tD)) (h : okL q ts) (hl : acc.length < 1000000) :
    (sFgt [2, 7, 6] (sSeq (sSet 7 (eQ (qC (.int 0)))) (sSeq (sFgt [2] (sFor (iSq (eV 0)) (gN 2) (sFgt [2] (sIf (tQ1 (qAndT (qB (qBin eqS (qBin min2 (qBin ixD (qV 2) (qC (.int 0))) (qBin ixD (qV 2) (qC (.int 1)))) (qBin ixD (qV 6) (qC (.int 0))))) (qB (qBin eqS (qBin max2 (qBin ixD (qV 2) (qC (.int 0))) (qBin ixD (qV 2) (qC (.int 1)))) (qBin ixD (qV 6) (qC (.int 1))))))) (sSet 7 (eQ (qBin addI (qV 7) (qBin ixD (qV 2) (qC (.int 2)))))) sNx)))) (sEx (eApp 5 (eTup (aCons (eQ (qBin ixD (qV 6) (qC (.int 0)))) (aCons (eQ (qBin ixD (qV 6) (qC (.int 1)))) (aCons (eV 7) aNil)))))))))
      [some d, some v, none, none, none, some (.vec (acc.map tD)), some (mkP p), none] = .nx (envR d v (acc ++ [(p.1, p.2, tot ts p)])) := by
  have hc : cap (acc.map tD).length = true := cap_of (by rw [List.length_map]; omega)
  have hf := seq_frz hd
  have e := norm_in d v (.vec (acc.map tD)) q p ts h
  simp only [envS] at e
  have hi : (optL (itms d.frz.frz) : Rho → RX (List D)) = fun ρ => .ok (ts.map tD) ρ := by
    funext ρ
    rw [hf, hf, seq_itms hd]; rfl
  have h0 : (iSq (eV 0) : Rho → RX (List D)) [some d, some v, none, none, none, some (.vec (acc.map tD)), some (mkP p), some (.int 0)] = .ok (ts.map tD) [some d, some v, none, none, none, some (.vec (acc.map tD)), some (mkP p), some (.int 0)] := by
    show (RX.ok d.frz [some d.frz, some v, none, none, none, some (.vec (acc.map tD)), some (mkP p), some (.int 0)]).bind _ = _
    rw [hf]
    show optL (itms d.frz) _ = _
    rw [hf, seq_itms hd]; rfl
  have h1 : (sFor (iSq (eV 0)) (gN 2) (sFgt [2] (sIf (tQ1 (qAndT (qB (qBin eqS (qBin min2 (qBin ixD (qV 2) (qC (.int 0))) (qBin ixD (qV 2) (qC (.int 1)))) (qBin ixD (qV 6) (qC (.int 0))))) (qB (qBin eqS (qBin max2 (qBin ixD (qV 2) (qC (.int 0))) (qBin ixD (qV 2) (qC (.int 1)))) (qBin ixD (qV 6) (qC (.int 1))))))) (sSet 7 (eQ (qBin addI (qV 7) (qBin ixD (qV 2) (qC (.int 2)))))) sNx))) [some d, some v, none, none, none, some (.vec (acc.map tD)), some (mkP p), some (.int 0)] = .nx [some d, some v, none, none, none, some (.vec (acc.map tD)), some (mkP p), some (.int (tot ts p))] := by
    unfold sFor
    rw [h0]
    exact e
  generalize (sFor (iSq (eV 0)) (gN 2) (sFgt [2] (sIf (tQ1 (qAndT (qB (qBin eqS (qBin min2 (qBin ixD (qV 2) (qC (.int 0))) (qBin ixD (qV 2) (qC (.int 1)))) (qBin ixD (qV 6) (qC (.int 0))))) (qB (qBin eqS (qBin max2 (qBin ixD (qV 2) (qC (.int 0))) (qBin ixD (qV 2) (qC (.int 1)))) (qBin ixD (qV 6) (qC (.int 1))))))) (sSet 7 (eQ (qBin addI (qV 7) (qBin ixD (qV 2) (qC (.int 2)))))) sNx))) = lp at h1 ⊢
  simp -implicitDefEqProofs only [runF, eBinR, qFld, eMth, eMth0, eProp, lot_pure, lot_frz, lot_isO, eBad, sBad, gT, gCo, gNl, sAsg, sDput, eDget, eDget2, dicO, sPut, sPut2, sq_tup, sq_lst, sq_vec, sNx, sSeq, sIf, sRet, sSet, sEx, sBk, sCt, sFgt, fgt, eC, eV, eM, eBin, eUn, aNil, aCons, eTup, eLst, eFn, tB1, tAnd, tOr, tNot, eAnd, eOr, eNot, eIf, eCall, eCallK, pick, eQ, tQ1, qV, qC, qBin, qUn, qB, qAnd, qOr, qNot, qIf, qAndT, qOrT, qNotT, qChain, eChain, eLc, sFor, iSq, iRg1, iRg2, gN, itms, rst, eApp, D.frz, D.frzs, D.pure, D.pures, bind_ok, bind_ex, stmt_ok, stmt_ex, seq_nx, seq_rt, seq_ex, seq_bk, seq_ct, fgt_nx, fgt_bk, fgt_ct, fgt_rt, fgt_ex, out_nx, out_rt, out_ex, opt_some, optL_some, andB_tt, andB_ff, andB_some, orB_tt, orB_ff, orB_some, andX_tt, andX_ff, andX_some, orX_tt, orX_ff, orX_some, itAnd, itOr, itAndX, itOrX, Option.bind_some, List.map_cons, List.map_nil, List.length_cons, List.length_nil, List.cons_append, List.nil_append, List.getElem?_cons_zero, List.getElem?_cons_succ, List.getElem?_nil, List.set_cons_zero, List.set_cons_succ, List.replicate, addI_i, subD_i, ltD_i, leD_i, gtD_i, geD_i, eqS_int, neS_int, eqS_bl, neS_bl, max2_i, min2_i, maxL_i, minL_i, int1_i, intL_i, if_true, if_false, ite_true, ite_false, and_true, true_and, and_self, Bool.and_self, Bool.and_true, Bool.true_and, Bool.and_false, Bool.false_and, Bool.or_true, Bool.true_or, Bool.or_false, Bool.false_or, Bool.not_true, Bool.not_false, Nat.reduceAdd, Nat.reduceSub, Nat.reduceEqDiff, List.filterMap_cons, List.filterMap_nil, decide_true, decide_false, Bool.false_eq_true, reduceIte, Int.reduceAdd, Int.reduceSub, Int.reduceMul, Int.reduceNeg, Int.reduceLT, Int.reduceLE, Int.reduceEq, Int.reduceMod, Int.reduceDiv, Int.lt_irrefl, reduceCtorEq, D.frzs_int, D.pures_int, cap_0, cap_1, cap_2, cap_3, cap_4, cap_5, cap_6, cap_7, cap_8, cap_9, cap_10, cap_11, cap_12, cap_13, cap_14, cap_15, cap_16, cap_17, cap_18, cap_19, cap_20, cap_21, cap_22, cap_23, cap_24, cap_25, cap_26, cap_27, cap_28, cap_29, cap_30, cap_31, cap_32, cap_33, cap_34, cap_35, cap_36, cap_37, cap_38, cap_39, cap_40, h1, px_0, px_1, hc, envR, List.map_append, tD]
theorem norm_eq (q : Int) (d : D) (ts : List T3) (hd : SeqD d (ts.map tD)) (h : okL q ts) (hl : ts.length < 1000000) : d_law_norm [d] = .rt (.tup ((comb ts).map tD)) := by
  have hf := seq_frz hd
  have hm := len_met ts
  have h0 : ∀ r : Rho, (iSq (eV 0) : Rho → RX (List D)) (some d :: r) = .ok (ts.map tD) (some d :: r) := fun r => by
    show (RX.ok d.frz (some d.frz :: r)).bind _ = _
    rw [hf]
    show optL (itms d.frz) _ = _
    rw [hf, seq_itms hd]; rfl
  have hs : (iSq (eFn soL (aCons (eV 1) aNil)) : Rho → RX (List D)) (envN d (met ts)) = .ok ((sortP (met ts)).map mkP) [some d, some (.lst ((met ts).map mkP)), none, none, none, some (.vec []), none, none] → True := fun _ => trivial
  have l2 : ∀ v : D, loop (gN 6) (sFgt [2, 7, 6] (sSeq (sSet 7 (eQ (qC (.int 0)))) (sSeq (sFgt [2] (sFor (iSq (eV 0)) (gN 2) (sFgt [2] (sIf (tQ1 (qAndT (qB (qBin eqS (qBin min2 (qBin ixD (qV 2) (qC (.int 0))) (qBin ixD (qV 2) (qC (.int 1)))) (qBin ixD (qV 6) (qC (.int 0))))) (qB (qBin eqS (qBin max2 (qBin ixD (qV 2) (qC (.int 0))) (qBin ixD (qV 2) (qC (.int 1)))) (qBin ixD (qV 6) (qC (.int 1))))))) (sSet 7 (eQ (qBin addI (qV 7) (qBin ixD (qV 2) (qC (.int 2)))))) sNx)))) (sEx (eApp 5 (eTup (aCons (eQ (qBin ixD (qV 6) (qC (.int 0)))) (aCons (eQ (qBin ixD (qV 6) (qC (.int 1)))) (aCons (eV 7) aNil)))))))))
      ((sortP (met ts)).map mkP) [some d, some v, none, none, none, some (.vec []), none, none] = .nx (envR d v (comb ts)) := fun v => by
    refine loop_ind (f := mkP) (fun xs ρ => ∃ pre, pre ++ xs = sortP (met ts) ∧ ρ = envR d v (pre.map fun p => (p.1, p.2, tot ts p))) (fun z => z = .nx (envR d v (comb ts))) ?_ ?_ _ _ ⟨[], rfl, rfl⟩
    · rintro ρ ⟨pre, h1, rfl⟩
      rw [List.append_nil] at h1
      rw [h1]; rfl
    · rintro p xs ρ ⟨pre, h1, rfl⟩
      have hp : pre.length ≤ ts.length := by
        have := len_sortP (met ts)
        rw [← h1, List.length_append] at this
        omega
      refine ⟨_, rfl, .inl ⟨_, .inl (norm_step2 d v q ts _ p hd h (by rw [List.length_map]; omega)), pre ++ [p], by rw [List.append_assoc]; exact h1, by rw [List.map_append]; rfl⟩⟩
  have l1 := norm_loop1 q d ts h hl
  unfold d_law_norm b_d_law_norm
  generalize hA : (sFgt [2, 7, 6] (sSeq (sSet 7 (eQ (qC (.int 0)))) _)) = bA at l2 ⊢
  generalize hB : (sFgt [2, 4, 3] (sSeq (sSet 3 (eQ (qBin min2 (qBin ixD (qV 2) (qC (.int 0))) (qBin ixD (qV 2) (qC (.int 1)))))) _)) = bB at l1 ⊢
  clear hA hB hs
  have i0 : (iSq (eV 0) : Rho → RX (List D)) [some d, some (.vec []), none, none, none, none, none, none] = .ok (ts.map tD) [some d, some (.vec []), none, none, none, none, none, none] := h0 _
  generalize hI : (iSq (eV 0) : Rho → RX (List D)) = i at i0 ⊢
  clear hI
  simp -implicitDefEqProofs only [runF, eBinR, qFld, eMth, eMth0, eProp, lot_pure, lot_frz, lot_isO, eBad, sBad, gT, gCo, gNl, sAsg, sDput, eDget, eDget2, dicO, sPut, sPut2, sq_tup, sq_lst, sq_vec, sNx, sSeq, sIf, sRet, sSet, sEx, sBk, sCt, sFgt, fgt, eC, eV, eM, eBin, eUn, aNil, aCons, eTup, eLst, eFn, tB1, tAnd, tOr, tNot, eAnd, eOr, eNot, eIf, eCall, eCallK, pick, eQ, tQ1, qV, qC, qBin, qUn, qB, qAnd, qOr, qNot, qIf, qAndT, qOrT, qNotT, qChain, eChain, eLc, sFor, iSq, iRg1, iRg2, gN, itms, rst, eApp, D.frz, D.frzs, D.pure, D.pures, bind_ok, bind_ex, stmt_ok, stmt_ex, seq_nx, seq_rt, seq_ex, seq_bk, seq_ct, fgt_nx, fgt_bk, fgt_ct, fgt_rt, fgt_ex, out_nx, out_rt, out_ex, opt_some, optL_some, andB_tt, andB_ff, andB_some, orB_tt, orB_ff, orB_some, andX_tt, andX_ff, andX_some, orX_tt, orX_ff, orX_some, itAnd, itOr, itAndX, itOrX, Option.bind_some, List.map_cons, List.map_nil, List.length_cons, List.length_nil, List.cons_append, List.nil_append, List.getElem?_cons_zero, List.getElem?_cons_succ, List.getElem?_nil, List.set_cons_zero, List.set_cons_succ, List.replicate, addI_i, subD_i, ltD_i, leD_i, gtD_i, geD_i, eqS_int, neS_int, eqS_bl, neS_bl, max2_i, min2_i, maxL_i, minL_i, int1_i, intL_i, if_true, if_false, ite_true, ite_false, and_true, true_and, and_self, Bool.and_self, Bool.and_true, Bool.true_and, Bool.and_false, Bool.false_and, Bool.or_true, Bool.true_or, Bool.or_false, Bool.false_or, Bool.not_true, Bool.not_false, Nat.reduceAdd, Nat.reduceSub, Nat.reduceEqDiff, List.filterMap_cons, List.filterMap_nil, decide_true, decide_false, Bool.false_eq_true, reduceIte, Int.reduceAdd, Int.reduceSub, Int.reduceMul, Int.reduceNeg, Int.reduceLT, Int.reduceLE, Int.reduceEq, Int.reduceMod, Int.reduceDiv, Int.lt_irrefl, reduceCtorEq, D.frzs_int, D.pures_int, cap_0, cap_1, cap_2, cap_3, cap_4, cap_5, cap_6, cap_7, cap_8, cap_9, cap_10, cap_11, cap_12, cap_13, cap_14, cap_15, cap_16, cap_17, cap_18, cap_19, cap_20, cap_21, cap_22, cap_23, cap_24, cap_25, cap_26, cap_27, cap_28, cap_29, cap_30, cap_31, cap_32, cap_33, cap_34, cap_35, cap_36, cap_37, cap_38, cap_39, cap_40, i0, l1, envN, frzs_mkP, soL_lst, l2, envR, frzs_tD, tupL_sq (sq_lst _)]
end Math

set_option Elab.async false
set_option linter.all false
set_option maxRecDepth 100000
set_option maxHeartbeats 1000000
namespace Math
open PySem FL Prg
open L2 (atI atI_nat)
theorem fuel_succ (g : (List D → RF) → List D → RF) (n : Nat) : fuel g (n + 1) = g (fuel g n) := by rw [fuel]
theorem isN_int (i : Int) : isN (.int i) .non = some (.bl false) := rfl
theorem isN_tup (i : List D) : isN (.tup i) .non = some (.bl false) := rfl
theorem isi_bool_tup (ds : List D) : isiD (tabTy "bool") (.tup ds) = some (.bl false) := rfl
theorem isi_int_tup (ds : List D) : isiD (tabTy "int") (.tup ds) = some (.bl false) := rfl
theorem isi_str_tup (ds : List D) : isiD (tabTy "str") (.tup ds) = some (.bl false) := rfl
theorem isi_list_tup (ds : List D) : isiD (tabTy "list") (.tup ds) = some (.bl false) := rfl
theorem gsame_int (f : List D → RF) (a b : Int) : g_d_law_same f [.int a, .int b] = .rt (.bl (decide (a = b))) := by
  simp -implicitDefEqProofs only [g_d_law_same, b_d_law_same, runF, eBinR, qFld, eMth, eMth0, eProp, lot_pure, lot_frz, lot_isO, eBad, sBad, gT, gCo, gNl, sAsg, sDput, eDget, eDget2, dicO, sPut, sPut2, sq_tup, sq_lst, sq_vec, sNx, sSeq, sIf, sRet, sSet, sEx, sBk, sCt, sFgt, fgt, eC, eV, eM, eBin, eUn, aNil, aCons, eTup, eLst, eFn, tB1, tAnd, tOr, tNot, eAnd, eOr, eNot, eIf, eCall, eCallK, pick, eQ, tQ1, qV, qC, qBin, qUn, qB, qAnd, qOr, qNot, qIf, qAndT, qOrT, qNotT, qChain, eChain, eLc, sFor, iSq, iRg1, iRg2, gN, itms, rst, eApp, D.frz, D.frzs, D.pure, D.pures, bind_ok, bind_ex, stmt_ok, stmt_ex, seq_nx, seq_rt, seq_ex, seq_bk, seq_ct, fgt_nx, fgt_bk, fgt_ct, fgt_rt, fgt_ex, out_nx, out_rt, out_ex, opt_some, optL_some, andB_tt, andB_ff, andB_some, orB_tt, orB_ff, orB_some, andX_tt, andX_ff, andX_some, orX_tt, orX_ff, orX_some, itAnd, itOr, itAndX, itOrX, Option.bind_some, List.map_cons, List.map_nil, List.length_cons, List.length_nil, List.cons_append, List.nil_append, List.getElem?_cons_zero, List.getElem?_cons_succ, List.getElem?_nil, List.set_cons_zero, List.set_cons_succ, List.replicate, addI_i, subD_i, ltD_i, leD_i, gtD_i, geD_i, eqS_int, neS_int, eqS_bl, neS_bl, max2_i, min2_i, maxL_i, minL_i, int1_i, intL_i, if_true, if_false, ite_true, ite_false, and_true, true_and, and_self, Bool.and_self, Bool.and_true, Bool.true_and, Bool.and_false, Bool.false_and, Bool.or_true, Bool.true_or, Bool.or_false, Bool.false_or, Bool.not_true, Bool.not_false, Nat.reduceAdd, Nat.reduceSub, Nat.reduceEqDiff, List.filterMap_cons, List.filterMap_nil, decide_true, decide_false, Bool.false_eq_true, reduceIte, Int.reduceAdd, Int.reduceSub, Int.reduceMul, Int.reduceNeg, Int.reduceLT, Int.reduceLE, Int.reduceEq, Int.reduceMod, Int.reduceDiv, Int.lt_irrefl, reduceCtorEq, D.frzs_int, D.pures_int, cap_0, cap_1, cap_2, cap_3, cap_4, cap_5, cap_6, cap_7, cap_8, cap_9, cap_10, cap_11, cap_12, cap_13, cap_14, cap_15, cap_16, cap_17, cap_18, cap_19, cap_20, cap_21, cap_22, cap_23, cap_24, cap_25, cap_26, cap_27, cap_28, cap_29, cap_30, cap_31, cap_32, cap_33, cap_34, cap_35, cap_36, cap_37, cap_38, cap_39, cap_40, isN_int, isi_bool_int, isi_int_int, lwhole_eq]
theorem pures_mem : ∀ {l : List D}, D.pures l = true → ∀ x ∈ l, x.pure = true
  | [], _, x, hx => by cases hx
  | y :: l, h, x, hx => by
    rw [D.pures, Bool.and_eq_true] at h
    rcases List.mem_cons.mp hx with e | hx
    · rw [e]; exact h.1
    · exact pures_mem h.2 x hx
theorem gsame_tup (f : List D → RF) (xs : List D) (hp : D.pures xs = true) (hl : xs.length < 1000000) (h : ∀ x ∈ xs, f [x, x] = .rt (.bl true)) : g_d_law_same f [.tup xs, .tup xs] = .rt (.bl true) := by
  have hb : bnd (xs.length : Int) = true := bnd_of ⟨by omega, by omega⟩
  have hf : D.frzs xs = xs := D.frzs_of_pure hp
  have lp : loop (gN 2) (sFgt [2] (sIf (tNot (tB1 (eCall f [] (aCons (eQ (qBin ixD (qV 0) (qV 2))) (aCons (eQ (qBin ixD (qV 1) (qV 2))) aNil))))) (sRet (eQ (qC (.bl false)))) sNx)) (((List.range xs.length).map fun (k : Nat) => (0 : Int) + k).map D.int) [some (.tup xs), some (.tup xs), none] = .nx [some (.tup xs), some (.tup xs), none] := by
    refine loop_same D.int _ _ fun x hx => ⟨_, rfl, ?_⟩
    obtain ⟨k, hk, rfl⟩ := List.mem_map.mp hx
    have hk' : k < xs.length := List.mem_range.mp hk
    have a1 : atI xs (0 + (k : Int)) = some (xs[k]) := by
      rw [Int.zero_add]; exact atI_nat (List.getElem?_eq_getElem hk')
    have hm : xs[k] ∈ xs := List.getElem_mem hk'
    have hq : (xs[k]).pure = true := pures_mem hp _ hm
    have hs := h _ hm
    have hfx : (xs[k]).frz = xs[k] := D.frz_of_pure hq
    generalize xs[k] = y at a1 hq hs hfx
    simp -implicitDefEqProofs only [runF, eBinR, qFld, eMth, eMth0, eProp, lot_pure, lot_frz, lot_isO, eBad, sBad, gT, gCo, gNl, sAsg, sDput, eDget, eDget2, dicO, sPut, sPut2, sq_tup, sq_lst, sq_vec, sNx, sSeq, sIf, sRet, sSet, sEx, sBk, sCt, sFgt, fgt, eC, eV, eM, eBin, eUn, aNil, aCons, eTup, eLst, eFn, tB1, tAnd, tOr, tNot, eAnd, eOr, eNot, eIf, eCall, eCallK, pick, eQ, tQ1, qV, qC, qBin, qUn, qB, qAnd, qOr, qNot, qIf, qAndT, qOrT, qNotT, qChain, eChain, eLc, sFor, iSq, iRg1, iRg2, gN, itms, rst, eApp, D.frz, D.frzs, D.pure, D.pures, bind_ok, bind_ex, stmt_ok, stmt_ex, seq_nx, seq_rt, seq_ex, seq_bk, seq_ct, fgt_nx, fgt_bk, fgt_ct, fgt_rt, fgt_ex, out_nx, out_rt, out_ex, opt_some, optL_some, andB_tt, andB_ff, andB_some, orB_tt, orB_ff, orB_some, andX_tt, andX_ff, andX_some, orX_tt, orX_ff, orX_some, itAnd, itOr, itAndX, itOrX, Option.bind_some, List.map_cons, List.map_nil, List.length_cons, List.length_nil, List.cons_append, List.nil_append, List.getElem?_cons_zero, List.getElem?_cons_succ, List.getElem?_nil, List.set_cons_zero, List.set_cons_succ, List.replicate, addI_i, subD_i, ltD_i, leD_i, gtD_i, geD_i, eqS_int, neS_int, eqS_bl, neS_bl, max2_i, min2_i, maxL_i, minL_i, int1_i, intL_i, if_true, if_false, ite_true, ite_false, and_true, true_and, and_self, Bool.and_self, Bool.and_true, Bool.true_and, Bool.and_false, Bool.false_and, Bool.or_true, Bool.true_or, Bool.or_false, Bool.false_or, Bool.not_true, Bool.not_false, Nat.reduceAdd, Nat.reduceSub, Nat.reduceEqDiff, List.filterMap_cons, List.filterMap_nil, decide_true, decide_false, Bool.false_eq_true, reduceIte, Int.reduceAdd, Int.reduceSub, Int.reduceMul, Int.reduceNeg, Int.reduceLT, Int.reduceLE, Int.reduceEq, Int.reduceMod, Int.reduceDiv, Int.lt_irrefl, reduceCtorEq, D.frzs_int, D.pures_int, cap_0, cap_1, cap_2, cap_3, cap_4, cap_5, cap_6, cap_7, cap_8, cap_9, cap_10, cap_11, cap_12, cap_13, cap_14, cap_15, cap_16, cap_17, cap_18, cap_19, cap_20, cap_21, cap_22, cap_23, cap_24, cap_25, cap_26, cap_27, cap_28, cap_29, cap_30, cap_31, cap_32, cap_33, cap_34, cap_35, cap_36, cap_37, cap_38, cap_39, cap_40, ixD_sq (sq_tup xs) a1, hq, hfx, hs]
  unfold g_d_law_same b_d_law_same
  generalize (sFgt [2] (sIf (tNot (tB1 (eCall f [] (aCons (eQ (qBin ixD (qV 0) (qV 2))) (aCons (eQ (qBin ixD (qV 1) (qV 2))) aNil))))) (sRet (eQ (qC (.bl false)))) sNx)) = bb at lp ⊢
  simp -implicitDefEqProofs only [runF, eBinR, qFld, eMth, eMth0, eProp, lot_pure, lot_frz, lot_isO, eBad, sBad, gT, gCo, gNl, sAsg, sDput, eDget, eDget2, dicO, sPut, sPut2, sq_tup, sq_lst, sq_vec, sNx, sSeq, sIf, sRet, sSet, sEx, sBk, sCt, sFgt, fgt, eC, eV, eM, eBin, eUn, aNil, aCons, eTup, eLst, eFn, tB1, tAnd, tOr, tNot, eAnd, eOr, eNot, eIf, eCall, eCallK, pick, eQ, tQ1, qV, qC, qBin, qUn, qB, qAnd, qOr, qNot, qIf, qAndT, qOrT, qNotT, qChain, eChain, eLc, sFor, iSq, iRg1, iRg2, gN, itms, rst, eApp, D.frz, D.frzs, D.pure, D.pures, bind_ok, bind_ex, stmt_ok, stmt_ex, seq_nx, seq_rt, seq_ex, seq_bk, seq_ct, fgt_nx, fgt_bk, fgt_ct, fgt_rt, fgt_ex, out_nx, out_rt, out_ex, opt_some, optL_some, andB_tt, andB_ff, andB_some, orB_tt, orB_ff, orB_some, andX_tt, andX_ff, andX_some, orX_tt, orX_ff, orX_some, itAnd, itOr, itAndX, itOrX, Option.bind_some, List.map_cons, List.map_nil, List.length_cons, List.length_nil, List.cons_append, List.nil_append, List.getElem?_cons_zero, List.getElem?_cons_succ, List.getElem?_nil, List.set_cons_zero, List.set_cons_succ, List.replicate, addI_i, subD_i, ltD_i, leD_i, gtD_i, geD_i, eqS_int, neS_int, eqS_bl, neS_bl, max2_i, min2_i, maxL_i, minL_i, int1_i, intL_i, if_true, if_false, ite_true, ite_false, and_true, true_and, and_self, Bool.and_self, Bool.and_true, Bool.true_and, Bool.and_false, Bool.false_and, Bool.or_true, Bool.true_or, Bool.or_false, Bool.false_or, Bool.not_true, Bool.not_false, Nat.reduceAdd, Nat.reduceSub, Nat.reduceEqDiff, List.filterMap_cons, List.filterMap_nil, decide_true, decide_false, Bool.false_eq_true, reduceIte, Int.reduceAdd, Int.reduceSub, Int.reduceMul, Int.reduceNeg, Int.reduceLT, Int.reduceLE, Int.reduceEq, Int.reduceMod, Int.reduceDiv, Int.lt_irrefl, reduceCtorEq, D.frzs_int, D.pures_int, cap_0, cap_1, cap_2, cap_3, cap_4, cap_5, cap_6, cap_7, cap_8, cap_9, cap_10, cap_11, cap_12, cap_13, cap_14, cap_15, cap_16, cap_17, cap_18, cap_19, cap_20, cap_21, cap_22, cap_23, cap_24, cap_25, cap_26, cap_27, cap_28, cap_29, cap_30, cap_31, cap_32, cap_33, cap_34, cap_35, cap_36, cap_37, cap_38, cap_39, cap_40, isN_tup, isi_bool_tup, isi_int_tup, isi_str_tup, isi_list_tup, isi_tuple_tup, len1_sq (sq_tup xs), hb, rng_eq, Int.toNat_natCast, lp]
theorem same_int (n : Nat) (a b : Int) : fuel g_d_law_same (n + 1) [.int a, .int b] = .rt (.bl (decide (a = b))) := by
  rw [fuel_succ]; exact gsame_int _ a b
theorem same_tup (n : Nat) (xs : List D) (hp : D.pures xs = true) (hl : xs.length < 1000000) (h : ∀ x ∈ xs, fuel g_d_law_same n [x, x] = .rt (.bl true)) : fuel g_d_law_same (n + 1) [.tup xs, .tup xs] = .rt (.bl true) := by
  rw [fuel_succ]; exact gsame_tup _ xs hp hl h
theorem same_tD (n : Nat) (t : T3) : fuel g_d_law_same (n + 2) [tD t, tD t] = .rt (.bl true) := by
  refine same_tup (n + 1) _ rfl (by show 3 < 1000000; decide) fun x hx => ?_
  simp only [List.mem_cons, List.not_mem_nil, or_false] at hx
  rcases hx with rfl | rfl | rfl <;> (rw [same_int]; simp)
theorem same_i (a b : Int) : d_law_same [.int a, .int b] = .rt (.bl (decide (a = b))) := same_int 3 a b
theorem same_cs (cs : List T3) (hl : cs.length < 1000000) : d_law_same [.tup (cs.map tD), .tup (cs.map tD)] = .rt (.bl true) := by
  refine same_tup 3 _ (pures_tD cs) (by rw [List.length_map]; exact hl) fun x hx => ?_
  obtain ⟨t, _, rfl⟩ := List.mem_map.mp hx
  exact same_tD 1 t
theorem isC_lot (p : Int) (cs : List T3) : isiD (tabC 0) (lotD p cs) = some (.bl true) := rfl
theorem lotis_eq (p : Int) (cs : List T3) (hl : cs.length < 1000000) : d_law_lot_is [lotD p cs, .int p, .tup (cs.map tD)] = .rt (.bl true) := by
  have e := isC_lot p cs
  unfold lotD at e ⊢
  simp -implicitDefEqProofs only [d_law_lot_is, b_d_law_lot_is, runF, eBinR, qFld, eMth, eMth0, eProp, lot_pure, lot_frz, lot_isO, eBad, sBad, gT, gCo, gNl, sAsg, sDput, eDget, eDget2, dicO, sPut, sPut2, sq_tup, sq_lst, sq_vec, sNx, sSeq, sIf, sRet, sSet, sEx, sBk, sCt, sFgt, fgt, eC, eV, eM, eBin, eUn, aNil, aCons, eTup, eLst, eFn, tB1, tAnd, tOr, tNot, eAnd, eOr, eNot, eIf, eCall, eCallK, pick, eQ, tQ1, qV, qC, qBin, qUn, qB, qAnd, qOr, qNot, qIf, qAndT, qOrT, qNotT, qChain, eChain, eLc, sFor, iSq, iRg1, iRg2, gN, itms, rst, eApp, D.frz, D.frzs, D.pure, D.pures, bind_ok, bind_ex, stmt_ok, stmt_ex, seq_nx, seq_rt, seq_ex, seq_bk, seq_ct, fgt_nx, fgt_bk, fgt_ct, fgt_rt, fgt_ex, out_nx, out_rt, out_ex, opt_some, optL_some, andB_tt, andB_ff, andB_some, orB_tt, orB_ff, orB_some, andX_tt, andX_ff, andX_some, orX_tt, orX_ff, orX_some, itAnd, itOr, itAndX, itOrX, Option.bind_some, List.map_cons, List.map_nil, List.length_cons, List.length_nil, List.cons_append, List.nil_append, List.getElem?_cons_zero, List.getElem?_cons_succ, List.getElem?_nil, List.set_cons_zero, List.set_cons_succ, List.replicate, addI_i, subD_i, ltD_i, leD_i, gtD_i, geD_i, eqS_int, neS_int, eqS_bl, neS_bl, max2_i, min2_i, maxL_i, minL_i, int1_i, intL_i, if_true, if_false, ite_true, ite_false, and_true, true_and, and_self, Bool.and_self, Bool.and_true, Bool.true_and, Bool.and_false, Bool.false_and, Bool.or_true, Bool.true_or, Bool.or_false, Bool.false_or, Bool.not_true, Bool.not_false, Nat.reduceAdd, Nat.reduceSub, Nat.reduceEqDiff, List.filterMap_cons, List.filterMap_nil, decide_true, decide_false, Bool.false_eq_true, reduceIte, Int.reduceAdd, Int.reduceSub, Int.reduceMul, Int.reduceNeg, Int.reduceLT, Int.reduceLE, Int.reduceEq, Int.reduceMod, Int.reduceDiv, Int.lt_irrefl, reduceCtorEq, D.frzs_int, D.pures_int, cap_0, cap_1, cap_2, cap_3, cap_4, cap_5, cap_6, cap_7, cap_8, cap_9, cap_10, cap_11, cap_12, cap_13, cap_14, cap_15, cap_16, cap_17, cap_18, cap_19, cap_20, cap_21, cap_22, cap_23, cap_24, cap_25, cap_26, cap_27, cap_28, cap_29, cap_30, cap_31, cap_32, cap_33, cap_34, cap_35, cap_36, cap_37, cap_38, cap_39, cap_40, e, pures_tD, frzs_tD, same_i, same_cs cs hl]
theorem counts_eq (p : Int) (cs : List T3) (hp : 0 ≤ p ∧ p ≤ 1000) (hl : cs.length < 1000000) : d_law_counts [lotD p cs, .int p, .tup (cs.map tD)] = .rt (.bl true) := by
  have hb : bnd p = true := bnd_of ⟨by omega, by omega⟩
  have c1 : ∀ (l s : D) (i : Int), lcl [4] (gN 4) (tB1 (eBin inD (eV 3) (eLst (aCons (eQ (qBin ixD (qV 4) (qC (.int 0)))) (aCons (eQ (qBin ixD (qV 4) (qC (.int 1)))) aNil))))) (eQ (qBin ixD (qV 4) (qC (.int 2)))) (cs.map tD) [] [some l, some (.int p), some s, some (.int i), none] = .ok ([] ++ (cs.filter fun t => decide (i = t.1 ∨ i = t.2.1)).map fun t => .int t.2.2) [some l, some (.int p), some s, some (.int i), none] := fun l s i =>
    lcl_map tD _ _ cs [] (by simp only [List.length_nil]; omega) fun t ht => by
      have e : sq (.vec [.int t.1, .int t.2.1]) = some ([t.1, t.2.1].map .int) := rfl
      refine ⟨_, [some l, some (.int p), some s, some (.int i), some (tD t)], rfl, ?_, fun _ => ⟨[some l, some (.int p), some s, some (.int i), some (tD t)], ?_, rfl⟩, fun _ => rfl⟩
      · simp -implicitDefEqProofs only [runF, eBinR, qFld, eMth, eMth0, eProp, lot_pure, lot_frz, lot_isO, eBad, sBad, gT, gCo, gNl, sAsg, sDput, eDget, eDget2, dicO, sPut, sPut2, sq_tup, sq_lst, sq_vec, sNx, sSeq, sIf, sRet, sSet, sEx, sBk, sCt, sFgt, fgt, eC, eV, eM, eBin, eUn, aNil, aCons, eTup, eLst, eFn, tB1, tAnd, tOr, tNot, eAnd, eOr, eNot, eIf, eCall, eCallK, pick, eQ, tQ1, qV, qC, qBin, qUn, qB, qAnd, qOr, qNot, qIf, qAndT, qOrT, qNotT, qChain, eChain, eLc, sFor, iSq, iRg1, iRg2, gN, itms, rst, eApp, D.frz, D.frzs, D.pure, D.pures, bind_ok, bind_ex, stmt_ok, stmt_ex, seq_nx, seq_rt, seq_ex, seq_bk, seq_ct, fgt_nx, fgt_bk, fgt_ct, fgt_rt, fgt_ex, out_nx, out_rt, out_ex, opt_some, optL_some, andB_tt, andB_ff, andB_some, orB_tt, orB_ff, orB_some, andX_tt, andX_ff, andX_some, orX_tt, orX_ff, orX_some, itAnd, itOr, itAndX, itOrX, Option.bind_some, List.map_cons, List.map_nil, List.length_cons, List.length_nil, List.cons_append, List.nil_append, List.getElem?_cons_zero, List.getElem?_cons_succ, List.getElem?_nil, List.set_cons_zero, List.set_cons_succ, List.replicate, addI_i, subD_i, ltD_i, leD_i, gtD_i, geD_i, eqS_int, neS_int, eqS_bl, neS_bl, max2_i, min2_i, maxL_i, minL_i, int1_i, intL_i, if_true, if_false, ite_true, ite_false, and_true, true_and, and_self, Bool.and_self, Bool.and_true, Bool.true_and, Bool.and_false, Bool.false_and, Bool.or_true, Bool.true_or, Bool.or_false, Bool.false_or, Bool.not_true, Bool.not_false, Nat.reduceAdd, Nat.reduceSub, Nat.reduceEqDiff, List.filterMap_cons, List.filterMap_nil, decide_true, decide_false, Bool.false_eq_true, reduceIte, Int.reduceAdd, Int.reduceSub, Int.reduceMul, Int.reduceNeg, Int.reduceLT, Int.reduceLE, Int.reduceEq, Int.reduceMod, Int.reduceDiv, Int.lt_irrefl, reduceCtorEq, D.frzs_int, D.pures_int, cap_0, cap_1, cap_2, cap_3, cap_4, cap_5, cap_6, cap_7, cap_8, cap_9, cap_10, cap_11, cap_12, cap_13, cap_14, cap_15, cap_16, cap_17, cap_18, cap_19, cap_20, cap_21, cap_22, cap_23, cap_24, cap_25, cap_26, cap_27, cap_28, cap_29, cap_30, cap_31, cap_32, cap_33, cap_34, cap_35, cap_36, cap_37, cap_38, cap_39, cap_40, ix_0, ix_1, inD_ints e, mem2]
      · simp -implicitDefEqProofs only [runF, eBinR, qFld, eMth, eMth0, eProp, lot_pure, lot_frz, lot_isO, eBad, sBad, gT, gCo, gNl, sAsg, sDput, eDget, eDget2, dicO, sPut, sPut2, sq_tup, sq_lst, sq_vec, sNx, sSeq, sIf, sRet, sSet, sEx, sBk, sCt, sFgt, fgt, eC, eV, eM, eBin, eUn, aNil, aCons, eTup, eLst, eFn, tB1, tAnd, tOr, tNot, eAnd, eOr, eNot, eIf, eCall, eCallK, pick, eQ, tQ1, qV, qC, qBin, qUn, qB, qAnd, qOr, qNot, qIf, qAndT, qOrT, qNotT, qChain, eChain, eLc, sFor, iSq, iRg1, iRg2, gN, itms, rst, eApp, D.frz, D.frzs, D.pure, D.pures, bind_ok, bind_ex, stmt_ok, stmt_ex, seq_nx, seq_rt, seq_ex, seq_bk, seq_ct, fgt_nx, fgt_bk, fgt_ct, fgt_rt, fgt_ex, out_nx, out_rt, out_ex, opt_some, optL_some, andB_tt, andB_ff, andB_some, orB_tt, orB_ff, orB_some, andX_tt, andX_ff, andX_some, orX_tt, orX_ff, orX_some, itAnd, itOr, itAndX, itOrX, Option.bind_some, List.map_cons, List.map_nil, List.length_cons, List.length_nil, List.cons_append, List.nil_append, List.getElem?_cons_zero, List.getElem?_cons_succ, List.getElem?_nil, List.set_cons_zero, List.set_cons_succ, List.replicate, addI_i, subD_i, ltD_i, leD_i, gtD_i, geD_i, eqS_int, neS_int, eqS_bl, neS_bl, max2_i, min2_i, maxL_i, minL_i, int1_i, intL_i, if_true, if_false, ite_true, ite_false, and_true, true_and, and_self, Bool.and_self, Bool.and_true, Bool.true_and, Bool.and_false, Bool.false_and, Bool.or_true, Bool.true_or, Bool.or_false, Bool.false_or, Bool.not_true, Bool.not_false, Nat.reduceAdd, Nat.reduceSub, Nat.reduceEqDiff, List.filterMap_cons, List.filterMap_nil, decide_true, decide_false, Bool.false_eq_true, reduceIte, Int.reduceAdd, Int.reduceSub, Int.reduceMul, Int.reduceNeg, Int.reduceLT, Int.reduceLE, Int.reduceEq, Int.reduceMod, Int.reduceDiv, Int.lt_irrefl, reduceCtorEq, D.frzs_int, D.pures_int, cap_0, cap_1, cap_2, cap_3, cap_4, cap_5, cap_6, cap_7, cap_8, cap_9, cap_10, cap_11, cap_12, cap_13, cap_14, cap_15, cap_16, cap_17, cap_18, cap_19, cap_20, cap_21, cap_22, cap_23, cap_24, cap_25, cap_26, cap_27, cap_28, cap_29, cap_30, cap_31, cap_32, cap_33, cap_34, cap_35, cap_36, cap_37, cap_38, cap_39, cap_40, ix_2]
  have c2 : ∀ (l s : D), lcl [4] (gN 4) tT (eQ (qBin ixD (qV 4) (qC (.int 2)))) (cs.map tD) [] [some l, some (.int p), some s, none, none] = .ok (cs.map fun t => .int t.2.2) [some l, some (.int p), some s, none, none] := fun l s =>
    lcl_all tD _ cs (by omega) fun t ht => by
      refine ⟨_, [some l, some (.int p), some s, none, some (tD t)], rfl, ?_, rfl⟩
      simp -implicitDefEqProofs only [runF, eBinR, qFld, eMth, eMth0, eProp, lot_pure, lot_frz, lot_isO, eBad, sBad, gT, gCo, gNl, sAsg, sDput, eDget, eDget2, dicO, sPut, sPut2, sq_tup, sq_lst, sq_vec, sNx, sSeq, sIf, sRet, sSet, sEx, sBk, sCt, sFgt, fgt, eC, eV, eM, eBin, eUn, aNil, aCons, eTup, eLst, eFn, tB1, tAnd, tOr, tNot, eAnd, eOr, eNot, eIf, eCall, eCallK, pick, eQ, tQ1, qV, qC, qBin, qUn, qB, qAnd, qOr, qNot, qIf, qAndT, qOrT, qNotT, qChain, eChain, eLc, sFor, iSq, iRg1, iRg2, gN, itms, rst, eApp, D.frz, D.frzs, D.pure, D.pures, bind_ok, bind_ex, stmt_ok, stmt_ex, seq_nx, seq_rt, seq_ex, seq_bk, seq_ct, fgt_nx, fgt_bk, fgt_ct, fgt_rt, fgt_ex, out_nx, out_rt, out_ex, opt_some, optL_some, andB_tt, andB_ff, andB_some, orB_tt, orB_ff, orB_some, andX_tt, andX_ff, andX_some, orX_tt, orX_ff, orX_some, itAnd, itOr, itAndX, itOrX, Option.bind_some, List.map_cons, List.map_nil, List.length_cons, List.length_nil, List.cons_append, List.nil_append, List.getElem?_cons_zero, List.getElem?_cons_succ, List.getElem?_nil, List.set_cons_zero, List.set_cons_succ, List.replicate, addI_i, subD_i, ltD_i, leD_i, gtD_i, geD_i, eqS_int, neS_int, eqS_bl, neS_bl, max2_i, min2_i, maxL_i, minL_i, int1_i, intL_i, if_true, if_false, ite_true, ite_false, and_true, true_and, and_self, Bool.and_self, Bool.and_true, Bool.true_and, Bool.and_false, Bool.false_and, Bool.or_true, Bool.true_or, Bool.or_false, Bool.false_or, Bool.not_true, Bool.not_false, Nat.reduceAdd, Nat.reduceSub, Nat.reduceEqDiff, List.filterMap_cons, List.filterMap_nil, decide_true, decide_false, Bool.false_eq_true, reduceIte, Int.reduceAdd, Int.reduceSub, Int.reduceMul, Int.reduceNeg, Int.reduceLT, Int.reduceLE, Int.reduceEq, Int.reduceMod, Int.reduceDiv, Int.lt_irrefl, reduceCtorEq, D.frzs_int, D.pures_int, cap_0, cap_1, cap_2, cap_3, cap_4, cap_5, cap_6, cap_7, cap_8, cap_9, cap_10, cap_11, cap_12, cap_13, cap_14, cap_15, cap_16, cap_17, cap_18, cap_19, cap_20, cap_21, cap_22, cap_23, cap_24, cap_25, cap_26, cap_27, cap_28, cap_29, cap_30, cap_31, cap_32, cap_33, cap_34, cap_35, cap_36, cap_37, cap_38, cap_39, cap_40, ix_2]
  have e1 : ∀ i : Int, ((cs.filter fun t => decide (i = t.1 ∨ i = t.2.1)).map fun t => D.int t.2.2) = (((cs.filter fun t => decide (i = t.1 ∨ i = t.2.1)).map fun t => t.2.2)).map D.int := fun i => by rw [List.map_map]; rfl
  have e2 : (cs.map fun t => D.int t.2.2) = (cs.map fun t => t.2.2).map D.int := by rw [List.map_map]; rfl
  have ln : lenO 0 d_Lot___len__ [lotD p cs] = some (.int cs.length) := by
    unfold lenO
    simp only [lot_isO, lot_pure, Bool.and_self, if_true, mlen_eq]
    exact if_pos (yes_of ⟨by omega, by omega⟩)
  have lp : loop (gN 3) (sFgt [4, 3] (sIf (tNot (tB1 (eCall d_law_same [] (aCons (eMth 0 d_Lot_ends [] (qV 0) (aCons (eV 3) aNil)) (aCons (eFn sumL (aCons (eLc [4] (iSq (eV 2)) (gN 4) (tB1 (eBin inD (eV 3) (eLst (aCons (eQ (qBin ixD (qV 4) (qC (.int 0)))) (aCons (eQ (qBin ixD (qV 4) (qC (.int 1)))) aNil))))) (eQ (qBin ixD (qV 4) (qC (.int 2))))) aNil)) aNil))))) (sRet (eQ (qC (.bl false)))) sNx))
      (((List.range p.toNat).map fun (k : Nat) => (0 : Int) + k).map D.int) [some (lotD p cs), some (.int p), some (.tup (cs.map tD)), none, none] = .nx [some (lotD p cs), some (.int p), some (.tup (cs.map tD)), none, none] := by
    refine loop_same D.int _ _ fun x hx => ⟨_, rfl, ?_⟩
    obtain ⟨k, hk, rfl⟩ := List.mem_map.mp hx
    have hk' : k < p.toNat := List.mem_range.mp hk
    have me := mends_eq p cs (0 + (k : Int)) ⟨by omega, by omega⟩ hl
    simp -implicitDefEqProofs only [runF, eBinR, qFld, eMth, eMth0, eProp, lot_pure, lot_frz, lot_isO, eBad, sBad, gT, gCo, gNl, sAsg, sDput, eDget, eDget2, dicO, sPut, sPut2, sq_tup, sq_lst, sq_vec, sNx, sSeq, sIf, sRet, sSet, sEx, sBk, sCt, sFgt, fgt, eC, eV, eM, eBin, eUn, aNil, aCons, eTup, eLst, eFn, tB1, tAnd, tOr, tNot, eAnd, eOr, eNot, eIf, eCall, eCallK, pick, eQ, tQ1, qV, qC, qBin, qUn, qB, qAnd, qOr, qNot, qIf, qAndT, qOrT, qNotT, qChain, eChain, eLc, sFor, iSq, iRg1, iRg2, gN, itms, rst, eApp, D.frz, D.frzs, D.pure, D.pures, bind_ok, bind_ex, stmt_ok, stmt_ex, seq_nx, seq_rt, seq_ex, seq_bk, seq_ct, fgt_nx, fgt_bk, fgt_ct, fgt_rt, fgt_ex, out_nx, out_rt, out_ex, opt_some, optL_some, andB_tt, andB_ff, andB_some, orB_tt, orB_ff, orB_some, andX_tt, andX_ff, andX_some, orX_tt, orX_ff, orX_some, itAnd, itOr, itAndX, itOrX, Option.bind_some, List.map_cons, List.map_nil, List.length_cons, List.length_nil, List.cons_append, List.nil_append, List.getElem?_cons_zero, List.getElem?_cons_succ, List.getElem?_nil, List.set_cons_zero, List.set_cons_succ, List.replicate, addI_i, subD_i, ltD_i, leD_i, gtD_i, geD_i, eqS_int, neS_int, eqS_bl, neS_bl, max2_i, min2_i, maxL_i, minL_i, int1_i, intL_i, if_true, if_false, ite_true, ite_false, and_true, true_and, and_self, Bool.and_self, Bool.and_true, Bool.true_and, Bool.and_false, Bool.false_and, Bool.or_true, Bool.true_or, Bool.or_false, Bool.false_or, Bool.not_true, Bool.not_false, Nat.reduceAdd, Nat.reduceSub, Nat.reduceEqDiff, List.filterMap_cons, List.filterMap_nil, decide_true, decide_false, Bool.false_eq_true, reduceIte, Int.reduceAdd, Int.reduceSub, Int.reduceMul, Int.reduceNeg, Int.reduceLT, Int.reduceLE, Int.reduceEq, Int.reduceMod, Int.reduceDiv, Int.lt_irrefl, reduceCtorEq, D.frzs_int, D.pures_int, cap_0, cap_1, cap_2, cap_3, cap_4, cap_5, cap_6, cap_7, cap_8, cap_9, cap_10, cap_11, cap_12, cap_13, cap_14, cap_15, cap_16, cap_17, cap_18, cap_19, cap_20, cap_21, cap_22, cap_23, cap_24, cap_25, cap_26, cap_27, cap_28, cap_29, cap_30, cap_31, cap_32, cap_33, cap_34, cap_35, cap_36, cap_37, cap_38, cap_39, cap_40, frzs_tD, c1, e1, sumL_vec, me, same_i, endsM]
  unfold d_law_counts b_d_law_counts
  generalize (sFgt [4, 3] (sIf (tNot (tB1 (eCall d_law_same [] (aCons (eMth 0 d_Lot_ends [] (qV 0) (aCons (eV 3) aNil)) (aCons (eFn sumL (aCons (eLc [4] (iSq (eV 2)) (gN 4) (tB1 (eBin inD (eV 3) (eLst (aCons (eQ (qBin ixD (qV 4) (qC (.int 0)))) (aCons (eQ (qBin ixD (qV 4) (qC (.int 1)))) aNil))))) (eQ (qBin ixD (qV 4) (qC (.int 2))))) aNil)) aNil))))) (sRet (eQ (qC (.bl false)))) sNx)) = bb at lp ⊢
  simp -implicitDefEqProofs only [runF, eBinR, qFld, eMth, eMth0, eProp, lot_pure, lot_frz, lot_isO, eBad, sBad, gT, gCo, gNl, sAsg, sDput, eDget, eDget2, dicO, sPut, sPut2, sq_tup, sq_lst, sq_vec, sNx, sSeq, sIf, sRet, sSet, sEx, sBk, sCt, sFgt, fgt, eC, eV, eM, eBin, eUn, aNil, aCons, eTup, eLst, eFn, tB1, tAnd, tOr, tNot, eAnd, eOr, eNot, eIf, eCall, eCallK, pick, eQ, tQ1, qV, qC, qBin, qUn, qB, qAnd, qOr, qNot, qIf, qAndT, qOrT, qNotT, qChain, eChain, eLc, sFor, iSq, iRg1, iRg2, gN, itms, rst, eApp, D.frz, D.frzs, D.pure, D.pures, bind_ok, bind_ex, stmt_ok, stmt_ex, seq_nx, seq_rt, seq_ex, seq_bk, seq_ct, fgt_nx, fgt_bk, fgt_ct, fgt_rt, fgt_ex, out_nx, out_rt, out_ex, opt_some, optL_some, andB_tt, andB_ff, andB_some, orB_tt, orB_ff, orB_some, andX_tt, andX_ff, andX_some, orX_tt, orX_ff, orX_some, itAnd, itOr, itAndX, itOrX, Option.bind_some, List.map_cons, List.map_nil, List.length_cons, List.length_nil, List.cons_append, List.nil_append, List.getElem?_cons_zero, List.getElem?_cons_succ, List.getElem?_nil, List.set_cons_zero, List.set_cons_succ, List.replicate, addI_i, subD_i, ltD_i, leD_i, gtD_i, geD_i, eqS_int, neS_int, eqS_bl, neS_bl, max2_i, min2_i, maxL_i, minL_i, int1_i, intL_i, if_true, if_false, ite_true, ite_false, and_true, true_and, and_self, Bool.and_self, Bool.and_true, Bool.true_and, Bool.and_false, Bool.false_and, Bool.or_true, Bool.true_or, Bool.or_false, Bool.false_or, Bool.not_true, Bool.not_false, Nat.reduceAdd, Nat.reduceSub, Nat.reduceEqDiff, List.filterMap_cons, List.filterMap_nil, decide_true, decide_false, Bool.false_eq_true, reduceIte, Int.reduceAdd, Int.reduceSub, Int.reduceMul, Int.reduceNeg, Int.reduceLT, Int.reduceLE, Int.reduceEq, Int.reduceMod, Int.reduceDiv, Int.lt_irrefl, reduceCtorEq, D.frzs_int, D.pures_int, cap_0, cap_1, cap_2, cap_3, cap_4, cap_5, cap_6, cap_7, cap_8, cap_9, cap_10, cap_11, cap_12, cap_13, cap_14, cap_15, cap_16, cap_17, cap_18, cap_19, cap_20, cap_21, cap_22, cap_23, cap_24, cap_25, cap_26, cap_27, cap_28, cap_29, cap_30, cap_31, cap_32, cap_33, cap_34, cap_35, cap_36, cap_37, cap_38, cap_39, cap_40, hb, rng_eq, lp, frzs_tD, mtotal_eq p cs hl, c2, e2, sumL_vec, same_i, ln, len1_sq (sq_tup _), List.length_map, sumM]
end Math

set_option Elab.async false
set_option linter.all false
set_option maxRecDepth 100000
set_option maxHeartbeats 1000000
namespace Math
open PySem FL Prg
open L2 (atI atI_nat)
def rowD (n : Nat) (f : Int → Int → Int) (i : Int) : D := .tup ((List.range n).map fun (j : Nat) => .int (f i j))
def tblD (n : Nat) (f : Int → Int → Int) : D := .tup ((List.range n).map fun (i : Nat) => rowD n f i)
theorem tbl_eq (n : Nat) (f : Int → Int → Int) : tabD (tabM n f) = tblD n f := by
  unfold tabD tabM tblD rowD
  rw [List.map_map]
  congr 1
  refine List.map_congr_left fun i _ => ?_
  simp only [Function.comp, List.map_map]
  rfl
theorem row_pure (n : Nat) (f : Int → Int → Int) (i : Int) : (rowD n f i).pure = true := by
  unfold rowD
  rw [D.pure]
  exact D.pures_map (fun _ => rfl) _
theorem tbl_pure (n : Nat) (f : Int → Int → Int) : (tblD n f).pure = true := by
  unfold tblD
  rw [D.pure]
  exact D.pures_map (f := fun i : Nat => rowD n f i) (fun i => row_pure n f i) _
theorem tbl_frz (n : Nat) (f : Int → Int → Int) : (tblD n f).frz = tblD n f := D.frz_of_pure (tbl_pure n f)
theorem row_frz (n : Nat) (f : Int → Int → Int) (i : Int) : (rowD n f i).frz = rowD n f i := D.frz_of_pure (row_pure n f i)
theorem ix_row (n : Nat) (f : Int → Int → Int) (i j : Int) (h : 0 ≤ j ∧ j < n) : ixD (rowD n f i) (.int j) = some (.int (f i j)) := by
  have e : atI ((List.range n).map fun (j : Nat) => D.int (f i j)) j = some (.int (f i j)) := by
    have hj : j = ((j.toNat : Nat) : Int) := by omega
    rw [hj]
    refine atI_nat ?_
    rw [List.getElem?_map, List.getElem?_range (by omega)]
    rfl
  exact ixD_sq (sq_tup _) e
theorem ix_tbl (n : Nat) (f : Int → Int → Int) (i : Int) (h : 0 ≤ i ∧ i < n) : ixD (tblD n f) (.int i) = some (rowD n f i) := by
  have e : atI ((List.range n).map fun (i : Nat) => rowD n f i) i = some (rowD n f i) := by
    have hj : i = ((i.toNat : Nat) : Int) := by omega
    rw [hj]
    refine atI_nat ?_
    rw [List.getElem?_map, List.getElem?_range (by omega)]
    rfl
  exact ixD_sq (sq_tup _) e
def plD (n : Nat) (pl : Int → Int) : D := .lst ((List.range n).map fun (i : Nat) => .int (pl i))
theorem ix_pl (n : Nat) (pl : Int → Int) (i : Int) (h : 0 ≤ i ∧ i < n) : ixD (plD n pl) (.int i) = some (.int (pl i)) := by
  have e : atI ((List.range n).map fun (i : Nat) => D.int (pl i)) i = some (.int (pl i)) := by
    have hj : i = ((i.toNat : Nat) : Int) := by omega
    rw [hj]
    refine atI_nat ?_
    rw [List.getElem?_map, List.getElem?_range (by omega)]
    rfl
  exact ixD_sq (sq_lst _) e
theorem isi_row (n : Nat) (f : Int → Int → Int) (i : Int) : isiD (tabTy "tuple") (rowD n f i) = some (.bl true) := rfl
theorem isi_tbl (n : Nat) (f : Int → Int → Int) : isiD (tabTy "tuple") (tblD n f) = some (.bl true) := rfl
theorem len_row (n : Nat) (f : Int → Int → Int) (i : Int) : len1 (rowD n f i) = some (.int n) := by
  have := len1_sq (sq_tup ((List.range n).map fun (j : Nat) => D.int (f i j)))
  rw [List.length_map, List.length_range] at this
  exact this
theorem len_tbl (n : Nat) (f : Int → Int → Int) : len1 (tblD n f) = some (.int n) := by
  have := len1_sq (sq_tup ((List.range n).map fun (i : Nat) => rowD n f i))
  rw [List.length_map, List.length_range] at this
  exact this
theorem itms_tbl (n : Nat) (f : Int → Int → Int) : itms (tblD n f) = some ((List.range n).map fun (i : Nat) => rowD n f i) := rfl
theorem moved_eq (n : Nat) (f g : Int → Int → Int) (pl : Int → Int) (hn : n ≤ 1000) (hp : ∀ i : Int, 0 ≤ i ∧ i < n → 0 ≤ pl i ∧ pl i < n) (h : ∀ i j : Int, 0 ≤ i ∧ i < n → 0 ≤ j ∧ j < n → f (pl i) (pl j) = g i j) :
    d_law_moved_table [tblD n f, tblD n g, plD n pl] = .rt (.bl true) := by
  have hb : bnd (n : Int) = true := bnd_of ⟨by omega, by omega⟩
  have l1 : loop (gN 4) (sFgt [4] (sIf (tQ1 (qOrT (qNotT (qB (qUn (isiD (tabTy "tuple")) (qV 4)))) (qB (qBin neS (qUn len1 (qV 4)) (qV 3))))) (sRet (eQ (qC (.bl false)))) sNx)) ((List.range n).map fun (i : Nat) => rowD n f i)
      [some (tblD n f), some (tblD n g), some (plD n pl), some (.int n), none, none, none] = .nx [some (tblD n f), some (tblD n g), some (plD n pl), some (.int n), none, none, none] := by
    refine loop_same (fun i : Nat => rowD n f i) _ _ fun i hi => ⟨_, rfl, ?_⟩
    simp -implicitDefEqProofs only [runF, eBinR, qFld, eMth, eMth0, eProp, lot_pure, lot_frz, lot_isO, eBad, sBad, gT, gCo, gNl, sAsg, sDput, eDget, eDget2, dicO, sPut, sPut2, sq_tup, sq_lst, sq_vec, sNx, sSeq, sIf, sRet, sSet, sEx, sBk, sCt, sFgt, fgt, eC, eV, eM, eBin, eUn, aNil, aCons, eTup, eLst, eFn, tB1, tAnd, tOr, tNot, eAnd, eOr, eNot, eIf, eCall, eCallK, pick, eQ, tQ1, qV, qC, qBin, qUn, qB, qAnd, qOr, qNot, qIf, qAndT, qOrT, qNotT, qChain, eChain, eLc, sFor, iSq, iRg1, iRg2, gN, itms, rst, eApp, D.frz, D.frzs, D.pure, D.pures, bind_ok, bind_ex, stmt_ok, stmt_ex, seq_nx, seq_rt, seq_ex, seq_bk, seq_ct, fgt_nx, fgt_bk, fgt_ct, fgt_rt, fgt_ex, out_nx, out_rt, out_ex, opt_some, optL_some, andB_tt, andB_ff, andB_some, orB_tt, orB_ff, orB_some, andX_tt, andX_ff, andX_some, orX_tt, orX_ff, orX_some, itAnd, itOr, itAndX, itOrX, Option.bind_some, List.map_cons, List.map_nil, List.length_cons, List.length_nil, List.cons_append, List.nil_append, List.getElem?_cons_zero, List.getElem?_cons_succ, List.getElem?_nil, List.set_cons_zero, List.set_cons_succ, List.replicate, addI_i, subD_i, ltD_i, leD_i, gtD_i, geD_i, eqS_int, neS_int, eqS_bl, neS_bl, max2_i, min2_i, maxL_i, minL_i, int1_i, intL_i, if_true, if_false, ite_true, ite_false, and_true, true_and, and_self, Bool.and_self, Bool.and_true, Bool.true_and, Bool.and_false, Bool.false_and, Bool.or_true, Bool.true_or, Bool.or_false, Bool.false_or, Bool.not_true, Bool.not_false, Nat.reduceAdd, Nat.reduceSub, Nat.reduceEqDiff, List.filterMap_cons, List.filterMap_nil, decide_true, decide_false, Bool.false_eq_true, reduceIte, Int.reduceAdd, Int.reduceSub, Int.reduceMul, Int.reduceNeg, Int.reduceLT, Int.reduceLE, Int.reduceEq, Int.reduceMod, Int.reduceDiv, Int.lt_irrefl, reduceCtorEq, D.frzs_int, D.pures_int, cap_0, cap_1, cap_2, cap_3, cap_4, cap_5, cap_6, cap_7, cap_8, cap_9, cap_10, cap_11, cap_12, cap_13, cap_14, cap_15, cap_16, cap_17, cap_18, cap_19, cap_20, cap_21, cap_22, cap_23, cap_24, cap_25, cap_26, cap_27, cap_28, cap_29, cap_30, cap_31, cap_32, cap_33, cap_34, cap_35, cap_36, cap_37, cap_38, cap_39, cap_40, isi_row, len_row]
  have l3 : ∀ i : Int, 0 ≤ i ∧ i < n → loop (gN 6) (sFgt [6] (sIf (tNot (tB1 (eCall d_law_same [] (aCons (eQ (qBin ixD (qBin ixD (qV 0) (qBin ixD (qV 2) (qV 5))) (qBin ixD (qV 2) (qV 6)))) (aCons (eQ (qBin ixD (qBin ixD (qV 1) (qV 5)) (qV 6))) aNil))))) (sRet (eQ (qC (.bl false)))) sNx)) (((List.range n).map fun (k : Nat) => (0 : Int) + k).map D.int)
      [some (tblD n f), some (tblD n g), some (plD n pl), some (.int n), none, some (.int i), none] = .nx [some (tblD n f), some (tblD n g), some (plD n pl), some (.int n), none, some (.int i), none] := fun i hi => by
    refine loop_same D.int _ _ fun j hj => ⟨_, rfl, ?_⟩
    obtain ⟨k, hk, rfl⟩ := List.mem_map.mp hj
    have hk' : k < n := List.mem_range.mp hk
    have hj' : 0 ≤ (0 : Int) + k ∧ (0 : Int) + k < n := by omega
    simp -implicitDefEqProofs only [runF, eBinR, qFld, eMth, eMth0, eProp, lot_pure, lot_frz, lot_isO, eBad, sBad, gT, gCo, gNl, sAsg, sDput, eDget, eDget2, dicO, sPut, sPut2, sq_tup, sq_lst, sq_vec, sNx, sSeq, sIf, sRet, sSet, sEx, sBk, sCt, sFgt, fgt, eC, eV, eM, eBin, eUn, aNil, aCons, eTup, eLst, eFn, tB1, tAnd, tOr, tNot, eAnd, eOr, eNot, eIf, eCall, eCallK, pick, eQ, tQ1, qV, qC, qBin, qUn, qB, qAnd, qOr, qNot, qIf, qAndT, qOrT, qNotT, qChain, eChain, eLc, sFor, iSq, iRg1, iRg2, gN, itms, rst, eApp, D.frz, D.frzs, D.pure, D.pures, bind_ok, bind_ex, stmt_ok, stmt_ex, seq_nx, seq_rt, seq_ex, seq_bk, seq_ct, fgt_nx, fgt_bk, fgt_ct, fgt_rt, fgt_ex, out_nx, out_rt, out_ex, opt_some, optL_some, andB_tt, andB_ff, andB_some, orB_tt, orB_ff, orB_some, andX_tt, andX_ff, andX_some, orX_tt, orX_ff, orX_some, itAnd, itOr, itAndX, itOrX, Option.bind_some, List.map_cons, List.map_nil, List.length_cons, List.length_nil, List.cons_append, List.nil_append, List.getElem?_cons_zero, List.getElem?_cons_succ, List.getElem?_nil, List.set_cons_zero, List.set_cons_succ, List.replicate, addI_i, subD_i, ltD_i, leD_i, gtD_i, geD_i, eqS_int, neS_int, eqS_bl, neS_bl, max2_i, min2_i, maxL_i, minL_i, int1_i, intL_i, if_true, if_false, ite_true, ite_false, and_true, true_and, and_self, Bool.and_self, Bool.and_true, Bool.true_and, Bool.and_false, Bool.false_and, Bool.or_true, Bool.true_or, Bool.or_false, Bool.false_or, Bool.not_true, Bool.not_false, Nat.reduceAdd, Nat.reduceSub, Nat.reduceEqDiff, List.filterMap_cons, List.filterMap_nil, decide_true, decide_false, Bool.false_eq_true, reduceIte, Int.reduceAdd, Int.reduceSub, Int.reduceMul, Int.reduceNeg, Int.reduceLT, Int.reduceLE, Int.reduceEq, Int.reduceMod, Int.reduceDiv, Int.lt_irrefl, reduceCtorEq, D.frzs_int, D.pures_int, cap_0, cap_1, cap_2, cap_3, cap_4, cap_5, cap_6, cap_7, cap_8, cap_9, cap_10, cap_11, cap_12, cap_13, cap_14, cap_15, cap_16, cap_17, cap_18, cap_19, cap_20, cap_21, cap_22, cap_23, cap_24, cap_25, cap_26, cap_27, cap_28, cap_29, cap_30, cap_31, cap_32, cap_33, cap_34, cap_35, cap_36, cap_37, cap_38, cap_39, cap_40, ix_pl n pl i hi, ix_pl n pl _ hj', ix_tbl n f _ (hp i hi), ix_row n f _ _ (hp _ hj'), ix_tbl n g i hi, ix_row n g i _ hj', same_i, h i _ hi hj']
  have l2 : loop (gN 5) (sFgt [5, 6] (sFgt [6] (sFor (iRg1 (aCons (eV 3) aNil)) (gN 6) (sFgt [6] (sIf (tNot (tB1 (eCall d_law_same [] (aCons (eQ (qBin ixD (qBin ixD (qV 0) (qBin ixD (qV 2) (qV 5))) (qBin ixD (qV 2) (qV 6)))) (aCons (eQ (qBin ixD (qBin ixD (qV 1) (qV 5)) (qV 6))) aNil))))) (sRet (eQ (qC (.bl false)))) sNx))))) (((List.range n).map fun (k : Nat) => (0 : Int) + k).map D.int)
      [some (tblD n f), some (tblD n g), some (plD n pl), some (.int n), none, none, none] = .nx [some (tblD n f), some (tblD n g), some (plD n pl), some (.int n), none, none, none] := by
    refine loop_same D.int _ _ fun j hj => ⟨_, rfl, ?_⟩
    obtain ⟨k, hk, rfl⟩ := List.mem_map.mp hj
    have hk' : k < n := List.mem_range.mp hk
    have hj' : 0 ≤ (0 : Int) + k ∧ (0 : Int) + k < n := by omega
    have e := l3 _ hj'
    generalize (sFgt [6] (sIf (tNot (tB1 (eCall d_law_same [] (aCons (eQ (qBin ixD (qBin ixD (qV 0) (qBin ixD (qV 2) (qV 5))) (qBin ixD (qV 2) (qV 6)))) (aCons (eQ (qBin ixD (qBin ixD (qV 1) (qV 5)) (qV 6))) aNil))))) (sRet (eQ (qC (.bl false)))) sNx)) = bb at e ⊢
    simp -implicitDefEqProofs only [runF, eBinR, qFld, eMth, eMth0, eProp, lot_pure, lot_frz, lot_isO, eBad, sBad, gT, gCo, gNl, sAsg, sDput, eDget, eDget2, dicO, sPut, sPut2, sq_tup, sq_lst, sq_vec, sNx, sSeq, sIf, sRet, sSet, sEx, sBk, sCt, sFgt, fgt, eC, eV, eM, eBin, eUn, aNil, aCons, eTup, eLst, eFn, tB1, tAnd, tOr, tNot, eAnd, eOr, eNot, eIf, eCall, eCallK, pick, eQ, tQ1, qV, qC, qBin, qUn, qB, qAnd, qOr, qNot, qIf, qAndT, qOrT, qNotT, qChain, eChain, eLc, sFor, iSq, iRg1, iRg2, gN, itms, rst, eApp, D.frz, D.frzs, D.pure, D.pures, bind_ok, bind_ex, stmt_ok, stmt_ex, seq_nx, seq_rt, seq_ex, seq_bk, seq_ct, fgt_nx, fgt_bk, fgt_ct, fgt_rt, fgt_ex, out_nx, out_rt, out_ex, opt_some, optL_some, andB_tt, andB_ff, andB_some, orB_tt, orB_ff, orB_some, andX_tt, andX_ff, andX_some, orX_tt, orX_ff, orX_some, itAnd, itOr, itAndX, itOrX, Option.bind_some, List.map_cons, List.map_nil, List.length_cons, List.length_nil, List.cons_append, List.nil_append, List.getElem?_cons_zero, List.getElem?_cons_succ, List.getElem?_nil, List.set_cons_zero, List.set_cons_succ, List.replicate, addI_i, subD_i, ltD_i, leD_i, gtD_i, geD_i, eqS_int, neS_int, eqS_bl, neS_bl, max2_i, min2_i, maxL_i, minL_i, int1_i, intL_i, if_true, if_false, ite_true, ite_false, and_true, true_and, and_self, Bool.and_self, Bool.and_true, Bool.true_and, Bool.and_false, Bool.false_and, Bool.or_true, Bool.true_or, Bool.or_false, Bool.false_or, Bool.not_true, Bool.not_false, Nat.reduceAdd, Nat.reduceSub, Nat.reduceEqDiff, List.filterMap_cons, List.filterMap_nil, decide_true, decide_false, Bool.false_eq_true, reduceIte, Int.reduceAdd, Int.reduceSub, Int.reduceMul, Int.reduceNeg, Int.reduceLT, Int.reduceLE, Int.reduceEq, Int.reduceMod, Int.reduceDiv, Int.lt_irrefl, reduceCtorEq, D.frzs_int, D.pures_int, cap_0, cap_1, cap_2, cap_3, cap_4, cap_5, cap_6, cap_7, cap_8, cap_9, cap_10, cap_11, cap_12, cap_13, cap_14, cap_15, cap_16, cap_17, cap_18, cap_19, cap_20, cap_21, cap_22, cap_23, cap_24, cap_25, cap_26, cap_27, cap_28, cap_29, cap_30, cap_31, cap_32, cap_33, cap_34, cap_35, cap_36, cap_37, cap_38, cap_39, cap_40, hb, rng_eq, Int.sub_zero, Int.toNat_natCast, e]
  unfold d_law_moved_table b_d_law_moved_table
  generalize (sFgt [5, 6] (sFgt [6] (sFor (iRg1 (aCons (eV 3) aNil)) (gN 6) _))) = b2 at l2 ⊢
  generalize (sFgt [4] (sIf (tQ1 (qOrT (qNotT (qB (qUn (isiD (tabTy "tuple")) (qV 4)))) (qB (qBin neS (qUn len1 (qV 4)) (qV 3))))) (sRet (eQ (qC (.bl false)))) sNx)) = b1 at l1 ⊢
  have i0 : (iSq (eV 0) : Rho → RX (List D)) [some (tblD n f), some (tblD n g), some (plD n pl), some (.int n), none, none, none] = .ok ((List.range n).map fun (i : Nat) => rowD n f i) [some (tblD n f), some (tblD n g), some (plD n pl), some (.int n), none, none, none] := by
    show (RX.ok (tblD n f).frz [some (tblD n f).frz, _, _, _, _, _, _]).bind _ = _
    rw [tbl_frz]
    show optL (itms (tblD n f).frz) _ = _
    rw [tbl_frz, itms_tbl]; rfl
  generalize (iSq (eV 0) : Rho → RX (List D)) = it at i0 ⊢
  simp -implicitDefEqProofs only [runF, eBinR, qFld, eMth, eMth0, eProp, lot_pure, lot_frz, lot_isO, eBad, sBad, gT, gCo, gNl, sAsg, sDput, eDget, eDget2, dicO, sPut, sPut2, sq_tup, sq_lst, sq_vec, sNx, sSeq, sIf, sRet, sSet, sEx, sBk, sCt, sFgt, fgt, eC, eV, eM, eBin, eUn, aNil, aCons, eTup, eLst, eFn, tB1, tAnd, tOr, tNot, eAnd, eOr, eNot, eIf, eCall, eCallK, pick, eQ, tQ1, qV, qC, qBin, qUn, qB, qAnd, qOr, qNot, qIf, qAndT, qOrT, qNotT, qChain, eChain, eLc, sFor, iSq, iRg1, iRg2, gN, itms, rst, eApp, D.frz, D.frzs, D.pure, D.pures, bind_ok, bind_ex, stmt_ok, stmt_ex, seq_nx, seq_rt, seq_ex, seq_bk, seq_ct, fgt_nx, fgt_bk, fgt_ct, fgt_rt, fgt_ex, out_nx, out_rt, out_ex, opt_some, optL_some, andB_tt, andB_ff, andB_some, orB_tt, orB_ff, orB_some, andX_tt, andX_ff, andX_some, orX_tt, orX_ff, orX_some, itAnd, itOr, itAndX, itOrX, Option.bind_some, List.map_cons, List.map_nil, List.length_cons, List.length_nil, List.cons_append, List.nil_append, List.getElem?_cons_zero, List.getElem?_cons_succ, List.getElem?_nil, List.set_cons_zero, List.set_cons_succ, List.replicate, addI_i, subD_i, ltD_i, leD_i, gtD_i, geD_i, eqS_int, neS_int, eqS_bl, neS_bl, max2_i, min2_i, maxL_i, minL_i, int1_i, intL_i, if_true, if_false, ite_true, ite_false, and_true, true_and, and_self, Bool.and_self, Bool.and_true, Bool.true_and, Bool.and_false, Bool.false_and, Bool.or_true, Bool.true_or, Bool.or_false, Bool.false_or, Bool.not_true, Bool.not_false, Nat.reduceAdd, Nat.reduceSub, Nat.reduceEqDiff, List.filterMap_cons, List.filterMap_nil, decide_true, decide_false, Bool.false_eq_true, reduceIte, Int.reduceAdd, Int.reduceSub, Int.reduceMul, Int.reduceNeg, Int.reduceLT, Int.reduceLE, Int.reduceEq, Int.reduceMod, Int.reduceDiv, Int.lt_irrefl, reduceCtorEq, D.frzs_int, D.pures_int, cap_0, cap_1, cap_2, cap_3, cap_4, cap_5, cap_6, cap_7, cap_8, cap_9, cap_10, cap_11, cap_12, cap_13, cap_14, cap_15, cap_16, cap_17, cap_18, cap_19, cap_20, cap_21, cap_22, cap_23, cap_24, cap_25, cap_26, cap_27, cap_28, cap_29, cap_30, cap_31, cap_32, cap_33, cap_34, cap_35, cap_36, cap_37, cap_38, cap_39, cap_40, len_tbl, isi_tbl, i0, l1, hb, rng_eq, Int.sub_zero, Int.toNat_natCast, l2]
end Math

set_option Elab.async false
set_option linter.all false
set_option maxRecDepth 100000
set_option maxHeartbeats 2000000
namespace Math
open PySem FL Prg
open L2 (atI atI_nat ixN)
theorem mod_2 {z n : Int} (h0 : 0 ≤ z) (h : z < 2 * n) : z % n = if z < n then z else z - n := by
  split
  · exact Int.emod_eq_of_lt h0 (by omega)
  · rw [show z = (z - n) + n by omega, Int.add_emod_right]
    rw [show z - n + n - n = z - n by omega]
    exact Int.emod_eq_of_lt (by omega) (by omega)
theorem mod_m {z n : Int} (h0 : -n < z) (h : z < n) : z % n = if 0 ≤ z then z else z + n := by
  split
  · exact Int.emod_eq_of_lt (by omega) h
  · rw [← Int.add_emod_right]
    exact Int.emod_eq_of_lt (by omega) (by omega)
theorem set_map {α : Type} (n k : Nat) (g : Nat → α) (y : α) : ((List.range n).map g).set k y = (List.range n).map fun i => if i = k then y else g i := by
  apply List.ext_getElem?
  intro i
  by_cases hi : i < n
  · rw [List.getElem?_map, List.getElem?_range hi]
    by_cases h : i = k
    · subst h
      rw [List.getElem?_set_self (by rw [List.length_map, List.length_range]; exact hi)]
      simp
    · rw [List.getElem?_set_ne (Ne.symm h), List.getElem?_map, List.getElem?_range hi]
      simp [h]
  · rw [List.getElem?_eq_none (by rw [List.length_set, List.length_map, List.length_range]; omega), List.getElem?_eq_none (by rw [List.length_map, List.length_range]; omega)]
theorem ixN_of {n : Nat} {k : Int} (h : 0 ≤ k ∧ k < n) : ixN n k = some k.toNat := by
  unfold L2.ixN
  rw [if_pos h.1, if_pos h.2]
def Mz (n i s x : Int) : Bool := decide (1 ≤ (x - i) % n ∧ (x - i) % n ≤ s)
def vecB (n : Nat) (i s : Int) : List D := (List.range n).map fun (x : Nat) => .bl (Mz n i s x)
def Tz (ts : List T3) (n i s r c : Int) : Int := if r < i then passM ts r c else if r = i ∧ Mz n i s c = true then passM ts r c else 0
def rowV (ts : List T3) (n : Nat) (i s r : Int) : List D := (List.range n).map fun (c : Nat) => .int (Tz ts n i s r c)
def vecT (ts : List T3) (n : Nat) (i s : Int) : List D := (List.range n).map fun (r : Nat) => .vec (rowV ts n i s r)
theorem ix_vecB (n : Nat) (i s x : Int) (h : 0 ≤ x ∧ x < n) : ixD (.vec (vecB n i s)) (.int x) = some (.bl (Mz n i s x)) := by
  have e : atI (vecB n i s) x = some (.bl (Mz n i s x)) := by
    have hj : x = ((x.toNat : Nat) : Int) := by omega
    rw [hj]
    refine atI_nat ?_
    unfold vecB
    rw [List.getElem?_map, List.getElem?_range (by omega)]
    rfl
  exact ixD_sq (sq_vec _) e
theorem Mz_next {n i s x : Int} (hi : 0 ≤ i ∧ i < n) (hs : 0 ≤ s ∧ s + 1 < n) (hx : 0 ≤ x ∧ x < n) : Mz n i (s + 1) x = (if x = (i + (s + 1)) % n then true else Mz n i s x) := by
  have e1 := mod_2 (z := i + (s + 1)) (n := n) (by omega) (by omega)
  have e2 := mod_m (z := x - i) (n := n) (by omega) (by omega)
  unfold Mz
  rw [e1, e2]
  rw [Bool.eq_iff_iff]
  by_cases h : x = if i + (s + 1) < n then i + (s + 1) else i + (s + 1) - n
  · rw [if_pos h]
    simp only [decide_eq_true_eq]
    constructor
    · intro _; trivial
    · intro _; split at h <;> split <;> omega
  · rw [if_neg h]
    simp only [decide_eq_true_eq]
    split at h <;> split <;> omega
theorem vecB_set (n : Nat) (i s : Int) (hi : 0 ≤ i ∧ i < n) (hs : 0 ≤ s ∧ s + 1 < n) : (vecB n i s).set ((i + (s + 1)) % n).toNat (.bl true) = vecB n i (s + 1) := by
  unfold vecB
  rw [set_map]
  refine List.map_congr_left fun x hx => ?_
  have hx' : x < n := List.mem_range.mp hx
  have h0 := Int.emod_nonneg (i + (s + 1)) (show (n : Int) ≠ 0 by omega)
  rw [Mz_next hi hs ⟨by omega, by omega⟩]
  by_cases h : x = ((i + (s + 1)) % n).toNat
  · rw [if_pos h, if_pos (by omega)]
  · rw [if_neg h, if_neg (by omega)]
theorem vecT_set (ts : List T3) (n : Nat) (i s : Int) (hi : 0 ≤ i ∧ i < n) (hs : 0 ≤ s ∧ s + 1 < n) :
    (vecT ts n i s).set i.toNat (.vec ((rowV ts n i s i).set ((i + (s + 1)) % n).toNat (.int (passM ts i ((i + (s + 1)) % n))))) = vecT ts n i (s + 1) := by
  have h0 := Int.emod_nonneg (i + (s + 1)) (show (n : Int) ≠ 0 by omega)
  unfold vecT
  rw [set_map]
  refine List.map_congr_left fun r hr => ?_
  have hr' : r < n := List.mem_range.mp hr
  by_cases h : r = i.toNat
  · have hri : (r : Int) = i := by omega
    rw [if_pos h, hri]
    congr 1
    unfold rowV
    rw [set_map]
    refine List.map_congr_left fun c hc => ?_
    have hc' : c < n := List.mem_range.mp hc
    unfold Tz
    rw [Mz_next hi hs ⟨by omega, by omega⟩]
    simp only [Int.lt_irrefl, if_false, true_and]
    by_cases h2 : c = ((i + (s + 1)) % n).toNat
    · have e : (c : Int) = (i + (s + 1)) % n := by omega
      rw [if_pos h2, if_pos e, e, if_pos rfl]
    · have e : ¬ (c : Int) = (i + (s + 1)) % n := by omega
      simp only [h2, e, if_false]
  · rw [if_neg h]
    congr 1
    refine List.map_congr_left fun c hc => ?_
    unfold Tz
    have : ¬ (r : Int) = i := by omega
    simp only [this, false_and, if_false]
theorem sep_met {p n i s : Int} {t : T3} (ht : okE p t) (hn : n = max p 1) (hlt : t.1 < t.2.1) (hi : 0 ≤ i ∧ i < n) (hs : 0 ≤ s ∧ s + 1 < n) : (!decide (Mz n i (s + 1) t.1 = Mz n i (s + 1) t.2.1)) = sepM i ((i + (s + 1)) % n) t := by
  obtain ⟨k1, k2, k3, k4⟩ := ht
  have e0 := mod_2 (z := i + (s + 1)) (n := n) (by omega) (by omega)
  have e1 := mod_m (z := t.1 - i) (n := n) (by omega) (by omega)
  have e2 := mod_m (z := t.2.1 - i) (n := n) (by omega) (by omega)
  unfold sepM Mz
  rw [e0, e1, e2]
  congr 1
  rw [Bool.eq_iff_iff, decide_eq_true_eq, decide_eq_true_eq, decide_eq_decide, decide_eq_decide]
  split <;> split <;> split <;> omega
end Math

set_option Elab.async false
set_option linter.all false
set_option maxRecDepth 100000
set_option maxHeartbeats 2000000
namespace Math
open PySem FL Prg
open L2 (atI atI_nat ixN)
theorem tT_row {ts : List T3} {n : Nat} {i s : Int} (h : 0 ≤ i ∧ i < n) : (vecT ts n i s)[i.toNat]? = some (.vec (rowV ts n i s i)) := by
  unfold vecT
  rw [List.getElem?_map, List.getElem?_range (by omega)]
  show some (D.vec (rowV ts n i s ((i.toNat : Nat) : Int))) = _
  rw [Int.toNat_of_nonneg h.1]
theorem len_vecB (n : Nat) (i s : Int) : (vecB n i s).length = n := by unfold vecB; rw [List.length_map, List.length_range]
theorem len_vecT (ts : List T3) (n : Nat) (i s : Int) : (vecT ts n i s).length = n := by unfold vecT; rw [List.length_map, List.length_range]
theorem len_rowV (ts : List T3) (n : Nat) (i s r : Int) : (rowV ts n i s r).length = n := by unfold rowV; rw [List.length_map, List.length_range]
/-- the cords in normal form on the rim -/
def NF (p : Int) (cs : List T3) : Prop := okL p cs ∧ ∀ t ∈ cs, t.1 < t.2.1
def envT (p : Int) (cs : List T3) (n : Nat) (i s : Int) : Rho := [some (.int p), some (.tup (cs.map tD)), some (.int n), some (.int i), none, some (.vec (vecT cs n i s)), some (.vec (vecB n i s)), none, none, none]
theorem tab_step (p : Int) (cs : List T3) (n : Nat) (i s : Int) (hn : (n : Int) = max p 1) (hc : NF p cs) (hl : cs.length < 1000000) (hi : 0 ≤ i ∧ i < n) (hs : 0 ≤ s ∧ s + 1 < n) :
    (sFgt [9, 4, 7] (sSeq (sSet 4 (eQ (qBin modD (qUn int1 (qBin addI (qV 3) (qV 7))) (qV 2)))) (sSeq (sPut 6 (qV 4) (eQ (qC (.bl true)))) (sPut2 5 (qV 3) (qV 4) (eFn sumL (aCons (eLc [9] (iSq (eV 1)) (gN 9) (tQ1 (qB (qBin neS (qBin ixD (qV 6) (qBin ixD (qV 9) (qC (.int 0)))) (qBin ixD (qV 6) (qBin ixD (qV 9) (qC (.int 1))))))) (eQ (qBin ixD (qV 9) (qC (.int 2))))) aNil))))))
      [some (.int p), some (.tup (cs.map tD)), some (.int n), some (.int i), none, some (.vec (vecT cs n i s)), some (.vec (vecB n i s)), some (.int (s + 1)), none, none] = .nx (envT p cs n i (s + 1)) := by
  have hm : modD (.int (i + (s + 1))) (.int n) = some (.int ((i + (s + 1)) % n)) := modD_i (by omega)
  have j0 := Int.emod_nonneg (i + (s + 1)) (show (n : Int) ≠ 0 by omega)
  have j1 := Int.emod_lt_of_pos (i + (s + 1)) (show (0 : Int) < n by omega)
  have x1 : ixN (vecB n i s).length ((i + (s + 1)) % n) = some ((i + (s + 1)) % n).toNat := by rw [len_vecB]; exact ixN_of ⟨j0, j1⟩
  have x2 : ixN (vecT cs n i s).length i = some i.toNat := by rw [len_vecT]; exact ixN_of hi
  have x3 : ixN (rowV cs n i s i).length ((i + (s + 1)) % n) = some ((i + (s + 1)) % n).toNat := by rw [len_rowV]; exact ixN_of ⟨j0, j1⟩
  have b1 := vecB_set n i s hi hs
  have b2 := vecT_set cs n i s hi hs
  have r1 := tT_row (ts := cs) (s := s) hi
  have key : lcl [9] (gN 9) (tQ1 (qB (qBin neS (qBin ixD (qV 6) (qBin ixD (qV 9) (qC (.int 0)))) (qBin ixD (qV 6) (qBin ixD (qV 9) (qC (.int 1))))))) (eQ (qBin ixD (qV 9) (qC (.int 2)))) (cs.map tD) []
      [some (.int p), some (.tup (cs.map tD)), some (.int n), some (.int i), some (.int ((i + (s + 1)) % n)), some (.vec (vecT cs n i s)), some (.vec (vecB n i (s + 1))), some (.int (s + 1)), none, none] =
      .ok ([] ++ (cs.filter (sepM i ((i + (s + 1)) % n))).map fun t => .int t.2.2) [some (.int p), some (.tup (cs.map tD)), some (.int n), some (.int i), some (.int ((i + (s + 1)) % n)), some (.vec (vecT cs n i s)), some (.vec (vecB n i (s + 1))), some (.int (s + 1)), none, none] :=
    lcl_map tD _ _ cs [] (by simp only [List.length_nil]; omega) fun t ht => by
      have ok := hc.1 t ht
      have k1 : 0 ≤ t.1 ∧ t.1 < n := by have := ok.1; omega
      have k2 : 0 ≤ t.2.1 ∧ t.2.1 < n := by have := ok.2.1; omega
      refine ⟨_, [some (.int p), some (.tup (cs.map tD)), some (.int n), some (.int i), some (.int ((i + (s + 1)) % n)), some (.vec (vecT cs n i s)), some (.vec (vecB n i (s + 1))), some (.int (s + 1)), none, some (tD t)], rfl, ?_, fun _ => ⟨[some (.int p), some (.tup (cs.map tD)), some (.int n), some (.int i), some (.int ((i + (s + 1)) % n)), some (.vec (vecT cs n i s)), some (.vec (vecB n i (s + 1))), some (.int (s + 1)), none, some (tD t)], ?_, rfl⟩, fun _ => rfl⟩
      · simp -implicitDefEqProofs only [runF, eBinR, qFld, eMth, eMth0, eProp, lot_pure, lot_frz, lot_isO, eBad, sBad, gT, gCo, gNl, sAsg, sDput, eDget, eDget2, dicO, sPut, sPut2, sq_tup, sq_lst, sq_vec, sNx, sSeq, sIf, sRet, sSet, sEx, sBk, sCt, sFgt, fgt, eC, eV, eM, eBin, eUn, aNil, aCons, eTup, eLst, eFn, tB1, tAnd, tOr, tNot, eAnd, eOr, eNot, eIf, eCall, eCallK, pick, eQ, tQ1, qV, qC, qBin, qUn, qB, qAnd, qOr, qNot, qIf, qAndT, qOrT, qNotT, qChain, eChain, eLc, sFor, iSq, iRg1, iRg2, gN, itms, rst, eApp, D.frz, D.frzs, D.pure, D.pures, bind_ok, bind_ex, stmt_ok, stmt_ex, seq_nx, seq_rt, seq_ex, seq_bk, seq_ct, fgt_nx, fgt_bk, fgt_ct, fgt_rt, fgt_ex, out_nx, out_rt, out_ex, opt_some, optL_some, andB_tt, andB_ff, andB_some, orB_tt, orB_ff, orB_some, andX_tt, andX_ff, andX_some, orX_tt, orX_ff, orX_some, itAnd, itOr, itAndX, itOrX, Option.bind_some, List.map_cons, List.map_nil, List.length_cons, List.length_nil, List.cons_append, List.nil_append, List.getElem?_cons_zero, List.getElem?_cons_succ, List.getElem?_nil, List.set_cons_zero, List.set_cons_succ, List.replicate, addI_i, subD_i, ltD_i, leD_i, gtD_i, geD_i, eqS_int, neS_int, eqS_bl, neS_bl, max2_i, min2_i, maxL_i, minL_i, int1_i, intL_i, if_true, if_false, ite_true, ite_false, and_true, true_and, and_self, Bool.and_self, Bool.and_true, Bool.true_and, Bool.and_false, Bool.false_and, Bool.or_true, Bool.true_or, Bool.or_false, Bool.false_or, Bool.not_true, Bool.not_false, Nat.reduceAdd, Nat.reduceSub, Nat.reduceEqDiff, List.filterMap_cons, List.filterMap_nil, decide_true, decide_false, Bool.false_eq_true, reduceIte, Int.reduceAdd, Int.reduceSub, Int.reduceMul, Int.reduceNeg, Int.reduceLT, Int.reduceLE, Int.reduceEq, Int.reduceMod, Int.reduceDiv, Int.lt_irrefl, reduceCtorEq, D.frzs_int, D.pures_int, cap_0, cap_1, cap_2, cap_3, cap_4, cap_5, cap_6, cap_7, cap_8, cap_9, cap_10, cap_11, cap_12, cap_13, cap_14, cap_15, cap_16, cap_17, cap_18, cap_19, cap_20, cap_21, cap_22, cap_23, cap_24, cap_25, cap_26, cap_27, cap_28, cap_29, cap_30, cap_31, cap_32, cap_33, cap_34, cap_35, cap_36, cap_37, cap_38, cap_39, cap_40, ix_0, ix_1, ix_vecB n i (s + 1) _ k1, ix_vecB n i (s + 1) _ k2, sep_met ok hn (hc.2 t ht) hi hs]
      · simp -implicitDefEqProofs only [runF, eBinR, qFld, eMth, eMth0, eProp, lot_pure, lot_frz, lot_isO, eBad, sBad, gT, gCo, gNl, sAsg, sDput, eDget, eDget2, dicO, sPut, sPut2, sq_tup, sq_lst, sq_vec, sNx, sSeq, sIf, sRet, sSet, sEx, sBk, sCt, sFgt, fgt, eC, eV, eM, eBin, eUn, aNil, aCons, eTup, eLst, eFn, tB1, tAnd, tOr, tNot, eAnd, eOr, eNot, eIf, eCall, eCallK, pick, eQ, tQ1, qV, qC, qBin, qUn, qB, qAnd, qOr, qNot, qIf, qAndT, qOrT, qNotT, qChain, eChain, eLc, sFor, iSq, iRg1, iRg2, gN, itms, rst, eApp, D.frz, D.frzs, D.pure, D.pures, bind_ok, bind_ex, stmt_ok, stmt_ex, seq_nx, seq_rt, seq_ex, seq_bk, seq_ct, fgt_nx, fgt_bk, fgt_ct, fgt_rt, fgt_ex, out_nx, out_rt, out_ex, opt_some, optL_some, andB_tt, andB_ff, andB_some, orB_tt, orB_ff, orB_some, andX_tt, andX_ff, andX_some, orX_tt, orX_ff, orX_some, itAnd, itOr, itAndX, itOrX, Option.bind_some, List.map_cons, List.map_nil, List.length_cons, List.length_nil, List.cons_append, List.nil_append, List.getElem?_cons_zero, List.getElem?_cons_succ, List.getElem?_nil, List.set_cons_zero, List.set_cons_succ, List.replicate, addI_i, subD_i, ltD_i, leD_i, gtD_i, geD_i, eqS_int, neS_int, eqS_bl, neS_bl, max2_i, min2_i, maxL_i, minL_i, int1_i, intL_i, if_true, if_false, ite_true, ite_false, and_true, true_and, and_self, Bool.and_self, Bool.and_true, Bool.true_and, Bool.and_false, Bool.false_and, Bool.or_true, Bool.true_or, Bool.or_false, Bool.false_or, Bool.not_true, Bool.not_false, Nat.reduceAdd, Nat.reduceSub, Nat.reduceEqDiff, List.filterMap_cons, List.filterMap_nil, decide_true, decide_false, Bool.false_eq_true, reduceIte, Int.reduceAdd, Int.reduceSub, Int.reduceMul, Int.reduceNeg, Int.reduceLT, Int.reduceLE, Int.reduceEq, Int.reduceMod, Int.reduceDiv, Int.lt_irrefl, reduceCtorEq, D.frzs_int, D.pures_int, cap_0, cap_1, cap_2, cap_3, cap_4, cap_5, cap_6, cap_7, cap_8, cap_9, cap_10, cap_11, cap_12, cap_13, cap_14, cap_15, cap_16, cap_17, cap_18, cap_19, cap_20, cap_21, cap_22, cap_23, cap_24, cap_25, cap_26, cap_27, cap_28, cap_29, cap_30, cap_31, cap_32, cap_33, cap_34, cap_35, cap_36, cap_37, cap_38, cap_39, cap_40, ix_2]
  have e2 : ((cs.filter (sepM i ((i + (s + 1)) % n))).map fun t => D.int t.2.2) = (((cs.filter (sepM i ((i + (s + 1)) % n))).map fun t => t.2.2)).map D.int := by rw [List.map_map]; rfl
  have e3 : (((cs.filter (sepM i ((i + (s + 1)) % n))).map fun t => t.2.2)).sum = passM cs i ((i + (s + 1)) % n) := rfl
  simp -implicitDefEqProofs only [runF, eBinR, qFld, eMth, eMth0, eProp, lot_pure, lot_frz, lot_isO, eBad, sBad, gT, gCo, gNl, sAsg, sDput, eDget, eDget2, dicO, sPut, sPut2, sq_tup, sq_lst, sq_vec, sNx, sSeq, sIf, sRet, sSet, sEx, sBk, sCt, sFgt, fgt, eC, eV, eM, eBin, eUn, aNil, aCons, eTup, eLst, eFn, tB1, tAnd, tOr, tNot, eAnd, eOr, eNot, eIf, eCall, eCallK, pick, eQ, tQ1, qV, qC, qBin, qUn, qB, qAnd, qOr, qNot, qIf, qAndT, qOrT, qNotT, qChain, eChain, eLc, sFor, iSq, iRg1, iRg2, gN, itms, rst, eApp, D.frz, D.frzs, D.pure, D.pures, bind_ok, bind_ex, stmt_ok, stmt_ex, seq_nx, seq_rt, seq_ex, seq_bk, seq_ct, fgt_nx, fgt_bk, fgt_ct, fgt_rt, fgt_ex, out_nx, out_rt, out_ex, opt_some, optL_some, andB_tt, andB_ff, andB_some, orB_tt, orB_ff, orB_some, andX_tt, andX_ff, andX_some, orX_tt, orX_ff, orX_some, itAnd, itOr, itAndX, itOrX, Option.bind_some, List.map_cons, List.map_nil, List.length_cons, List.length_nil, List.cons_append, List.nil_append, List.getElem?_cons_zero, List.getElem?_cons_succ, List.getElem?_nil, List.set_cons_zero, List.set_cons_succ, List.replicate, addI_i, subD_i, ltD_i, leD_i, gtD_i, geD_i, eqS_int, neS_int, eqS_bl, neS_bl, max2_i, min2_i, maxL_i, minL_i, int1_i, intL_i, if_true, if_false, ite_true, ite_false, and_true, true_and, and_self, Bool.and_self, Bool.and_true, Bool.true_and, Bool.and_false, Bool.false_and, Bool.or_true, Bool.true_or, Bool.or_false, Bool.false_or, Bool.not_true, Bool.not_false, Nat.reduceAdd, Nat.reduceSub, Nat.reduceEqDiff, List.filterMap_cons, List.filterMap_nil, decide_true, decide_false, Bool.false_eq_true, reduceIte, Int.reduceAdd, Int.reduceSub, Int.reduceMul, Int.reduceNeg, Int.reduceLT, Int.reduceLE, Int.reduceEq, Int.reduceMod, Int.reduceDiv, Int.lt_irrefl, reduceCtorEq, D.frzs_int, D.pures_int, cap_0, cap_1, cap_2, cap_3, cap_4, cap_5, cap_6, cap_7, cap_8, cap_9, cap_10, cap_11, cap_12, cap_13, cap_14, cap_15, cap_16, cap_17, cap_18, cap_19, cap_20, cap_21, cap_22, cap_23, cap_24, cap_25, cap_26, cap_27, cap_28, cap_29, cap_30, cap_31, cap_32, cap_33, cap_34, cap_35, cap_36, cap_37, cap_38, cap_39, cap_40, hm, x1, b1, frzs_tD, key, e2, sumL_vec, x2, r1, x3, e3, b2, envT]
end Math

set_option Elab.async false
set_option linter.all false
set_option maxRecDepth 100000
set_option maxHeartbeats 2000000
namespace Math
open PySem FL Prg
open L2 (atI atI_nat ixN)
theorem loop_nat {g : D → Rho → Option Rho} {b : Rho → RS} (f : Nat → D) (E : Nat → Rho) (m : Nat) (h : ∀ k, k < m → ∃ ρ1, g (f k) (E k) = some ρ1 ∧ b ρ1 = .nx (E (k + 1))) : loop g b ((List.range m).map f) (E 0) = .nx (E m) := by
  have key : ∀ j s, s + j = m → loop g b ((List.range' s j).map f) (E s) = .nx (E m) := by
    intro j
    induction j with
    | zero => intro s hs; simp only [Nat.add_zero] at hs; subst hs; rfl
    | succ j ih =>
      intro s hs
      obtain ⟨ρ1, h1, h2⟩ := h s (by omega)
      rw [List.range'_succ, List.map_cons]
      unfold loop
      simp only [h1, h2]
      exact ih (s + 1) (by omega)
  rw [List.range_eq_range']
  exact key m 0 (by omega)
theorem Mz_0 (n i x : Int) : Mz n i 0 x = false := by
  unfold Mz
  exact decide_eq_false (by omega)
theorem vecB_0 (n : Nat) (i : Int) : vecB n i 0 = (List.range n).map fun _ => .bl false := by
  unfold vecB
  exact List.map_congr_left fun x _ => by rw [Mz_0]
theorem pass_ii (ts : List T3) (i : Int) : passM ts i i = 0 := by
  unfold passM
  have : ts.filter (sepM i i) = [] := List.filter_eq_nil_iff.mpr fun t _ => by unfold sepM; simp
  rw [this]; rfl
theorem vecT_next (ts : List T3) (n : Nat) (i : Nat) (hi : i < n) : vecT ts n i ((n - 1 : Nat) : Int) = vecT ts n ((i + 1 : Nat) : Int) 0 := by
  unfold vecT
  refine List.map_congr_left fun r hr => ?_
  have hr' : r < n := List.mem_range.mp hr
  congr 1
  unfold rowV
  refine List.map_congr_left fun c hc => ?_
  have hc' : c < n := List.mem_range.mp hc
  congr 1
  unfold Tz
  rw [Mz_0]
  by_cases h1 : r < i
  · rw [if_pos (by omega), if_pos (by omega)]
  · rw [if_neg (by omega)]
    by_cases h2 : r = i
    · rw [if_pos (show (r : Int) < ((i + 1 : Nat) : Int) by omega)]
      by_cases h3 : c = i
      · rw [if_neg (fun z => by
          have := z.2
          unfold Mz at this
          rw [decide_eq_true_eq, h3, show ((i : Int) - i) = 0 by omega, Int.zero_emod] at this
          omega), h2, h3, pass_ii]
      · have e := mod_m (z := (c : Int) - i) (n := n) (by omega) (by omega)
        rw [if_pos ⟨by omega, by unfold Mz; rw [decide_eq_true_eq, e]; split <;> omega⟩]
    · rw [if_neg (fun z => h2 (by have := z.1; omega)), if_neg (by omega), if_neg (fun z => by cases z.2)]
theorem vecT_first (ts : List T3) (n : Nat) : vecT ts n 0 0 = (List.range n).map fun _ => .vec ((List.range n).map fun _ => .int 0) := by
  unfold vecT
  refine List.map_congr_left fun r _ => ?_
  congr 1
  unfold rowV
  refine List.map_congr_left fun c _ => ?_
  congr 1
  unfold Tz
  rw [Mz_0, if_neg (by omega), if_neg (fun z => by cases z.2)]
theorem inner_loop (p : Int) (cs : List T3) (n : Nat) (i : Int) (hn : (n : Int) = max p 1) (hc : NF p cs) (hl : cs.length < 1000000) (hi : 0 ≤ i ∧ i < n) :
    loop (gN 7) (sFgt [9, 4, 7] (sSeq (sSet 4 (eQ (qBin modD (qUn int1 (qBin addI (qV 3) (qV 7))) (qV 2)))) (sSeq (sPut 6 (qV 4) (eQ (qC (.bl true)))) (sPut2 5 (qV 3) (qV 4) (eFn sumL (aCons (eLc [9] (iSq (eV 1)) (gN 9) (tQ1 (qB (qBin neS (qBin ixD (qV 6) (qBin ixD (qV 9) (qC (.int 0)))) (qBin ixD (qV 6) (qBin ixD (qV 9) (qC (.int 1))))))) (eQ (qBin ixD (qV 9) (qC (.int 2))))) aNil))))))
      (((List.range (n - 1)).map fun (k : Nat) => (1 : Int) + k).map D.int) (envT p cs n i 0) = .nx (envT p cs n i ((n - 1 : Nat) : Int)) := by
  rw [List.map_map]
  refine loop_nat (fun k : Nat => D.int ((1 : Int) + k)) (fun s : Nat => envT p cs n i s) (n - 1) fun k hk => ⟨_, rfl, ?_⟩
  have e := tab_step p cs n i k hn hc hl hi ⟨by omega, by omega⟩
  have c1 : (1 : Int) + k = k + 1 := by omega
  have c2 : ((k + 1 : Nat) : Int) = k + 1 := by omega
  rw [c2, ← e]
  show sFgt _ _ [_, _, _, _, _, _, _, some (.int ((1 : Int) + k)), _, _] = _
  rw [c1]
def envO (p : Int) (cs : List T3) (n : Nat) (i : Nat) : Rho := [some (.int p), some (.tup (cs.map tD)), some (.int n), none, none, some (.vec (vecT cs n i 0)), none, none, none, none]
theorem outer_step (p : Int) (cs : List T3) (n : Nat) (i : Nat) (hn : (n : Int) = max p 1) (hN : n ≤ 1000) (hc : NF p cs) (hl : cs.length < 1000000) (hi : i < n) :
    (sFgt [9, 3, 4, 6, 7] (sSeq (sSet 6 (eLc [4] (iRg1 (aCons (eV 2) aNil)) (gN 4) tT (eQ (qC (.bl false))))) (sFgt [9, 4, 7] (sFor (iRg2 (aCons (eQ (qC (.int 1))) (aCons (eV 2) aNil))) (gN 7) (sFgt [9, 4, 7] (sSeq (sSet 4 (eQ (qBin modD (qUn int1 (qBin addI (qV 3) (qV 7))) (qV 2)))) (sSeq (sPut 6 (qV 4) (eQ (qC (.bl true)))) (sPut2 5 (qV 3) (qV 4) (eFn sumL (aCons (eLc [9] (iSq (eV 1)) (gN 9) (tQ1 (qB (qBin neS (qBin ixD (qV 6) (qBin ixD (qV 9) (qC (.int 0)))) (qBin ixD (qV 6) (qBin ixD (qV 9) (qC (.int 1))))))) (eQ (qBin ixD (qV 9) (qC (.int 2))))) aNil))))))))))
      [some (.int p), some (.tup (cs.map tD)), some (.int n), some (.int i), none, some (.vec (vecT cs n i 0)), none, none, none, none] = .nx (envO p cs n (i + 1)) := by
  have hb : bnd (n : Int) = true := bnd_of ⟨by omega, by omega⟩
  have hb1 : bnd (1 : Int) = true := bnd_of ⟨by decide, by decide⟩
  have il := inner_loop p cs n i hn hc hl ⟨by omega, by omega⟩
  have vn := vecT_next cs n i hi
  have fl : lcl [4] (gN 4) tT (eQ (qC (.bl false))) (((List.range n).map fun (k : Nat) => (0 : Int) + k).map D.int) [] [some (.int p), some (.tup (cs.map tD)), some (.int n), some (.int i), none, some (.vec (vecT cs n i 0)), none, none, none, none] =
      .ok (vecB n i 0) [some (.int p), some (.tup (cs.map tD)), some (.int n), some (.int i), none, some (.vec (vecT cs n i 0)), none, none, none, none] := by
    have := lcl_all (vs := [4]) (g := gN 4) (e := eQ (qC (.bl false))) (ρ := [some (.int p), some (.tup (cs.map tD)), some (.int n), some (.int i), none, some (.vec (vecT cs n i 0)), none, none, none, none]) D.int (fun _ => D.bl false) ((List.range n).map fun (k : Nat) => (0 : Int) + k) (by rw [List.length_map, List.length_range]; omega) fun x _ => ⟨_, [some (.int p), some (.tup (cs.map tD)), some (.int n), some (.int i), some (.int x), some (.vec (vecT cs n i 0)), none, none, none, none], rfl, rfl, rfl⟩
    rw [this, vecB_0, List.map_map]
    rfl
  have e1 : ((n : Int) - 1).toNat = n - 1 := by omega
  unfold envT at il
  generalize (sFgt [9, 4, 7] (sSeq (sSet 4 (eQ (qBin modD (qUn int1 (qBin addI (qV 3) (qV 7))) (qV 2)))) _)) = bb at il ⊢
  simp -implicitDefEqProofs only [runF, eBinR, qFld, eMth, eMth0, eProp, lot_pure, lot_frz, lot_isO, eBad, sBad, gT, gCo, gNl, sAsg, sDput, eDget, eDget2, dicO, sPut, sPut2, sq_tup, sq_lst, sq_vec, sNx, sSeq, sIf, sRet, sSet, sEx, sBk, sCt, sFgt, fgt, eC, eV, eM, eBin, eUn, aNil, aCons, eTup, eLst, eFn, tB1, tAnd, tOr, tNot, eAnd, eOr, eNot, eIf, eCall, eCallK, pick, eQ, tQ1, qV, qC, qBin, qUn, qB, qAnd, qOr, qNot, qIf, qAndT, qOrT, qNotT, qChain, eChain, eLc, sFor, iSq, iRg1, iRg2, gN, itms, rst, eApp, D.frz, D.frzs, D.pure, D.pures, bind_ok, bind_ex, stmt_ok, stmt_ex, seq_nx, seq_rt, seq_ex, seq_bk, seq_ct, fgt_nx, fgt_bk, fgt_ct, fgt_rt, fgt_ex, out_nx, out_rt, out_ex, opt_some, optL_some, andB_tt, andB_ff, andB_some, orB_tt, orB_ff, orB_some, andX_tt, andX_ff, andX_some, orX_tt, orX_ff, orX_some, itAnd, itOr, itAndX, itOrX, Option.bind_some, List.map_cons, List.map_nil, List.length_cons, List.length_nil, List.cons_append, List.nil_append, List.getElem?_cons_zero, List.getElem?_cons_succ, List.getElem?_nil, List.set_cons_zero, List.set_cons_succ, List.replicate, addI_i, subD_i, ltD_i, leD_i, gtD_i, geD_i, eqS_int, neS_int, eqS_bl, neS_bl, max2_i, min2_i, maxL_i, minL_i, int1_i, intL_i, if_true, if_false, ite_true, ite_false, and_true, true_and, and_self, Bool.and_self, Bool.and_true, Bool.true_and, Bool.and_false, Bool.false_and, Bool.or_true, Bool.true_or, Bool.or_false, Bool.false_or, Bool.not_true, Bool.not_false, Nat.reduceAdd, Nat.reduceSub, Nat.reduceEqDiff, List.filterMap_cons, List.filterMap_nil, decide_true, decide_false, Bool.false_eq_true, reduceIte, Int.reduceAdd, Int.reduceSub, Int.reduceMul, Int.reduceNeg, Int.reduceLT, Int.reduceLE, Int.reduceEq, Int.reduceMod, Int.reduceDiv, Int.lt_irrefl, reduceCtorEq, D.frzs_int, D.pures_int, cap_0, cap_1, cap_2, cap_3, cap_4, cap_5, cap_6, cap_7, cap_8, cap_9, cap_10, cap_11, cap_12, cap_13, cap_14, cap_15, cap_16, cap_17, cap_18, cap_19, cap_20, cap_21, cap_22, cap_23, cap_24, cap_25, cap_26, cap_27, cap_28, cap_29, cap_30, cap_31, cap_32, cap_33, cap_34, cap_35, cap_36, cap_37, cap_38, cap_39, cap_40, hb, hb1, rng_eq, Int.sub_zero, Int.toNat_natCast, fl, e1, il, vn, envO]
theorem table_eq (p : Int) (cs : List T3) (n : Nat) (hn : (n : Int) = max p 1) (hN : n ≤ 1000) (hc : NF p cs) (hl : cs.length < 1000000) : d_law_table [.int p, .tup (cs.map tD)] = .rt (tblD n (passM cs)) := by
  have hb : bnd (n : Int) = true := bnd_of ⟨by omega, by omega⟩
  have lo := loop_nat (g := gN 3) (b := (sFgt [9, 3, 4, 6, 7] (sSeq (sSet 6 (eLc [4] (iRg1 (aCons (eV 2) aNil)) (gN 4) tT (eQ (qC (.bl false))))) (sFgt [9, 4, 7] (sFor (iRg2 (aCons (eQ (qC (.int 1))) (aCons (eV 2) aNil))) (gN 7) (sFgt [9, 4, 7] (sSeq (sSet 4 (eQ (qBin modD (qUn int1 (qBin addI (qV 3) (qV 7))) (qV 2)))) (sSeq (sPut 6 (qV 4) (eQ (qC (.bl true)))) (sPut2 5 (qV 3) (qV 4) (eFn sumL (aCons (eLc [9] (iSq (eV 1)) (gN 9) (tQ1 (qB (qBin neS (qBin ixD (qV 6) (qBin ixD (qV 9) (qC (.int 0)))) (qBin ixD (qV 6) (qBin ixD (qV 9) (qC (.int 1))))))) (eQ (qBin ixD (qV 9) (qC (.int 2))))) aNil)))))))))))
    (fun k : Nat => D.int ((0 : Int) + k)) (envO p cs n) n fun k hk => ⟨_, rfl, by
      have e := outer_step p cs n k hn hN hc hl hk
      rw [← e]
      show sFgt _ _ [_, _, _, some (.int ((0 : Int) + k)), _, _, _, _, _, _] = _
      rw [Int.zero_add]⟩
  have z1 : ∀ i : D, lcl [4] (gN 4) tT (eQ (qC (.int 0))) (((List.range n).map fun (k : Nat) => (0 : Int) + k).map D.int) [] [some (.int p), some (.tup (cs.map tD)), some (.int n), some i, none, none, none, none, none, none] =
      .ok ((List.range n).map fun _ => D.int 0) [some (.int p), some (.tup (cs.map tD)), some (.int n), some i, none, none, none, none, none, none] := fun i => by
    rw [lcl_all (vs := [4]) (g := gN 4) (e := eQ (qC (.int 0))) (ρ := [some (.int p), some (.tup (cs.map tD)), some (.int n), some i, none, none, none, none, none, none]) D.int (fun _ => D.int 0) ((List.range n).map fun (k : Nat) => (0 : Int) + k) (by rw [List.length_map, List.length_range]; omega) fun x _ => ⟨_, [some (.int p), some (.tup (cs.map tD)), some (.int n), some i, some (.int x), none, none, none, none, none], rfl, rfl, rfl⟩, List.map_map]
    rfl
  have z2 : lcl [3] (gN 3) tT (eLc [4] (iRg1 (aCons (eV 2) aNil)) (gN 4) tT (eQ (qC (.int 0)))) (((List.range n).map fun (k : Nat) => (0 : Int) + k).map D.int) [] [some (.int p), some (.tup (cs.map tD)), some (.int n), none, none, none, none, none, none, none] =
      .ok (vecT cs n 0 0) [some (.int p), some (.tup (cs.map tD)), some (.int n), none, none, none, none, none, none, none] := by
    rw [lcl_all (vs := [3]) (g := gN 3) (e := eLc [4] (iRg1 (aCons (eV 2) aNil)) (gN 4) tT (eQ (qC (.int 0)))) (ρ := [some (.int p), some (.tup (cs.map tD)), some (.int n), none, none, none, none, none, none, none]) D.int (fun _ => D.vec ((List.range n).map fun _ => D.int 0)) ((List.range n).map fun (k : Nat) => (0 : Int) + k) (by rw [List.length_map, List.length_range]; omega) fun x _ => ⟨_, [some (.int p), some (.tup (cs.map tD)), some (.int n), some (.int x), none, none, none, none, none, none], rfl, by simp -implicitDefEqProofs only [runF, eBinR, qFld, eMth, eMth0, eProp, lot_pure, lot_frz, lot_isO, eBad, sBad, gT, gCo, gNl, sAsg, sDput, eDget, eDget2, dicO, sPut, sPut2, sq_tup, sq_lst, sq_vec, sNx, sSeq, sIf, sRet, sSet, sEx, sBk, sCt, sFgt, fgt, eC, eV, eM, eBin, eUn, aNil, aCons, eTup, eLst, eFn, tB1, tAnd, tOr, tNot, eAnd, eOr, eNot, eIf, eCall, eCallK, pick, eQ, tQ1, qV, qC, qBin, qUn, qB, qAnd, qOr, qNot, qIf, qAndT, qOrT, qNotT, qChain, eChain, eLc, sFor, iSq, iRg1, iRg2, gN, itms, rst, eApp, D.frz, D.frzs, D.pure, D.pures, bind_ok, bind_ex, stmt_ok, stmt_ex, seq_nx, seq_rt, seq_ex, seq_bk, seq_ct, fgt_nx, fgt_bk, fgt_ct, fgt_rt, fgt_ex, out_nx, out_rt, out_ex, opt_some, optL_some, andB_tt, andB_ff, andB_some, orB_tt, orB_ff, orB_some, andX_tt, andX_ff, andX_some, orX_tt, orX_ff, orX_some, itAnd, itOr, itAndX, itOrX, Option.bind_some, List.map_cons, List.map_nil, List.length_cons, List.length_nil, List.cons_append, List.nil_append, List.getElem?_cons_zero, List.getElem?_cons_succ, List.getElem?_nil, List.set_cons_zero, List.set_cons_succ, List.replicate, addI_i, subD_i, ltD_i, leD_i, gtD_i, geD_i, eqS_int, neS_int, eqS_bl, neS_bl, max2_i, min2_i, maxL_i, minL_i, int1_i, intL_i, if_true, if_false, ite_true, ite_false, and_true, true_and, and_self, Bool.and_self, Bool.and_true, Bool.true_and, Bool.and_false, Bool.false_and, Bool.or_true, Bool.true_or, Bool.or_false, Bool.false_or, Bool.not_true, Bool.not_false, Nat.reduceAdd, Nat.reduceSub, Nat.reduceEqDiff, List.filterMap_cons, List.filterMap_nil, decide_true, decide_false, Bool.false_eq_true, reduceIte, Int.reduceAdd, Int.reduceSub, Int.reduceMul, Int.reduceNeg, Int.reduceLT, Int.reduceLE, Int.reduceEq, Int.reduceMod, Int.reduceDiv, Int.lt_irrefl, reduceCtorEq, D.frzs_int, D.pures_int, cap_0, cap_1, cap_2, cap_3, cap_4, cap_5, cap_6, cap_7, cap_8, cap_9, cap_10, cap_11, cap_12, cap_13, cap_14, cap_15, cap_16, cap_17, cap_18, cap_19, cap_20, cap_21, cap_22, cap_23, cap_24, cap_25, cap_26, cap_27, cap_28, cap_29, cap_30, cap_31, cap_32, cap_33, cap_34, cap_35, cap_36, cap_37, cap_38, cap_39, cap_40, hb, rng_eq, Int.sub_zero, Int.toNat_natCast, z1], rfl⟩, List.map_map, vecT_first]
    rfl
  have fz : D.frzs (vecT cs n n 0) = (List.range n).map fun (r : Nat) => D.lst (rowV cs n n 0 r) := by
    have rp : ∀ r : Int, D.frzs (rowV cs n n 0 r) = rowV cs n n 0 r := fun r => D.frzs_map (f := fun c : Nat => D.int (Tz cs n n 0 r c)) (fun _ => rfl) _
    have gen : ∀ l : List Nat, D.frzs (l.map fun (r : Nat) => D.vec (rowV cs n n 0 r)) = l.map fun (r : Nat) => D.lst (rowV cs n n 0 r) := fun l => by
      induction l with
      | nil => rfl
      | cons r l ih => rw [List.map_cons, D.frzs, ih, D.frz, rp]; rfl
    exact gen _
  have f1 : lcl [8] (gN 8) tT (eFn tupL (aCons (eV 8) aNil)) ((List.range n).map fun (r : Nat) => D.lst (rowV cs n n 0 r)) [] [some (.int p), some (.tup (cs.map tD)), some (.int n), none, none, some (.lst ((List.range n).map fun (r : Nat) => D.lst (rowV cs n n 0 r))), none, none, none, none] =
      .ok ((List.range n).map fun (r : Nat) => rowD n (passM cs) r) [some (.int p), some (.tup (cs.map tD)), some (.int n), none, none, some (.lst ((List.range n).map fun (r : Nat) => D.lst (rowV cs n n 0 r))), none, none, none, none] := by
    refine lcl_all (fun r : Nat => D.lst (rowV cs n n 0 r)) (fun r : Nat => rowD n (passM cs) r) (List.range n) (by rw [List.length_range]; omega) fun r hr => ?_
    have hr' : r < n := List.mem_range.mp hr
    have e : D.tup (rowV cs n n 0 r) = rowD n (passM cs) r := by
      unfold rowV rowD
      congr 1
      refine List.map_congr_left fun c _ => ?_
      unfold Tz
      rw [if_pos (by omega)]
    have rp : D.frzs (rowV cs n n 0 r) = rowV cs n n 0 r := D.frzs_map (f := fun c : Nat => D.int (Tz cs n n 0 r c)) (fun _ => rfl) _
    refine ⟨_, [some (.int p), some (.tup (cs.map tD)), some (.int n), none, none, some (.lst ((List.range n).map fun (r : Nat) => D.lst (rowV cs n n 0 r))), none, none, some (.lst (rowV cs n n 0 r)), none], rfl, ?_, rfl⟩
    simp -implicitDefEqProofs only [runF, eBinR, qFld, eMth, eMth0, eProp, lot_pure, lot_frz, lot_isO, eBad, sBad, gT, gCo, gNl, sAsg, sDput, eDget, eDget2, dicO, sPut, sPut2, sq_tup, sq_lst, sq_vec, sNx, sSeq, sIf, sRet, sSet, sEx, sBk, sCt, sFgt, fgt, eC, eV, eM, eBin, eUn, aNil, aCons, eTup, eLst, eFn, tB1, tAnd, tOr, tNot, eAnd, eOr, eNot, eIf, eCall, eCallK, pick, eQ, tQ1, qV, qC, qBin, qUn, qB, qAnd, qOr, qNot, qIf, qAndT, qOrT, qNotT, qChain, eChain, eLc, sFor, iSq, iRg1, iRg2, gN, itms, rst, eApp, D.frz, D.frzs, D.pure, D.pures, bind_ok, bind_ex, stmt_ok, stmt_ex, seq_nx, seq_rt, seq_ex, seq_bk, seq_ct, fgt_nx, fgt_bk, fgt_ct, fgt_rt, fgt_ex, out_nx, out_rt, out_ex, opt_some, optL_some, andB_tt, andB_ff, andB_some, orB_tt, orB_ff, orB_some, andX_tt, andX_ff, andX_some, orX_tt, orX_ff, orX_some, itAnd, itOr, itAndX, itOrX, Option.bind_some, List.map_cons, List.map_nil, List.length_cons, List.length_nil, List.cons_append, List.nil_append, List.getElem?_cons_zero, List.getElem?_cons_succ, List.getElem?_nil, List.set_cons_zero, List.set_cons_succ, List.replicate, addI_i, subD_i, ltD_i, leD_i, gtD_i, geD_i, eqS_int, neS_int, eqS_bl, neS_bl, max2_i, min2_i, maxL_i, minL_i, int1_i, intL_i, if_true, if_false, ite_true, ite_false, and_true, true_and, and_self, Bool.and_self, Bool.and_true, Bool.true_and, Bool.and_false, Bool.false_and, Bool.or_true, Bool.true_or, Bool.or_false, Bool.false_or, Bool.not_true, Bool.not_false, Nat.reduceAdd, Nat.reduceSub, Nat.reduceEqDiff, List.filterMap_cons, List.filterMap_nil, decide_true, decide_false, Bool.false_eq_true, reduceIte, Int.reduceAdd, Int.reduceSub, Int.reduceMul, Int.reduceNeg, Int.reduceLT, Int.reduceLE, Int.reduceEq, Int.reduceMod, Int.reduceDiv, Int.lt_irrefl, reduceCtorEq, D.frzs_int, D.pures_int, cap_0, cap_1, cap_2, cap_3, cap_4, cap_5, cap_6, cap_7, cap_8, cap_9, cap_10, cap_11, cap_12, cap_13, cap_14, cap_15, cap_16, cap_17, cap_18, cap_19, cap_20, cap_21, cap_22, cap_23, cap_24, cap_25, cap_26, cap_27, cap_28, cap_29, cap_30, cap_31, cap_32, cap_33, cap_34, cap_35, cap_36, cap_37, cap_38, cap_39, cap_40, rp, tupL_sq (sq_lst _), e]
  have lo' : loop (gN 3) (sFgt [9, 3, 4, 6, 7] (sSeq (sSet 6 (eLc [4] (iRg1 (aCons (eV 2) aNil)) (gN 4) tT (eQ (qC (.bl false))))) (sFgt [9, 4, 7] (sFor (iRg2 (aCons (eQ (qC (.int 1))) (aCons (eV 2) aNil))) (gN 7) (sFgt [9, 4, 7] (sSeq (sSet 4 (eQ (qBin modD (qUn int1 (qBin addI (qV 3) (qV 7))) (qV 2)))) (sSeq (sPut 6 (qV 4) (eQ (qC (.bl true)))) (sPut2 5 (qV 3) (qV 4) (eFn sumL (aCons (eLc [9] (iSq (eV 1)) (gN 9) (tQ1 (qB (qBin neS (qBin ixD (qV 6) (qBin ixD (qV 9) (qC (.int 0)))) (qBin ixD (qV 6) (qBin ixD (qV 9) (qC (.int 1))))))) (eQ (qBin ixD (qV 9) (qC (.int 2))))) aNil)))))))))) (((List.range n).map fun (k : Nat) => (0 : Int) + k).map D.int) [some (.int p), some (.tup (cs.map tD)), some (.int n), none, none, some (.vec (vecT cs n 0 0)), none, none, none, none] = .nx [some (.int p), some (.tup (cs.map tD)), some (.int n), none, none, some (.vec (vecT cs n n 0)), none, none, none, none] := by
    rw [List.map_map]
    exact lo
  unfold d_law_table b_d_law_table
  generalize (sFgt [9, 3, 4, 6, 7] (sSeq (sSet 6 (eLc [4] (iRg1 (aCons (eV 2) aNil)) (gN 4) tT (eQ (qC (.bl false))))) (sFgt [9, 4, 7] (sFor (iRg2 (aCons (eQ (qC (.int 1))) (aCons (eV 2) aNil))) (gN 7) (sFgt [9, 4, 7] (sSeq (sSet 4 (eQ (qBin modD (qUn int1 (qBin addI (qV 3) (qV 7))) (qV 2)))) (sSeq (sPut 6 (qV 4) (eQ (qC (.bl true)))) (sPut2 5 (qV 3) (qV 4) (eFn sumL (aCons (eLc [9] (iSq (eV 1)) (gN 9) (tQ1 (qB (qBin neS (qBin ixD (qV 6) (qBin ixD (qV 9) (qC (.int 0)))) (qBin ixD (qV 6) (qBin ixD (qV 9) (qC (.int 1))))))) (eQ (qBin ixD (qV 9) (qC (.int 2))))) aNil)))))))))) = bb at lo' ⊢
  have hmax : max p 1 = (n : Int) := hn.symm
  have lrp : (D.lst ((List.range n).map fun (r : Nat) => D.lst (rowV cs n n 0 r))).frz = D.lst ((List.range n).map fun (r : Nat) => D.lst (rowV cs n n 0 r)) := by
    refine D.frz_of_pure ?_
    rw [D.pure]
    exact D.pures_map (f := fun r : Nat => D.lst (rowV cs n n 0 r)) (fun r => by rw [D.pure]; exact D.pures_map (f := fun c : Nat => D.int (Tz cs n n 0 r c)) (fun _ => rfl) _) _
  have lrp2 : D.frzs ((List.range n).map fun (r : Nat) => D.lst (rowV cs n n 0 r)) = (List.range n).map fun (r : Nat) => D.lst (rowV cs n n 0 r) := by
    exact D.frzs_map (f := fun r : Nat => D.lst (rowV cs n n 0 r)) (fun r => by rw [D.pure]; exact D.pures_map (f := fun c : Nat => D.int (Tz cs n n 0 r c)) (fun _ => rfl) _) _
  simp -implicitDefEqProofs only [runF, eBinR, qFld, eMth, eMth0, eProp, lot_pure, lot_frz, lot_isO, eBad, sBad, gT, gCo, gNl, sAsg, sDput, eDget, eDget2, dicO, sPut, sPut2, sq_tup, sq_lst, sq_vec, sNx, sSeq, sIf, sRet, sSet, sEx, sBk, sCt, sFgt, fgt, eC, eV, eM, eBin, eUn, aNil, aCons, eTup, eLst, eFn, tB1, tAnd, tOr, tNot, eAnd, eOr, eNot, eIf, eCall, eCallK, pick, eQ, tQ1, qV, qC, qBin, qUn, qB, qAnd, qOr, qNot, qIf, qAndT, qOrT, qNotT, qChain, eChain, eLc, sFor, iSq, iRg1, iRg2, gN, itms, rst, eApp, D.frz, D.frzs, D.pure, D.pures, bind_ok, bind_ex, stmt_ok, stmt_ex, seq_nx, seq_rt, seq_ex, seq_bk, seq_ct, fgt_nx, fgt_bk, fgt_ct, fgt_rt, fgt_ex, out_nx, out_rt, out_ex, opt_some, optL_some, andB_tt, andB_ff, andB_some, orB_tt, orB_ff, orB_some, andX_tt, andX_ff, andX_some, orX_tt, orX_ff, orX_some, itAnd, itOr, itAndX, itOrX, Option.bind_some, List.map_cons, List.map_nil, List.length_cons, List.length_nil, List.cons_append, List.nil_append, List.getElem?_cons_zero, List.getElem?_cons_succ, List.getElem?_nil, List.set_cons_zero, List.set_cons_succ, List.replicate, addI_i, subD_i, ltD_i, leD_i, gtD_i, geD_i, eqS_int, neS_int, eqS_bl, neS_bl, max2_i, min2_i, maxL_i, minL_i, int1_i, intL_i, if_true, if_false, ite_true, ite_false, and_true, true_and, and_self, Bool.and_self, Bool.and_true, Bool.true_and, Bool.and_false, Bool.false_and, Bool.or_true, Bool.true_or, Bool.or_false, Bool.false_or, Bool.not_true, Bool.not_false, Nat.reduceAdd, Nat.reduceSub, Nat.reduceEqDiff, List.filterMap_cons, List.filterMap_nil, decide_true, decide_false, Bool.false_eq_true, reduceIte, Int.reduceAdd, Int.reduceSub, Int.reduceMul, Int.reduceNeg, Int.reduceLT, Int.reduceLE, Int.reduceEq, Int.reduceMod, Int.reduceDiv, Int.lt_irrefl, reduceCtorEq, D.frzs_int, D.pures_int, cap_0, cap_1, cap_2, cap_3, cap_4, cap_5, cap_6, cap_7, cap_8, cap_9, cap_10, cap_11, cap_12, cap_13, cap_14, cap_15, cap_16, cap_17, cap_18, cap_19, cap_20, cap_21, cap_22, cap_23, cap_24, cap_25, cap_26, cap_27, cap_28, cap_29, cap_30, cap_31, cap_32, cap_33, cap_34, cap_35, cap_36, cap_37, cap_38, cap_39, cap_40, hmax, hb, rng_eq, Int.sub_zero, Int.toNat_natCast, z2, lo', fz, lrp2, f1, tupL_sq (sq_vec _), tblD]
end Math

set_option Elab.async false
set_option linter.all false
set_option maxRecDepth 100000
set_option maxHeartbeats 2000000
namespace Math
open PySem FL Prg
open L2 (atI atI_nat ixN)
theorem cell_eq (ns : List Int) (k : Int) (h0 : 0 ≤ k) (h1 : k ≤ 1000) (hl : ns.length ≤ 63) : ∃ c, d_law_cell [.lst (ns.map .int), .int k] = .rt (.int c) := by
  have e : sq (.lst (ns.map D.int)) = some (ns.map .int) := rfl
  by_cases h : k < (ns.length : Int)
  · refine ⟨ns[k.toNat]'(by omega), ?_⟩
    have a1 : atI (ns.map D.int) k = some (.int (ns[k.toNat]'(by omega))) := by
      rw [atI_lt h0 (by simp; omega)]; simp
    simp -implicitDefEqProofs only [d_law_cell, b_d_law_cell, runF, eBinR, qFld, eMth, eMth0, eProp, lot_pure, lot_frz, lot_isO, eBad, sBad, gT, gCo, gNl, sAsg, sDput, eDget, eDget2, dicO, sPut, sPut2, sq_tup, sq_lst, sq_vec, sNx, sSeq, sIf, sRet, sSet, sEx, sBk, sCt, sFgt, fgt, eC, eV, eM, eBin, eUn, aNil, aCons, eTup, eLst, eFn, tB1, tAnd, tOr, tNot, eAnd, eOr, eNot, eIf, eCall, eCallK, pick, eQ, tQ1, qV, qC, qBin, qUn, qB, qAnd, qOr, qNot, qIf, qAndT, qOrT, qNotT, qChain, eChain, eLc, sFor, iSq, iRg1, iRg2, gN, itms, rst, eApp, D.frz, D.frzs, D.pure, D.pures, bind_ok, bind_ex, stmt_ok, stmt_ex, seq_nx, seq_rt, seq_ex, seq_bk, seq_ct, fgt_nx, fgt_bk, fgt_ct, fgt_rt, fgt_ex, out_nx, out_rt, out_ex, opt_some, optL_some, andB_tt, andB_ff, andB_some, orB_tt, orB_ff, orB_some, andX_tt, andX_ff, andX_some, orX_tt, orX_ff, orX_some, itAnd, itOr, itAndX, itOrX, Option.bind_some, List.map_cons, List.map_nil, List.length_cons, List.length_nil, List.cons_append, List.nil_append, List.getElem?_cons_zero, List.getElem?_cons_succ, List.getElem?_nil, List.set_cons_zero, List.set_cons_succ, List.replicate, addI_i, subD_i, ltD_i, leD_i, gtD_i, geD_i, eqS_int, neS_int, eqS_bl, neS_bl, max2_i, min2_i, maxL_i, minL_i, int1_i, intL_i, if_true, if_false, ite_true, ite_false, and_true, true_and, and_self, Bool.and_self, Bool.and_true, Bool.true_and, Bool.and_false, Bool.false_and, Bool.or_true, Bool.true_or, Bool.or_false, Bool.false_or, Bool.not_true, Bool.not_false, Nat.reduceAdd, Nat.reduceSub, Nat.reduceEqDiff, List.filterMap_cons, List.filterMap_nil, decide_true, decide_false, Bool.false_eq_true, reduceIte, Int.reduceAdd, Int.reduceSub, Int.reduceMul, Int.reduceNeg, Int.reduceLT, Int.reduceLE, Int.reduceEq, Int.reduceMod, Int.reduceDiv, Int.lt_irrefl, reduceCtorEq, D.frzs_int, D.pures_int, cap_0, cap_1, cap_2, cap_3, cap_4, cap_5, cap_6, cap_7, cap_8, cap_9, cap_10, cap_11, cap_12, cap_13, cap_14, cap_15, cap_16, cap_17, cap_18, cap_19, cap_20, cap_21, cap_22, cap_23, cap_24, cap_25, cap_26, cap_27, cap_28, cap_29, cap_30, cap_31, cap_32, cap_33, cap_34, cap_35, cap_36, cap_37, cap_38, cap_39, cap_40, len1_sq e, List.length_map, h, ixD_sq e a1]
  · simp -implicitDefEqProofs only [d_law_cell, b_d_law_cell, runF, eBinR, qFld, eMth, eMth0, eProp, lot_pure, lot_frz, lot_isO, eBad, sBad, gT, gCo, gNl, sAsg, sDput, eDget, eDget2, dicO, sPut, sPut2, sq_tup, sq_lst, sq_vec, sNx, sSeq, sIf, sRet, sSet, sEx, sBk, sCt, sFgt, fgt, eC, eV, eM, eBin, eUn, aNil, aCons, eTup, eLst, eFn, tB1, tAnd, tOr, tNot, eAnd, eOr, eNot, eIf, eCall, eCallK, pick, eQ, tQ1, qV, qC, qBin, qUn, qB, qAnd, qOr, qNot, qIf, qAndT, qOrT, qNotT, qChain, eChain, eLc, sFor, iSq, iRg1, iRg2, gN, itms, rst, eApp, D.frz, D.frzs, D.pure, D.pures, bind_ok, bind_ex, stmt_ok, stmt_ex, seq_nx, seq_rt, seq_ex, seq_bk, seq_ct, fgt_nx, fgt_bk, fgt_ct, fgt_rt, fgt_ex, out_nx, out_rt, out_ex, opt_some, optL_some, andB_tt, andB_ff, andB_some, orB_tt, orB_ff, orB_some, andX_tt, andX_ff, andX_some, orX_tt, orX_ff, orX_some, itAnd, itOr, itAndX, itOrX, Option.bind_some, List.map_cons, List.map_nil, List.length_cons, List.length_nil, List.cons_append, List.nil_append, List.getElem?_cons_zero, List.getElem?_cons_succ, List.getElem?_nil, List.set_cons_zero, List.set_cons_succ, List.replicate, addI_i, subD_i, ltD_i, leD_i, gtD_i, geD_i, eqS_int, neS_int, eqS_bl, neS_bl, max2_i, min2_i, maxL_i, minL_i, int1_i, intL_i, if_true, if_false, ite_true, ite_false, and_true, true_and, and_self, Bool.and_self, Bool.and_true, Bool.true_and, Bool.and_false, Bool.false_and, Bool.or_true, Bool.true_or, Bool.or_false, Bool.false_or, Bool.not_true, Bool.not_false, Nat.reduceAdd, Nat.reduceSub, Nat.reduceEqDiff, List.filterMap_cons, List.filterMap_nil, decide_true, decide_false, Bool.false_eq_true, reduceIte, Int.reduceAdd, Int.reduceSub, Int.reduceMul, Int.reduceNeg, Int.reduceLT, Int.reduceLE, Int.reduceEq, Int.reduceMod, Int.reduceDiv, Int.lt_irrefl, reduceCtorEq, D.frzs_int, D.pures_int, cap_0, cap_1, cap_2, cap_3, cap_4, cap_5, cap_6, cap_7, cap_8, cap_9, cap_10, cap_11, cap_12, cap_13, cap_14, cap_15, cap_16, cap_17, cap_18, cap_19, cap_20, cap_21, cap_22, cap_23, cap_24, cap_25, cap_26, cap_27, cap_28, cap_29, cap_30, cap_31, cap_32, cap_33, cap_34, cap_35, cap_36, cap_37, cap_38, cap_39, cap_40, len1_sq e, List.length_map, h]
    obtain ⟨h2, h3⟩ := loop_fold (g := gN 3) (b := sFgt [3] (sSet 2 (eQ (qBin modD (qUn int1 (qBin addI (qBin mulD (qV 2) (qC (.int 31))) (qBin modD (qUn int1 (qV 3)) (qC (.int 1000003))))) (qC (.int 1000003)))))) D.int (fun s : Int => [some (.lst (ns.map D.int)), some (.int k), some (.int s), none]) (fun s x => (s * 31 + x % 1000003) % 1000003) (fun s => 0 ≤ s ∧ s < 1000003) ns
      (fun s x _ _ => by omega) (fun s x _ hs => ⟨_, rfl, by
        simp -implicitDefEqProofs only [runF, eBinR, qFld, eMth, eMth0, eProp, lot_pure, lot_frz, lot_isO, eBad, sBad, gT, gCo, gNl, sAsg, sDput, eDget, eDget2, dicO, sPut, sPut2, sq_tup, sq_lst, sq_vec, sNx, sSeq, sIf, sRet, sSet, sEx, sBk, sCt, sFgt, fgt, eC, eV, eM, eBin, eUn, aNil, aCons, eTup, eLst, eFn, tB1, tAnd, tOr, tNot, eAnd, eOr, eNot, eIf, eCall, eCallK, pick, eQ, tQ1, qV, qC, qBin, qUn, qB, qAnd, qOr, qNot, qIf, qAndT, qOrT, qNotT, qChain, eChain, eLc, sFor, iSq, iRg1, iRg2, gN, itms, rst, eApp, D.frz, D.frzs, D.pure, D.pures, bind_ok, bind_ex, stmt_ok, stmt_ex, seq_nx, seq_rt, seq_ex, seq_bk, seq_ct, fgt_nx, fgt_bk, fgt_ct, fgt_rt, fgt_ex, out_nx, out_rt, out_ex, opt_some, optL_some, andB_tt, andB_ff, andB_some, orB_tt, orB_ff, orB_some, andX_tt, andX_ff, andX_some, orX_tt, orX_ff, orX_some, itAnd, itOr, itAndX, itOrX, Option.bind_some, List.map_cons, List.map_nil, List.length_cons, List.length_nil, List.cons_append, List.nil_append, List.getElem?_cons_zero, List.getElem?_cons_succ, List.getElem?_nil, List.set_cons_zero, List.set_cons_succ, List.replicate, addI_i, subD_i, ltD_i, leD_i, gtD_i, geD_i, eqS_int, neS_int, eqS_bl, neS_bl, max2_i, min2_i, maxL_i, minL_i, int1_i, intL_i, if_true, if_false, ite_true, ite_false, and_true, true_and, and_self, Bool.and_self, Bool.and_true, Bool.true_and, Bool.and_false, Bool.false_and, Bool.or_true, Bool.true_or, Bool.or_false, Bool.false_or, Bool.not_true, Bool.not_false, Nat.reduceAdd, Nat.reduceSub, Nat.reduceEqDiff, List.filterMap_cons, List.filterMap_nil, decide_true, decide_false, Bool.false_eq_true, reduceIte, Int.reduceAdd, Int.reduceSub, Int.reduceMul, Int.reduceNeg, Int.reduceLT, Int.reduceLE, Int.reduceEq, Int.reduceMod, Int.reduceDiv, Int.lt_irrefl, reduceCtorEq, D.frzs_int, D.pures_int, cap_0, cap_1, cap_2, cap_3, cap_4, cap_5, cap_6, cap_7, cap_8, cap_9, cap_10, cap_11, cap_12, cap_13, cap_14, cap_15, cap_16, cap_17, cap_18, cap_19, cap_20, cap_21, cap_22, cap_23, cap_24, cap_25, cap_26, cap_27, cap_28, cap_29, cap_30, cap_31, cap_32, cap_33, cap_34, cap_35, cap_36, cap_37, cap_38, cap_39, cap_40, mulD_i (show (-(2 ^ 64) < s ∧ s < 2 ^ 64) ∨ _ from .inl ⟨by omega, by omega⟩), modD_i (show (0 : Int) < 1000003 by decide)]⟩) 17 (by decide)
    rw [h2]
    have m1 : ∀ s : Int, 0 ≤ s ∧ s < 1000003 → mulD (.int (s + 7)) (.int (k + 3)) = some (.int ((s + 7) * (k + 3))) := fun s hs => mulD_i (.inl ⟨by omega, by omega⟩)
    have m2 : ∀ z : Int, mulD (.int z) (.int 69621) = some (.int (z * 69621)) := fun z => mulD_i (.inr ⟨by decide, by decide⟩)
    exact ⟨_, by simp -implicitDefEqProofs only [runF, eBinR, qFld, eMth, eMth0, eProp, lot_pure, lot_frz, lot_isO, eBad, sBad, gT, gCo, gNl, sAsg, sDput, eDget, eDget2, dicO, sPut, sPut2, sq_tup, sq_lst, sq_vec, sNx, sSeq, sIf, sRet, sSet, sEx, sBk, sCt, sFgt, fgt, eC, eV, eM, eBin, eUn, aNil, aCons, eTup, eLst, eFn, tB1, tAnd, tOr, tNot, eAnd, eOr, eNot, eIf, eCall, eCallK, pick, eQ, tQ1, qV, qC, qBin, qUn, qB, qAnd, qOr, qNot, qIf, qAndT, qOrT, qNotT, qChain, eChain, eLc, sFor, iSq, iRg1, iRg2, gN, itms, rst, eApp, D.frz, D.frzs, D.pure, D.pures, bind_ok, bind_ex, stmt_ok, stmt_ex, seq_nx, seq_rt, seq_ex, seq_bk, seq_ct, fgt_nx, fgt_bk, fgt_ct, fgt_rt, fgt_ex, out_nx, out_rt, out_ex, opt_some, optL_some, andB_tt, andB_ff, andB_some, orB_tt, orB_ff, orB_some, andX_tt, andX_ff, andX_some, orX_tt, orX_ff, orX_some, itAnd, itOr, itAndX, itOrX, Option.bind_some, List.map_cons, List.map_nil, List.length_cons, List.length_nil, List.cons_append, List.nil_append, List.getElem?_cons_zero, List.getElem?_cons_succ, List.getElem?_nil, List.set_cons_zero, List.set_cons_succ, List.replicate, addI_i, subD_i, ltD_i, leD_i, gtD_i, geD_i, eqS_int, neS_int, eqS_bl, neS_bl, max2_i, min2_i, maxL_i, minL_i, int1_i, intL_i, if_true, if_false, ite_true, ite_false, and_true, true_and, and_self, Bool.and_self, Bool.and_true, Bool.true_and, Bool.and_false, Bool.false_and, Bool.or_true, Bool.true_or, Bool.or_false, Bool.false_or, Bool.not_true, Bool.not_false, Nat.reduceAdd, Nat.reduceSub, Nat.reduceEqDiff, List.filterMap_cons, List.filterMap_nil, decide_true, decide_false, Bool.false_eq_true, reduceIte, Int.reduceAdd, Int.reduceSub, Int.reduceMul, Int.reduceNeg, Int.reduceLT, Int.reduceLE, Int.reduceEq, Int.reduceMod, Int.reduceDiv, Int.lt_irrefl, reduceCtorEq, D.frzs_int, D.pures_int, cap_0, cap_1, cap_2, cap_3, cap_4, cap_5, cap_6, cap_7, cap_8, cap_9, cap_10, cap_11, cap_12, cap_13, cap_14, cap_15, cap_16, cap_17, cap_18, cap_19, cap_20, cap_21, cap_22, cap_23, cap_24, cap_25, cap_26, cap_27, cap_28, cap_29, cap_30, cap_31, cap_32, cap_33, cap_34, cap_35, cap_36, cap_37, cap_38, cap_39, cap_40, m1 _ h3, m2, modD_i (show (0 : Int) < 2147483647 by decide)]; rfl⟩

def InR : List Int → List Int → Prop
  | [], [] => True
  | r :: rs, s :: ss => (0 ≤ r ∧ r < s) ∧ InR rs ss
  | _, _ => False
theorem inR_snoc : ∀ {rs ss : List Int} {r s : Int}, InR rs ss → 0 ≤ r ∧ r < s → InR (rs ++ [r]) (ss ++ [s])
  | [], [], r, s, _, h => ⟨h, trivial⟩
  | [], _ :: _, _, _, h, _ => h.elim
  | _ :: _, [], _, _, h, _ => h.elim
  | _ :: _, _ :: _, _, _, h, h2 => ⟨h.1, inR_snoc h.2 h2⟩
theorem inR_len : ∀ {rs ss : List Int}, InR rs ss → rs.length = ss.length
  | [], [], _ => rfl
  | [], _ :: _, h => h.elim
  | _ :: _, [], h => h.elim
  | _ :: _, _ :: _, h => by rw [List.length_cons, List.length_cons, inR_len h.2]
theorem digits_eq (c : Int) (ss : List Int) (hs : ∀ s ∈ ss, 0 < s ∧ s < 1073741824) (hl : ss.length ≤ 1000) : ∃ row, d_law_digits [.int c, .lst (ss.map .int)] = .rt (.vec (row.map .int)) ∧ InR row ss := by
  have hb : bnd (ss.length : Int) = true := bnd_of ⟨by omega, by omega⟩
  have e1 : sq (.lst (ss.map D.int)) = some (ss.map .int) := rfl
  by_cases hc : (1000000000000000000 : Int) ≤ c
  · have lp := loop_ind (g := gN 4) (b := (sFgt [4] (sSeq (sEx (eApp 2 (eQ (qBin modD (qUn int1 (qV 3)) (qV 4))))) (sSet 3 (eQ (qBin divD (qUn int1 (qV 3)) (qV 4))))))) D.int
      (fun xs ρ => ∃ pre row rest, pre ++ xs = ss ∧ InR row pre ∧ ρ = [some (.int c), some (.lst (ss.map .int)), some (.vec (row.map .int)), some (.int rest), none, none, none, none])
      (fun z => ∃ row rest, InR row ss ∧ z = .nx [some (.int c), some (.lst (ss.map .int)), some (.vec (row.map .int)), some (.int rest), none, none, none, none])
      (fun ρ ⟨pre, row, rest, h1, h2, h3⟩ => by
        rw [List.append_nil] at h1
        subst h1 h3
        exact ⟨row, rest, h2, rfl⟩)
      (fun x xs ρ ⟨pre, row, rest, h1, h2, h3⟩ => by
        subst h3
        have hx : 0 < x ∧ x < 1073741824 := hs x (by rw [← h1]; simp)
        have hln := inR_len h2
        have hc : cap (row.map D.int).length = true := cap_of (by
          rw [List.length_map]
          rw [← h1, List.length_append] at hl
          omega)
        refine ⟨_, rfl, .inl ⟨[some (.int c), some (.lst (ss.map .int)), some (.vec ((row ++ [rest % x]).map .int)), some (.int (rest / x)), none, none, none, none], .inl ?_, pre ++ [x], row ++ [rest % x], rest / x, by rw [List.append_assoc]; exact h1, inR_snoc h2 ⟨Int.emod_nonneg _ (by omega), Int.emod_lt_of_pos _ hx.1⟩, rfl⟩⟩
        simp -implicitDefEqProofs only [runF, eBinR, qFld, eMth, eMth0, eProp, lot_pure, lot_frz, lot_isO, eBad, sBad, gT, gCo, gNl, sAsg, sDput, eDget, eDget2, dicO, sPut, sPut2, sq_tup, sq_lst, sq_vec, sNx, sSeq, sIf, sRet, sSet, sEx, sBk, sCt, sFgt, fgt, eC, eV, eM, eBin, eUn, aNil, aCons, eTup, eLst, eFn, tB1, tAnd, tOr, tNot, eAnd, eOr, eNot, eIf, eCall, eCallK, pick, eQ, tQ1, qV, qC, qBin, qUn, qB, qAnd, qOr, qNot, qIf, qAndT, qOrT, qNotT, qChain, eChain, eLc, sFor, iSq, iRg1, iRg2, gN, itms, rst, eApp, D.frz, D.frzs, D.pure, D.pures, bind_ok, bind_ex, stmt_ok, stmt_ex, seq_nx, seq_rt, seq_ex, seq_bk, seq_ct, fgt_nx, fgt_bk, fgt_ct, fgt_rt, fgt_ex, out_nx, out_rt, out_ex, opt_some, optL_some, andB_tt, andB_ff, andB_some, orB_tt, orB_ff, orB_some, andX_tt, andX_ff, andX_some, orX_tt, orX_ff, orX_some, itAnd, itOr, itAndX, itOrX, Option.bind_some, List.map_cons, List.map_nil, List.length_cons, List.length_nil, List.cons_append, List.nil_append, List.getElem?_cons_zero, List.getElem?_cons_succ, List.getElem?_nil, List.set_cons_zero, List.set_cons_succ, List.replicate, addI_i, subD_i, ltD_i, leD_i, gtD_i, geD_i, eqS_int, neS_int, eqS_bl, neS_bl, max2_i, min2_i, maxL_i, minL_i, int1_i, intL_i, if_true, if_false, ite_true, ite_false, and_true, true_and, and_self, Bool.and_self, Bool.and_true, Bool.true_and, Bool.and_false, Bool.false_and, Bool.or_true, Bool.true_or, Bool.or_false, Bool.false_or, Bool.not_true, Bool.not_false, Nat.reduceAdd, Nat.reduceSub, Nat.reduceEqDiff, List.filterMap_cons, List.filterMap_nil, decide_true, decide_false, Bool.false_eq_true, reduceIte, Int.reduceAdd, Int.reduceSub, Int.reduceMul, Int.reduceNeg, Int.reduceLT, Int.reduceLE, Int.reduceEq, Int.reduceMod, Int.reduceDiv, Int.lt_irrefl, reduceCtorEq, D.frzs_int, D.pures_int, cap_0, cap_1, cap_2, cap_3, cap_4, cap_5, cap_6, cap_7, cap_8, cap_9, cap_10, cap_11, cap_12, cap_13, cap_14, cap_15, cap_16, cap_17, cap_18, cap_19, cap_20, cap_21, cap_22, cap_23, cap_24, cap_25, cap_26, cap_27, cap_28, cap_29, cap_30, cap_31, cap_32, cap_33, cap_34, cap_35, cap_36, cap_37, cap_38, cap_39, cap_40, modD_i hx.1, divD_i hx, hc, List.map_append]) ss _ ⟨[], [], c - 1000000000000000000, rfl, trivial, rfl⟩
    obtain ⟨row, rest, h1, h2⟩ := lp
    refine ⟨row, ?_, h1⟩
    have h2' : loop (gN 4) (sFgt [4] (sSeq (sEx (eApp 2 (eQ (qBin modD (qUn int1 (qV 3)) (qV 4))))) (sSet 3 (eQ (qBin divD (qUn int1 (qV 3)) (qV 4)))))) (ss.map D.int) [some (.int c), some (.lst (ss.map .int)), some (.vec []), some (.int (c - 1000000000000000000)), none, none, none, none] = _ := h2
    unfold d_law_digits b_d_law_digits
    generalize (sFgt [4] (sSeq (sEx (eApp 2 (eQ (qBin modD (qUn int1 (qV 3)) (qV 4))))) (sSet 3 (eQ (qBin divD (qUn int1 (qV 3)) (qV 4)))))) = bb at h2' ⊢
    simp -implicitDefEqProofs only [runF, eBinR, qFld, eMth, eMth0, eProp, lot_pure, lot_frz, lot_isO, eBad, sBad, gT, gCo, gNl, sAsg, sDput, eDget, eDget2, dicO, sPut, sPut2, sq_tup, sq_lst, sq_vec, sNx, sSeq, sIf, sRet, sSet, sEx, sBk, sCt, sFgt, fgt, eC, eV, eM, eBin, eUn, aNil, aCons, eTup, eLst, eFn, tB1, tAnd, tOr, tNot, eAnd, eOr, eNot, eIf, eCall, eCallK, pick, eQ, tQ1, qV, qC, qBin, qUn, qB, qAnd, qOr, qNot, qIf, qAndT, qOrT, qNotT, qChain, eChain, eLc, sFor, iSq, iRg1, iRg2, gN, itms, rst, eApp, D.frz, D.frzs, D.pure, D.pures, bind_ok, bind_ex, stmt_ok, stmt_ex, seq_nx, seq_rt, seq_ex, seq_bk, seq_ct, fgt_nx, fgt_bk, fgt_ct, fgt_rt, fgt_ex, out_nx, out_rt, out_ex, opt_some, optL_some, andB_tt, andB_ff, andB_some, orB_tt, orB_ff, orB_some, andX_tt, andX_ff, andX_some, orX_tt, orX_ff, orX_some, itAnd, itOr, itAndX, itOrX, Option.bind_some, List.map_cons, List.map_nil, List.length_cons, List.length_nil, List.cons_append, List.nil_append, List.getElem?_cons_zero, List.getElem?_cons_succ, List.getElem?_nil, List.set_cons_zero, List.set_cons_succ, List.replicate, addI_i, subD_i, ltD_i, leD_i, gtD_i, geD_i, eqS_int, neS_int, eqS_bl, neS_bl, max2_i, min2_i, maxL_i, minL_i, int1_i, intL_i, if_true, if_false, ite_true, ite_false, and_true, true_and, and_self, Bool.and_self, Bool.and_true, Bool.true_and, Bool.and_false, Bool.false_and, Bool.or_true, Bool.true_or, Bool.or_false, Bool.false_or, Bool.not_true, Bool.not_false, Nat.reduceAdd, Nat.reduceSub, Nat.reduceEqDiff, List.filterMap_cons, List.filterMap_nil, decide_true, decide_false, Bool.false_eq_true, reduceIte, Int.reduceAdd, Int.reduceSub, Int.reduceMul, Int.reduceNeg, Int.reduceLT, Int.reduceLE, Int.reduceEq, Int.reduceMod, Int.reduceDiv, Int.lt_irrefl, reduceCtorEq, D.frzs_int, D.pures_int, cap_0, cap_1, cap_2, cap_3, cap_4, cap_5, cap_6, cap_7, cap_8, cap_9, cap_10, cap_11, cap_12, cap_13, cap_14, cap_15, cap_16, cap_17, cap_18, cap_19, cap_20, cap_21, cap_22, cap_23, cap_24, cap_25, cap_26, cap_27, cap_28, cap_29, cap_30, cap_31, cap_32, cap_33, cap_34, cap_35, cap_36, cap_37, cap_38, cap_39, cap_40, hc, h2']
  · have lp := loop_ind (g := gN 6) (b := (sFgt [6, 7] (sSeq (sSet 5 (eQ (qBin modD (qUn int1 (qBin addI (qBin addI (qBin mulD (qV 5) (qC (.int 48271))) (qBin mulD (qC (.int 974711)) (qV 6))) (qC (.int 12345)))) (qC (.int 2147483647))))) (sSeq (sSet 7 (eQ (qBin modD (qUn int1 (qBin mulD (qV 5) (qBin addI (qBin divD (qV 5) (qC (.int 65537))) (qC (.int 3))))) (qC (.int 2147483629))))) (sEx (eApp 2 (eQ (qBin modD (qBin divD (qV 7) (qC (.int 19))) (qBin ixD (qV 1) (qV 6)))))))))) (fun k : Nat => D.int ((0 : Int) + k))
      (fun xs ρ => ∃ (k : Nat) (row : List Int) (seed : Int), k + xs.length = ss.length ∧ xs = List.range' k xs.length ∧ (0 ≤ seed ∧ seed < 2147483647) ∧ InR row (ss.take k) ∧ ρ = [some (.int c), some (.lst (ss.map .int)), some (.vec (row.map .int)), some (.int c), none, some (.int seed), none, none])
      (fun z => ∃ row seed, InR row ss ∧ z = .nx [some (.int c), some (.lst (ss.map .int)), some (.vec (row.map .int)), some (.int c), none, some (.int seed), none, none])
      (fun ρ ⟨k, row, seed, h1, _, h2, h3, h4⟩ => by
        subst h4
        simp only [List.length_nil, Nat.add_zero] at h1
        rw [h1, List.take_length] at h3
        exact ⟨row, seed, h3, rfl⟩)
      (fun x xs ρ ⟨k, row, seed, h1, hx, h2, h3, h4⟩ => by
        subst h4
        rw [List.length_cons, List.range'_succ] at hx
        injection hx with hx1 hx2
        subst hx1
        rw [List.length_cons] at h1
        have hk : x < ss.length := by omega
        have a1 : atI (ss.map D.int) ((0 : Int) + x) = some (.int ss[x]) := by
          rw [Int.zero_add]; exact atI_nat (by simp [hk])
        have hsx := hs ss[x] (List.getElem_mem hk)
        have hln := inR_len h3
        have hc : cap (row.map D.int).length = true := cap_of (by
          rw [List.length_map, hln, List.length_take]
          omega)
        have m1 : mulD (.int seed) (.int 48271) = some (.int (seed * 48271)) := mulD_i (.inr ⟨by decide, by decide⟩)
        have m2 : mulD (.int 974711) (.int ((0 : Int) + x)) = some (.int (974711 * ((0 : Int) + x))) := mulD_i (.inl ⟨by decide, by decide⟩)
        have n1 : 0 ≤ (seed * 48271 + 974711 * ((0 : Int) + x) + 12345) % 2147483647 := Int.emod_nonneg _ (by decide)
        have n2 : (seed * 48271 + 974711 * ((0 : Int) + x) + 12345) % 2147483647 < 2147483647 := Int.emod_lt_of_pos _ (by decide)
        generalize hsd : (seed * 48271 + 974711 * ((0 : Int) + x) + 12345) % 2147483647 = sd at n1 n2
        have m3 : mulD (.int sd) (.int (sd / 65537 + 3)) = some (.int (sd * (sd / 65537 + 3))) := mulD_i (.inl ⟨by omega, by omega⟩)
        refine ⟨_, rfl, .inl ⟨[some (.int c), some (.lst (ss.map .int)), some (.vec ((row ++ [sd * (sd / 65537 + 3) % 2147483629 / 19 % ss[x]]).map .int)), some (.int c), none, some (.int sd), none, none], .inl ?_, x + 1, row ++ [sd * (sd / 65537 + 3) % 2147483629 / 19 % ss[x]], sd, by omega, hx2, ⟨n1, n2⟩, ?_, rfl⟩⟩
        · simp -implicitDefEqProofs only [runF, eBinR, qFld, eMth, eMth0, eProp, lot_pure, lot_frz, lot_isO, eBad, sBad, gT, gCo, gNl, sAsg, sDput, eDget, eDget2, dicO, sPut, sPut2, sq_tup, sq_lst, sq_vec, sNx, sSeq, sIf, sRet, sSet, sEx, sBk, sCt, sFgt, fgt, eC, eV, eM, eBin, eUn, aNil, aCons, eTup, eLst, eFn, tB1, tAnd, tOr, tNot, eAnd, eOr, eNot, eIf, eCall, eCallK, pick, eQ, tQ1, qV, qC, qBin, qUn, qB, qAnd, qOr, qNot, qIf, qAndT, qOrT, qNotT, qChain, eChain, eLc, sFor, iSq, iRg1, iRg2, gN, itms, rst, eApp, D.frz, D.frzs, D.pure, D.pures, bind_ok, bind_ex, stmt_ok, stmt_ex, seq_nx, seq_rt, seq_ex, seq_bk, seq_ct, fgt_nx, fgt_bk, fgt_ct, fgt_rt, fgt_ex, out_nx, out_rt, out_ex, opt_some, optL_some, andB_tt, andB_ff, andB_some, orB_tt, orB_ff, orB_some, andX_tt, andX_ff, andX_some, orX_tt, orX_ff, orX_some, itAnd, itOr, itAndX, itOrX, Option.bind_some, List.map_cons, List.map_nil, List.length_cons, List.length_nil, List.cons_append, List.nil_append, List.getElem?_cons_zero, List.getElem?_cons_succ, List.getElem?_nil, List.set_cons_zero, List.set_cons_succ, List.replicate, addI_i, subD_i, ltD_i, leD_i, gtD_i, geD_i, eqS_int, neS_int, eqS_bl, neS_bl, max2_i, min2_i, maxL_i, minL_i, int1_i, intL_i, if_true, if_false, ite_true, ite_false, and_true, true_and, and_self, Bool.and_self, Bool.and_true, Bool.true_and, Bool.and_false, Bool.false_and, Bool.or_true, Bool.true_or, Bool.or_false, Bool.false_or, Bool.not_true, Bool.not_false, Nat.reduceAdd, Nat.reduceSub, Nat.reduceEqDiff, List.filterMap_cons, List.filterMap_nil, decide_true, decide_false, Bool.false_eq_true, reduceIte, Int.reduceAdd, Int.reduceSub, Int.reduceMul, Int.reduceNeg, Int.reduceLT, Int.reduceLE, Int.reduceEq, Int.reduceMod, Int.reduceDiv, Int.lt_irrefl, reduceCtorEq, D.frzs_int, D.pures_int, cap_0, cap_1, cap_2, cap_3, cap_4, cap_5, cap_6, cap_7, cap_8, cap_9, cap_10, cap_11, cap_12, cap_13, cap_14, cap_15, cap_16, cap_17, cap_18, cap_19, cap_20, cap_21, cap_22, cap_23, cap_24, cap_25, cap_26, cap_27, cap_28, cap_29, cap_30, cap_31, cap_32, cap_33, cap_34, cap_35, cap_36, cap_37, cap_38, cap_39, cap_40, m1, m2, modD_i (show (0 : Int) < 2147483647 by decide), hsd, divD_i (show (0 : Int) < 65537 ∧ (65537 : Int) < 1073741824 by decide), m3, modD_i (show (0 : Int) < 2147483629 by decide), divD_i (show (0 : Int) < 19 ∧ (19 : Int) < 1073741824 by decide), ixD_sq e1 a1, modD_i hsx.1, hc, List.map_append]
        · rw [List.take_succ, List.getElem?_eq_getElem hk]
          exact inR_snoc h3 ⟨Int.emod_nonneg _ (by omega), Int.emod_lt_of_pos _ hsx.1⟩) (List.range ss.length) _ ⟨0, [], c % 2147483629, by simp, by rw [List.length_range, List.range_eq_range'], ⟨Int.emod_nonneg _ (by decide), by have := Int.emod_lt_of_pos c (show (0 : Int) < 2147483629 by decide); omega⟩, trivial, rfl⟩
    obtain ⟨row, seed, h1, h2⟩ := lp
    refine ⟨row, ?_, h1⟩
    have h2' : loop (gN 6) (sFgt [6, 7] (sSeq (sSet 5 (eQ (qBin modD (qUn int1 (qBin addI (qBin addI (qBin mulD (qV 5) (qC (.int 48271))) (qBin mulD (qC (.int 974711)) (qV 6))) (qC (.int 12345)))) (qC (.int 2147483647))))) (sSeq (sSet 7 (eQ (qBin modD (qUn int1 (qBin mulD (qV 5) (qBin addI (qBin divD (qV 5) (qC (.int 65537))) (qC (.int 3))))) (qC (.int 2147483629))))) (sEx (eApp 2 (eQ (qBin modD (qBin divD (qV 7) (qC (.int 19))) (qBin ixD (qV 1) (qV 6))))))))) (((List.range ss.length).map fun (k : Nat) => (0 : Int) + k).map D.int) [some (.int c), some (.lst (ss.map .int)), some (.vec []), some (.int c), none, some (.int (c % 2147483629)), none, none] = .nx [some (.int c), some (.lst (ss.map .int)), some (.vec (row.map .int)), some (.int c), none, some (.int seed), none, none] := by rw [List.map_map]; exact h2
    unfold d_law_digits b_d_law_digits
    generalize (sFgt [6, 7] (sSeq (sSet 5 (eQ (qBin modD (qUn int1 (qBin addI (qBin addI (qBin mulD (qV 5) (qC (.int 48271))) (qBin mulD (qC (.int 974711)) (qV 6))) (qC (.int 12345)))) (qC (.int 2147483647))))) (sSeq (sSet 7 (eQ (qBin modD (qUn int1 (qBin mulD (qV 5) (qBin addI (qBin divD (qV 5) (qC (.int 65537))) (qC (.int 3))))) (qC (.int 2147483629))))) (sEx (eApp 2 (eQ (qBin modD (qBin divD (qV 7) (qC (.int 19))) (qBin ixD (qV 1) (qV 6))))))))) = bb at h2' ⊢
    simp -implicitDefEqProofs only [runF, eBinR, qFld, eMth, eMth0, eProp, lot_pure, lot_frz, lot_isO, eBad, sBad, gT, gCo, gNl, sAsg, sDput, eDget, eDget2, dicO, sPut, sPut2, sq_tup, sq_lst, sq_vec, sNx, sSeq, sIf, sRet, sSet, sEx, sBk, sCt, sFgt, fgt, eC, eV, eM, eBin, eUn, aNil, aCons, eTup, eLst, eFn, tB1, tAnd, tOr, tNot, eAnd, eOr, eNot, eIf, eCall, eCallK, pick, eQ, tQ1, qV, qC, qBin, qUn, qB, qAnd, qOr, qNot, qIf, qAndT, qOrT, qNotT, qChain, eChain, eLc, sFor, iSq, iRg1, iRg2, gN, itms, rst, eApp, D.frz, D.frzs, D.pure, D.pures, bind_ok, bind_ex, stmt_ok, stmt_ex, seq_nx, seq_rt, seq_ex, seq_bk, seq_ct, fgt_nx, fgt_bk, fgt_ct, fgt_rt, fgt_ex, out_nx, out_rt, out_ex, opt_some, optL_some, andB_tt, andB_ff, andB_some, orB_tt, orB_ff, orB_some, andX_tt, andX_ff, andX_some, orX_tt, orX_ff, orX_some, itAnd, itOr, itAndX, itOrX, Option.bind_some, List.map_cons, List.map_nil, List.length_cons, List.length_nil, List.cons_append, List.nil_append, List.getElem?_cons_zero, List.getElem?_cons_succ, List.getElem?_nil, List.set_cons_zero, List.set_cons_succ, List.replicate, addI_i, subD_i, ltD_i, leD_i, gtD_i, geD_i, eqS_int, neS_int, eqS_bl, neS_bl, max2_i, min2_i, maxL_i, minL_i, int1_i, intL_i, if_true, if_false, ite_true, ite_false, and_true, true_and, and_self, Bool.and_self, Bool.and_true, Bool.true_and, Bool.and_false, Bool.false_and, Bool.or_true, Bool.true_or, Bool.or_false, Bool.false_or, Bool.not_true, Bool.not_false, Nat.reduceAdd, Nat.reduceSub, Nat.reduceEqDiff, List.filterMap_cons, List.filterMap_nil, decide_true, decide_false, Bool.false_eq_true, reduceIte, Int.reduceAdd, Int.reduceSub, Int.reduceMul, Int.reduceNeg, Int.reduceLT, Int.reduceLE, Int.reduceEq, Int.reduceMod, Int.reduceDiv, Int.lt_irrefl, reduceCtorEq, D.frzs_int, D.pures_int, cap_0, cap_1, cap_2, cap_3, cap_4, cap_5, cap_6, cap_7, cap_8, cap_9, cap_10, cap_11, cap_12, cap_13, cap_14, cap_15, cap_16, cap_17, cap_18, cap_19, cap_20, cap_21, cap_22, cap_23, cap_24, cap_25, cap_26, cap_27, cap_28, cap_29, cap_30, cap_31, cap_32, cap_33, cap_34, cap_35, cap_36, cap_37, cap_38, cap_39, cap_40, hc, modD_i (show (0 : Int) < 2147483629 by decide), len1_sq e1, List.length_map, hb, rng_eq, Int.sub_zero, Int.toNat_natCast, h2']
end Math

set_option Elab.async false
set_option linter.all false
set_option maxRecDepth 100000
set_option maxHeartbeats 2000000
namespace Math
open PySem FL Prg
open L2 (atI atI_nat ixN)
theorem inR3 {row : List Int} {a b c : Int} (h : InR row [a, b, c]) : ∃ x y z, row = [x, y, z] ∧ (0 ≤ x ∧ x < a) ∧ (0 ≤ y ∧ y < b) ∧ (0 ≤ z ∧ z < c) := by
  match row, h with
  | [x, y, z], h => exact ⟨x, y, z, rfl, h.1, h.2.1, h.2.2.1⟩
theorem inR4 {row : List Int} {a b c d : Int} (h : InR row [a, b, c, d]) : ∃ x y z w, row = [x, y, z, w] ∧ (0 ≤ x ∧ x < a) ∧ (0 ≤ y ∧ y < b) ∧ (0 ≤ z ∧ z < c) ∧ (0 ≤ w ∧ w < d) := by
  match row, h with
  | [x, y, z, w], h => exact ⟨x, y, z, w, rfl, h.1, h.2.1, h.2.2.1, h.2.2.2.1⟩
theorem inR1 {row : List Int} {a : Int} (h : InR row [a]) : ∃ x, row = [x] ∧ (0 ≤ x ∧ x < a) := by
  match row, h with
  | [x], h => exact ⟨x, rfl, h.1⟩
theorem iv0 (x : Int) (l : List D) : ixD (.lst (.int x :: l)) (.int 0) = some (.int x) := by
  refine ixD_sq (sq_lst _) ?_
  exact atI_nat (j := 0) rfl
theorem iv0v (x : Int) (l : List D) : ixD (.vec (.int x :: l)) (.int 0) = some (.int x) := by
  refine ixD_sq (sq_vec _) ?_
  exact atI_nat (j := 0) rfl
theorem iv1v (x y : Int) (l : List D) : ixD (.vec (.int x :: .int y :: l)) (.int 1) = some (.int y) := by
  refine ixD_sq (sq_vec _) ?_
  exact atI_nat (j := 1) rfl
theorem iv2v (x y z : Int) (l : List D) : ixD (.vec (.int x :: .int y :: .int z :: l)) (.int 2) = some (.int z) := by
  refine ixD_sq (sq_vec _) ?_
  exact atI_nat (j := 2) rfl
theorem iv3v (x y z w : Int) (l : List D) : ixD (.vec (.int x :: .int y :: .int z :: .int w :: l)) (.int 3) = some (.int w) := by
  refine ixD_sq (sq_vec _) ?_
  exact atI_nat (j := 3) rfl
theorem pins_eq (c : Int) : ∃ p, d_law_pins [.int c] = .rt (.int p) ∧ 0 ≤ p ∧ p ≤ 40 := by
  obtain ⟨row, h1, h2⟩ := digits_eq c [8, 30, 41] (by intro s hs; simp only [List.mem_cons, List.not_mem_nil, or_false] at hs; omega) (by decide)
  obtain ⟨x, y, z, rfl, hx, hy, hz⟩ := inR3 h2
  have h1' : d_law_digits [.int c, .lst [.int 8, .int 30, .int 41]] = .rt (.vec [.int x, .int y, .int z]) := h1
  by_cases g1 : x < 5
  · exact ⟨2 + y % 5, by simp -implicitDefEqProofs only [d_law_pins, b_d_law_pins, runF, eBinR, qFld, eMth, eMth0, eProp, lot_pure, lot_frz, lot_isO, eBad, sBad, gT, gCo, gNl, sAsg, sDput, eDget, eDget2, dicO, sPut, sPut2, sq_tup, sq_lst, sq_vec, sNx, sSeq, sIf, sRet, sSet, sEx, sBk, sCt, sFgt, fgt, eC, eV, eM, eBin, eUn, aNil, aCons, eTup, eLst, eFn, tB1, tAnd, tOr, tNot, eAnd, eOr, eNot, eIf, eCall, eCallK, pick, eQ, tQ1, qV, qC, qBin, qUn, qB, qAnd, qOr, qNot, qIf, qAndT, qOrT, qNotT, qChain, eChain, eLc, sFor, iSq, iRg1, iRg2, gN, itms, rst, eApp, D.frz, D.frzs, D.pure, D.pures, bind_ok, bind_ex, stmt_ok, stmt_ex, seq_nx, seq_rt, seq_ex, seq_bk, seq_ct, fgt_nx, fgt_bk, fgt_ct, fgt_rt, fgt_ex, out_nx, out_rt, out_ex, opt_some, optL_some, andB_tt, andB_ff, andB_some, orB_tt, orB_ff, orB_some, andX_tt, andX_ff, andX_some, orX_tt, orX_ff, orX_some, itAnd, itOr, itAndX, itOrX, Option.bind_some, List.map_cons, List.map_nil, List.length_cons, List.length_nil, List.cons_append, List.nil_append, List.getElem?_cons_zero, List.getElem?_cons_succ, List.getElem?_nil, List.set_cons_zero, List.set_cons_succ, List.replicate, addI_i, subD_i, ltD_i, leD_i, gtD_i, geD_i, eqS_int, neS_int, eqS_bl, neS_bl, max2_i, min2_i, maxL_i, minL_i, int1_i, intL_i, if_true, if_false, ite_true, ite_false, and_true, true_and, and_self, Bool.and_self, Bool.and_true, Bool.true_and, Bool.and_false, Bool.false_and, Bool.or_true, Bool.true_or, Bool.or_false, Bool.false_or, Bool.not_true, Bool.not_false, Nat.reduceAdd, Nat.reduceSub, Nat.reduceEqDiff, List.filterMap_cons, List.filterMap_nil, decide_true, decide_false, Bool.false_eq_true, reduceIte, Int.reduceAdd, Int.reduceSub, Int.reduceMul, Int.reduceNeg, Int.reduceLT, Int.reduceLE, Int.reduceEq, Int.reduceMod, Int.reduceDiv, Int.lt_irrefl, reduceCtorEq, D.frzs_int, D.pures_int, cap_0, cap_1, cap_2, cap_3, cap_4, cap_5, cap_6, cap_7, cap_8, cap_9, cap_10, cap_11, cap_12, cap_13, cap_14, cap_15, cap_16, cap_17, cap_18, cap_19, cap_20, cap_21, cap_22, cap_23, cap_24, cap_25, cap_26, cap_27, cap_28, cap_29, cap_30, cap_31, cap_32, cap_33, cap_34, cap_35, cap_36, cap_37, cap_38, cap_39, cap_40, h1', iv0v, iv1v, g1, modD_i (show (0 : Int) < 5 by decide)], by omega, by omega⟩
  · by_cases g2 : x = 5
    · subst g2
      exact ⟨7 + y % 6, by simp -implicitDefEqProofs only [d_law_pins, b_d_law_pins, runF, eBinR, qFld, eMth, eMth0, eProp, lot_pure, lot_frz, lot_isO, eBad, sBad, gT, gCo, gNl, sAsg, sDput, eDget, eDget2, dicO, sPut, sPut2, sq_tup, sq_lst, sq_vec, sNx, sSeq, sIf, sRet, sSet, sEx, sBk, sCt, sFgt, fgt, eC, eV, eM, eBin, eUn, aNil, aCons, eTup, eLst, eFn, tB1, tAnd, tOr, tNot, eAnd, eOr, eNot, eIf, eCall, eCallK, pick, eQ, tQ1, qV, qC, qBin, qUn, qB, qAnd, qOr, qNot, qIf, qAndT, qOrT, qNotT, qChain, eChain, eLc, sFor, iSq, iRg1, iRg2, gN, itms, rst, eApp, D.frz, D.frzs, D.pure, D.pures, bind_ok, bind_ex, stmt_ok, stmt_ex, seq_nx, seq_rt, seq_ex, seq_bk, seq_ct, fgt_nx, fgt_bk, fgt_ct, fgt_rt, fgt_ex, out_nx, out_rt, out_ex, opt_some, optL_some, andB_tt, andB_ff, andB_some, orB_tt, orB_ff, orB_some, andX_tt, andX_ff, andX_some, orX_tt, orX_ff, orX_some, itAnd, itOr, itAndX, itOrX, Option.bind_some, List.map_cons, List.map_nil, List.length_cons, List.length_nil, List.cons_append, List.nil_append, List.getElem?_cons_zero, List.getElem?_cons_succ, List.getElem?_nil, List.set_cons_zero, List.set_cons_succ, List.replicate, addI_i, subD_i, ltD_i, leD_i, gtD_i, geD_i, eqS_int, neS_int, eqS_bl, neS_bl, max2_i, min2_i, maxL_i, minL_i, int1_i, intL_i, if_true, if_false, ite_true, ite_false, and_true, true_and, and_self, Bool.and_self, Bool.and_true, Bool.true_and, Bool.and_false, Bool.false_and, Bool.or_true, Bool.true_or, Bool.or_false, Bool.false_or, Bool.not_true, Bool.not_false, Nat.reduceAdd, Nat.reduceSub, Nat.reduceEqDiff, List.filterMap_cons, List.filterMap_nil, decide_true, decide_false, Bool.false_eq_true, reduceIte, Int.reduceAdd, Int.reduceSub, Int.reduceMul, Int.reduceNeg, Int.reduceLT, Int.reduceLE, Int.reduceEq, Int.reduceMod, Int.reduceDiv, Int.lt_irrefl, reduceCtorEq, D.frzs_int, D.pures_int, cap_0, cap_1, cap_2, cap_3, cap_4, cap_5, cap_6, cap_7, cap_8, cap_9, cap_10, cap_11, cap_12, cap_13, cap_14, cap_15, cap_16, cap_17, cap_18, cap_19, cap_20, cap_21, cap_22, cap_23, cap_24, cap_25, cap_26, cap_27, cap_28, cap_29, cap_30, cap_31, cap_32, cap_33, cap_34, cap_35, cap_36, cap_37, cap_38, cap_39, cap_40, h1', iv0v, iv1v, modD_i (show (0 : Int) < 6 by decide)], by omega, by omega⟩
    · by_cases g3 : x = 6
      · subst g3
        exact ⟨y % 2, by simp -implicitDefEqProofs only [d_law_pins, b_d_law_pins, runF, eBinR, qFld, eMth, eMth0, eProp, lot_pure, lot_frz, lot_isO, eBad, sBad, gT, gCo, gNl, sAsg, sDput, eDget, eDget2, dicO, sPut, sPut2, sq_tup, sq_lst, sq_vec, sNx, sSeq, sIf, sRet, sSet, sEx, sBk, sCt, sFgt, fgt, eC, eV, eM, eBin, eUn, aNil, aCons, eTup, eLst, eFn, tB1, tAnd, tOr, tNot, eAnd, eOr, eNot, eIf, eCall, eCallK, pick, eQ, tQ1, qV, qC, qBin, qUn, qB, qAnd, qOr, qNot, qIf, qAndT, qOrT, qNotT, qChain, eChain, eLc, sFor, iSq, iRg1, iRg2, gN, itms, rst, eApp, D.frz, D.frzs, D.pure, D.pures, bind_ok, bind_ex, stmt_ok, stmt_ex, seq_nx, seq_rt, seq_ex, seq_bk, seq_ct, fgt_nx, fgt_bk, fgt_ct, fgt_rt, fgt_ex, out_nx, out_rt, out_ex, opt_some, optL_some, andB_tt, andB_ff, andB_some, orB_tt, orB_ff, orB_some, andX_tt, andX_ff, andX_some, orX_tt, orX_ff, orX_some, itAnd, itOr, itAndX, itOrX, Option.bind_some, List.map_cons, List.map_nil, List.length_cons, List.length_nil, List.cons_append, List.nil_append, List.getElem?_cons_zero, List.getElem?_cons_succ, List.getElem?_nil, List.set_cons_zero, List.set_cons_succ, List.replicate, addI_i, subD_i, ltD_i, leD_i, gtD_i, geD_i, eqS_int, neS_int, eqS_bl, neS_bl, max2_i, min2_i, maxL_i, minL_i, int1_i, intL_i, if_true, if_false, ite_true, ite_false, and_true, true_and, and_self, Bool.and_self, Bool.and_true, Bool.true_and, Bool.and_false, Bool.false_and, Bool.or_true, Bool.true_or, Bool.or_false, Bool.false_or, Bool.not_true, Bool.not_false, Nat.reduceAdd, Nat.reduceSub, Nat.reduceEqDiff, List.filterMap_cons, List.filterMap_nil, decide_true, decide_false, Bool.false_eq_true, reduceIte, Int.reduceAdd, Int.reduceSub, Int.reduceMul, Int.reduceNeg, Int.reduceLT, Int.reduceLE, Int.reduceEq, Int.reduceMod, Int.reduceDiv, Int.lt_irrefl, reduceCtorEq, D.frzs_int, D.pures_int, cap_0, cap_1, cap_2, cap_3, cap_4, cap_5, cap_6, cap_7, cap_8, cap_9, cap_10, cap_11, cap_12, cap_13, cap_14, cap_15, cap_16, cap_17, cap_18, cap_19, cap_20, cap_21, cap_22, cap_23, cap_24, cap_25, cap_26, cap_27, cap_28, cap_29, cap_30, cap_31, cap_32, cap_33, cap_34, cap_35, cap_36, cap_37, cap_38, cap_39, cap_40, h1', iv0v, iv1v, modD_i (show (0 : Int) < 2 by decide)], by omega, by omega⟩
      · exact ⟨z, by simp -implicitDefEqProofs only [d_law_pins, b_d_law_pins, runF, eBinR, qFld, eMth, eMth0, eProp, lot_pure, lot_frz, lot_isO, eBad, sBad, gT, gCo, gNl, sAsg, sDput, eDget, eDget2, dicO, sPut, sPut2, sq_tup, sq_lst, sq_vec, sNx, sSeq, sIf, sRet, sSet, sEx, sBk, sCt, sFgt, fgt, eC, eV, eM, eBin, eUn, aNil, aCons, eTup, eLst, eFn, tB1, tAnd, tOr, tNot, eAnd, eOr, eNot, eIf, eCall, eCallK, pick, eQ, tQ1, qV, qC, qBin, qUn, qB, qAnd, qOr, qNot, qIf, qAndT, qOrT, qNotT, qChain, eChain, eLc, sFor, iSq, iRg1, iRg2, gN, itms, rst, eApp, D.frz, D.frzs, D.pure, D.pures, bind_ok, bind_ex, stmt_ok, stmt_ex, seq_nx, seq_rt, seq_ex, seq_bk, seq_ct, fgt_nx, fgt_bk, fgt_ct, fgt_rt, fgt_ex, out_nx, out_rt, out_ex, opt_some, optL_some, andB_tt, andB_ff, andB_some, orB_tt, orB_ff, orB_some, andX_tt, andX_ff, andX_some, orX_tt, orX_ff, orX_some, itAnd, itOr, itAndX, itOrX, Option.bind_some, List.map_cons, List.map_nil, List.length_cons, List.length_nil, List.cons_append, List.nil_append, List.getElem?_cons_zero, List.getElem?_cons_succ, List.getElem?_nil, List.set_cons_zero, List.set_cons_succ, List.replicate, addI_i, subD_i, ltD_i, leD_i, gtD_i, geD_i, eqS_int, neS_int, eqS_bl, neS_bl, max2_i, min2_i, maxL_i, minL_i, int1_i, intL_i, if_true, if_false, ite_true, ite_false, and_true, true_and, and_self, Bool.and_self, Bool.and_true, Bool.true_and, Bool.and_false, Bool.false_and, Bool.or_true, Bool.true_or, Bool.or_false, Bool.false_or, Bool.not_true, Bool.not_false, Nat.reduceAdd, Nat.reduceSub, Nat.reduceEqDiff, List.filterMap_cons, List.filterMap_nil, decide_true, decide_false, Bool.false_eq_true, reduceIte, Int.reduceAdd, Int.reduceSub, Int.reduceMul, Int.reduceNeg, Int.reduceLT, Int.reduceLE, Int.reduceEq, Int.reduceMod, Int.reduceDiv, Int.lt_irrefl, reduceCtorEq, D.frzs_int, D.pures_int, cap_0, cap_1, cap_2, cap_3, cap_4, cap_5, cap_6, cap_7, cap_8, cap_9, cap_10, cap_11, cap_12, cap_13, cap_14, cap_15, cap_16, cap_17, cap_18, cap_19, cap_20, cap_21, cap_22, cap_23, cap_24, cap_25, cap_26, cap_27, cap_28, cap_29, cap_30, cap_31, cap_32, cap_33, cap_34, cap_35, cap_36, cap_37, cap_38, cap_39, cap_40, h1', iv0v, iv2v, g1, g2, g3], by omega, by omega⟩
theorem steps_eq (c : Int) : ∃ s, d_law_steps [.int c] = .rt (.int s) := by
  have m1 : mulD (.int 2) (.int 1000000000000000000) = some (.int 2000000000000000000) := mulD_i (.inl ⟨by decide, by decide⟩)
  exact ⟨_, by simp -implicitDefEqProofs only [d_law_steps, b_d_law_steps, runF, eBinR, qFld, eMth, eMth0, eProp, lot_pure, lot_frz, lot_isO, eBad, sBad, gT, gCo, gNl, sAsg, sDput, eDget, eDget2, dicO, sPut, sPut2, sq_tup, sq_lst, sq_vec, sNx, sSeq, sIf, sRet, sSet, sEx, sBk, sCt, sFgt, fgt, eC, eV, eM, eBin, eUn, aNil, aCons, eTup, eLst, eFn, tB1, tAnd, tOr, tNot, eAnd, eOr, eNot, eIf, eCall, eCallK, pick, eQ, tQ1, qV, qC, qBin, qUn, qB, qAnd, qOr, qNot, qIf, qAndT, qOrT, qNotT, qChain, eChain, eLc, sFor, iSq, iRg1, iRg2, gN, itms, rst, eApp, D.frz, D.frzs, D.pure, D.pures, bind_ok, bind_ex, stmt_ok, stmt_ex, seq_nx, seq_rt, seq_ex, seq_bk, seq_ct, fgt_nx, fgt_bk, fgt_ct, fgt_rt, fgt_ex, out_nx, out_rt, out_ex, opt_some, optL_some, andB_tt, andB_ff, andB_some, orB_tt, orB_ff, orB_some, andX_tt, andX_ff, andX_some, orX_tt, orX_ff, orX_some, itAnd, itOr, itAndX, itOrX, Option.bind_some, List.map_cons, List.map_nil, List.length_cons, List.length_nil, List.cons_append, List.nil_append, List.getElem?_cons_zero, List.getElem?_cons_succ, List.getElem?_nil, List.set_cons_zero, List.set_cons_succ, List.replicate, addI_i, subD_i, ltD_i, leD_i, gtD_i, geD_i, eqS_int, neS_int, eqS_bl, neS_bl, max2_i, min2_i, maxL_i, minL_i, int1_i, intL_i, if_true, if_false, ite_true, ite_false, and_true, true_and, and_self, Bool.and_self, Bool.and_true, Bool.true_and, Bool.and_false, Bool.false_and, Bool.or_true, Bool.true_or, Bool.or_false, Bool.false_or, Bool.not_true, Bool.not_false, Nat.reduceAdd, Nat.reduceSub, Nat.reduceEqDiff, List.filterMap_cons, List.filterMap_nil, decide_true, decide_false, Bool.false_eq_true, reduceIte, Int.reduceAdd, Int.reduceSub, Int.reduceMul, Int.reduceNeg, Int.reduceLT, Int.reduceLE, Int.reduceEq, Int.reduceMod, Int.reduceDiv, Int.lt_irrefl, reduceCtorEq, D.frzs_int, D.pures_int, cap_0, cap_1, cap_2, cap_3, cap_4, cap_5, cap_6, cap_7, cap_8, cap_9, cap_10, cap_11, cap_12, cap_13, cap_14, cap_15, cap_16, cap_17, cap_18, cap_19, cap_20, cap_21, cap_22, cap_23, cap_24, cap_25, cap_26, cap_27, cap_28, cap_29, cap_30, cap_31, cap_32, cap_33, cap_34, cap_35, cap_36, cap_37, cap_38, cap_39, cap_40, m1, modD_i (show (0 : Int) < 2000000000000000001 by decide)]; rfl⟩
def wtL : List Int := [3, 3, 3, 3, 1000, 90000000]
theorem wt_at (z : Int) (h : 0 ≤ z ∧ z < 6) : ∃ m, ixD (.vec [.int 3, .int 3, .int 3, .int 3, .int 1000, .int 90000000]) (.int z) = some (.int m) ∧ 0 < m := by
  have : z = 0 ∨ z = 1 ∨ z = 2 ∨ z = 3 ∨ z = 4 ∨ z = 5 := by omega
  rcases this with rfl | rfl | rfl | rfl | rfl | rfl
  · exact ⟨3, ixD_sq (sq_vec _) (atI_nat (j := 0) rfl), by decide⟩
  · exact ⟨3, ixD_sq (sq_vec _) (atI_nat (j := 1) rfl), by decide⟩
  · exact ⟨3, ixD_sq (sq_vec _) (atI_nat (j := 2) rfl), by decide⟩
  · exact ⟨3, ixD_sq (sq_vec _) (atI_nat (j := 3) rfl), by decide⟩
  · exact ⟨1000, ixD_sq (sq_vec _) (atI_nat (j := 4) rfl), by decide⟩
  · exact ⟨90000000, ixD_sq (sq_vec _) (atI_nat (j := 5) rfl), by decide⟩
theorem lot_step (ns : List Int) (p : Int) (row : List T3) (k : Nat) (hns : ns.length ≤ 63) (hp : 0 ≤ p ∧ p ≤ 40) (hk : k ≤ 100) (h : okL p row) (hl : row.length ≤ 100) :
    ∃ row', (sFgt [4, 3, 5] (sFgt [4, 5] (sIf (tQ1 (qB (qBin geD (qV 1) (qC (.int 2))))) (sSeq (sSet 4 (eCall d_law_digits [] (aCons (eCall d_law_cell [] (aCons (eV 0) (aCons (eQ (qBin addI (qC (.int 4)) (qV 3))) aNil))) (aCons (eLst (aCons (eV 1) (aCons (eQ (qBin subD (qV 1) (qC (.int 1)))) (aCons (eQ (qC (.int 6))) (aCons (eQ (qC (.int 90000000))) aNil))))) aNil)))) (sSeq (sSet 5 (eQ (qBin modD (qUn int1 (qBin addI (qBin addI (qBin ixD (qV 4) (qC (.int 0))) (qC (.int 1))) (qBin ixD (qV 4) (qC (.int 1))))) (qV 1)))) (sEx (eApp 2 (eTup (aCons (eQ (qBin ixD (qV 4) (qC (.int 0)))) (aCons (eV 5) (aCons (eBin addI (eQ (qC (.int 1))) (eBin modD (eQ (qUn int1 (qBin ixD (qV 4) (qC (.int 3))))) (eBin ixD (eLst (aCons (eQ (qC (.int 3))) (aCons (eQ (qC (.int 3))) (aCons (eQ (qC (.int 3))) (aCons (eQ (qC (.int 3))) (aCons (eQ (qC (.int 1000))) (aCons (eQ (qC (.int 90000000))) aNil))))))) (eQ (qBin ixD (qV 4) (qC (.int 2))))))) aNil)))))))) sNx))) [some (.lst (ns.map .int)), some (.int p), some (.vec (row.map tD)), some (.int ((0 : Int) + k)), none, none] = .nx [some (.lst (ns.map .int)), some (.int p), some (.vec (row'.map tD)), none, none, none] ∧ okL p row' ∧ row'.length ≤ row.length + 1 := by
  by_cases hp2 : 2 ≤ p
  · obtain ⟨c, hc⟩ := cell_eq ns (4 + ((0 : Int) + k)) (by omega) (by omega) hns
    obtain ⟨dr, h1, h2⟩ := digits_eq c [p, p - 1, 6, 90000000] (by intro s hs; simp only [List.mem_cons, List.not_mem_nil, or_false] at hs; omega) (by show 4 ≤ 1000; decide)
    obtain ⟨x, y, z, w, rfl, hx, hy, hz, hw⟩ := inR4 h2
    have h1' : d_law_digits [.int c, .lst [.int p, .int (p - 1), .int 6, .int 90000000]] = .rt (.vec [.int x, .int y, .int z, .int w]) := h1
    obtain ⟨m, hm, hm0⟩ := wt_at z hz
    have hcap : cap (row.map tD).length = true := cap_of (by rw [List.length_map]; omega)
    have o0 := Int.emod_nonneg (x + 1 + y) (show p ≠ 0 by omega)
    have o1 := Int.emod_lt_of_pos (x + 1 + y) (show 0 < p by omega)
    have e0 := mod_2 (z := x + 1 + y) (n := p) (by omega) (by omega)
    have w0 := Int.emod_nonneg w (show m ≠ 0 by omega)
    refine ⟨row ++ [(x, (x + 1 + y) % p, 1 + w % m)], ?_, ?_, by rw [List.length_append, List.length_singleton]; omega⟩
    · simp -implicitDefEqProofs only [runF, eBinR, qFld, eMth, eMth0, eProp, lot_pure, lot_frz, lot_isO, eBad, sBad, gT, gCo, gNl, sAsg, sDput, eDget, eDget2, dicO, sPut, sPut2, sq_tup, sq_lst, sq_vec, sNx, sSeq, sIf, sRet, sSet, sEx, sBk, sCt, sFgt, fgt, eC, eV, eM, eBin, eUn, aNil, aCons, eTup, eLst, eFn, tB1, tAnd, tOr, tNot, eAnd, eOr, eNot, eIf, eCall, eCallK, pick, eQ, tQ1, qV, qC, qBin, qUn, qB, qAnd, qOr, qNot, qIf, qAndT, qOrT, qNotT, qChain, eChain, eLc, sFor, iSq, iRg1, iRg2, gN, itms, rst, eApp, D.frz, D.frzs, D.pure, D.pures, bind_ok, bind_ex, stmt_ok, stmt_ex, seq_nx, seq_rt, seq_ex, seq_bk, seq_ct, fgt_nx, fgt_bk, fgt_ct, fgt_rt, fgt_ex, out_nx, out_rt, out_ex, opt_some, optL_some, andB_tt, andB_ff, andB_some, orB_tt, orB_ff, orB_some, andX_tt, andX_ff, andX_some, orX_tt, orX_ff, orX_some, itAnd, itOr, itAndX, itOrX, Option.bind_some, List.map_cons, List.map_nil, List.length_cons, List.length_nil, List.cons_append, List.nil_append, List.getElem?_cons_zero, List.getElem?_cons_succ, List.getElem?_nil, List.set_cons_zero, List.set_cons_succ, List.replicate, addI_i, subD_i, ltD_i, leD_i, gtD_i, geD_i, eqS_int, neS_int, eqS_bl, neS_bl, max2_i, min2_i, maxL_i, minL_i, int1_i, intL_i, if_true, if_false, ite_true, ite_false, and_true, true_and, and_self, Bool.and_self, Bool.and_true, Bool.true_and, Bool.and_false, Bool.false_and, Bool.or_true, Bool.true_or, Bool.or_false, Bool.false_or, Bool.not_true, Bool.not_false, Nat.reduceAdd, Nat.reduceSub, Nat.reduceEqDiff, List.filterMap_cons, List.filterMap_nil, decide_true, decide_false, Bool.false_eq_true, reduceIte, Int.reduceAdd, Int.reduceSub, Int.reduceMul, Int.reduceNeg, Int.reduceLT, Int.reduceLE, Int.reduceEq, Int.reduceMod, Int.reduceDiv, Int.lt_irrefl, reduceCtorEq, D.frzs_int, D.pures_int, cap_0, cap_1, cap_2, cap_3, cap_4, cap_5, cap_6, cap_7, cap_8, cap_9, cap_10, cap_11, cap_12, cap_13, cap_14, cap_15, cap_16, cap_17, cap_18, cap_19, cap_20, cap_21, cap_22, cap_23, cap_24, cap_25, cap_26, cap_27, cap_28, cap_29, cap_30, cap_31, cap_32, cap_33, cap_34, cap_35, cap_36, cap_37, cap_38, cap_39, cap_40, hp2, hc, h1', iv0v, iv1v, iv2v, iv3v, modD_i (show (0 : Int) < p by omega), hm, modD_i hm0, hcap, List.map_append, tD, D.frzs_int]
    · intro t ht
      rw [List.mem_append] at ht
      rcases ht with ht | ht
      · exact h t ht
      · simp only [List.mem_cons, List.not_mem_nil, or_false] at ht
        subst ht
        refine ⟨hx, ⟨o0, o1⟩, ?_, by show 1 ≤ 1 + w % m; omega⟩
        show x ≠ (x + 1 + y) % p
        rw [e0]
        split <;> omega
  · exact ⟨row, by simp -implicitDefEqProofs only [runF, eBinR, qFld, eMth, eMth0, eProp, lot_pure, lot_frz, lot_isO, eBad, sBad, gT, gCo, gNl, sAsg, sDput, eDget, eDget2, dicO, sPut, sPut2, sq_tup, sq_lst, sq_vec, sNx, sSeq, sIf, sRet, sSet, sEx, sBk, sCt, sFgt, fgt, eC, eV, eM, eBin, eUn, aNil, aCons, eTup, eLst, eFn, tB1, tAnd, tOr, tNot, eAnd, eOr, eNot, eIf, eCall, eCallK, pick, eQ, tQ1, qV, qC, qBin, qUn, qB, qAnd, qOr, qNot, qIf, qAndT, qOrT, qNotT, qChain, eChain, eLc, sFor, iSq, iRg1, iRg2, gN, itms, rst, eApp, D.frz, D.frzs, D.pure, D.pures, bind_ok, bind_ex, stmt_ok, stmt_ex, seq_nx, seq_rt, seq_ex, seq_bk, seq_ct, fgt_nx, fgt_bk, fgt_ct, fgt_rt, fgt_ex, out_nx, out_rt, out_ex, opt_some, optL_some, andB_tt, andB_ff, andB_some, orB_tt, orB_ff, orB_some, andX_tt, andX_ff, andX_some, orX_tt, orX_ff, orX_some, itAnd, itOr, itAndX, itOrX, Option.bind_some, List.map_cons, List.map_nil, List.length_cons, List.length_nil, List.cons_append, List.nil_append, List.getElem?_cons_zero, List.getElem?_cons_succ, List.getElem?_nil, List.set_cons_zero, List.set_cons_succ, List.replicate, addI_i, subD_i, ltD_i, leD_i, gtD_i, geD_i, eqS_int, neS_int, eqS_bl, neS_bl, max2_i, min2_i, maxL_i, minL_i, int1_i, intL_i, if_true, if_false, ite_true, ite_false, and_true, true_and, and_self, Bool.and_self, Bool.and_true, Bool.true_and, Bool.and_false, Bool.false_and, Bool.or_true, Bool.true_or, Bool.or_false, Bool.false_or, Bool.not_true, Bool.not_false, Nat.reduceAdd, Nat.reduceSub, Nat.reduceEqDiff, List.filterMap_cons, List.filterMap_nil, decide_true, decide_false, Bool.false_eq_true, reduceIte, Int.reduceAdd, Int.reduceSub, Int.reduceMul, Int.reduceNeg, Int.reduceLT, Int.reduceLE, Int.reduceEq, Int.reduceMod, Int.reduceDiv, Int.lt_irrefl, reduceCtorEq, D.frzs_int, D.pures_int, cap_0, cap_1, cap_2, cap_3, cap_4, cap_5, cap_6, cap_7, cap_8, cap_9, cap_10, cap_11, cap_12, cap_13, cap_14, cap_15, cap_16, cap_17, cap_18, cap_19, cap_20, cap_21, cap_22, cap_23, cap_24, cap_25, cap_26, cap_27, cap_28, cap_29, cap_30, cap_31, cap_32, cap_33, cap_34, cap_35, cap_36, cap_37, cap_38, cap_39, cap_40, hp2], h, by omega⟩
end Math

set_option Elab.async false
set_option linter.all false
set_option maxRecDepth 100000
set_option maxHeartbeats 4000000
namespace Math
open PySem FL Prg
open L2 (atI atI_nat ixN)
theorem lturned_eq (p s : Int) (cs : List T3) (h : okL p cs) (hl : cs.length < 1000000) : d_law_turned [.int p, .tup (cs.map tD), .int s] = .rt (.tup ((turnM p s cs).map tD)) := by
  have key : ∀ x : D, lcl [3] (gN 3) tT (eTup (aCons (eQ (qBin modD (qUn int1 (qBin addI (qBin ixD (qV 3) (qC (.int 0))) (qV 2))) (qV 0))) (aCons (eQ (qBin modD (qUn int1 (qBin addI (qBin ixD (qV 3) (qC (.int 1))) (qV 2))) (qV 0))) (aCons (eQ (qBin ixD (qV 3) (qC (.int 2)))) aNil)))) (cs.map tD) [] [some (.int p), some x, some (.int s), none] = .ok (cs.map fun t => tD (renT (rot p s) t)) [some (.int p), some x, some (.int s), none] := fun x =>
    lcl_all tD _ cs (by omega) fun t ht => by
      refine ⟨_, [some (.int p), some x, some (.int s), some (tD t)], rfl, ?_, rfl⟩
      have hp := okL_pos h t ht
      have e : tD (renT (rot p s) t) = .tup [.int ((t.1 + s) % p), .int ((t.2.1 + s) % p), .int t.2.2] := rfl
      rw [e]
      simp -implicitDefEqProofs only [runF, eBinR, qFld, eMth, eMth0, eProp, lot_pure, lot_frz, lot_isO, eBad, sBad, gT, gCo, gNl, sAsg, sDput, eDget, eDget2, dicO, sPut, sPut2, sq_tup, sq_lst, sq_vec, sNx, sSeq, sIf, sRet, sSet, sEx, sBk, sCt, sFgt, fgt, eC, eV, eM, eBin, eUn, aNil, aCons, eTup, eLst, eFn, tB1, tAnd, tOr, tNot, eAnd, eOr, eNot, eIf, eCall, eCallK, pick, eQ, tQ1, qV, qC, qBin, qUn, qB, qAnd, qOr, qNot, qIf, qAndT, qOrT, qNotT, qChain, eChain, eLc, sFor, iSq, iRg1, iRg2, gN, itms, rst, eApp, D.frz, D.frzs, D.pure, D.pures, bind_ok, bind_ex, stmt_ok, stmt_ex, seq_nx, seq_rt, seq_ex, seq_bk, seq_ct, fgt_nx, fgt_bk, fgt_ct, fgt_rt, fgt_ex, out_nx, out_rt, out_ex, opt_some, optL_some, andB_tt, andB_ff, andB_some, orB_tt, orB_ff, orB_some, andX_tt, andX_ff, andX_some, orX_tt, orX_ff, orX_some, itAnd, itOr, itAndX, itOrX, Option.bind_some, List.map_cons, List.map_nil, List.length_cons, List.length_nil, List.cons_append, List.nil_append, List.getElem?_cons_zero, List.getElem?_cons_succ, List.getElem?_nil, List.set_cons_zero, List.set_cons_succ, List.replicate, addI_i, subD_i, ltD_i, leD_i, gtD_i, geD_i, eqS_int, neS_int, eqS_bl, neS_bl, max2_i, min2_i, maxL_i, minL_i, int1_i, intL_i, if_true, if_false, ite_true, ite_false, and_true, true_and, and_self, Bool.and_self, Bool.and_true, Bool.true_and, Bool.and_false, Bool.false_and, Bool.or_true, Bool.true_or, Bool.or_false, Bool.false_or, Bool.not_true, Bool.not_false, Nat.reduceAdd, Nat.reduceSub, Nat.reduceEqDiff, List.filterMap_cons, List.filterMap_nil, decide_true, decide_false, Bool.false_eq_true, reduceIte, Int.reduceAdd, Int.reduceSub, Int.reduceMul, Int.reduceNeg, Int.reduceLT, Int.reduceLE, Int.reduceEq, Int.reduceMod, Int.reduceDiv, Int.lt_irrefl, reduceCtorEq, D.frzs_int, D.pures_int, cap_0, cap_1, cap_2, cap_3, cap_4, cap_5, cap_6, cap_7, cap_8, cap_9, cap_10, cap_11, cap_12, cap_13, cap_14, cap_15, cap_16, cap_17, cap_18, cap_19, cap_20, cap_21, cap_22, cap_23, cap_24, cap_25, cap_26, cap_27, cap_28, cap_29, cap_30, cap_31, cap_32, cap_33, cap_34, cap_35, cap_36, cap_37, cap_38, cap_39, cap_40, ix_0, ix_1, ix_2, modD_i hp]
  have e2 : (cs.map fun t => tD (renT (rot p s) t)) = (cs.map (renT (rot p s))).map tD := by rw [List.map_map]; rfl
  have ne := norm_eq p _ _ (.inr rfl) (ok_rot (s := s) h) (by rw [len_ren]; exact hl)
  simp -implicitDefEqProofs only [d_law_turned, b_d_law_turned, runF, eBinR, qFld, eMth, eMth0, eProp, lot_pure, lot_frz, lot_isO, eBad, sBad, gT, gCo, gNl, sAsg, sDput, eDget, eDget2, dicO, sPut, sPut2, sq_tup, sq_lst, sq_vec, sNx, sSeq, sIf, sRet, sSet, sEx, sBk, sCt, sFgt, fgt, eC, eV, eM, eBin, eUn, aNil, aCons, eTup, eLst, eFn, tB1, tAnd, tOr, tNot, eAnd, eOr, eNot, eIf, eCall, eCallK, pick, eQ, tQ1, qV, qC, qBin, qUn, qB, qAnd, qOr, qNot, qIf, qAndT, qOrT, qNotT, qChain, eChain, eLc, sFor, iSq, iRg1, iRg2, gN, itms, rst, eApp, D.frz, D.frzs, D.pure, D.pures, bind_ok, bind_ex, stmt_ok, stmt_ex, seq_nx, seq_rt, seq_ex, seq_bk, seq_ct, fgt_nx, fgt_bk, fgt_ct, fgt_rt, fgt_ex, out_nx, out_rt, out_ex, opt_some, optL_some, andB_tt, andB_ff, andB_some, orB_tt, orB_ff, orB_some, andX_tt, andX_ff, andX_some, orX_tt, orX_ff, orX_some, itAnd, itOr, itAndX, itOrX, Option.bind_some, List.map_cons, List.map_nil, List.length_cons, List.length_nil, List.cons_append, List.nil_append, List.getElem?_cons_zero, List.getElem?_cons_succ, List.getElem?_nil, List.set_cons_zero, List.set_cons_succ, List.replicate, addI_i, subD_i, ltD_i, leD_i, gtD_i, geD_i, eqS_int, neS_int, eqS_bl, neS_bl, max2_i, min2_i, maxL_i, minL_i, int1_i, intL_i, if_true, if_false, ite_true, ite_false, and_true, true_and, and_self, Bool.and_self, Bool.and_true, Bool.true_and, Bool.and_false, Bool.false_and, Bool.or_true, Bool.true_or, Bool.or_false, Bool.false_or, Bool.not_true, Bool.not_false, Nat.reduceAdd, Nat.reduceSub, Nat.reduceEqDiff, List.filterMap_cons, List.filterMap_nil, decide_true, decide_false, Bool.false_eq_true, reduceIte, Int.reduceAdd, Int.reduceSub, Int.reduceMul, Int.reduceNeg, Int.reduceLT, Int.reduceLE, Int.reduceEq, Int.reduceMod, Int.reduceDiv, Int.lt_irrefl, reduceCtorEq, D.frzs_int, D.pures_int, cap_0, cap_1, cap_2, cap_3, cap_4, cap_5, cap_6, cap_7, cap_8, cap_9, cap_10, cap_11, cap_12, cap_13, cap_14, cap_15, cap_16, cap_17, cap_18, cap_19, cap_20, cap_21, cap_22, cap_23, cap_24, cap_25, cap_26, cap_27, cap_28, cap_29, cap_30, cap_31, cap_32, cap_33, cap_34, cap_35, cap_36, cap_37, cap_38, cap_39, cap_40, frzs_tD, key, e2, ne, turnM]
theorem lmirrored_eq (p : Int) (cs : List T3) (h : okL p cs) (hl : cs.length < 1000000) : d_law_mirrored [.int p, .tup (cs.map tD)] = .rt (.tup ((mirM p cs).map tD)) := by
  have key : ∀ x : D, lcl [2] (gN 2) tT (eTup (aCons (eQ (qBin subD (qBin subD (qV 0) (qC (.int 1))) (qBin ixD (qV 2) (qC (.int 0))))) (aCons (eQ (qBin subD (qBin subD (qV 0) (qC (.int 1))) (qBin ixD (qV 2) (qC (.int 1))))) (aCons (eQ (qBin ixD (qV 2) (qC (.int 2)))) aNil)))) (cs.map tD) [] [some (.int p), some x, none] = .ok (cs.map fun t => tD (renT (mir p) t)) [some (.int p), some x, none] := fun x =>
    lcl_all tD _ cs (by omega) fun t ht => by
      refine ⟨_, [some (.int p), some x, some (tD t)], rfl, ?_, rfl⟩
      have e : tD (renT (mir p) t) = .tup [.int (p - 1 - t.1), .int (p - 1 - t.2.1), .int t.2.2] := rfl
      rw [e]
      simp -implicitDefEqProofs only [runF, eBinR, qFld, eMth, eMth0, eProp, lot_pure, lot_frz, lot_isO, eBad, sBad, gT, gCo, gNl, sAsg, sDput, eDget, eDget2, dicO, sPut, sPut2, sq_tup, sq_lst, sq_vec, sNx, sSeq, sIf, sRet, sSet, sEx, sBk, sCt, sFgt, fgt, eC, eV, eM, eBin, eUn, aNil, aCons, eTup, eLst, eFn, tB1, tAnd, tOr, tNot, eAnd, eOr, eNot, eIf, eCall, eCallK, pick, eQ, tQ1, qV, qC, qBin, qUn, qB, qAnd, qOr, qNot, qIf, qAndT, qOrT, qNotT, qChain, eChain, eLc, sFor, iSq, iRg1, iRg2, gN, itms, rst, eApp, D.frz, D.frzs, D.pure, D.pures, bind_ok, bind_ex, stmt_ok, stmt_ex, seq_nx, seq_rt, seq_ex, seq_bk, seq_ct, fgt_nx, fgt_bk, fgt_ct, fgt_rt, fgt_ex, out_nx, out_rt, out_ex, opt_some, optL_some, andB_tt, andB_ff, andB_some, orB_tt, orB_ff, orB_some, andX_tt, andX_ff, andX_some, orX_tt, orX_ff, orX_some, itAnd, itOr, itAndX, itOrX, Option.bind_some, List.map_cons, List.map_nil, List.length_cons, List.length_nil, List.cons_append, List.nil_append, List.getElem?_cons_zero, List.getElem?_cons_succ, List.getElem?_nil, List.set_cons_zero, List.set_cons_succ, List.replicate, addI_i, subD_i, ltD_i, leD_i, gtD_i, geD_i, eqS_int, neS_int, eqS_bl, neS_bl, max2_i, min2_i, maxL_i, minL_i, int1_i, intL_i, if_true, if_false, ite_true, ite_false, and_true, true_and, and_self, Bool.and_self, Bool.and_true, Bool.true_and, Bool.and_false, Bool.false_and, Bool.or_true, Bool.true_or, Bool.or_false, Bool.false_or, Bool.not_true, Bool.not_false, Nat.reduceAdd, Nat.reduceSub, Nat.reduceEqDiff, List.filterMap_cons, List.filterMap_nil, decide_true, decide_false, Bool.false_eq_true, reduceIte, Int.reduceAdd, Int.reduceSub, Int.reduceMul, Int.reduceNeg, Int.reduceLT, Int.reduceLE, Int.reduceEq, Int.reduceMod, Int.reduceDiv, Int.lt_irrefl, reduceCtorEq, D.frzs_int, D.pures_int, cap_0, cap_1, cap_2, cap_3, cap_4, cap_5, cap_6, cap_7, cap_8, cap_9, cap_10, cap_11, cap_12, cap_13, cap_14, cap_15, cap_16, cap_17, cap_18, cap_19, cap_20, cap_21, cap_22, cap_23, cap_24, cap_25, cap_26, cap_27, cap_28, cap_29, cap_30, cap_31, cap_32, cap_33, cap_34, cap_35, cap_36, cap_37, cap_38, cap_39, cap_40, ix_0, ix_1, ix_2]
  have e2 : (cs.map fun t => tD (renT (mir p) t)) = (cs.map (renT (mir p))).map tD := by rw [List.map_map]; rfl
  have ne := norm_eq p _ _ (.inr rfl) (ok_mir h) (by rw [len_ren]; exact hl)
  simp -implicitDefEqProofs only [d_law_mirrored, b_d_law_mirrored, runF, eBinR, qFld, eMth, eMth0, eProp, lot_pure, lot_frz, lot_isO, eBad, sBad, gT, gCo, gNl, sAsg, sDput, eDget, eDget2, dicO, sPut, sPut2, sq_tup, sq_lst, sq_vec, sNx, sSeq, sIf, sRet, sSet, sEx, sBk, sCt, sFgt, fgt, eC, eV, eM, eBin, eUn, aNil, aCons, eTup, eLst, eFn, tB1, tAnd, tOr, tNot, eAnd, eOr, eNot, eIf, eCall, eCallK, pick, eQ, tQ1, qV, qC, qBin, qUn, qB, qAnd, qOr, qNot, qIf, qAndT, qOrT, qNotT, qChain, eChain, eLc, sFor, iSq, iRg1, iRg2, gN, itms, rst, eApp, D.frz, D.frzs, D.pure, D.pures, bind_ok, bind_ex, stmt_ok, stmt_ex, seq_nx, seq_rt, seq_ex, seq_bk, seq_ct, fgt_nx, fgt_bk, fgt_ct, fgt_rt, fgt_ex, out_nx, out_rt, out_ex, opt_some, optL_some, andB_tt, andB_ff, andB_some, orB_tt, orB_ff, orB_some, andX_tt, andX_ff, andX_some, orX_tt, orX_ff, orX_some, itAnd, itOr, itAndX, itOrX, Option.bind_some, List.map_cons, List.map_nil, List.length_cons, List.length_nil, List.cons_append, List.nil_append, List.getElem?_cons_zero, List.getElem?_cons_succ, List.getElem?_nil, List.set_cons_zero, List.set_cons_succ, List.replicate, addI_i, subD_i, ltD_i, leD_i, gtD_i, geD_i, eqS_int, neS_int, eqS_bl, neS_bl, max2_i, min2_i, maxL_i, minL_i, int1_i, intL_i, if_true, if_false, ite_true, ite_false, and_true, true_and, and_self, Bool.and_self, Bool.and_true, Bool.true_and, Bool.and_false, Bool.false_and, Bool.or_true, Bool.true_or, Bool.or_false, Bool.false_or, Bool.not_true, Bool.not_false, Nat.reduceAdd, Nat.reduceSub, Nat.reduceEqDiff, List.filterMap_cons, List.filterMap_nil, decide_true, decide_false, Bool.false_eq_true, reduceIte, Int.reduceAdd, Int.reduceSub, Int.reduceMul, Int.reduceNeg, Int.reduceLT, Int.reduceLE, Int.reduceEq, Int.reduceMod, Int.reduceDiv, Int.lt_irrefl, reduceCtorEq, D.frzs_int, D.pures_int, cap_0, cap_1, cap_2, cap_3, cap_4, cap_5, cap_6, cap_7, cap_8, cap_9, cap_10, cap_11, cap_12, cap_13, cap_14, cap_15, cap_16, cap_17, cap_18, cap_19, cap_20, cap_21, cap_22, cap_23, cap_24, cap_25, cap_26, cap_27, cap_28, cap_29, cap_30, cap_31, cap_32, cap_33, cap_34, cap_35, cap_36, cap_37, cap_38, cap_39, cap_40, frzs_tD, key, e2, ne, mirM]
theorem nf_comb {p : Int} {cs : List T3} (h : okL p cs) : NF p (comb cs) := ⟨ok_comb h, fun t ht => (comb_good ht).1⟩
theorem lot_eq (ns : List Int) (p : Int) (hns : ns.length ≤ 63) (hp : 0 ≤ p ∧ p ≤ 40) : ∃ cs, d_law_lot [.lst (ns.map .int), .int p] = .rt (.tup (cs.map tD)) ∧ NF p cs ∧ comb cs = cs ∧ cs.length ≤ 100 := by
  obtain ⟨c, hc⟩ := cell_eq ns 1 (by decide) (by decide) hns
  obtain ⟨dr, h1, h2⟩ := digits_eq c [11] (by intro s hs; simp only [List.mem_cons, List.not_mem_nil, or_false] at hs; omega) (by decide)
  obtain ⟨x, rfl, hx⟩ := inR1 h2
  have h1' : d_law_digits [.int c, .lst [.int 11]] = .rt (.vec [.int x]) := h1
  have hb : bnd x = true := bnd_of ⟨by omega, by omega⟩
  have lp := loop_ind (g := gN 3) (b := (sFgt [4, 3, 5] (sFgt [4, 5] (sIf (tQ1 (qB (qBin geD (qV 1) (qC (.int 2))))) (sSeq (sSet 4 (eCall d_law_digits [] (aCons (eCall d_law_cell [] (aCons (eV 0) (aCons (eQ (qBin addI (qC (.int 4)) (qV 3))) aNil))) (aCons (eLst (aCons (eV 1) (aCons (eQ (qBin subD (qV 1) (qC (.int 1)))) (aCons (eQ (qC (.int 6))) (aCons (eQ (qC (.int 90000000))) aNil))))) aNil)))) (sSeq (sSet 5 (eQ (qBin modD (qUn int1 (qBin addI (qBin addI (qBin ixD (qV 4) (qC (.int 0))) (qC (.int 1))) (qBin ixD (qV 4) (qC (.int 1))))) (qV 1)))) (sEx (eApp 2 (eTup (aCons (eQ (qBin ixD (qV 4) (qC (.int 0)))) (aCons (eV 5) (aCons (eBin addI (eQ (qC (.int 1))) (eBin modD (eQ (qUn int1 (qBin ixD (qV 4) (qC (.int 3))))) (eBin ixD (eLst (aCons (eQ (qC (.int 3))) (aCons (eQ (qC (.int 3))) (aCons (eQ (qC (.int 3))) (aCons (eQ (qC (.int 3))) (aCons (eQ (qC (.int 1000))) (aCons (eQ (qC (.int 90000000))) aNil))))))) (eQ (qBin ixD (qV 4) (qC (.int 2))))))) aNil)))))))) sNx)))) (fun k : Nat => D.int ((0 : Int) + k))
    (fun xs ρ => ∃ (k : Nat) (row : List T3), k + xs.length = x.toNat ∧ xs = List.range' k xs.length ∧ okL p row ∧ row.length ≤ k ∧ ρ = [some (.lst (ns.map .int)), some (.int p), some (.vec (row.map tD)), none, none, none])
    (fun z => ∃ row, okL p row ∧ row.length ≤ 11 ∧ z = .nx [some (.lst (ns.map .int)), some (.int p), some (.vec (row.map tD)), none, none, none])
    (fun ρ ⟨k, row, g1, _, g2, g3, g4⟩ => by
      simp only [List.length_nil] at g1
      exact ⟨row, g2, by omega, by rw [g4]⟩)
    (fun y ys ρ ⟨k, row, g1, gx, g2, g3, g4⟩ => by
      subst g4
      rw [List.length_cons, List.range'_succ] at gx
      injection gx with gx1 gx2
      subst gx1
      rw [List.length_cons] at g1
      obtain ⟨row', s1, s2, s3⟩ := lot_step ns p row y hns hp (by omega) g2 (by omega)
      exact ⟨_, rfl, .inl ⟨_, .inl s1, y + 1, row', by omega, gx2, s2, by omega, rfl⟩⟩) (List.range x.toNat) _ ⟨0, [], by simp, by rw [List.length_range, List.range_eq_range'], (fun t ht => by cases ht), Nat.le_refl _, rfl⟩
  obtain ⟨row, r1, r2, r3⟩ := lp
  have r3' : loop (gN 3) (sFgt [4, 3, 5] (sFgt [4, 5] (sIf (tQ1 (qB (qBin geD (qV 1) (qC (.int 2))))) (sSeq (sSet 4 (eCall d_law_digits [] (aCons (eCall d_law_cell [] (aCons (eV 0) (aCons (eQ (qBin addI (qC (.int 4)) (qV 3))) aNil))) (aCons (eLst (aCons (eV 1) (aCons (eQ (qBin subD (qV 1) (qC (.int 1)))) (aCons (eQ (qC (.int 6))) (aCons (eQ (qC (.int 90000000))) aNil))))) aNil)))) (sSeq (sSet 5 (eQ (qBin modD (qUn int1 (qBin addI (qBin addI (qBin ixD (qV 4) (qC (.int 0))) (qC (.int 1))) (qBin ixD (qV 4) (qC (.int 1))))) (qV 1)))) (sEx (eApp 2 (eTup (aCons (eQ (qBin ixD (qV 4) (qC (.int 0)))) (aCons (eV 5) (aCons (eBin addI (eQ (qC (.int 1))) (eBin modD (eQ (qUn int1 (qBin ixD (qV 4) (qC (.int 3))))) (eBin ixD (eLst (aCons (eQ (qC (.int 3))) (aCons (eQ (qC (.int 3))) (aCons (eQ (qC (.int 3))) (aCons (eQ (qC (.int 3))) (aCons (eQ (qC (.int 1000))) (aCons (eQ (qC (.int 90000000))) aNil))))))) (eQ (qBin ixD (qV 4) (qC (.int 2))))))) aNil)))))))) sNx))) (((List.range x.toNat).map fun (k : Nat) => (0 : Int) + k).map D.int) [some (.lst (ns.map .int)), some (.int p), some (.vec []), none, none, none] = .nx [some (.lst (ns.map .int)), some (.int p), some (.vec (row.map tD)), none, none, none] := by rw [List.map_map]; exact r3
  have hn := norm_eq p (.lst (row.map tD)) row (.inr rfl) r1 (by omega)
  refine ⟨comb row, ?_, nf_comb r1, comb_comb row, by have := len_comb row; omega⟩
  unfold d_law_lot b_d_law_lot
  generalize (sFgt [4, 3, 5] (sFgt [4, 5] (sIf (tQ1 (qB (qBin geD (qV 1) (qC (.int 2))))) (sSeq (sSet 4 (eCall d_law_digits [] (aCons (eCall d_law_cell [] (aCons (eV 0) (aCons (eQ (qBin addI (qC (.int 4)) (qV 3))) aNil))) (aCons (eLst (aCons (eV 1) (aCons (eQ (qBin subD (qV 1) (qC (.int 1)))) (aCons (eQ (qC (.int 6))) (aCons (eQ (qC (.int 90000000))) aNil))))) aNil)))) (sSeq (sSet 5 (eQ (qBin modD (qUn int1 (qBin addI (qBin addI (qBin ixD (qV 4) (qC (.int 0))) (qC (.int 1))) (qBin ixD (qV 4) (qC (.int 1))))) (qV 1)))) (sEx (eApp 2 (eTup (aCons (eQ (qBin ixD (qV 4) (qC (.int 0)))) (aCons (eV 5) (aCons (eBin addI (eQ (qC (.int 1))) (eBin modD (eQ (qUn int1 (qBin ixD (qV 4) (qC (.int 3))))) (eBin ixD (eLst (aCons (eQ (qC (.int 3))) (aCons (eQ (qC (.int 3))) (aCons (eQ (qC (.int 3))) (aCons (eQ (qC (.int 3))) (aCons (eQ (qC (.int 1000))) (aCons (eQ (qC (.int 90000000))) aNil))))))) (eQ (qBin ixD (qV 4) (qC (.int 2))))))) aNil)))))))) sNx))) = bb at r3' ⊢
  simp -implicitDefEqProofs only [runF, eBinR, qFld, eMth, eMth0, eProp, lot_pure, lot_frz, lot_isO, eBad, sBad, gT, gCo, gNl, sAsg, sDput, eDget, eDget2, dicO, sPut, sPut2, sq_tup, sq_lst, sq_vec, sNx, sSeq, sIf, sRet, sSet, sEx, sBk, sCt, sFgt, fgt, eC, eV, eM, eBin, eUn, aNil, aCons, eTup, eLst, eFn, tB1, tAnd, tOr, tNot, eAnd, eOr, eNot, eIf, eCall, eCallK, pick, eQ, tQ1, qV, qC, qBin, qUn, qB, qAnd, qOr, qNot, qIf, qAndT, qOrT, qNotT, qChain, eChain, eLc, sFor, iSq, iRg1, iRg2, gN, itms, rst, eApp, D.frz, D.frzs, D.pure, D.pures, bind_ok, bind_ex, stmt_ok, stmt_ex, seq_nx, seq_rt, seq_ex, seq_bk, seq_ct, fgt_nx, fgt_bk, fgt_ct, fgt_rt, fgt_ex, out_nx, out_rt, out_ex, opt_some, optL_some, andB_tt, andB_ff, andB_some, orB_tt, orB_ff, orB_some, andX_tt, andX_ff, andX_some, orX_tt, orX_ff, orX_some, itAnd, itOr, itAndX, itOrX, Option.bind_some, List.map_cons, List.map_nil, List.length_cons, List.length_nil, List.cons_append, List.nil_append, List.getElem?_cons_zero, List.getElem?_cons_succ, List.getElem?_nil, List.set_cons_zero, List.set_cons_succ, List.replicate, addI_i, subD_i, ltD_i, leD_i, gtD_i, geD_i, eqS_int, neS_int, eqS_bl, neS_bl, max2_i, min2_i, maxL_i, minL_i, int1_i, intL_i, if_true, if_false, ite_true, ite_false, and_true, true_and, and_self, Bool.and_self, Bool.and_true, Bool.true_and, Bool.and_false, Bool.false_and, Bool.or_true, Bool.true_or, Bool.or_false, Bool.false_or, Bool.not_true, Bool.not_false, Nat.reduceAdd, Nat.reduceSub, Nat.reduceEqDiff, List.filterMap_cons, List.filterMap_nil, decide_true, decide_false, Bool.false_eq_true, reduceIte, Int.reduceAdd, Int.reduceSub, Int.reduceMul, Int.reduceNeg, Int.reduceLT, Int.reduceLE, Int.reduceEq, Int.reduceMod, Int.reduceDiv, Int.lt_irrefl, reduceCtorEq, D.frzs_int, D.pures_int, cap_0, cap_1, cap_2, cap_3, cap_4, cap_5, cap_6, cap_7, cap_8, cap_9, cap_10, cap_11, cap_12, cap_13, cap_14, cap_15, cap_16, cap_17, cap_18, cap_19, cap_20, cap_21, cap_22, cap_23, cap_24, cap_25, cap_26, cap_27, cap_28, cap_29, cap_30, cap_31, cap_32, cap_33, cap_34, cap_35, cap_36, cap_37, cap_38, cap_39, cap_40, hc, h1', iv0v, hb, rng_eq, Int.sub_zero, r3', frzs_tD, hn, D.frzs_int]
/-! tables renumbered -/
def phi (i j : Int) (q : Int × Int) : Int := if (!decide (decide (q.1 ≤ i ∧ i < q.2) = decide (q.1 ≤ j ∧ j < q.2))) = true then 1 else 0
theorem pass_lin {cs : List T3} (h : ∀ t ∈ cs, t.1 < t.2.1 ∧ 0 < t.2.2) (i j : Int) : passM cs i j = lin cs (phi i j) := by
  have e : passM cs i j = sm (cs.filter (sepM i j)) fun t => t.2.2 := rfl
  rw [e, sm_filter]
  refine sm_congr fun t ht => ?_
  obtain ⟨g1, g2⟩ := good_of (h t ht)
  rw [if_pos g1, g2]
  unfold phi sepM
  split <;> simp
theorem nf_pos {p : Int} {cs : List T3} (h : NF p cs) : ∀ t ∈ cs, t.1 < t.2.1 ∧ 0 < t.2.2 := fun t ht => ⟨h.2 t ht, by have := (h.1 t ht).2.2.2; omega⟩
theorem lin_congr {cs : List T3} {φ ψ : Int × Int → Int} (h : ∀ t ∈ cs, good t = true → φ (prT t) = ψ (prT t)) : lin cs φ = lin cs ψ := by
  unfold lin
  refine sm_congr fun t ht => ?_
  by_cases g : good t = true
  · rw [if_pos g, if_pos g, h t ht g]
  · rw [if_neg g, if_neg g]
theorem rot_is {p s x : Int} (hp : 0 < p) (hx : 0 ≤ x ∧ x < p) : rot p s x = if x + s % p < p then x + s % p else x + s % p - p := by
  unfold rot
  rw [← Int.add_emod_emod]
  have h0 := Int.emod_nonneg s (show p ≠ 0 by omega)
  have h1 := Int.emod_lt_of_pos s hp
  exact mod_2 (by omega) (by omega)
theorem phi_rot {p s i j a b : Int} (ha : 0 ≤ a ∧ a < b) (hb : b < p) (hi : 0 ≤ i ∧ i < p) (hj : 0 ≤ j ∧ j < p) : phi (rot p s i) (rot p s j) (min (rot p s a) (rot p s b), max (rot p s a) (rot p s b)) = phi i j (a, b) := by
  have hp : 0 < p := by omega
  have h0 := Int.emod_nonneg s (show p ≠ 0 by omega)
  have h1 := Int.emod_lt_of_pos s hp
  rw [rot_is hp hi, rot_is hp hj, rot_is hp (show 0 ≤ a ∧ a < p by omega), rot_is hp (show 0 ≤ b ∧ b < p by omega)]
  generalize s % p = r at h0 h1
  unfold phi
  congr 1
  rw [Bool.not_eq_true', Bool.not_eq_true', decide_eq_false_iff_not, decide_eq_false_iff_not, decide_eq_decide, decide_eq_decide]
  simp only [eq_iff_iff]
  split <;> split <;> split <;> split <;> omega
theorem phi_mir {p i j a b : Int} (ha : 0 ≤ a ∧ a < b) (hb : b < p) (hi : 0 ≤ i ∧ i < p) (hj : 0 ≤ j ∧ j < p) : phi ((p - 2 - i) % p) ((p - 2 - j) % p) (min (mir p a) (mir p b), max (mir p a) (mir p b)) = phi i j (a, b) := by
  rw [mod_m (z := p - 2 - i) (n := p) (by omega) (by omega), mod_m (z := p - 2 - j) (n := p) (by omega) (by omega)]
  unfold phi mir
  congr 1
  rw [Bool.not_eq_true', Bool.not_eq_true', decide_eq_false_iff_not, decide_eq_false_iff_not, decide_eq_decide, decide_eq_decide]
  simp only [eq_iff_iff]
  split <;> split <;> omega
theorem nf_turn {p s : Int} {cs : List T3} (h : okL p cs) : NF p (turnM p s cs) := nf_comb (ok_rot h)
theorem nf_mir {p : Int} {cs : List T3} (h : okL p cs) : NF p (mirM p cs) := nf_comb (ok_mir h)
theorem pass_rot {p s i j : Int} {cs : List T3} (h : NF p cs) (hi : 0 ≤ i ∧ i < max p 1) (hj : 0 ≤ j ∧ j < max p 1) : passM (turnM p s cs) ((i + s) % max p 1) ((j + s) % max p 1) = passM cs i j := by
  rw [pass_lin (nf_pos (nf_turn h.1)), pass_lin (nf_pos h)]
  unfold turnM
  rw [comb_lin, lin_ren h.1 _ fun a b ha hb e => rot_inj s a b ha hb e]
  refine lin_congr fun t ht g => ?_
  obtain ⟨k1, k2, k3, k4⟩ := h.1 t ht
  have k5 := h.2 t ht
  have e : max p 1 = p := by omega
  rw [e] at hi hj ⊢
  rw [(good_of ⟨k5, by omega⟩).2]
  exact phi_rot ⟨k1.1, k5⟩ k2.2 hi hj
theorem pass_mir {p i j : Int} {cs : List T3} (h : NF p cs) (hi : 0 ≤ i ∧ i < max p 1) (hj : 0 ≤ j ∧ j < max p 1) : passM (mirM p cs) ((p - 2 - i) % max p 1) ((p - 2 - j) % max p 1) = passM cs i j := by
  rw [pass_lin (nf_pos (nf_mir h.1)), pass_lin (nf_pos h)]
  unfold mirM
  rw [comb_lin, lin_ren h.1 _ mir_inj]
  refine lin_congr fun t ht g => ?_
  obtain ⟨k1, k2, k3, k4⟩ := h.1 t ht
  have k5 := h.2 t ht
  have e : max p 1 = p := by omega
  rw [e] at hi hj ⊢
  rw [(good_of ⟨k5, by omega⟩).2]
  exact phi_mir ⟨k1.1, k5⟩ k2.2 hi hj
end Math

set_option Elab.async false
set_option linter.all false
set_option maxRecDepth 100000
set_option maxHeartbeats 8000000
namespace Math
open PySem FL Prg
open L2 (atI atI_nat ixN)
theorem negD_i (i : Int) : negD (.int i) = some (.int (-i)) := rfl
theorem plD_frz (n : Nat) (pl : Int → Int) : (plD n pl).frz = plD n pl := D.frz_of_pure (by unfold plD; rw [D.pure]; exact D.pures_map (f := fun i : Nat => D.int (pl i)) (fun _ => rfl) _)
theorem law_tail (p s r : Int) (cs : List T3) (n : Nat) (l r0 : D) (hp : 0 ≤ p ∧ p ≤ 40) (hn : (n : Int) = max p 1) (hc : NF p cs) (hcc : comb cs = cs) (hl : cs.length ≤ 100) :
    (sSeq (sSet 5 (eCall d_Lot___init__ [] (aCons (eV 1) (aCons (eV 2) aNil)))) (sSeq (sSet 6 (eQ (qBin max2 (qV 1) (qC (.int 1))))) (sSeq (sSet 7 (eCall d_law_table [] (aCons (eV 1) (aCons (eV 2) aNil)))) (sSeq (sSet 8 (eLc [14] (iRg1 (aCons (eV 6) aNil)) (gN 14) tT (eV 14))) (sSeq (sIf (tOr (tNot (tB1 (eCall d_law_counts [] (aCons (eV 5) (aCons (eV 1) (aCons (eV 2) aNil)))))) (tNot (tB1 (eCall d_law_moved_table [] (aCons (eProp 0 d_Lot_table (qV 5)) (aCons (eV 7) (aCons (eV 8) aNil))))))) (sRet (eQ (qC (.bl false)))) sNx) (sSeq (sSet 9 (eMth 0 d_Lot_turned [] (qV 5) (aCons (eV 3) aNil))) (sSeq (sSet 10 (eMth 0 d_Lot_mirrored [] (qV 5) aNil)) (sSeq (sSet 11 (eCall d_law_turned [] (aCons (eV 1) (aCons (eV 2) (aCons (eV 3) aNil))))) (sSeq (sIf (tNot (tB1 (eCall d_law_lot_is [] (aCons (eV 9) (aCons (eV 1) (aCons (eV 11) aNil)))))) (sRet (eQ (qC (.bl false)))) sNx) (sSeq (sIf (tNot (tB1 (eCall d_law_lot_is [] (aCons (eV 10) (aCons (eV 1) (aCons (eCall d_law_mirrored [] (aCons (eV 1) (aCons (eV 2) aNil))) aNil)))))) (sRet (eQ (qC (.bl false)))) sNx) (sSeq (sIf (tOr (tNot (tB1 (eCall d_law_counts [] (aCons (eV 9) (aCons (eV 1) (aCons (eV 11) aNil)))))) (tNot (tB1 (eCall d_law_counts [] (aCons (eV 10) (aCons (eV 1) (aCons (eCall d_law_mirrored [] (aCons (eV 1) (aCons (eV 2) aNil))) aNil))))))) (sRet (eQ (qC (.bl false)))) sNx) (sSeq (sIf (tNot (tB1 (eCall d_law_moved_table [] (aCons (eProp 0 d_Lot_table (qV 9)) (aCons (eV 7) (aCons (eLc [14] (iRg1 (aCons (eV 6) aNil)) (gN 14) tT (eQ (qBin modD (qUn int1 (qBin addI (qV 14) (qV 3))) (qV 6)))) aNil)))))) (sRet (eQ (qC (.bl false)))) sNx) (sSeq (sIf (tNot (tB1 (eCall d_law_moved_table [] (aCons (eProp 0 d_Lot_table (qV 10)) (aCons (eV 7) (aCons (eLc [14] (iRg1 (aCons (eV 6) aNil)) (gN 14) tT (eQ (qBin modD (qUn int1 (qBin subD (qBin subD (qV 1) (qC (.int 2))) (qV 14))) (qV 6)))) aNil)))))) (sRet (eQ (qC (.bl false)))) sNx) (sSeq (sIf (tOr (tNot (tB1 (eCall d_law_lot_is [] (aCons (eMth 0 d_Lot_turned [] (qV 9) (aCons (eQ (qUn negD (qV 3))) aNil)) (aCons (eV 1) (aCons (eV 2) aNil)))))) (tNot (tB1 (eCall d_law_lot_is [] (aCons (eMth 0 d_Lot_mirrored [] (qV 10) aNil) (aCons (eV 1) (aCons (eV 2) aNil))))))) (sRet (eQ (qC (.bl false)))) sNx) (sSeq (sIf (tOr (tNot (tB1 (eCall d_law_counts [] (aCons (eMth 0 d_Lot_turned [] (qV 9) (aCons (eQ (qUn negD (qV 3))) aNil)) (aCons (eV 1) (aCons (eV 2) aNil)))))) (tNot (tB1 (eCall d_law_counts [] (aCons (eMth 0 d_Lot_mirrored [] (qV 10) aNil) (aCons (eV 1) (aCons (eV 2) aNil))))))) (sRet (eQ (qC (.bl false)))) sNx) (sSeq (sSet 12 (eCall d_law_turned [] (aCons (eV 1) (aCons (eV 2) (aCons (eQ (qBin addI (qV 3) (qV 4))) aNil))))) (sSeq (sIf (tOr (tNot (tB1 (eCall d_law_lot_is [] (aCons (eMth 0 d_Lot_turned [] (qV 9) (aCons (eV 4) aNil)) (aCons (eV 1) (aCons (eV 12) aNil)))))) (tNot (tB1 (eCall d_law_lot_is [] (aCons (eMth 0 d_Lot_turned [] (qV 5) (aCons (eQ (qBin addI (qV 3) (qV 4))) aNil)) (aCons (eV 1) (aCons (eV 12) aNil))))))) (sRet (eQ (qC (.bl false)))) sNx) (sSeq (sIf (tOr (tNot (tB1 (eCall d_law_lot_is [] (aCons (eMth 0 d_Lot_turned [] (qV 5) (aCons (eV 1) aNil)) (aCons (eV 1) (aCons (eV 2) aNil)))))) (tNot (tB1 (eCall d_law_lot_is [] (aCons (eMth 0 d_Lot_turned [] (qV 5) (aCons (eQ (qC (.int 0))) aNil)) (aCons (eV 1) (aCons (eV 2) aNil))))))) (sRet (eQ (qC (.bl false)))) sNx) (sSeq (sSet 13 (eCall d_law_turned [] (aCons (eV 1) (aCons (eCall d_law_mirrored [] (aCons (eV 1) (aCons (eV 2) aNil))) (aCons (eV 3) aNil))))) (sSeq (sIf (tOr (tNot (tB1 (eCall d_law_lot_is [] (aCons (eMth 0 d_Lot_turned [] (qV 10) (aCons (eV 3) aNil)) (aCons (eV 1) (aCons (eV 13) aNil)))))) (tNot (tB1 (eCall d_law_lot_is [] (aCons (eMth0 0 d_Lot_mirrored [] (eMth 0 d_Lot_turned [] (qV 5) (aCons (eQ (qUn negD (qV 3))) aNil))) (aCons (eV 1) (aCons (eV 13) aNil))))))) (sRet (eQ (qC (.bl false)))) sNx) (sSeq (sIf (tOr (tNot (tB1 (eCall d_law_lot_is [] (aCons (eV 5) (aCons (eV 1) (aCons (eV 2) aNil)))))) (tNot (tB1 (eCall d_law_lot_is [] (aCons (eV 9) (aCons (eV 1) (aCons (eV 11) aNil))))))) (sRet (eQ (qC (.bl false)))) sNx) (sSeq (sIf (tNot (tB1 (eCall d_law_lot_is [] (aCons (eMth 0 d_Lot_mirrored [] (qV 5) aNil) (aCons (eV 1) (aCons (eCall d_law_mirrored [] (aCons (eV 1) (aCons (eV 2) aNil))) aNil)))))) (sRet (eQ (qC (.bl false)))) sNx) (sRet (eCall d_law_lot_is [] (aCons (eMth 0 d_Lot_turned [] (qV 5) (aCons (eV 3) aNil)) (aCons (eV 1) (aCons (eV 11) aNil))))))))))))))))))))))))))) [some l, some (.int p), some (.tup (cs.map tD)), some (.int s), some (.int r), none, none, none, none, none, none, none, none, none, none] = .rt (.bl true) := by
  have ok := hc.1
  have hb : bnd (n : Int) = true := bnd_of ⟨by omega, by omega⟩
  have hnt : (max p 1).toNat = n := by omega
  have lT := len_turnM p s cs
  have lM := len_mirM p cs
  have okT : okL p (turnM p s cs) := ok_turnM ok
  have okM : okL p (mirM p cs) := ok_mirM ok
  have mk : d_Lot___init__ [.int p, .tup (cs.map tD)] = .rt (lotD p cs) := by
    have := make_eq p _ cs (.inl rfl) hp.1 ok (by omega)
    rw [hcc] at this
    exact this
  have tb := table_eq p cs n hn (by omega) hc (by omega)
  have m1 : d_Lot_table [lotD p cs] = .rt (tblD n (passM cs)) := by rw [mtab_eq p cs ⟨hp.1, by omega⟩ (by omega), hnt, tbl_eq]
  have m2 : d_Lot_table [lotD p (turnM p s cs)] = .rt (tblD n (passM (turnM p s cs))) := by rw [mtab_eq p _ ⟨hp.1, by omega⟩ (by omega), hnt, tbl_eq]
  have m3 : d_Lot_table [lotD p (mirM p cs)] = .rt (tblD n (passM (mirM p cs))) := by rw [mtab_eq p _ ⟨hp.1, by omega⟩ (by omega), hnt, tbl_eq]
  have v1 := moved_eq n (passM cs) (passM cs) (fun i => i) (by omega) (fun i hi => hi) fun i j _ _ => rfl
  have v2 := moved_eq n (passM (turnM p s cs)) (passM cs) (fun i => (i + s) % n) (by omega) (fun i hi => ⟨Int.emod_nonneg _ (by omega), Int.emod_lt_of_pos _ (by omega)⟩) fun i j hi hj => by rw [hn] at hi hj ⊢; exact pass_rot hc hi hj
  have v3 := moved_eq n (passM (mirM p cs)) (passM cs) (fun i => (p - 2 - i) % n) (by omega) (fun i hi => ⟨Int.emod_nonneg _ (by omega), Int.emod_lt_of_pos _ (by omega)⟩) fun i j hi hj => by rw [hn] at hi hj ⊢; exact pass_mir hc hi hj
  have c1 := counts_eq p cs ⟨hp.1, by omega⟩ (by omega)
  have c2 := counts_eq p (turnM p s cs) ⟨hp.1, by omega⟩ (by omega)
  have c3 := counts_eq p (mirM p cs) ⟨hp.1, by omega⟩ (by omega)
  have t1 := mturned_eq p s cs hp.1 ok (by omega)
  have t2 := mturned_eq p (-s) (turnM p s cs) hp.1 okT (by omega)
  rw [turn_turn ok, show s + -s = 0 by omega, turn_0 ok, hcc] at t2
  have t3 := mturned_eq p r (turnM p s cs) hp.1 okT (by omega)
  rw [turn_turn ok] at t3
  have t4 := mturned_eq p (s + r) cs hp.1 ok (by omega)
  have t5 := mturned_eq p p cs hp.1 ok (by omega)
  rw [turn_p ok, hcc] at t5
  have t6 := mturned_eq p 0 cs hp.1 ok (by omega)
  rw [turn_0 ok, hcc] at t6
  have t7 := mturned_eq p s (mirM p cs) hp.1 okM (by omega)
  have t8 := mturned_eq p (-s) cs hp.1 ok (by omega)
  have lT8 := len_turnM p (-s) cs
  have w1 := mmirrored_eq p cs hp.1 ok (by omega)
  have w2 := mmirrored_eq p (mirM p cs) hp.1 okM (by omega)
  rw [mir_mir ok, hcc] at w2
  have w3 := mmirrored_eq p (turnM p (-s) cs) hp.1 (ok_turnM ok) (by omega)
  rw [mir_turn ok] at w3
  have L1 := lturned_eq p s cs ok (by omega)
  have L2' := lmirrored_eq p cs ok (by omega)
  have L3 := lturned_eq p (s + r) cs ok (by omega)
  have L4 := lturned_eq p s (mirM p cs) okM (by omega)
  have lU := len_turnM p (s + r) cs
  have lV := len_turnM p s (mirM p cs)
  have i1 := lotis_eq p cs (by omega)
  have i2 := lotis_eq p (turnM p s cs) (by omega)
  have i3 := lotis_eq p (mirM p cs) (by omega)
  have i4 := lotis_eq p (turnM p (s + r) cs) (by omega)
  have i5 := lotis_eq p (turnM p s (mirM p cs)) (by omega)
  have hm : max p 1 = (n : Int) := hn.symm
  have mdn : ∀ z : Int, modD (.int z) (.int n) = some (.int (z % n)) := fun z => modD_i (by omega)
  have cp : ∀ (e : Rho → RX D) (pl : Int → Int) (a0 a2 a4 a5 a7 a8 a9 a10 a11 a12 a13 : Option D), (∀ x : Int, e [a0, some (.int p), a2, some (.int s), a4, a5, some (.int n), a7, a8, a9, a10, a11, a12, a13, some (.int x)] = .ok (.int (pl x)) [a0, some (.int p), a2, some (.int s), a4, a5, some (.int n), a7, a8, a9, a10, a11, a12, a13, some (.int x)]) →
      lcl [14] (gN 14) tT e (((List.range n).map fun (k : Nat) => (0 : Int) + k).map D.int) [] [a0, some (.int p), a2, some (.int s), a4, a5, some (.int n), a7, a8, a9, a10, a11, a12, a13, none] = .ok ((List.range n).map fun (i : Nat) => D.int (pl i)) [a0, some (.int p), a2, some (.int s), a4, a5, some (.int n), a7, a8, a9, a10, a11, a12, a13, none] := fun e pl a0 a2 a4 a5 a7 a8 a9 a10 a11 a12 a13 he => by
    rw [lcl_all (vs := [14]) (g := gN 14) (e := e) (ρ := [a0, some (.int p), a2, some (.int s), a4, a5, some (.int n), a7, a8, a9, a10, a11, a12, a13, none]) D.int (fun x => D.int (pl x)) ((List.range n).map fun (k : Nat) => (0 : Int) + k) (by rw [List.length_map, List.length_range]; omega) fun x _ => ⟨_, [a0, some (.int p), a2, some (.int s), a4, a5, some (.int n), a7, a8, a9, a10, a11, a12, a13, some (.int x)], rfl, he x, rfl⟩, List.map_map]
    congr 1
    refine List.map_congr_left fun i _ => ?_
    show D.int (pl ((0 : Int) + i)) = _
    rw [Int.zero_add]
  have cp1 := fun a0 a2 a4 a5 a7 a8 a9 a10 a11 a12 a13 => cp (eV 14) (fun i => i) a0 a2 a4 a5 a7 a8 a9 a10 a11 a12 a13 fun x => rfl
  have cp2 := fun a0 a2 a4 a5 a7 a8 a9 a10 a11 a12 a13 => cp (eQ (qBin modD (qUn int1 (qBin addI (qV 14) (qV 3))) (qV 6))) (fun i => (i + s) % n) a0 a2 a4 a5 a7 a8 a9 a10 a11 a12 a13 fun x => by simp -implicitDefEqProofs only [runF, eBinR, qFld, eMth, eMth0, eProp, lot_pure, lot_frz, lot_isO, eBad, sBad, gT, gCo, gNl, sAsg, sDput, eDget, eDget2, dicO, sPut, sPut2, sq_tup, sq_lst, sq_vec, sNx, sSeq, sIf, sRet, sSet, sEx, sBk, sCt, sFgt, fgt, eC, eV, eM, eBin, eUn, aNil, aCons, eTup, eLst, eFn, tB1, tAnd, tOr, tNot, eAnd, eOr, eNot, eIf, eCall, eCallK, pick, eQ, tQ1, qV, qC, qBin, qUn, qB, qAnd, qOr, qNot, qIf, qAndT, qOrT, qNotT, qChain, eChain, eLc, sFor, iSq, iRg1, iRg2, gN, itms, rst, eApp, D.frz, D.frzs, D.pure, D.pures, bind_ok, bind_ex, stmt_ok, stmt_ex, seq_nx, seq_rt, seq_ex, seq_bk, seq_ct, fgt_nx, fgt_bk, fgt_ct, fgt_rt, fgt_ex, out_nx, out_rt, out_ex, opt_some, optL_some, andB_tt, andB_ff, andB_some, orB_tt, orB_ff, orB_some, andX_tt, andX_ff, andX_some, orX_tt, orX_ff, orX_some, itAnd, itOr, itAndX, itOrX, Option.bind_some, List.map_cons, List.map_nil, List.length_cons, List.length_nil, List.cons_append, List.nil_append, List.getElem?_cons_zero, List.getElem?_cons_succ, List.getElem?_nil, List.set_cons_zero, List.set_cons_succ, List.replicate, addI_i, subD_i, ltD_i, leD_i, gtD_i, geD_i, eqS_int, neS_int, eqS_bl, neS_bl, max2_i, min2_i, maxL_i, minL_i, int1_i, intL_i, if_true, if_false, ite_true, ite_false, and_true, true_and, and_self, Bool.and_self, Bool.and_true, Bool.true_and, Bool.and_false, Bool.false_and, Bool.or_true, Bool.true_or, Bool.or_false, Bool.false_or, Bool.not_true, Bool.not_false, Nat.reduceAdd, Nat.reduceSub, Nat.reduceEqDiff, List.filterMap_cons, List.filterMap_nil, decide_true, decide_false, Bool.false_eq_true, reduceIte, Int.reduceAdd, Int.reduceSub, Int.reduceMul, Int.reduceNeg, Int.reduceLT, Int.reduceLE, Int.reduceEq, Int.reduceMod, Int.reduceDiv, Int.lt_irrefl, reduceCtorEq, D.frzs_int, D.pures_int, cap_0, cap_1, cap_2, cap_3, cap_4, cap_5, cap_6, cap_7, cap_8, cap_9, cap_10, cap_11, cap_12, cap_13, cap_14, cap_15, cap_16, cap_17, cap_18, cap_19, cap_20, cap_21, cap_22, cap_23, cap_24, cap_25, cap_26, cap_27, cap_28, cap_29, cap_30, cap_31, cap_32, cap_33, cap_34, cap_35, cap_36, cap_37, cap_38, cap_39, cap_40, mdn]
  have cp3 := fun a0 a2 a4 a5 a7 a8 a9 a10 a11 a12 a13 => cp (eQ (qBin modD (qUn int1 (qBin subD (qBin subD (qV 1) (qC (.int 2))) (qV 14))) (qV 6))) (fun i => (p - 2 - i) % n) a0 a2 a4 a5 a7 a8 a9 a10 a11 a12 a13 fun x => by simp -implicitDefEqProofs only [runF, eBinR, qFld, eMth, eMth0, eProp, lot_pure, lot_frz, lot_isO, eBad, sBad, gT, gCo, gNl, sAsg, sDput, eDget, eDget2, dicO, sPut, sPut2, sq_tup, sq_lst, sq_vec, sNx, sSeq, sIf, sRet, sSet, sEx, sBk, sCt, sFgt, fgt, eC, eV, eM, eBin, eUn, aNil, aCons, eTup, eLst, eFn, tB1, tAnd, tOr, tNot, eAnd, eOr, eNot, eIf, eCall, eCallK, pick, eQ, tQ1, qV, qC, qBin, qUn, qB, qAnd, qOr, qNot, qIf, qAndT, qOrT, qNotT, qChain, eChain, eLc, sFor, iSq, iRg1, iRg2, gN, itms, rst, eApp, D.frz, D.frzs, D.pure, D.pures, bind_ok, bind_ex, stmt_ok, stmt_ex, seq_nx, seq_rt, seq_ex, seq_bk, seq_ct, fgt_nx, fgt_bk, fgt_ct, fgt_rt, fgt_ex, out_nx, out_rt, out_ex, opt_some, optL_some, andB_tt, andB_ff, andB_some, orB_tt, orB_ff, orB_some, andX_tt, andX_ff, andX_some, orX_tt, orX_ff, orX_some, itAnd, itOr, itAndX, itOrX, Option.bind_some, List.map_cons, List.map_nil, List.length_cons, List.length_nil, List.cons_append, List.nil_append, List.getElem?_cons_zero, List.getElem?_cons_succ, List.getElem?_nil, List.set_cons_zero, List.set_cons_succ, List.replicate, addI_i, subD_i, ltD_i, leD_i, gtD_i, geD_i, eqS_int, neS_int, eqS_bl, neS_bl, max2_i, min2_i, maxL_i, minL_i, int1_i, intL_i, if_true, if_false, ite_true, ite_false, and_true, true_and, and_self, Bool.and_self, Bool.and_true, Bool.true_and, Bool.and_false, Bool.false_and, Bool.or_true, Bool.true_or, Bool.or_false, Bool.false_or, Bool.not_true, Bool.not_false, Nat.reduceAdd, Nat.reduceSub, Nat.reduceEqDiff, List.filterMap_cons, List.filterMap_nil, decide_true, decide_false, Bool.false_eq_true, reduceIte, Int.reduceAdd, Int.reduceSub, Int.reduceMul, Int.reduceNeg, Int.reduceLT, Int.reduceLE, Int.reduceEq, Int.reduceMod, Int.reduceDiv, Int.lt_irrefl, reduceCtorEq, D.frzs_int, D.pures_int, cap_0, cap_1, cap_2, cap_3, cap_4, cap_5, cap_6, cap_7, cap_8, cap_9, cap_10, cap_11, cap_12, cap_13, cap_14, cap_15, cap_16, cap_17, cap_18, cap_19, cap_20, cap_21, cap_22, cap_23, cap_24, cap_25, cap_26, cap_27, cap_28, cap_29, cap_30, cap_31, cap_32, cap_33, cap_34, cap_35, cap_36, cap_37, cap_38, cap_39, cap_40, mdn]
  have fr : ∀ pl : Int → Int, D.frzs ((List.range n).map fun (i : Nat) => D.int (pl i)) = (List.range n).map fun (i : Nat) => D.int (pl i) := fun pl => D.frzs_map (f := fun i : Nat => D.int (pl i)) (fun _ => rfl) _
  have fr1 := fr fun i => i
  have fr2 := fr fun i => (i + s) % n
  have fr3 := fr fun i => (p - 2 - i) % n
  simp only [plD] at v1 v2 v3
  generalize turnM p s cs = T at *
  generalize mirM p cs = M at *
  generalize turnM p (s + r) cs = U at *
  generalize turnM p s M = V at *
  generalize turnM p (-s) cs = T8 at *
  simp -implicitDefEqProofs only [runF, eBinR, qFld, eMth, eMth0, eProp, lot_pure, lot_frz, lot_isO, eBad, sBad, gT, gCo, gNl, sAsg, sDput, eDget, eDget2, dicO, sPut, sPut2, sq_tup, sq_lst, sq_vec, sNx, sSeq, sIf, sRet, sSet, sEx, sBk, sCt, sFgt, fgt, eC, eV, eM, eBin, eUn, aNil, aCons, eTup, eLst, eFn, tB1, tAnd, tOr, tNot, eAnd, eOr, eNot, eIf, eCall, eCallK, pick, eQ, tQ1, qV, qC, qBin, qUn, qB, qAnd, qOr, qNot, qIf, qAndT, qOrT, qNotT, qChain, eChain, eLc, sFor, iSq, iRg1, iRg2, gN, itms, rst, eApp, D.frz, D.frzs, D.pure, D.pures, bind_ok, bind_ex, stmt_ok, stmt_ex, seq_nx, seq_rt, seq_ex, seq_bk, seq_ct, fgt_nx, fgt_bk, fgt_ct, fgt_rt, fgt_ex, out_nx, out_rt, out_ex, opt_some, optL_some, andB_tt, andB_ff, andB_some, orB_tt, orB_ff, orB_some, andX_tt, andX_ff, andX_some, orX_tt, orX_ff, orX_some, itAnd, itOr, itAndX, itOrX, Option.bind_some, List.map_cons, List.map_nil, List.length_cons, List.length_nil, List.cons_append, List.nil_append, List.getElem?_cons_zero, List.getElem?_cons_succ, List.getElem?_nil, List.set_cons_zero, List.set_cons_succ, List.replicate, addI_i, subD_i, ltD_i, leD_i, gtD_i, geD_i, eqS_int, neS_int, eqS_bl, neS_bl, max2_i, min2_i, maxL_i, minL_i, int1_i, intL_i, if_true, if_false, ite_true, ite_false, and_true, true_and, and_self, Bool.and_self, Bool.and_true, Bool.true_and, Bool.and_false, Bool.false_and, Bool.or_true, Bool.true_or, Bool.or_false, Bool.false_or, Bool.not_true, Bool.not_false, Nat.reduceAdd, Nat.reduceSub, Nat.reduceEqDiff, List.filterMap_cons, List.filterMap_nil, decide_true, decide_false, Bool.false_eq_true, reduceIte, Int.reduceAdd, Int.reduceSub, Int.reduceMul, Int.reduceNeg, Int.reduceLT, Int.reduceLE, Int.reduceEq, Int.reduceMod, Int.reduceDiv, Int.lt_irrefl, reduceCtorEq, D.frzs_int, D.pures_int, cap_0, cap_1, cap_2, cap_3, cap_4, cap_5, cap_6, cap_7, cap_8, cap_9, cap_10, cap_11, cap_12, cap_13, cap_14, cap_15, cap_16, cap_17, cap_18, cap_19, cap_20, cap_21, cap_22, cap_23, cap_24, cap_25, cap_26, cap_27, cap_28, cap_29, cap_30, cap_31, cap_32, cap_33, cap_34, cap_35, cap_36, cap_37, cap_38, cap_39, cap_40, mk, hm, tb, hb, rng_eq, Int.sub_zero, Int.toNat_natCast, frzs_tD, cp1, cp2, cp3, fr1, fr2, fr3, tbl_frz, m1, m2, m3, v1, v2, v3, c1, c2, c3, t1, t2, t3, t4, t5, t6, t7, t8, w1, w2, w3, L1, L2', L3, L4, i1, i2, i3, i4, i5, negD_i]
end Math

set_option Elab.async false
set_option linter.all false
set_option maxRecDepth 100000
set_option maxHeartbeats 8000000
namespace Math
open PySem FL Prg
theorem law_runs (ns : List Int) (hns : ns.length ≤ 63) : d_law [.lst (ns.map D.int)] = .rt (.bl true) := by
  obtain ⟨c0, h0⟩ := cell_eq ns 0 (by decide) (by decide) hns
  obtain ⟨p, hp, hp1⟩ := pins_eq c0
  obtain ⟨cs, hl, hc, hcc, hlen⟩ := lot_eq ns p hns hp1
  obtain ⟨c2, h2⟩ := cell_eq ns 2 (by decide) (by decide) hns
  obtain ⟨s, hs⟩ := steps_eq c2
  obtain ⟨c3, h3⟩ := cell_eq ns 3 (by decide) (by decide) hns
  obtain ⟨r, hr⟩ := steps_eq c3
  have tail := fun r => law_tail p s r cs (max p 1).toNat (.lst (ns.map D.int)) .non hp1 (by omega) hc hcc hlen
  unfold d_law b_d_law
  generalize (sSeq (sSet 5 (eCall d_Lot___init__ [] (aCons (eV 1) (aCons (eV 2) aNil)))) (sSeq (sSet 6 (eQ (qBin max2 (qV 1) (qC (.int 1))))) (sSeq (sSet 7 (eCall d_law_table [] (aCons (eV 1) (aCons (eV 2) aNil)))) (sSeq (sSet 8 (eLc [14] (iRg1 (aCons (eV 6) aNil)) (gN 14) tT (eV 14))) (sSeq (sIf (tOr (tNot (tB1 (eCall d_law_counts [] (aCons (eV 5) (aCons (eV 1) (aCons (eV 2) aNil)))))) (tNot (tB1 (eCall d_law_moved_table [] (aCons (eProp 0 d_Lot_table (qV 5)) (aCons (eV 7) (aCons (eV 8) aNil))))))) (sRet (eQ (qC (.bl false)))) sNx) (sSeq (sSet 9 (eMth 0 d_Lot_turned [] (qV 5) (aCons (eV 3) aNil))) (sSeq (sSet 10 (eMth 0 d_Lot_mirrored [] (qV 5) aNil)) (sSeq (sSet 11 (eCall d_law_turned [] (aCons (eV 1) (aCons (eV 2) (aCons (eV 3) aNil))))) (sSeq (sIf (tNot (tB1 (eCall d_law_lot_is [] (aCons (eV 9) (aCons (eV 1) (aCons (eV 11) aNil)))))) (sRet (eQ (qC (.bl false)))) sNx) (sSeq (sIf (tNot (tB1 (eCall d_law_lot_is [] (aCons (eV 10) (aCons (eV 1) (aCons (eCall d_law_mirrored [] (aCons (eV 1) (aCons (eV 2) aNil))) aNil)))))) (sRet (eQ (qC (.bl false)))) sNx) (sSeq (sIf (tOr (tNot (tB1 (eCall d_law_counts [] (aCons (eV 9) (aCons (eV 1) (aCons (eV 11) aNil)))))) (tNot (tB1 (eCall d_law_counts [] (aCons (eV 10) (aCons (eV 1) (aCons (eCall d_law_mirrored [] (aCons (eV 1) (aCons (eV 2) aNil))) aNil))))))) (sRet (eQ (qC (.bl false)))) sNx) (sSeq (sIf (tNot (tB1 (eCall d_law_moved_table [] (aCons (eProp 0 d_Lot_table (qV 9)) (aCons (eV 7) (aCons (eLc [14] (iRg1 (aCons (eV 6) aNil)) (gN 14) tT (eQ (qBin modD (qUn int1 (qBin addI (qV 14) (qV 3))) (qV 6)))) aNil)))))) (sRet (eQ (qC (.bl false)))) sNx) (sSeq (sIf (tNot (tB1 (eCall d_law_moved_table [] (aCons (eProp 0 d_Lot_table (qV 10)) (aCons (eV 7) (aCons (eLc [14] (iRg1 (aCons (eV 6) aNil)) (gN 14) tT (eQ (qBin modD (qUn int1 (qBin subD (qBin subD (qV 1) (qC (.int 2))) (qV 14))) (qV 6)))) aNil)))))) (sRet (eQ (qC (.bl false)))) sNx) (sSeq (sIf (tOr (tNot (tB1 (eCall d_law_lot_is [] (aCons (eMth 0 d_Lot_turned [] (qV 9) (aCons (eQ (qUn negD (qV 3))) aNil)) (aCons (eV 1) (aCons (eV 2) aNil)))))) (tNot (tB1 (eCall d_law_lot_is [] (aCons (eMth 0 d_Lot_mirrored [] (qV 10) aNil) (aCons (eV 1) (aCons (eV 2) aNil))))))) (sRet (eQ (qC (.bl false)))) sNx) (sSeq (sIf (tOr (tNot (tB1 (eCall d_law_counts [] (aCons (eMth 0 d_Lot_turned [] (qV 9) (aCons (eQ (qUn negD (qV 3))) aNil)) (aCons (eV 1) (aCons (eV 2) aNil)))))) (tNot (tB1 (eCall d_law_counts [] (aCons (eMth 0 d_Lot_mirrored [] (qV 10) aNil) (aCons (eV 1) (aCons (eV 2) aNil))))))) (sRet (eQ (qC (.bl false)))) sNx) (sSeq (sSet 12 (eCall d_law_turned [] (aCons (eV 1) (aCons (eV 2) (aCons (eQ (qBin addI (qV 3) (qV 4))) aNil))))) (sSeq (sIf (tOr (tNot (tB1 (eCall d_law_lot_is [] (aCons (eMth 0 d_Lot_turned [] (qV 9) (aCons (eV 4) aNil)) (aCons (eV 1) (aCons (eV 12) aNil)))))) (tNot (tB1 (eCall d_law_lot_is [] (aCons (eMth 0 d_Lot_turned [] (qV 5) (aCons (eQ (qBin addI (qV 3) (qV 4))) aNil)) (aCons (eV 1) (aCons (eV 12) aNil))))))) (sRet (eQ (qC (.bl false)))) sNx) (sSeq (sIf (tOr (tNot (tB1 (eCall d_law_lot_is [] (aCons (eMth 0 d_Lot_turned [] (qV 5) (aCons (eV 1) aNil)) (aCons (eV 1) (aCons (eV 2) aNil)))))) (tNot (tB1 (eCall d_law_lot_is [] (aCons (eMth 0 d_Lot_turned [] (qV 5) (aCons (eQ (qC (.int 0))) aNil)) (aCons (eV 1) (aCons (eV 2) aNil))))))) (sRet (eQ (qC (.bl false)))) sNx) (sSeq (sSet 13 (eCall d_law_turned [] (aCons (eV 1) (aCons (eCall d_law_mirrored [] (aCons (eV 1) (aCons (eV 2) aNil))) (aCons (eV 3) aNil))))) (sSeq (sIf (tOr (tNot (tB1 (eCall d_law_lot_is [] (aCons (eMth 0 d_Lot_turned [] (qV 10) (aCons (eV 3) aNil)) (aCons (eV 1) (aCons (eV 13) aNil)))))) (tNot (tB1 (eCall d_law_lot_is [] (aCons (eMth0 0 d_Lot_mirrored [] (eMth 0 d_Lot_turned [] (qV 5) (aCons (eQ (qUn negD (qV 3))) aNil))) (aCons (eV 1) (aCons (eV 13) aNil))))))) (sRet (eQ (qC (.bl false)))) sNx) (sSeq (sIf (tOr (tNot (tB1 (eCall d_law_lot_is [] (aCons (eV 5) (aCons (eV 1) (aCons (eV 2) aNil)))))) (tNot (tB1 (eCall d_law_lot_is [] (aCons (eV 9) (aCons (eV 1) (aCons (eV 11) aNil))))))) (sRet (eQ (qC (.bl false)))) sNx) (sSeq (sIf (tNot (tB1 (eCall d_law_lot_is [] (aCons (eMth 0 d_Lot_mirrored [] (qV 5) aNil) (aCons (eV 1) (aCons (eCall d_law_mirrored [] (aCons (eV 1) (aCons (eV 2) aNil))) aNil)))))) (sRet (eQ (qC (.bl false)))) sNx) (sRet (eCall d_law_lot_is [] (aCons (eMth 0 d_Lot_turned [] (qV 5) (aCons (eV 3) aNil)) (aCons (eV 1) (aCons (eV 11) aNil))))))))))))))))))))))))))) = tl at tail ⊢
  by_cases hd : decide (-1000000000000000000 ≤ s + r) = true
  · by_cases hd2 : decide (s + r ≤ 1000000000000000000) = true
    · simp -implicitDefEqProofs only [runF, eBinR, qFld, eMth, eMth0, eProp, lot_pure, lot_frz, lot_isO, eBad, sBad, gT, gCo, gNl, sAsg, sDput, eDget, eDget2, dicO, sPut, sPut2, sq_tup, sq_lst, sq_vec, sNx, sSeq, sIf, sRet, sSet, sEx, sBk, sCt, sFgt, fgt, eC, eV, eM, eBin, eUn, aNil, aCons, eTup, eLst, eFn, tB1, tAnd, tOr, tNot, eAnd, eOr, eNot, eIf, eCall, eCallK, pick, eQ, tQ1, qV, qC, qBin, qUn, qB, qAnd, qOr, qNot, qIf, qAndT, qOrT, qNotT, qChain, eChain, eLc, sFor, iSq, iRg1, iRg2, gN, itms, rst, eApp, D.frz, D.frzs, D.pure, D.pures, bind_ok, bind_ex, stmt_ok, stmt_ex, seq_nx, seq_rt, seq_ex, seq_bk, seq_ct, fgt_nx, fgt_bk, fgt_ct, fgt_rt, fgt_ex, out_nx, out_rt, out_ex, opt_some, optL_some, andB_tt, andB_ff, andB_some, orB_tt, orB_ff, orB_some, andX_tt, andX_ff, andX_some, orX_tt, orX_ff, orX_some, itAnd, itOr, itAndX, itOrX, Option.bind_some, List.map_cons, List.map_nil, List.length_cons, List.length_nil, List.cons_append, List.nil_append, List.getElem?_cons_zero, List.getElem?_cons_succ, List.getElem?_nil, List.set_cons_zero, List.set_cons_succ, List.replicate, addI_i, subD_i, ltD_i, leD_i, gtD_i, geD_i, eqS_int, neS_int, eqS_bl, neS_bl, max2_i, min2_i, maxL_i, minL_i, int1_i, intL_i, if_true, if_false, ite_true, ite_false, and_true, true_and, and_self, Bool.and_self, Bool.and_true, Bool.true_and, Bool.and_false, Bool.false_and, Bool.or_true, Bool.true_or, Bool.or_false, Bool.false_or, Bool.not_true, Bool.not_false, Nat.reduceAdd, Nat.reduceSub, Nat.reduceEqDiff, List.filterMap_cons, List.filterMap_nil, decide_true, decide_false, Bool.false_eq_true, reduceIte, Int.reduceAdd, Int.reduceSub, Int.reduceMul, Int.reduceNeg, Int.reduceLT, Int.reduceLE, Int.reduceEq, Int.reduceMod, Int.reduceDiv, Int.lt_irrefl, reduceCtorEq, D.frzs_int, D.pures_int, cap_0, cap_1, cap_2, cap_3, cap_4, cap_5, cap_6, cap_7, cap_8, cap_9, cap_10, cap_11, cap_12, cap_13, cap_14, cap_15, cap_16, cap_17, cap_18, cap_19, cap_20, cap_21, cap_22, cap_23, cap_24, cap_25, cap_26, cap_27, cap_28, cap_29, cap_30, cap_31, cap_32, cap_33, cap_34, cap_35, cap_36, cap_37, cap_38, cap_39, cap_40, h0, hp, hl, h2, hs, h3, hr, D.frzs_int, negD_i, hd, hd2, tail]
    · rw [Bool.not_eq_true] at hd2
      simp -implicitDefEqProofs only [runF, eBinR, qFld, eMth, eMth0, eProp, lot_pure, lot_frz, lot_isO, eBad, sBad, gT, gCo, gNl, sAsg, sDput, eDget, eDget2, dicO, sPut, sPut2, sq_tup, sq_lst, sq_vec, sNx, sSeq, sIf, sRet, sSet, sEx, sBk, sCt, sFgt, fgt, eC, eV, eM, eBin, eUn, aNil, aCons, eTup, eLst, eFn, tB1, tAnd, tOr, tNot, eAnd, eOr, eNot, eIf, eCall, eCallK, pick, eQ, tQ1, qV, qC, qBin, qUn, qB, qAnd, qOr, qNot, qIf, qAndT, qOrT, qNotT, qChain, eChain, eLc, sFor, iSq, iRg1, iRg2, gN, itms, rst, eApp, D.frz, D.frzs, D.pure, D.pures, bind_ok, bind_ex, stmt_ok, stmt_ex, seq_nx, seq_rt, seq_ex, seq_bk, seq_ct, fgt_nx, fgt_bk, fgt_ct, fgt_rt, fgt_ex, out_nx, out_rt, out_ex, opt_some, optL_some, andB_tt, andB_ff, andB_some, orB_tt, orB_ff, orB_some, andX_tt, andX_ff, andX_some, orX_tt, orX_ff, orX_some, itAnd, itOr, itAndX, itOrX, Option.bind_some, List.map_cons, List.map_nil, List.length_cons, List.length_nil, List.cons_append, List.nil_append, List.getElem?_cons_zero, List.getElem?_cons_succ, List.getElem?_nil, List.set_cons_zero, List.set_cons_succ, List.replicate, addI_i, subD_i, ltD_i, leD_i, gtD_i, geD_i, eqS_int, neS_int, eqS_bl, neS_bl, max2_i, min2_i, maxL_i, minL_i, int1_i, intL_i, if_true, if_false, ite_true, ite_false, and_true, true_and, and_self, Bool.and_self, Bool.and_true, Bool.true_and, Bool.and_false, Bool.false_and, Bool.or_true, Bool.true_or, Bool.or_false, Bool.false_or, Bool.not_true, Bool.not_false, Nat.reduceAdd, Nat.reduceSub, Nat.reduceEqDiff, List.filterMap_cons, List.filterMap_nil, decide_true, decide_false, Bool.false_eq_true, reduceIte, Int.reduceAdd, Int.reduceSub, Int.reduceMul, Int.reduceNeg, Int.reduceLT, Int.reduceLE, Int.reduceEq, Int.reduceMod, Int.reduceDiv, Int.lt_irrefl, reduceCtorEq, D.frzs_int, D.pures_int, cap_0, cap_1, cap_2, cap_3, cap_4, cap_5, cap_6, cap_7, cap_8, cap_9, cap_10, cap_11, cap_12, cap_13, cap_14, cap_15, cap_16, cap_17, cap_18, cap_19, cap_20, cap_21, cap_22, cap_23, cap_24, cap_25, cap_26, cap_27, cap_28, cap_29, cap_30, cap_31, cap_32, cap_33, cap_34, cap_35, cap_36, cap_37, cap_38, cap_39, cap_40, h0, hp, hl, h2, hs, h3, hr, D.frzs_int, negD_i, hd, hd2, tail]
  · rw [Bool.not_eq_true] at hd
    simp -implicitDefEqProofs only [runF, eBinR, qFld, eMth, eMth0, eProp, lot_pure, lot_frz, lot_isO, eBad, sBad, gT, gCo, gNl, sAsg, sDput, eDget, eDget2, dicO, sPut, sPut2, sq_tup, sq_lst, sq_vec, sNx, sSeq, sIf, sRet, sSet, sEx, sBk, sCt, sFgt, fgt, eC, eV, eM, eBin, eUn, aNil, aCons, eTup, eLst, eFn, tB1, tAnd, tOr, tNot, eAnd, eOr, eNot, eIf, eCall, eCallK, pick, eQ, tQ1, qV, qC, qBin, qUn, qB, qAnd, qOr, qNot, qIf, qAndT, qOrT, qNotT, qChain, eChain, eLc, sFor, iSq, iRg1, iRg2, gN, itms, rst, eApp, D.frz, D.frzs, D.pure, D.pures, bind_ok, bind_ex, stmt_ok, stmt_ex, seq_nx, seq_rt, seq_ex, seq_bk, seq_ct, fgt_nx, fgt_bk, fgt_ct, fgt_rt, fgt_ex, out_nx, out_rt, out_ex, opt_some, optL_some, andB_tt, andB_ff, andB_some, orB_tt, orB_ff, orB_some, andX_tt, andX_ff, andX_some, orX_tt, orX_ff, orX_some, itAnd, itOr, itAndX, itOrX, Option.bind_some, List.map_cons, List.map_nil, List.length_cons, List.length_nil, List.cons_append, List.nil_append, List.getElem?_cons_zero, List.getElem?_cons_succ, List.getElem?_nil, List.set_cons_zero, List.set_cons_succ, List.replicate, addI_i, subD_i, ltD_i, leD_i, gtD_i, geD_i, eqS_int, neS_int, eqS_bl, neS_bl, max2_i, min2_i, maxL_i, minL_i, int1_i, intL_i, if_true, if_false, ite_true, ite_false, and_true, true_and, and_self, Bool.and_self, Bool.and_true, Bool.true_and, Bool.and_false, Bool.false_and, Bool.or_true, Bool.true_or, Bool.or_false, Bool.false_or, Bool.not_true, Bool.not_false, Nat.reduceAdd, Nat.reduceSub, Nat.reduceEqDiff, List.filterMap_cons, List.filterMap_nil, decide_true, decide_false, Bool.false_eq_true, reduceIte, Int.reduceAdd, Int.reduceSub, Int.reduceMul, Int.reduceNeg, Int.reduceLT, Int.reduceLE, Int.reduceEq, Int.reduceMod, Int.reduceDiv, Int.lt_irrefl, reduceCtorEq, D.frzs_int, D.pures_int, cap_0, cap_1, cap_2, cap_3, cap_4, cap_5, cap_6, cap_7, cap_8, cap_9, cap_10, cap_11, cap_12, cap_13, cap_14, cap_15, cap_16, cap_17, cap_18, cap_19, cap_20, cap_21, cap_22, cap_23, cap_24, cap_25, cap_26, cap_27, cap_28, cap_29, cap_30, cap_31, cap_32, cap_33, cap_34, cap_35, cap_36, cap_37, cap_38, cap_39, cap_40, h0, hp, hl, h2, hs, h3, hr, D.frzs_int, negD_i, hd, tail]
end Math

namespace Prg
open PySem L2 FL
open PyProof.Rows (envOfC)
theorem all_mk {l : PySem.W.OpenLaw} {w : World} {K : PySem.W.Frag} {h : Heap} {mg : Str → Option Value} {fa cA0 f0 f1 f2 f3 f4 f5 f6 f7 f8 f9 f10 f11 f12 f13 f14 f15 f16 f17 f18 f19 f20 f21 f22 f23 t23 e23 f24 f25 f26 f27 p27 f28 f29 f30 f31 f32 : Addr} (X : K.In h) (G : h.Ns mainGlobals mg) (hfa : mg "law" = some (.ref fa))
    {od0 an0 od1 an1 od2 an2 od3 an3 od4 an4 od5 an5 od6 an6 od7 an7 od8 an8 od9 an9 od10 an10 od11 an11 od12 an12 od13 an13 od14 an14 od15 an15 od16 an16 od17 an17 od18 an18 od19 an19 od20 an20 od21 an21 od22 an22 od23 an23 td23 od24 an24 od25 an25 od26 an26 od27 an27 od28 an28 od29 an29 od30 an30 od31 an31 od32 an32 : Option Addr} {sl0 sl1 sl2 sl3 sl4 sl5 sl6 sl7 sl8 sl9 sl10 sl11 sl12 sl13 sl14 sl15 sl16 sl17 sl18 sl19 sl20 sl21 sl22 sl23 ts23 sl24 sl25 sl26 sl27 sl28 sl29 sl30 sl31 sl32 : Array (Option Value)} {oc0 kV0 dc0 pm0 cd0 ct0 oc1 kV1 dc1 pm1 cd1 ct1 oc2 kV2 dc2 pm2 cd2 ct2 oc3 kV3 dc3 pm3 cd3 ct3 oc4 kV4 dc4 pm4 cd4 ct4 oc5 kV5 dc5 pm5 cd5 ct5 oc6 kV6 dc6 pm6 cd6 ct6 oc7 kV7 dc7 pm7 cd7 ct7 oc8 kV8 dc8 pm8 cd8 ct8 oc9 kV9 dc9 pm9 cd9 ct9 oc10 kV10 dc10 pm10 cd10 ct10 oc11 kV11 dc11 pm11 cd11 ct11 oc12 kV12 dc12 pm12 cd12 ct12 oc13 kV13 dc13 pm13 cd13 ct13 oc14 kV14 dc14 pm14 cd14 ct14 oc15 kV15 dc15 pm15 cd15 ct15 oc16 kV16 dc16 pm16 cd16 ct16 oc17 kV17 dc17 pm17 cd17 ct17 oc18 kV18 dc18 pm18 cd18 ct18 oc19 kV19 dc19 pm19 cd19 ct19 oc20 kV20 dc20 pm20 cd20 ct20 oc21 kV21 dc21 pm21 cd21 ct21 oc22 kV22 dc22 pm22 cd22 ct22 oc23 kV23 dc23 pm23 cd23 ct23 tc23 oc24 kV24 dc24 pm24 cd24 ct24 oc25 kV25 dc25 pm25 cd25 ct25 oc26 kV26 dc26 pm26 cd26 ct26 oc27 kV27 dc27 pm27 cd27 ct27 oc28 kV28 dc28 pm28 cd28 ct28 oc29 kV29 dc29 pm29 cd29 ct29 oc30 kV30 dc30 pm30 cd30 ct30 oc31 kV31 dc31 pm31 cd31 ct31 oc32 kV32 dc32 pm32 cd32 ct32 : Value} {pr27 : List Value} {tn23 : Nat}
    (aC0 : PySem.W.nsIn K mainGlobals "Lot" = some (some (.ref cA0)))
    (pg0 : PySem.W.plainGet K cA0 Str.empty = true)
    (hd0 : PySem.W.hasDictIn K cA0 = true)
    (po0 : PySem.W.plainOver K cA0 = true)
    (sa0 : PySem.W.findIn K (.ref cA0) "__setattr__" = some (some (.builtin "object.__setattr__")))
    (mk0 : PySem.W.makesIn K cA0 = true)
    (kc0 : PySem.W.keepIn K (.ref cA0) = true)
    (sf0 : PySem.W.selfFirst K cA0 = true)
    (ia0 : PySem.W.findIn K (.ref cA0) "__class__" = some (some (.builtin "object.__class__")))
    (ib : PySem.W.specialIn K (.builtin "object.__class__") "__get__" = some (some (.builtin "getset_descriptor.__get__")))
    (ic : PySem.W.takesIn K (.builtin "object.__class__") = some true)
    (im0 : PySem.W.mroIn K cA0 (.type "object") = some true)
    (n0_0 : PySem.W.findIn K (.ref cA0) "pins" = some none)
    (n0_1 : PySem.W.findIn K (.ref cA0) "cords" = some none)
    (a0 : PySem.W.nsIn K mainGlobals "_law_digits" = some (some (.ref f0)))
    (l0 : K.lookup f0 = some ⟨oc0, od0, .func (PySem.W.fnOf "_law_digits" "_law_digits" (defArgs s_d_law_digits) (defBody s_d_law_digits) (defScope s_d_law_digits) .none kV0 dc0 pm0 an0 cd0 ct0), sl0⟩)
    (c0 : PySem.W.codeIn K cd0 "_law_digits" = true)
    (k0 : PySem.W.keepIn K (.ref f0) = true)
    (a1 : PySem.W.nsIn K mainGlobals "_law_pins" = some (some (.ref f1)))
    (l1 : K.lookup f1 = some ⟨oc1, od1, .func (PySem.W.fnOf "_law_pins" "_law_pins" (defArgs s_d_law_pins) (defBody s_d_law_pins) (defScope s_d_law_pins) .none kV1 dc1 pm1 an1 cd1 ct1), sl1⟩)
    (c1 : PySem.W.codeIn K cd1 "_law_pins" = true)
    (k1 : PySem.W.keepIn K (.ref f1) = true)
    (a2 : PySem.W.nsIn K mainGlobals "_law_cell" = some (some (.ref f2)))
    (l2 : K.lookup f2 = some ⟨oc2, od2, .func (PySem.W.fnOf "_law_cell" "_law_cell" (defArgs s_d_law_cell) (defBody s_d_law_cell) (defScope s_d_law_cell) .none kV2 dc2 pm2 an2 cd2 ct2), sl2⟩)
    (c2 : PySem.W.codeIn K cd2 "_law_cell" = true)
    (k2 : PySem.W.keepIn K (.ref f2) = true)
    (a3 : PySem.W.nsIn K mainGlobals "_law_norm" = some (some (.ref f3)))
    (l3 : K.lookup f3 = some ⟨oc3, od3, .func (PySem.W.fnOf "_law_norm" "_law_norm" (defArgs s_d_law_norm) (defBody s_d_law_norm) (defScope s_d_law_norm) .none kV3 dc3 pm3 an3 cd3 ct3), sl3⟩)
    (c3 : PySem.W.codeIn K cd3 "_law_norm" = true)
    (k3 : PySem.W.keepIn K (.ref f3) = true)
    (a4 : PySem.W.nsIn K mainGlobals "_law_lot" = some (some (.ref f4)))
    (l4 : K.lookup f4 = some ⟨oc4, od4, .func (PySem.W.fnOf "_law_lot" "_law_lot" (defArgs s_d_law_lot) (defBody s_d_law_lot) (defScope s_d_law_lot) .none kV4 dc4 pm4 an4 cd4 ct4), sl4⟩)
    (c4 : PySem.W.codeIn K cd4 "_law_lot" = true)
    (k4 : PySem.W.keepIn K (.ref f4) = true)
    (a5 : PySem.W.nsIn K mainGlobals "_law_steps" = some (some (.ref f5)))
    (l5 : K.lookup f5 = some ⟨oc5, od5, .func (PySem.W.fnOf "_law_steps" "_law_steps" (defArgs s_d_law_steps) (defBody s_d_law_steps) (defScope s_d_law_steps) .none kV5 dc5 pm5 an5 cd5 ct5), sl5⟩)
    (c5 : PySem.W.codeIn K cd5 "_law_steps" = true)
    (k5 : PySem.W.keepIn K (.ref f5) = true)
    (a6 : PySem.W.nsIn K mainGlobals "_law_table" = some (some (.ref f6)))
    (l6 : K.lookup f6 = some ⟨oc6, od6, .func (PySem.W.fnOf "_law_table" "_law_table" (defArgs s_d_law_table) (defBody s_d_law_table) (defScope s_d_law_table) .none kV6 dc6 pm6 an6 cd6 ct6), sl6⟩)
    (c6 : PySem.W.codeIn K cd6 "_law_table" = true)
    (k6 : PySem.W.keepIn K (.ref f6) = true)
    (a7 : PySem.W.nsIn K mainGlobals "_law_whole" = some (some (.ref f7)))
    (l7 : K.lookup f7 = some ⟨oc7, od7, .func (PySem.W.fnOf "_law_whole" "_law_whole" (defArgs s_d_law_whole) (defBody s_d_law_whole) (defScope s_d_law_whole) .none kV7 dc7 pm7 an7 cd7 ct7), sl7⟩)
    (c7 : PySem.W.codeIn K cd7 "_law_whole" = true)
    (k7 : PySem.W.keepIn K (.ref f7) = true)
    (a8 : PySem.W.nsIn K mainGlobals "_law_same" = some (some (.ref f8)))
    (l8 : K.lookup f8 = some ⟨oc8, od8, .func (PySem.W.fnOf "_law_same" "_law_same" (defArgs s_d_law_same) (defBody s_d_law_same) (defScope s_d_law_same) .none kV8 dc8 pm8 an8 cd8 ct8), sl8⟩)
    (c8 : PySem.W.codeIn K cd8 "_law_same" = true)
    (k8 : PySem.W.keepIn K (.ref f8) = true)
    (a9 : PySem.W.nsIn K mainGlobals "is_whole" = some (some (.ref f9)))
    (l9 : K.lookup f9 = some ⟨oc9, od9, .func (PySem.W.fnOf "is_whole" "is_whole" (defArgs s_d_is_whole) (defBody s_d_is_whole) (defScope s_d_is_whole) .none kV9 dc9 pm9 an9 cd9 ct9), sl9⟩)
    (c9 : PySem.W.codeIn K cd9 "is_whole" = true)
    (k9 : PySem.W.keepIn K (.ref f9) = true)
    (a10 : PySem.W.nsIn K mainGlobals "is_pin" = some (some (.ref f10)))
    (l10 : K.lookup f10 = some ⟨oc10, od10, .func (PySem.W.fnOf "is_pin" "is_pin" (defArgs s_d_is_pin) (defBody s_d_is_pin) (defScope s_d_is_pin) .none kV10 dc10 pm10 an10 cd10 ct10), sl10⟩)
    (c10 : PySem.W.codeIn K cd10 "is_pin" = true)
    (k10 : PySem.W.keepIn K (.ref f10) = true)
    (a11 : PySem.W.nsIn K mainGlobals "check_pin" = some (some (.ref f11)))
    (l11 : K.lookup f11 = some ⟨oc11, od11, .func (PySem.W.fnOf "check_pin" "check_pin" (defArgs s_d_check_pin) (defBody s_d_check_pin) (defScope s_d_check_pin) .none kV11 dc11 pm11 an11 cd11 ct11), sl11⟩)
    (c11 : PySem.W.codeIn K cd11 "check_pin" = true)
    (k11 : PySem.W.keepIn K (.ref f11) = true)
    (a12 : PySem.W.nsIn K mainGlobals "raw_ends" = some (some (.ref f12)))
    (l12 : K.lookup f12 = some ⟨oc12, od12, .func (PySem.W.fnOf "raw_ends" "raw_ends" (defArgs s_d_raw_ends) (defBody s_d_raw_ends) (defScope s_d_raw_ends) .none kV12 dc12 pm12 an12 cd12 ct12), sl12⟩)
    (c12 : PySem.W.codeIn K cd12 "raw_ends" = true)
    (k12 : PySem.W.keepIn K (.ref f12) = true)
    (a13 : PySem.W.findIn K (.ref cA0) "ends" = some (some (.ref f13)))
    (i13 : PySem.W.isFn K (.ref f13) = true)
    (l13 : K.lookup f13 = some ⟨oc13, od13, .func (PySem.W.fnOf "ends" "Lot.ends" (defArgs s_d_Lot_ends) (defBody s_d_Lot_ends) (defScope s_d_Lot_ends) .none kV13 dc13 pm13 an13 cd13 ct13), sl13⟩)
    (c13 : PySem.W.codeIn K cd13 "Lot.ends" = true)
    (k13 : PySem.W.keepIn K (.ref f13) = true)
    (a14 : PySem.W.findIn K (.ref cA0) "total" = some (some (.ref f14)))
    (i14 : PySem.W.isFn K (.ref f14) = true)
    (l14 : K.lookup f14 = some ⟨oc14, od14, .func (PySem.W.fnOf "total" "Lot.total" (defArgs s_d_Lot_total) (defBody s_d_Lot_total) (defScope s_d_Lot_total) .none kV14 dc14 pm14 an14 cd14 ct14), sl14⟩)
    (c14 : PySem.W.codeIn K cd14 "Lot.total" = true)
    (k14 : PySem.W.keepIn K (.ref f14) = true)
    (a15 : PySem.W.findIn K (.ref cA0) "__len__" = some (some (.ref f15)))
    (i15 : PySem.W.isFn K (.ref f15) = true)
    (l15 : K.lookup f15 = some ⟨oc15, od15, .func (PySem.W.fnOf "__len__" "Lot.__len__" (defArgs s_d_Lot___len__) (defBody s_d_Lot___len__) (defScope s_d_Lot___len__) .none kV15 dc15 pm15 an15 cd15 ct15), sl15⟩)
    (c15 : PySem.W.codeIn K cd15 "Lot.__len__" = true)
    (k15 : PySem.W.keepIn K (.ref f15) = true)
    (a16 : PySem.W.nsIn K mainGlobals "_law_counts" = some (some (.ref f16)))
    (l16 : K.lookup f16 = some ⟨oc16, od16, .func (PySem.W.fnOf "_law_counts" "_law_counts" (defArgs s_d_law_counts) (defBody s_d_law_counts) (defScope s_d_law_counts) .none kV16 dc16 pm16 an16 cd16 ct16), sl16⟩)
    (c16 : PySem.W.codeIn K cd16 "_law_counts" = true)
    (k16 : PySem.W.keepIn K (.ref f16) = true)
    (a17 : PySem.W.nsIn K mainGlobals "_law_moved_table" = some (some (.ref f17)))
    (l17 : K.lookup f17 = some ⟨oc17, od17, .func (PySem.W.fnOf "_law_moved_table" "_law_moved_table" (defArgs s_d_law_moved_table) (defBody s_d_law_moved_table) (defScope s_d_law_moved_table) .none kV17 dc17 pm17 an17 cd17 ct17), sl17⟩)
    (c17 : PySem.W.codeIn K cd17 "_law_moved_table" = true)
    (k17 : PySem.W.keepIn K (.ref f17) = true)
    (a18 : PySem.W.nsIn K mainGlobals "_law_turned" = some (some (.ref f18)))
    (l18 : K.lookup f18 = some ⟨oc18, od18, .func (PySem.W.fnOf "_law_turned" "_law_turned" (defArgs s_d_law_turned) (defBody s_d_law_turned) (defScope s_d_law_turned) .none kV18 dc18 pm18 an18 cd18 ct18), sl18⟩)
    (c18 : PySem.W.codeIn K cd18 "_law_turned" = true)
    (k18 : PySem.W.keepIn K (.ref f18) = true)
    (a19 : PySem.W.nsIn K mainGlobals "_law_lot_is" = some (some (.ref f19)))
    (l19 : K.lookup f19 = some ⟨oc19, od19, .func (PySem.W.fnOf "_law_lot_is" "_law_lot_is" (defArgs s_d_law_lot_is) (defBody s_d_law_lot_is) (defScope s_d_law_lot_is) .none kV19 dc19 pm19 an19 cd19 ct19), sl19⟩)
    (c19 : PySem.W.codeIn K cd19 "_law_lot_is" = true)
    (k19 : PySem.W.keepIn K (.ref f19) = true)
    (a20 : PySem.W.nsIn K mainGlobals "_law_mirrored" = some (some (.ref f20)))
    (l20 : K.lookup f20 = some ⟨oc20, od20, .func (PySem.W.fnOf "_law_mirrored" "_law_mirrored" (defArgs s_d_law_mirrored) (defBody s_d_law_mirrored) (defScope s_d_law_mirrored) .none kV20 dc20 pm20 an20 cd20 ct20), sl20⟩)
    (c20 : PySem.W.codeIn K cd20 "_law_mirrored" = true)
    (k20 : PySem.W.keepIn K (.ref f20) = true)
    (a21 : PySem.W.nsIn K mainGlobals "is_entry" = some (some (.ref f21)))
    (l21 : K.lookup f21 = some ⟨oc21, od21, .func (PySem.W.fnOf "is_entry" "is_entry" (defArgs s_d_is_entry) (defBody s_d_is_entry) (defScope s_d_is_entry) .none kV21 dc21 pm21 an21 cd21 ct21), sl21⟩)
    (c21 : PySem.W.codeIn K cd21 "is_entry" = true)
    (k21 : PySem.W.keepIn K (.ref f21) = true)
    (a22 : PySem.W.nsIn K mainGlobals "combined" = some (some (.ref f22)))
    (l22 : K.lookup f22 = some ⟨oc22, od22, .func (PySem.W.fnOf "combined" "combined" (defArgs s_d_combined) (defBody s_d_combined) (defScope s_d_combined) .none kV22 dc22 pm22 an22 cd22 ct22), sl22⟩)
    (c22 : PySem.W.codeIn K cd22 "combined" = true)
    (k22 : PySem.W.keepIn K (.ref f22) = true)
    (a23 : PySem.W.findIn K (.ref cA0) "__init__" = some (some (.ref f23)))
    (i23 : PySem.W.isFn K (.ref f23) = true)
    (l23 : K.lookup f23 = some ⟨oc23, od23, .func (PySem.W.fnOf "__init__" "Lot.__init__" (defArgs s_d_Lot___init__) (defBody s_d_Lot___init__) (defScope s_d_Lot___init__) (.ref t23) kV23 dc23 pm23 an23 cd23 ct23), sl23⟩)
    (t23l : K.lookup t23 = some ⟨tc23, td23, .seq #[Value.ref e23] tn23, ts23⟩)
    (c23 : PySem.W.codeIn K cd23 "Lot.__init__" = true)
    (k23 : PySem.W.keepIn K (.ref f23) = true)
    (a24 : PySem.W.nsIn K mainGlobals "gaps" = some (some (.ref f24)))
    (l24 : K.lookup f24 = some ⟨oc24, od24, .func (PySem.W.fnOf "gaps" "gaps" (defArgs s_d_gaps) (defBody s_d_gaps) (defScope s_d_gaps) .none kV24 dc24 pm24 an24 cd24 ct24), sl24⟩)
    (c24 : PySem.W.codeIn K cd24 "gaps" = true)
    (k24 : PySem.W.keepIn K (.ref f24) = true)
    (a25 : PySem.W.nsIn K mainGlobals "raw_passing" = some (some (.ref f25)))
    (l25 : K.lookup f25 = some ⟨oc25, od25, .func (PySem.W.fnOf "raw_passing" "raw_passing" (defArgs s_d_raw_passing) (defBody s_d_raw_passing) (defScope s_d_raw_passing) .none kV25 dc25 pm25 an25 cd25 ct25), sl25⟩)
    (c25 : PySem.W.codeIn K cd25 "raw_passing" = true)
    (k25 : PySem.W.keepIn K (.ref f25) = true)
    (a26 : PySem.W.nsIn K mainGlobals "raw_table" = some (some (.ref f26)))
    (l26 : K.lookup f26 = some ⟨oc26, od26, .func (PySem.W.fnOf "raw_table" "raw_table" (defArgs s_d_raw_table) (defBody s_d_raw_table) (defScope s_d_raw_table) .none kV26 dc26 pm26 an26 cd26 ct26), sl26⟩)
    (c26 : PySem.W.codeIn K cd26 "raw_table" = true)
    (k26 : PySem.W.keepIn K (.ref f26) = true)
    (a27 : PySem.W.findIn K (.ref cA0) "table" = some (some (.ref p27)))
    (g27 : PySem.W.specialIn K (.ref p27) "__get__" = some (some (.builtin "property.__get__")))
    (u27 : PySem.W.takesIn K (.ref p27) = some true)
    (r27 : PySem.W.recIn K p27 "property" = some (.ref f27 :: pr27))
    (l27 : K.lookup f27 = some ⟨oc27, od27, .func (PySem.W.fnOf "table" "Lot.table" (defArgs s_d_Lot_table) (defBody s_d_Lot_table) (defScope s_d_Lot_table) .none kV27 dc27 pm27 an27 cd27 ct27), sl27⟩)
    (c27 : PySem.W.codeIn K cd27 "Lot.table" = true)
    (k27 : PySem.W.keepIn K (.ref f27) = true)
    (a28 : PySem.W.nsIn K mainGlobals "raw_turned" = some (some (.ref f28)))
    (l28 : K.lookup f28 = some ⟨oc28, od28, .func (PySem.W.fnOf "raw_turned" "raw_turned" (defArgs s_d_raw_turned) (defBody s_d_raw_turned) (defScope s_d_raw_turned) .none kV28 dc28 pm28 an28 cd28 ct28), sl28⟩)
    (c28 : PySem.W.codeIn K cd28 "raw_turned" = true)
    (k28 : PySem.W.keepIn K (.ref f28) = true)
    (a29 : PySem.W.findIn K (.ref cA0) "turned" = some (some (.ref f29)))
    (i29 : PySem.W.isFn K (.ref f29) = true)
    (l29 : K.lookup f29 = some ⟨oc29, od29, .func (PySem.W.fnOf "turned" "Lot.turned" (defArgs s_d_Lot_turned) (defBody s_d_Lot_turned) (defScope s_d_Lot_turned) .none kV29 dc29 pm29 an29 cd29 ct29), sl29⟩)
    (c29 : PySem.W.codeIn K cd29 "Lot.turned" = true)
    (k29 : PySem.W.keepIn K (.ref f29) = true)
    (a30 : PySem.W.nsIn K mainGlobals "raw_mirrored" = some (some (.ref f30)))
    (l30 : K.lookup f30 = some ⟨oc30, od30, .func (PySem.W.fnOf "raw_mirrored" "raw_mirrored" (defArgs s_d_raw_mirrored) (defBody s_d_raw_mirrored) (defScope s_d_raw_mirrored) .none kV30 dc30 pm30 an30 cd30 ct30), sl30⟩)
    (c30 : PySem.W.codeIn K cd30 "raw_mirrored" = true)
    (k30 : PySem.W.keepIn K (.ref f30) = true)
    (a31 : PySem.W.findIn K (.ref cA0) "mirrored" = some (some (.ref f31)))
    (i31 : PySem.W.isFn K (.ref f31) = true)
    (l31 : K.lookup f31 = some ⟨oc31, od31, .func (PySem.W.fnOf "mirrored" "Lot.mirrored" (defArgs s_d_Lot_mirrored) (defBody s_d_Lot_mirrored) (defScope s_d_Lot_mirrored) .none kV31 dc31 pm31 an31 cd31 ct31), sl31⟩)
    (c31 : PySem.W.codeIn K cd31 "Lot.mirrored" = true)
    (k31 : PySem.W.keepIn K (.ref f31) = true)
    (a32 : PySem.W.nsIn K mainGlobals "law" = some (some (.ref f32)))
    (l32 : K.lookup f32 = some ⟨oc32, od32, .func (PySem.W.fnOf "law" "law" (defArgs s_d_law) (defBody s_d_law) (defScope s_d_law) .none kV32 dc32 pm32 an32 cd32 ct32), sl32⟩)
    (c32 : PySem.W.codeIn K cd32 "law" = true)
    (k32 : PySem.W.keepIn K (.ref f32) = true)
    (z_bool : PySem.W.nsIn K mainGlobals "bool" = some none)
    (z_int : PySem.W.nsIn K mainGlobals "int" = some none)
    (z_isinstance : PySem.W.nsIn K mainGlobals "isinstance" = some none)
    (z_len : PySem.W.nsIn K mainGlobals "len" = some none)
    (z_list : PySem.W.nsIn K mainGlobals "list" = some none)
    (z_max : PySem.W.nsIn K mainGlobals "max" = some none)
    (z_min : PySem.W.nsIn K mainGlobals "min" = some none)
    (z_range : PySem.W.nsIn K mainGlobals "range" = some none)
    (z_sorted : PySem.W.nsIn K mainGlobals "sorted" = some none)
    (z_str : PySem.W.nsIn K mainGlobals "str" = some none)
    (z_sum : PySem.W.nsIn K mainGlobals "sum" = some none)
    (z_tuple : PySem.W.nsIn K mainGlobals "tuple" = some none)
    : ∃ fd : FuncData, (∀ (s : Shared) (v : Value), BindsTo s fd ⟨[v], []⟩ [("_law_script", v)]) ∧ ∀ base : Heap, K.In base → base.Ns mainGlobals mg → FnOk l.prog w K mg base (L2.CX l.prog w) 8 fa fd ["_law_script"] (spTop K d_law) := by
  have e := hfa.symm.trans (PySem.W.mg_of X G a32)
  cases e
  have T : Txt mg := ⟨PySem.W.mg_none_of X G z_bool, PySem.W.mg_none_of X G z_int, PySem.W.mg_none_of X G z_isinstance, PySem.W.mg_none_of X G z_len, PySem.W.mg_none_of X G z_list, PySem.W.mg_none_of X G z_max, PySem.W.mg_none_of X G z_min, PySem.W.mg_none_of X G z_range, PySem.W.mg_none_of X G z_sorted, PySem.W.mg_none_of X G z_str, PySem.W.mg_none_of X G z_sum, PySem.W.mg_none_of X G z_tuple⟩
  have cls0 : Cls K cA0 := ⟨pg0, hd0, po0, sa0⟩
  let cl0 : Tb := ⟨fun n => match n with | 0 => ⟨cA0, ["pins", "cords"]⟩ | _ => ⟨0, []⟩, 0, 0, 0, .none⟩
  have T0 : ClsT K mg cl0 0 "Lot" ["pins", "cords"] := ⟨PySem.W.mg_of X G aC0, rfl, cls0, (List.forall_mem_cons.mpr ⟨n0_0, (List.forall_mem_cons.mpr ⟨n0_1, (List.forall_mem_nil _)⟩)⟩), ⟨cls0, ia0, ib, ic, im0⟩, sf0, kit_self _ _⟩
  have F0 := fun_mk (st := s_d_law_digits) l0 c0 k0
  have F1 := fun_mk (st := s_d_law_pins) l1 c1 k1
  have F2 := fun_mk (st := s_d_law_cell) l2 c2 k2
  have F3 := fun_mk (st := s_d_law_norm) l3 c3 k3
  have F4 := fun_mk (st := s_d_law_lot) l4 c4 k4
  have F5 := fun_mk (st := s_d_law_steps) l5 c5 k5
  have F6 := fun_mk (st := s_d_law_table) l6 c6 k6
  have F7 := fun_mk (st := s_d_law_whole) l7 c7 k7
  have F8 := fun_mk (st := s_d_law_same) l8 c8 k8
  have F9 := fun_mk (st := s_d_is_whole) l9 c9 k9
  have F10 := fun_mk (st := s_d_is_pin) l10 c10 k10
  have F11 := fun_mk (st := s_d_check_pin) l11 c11 k11
  have F12 := fun_mk (st := s_d_raw_ends) l12 c12 k12
  have F13 := fun_mk (st := s_d_Lot_ends) l13 c13 k13
  have F14 := fun_mk (st := s_d_Lot_total) l14 c14 k14
  have F15 := fun_mk (st := s_d_Lot___len__) l15 c15 k15
  have F16 := fun_mk (st := s_d_law_counts) l16 c16 k16
  have F17 := fun_mk (st := s_d_law_moved_table) l17 c17 k17
  have F18 := fun_mk (st := s_d_law_turned) l18 c18 k18
  have F19 := fun_mk (st := s_d_law_lot_is) l19 c19 k19
  have F20 := fun_mk (st := s_d_law_mirrored) l20 c20 k20
  have F21 := fun_mk (st := s_d_is_entry) l21 c21 k21
  have F22 := fun_mk (st := s_d_combined) l22 c22 k22
  have F23 : FunD K "__init__" "Lot.__init__" (defArgs s_d_Lot___init__) (defBody s_d_Lot___init__) (defScope s_d_Lot___init__) [V.ref e23] [] f23 _ := ⟨⟨oc23, od23, .ref t23, kV23, dc23, pm23, an23, cd23, ct23, sl23, rfl, l23, c23, .inr ⟨List.cons_ne_nil _ _, t23, _, [Value.ref e23], tn23, rfl, t23l, rfl, .cons rfl .nil⟩, .inl rfl⟩, k23⟩
  have F24 := fun_mk (st := s_d_gaps) l24 c24 k24
  have F25 := fun_mk (st := s_d_raw_passing) l25 c25 k25
  have F26 := fun_mk (st := s_d_raw_table) l26 c26 k26
  have F27 := fun_mk (st := s_d_Lot_table) l27 c27 k27
  have F28 := fun_mk (st := s_d_raw_turned) l28 c28 k28
  have F29 := fun_mk (st := s_d_Lot_turned) l29 c29 k29
  have F30 := fun_mk (st := s_d_raw_mirrored) l30 c30 k30
  have F31 := fun_mk (st := s_d_Lot_mirrored) l31 c31 k31
  have F32 := fun_mk (st := s_d_law) l32 c32 k32
  refine ⟨PySem.W.fnOf "law" "law" (defArgs s_d_law) (defBody s_d_law) (defScope s_d_law) .none kV32 dc32 pm32 an32 cd32 ct32, fun s v => .of_eq rfl, fun base _ _ => ?_⟩
  have o_d_law_digits := fun (cl : Tb) (C0 : ClsT K mg cl 0 "Lot" ["pins", "cords"]) (h0 : (cl 0).at_ = cA0) => ok_d_law_digits (P := l.prog) (w := w) (mg := mg) (base := base) (cl := cl) F0 T C0 
  have h_d_law_digits := fun (cl : Tb) (C0 : ClsT K mg cl 0 "Lot" ["pins", "cords"]) (h0 : (cl 0).at_ = cA0) => fnc_mk (cl := cl) (o_d_law_digits cl C0 h0) (PySem.W.mg_of X G a0) k0 (F0.binds (ps := ["_law_cell_here", "_law_sizes"]) fun _ _ _ _ _ _ us hl => match us, hl with | [_, _], _ => rfl) runF_len
  have o_d_law_pins := fun (cl : Tb) (C0 : ClsT K mg cl 0 "Lot" ["pins", "cords"]) (h0 : (cl 0).at_ = cA0) => ok_d_law_pins (P := l.prog) (w := w) (mg := mg) (base := base) (cl := cl) F1 T C0 (h_d_law_digits cl C0 h0)
  have h_d_law_pins := fun (cl : Tb) (C0 : ClsT K mg cl 0 "Lot" ["pins", "cords"]) (h0 : (cl 0).at_ = cA0) => fnc_mk (cl := cl) (o_d_law_pins cl C0 h0) (PySem.W.mg_of X G a1) k1 (F1.binds (ps := ["_law_cell_here"]) fun _ _ _ _ _ _ us hl => match us, hl with | [_], _ => rfl) runF_len
  have o_d_law_cell := fun (cl : Tb) (C0 : ClsT K mg cl 0 "Lot" ["pins", "cords"]) (h0 : (cl 0).at_ = cA0) => ok_d_law_cell (P := l.prog) (w := w) (mg := mg) (base := base) (cl := cl) F2 T C0 
  have h_d_law_cell := fun (cl : Tb) (C0 : ClsT K mg cl 0 "Lot" ["pins", "cords"]) (h0 : (cl 0).at_ = cA0) => fnc_mk (cl := cl) (o_d_law_cell cl C0 h0) (PySem.W.mg_of X G a2) k2 (F2.binds (ps := ["_law_script", "_law_k"]) fun _ _ _ _ _ _ us hl => match us, hl with | [_, _], _ => rfl) runF_len
  have o_d_law_norm := fun (cl : Tb) (C0 : ClsT K mg cl 0 "Lot" ["pins", "cords"]) (h0 : (cl 0).at_ = cA0) => ok_d_law_norm (P := l.prog) (w := w) (mg := mg) (base := base) (cl := cl) F3 T C0 
  have h_d_law_norm := fun (cl : Tb) (C0 : ClsT K mg cl 0 "Lot" ["pins", "cords"]) (h0 : (cl 0).at_ = cA0) => fnc_mk (cl := cl) (o_d_law_norm cl C0 h0) (PySem.W.mg_of X G a3) k3 (F3.binds (ps := ["_law_triples"]) fun _ _ _ _ _ _ us hl => match us, hl with | [_], _ => rfl) runF_len
  have o_d_law_lot := fun (cl : Tb) (C0 : ClsT K mg cl 0 "Lot" ["pins", "cords"]) (h0 : (cl 0).at_ = cA0) => ok_d_law_lot (P := l.prog) (w := w) (mg := mg) (base := base) (cl := cl) F4 T C0 (h_d_law_digits cl C0 h0) (h_d_law_cell cl C0 h0) (h_d_law_norm cl C0 h0)
  have h_d_law_lot := fun (cl : Tb) (C0 : ClsT K mg cl 0 "Lot" ["pins", "cords"]) (h0 : (cl 0).at_ = cA0) => fnc_mk (cl := cl) (o_d_law_lot cl C0 h0) (PySem.W.mg_of X G a4) k4 (F4.binds (ps := ["_law_script", "_law_pins_here"]) fun _ _ _ _ _ _ us hl => match us, hl with | [_, _], _ => rfl) runF_len
  have o_d_law_steps := fun (cl : Tb) (C0 : ClsT K mg cl 0 "Lot" ["pins", "cords"]) (h0 : (cl 0).at_ = cA0) => ok_d_law_steps (P := l.prog) (w := w) (mg := mg) (base := base) (cl := cl) F5 T C0 
  have h_d_law_steps := fun (cl : Tb) (C0 : ClsT K mg cl 0 "Lot" ["pins", "cords"]) (h0 : (cl 0).at_ = cA0) => fnc_mk (cl := cl) (o_d_law_steps cl C0 h0) (PySem.W.mg_of X G a5) k5 (F5.binds (ps := ["_law_cell_here"]) fun _ _ _ _ _ _ us hl => match us, hl with | [_], _ => rfl) runF_len
  have o_d_law_table := fun (cl : Tb) (C0 : ClsT K mg cl 0 "Lot" ["pins", "cords"]) (h0 : (cl 0).at_ = cA0) => ok_d_law_table (P := l.prog) (w := w) (mg := mg) (base := base) (cl := cl) F6 T C0 
  have h_d_law_table := fun (cl : Tb) (C0 : ClsT K mg cl 0 "Lot" ["pins", "cords"]) (h0 : (cl 0).at_ = cA0) => fnc_mk (cl := cl) (o_d_law_table cl C0 h0) (PySem.W.mg_of X G a6) k6 (F6.binds (ps := ["_law_pins_here", "_law_bunch"]) fun _ _ _ _ _ _ us hl => match us, hl with | [_, _], _ => rfl) runF_len
  have o_d_law_whole := fun (cl : Tb) (C0 : ClsT K mg cl 0 "Lot" ["pins", "cords"]) (h0 : (cl 0).at_ = cA0) => ok_d_law_whole (P := l.prog) (w := w) (mg := mg) (base := base) (cl := cl) F7 T C0 
  have h_d_law_whole := fun (cl : Tb) (C0 : ClsT K mg cl 0 "Lot" ["pins", "cords"]) (h0 : (cl 0).at_ = cA0) => fnc_mk (cl := cl) (o_d_law_whole cl C0 h0) (PySem.W.mg_of X G a7) k7 (F7.binds (ps := ["_law_value"]) fun _ _ _ _ _ _ us hl => match us, hl with | [_], _ => rfl) runF_len
  have o_d_law_same := fun (cl : Tb) (C0 : ClsT K mg cl 0 "Lot" ["pins", "cords"]) (h0 : (cl 0).at_ = cA0) => ok_d_law_same (P := l.prog) (w := w) (mg := mg) (base := base) (cl := cl) F8 T C0 (h_d_law_whole cl C0 h0) (fun k m hl F => fnc_mk F (PySem.W.mg_of X G a8) k8 (F8.binds (ps := ["_law_value", "_law_due"]) fun _ _ _ _ _ _ us hl => match us, hl with | [_, _], _ => rfl) hl)
  have h_d_law_same := fun (cl : Tb) (C0 : ClsT K mg cl 0 "Lot" ["pins", "cords"]) (h0 : (cl 0).at_ = cA0) => fnc_mk (cl := cl) (o_d_law_same cl C0 h0) (PySem.W.mg_of X G a8) k8 (F8.binds (ps := ["_law_value", "_law_due"]) fun _ _ _ _ _ _ us hl => match us, hl with | [_, _], _ => rfl) (fuel_len (fun _ => runF_len) _)
  have o_d_is_whole := fun (cl : Tb) (C0 : ClsT K mg cl 0 "Lot" ["pins", "cords"]) (h0 : (cl 0).at_ = cA0) => ok_d_is_whole (P := l.prog) (w := w) (mg := mg) (base := base) (cl := cl) F9 T C0 
  have h_d_is_whole := fun (cl : Tb) (C0 : ClsT K mg cl 0 "Lot" ["pins", "cords"]) (h0 : (cl 0).at_ = cA0) => fnc_mk (cl := cl) (o_d_is_whole cl C0 h0) (PySem.W.mg_of X G a9) k9 (F9.binds (ps := ["value"]) fun _ _ _ _ _ _ us hl => match us, hl with | [_], _ => rfl) runF_len
  have o_d_is_pin := fun (cl : Tb) (C0 : ClsT K mg cl 0 "Lot" ["pins", "cords"]) (h0 : (cl 0).at_ = cA0) => ok_d_is_pin (P := l.prog) (w := w) (mg := mg) (base := base) (cl := cl) F10 T C0 (h_d_is_whole cl C0 h0)
  have h_d_is_pin := fun (cl : Tb) (C0 : ClsT K mg cl 0 "Lot" ["pins", "cords"]) (h0 : (cl 0).at_ = cA0) => fnc_mk (cl := cl) (o_d_is_pin cl C0 h0) (PySem.W.mg_of X G a10) k10 (F10.binds (ps := ["pins", "value"]) fun _ _ _ _ _ _ us hl => match us, hl with | [_, _], _ => rfl) runF_len
  have o_d_check_pin := fun (cl : Tb) (C0 : ClsT K mg cl 0 "Lot" ["pins", "cords"]) (h0 : (cl 0).at_ = cA0) => ok_d_check_pin (P := l.prog) (w := w) (mg := mg) (base := base) (cl := cl) F11 T C0 (h_d_is_pin cl C0 h0)
  have h_d_check_pin := fun (cl : Tb) (C0 : ClsT K mg cl 0 "Lot" ["pins", "cords"]) (h0 : (cl 0).at_ = cA0) => fnc_mk (cl := cl) (o_d_check_pin cl C0 h0) (PySem.W.mg_of X G a11) k11 (F11.binds (ps := ["pins", "value"]) fun _ _ _ _ _ _ us hl => match us, hl with | [_, _], _ => rfl) runF_len
  have o_d_raw_ends := fun (cl : Tb) (C0 : ClsT K mg cl 0 "Lot" ["pins", "cords"]) (h0 : (cl 0).at_ = cA0) => ok_d_raw_ends (P := l.prog) (w := w) (mg := mg) (base := base) (cl := cl) F12 T C0 
  have h_d_raw_ends := fun (cl : Tb) (C0 : ClsT K mg cl 0 "Lot" ["pins", "cords"]) (h0 : (cl 0).at_ = cA0) => fnc_mk (cl := cl) (o_d_raw_ends cl C0 h0) (PySem.W.mg_of X G a12) k12 (F12.binds (ps := ["cords", "pin"]) fun _ _ _ _ _ _ us hl => match us, hl with | [_, _], _ => rfl) runF_len
  have o_d_Lot_ends := fun (cl : Tb) (C0 : ClsT K mg cl 0 "Lot" ["pins", "cords"]) (h0 : (cl 0).at_ = cA0) => ok_d_Lot_ends (P := l.prog) (w := w) (mg := mg) (base := base) (cl := cl) F13 T C0 (h_d_check_pin cl C0 h0) (h_d_raw_ends cl C0 h0)
  have M_d_Lot_ends : ∀ (cl : Tb) (C0 : ClsT K mg cl 0 "Lot" ["pins", "cords"]) (h0 : (cl 0).at_ = cA0), MthC l.prog w K mg base cl 0 "ends" 4 2 d_Lot_ends [] := fun (cl : Tb) (C0 : ClsT K mg cl 0 "Lot" ["pins", "cords"]) (h0 : (cl 0).at_ = cA0) => by
    subst h0
    exact mthC_mk (o_d_Lot_ends cl C0 rfl) C0.cls a13 i13 k13 (by rw [C0.fse]; decide +kernel) (F13.binds (ps := ["self", "pin"]) fun _ _ _ _ _ _ us hl => match us, hl with | [_, _], _ => rfl) runF_len
  have o_d_Lot_total := fun (cl : Tb) (C0 : ClsT K mg cl 0 "Lot" ["pins", "cords"]) (h0 : (cl 0).at_ = cA0) => ok_d_Lot_total (P := l.prog) (w := w) (mg := mg) (base := base) (cl := cl) F14 T C0 
  have M_d_Lot_total : ∀ (cl : Tb) (C0 : ClsT K mg cl 0 "Lot" ["pins", "cords"]) (h0 : (cl 0).at_ = cA0), MthC l.prog w K mg base cl 0 "total" 1 1 d_Lot_total [] := fun (cl : Tb) (C0 : ClsT K mg cl 0 "Lot" ["pins", "cords"]) (h0 : (cl 0).at_ = cA0) => by
    subst h0
    exact mthC_mk (o_d_Lot_total cl C0 rfl) C0.cls a14 i14 k14 (by rw [C0.fse]; decide +kernel) (F14.binds (ps := ["self"]) fun _ _ _ _ _ _ us hl => match us, hl with | [_], _ => rfl) runF_len
  have o_d_Lot___len__ := fun (cl : Tb) (C0 : ClsT K mg cl 0 "Lot" ["pins", "cords"]) (h0 : (cl 0).at_ = cA0) => ok_d_Lot___len__ (P := l.prog) (w := w) (mg := mg) (base := base) (cl := cl) F15 T C0 
  have O_d_Lot___len__ : ∀ (cl : Tb) (C0 : ClsT K mg cl 0 "Lot" ["pins", "cords"]) (h0 : (cl 0).at_ = cA0), OpC l.prog w K mg base cl 0 "__len__" 1 1 d_Lot___len__ := fun (cl : Tb) (C0 : ClsT K mg cl 0 "Lot" ["pins", "cords"]) (h0 : (cl 0).at_ = cA0) => by
    subst h0
    exact opC_mk (o_d_Lot___len__ cl C0 rfl) a15 i15 (F15.binds (ps := ["self"]) fun _ _ _ _ _ _ us hl => match us, hl with | [_], _ => rfl)
  have o_d_law_counts := fun (cl : Tb) (C0 : ClsT K mg cl 0 "Lot" ["pins", "cords"]) (h0 : (cl 0).at_ = cA0) => ok_d_law_counts (P := l.prog) (w := w) (mg := mg) (base := base) (cl := cl) F16 T C0 (h_d_law_same cl C0 h0) (M_d_Lot_ends cl C0 h0) (M_d_Lot_total cl C0 h0) (O_d_Lot___len__ cl C0 h0)
  have h_d_law_counts := fun (cl : Tb) (C0 : ClsT K mg cl 0 "Lot" ["pins", "cords"]) (h0 : (cl 0).at_ = cA0) => fnc_mk (cl := cl) (o_d_law_counts cl C0 h0) (PySem.W.mg_of X G a16) k16 (F16.binds (ps := ["_law_lot_here", "_law_pins_here", "_law_bunch"]) fun _ _ _ _ _ _ us hl => match us, hl with | [_, _, _], _ => rfl) runF_len
  have o_d_law_moved_table := fun (cl : Tb) (C0 : ClsT K mg cl 0 "Lot" ["pins", "cords"]) (h0 : (cl 0).at_ = cA0) => ok_d_law_moved_table (P := l.prog) (w := w) (mg := mg) (base := base) (cl := cl) F17 T C0 (h_d_law_same cl C0 h0)
  have h_d_law_moved_table := fun (cl : Tb) (C0 : ClsT K mg cl 0 "Lot" ["pins", "cords"]) (h0 : (cl 0).at_ = cA0) => fnc_mk (cl := cl) (o_d_law_moved_table cl C0 h0) (PySem.W.mg_of X G a17) k17 (F17.binds (ps := ["_law_told", "_law_table_here", "_law_places"]) fun _ _ _ _ _ _ us hl => match us, hl with | [_, _, _], _ => rfl) runF_len
  have o_d_law_turned := fun (cl : Tb) (C0 : ClsT K mg cl 0 "Lot" ["pins", "cords"]) (h0 : (cl 0).at_ = cA0) => ok_d_law_turned (P := l.prog) (w := w) (mg := mg) (base := base) (cl := cl) F18 T C0 (h_d_law_norm cl C0 h0)
  have h_d_law_turned := fun (cl : Tb) (C0 : ClsT K mg cl 0 "Lot" ["pins", "cords"]) (h0 : (cl 0).at_ = cA0) => fnc_mk (cl := cl) (o_d_law_turned cl C0 h0) (PySem.W.mg_of X G a18) k18 (F18.binds (ps := ["_law_pins_here", "_law_bunch", "_law_by"]) fun _ _ _ _ _ _ us hl => match us, hl with | [_, _, _], _ => rfl) runF_len
  have o_d_law_lot_is := fun (cl : Tb) (C0 : ClsT K mg cl 0 "Lot" ["pins", "cords"]) (h0 : (cl 0).at_ = cA0) => ok_d_law_lot_is (P := l.prog) (w := w) (mg := mg) (base := base) (cl := cl) F19 T C0 (h_d_law_same cl C0 h0)
  have h_d_law_lot_is := fun (cl : Tb) (C0 : ClsT K mg cl 0 "Lot" ["pins", "cords"]) (h0 : (cl 0).at_ = cA0) => fnc_mk (cl := cl) (o_d_law_lot_is cl C0 h0) (PySem.W.mg_of X G a19) k19 (F19.binds (ps := ["_law_lot_here", "_law_pins_here", "_law_bunch"]) fun _ _ _ _ _ _ us hl => match us, hl with | [_, _, _], _ => rfl) runF_len
  have o_d_law_mirrored := fun (cl : Tb) (C0 : ClsT K mg cl 0 "Lot" ["pins", "cords"]) (h0 : (cl 0).at_ = cA0) => ok_d_law_mirrored (P := l.prog) (w := w) (mg := mg) (base := base) (cl := cl) F20 T C0 (h_d_law_norm cl C0 h0)
  have h_d_law_mirrored := fun (cl : Tb) (C0 : ClsT K mg cl 0 "Lot" ["pins", "cords"]) (h0 : (cl 0).at_ = cA0) => fnc_mk (cl := cl) (o_d_law_mirrored cl C0 h0) (PySem.W.mg_of X G a20) k20 (F20.binds (ps := ["_law_pins_here", "_law_bunch"]) fun _ _ _ _ _ _ us hl => match us, hl with | [_, _], _ => rfl) runF_len
  have o_d_is_entry := fun (cl : Tb) (C0 : ClsT K mg cl 0 "Lot" ["pins", "cords"]) (h0 : (cl 0).at_ = cA0) => ok_d_is_entry (P := l.prog) (w := w) (mg := mg) (base := base) (cl := cl) F21 T C0 (h_d_is_pin cl C0 h0) (h_d_is_whole cl C0 h0)
  have h_d_is_entry := fun (cl : Tb) (C0 : ClsT K mg cl 0 "Lot" ["pins", "cords"]) (h0 : (cl 0).at_ = cA0) => fnc_mk (cl := cl) (o_d_is_entry cl C0 h0) (PySem.W.mg_of X G a21) k21 (F21.binds (ps := ["pins", "entry"]) fun _ _ _ _ _ _ us hl => match us, hl with | [_, _], _ => rfl) runF_len
  have o_d_combined := fun (cl : Tb) (C0 : ClsT K mg cl 0 "Lot" ["pins", "cords"]) (h0 : (cl 0).at_ = cA0) => ok_d_combined (P := l.prog) (w := w) (mg := mg) (base := base) (cl := cl) F22 T C0 
  have h_d_combined := fun (cl : Tb) (C0 : ClsT K mg cl 0 "Lot" ["pins", "cords"]) (h0 : (cl 0).at_ = cA0) => fnc_mk (cl := cl) (o_d_combined cl C0 h0) (PySem.W.mg_of X G a22) k22 (F22.binds (ps := ["triples"]) fun _ _ _ _ _ _ us hl => match us, hl with | [_], _ => rfl) runF_len
  have o_d_Lot___init__ := fun (cl : Tb) (C0 : ClsT K mg cl 0 "Lot" ["pins", "cords"]) (h0 : (cl 0).at_ = cA0) => ok_d_Lot___init__ (P := l.prog) (w := w) (mg := mg) (base := base) (cl := cl) F23 T C0 (fun cl' (D0 : ClsT K mg cl' 0 "Lot" ["pins", "cords"]) => h_d_is_whole cl' D0 (ref_inj (D0.mgC.symm.trans (PySem.W.mg_of X G aC0)))) (fun cl' (D0 : ClsT K mg cl' 0 "Lot" ["pins", "cords"]) => h_d_is_entry cl' D0 (ref_inj (D0.mgC.symm.trans (PySem.W.mg_of X G aC0)))) (fun cl' (D0 : ClsT K mg cl' 0 "Lot" ["pins", "cords"]) => h_d_combined cl' D0 (ref_inj (D0.mgC.symm.trans (PySem.W.mg_of X G aC0))))
  obtain ⟨ds_23, r_23, bi_23⟩ := F23.binds1 (ps := ["self", "pins", "cords"]) 3 1 (List.cons_ne_nil _ _) rfl fun _ _ _ _ _ _ _ us its h1 h2 => match us, its, h1, h2 with | [_, _, _], [_], _, _ => ⟨_, rfl, rfl⟩
  cases r_23
  have M_d_Lot___init__ : ∀ (cl : Tb) (C0 : ClsT K mg cl 0 "Lot" ["pins", "cords"]) (h0 : (cl 0).at_ = cA0), MakC l.prog w K mg base cl 0 "Lot" 4 2 d_Lot___init__ [] := fun (cl : Tb) (C0 : ClsT K mg cl 0 "Lot" ["pins", "cords"]) (h0 : (cl 0).at_ = cA0) => by
    subst h0
    exact makC_mk (o_d_Lot___init__ cl C0 rfl) C0.mgC mk0 a23 i23 kc0 bi_23 runI_len
  have o_d_gaps := fun (cl : Tb) (C0 : ClsT K mg cl 0 "Lot" ["pins", "cords"]) (h0 : (cl 0).at_ = cA0) => ok_d_gaps (P := l.prog) (w := w) (mg := mg) (base := base) (cl := cl) F24 T C0 
  have h_d_gaps := fun (cl : Tb) (C0 : ClsT K mg cl 0 "Lot" ["pins", "cords"]) (h0 : (cl 0).at_ = cA0) => fnc_mk (cl := cl) (o_d_gaps cl C0 h0) (PySem.W.mg_of X G a24) k24 (F24.binds (ps := ["pins"]) fun _ _ _ _ _ _ us hl => match us, hl with | [_], _ => rfl) runF_len
  have o_d_raw_passing := fun (cl : Tb) (C0 : ClsT K mg cl 0 "Lot" ["pins", "cords"]) (h0 : (cl 0).at_ = cA0) => ok_d_raw_passing (P := l.prog) (w := w) (mg := mg) (base := base) (cl := cl) F25 T C0 
  have h_d_raw_passing := fun (cl : Tb) (C0 : ClsT K mg cl 0 "Lot" ["pins", "cords"]) (h0 : (cl 0).at_ = cA0) => fnc_mk (cl := cl) (o_d_raw_passing cl C0 h0) (PySem.W.mg_of X G a25) k25 (F25.binds (ps := ["cords", "i", "j"]) fun _ _ _ _ _ _ us hl => match us, hl with | [_, _, _], _ => rfl) runF_len
  have o_d_raw_table := fun (cl : Tb) (C0 : ClsT K mg cl 0 "Lot" ["pins", "cords"]) (h0 : (cl 0).at_ = cA0) => ok_d_raw_table (P := l.prog) (w := w) (mg := mg) (base := base) (cl := cl) F26 T C0 (h_d_gaps cl C0 h0) (h_d_raw_passing cl C0 h0)
  have h_d_raw_table := fun (cl : Tb) (C0 : ClsT K mg cl 0 "Lot" ["pins", "cords"]) (h0 : (cl 0).at_ = cA0) => fnc_mk (cl := cl) (o_d_raw_table cl C0 h0) (PySem.W.mg_of X G a26) k26 (F26.binds (ps := ["pins", "cords"]) fun _ _ _ _ _ _ us hl => match us, hl with | [_, _], _ => rfl) runF_len
  have o_d_Lot_table := fun (cl : Tb) (C0 : ClsT K mg cl 0 "Lot" ["pins", "cords"]) (h0 : (cl 0).at_ = cA0) => ok_d_Lot_table (P := l.prog) (w := w) (mg := mg) (base := base) (cl := cl) F27 T C0 (h_d_raw_table cl C0 h0)
  have P_d_Lot_table : ∀ (cl : Tb) (C0 : ClsT K mg cl 0 "Lot" ["pins", "cords"]) (h0 : (cl 0).at_ = cA0), PrpC l.prog w K mg base cl 0 "table" 3 d_Lot_table := fun (cl : Tb) (C0 : ClsT K mg cl 0 "Lot" ["pins", "cords"]) (h0 : (cl 0).at_ = cA0) => by
    subst h0
    exact prpC_mk (o_d_Lot_table cl C0 rfl) C0.cls a27 g27 u27 r27 (F27.binds (ps := ["self"]) fun _ _ _ _ _ _ us hl => match us, hl with | [_], _ => rfl)
  have o_d_raw_turned := fun (cl : Tb) (C0 : ClsT K mg cl 0 "Lot" ["pins", "cords"]) (h0 : (cl 0).at_ = cA0) => ok_d_raw_turned (P := l.prog) (w := w) (mg := mg) (base := base) (cl := cl) F28 T C0 (h_d_combined cl C0 h0)
  have h_d_raw_turned := fun (cl : Tb) (C0 : ClsT K mg cl 0 "Lot" ["pins", "cords"]) (h0 : (cl 0).at_ = cA0) => fnc_mk (cl := cl) (o_d_raw_turned cl C0 h0) (PySem.W.mg_of X G a28) k28 (F28.binds (ps := ["pins", "cords", "steps"]) fun _ _ _ _ _ _ us hl => match us, hl with | [_, _, _], _ => rfl) runF_len
  have o_d_Lot_turned := fun (cl : Tb) (C0 : ClsT K mg cl 0 "Lot" ["pins", "cords"]) (h0 : (cl 0).at_ = cA0) => ok_d_Lot_turned (P := l.prog) (w := w) (mg := mg) (base := base) (cl := cl) F29 T C0 (h_d_raw_turned cl C0 h0) (M_d_Lot___init__ cl C0 h0)
  have M_d_Lot_turned : ∀ (cl : Tb) (C0 : ClsT K mg cl 0 "Lot" ["pins", "cords"]) (h0 : (cl 0).at_ = cA0), MthC l.prog w K mg base cl 0 "turned" 6 2 d_Lot_turned [] := fun (cl : Tb) (C0 : ClsT K mg cl 0 "Lot" ["pins", "cords"]) (h0 : (cl 0).at_ = cA0) => by
    subst h0
    exact mthC_mk (o_d_Lot_turned cl C0 rfl) C0.cls a29 i29 k29 (by rw [C0.fse]; decide +kernel) (F29.binds (ps := ["self", "steps"]) fun _ _ _ _ _ _ us hl => match us, hl with | [_, _], _ => rfl) runF_len
  have K_d_Lot_turned : ∀ (cl : Tb) (C0 : ClsT K mg cl 0 "Lot" ["pins", "cords"]) (h0 : (cl 0).at_ = cA0), MthK l.prog w K mg base cl 0 "turned" 6 2 d_Lot_turned ["steps"] := fun (cl : Tb) (C0 : ClsT K mg cl 0 "Lot" ["pins", "cords"]) (h0 : (cl 0).at_ = cA0) => by
    subst h0
    exact mthK_mk (o_d_Lot_turned cl C0 rfl) C0.cls a29 i29 k29 (by rw [C0.fse]; decide +kernel) rfl (fun us ws h1 h2 => match us, ws, h1, h2 with | [_], [_], _, _ => rfl) runF_len
  have o_d_raw_mirrored := fun (cl : Tb) (C0 : ClsT K mg cl 0 "Lot" ["pins", "cords"]) (h0 : (cl 0).at_ = cA0) => ok_d_raw_mirrored (P := l.prog) (w := w) (mg := mg) (base := base) (cl := cl) F30 T C0 (h_d_combined cl C0 h0)
  have h_d_raw_mirrored := fun (cl : Tb) (C0 : ClsT K mg cl 0 "Lot" ["pins", "cords"]) (h0 : (cl 0).at_ = cA0) => fnc_mk (cl := cl) (o_d_raw_mirrored cl C0 h0) (PySem.W.mg_of X G a30) k30 (F30.binds (ps := ["pins", "cords"]) fun _ _ _ _ _ _ us hl => match us, hl with | [_, _], _ => rfl) runF_len
  have o_d_Lot_mirrored := fun (cl : Tb) (C0 : ClsT K mg cl 0 "Lot" ["pins", "cords"]) (h0 : (cl 0).at_ = cA0) => ok_d_Lot_mirrored (P := l.prog) (w := w) (mg := mg) (base := base) (cl := cl) F31 T C0 (h_d_raw_mirrored cl C0 h0) (M_d_Lot___init__ cl C0 h0)
  have M_d_Lot_mirrored : ∀ (cl : Tb) (C0 : ClsT K mg cl 0 "Lot" ["pins", "cords"]) (h0 : (cl 0).at_ = cA0), MthC l.prog w K mg base cl 0 "mirrored" 6 1 d_Lot_mirrored [] := fun (cl : Tb) (C0 : ClsT K mg cl 0 "Lot" ["pins", "cords"]) (h0 : (cl 0).at_ = cA0) => by
    subst h0
    exact mthC_mk (o_d_Lot_mirrored cl C0 rfl) C0.cls a31 i31 k31 (by rw [C0.fse]; decide +kernel) (F31.binds (ps := ["self"]) fun _ _ _ _ _ _ us hl => match us, hl with | [_], _ => rfl) runF_len
  exact fn_top (ok_d_law (cl := cl0) F32 T T0 (h_d_law_pins cl0 T0 rfl) (h_d_law_cell cl0 T0 rfl) (h_d_law_lot cl0 T0 rfl) (h_d_law_steps cl0 T0 rfl) (h_d_law_table cl0 T0 rfl) (h_d_law_counts cl0 T0 rfl) (h_d_law_moved_table cl0 T0 rfl) (h_d_law_turned cl0 T0 rfl) (h_d_law_lot_is cl0 T0 rfl) (h_d_law_mirrored cl0 T0 rfl) (M_d_Lot___init__ cl0 T0 rfl) (P_d_Lot_table cl0 T0 rfl) (M_d_Lot_turned cl0 T0 rfl) (M_d_Lot_mirrored cl0 T0 rfl) (K_d_Lot_turned cl0 T0 rfl))
theorem walk {l : PySem.W.OpenLaw} {q : Program} {loose : List Str} {XP : (Str → Option Value) → Heap → Prop} {YP : World → Heap → Prop} {d : DefRec} {K : Params → PySem.W.Frag} (hn : l.most = some 63) (hdf : d.params.defaults = [])
    (hY : ∀ (w : World) (h : Heap), YP w h → (K w.params).In h)
    (F : ∀ (w : World) (mg : Str → Option Value) (fa : Addr) (h : Heap), (K w.params).In h → h.Ns mainGlobals mg → mg d.name = some (.ref fa) →
      ∃ fd : FuncData, (∀ (s : Shared) (u : Value), BindsTo s fd ⟨[u], []⟩ [("_law_script", u)]) ∧ ∀ base : Heap, (K w.params).In base → base.Ns mainGlobals mg → FnOk l.prog w (K w.params) mg base (L2.CX l.prog w) 8 fa fd ["_law_script"] (spTop (K w.params) d_law)) :
    PySem.W.WalkO q loose XP YP l.row.toRowW d [] (fun f vs => PySem.call f vs) :=
  walk_top (m := fun _ => d_law) hn hdf ⟨rfl, by decide, by decide⟩ hY F fun _ ns h => Math.law_runs ns h
end Prg
open PySem PySem.W PyProof.Rows
set_option maxRecDepth 100000 in
set_option maxHeartbeats 0 in
theorem PySem.Challenge.cw_rimcords_k03_lots_turned_holds : PySem.Challenge.rw_rimcords_k03_lots_turned.Holds := by
  w_on; o_law; k_head; (case hw => w_witness2)
  k_fill
  refine Prg.walk (l := PySem.Challenge.rw_rimcords_k03_lots_turned) rfl rfl (fun w h Y => PySem.W.kIn_of Y) ?F
  case F =>
    intro w mg fa h KX G hmg
    refine' Prg.all_mk KX G hmg ?aC0 ?pg0 ?hd0 ?po0 ?sa0 ?mk0 ?kc0 ?sf0 ?ia0 ?ib ?ic ?im0 ?n0_0 ?n0_1 ?a0 ?l0 ?c0 ?k0 ?a1 ?l1 ?c1 ?k1 ?a2 ?l2 ?c2 ?k2 ?a3 ?l3 ?c3 ?k3 ?a4 ?l4 ?c4 ?k4 ?a5 ?l5 ?c5 ?k5 ?a6 ?l6 ?c6 ?k6 ?a7 ?l7 ?c7 ?k7 ?a8 ?l8 ?c8 ?k8 ?a9 ?l9 ?c9 ?k9 ?a10 ?l10 ?c10 ?k10 ?a11 ?l11 ?c11 ?k11 ?a12 ?l12 ?c12 ?k12 ?a13 ?i13 ?l13 ?c13 ?k13 ?a14 ?i14 ?l14 ?c14 ?k14 ?a15 ?i15 ?l15 ?c15 ?k15 ?a16 ?l16 ?c16 ?k16 ?a17 ?l17 ?c17 ?k17 ?a18 ?l18 ?c18 ?k18 ?a19 ?l19 ?c19 ?k19 ?a20 ?l20 ?c20 ?k20 ?a21 ?l21 ?c21 ?k21 ?a22 ?l22 ?c22 ?k22 ?a23 ?i23 ?l23 ?t23l ?c23 ?k23 ?a24 ?l24 ?c24 ?k24 ?a25 ?l25 ?c25 ?k25 ?a26 ?l26 ?c26 ?k26 ?a27 ?g27 ?u27 ?r27 ?l27 ?c27 ?k27 ?a28 ?l28 ?c28 ?k28 ?a29 ?i29 ?l29 ?c29 ?k29 ?a30 ?l30 ?c30 ?k30 ?a31 ?i31 ?l31 ?c31 ?k31 ?a32 ?l32 ?c32 ?k32 ?z_bool ?z_int ?z_isinstance ?z_len ?z_list ?z_max ?z_min ?z_range ?z_sorted ?z_str ?z_sum ?z_tuple
    (case aC0 => k_is)
    (case pg0 => k_is)
    (case hd0 => k_is)
    (case po0 => k_is)
    (case sa0 => k_is)
    (case mk0 => k_is)
    (case kc0 => k_is)
    (case sf0 => k_is)
    (case ia0 => k_is)
    (case ib => k_is)
    (case ic => k_is)
    (case im0 => k_is)
    (case n0_0 => k_is)
    (case n0_1 => k_is)
    (case a0 => k_is)
    (case l0 => k_is)
    (case c0 => k_is)
    (case k0 => k_is)
    (case a1 => k_is)
    (case l1 => k_is)
    (case c1 => k_is)
    (case k1 => k_is)
    (case a2 => k_is)
    (case l2 => k_is)
    (case c2 => k_is)
    (case k2 => k_is)
    (case a3 => k_is)
    (case l3 => k_is)
    (case c3 => k_is)
    (case k3 => k_is)
    (case a4 => k_is)
    (case l4 => k_is)
    (case c4 => k_is)
    (case k4 => k_is)
    (case a5 => k_is)
    (case l5 => k_is)
    (case c5 => k_is)
    (case k5 => k_is)
    (case a6 => k_is)
    (case l6 => k_is)
    (case c6 => k_is)
    (case k6 => k_is)
    (case a7 => k_is)
    (case l7 => k_is)
    (case c7 => k_is)
    (case k7 => k_is)
    (case a8 => k_is)
    (case l8 => k_is)
    (case c8 => k_is)
    (case k8 => k_is)
    (case a9 => k_is)
    (case l9 => k_is)
    (case c9 => k_is)
    (case k9 => k_is)
    (case a10 => k_is)
    (case l10 => k_is)
    (case c10 => k_is)
    (case k10 => k_is)
    (case a11 => k_is)
    (case l11 => k_is)
    (case c11 => k_is)
    (case k11 => k_is)
    (case a12 => k_is)
    (case l12 => k_is)
    (case c12 => k_is)
    (case k12 => k_is)
    (case a13 => k_is)
    (case i13 => k_is)
    (case l13 => k_is)
    (case c13 => k_is)
    (case k13 => k_is)
    (case a14 => k_is)
    (case i14 => k_is)
    (case l14 => k_is)
    (case c14 => k_is)
    (case k14 => k_is)
    (case a15 => k_is)
    (case i15 => k_is)
    (case l15 => k_is)
    (case c15 => k_is)
    (case k15 => k_is)
    (case a16 => k_is)
    (case l16 => k_is)
    (case c16 => k_is)
    (case k16 => k_is)
    (case a17 => k_is)
    (case l17 => k_is)
    (case c17 => k_is)
    (case k17 => k_is)
    (case a18 => k_is)
    (case l18 => k_is)
    (case c18 => k_is)
    (case k18 => k_is)
    (case a19 => k_is)
    (case l19 => k_is)
    (case c19 => k_is)
    (case k19 => k_is)
    (case a20 => k_is)
    (case l20 => k_is)
    (case c20 => k_is)
    (case k20 => k_is)
    (case a21 => k_is)
    (case l21 => k_is)
    (case c21 => k_is)
    (case k21 => k_is)
    (case a22 => k_is)
    (case l22 => k_is)
    (case c22 => k_is)
    (case k22 => k_is)
    (case a23 => k_is)
    (case i23 => k_is)
    (case l23 => k_is)
    (case t23l => k_is)
    (case c23 => k_is)
    (case k23 => k_is)
    (case a24 => k_is)
    (case l24 => k_is)
    (case c24 => k_is)
    (case k24 => k_is)
    (case a25 => k_is)
    (case l25 => k_is)
    (case c25 => k_is)
    (case k25 => k_is)
    (case a26 => k_is)
    (case l26 => k_is)
    (case c26 => k_is)
    (case k26 => k_is)
    (case a27 => k_is)
    (case g27 => k_is)
    (case u27 => k_is)
    (case r27 => k_is)
    (case l27 => k_is)
    (case c27 => k_is)
    (case k27 => k_is)
    (case a28 => k_is)
    (case l28 => k_is)
    (case c28 => k_is)
    (case k28 => k_is)
    (case a29 => k_is)
    (case i29 => k_is)
    (case l29 => k_is)
    (case c29 => k_is)
    (case k29 => k_is)
    (case a30 => k_is)
    (case l30 => k_is)
    (case c30 => k_is)
    (case k30 => k_is)
    (case a31 => k_is)
    (case i31 => k_is)
    (case l31 => k_is)
    (case c31 => k_is)
    (case k31 => k_is)
    (case a32 => k_is)
    (case l32 => k_is)
    (case c32 => k_is)
    (case k32 => k_is)
    (case z_bool => k_is)
    (case z_int => k_is)
    (case z_isinstance => k_is)
    (case z_len => k_is)
    (case z_list => k_is)
    (case z_max => k_is)
    (case z_min => k_is)
    (case z_range => k_is)
    (case z_sorted => k_is)
    (case z_str => k_is)
    (case z_sum => k_is)
    (case z_tuple => k_is)
